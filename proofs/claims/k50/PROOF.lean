import PyProof.Rows.All
import Wide.All
import OpenK.AllK
import Wide.FinOn
import HandS.ForMost
import HandS.Exc
import HandS.ExcOwn
import HandS.WordsExc
import HandS.TryOnly
import HandS.IsInst
import HandS.ExcIs
import HandS.TupAny
import HandS.Rev
import HandS.Wide
import HandS.WideBits
import HandS.Flow
import HandS.CallSlots
import HandS.EndBits
import HandS.TupLe
import PySem.Challenge.RW_stepdown_k50_tag_machines
set_option Elab.async false
set_option linter.all false
set_option maxRecDepth 100000
/-! Fw1: data, the small heap, the IR, its weakest preconditions. -/
namespace Z
open PySem (Str Addr sizeLine PyData)
open L2 (Key)

/-- a value; tuples are whole; fl: a list that nobody changes any more (the script) -/
inductive D where
  | non | bl (b : Bool) | int (i : Int) | str (x : Str) | ref (a : Addr) | tup (xs : List D) | fl (xs : List D)
instance : Inhabited D := ⟨.non⟩
/-- an object that may change -/
inductive DO where
  | lst (xs : List D) | dK (kvs : List (Key × D)) | dT (kvs : List (List Key × D)) | ins (c : String) (fs : List (String × D))
abbrev DH := Addr → Option DO
def dput (h : DH) (a : Addr) (o : DO) : DH := fun b => if b = a then some o else h b
theorem dput_same {h : DH} {a : Addr} {o : DO} : dput h a o a = some o := if_pos rfl
theorem dput_ne {h : DH} {a b : Addr} {o : DO} (n : b ≠ a) : dput h a o b = h b := if_neg n
abbrev DK := D → DH → Prop
/-- an exception: its class, its attributes, the heap -/
abbrev DX := String → List (String × D) → DH → Prop
abbrev DS := List (Option D)

/-- a list that may be changed, at a -/
def lsK (h : DH) (a : Addr) (k : List D → Prop) : Prop := match h a with
  | some (.lst xs) => k xs
  | _ => False
theorem lsK_of {h : DH} {a : Addr} {xs : List D} (e : h a = some (.lst xs)) (k : List D → Prop) : lsK h a k = k xs := by unfold lsK; rw [e]
/-- a list or a tuple, read -/
def sqK (h : DH) (d : D) (k : List D → Prop) : Prop := match d with
  | .tup xs => k xs
  | .fl xs => k xs
  | .ref a => lsK h a k
  | _ => False

inductive Op where
  | add | sub | mul | fdiv | mod | pow | shl | band | neg
  | eq | ne | lt | le | gt | ge | isN | notN | inn | nin
  | notv | tup | lst | dK | dT
  | idx | slc (lo hi : Bool) | rev | ev2 | att (f : String)
  | len | abs | int | str | bool | list | tuple | all | any | sum | max | min | max2 | min2 | sorted
  | isi (t : String) | isB | notB | isO (c : String)
  deriving DecidableEq

/-! ### operations on values -/
def sIx (n d : Nat) : Option Int → Nat
  | none => d
  | some i => if i < 0 then (i + n).toNat else Nat.min i.toNat n
def cut (xs : List D) (lo hi : Option Int) : List D := (xs.drop (sIx xs.length 0 lo)).take (sIx xs.length xs.length hi - sIx xs.length 0 lo)

mutual
/-- data without an object that may change -/
def pureD : D → Bool
  | .ref _ => false
  | .tup xs => pureL xs
  | .fl xs => pureL xs
  | _ => true
def pureL : List D → Bool
  | [] => true
  | x :: xs => pureD x && pureL xs
end
mutual
def pyD : D → PyData
  | .non => .none
  | .bl b => .bool b
  | .int i => .int i
  | .str x => .str x
  | .ref _ => .none
  | .tup xs => .tuple (pyL xs)
  | .fl xs => .list (pyL xs)
def pyL : List D → List PyData
  | [] => []
  | x :: xs => pyD x :: pyL xs
end
mutual
/-- x is the data p -/
inductive PyOf (h : DH) : D → PyData → Prop
  | non : PyOf h .non .none
  | bl (b : Bool) : PyOf h (.bl b) (.bool b)
  | int (i : Int) : PyOf h (.int i) (.int i)
  | str (x : Str) : PyOf h (.str x) (.str x)
  | tup {xs : List D} {ps : List PyData} : PyOfL h xs ps → PyOf h (.tup xs) (.tuple ps)
  | fl {xs : List D} {ps : List PyData} : PyOfL h xs ps → PyOf h (.fl xs) (.list ps)
  | ref {a : Addr} {xs : List D} {ps : List PyData} : h a = some (.lst xs) → PyOfL h xs ps → PyOf h (.ref a) (.list ps)
inductive PyOfL (h : DH) : List D → List PyData → Prop
  | nil : PyOfL h [] []
  | cons {x : D} {xs : List D} {p : PyData} {ps : List PyData} : PyOf h x p → PyOfL h xs ps → PyOfL h (x :: xs) (p :: ps)
end
mutual
theorem PyOf.pure (h : DH) : ∀ x : D, pureD x = true → PyOf h x (pyD x)
  | .non, _ => .non
  | .bl b, _ => .bl b
  | .int i, _ => .int i
  | .str x, _ => .str x
  | .ref _, e => by simp [pureD] at e
  | .tup xs, e => .tup (PyOfL.pure h xs (by simpa [pureD] using e))
  | .fl xs, e => .fl (PyOfL.pure h xs (by simpa [pureD] using e))
theorem PyOfL.pure (h : DH) : ∀ xs : List D, pureL xs = true → PyOfL h xs (pyL xs)
  | [], _ => .nil
  | x :: xs, e => by
    simp only [pureL, Bool.and_eq_true] at e
    exact .cons (PyOf.pure h x e.1) (PyOfL.pure h xs e.2)
end

/-- == of anything that is data -/
def eqG (x y : D) (h : DH) (k : Bool → Prop) : Prop := ∃ p q, PyOf h x p ∧ PyOf h y q ∧ PySem.SeqAt.shaped p = true ∧ PySem.SeqAt.shaped q = true ∧ k (PyData.eqv p q)
/-- == ; numbers and texts at once -/
def eqK (x y : D) (h : DH) (k : Bool → Prop) : Prop := match x, y with
  | .int i, .int j => k (decide (i = j))
  | .str i, .str j => k (decide (i = j))
  | .int _, .non => k false
  | .non, .int _ => k false
  | .non, .non => k true
  | .bl a, .bl b => k (decide (a = b))
  | .int _, .str _ => k false
  | .str _, .int _ => k false
  | .bl _, .non => k false
  | .non, .bl _ => k false
  | .str _, .non => k false
  | .non, .str _ => k false
  | .str _, .bl _ => k false
  | .bl _, .str _ => k false
  | _, _ => eqG x y h k

def mulOk (i j : Int) : Prop := L2.CMul i j ∨ L2.CMulX i j
def divOk (j : Int) : Prop := 0 < j ∧ (j < 1073741824 ∨ j.natAbs.log2 < 9000)

def new (h : DH) (o : DO) (Q : DK) : Prop := ∀ p, h p = none → Q (.ref p) (dput h p o)

def oAdd : List D → DH → DK → Prop
  | [.int i, .int j], h, Q => Q (.int (i + j)) h
  | [.tup xs, .tup ys], h, Q => xs.length + ys.length ≤ sizeLine ∧ Q (.tup (xs ++ ys)) h
  | [.str x, .str y], h, Q => x.length + y.length ≤ sizeLine ∧ Q (.str (x ++ y)) h
  | [.ref a, .ref b], h, Q => lsK h a fun xs => lsK h b fun ys => xs.length + ys.length ≤ sizeLine ∧ new h (.lst (xs ++ ys)) Q
  | _, _, _ => False
def oSub : List D → DH → DK → Prop
  | [.int i, .int j], h, Q => Q (.int (i - j)) h
  | _, _, _ => False
def oMul : List D → DH → DK → Prop
  | [.int i, .int j], h, Q => mulOk i j ∧ Q (.int (i * j)) h
  | [.ref a, .int k], h, Q => lsK h a fun xs => -(2 ^ 63) ≤ k ∧ k < 2 ^ 63 ∧ xs.length * k.toNat ≤ sizeLine ∧ new h (.lst (List.replicate k.toNat xs).flatten) Q
  | _, _, _ => False
def oFdiv : List D → DH → DK → Prop
  | [.int i, .int j], h, Q => divOk j ∧ Q (.int (i / j)) h
  | _, _, _ => False
def oMod : List D → DH → DK → Prop
  | [.int i, .int j], h, Q => 0 < j ∧ Q (.int (i % j)) h
  | _, _, _ => False
def oPow : List D → DH → DK → Prop
  | [.int i, .int j], h, Q => L2.CPow i j ∧ Q (.int (i ^ j.toNat)) h
  | _, _, _ => False
def oShl : List D → DH → DK → Prop
  | [.int i, .int j], h, Q => L2.CPow i j ∧ Q (.int (i * 2 ^ j.toNat)) h
  | _, _, _ => False
def oBand : List D → DH → DK → Prop
  | [.int i, .int j], h, Q => Q (.int (PySem.Builtin.bitAnd i j)) h
  | _, _, _ => False
def oNeg : List D → DH → DK → Prop
  | [.int i], h, Q => Q (.int (-i)) h
  | _, _, _ => False
def oEq : List D → DH → DK → Prop
  | [x, y], h, Q => eqK x y h fun b => Q (.bl b) h
  | _, _, _ => False
def oNe : List D → DH → DK → Prop
  | [x, y], h, Q => eqK x y h fun b => Q (.bl (!b)) h
  | _, _, _ => False
def oLt : List D → DH → DK → Prop
  | [.int i, .int j], h, Q => Q (.bl (decide (i < j))) h
  | _, _, _ => False
def oLe : List D → DH → DK → Prop
  | [.int i, .int j], h, Q => Q (.bl (decide (i ≤ j))) h
  | _, _, _ => False
def oGt : List D → DH → DK → Prop
  | [.int i, .int j], h, Q => Q (.bl (decide (j < i))) h
  | _, _, _ => False
def oGe : List D → DH → DK → Prop
  | [.int i, .int j], h, Q => Q (.bl (decide (j ≤ i))) h
  | _, _, _ => False
def isNon : D → Bool
  | .non => true
  | _ => false
def oIsN : List D → DH → DK → Prop
  | [x], h, Q => Q (.bl (isNon x)) h
  | _, _, _ => False
def oNotN : List D → DH → DK → Prop
  | [x], h, Q => Q (.bl (!isNon x)) h
  | _, _, _ => False

/-- a value's truth -/
def truK (h : DH) (x : D) (k : Bool → Prop) : Prop := match x with
  | .non => k false
  | .bl b => k b
  | .int i => k (decide (i ≠ 0))
  | .str s => s.length ≤ sizeLine ∧ k (decide (s.length ≠ 0))
  | .tup xs => k (!xs.isEmpty)
  | .fl xs => k (!xs.isEmpty)
  | .ref a => lsK h a fun xs => k (!xs.isEmpty)
def oNot : List D → DH → DK → Prop
  | [x], h, Q => truK h x fun b => Q (.bl (!b)) h
  | _, _, _ => False
def oIdx : List D → DH → DK → Prop
  | [.str z, .int i], h, Q => z.length ≤ sizeLine ∧ ∃ c, L2.atI z.cps.toList i = some c ∧ Q (.str ⟨#[c]⟩) h
  | [x, .int i], h, Q => sqK h x fun xs => ∃ v, L2.atI xs i = some v ∧ Q v h
  | _, _, _ => False
def oSlcR (x : D) (lo hi : Option Int) (h : DH) (Q : DK) : Prop := match x with
  | .tup xs => Q (.tup (cut xs lo hi)) h
  | .fl xs => new h (.lst (cut xs lo hi)) Q
  | .ref a => lsK h a fun xs => new h (.lst (cut xs lo hi)) Q
  | _ => False
def oSlc (lo hi : Bool) : List D → DH → DK → Prop := fun ds h Q => match lo, hi, ds with
  | false, false, [x] => oSlcR x none none h Q
  | true, false, [x, .int i] => oSlcR x (some i) none h Q
  | false, true, [x, .int i] => oSlcR x none (some i) h Q
  | _, _, _ => False
def oAtt (f : String) : List D → DH → DK → Prop
  | [.ref a], h, Q => (match h a with
    | some (.ins _ fs) => (match fs.lookup f with
      | some d => Q d h
      | none => False)
    | _ => False)
  | _, _, _ => False
def oLen : List D → DH → DK → Prop
  | [.str z], h, Q => z.length ≤ sizeLine ∧ Q (.int z.length) h
  | [x], h, Q => sqK h x fun xs => Q (.int xs.length) h
  | _, _, _ => False
def oAbs : List D → DH → DK → Prop
  | [.int i], h, Q => Q (.int (if i < 0 then -i else i)) h
  | _, _, _ => False
def oInt : List D → DH → DK → Prop
  | [.int i], h, Q => Q (.int i) h
  | [.bl b], h, Q => Q (.int (if b then 1 else 0)) h
  | _, _, _ => False
def oStr : List D → DH → DK → Prop
  | [.int i], h, Q => i.natAbs.log2 < 1920 ∧ Q (.str (toString i : String)) h
  | _, _, _ => False
def oList : List D → DH → DK → Prop
  | [x], h, Q => sqK h x fun xs => new h (.lst xs) Q
  | _, _, _ => False
def oTuple : List D → DH → DK → Prop
  | [x], h, Q => sqK h x fun xs => Q (.tup xs) h
  | _, _, _ => False
def blsOf : List D → Option (List Bool)
  | [] => some []
  | .bl b :: r => (blsOf r).map (b :: ·)
  | _ => none
def intsOf : List D → Option (List Int)
  | [] => some []
  | .int b :: r => (intsOf r).map (b :: ·)
  | _ => none
def oAll : List D → DH → DK → Prop
  | [.ref a], h, Q => lsK h a fun xs => ∃ bs : List Bool, xs = bs.map D.bl ∧ Q (.bl (bs.all id)) h
  | _, _, _ => False
def oAny : List D → DH → DK → Prop
  | [.ref a], h, Q => lsK h a fun xs => ∃ bs : List Bool, xs = bs.map D.bl ∧ Q (.bl (bs.any id)) h
  | _, _, _ => False
def oSum : List D → DH → DK → Prop
  | [.ref a], h, Q => lsK h a fun xs => ∃ ns : List Int, xs = ns.map D.int ∧ Q (.int ns.sum) h
  | _, _, _ => False
def oMax2 : List D → DH → DK → Prop
  | [.int i, .int j], h, Q => Q (.int (if j > i then j else i)) h
  | _, _, _ => False
def oMin2 : List D → DH → DK → Prop
  | [.int i, .int j], h, Q => Q (.int (if j < i then j else i)) h
  | _, _, _ => False
/-- isinstance with a built-in class -/
def isiD (t : String) (h : DH) : D → Option Bool
  | .non => some false
  | .bl _ => some (t == "bool" || t == "int")
  | .int _ => some (t == "int")
  | .str _ => some (t == "str")
  | .tup _ => some (t == "tuple")
  | .fl _ => some (t == "list")
  | .ref a => (match h a with
    | some (.lst _) => some (t == "list")
    | some (.dK _) => some (t == "dict")
    | some (.dT _) => some (t == "dict")
    | _ => none)
def oIsi (t : String) : List D → DH → DK → Prop
  | [x], h, Q => (match isiD t h x with
    | some b => Q (.bl b) h
    | none => False)
  | _, _, _ => False
def oIsB : List D → DH → DK → Prop
  | [.bl a, .bl b], h, Q => Q (.bl (decide (a = b))) h
  | _, _, _ => False
def oNotB : List D → DH → DK → Prop
  | [.bl a, .bl b], h, Q => Q (.bl (!decide (a = b))) h
  | _, _, _ => False
/-- isinstance with an own class, of an own object -/
def oIsO (c : String) : List D → DH → DK → Prop
  | [.ref a], h, Q => (match h a with
    | some (.ins d _) => Q (.bl (decide (d = c))) h
    | _ => False)
  | _, _, _ => False
def oRev : List D → DH → DK → Prop
  | [.tup xs], h, Q => Q (.tup xs.reverse) h
  | [.ref a], h, Q => lsK h a fun xs => new h (.lst xs.reverse) Q
  | _, _, _ => False
/-- methods of built-in classes -/
def oAppend : List D → DH → DK → Prop
  | [.ref a, y], h, Q => lsK h a fun xs => xs.length < sizeLine ∧ Q .non (dput h a (.lst (xs ++ [y])))
  | _, _, _ => False
def oExtend : List D → DH → DK → Prop
  | [.ref a, .tup ys], h, Q => lsK h a fun xs => xs.length + ys.length ≤ sizeLine ∧ Q .non (dput h a (.lst (xs ++ ys)))
  | [.ref a, .ref b], h, Q => lsK h a fun xs => lsK h b fun ys => xs.length + ys.length ≤ sizeLine ∧ Q .non (dput h a (.lst (xs ++ ys)))
  | _, _, _ => False
def oClear : List D → DH → DK → Prop
  | [.ref a], h, Q => lsK h a fun xs => Q .non (dput h a (.lst []))
  | _, _, _ => False
/-- what the receiver of a built-in's method must be -/
def rcv (n : String) (d : D) (h : DH) : Prop := match d with
  | .ref a => lsK h a fun _ => True
  | _ => False
def opM (n : String) (ds : List D) (h : DH) (Q : DK) : Prop :=
  if n = "append" then oAppend ds h Q else if n = "extend" then oExtend ds h Q else if n = "clear" then oClear ds h Q else False

def opS (o : Op) (ds : List D) (h : DH) (Q : DK) : Prop := match o with
  | .add => oAdd ds h Q | .sub => oSub ds h Q | .mul => oMul ds h Q | .fdiv => oFdiv ds h Q | .mod => oMod ds h Q | .pow => oPow ds h Q | .shl => oShl ds h Q | .band => oBand ds h Q | .neg => oNeg ds h Q
  | .eq => oEq ds h Q | .ne => oNe ds h Q | .lt => oLt ds h Q | .le => oLe ds h Q | .gt => oGt ds h Q | .ge => oGe ds h Q | .isN => oIsN ds h Q | .notN => oNotN ds h Q
  | .notv => oNot ds h Q
  | .tup => ds.length ≤ sizeLine ∧ Q (.tup ds) h
  | .lst => ds.length ≤ sizeLine ∧ new h (.lst ds) Q
  | .idx => oIdx ds h Q | .slc lo hi => oSlc lo hi ds h Q | .att f => oAtt f ds h Q
  | .len => oLen ds h Q | .abs => oAbs ds h Q | .int => oInt ds h Q | .str => oStr ds h Q | .list => oList ds h Q | .tuple => oTuple ds h Q
  | .all => oAll ds h Q | .any => oAny ds h Q | .sum => oSum ds h Q | .max2 => oMax2 ds h Q | .min2 => oMin2 ds h Q
  | .isi t => oIsi t ds h Q | .isB => oIsB ds h Q | .notB => oNotB ds h Q | .isO c => oIsO c ds h Q | .rev => oRev ds h Q
  | _ => False

/-! ### the IR -/
mutual
inductive Ex where
  | var (i : Nat) | con (d : D) | glo (x : String) | op (o : Op) (es : Exs) | call (f : String) (es : Exs) | bm (m : String) (o : Ex) (es : Exs) | meth (o : Ex) (m : String) (es : Exs) | mk (c : String) (es : Exs)
  | sl2 (a lo hi : Ex) | ite (t : Ts) (a b : Ex) | andV (a b : Ex) | orV (a b : Ex) | chain (o1 o2 : Op) (a b c : Ex) | lc (vs : List Nat) (it : It) (t : Ts) (e : Ex)
inductive Exs where
  | nil | cons (e : Ex) (es : Exs)
inductive Ts where
  | tt | val (e : Ex) | and (a b : Ts) | or (a b : Ts) | not (a : Ts)
inductive It where
  | val (e : Ex) | rng1 (a : Ex) | rng2 (a b : Ex) | rev (e : Ex)
end
mutual
inductive Tg where
  | name (i : Nat) | tup (ts : Tgs) | sub (o i : Ex)
inductive Tgs where
  | nil | cons (t : Tg) (ts : Tgs)
end
def Tgs.len : Tgs → Nat
  | .nil => 0
  | .cons _ r => r.len + 1
/-- what an except suite hands back: a word over isinstance -/
inductive XB where
  | isi (c : String) | bi (c : String) | not (a : XB) | and (a b : XB)
mutual
inductive Sm where
  | asg (t : Tg) (e : Ex) | fld (o : Ex) (f : String) (e : Ex) | aug (i : Nat) (o : Op) (e : Ex) | ex (e : Ex) | ret (e : Ex) | retN | pas | brk | cnt
  | ite (t : Ts) (a b : Sms) | for_ (t : Tg) (it : It) (b : Sms) | whl (t : Ts) (b : Sms) | rai (c : String) | par (i j : Nat) (es : Exs) | try_ (b : Sms) (c : String) (x : XB)
inductive Sms where
  | nil | cons (s : Sm) (r : Sms)
end

/-- the program around: the defs (class, name), constants, which error class is below which -/
structure Pr where
  fn : String → String → List D → DH → DK → DX → Prop
  gl : String → Option D
  sub : String → String → Bool
  has : String → String → Bool
  fld : String → String → Bool

/-- what a for walks: its items, and what must still stand at each turn -/
def srcK (h : DH) (d : D) (k : List D → (DH → Prop) → Prop) : Prop := match d with
  | .tup xs => k xs fun _ => True
  | .fl xs => k xs fun _ => True
  | .ref a => lsK h a fun xs => k xs fun h' => h' a = some (.lst xs)
  | _ => False
def rngD (lo : Int) (n : Nat) : List D := (List.range n).map fun (i : Nat) => D.int (lo + (i : Int))

def slot (σ : DS) (i : Nat) (k : D → Prop) : Prop := match σ[i]? with
  | some (some d) => k d
  | _ => False
theorem slot_of {σ : DS} {i : Nat} {d : D} (e : σ[i]? = some (some d)) (k : D → Prop) : slot σ i k = k d := by unfold slot; rw [e]

/-- a list comprehension's turns: acc is what is made -/
def lcK (chk : DH → Prop) (turn : D → DH → (Option D → DH → Prop) → Prop) (fin : List D → DH → Prop) : List D → List D → DH → Prop
  | [], acc, h => chk h ∧ fin acc h
  | d :: ds, acc, h => chk h ∧ turn d h fun r h' => match r with
    | some y => acc.length < sizeLine ∧ lcK chk turn fin ds (acc ++ [y]) h'
    | none => lcK chk turn fin ds acc h'

section
variable (C : Pr)
/-- a comprehension's target: one name, or a tuple of names -/
def ctK (vs : List Nat) (d : D) (σ : DS) (k : DS → Prop) : Prop := match vs with
  | [i] => k (σ.set i (some d))
  | [i, j] => (match d with
    | .tup [x, y] => k ((σ.set i (some x)).set j (some y))
    | _ => False)
  | _ => False
mutual
def wE : Ex → DS → DH → DK → DX → Prop
  | .var i, σ, h, Q, _ => slot σ i fun d => Q d h
  | .con d, _, h, Q, _ => Q d h
  | .glo x, _, h, Q, _ => (match C.gl x with
    | some d => Q d h
    | none => False)
  | .op o es, σ, h, Q, E => wEs es σ h (fun ds h' => opS o ds h' Q) E
  | .call f es, σ, h, Q, E => wEs es σ h (fun ds h' => C.fn "" f ds h' Q E) E
  | .bm m o es, σ, h, Q, E => wE o σ h (fun d h1 => rcv m d h1 ∧ wEs es σ h1 (fun ds h2 => opM m (d :: ds) h2 Q) E) E
  | .meth o m es, σ, h, Q, E => wE o σ h (fun d h1 => match d with
    | .ref a => (match h1 a with
      | some (.ins c _) => C.has c m = true ∧ wEs es σ h1 (fun ds h2 => C.fn c m (.ref a :: ds) h2 Q E) E
      | _ => False)
    | _ => False) E
  | .mk c es, σ, h, Q, E => wEs es σ h (fun ds h1 => ∀ p, h1 p = none → C.fn c "__init__" (.ref p :: ds) (dput h1 p (.ins c [])) (fun d h2 => d = .non ∧ Q (.ref p) h2) E) E
  | .sl2 a lo hi, σ, h, Q, E => wE a σ h (fun x h1 => wE lo σ h1 (fun l h2 => match l with
    | .int i => wE hi σ h2 (fun u h3 => match u with
      | .int j => oSlcR x (some i) (some j) h3 Q
      | _ => False) E
    | _ => False) E) E
  | .ite t a b, σ, h, Q, E => wT t σ h (fun k h1 => if k = true then wE a σ h1 Q E else wE b σ h1 Q E) E
  | .andV a b, σ, h, Q, E => wE a σ h (fun x h1 => truK h1 x fun k => if k = true then wE b σ h1 Q E else Q x h1) E
  | .orV a b, σ, h, Q, E => wE a σ h (fun x h1 => truK h1 x fun k => if k = true then Q x h1 else wE b σ h1 Q E) E
  | .chain o1 o2 a b c, σ, h, Q, E => wE a σ h (fun x h1 => wE b σ h1 (fun y h2 => opS o1 [x, y] h2 fun z h3 => match z with
    | .bl true => wE c σ h3 (fun u h4 => opS o2 [y, u] h4 Q) E
    | .bl false => Q (.bl false) h3
    | _ => False) E) E
  | .lc vs it t e, σ, h, Q, E => wI it σ h (fun xs chk h1 => lcK chk (fun d h2 k => ctK vs d σ fun σ2 => wT t σ2 h2 (fun b h3 => if b = true then wE e σ2 h3 (fun y h4 => k (some y) h4) (fun _ _ _ => False) else k none h3) (fun _ _ _ => False))
      (fun acc h2 => new h2 (.lst acc) Q) xs [] h1) E
def wEs : Exs → DS → DH → (List D → DH → Prop) → DX → Prop
  | .nil, _, h, Q, _ => Q [] h
  | .cons e es, σ, h, Q, E => wE e σ h (fun d h1 => wEs es σ h1 (fun ds h2 => Q (d :: ds) h2) E) E
def wT : Ts → DS → DH → (Bool → DH → Prop) → DX → Prop
  | .tt, _, h, Q, _ => Q true h
  | .val e, σ, h, Q, E => wE e σ h (fun d h1 => truK h1 d fun b => Q b h1) E
  | .and a b, σ, h, Q, E => wT a σ h (fun k h1 => if k = true then wT b σ h1 Q E else Q false h1) E
  | .or a b, σ, h, Q, E => wT a σ h (fun k h1 => if k = true then Q true h1 else wT b σ h1 Q E) E
  | .not a, σ, h, Q, E => wT a σ h (fun k h1 => Q (!k) h1) E
def wI : It → DS → DH → (List D → (DH → Prop) → DH → Prop) → DX → Prop
  | .val e, σ, h, Q, E => wE e σ h (fun d h1 => srcK h1 d fun xs chk => Q xs chk h1) E
  | .rng1 a, σ, h, Q, E => wE a σ h (fun d h1 => match d with
    | .int j => (-(2 ^ 62) ≤ j ∧ j < 2 ^ 62) ∧ Q (rngD 0 j.toNat) (fun _ => True) h1
    | _ => False) E
  | .rng2 a b, σ, h, Q, E => wE a σ h (fun d h1 => wE b σ h1 (fun e h2 => match d, e with
    | .int i, .int j => (-(2 ^ 62) ≤ i ∧ i < 2 ^ 62 ∧ -(2 ^ 62) ≤ j ∧ j < 2 ^ 62) ∧ Q (rngD i (j - i).toNat) (fun _ => True) h2
    | _, _ => False) E) E
  | .rev e, σ, h, Q, E => wE e σ h (fun d h1 => srcK h1 d fun xs chk => Q xs.reverse chk h1) E
end

/-- what is wanted behind a statement -/
structure De where
  nx : DS → DH → Prop
  rt : DK
  bk : DS → DH → Prop
  ct : DS → DH → Prop
  ex : DS → DX

def putA (f : String) (d : D) : List (String × D) → List (String × D)
  | [] => [(f, d)]
  | (g, x) :: r => if g = f then (f, d) :: r else (g, x) :: putA f d r
def attSet (C : Pr) (a : Addr) (f : String) (d : D) (h : DH) (k : DH → Prop) : Prop := match h a with
  | some (.ins c fs) => C.fld c f = true ∧ fs.length < 1000 ∧ k (dput h a (.ins c (putA f d fs)))
  | _ => False
/-- o[i] = d -/
def subSet (o i d : D) (h : DH) (k : DH → Prop) : Prop := match o, i with
  | .ref a, .int j => (match h a with
    | some (.lst xs) => ∃ n, L2.ixN xs.length j = some n ∧ k (dput h a (.lst (xs.set n d)))
    | _ => False)
  | _, _ => False
mutual
def wG : Tg → D → DS → DH → (DS → DH → Prop) → Prop
  | .name i, d, σ, h, k => k (σ.set i (some d)) h
  | .tup ts, d, σ, h, k => (match d with
    | .tup xs => xs.length = ts.len ∧ wGs ts xs σ h k
    | _ => False)
  | .sub o i, d, σ, h, k => wE C o σ h (fun od h1 => wE C i σ h1 (fun iv h2 => subSet od iv d h2 fun h3 => k σ h3) (fun _ _ _ => False)) (fun _ _ _ => False)
def wGs : Tgs → List D → DS → DH → (DS → DH → Prop) → Prop
  | .nil, ds, σ, h, k => ds = [] ∧ k σ h
  | .cons t ts, ds, σ, h, k => (match ds with
    | d :: r => wG t d σ h (fun σ1 h1 => wGs ts r σ1 h1 k)
    | [] => False)
end
/-- a for's turns -/
def forK (chk : DH → Prop) (tg : D → DS → DH → (DS → DH → Prop) → Prop) (body : De → DS → DH → Prop) (K : De) : List D → DS → DH → Prop
  | [], σ, h => chk h ∧ K.nx σ h
  | d :: ds, σ, h => chk h ∧ tg d σ h fun σ1 h1 => body { K with nx := forK chk tg body K ds, ct := forK chk tg body K ds, bk := K.nx } σ1 h1
/-- a while's turns, at most n -/
def whlK (test : DS → DH → (Bool → DH → Prop) → Prop) (body : De → DS → DH → Prop) (D : De) : Nat → DS → DH → Prop
  | 0, _, _ => False
  | n + 1, σ, h => test σ h fun b h1 => if b = true then body { D with nx := whlK test body D n, ct := whlK test body D n, bk := D.nx } σ h1 else D.nx σ h1
def xbV (c : String) : XB → Bool
  | .isi d => C.sub c d
  | .bi _ => true
  | .not a => !xbV c a
  | .and a b => xbV c a && xbV c b
def augK (o : Op) (x y : D) (h : DH) (Q : DK) : Prop := match o, x, y with
  | .add, .int i, .int j => Q (.int (i + j)) h
  | .sub, .int i, .int j => Q (.int (i - j)) h
  | _, _, _ => False
mutual
def wS : Sm → De → DS → DH → Prop
  | .asg t e, D, σ, h => wE C e σ h (fun d h1 => wG C t d σ h1 D.nx) (D.ex σ)
  | .fld o f e, D, σ, h => wE C e σ h (fun d h1 => wE C o σ h1 (fun od h2 => match od with
    | .ref a => attSet C a f d h2 fun h3 => D.nx σ h3
    | _ => False) (D.ex σ)) (D.ex σ)
  | .aug i o e, D, σ, h => slot σ i fun x => wE C e σ h (fun y h1 => augK o x y h1 fun z h2 => D.nx (σ.set i (some z)) h2) (D.ex σ)
  | .ex e, D, σ, h => wE C e σ h (fun _ h1 => D.nx σ h1) (D.ex σ)
  | .ret e, D, σ, h => wE C e σ h D.rt (D.ex σ)
  | .retN, D, _, h => D.rt .non h
  | .pas, D, σ, h => D.nx σ h
  | .brk, D, σ, h => D.bk σ h
  | .cnt, D, σ, h => D.ct σ h
  | .ite t a b, D, σ, h => wT C t σ h (fun k h1 => if k = true then wSs a D σ h1 else wSs b D σ h1) (D.ex σ)
  | .for_ t it b, D, σ, h => wI C it σ h (fun xs chk h1 => forK chk (fun d σ1 h2 k => wG C t d σ1 h2 k) (fun D1 σ1 h2 => wSs b D1 σ1 h2) D xs σ h1) (D.ex σ)
  | .whl t b, D, σ, h => ∃ n, whlK (fun σ1 h1 k => wT C t σ1 h1 k (D.ex σ1)) (fun D1 σ1 h2 => wSs b D1 σ1 h2) D n σ h
  | .rai c, D, σ, h => D.ex σ c [] h
  | .par i j es, D, σ, h => wEs C es σ h (fun ds h2 => match ds with
    | [x, y] => D.nx ((σ.set i (some x)).set j (some y)) h2
    | _ => False) (D.ex σ)
  | .try_ b c x, D, σ, h => wSs b { D with ex := fun σ1 c1 fs h1 => if C.sub c1 c = true then D.rt (.bl (xbV C c1 x)) h1 else D.ex σ1 c1 fs h1 } σ h
def wSs : Sms → De → DS → DH → Prop
  | .nil, D, σ, h => D.nx σ h
  | .cons s r, D, σ, h => wS s { D with nx := fun σ1 h1 => wSs r D σ1 h1 } σ h
end
end
end Z
set_option Elab.async false
set_option linter.all false
set_option maxRecDepth 100000
set_option maxHeartbeats 4000000
/-! Fw2: what data is in the hand layer's heap; the operations. -/
namespace Z
open PySem (Str Addr sizeLine PyData Paired Expr Stmt Value Shared)
open L2

/-- the ground: the written part, the classes' places, the own classes, their fields -/
structure Gd where
  K : PySem.W.Frag
  cl : String → Addr
  FL : List (String × String)
  CL : List String
  EL : List String
/-- what stays the same through a law -/
structure Sc where
  prog : PySem.Program
  w : PySem.World
  K : PySem.W.Frag
  mg : Str → Option Value
  base : PySem.Heap
def _root_.L2.Cx.sc (X : L2.Cx) : Sc := ⟨X.prog, X.w, X.K, X.mg, X.base⟩
def SqF (K : PySem.W.Frag) (H : Hp) (a : Addr) (xs : List V) : Prop := (∃ o, H a = some (.frz o (.lst xs))) ∨
    ∃ (o : PySem.Obj) (its : Array Value) (n : Nat), K.lookup a = some o ∧ o.cls = .type "list" ∧ o.dict = none ∧ o.data = .seq its n ∧ its.size ≤ sizeLine ∧ Vals xs its.toList
theorem SqF.l {K : PySem.W.Frag} {H : Hp} {a : Addr} {xs : List V} (h : SqF K H a xs) : SqL K H a xs := by
  rcases h with ⟨o, h⟩ | h
  · exact .inl (.inr ⟨o, h⟩)
  · exact .inr h
mutual
def Rep (G : Gd) (H : Hp) : D → V → Prop
  | .non, v => v = .non
  | .bl b, v => v = .bl b
  | .int i, v => v = .int i
  | .str x, v => v = .str x
  | .ref a, v => v = .ref a
  | .tup xs, v => ∃ a vs, v = .ref a ∧ SqT G.K H a vs ∧ RepL G H xs vs
  | .fl xs, v => ∃ a vs, v = .ref a ∧ SqF G.K H a vs ∧ RepL G H xs vs
def RepL (G : Gd) (H : Hp) : List D → List V → Prop
  | [], vs => vs = []
  | x :: xs, vs => ∃ v r, vs = v :: r ∧ Rep G H x v ∧ RepL G H xs r
end
def RepA {α β : Type} (G : Gd) (H : Hp) (F : α → β) : List (α × D) → List (β × V) → Prop
  | [], vs => vs = []
  | x :: xs, vs => ∃ v r, vs = (F x.1, v) :: r ∧ Rep G H x.2 v ∧ RepA G H F xs r
def RepO (G : Gd) (H : Hp) (a : Addr) : DO → Prop
  | .lst xs => ∃ vs, H a = some (.lst vs) ∧ RepL G H xs vs
  | .dK kvs => ∃ ws, H a = some (.dK ws) ∧ RepA G H id kvs ws
  | .dT kvs => ∃ ws, H a = some (.dT ws) ∧ RepA G H id kvs ws
  | .ins c fs => ∃ dx ws, H a = some (.ins (G.cl c) dx ws) ∧ RepA G H Str.ofString fs ws ∧ c ∈ G.CL ∧ ∀ p ∈ fs, (c, p.1) ∈ G.FL
def RepH (G : Gd) (h : DH) (H : Hp) : Prop := ∀ a o, h a = some o → RepO G H a o
def RepS (G : Gd) (H : Hp) (τ : DS) (σ : L2.St) : Prop := τ.length = σ.length ∧ ∀ (i : Nat) (d : D), τ[i]? = some (some d) → ∃ v, σ[i]? = some (some v) ∧ Rep G H d v
/-- what is not data's own stands as it stood -/
def Tr (h : DH) (H : Hp) (h' : DH) (H' : Hp) : Prop := ∀ b o, H b = some o → h b = none → H' b = some o ∧ h' b = none
theorem Tr.refl {h : DH} {H : Hp} : Tr h H h H := fun _ _ e n => ⟨e, n⟩
theorem Tr.trans {h h1 h2 : DH} {H H1 H2 : Hp} (a : Tr h H h1 H1) (b : Tr h1 H1 h2 H2) : Tr h H h2 H2 := fun c o e n => let ⟨e1, n1⟩ := a c o e n; b c o e1 n1
section
variable {G : Gd} {h h' : DH} {H H' : Hp}
/-- no data object is of this kind -/
def Stays : HO → Prop
  | .tup _ => True
  | .frz _ (.lst _) => True
  | .frz _ (.tup _) => True
  | _ => False
theorem RepH.nodata (r : RepH G h H) {a : Addr} {u : HO} (e : H a = some u) (st : Stays u) : h a = none := by
  cases q : h a with
  | none => rfl
  | some o =>
    have z := r a o q
    cases o with
    | lst xs => obtain ⟨vs, e2, _⟩ := z; rw [e] at e2; cases e2; exact st.elim
    | dK xs => obtain ⟨vs, e2, _⟩ := z; rw [e] at e2; cases e2; exact st.elim
    | dT xs => obtain ⟨vs, e2, _⟩ := z; rw [e] at e2; cases e2; exact st.elim
    | ins c fs => obtain ⟨dx, vs, e2, _⟩ := z; rw [e] at e2; cases e2; exact st.elim
/-- what is never changed stands -/
def Ke (K : PySem.W.Frag) (H H' : Hp) : Prop := (∀ a xs, SqT K H a xs → SqT K H' a xs) ∧ ∀ a xs, SqF K H a xs → SqF K H' a xs
theorem Ke.trans {K : PySem.W.Frag} {H H1 H2 : Hp} (a : Ke K H H1) (b : Ke K H1 H2) : Ke K H H2 := ⟨fun c xs q => b.1 c xs (a.1 c xs q), fun c xs q => b.2 c xs (a.2 c xs q)⟩
theorem SqT.tr (r : RepH G h H) (t : Tr h H h' H') {K : PySem.W.Frag} {a : Addr} {xs : List V} (q : SqT K H a xs) : SqT K H' a xs := by
  rcases q with (q | ⟨o, q⟩) | q
  · exact .inl (.inl (t a _ q (r.nodata q trivial)).1)
  · exact .inl (.inr ⟨o, (t a _ q (r.nodata q trivial)).1⟩)
  · exact .inr q
theorem SqF.tr (r : RepH G h H) (t : Tr h H h' H') {K : PySem.W.Frag} {a : Addr} {xs : List V} (q : SqF K H a xs) : SqF K H' a xs := by
  rcases q with ⟨o, q⟩ | q
  · exact .inl ⟨o, (t a _ q (r.nodata q trivial)).1⟩
  · exact .inr q
theorem Tr.ke (r : RepH G h H) (t : Tr h H h' H') {K : PySem.W.Frag} : Ke K H H' := ⟨fun _ _ q => SqT.tr r t q, fun _ _ q => SqF.tr r t q⟩
/-- an object that may change is changed -/
theorem Ke.upd {K : PySem.W.Frag} {H : Hp} {D : Addr} {u o : HO} (e : H D = some u) (n : ¬ Stays u) : Ke K H (upd H D o) := by
  have ne : ∀ a w, H a = some w → Stays w → a ≠ D := fun a w q s z => by subst z; rw [q] at e; cases e; exact n s
  refine ⟨fun a xs q => ?_, fun a xs q => ?_⟩
  · rcases q with (q | ⟨o', q⟩) | q
    · exact .inl (.inl (by rw [upd_ne (ne a _ q trivial)]; exact q))
    · exact .inl (.inr ⟨o', by rw [upd_ne (ne a _ q trivial)]; exact q⟩)
    · exact .inr q
  · rcases q with ⟨o', q⟩ | q
    · exact .inl ⟨o', by rw [upd_ne (ne a _ q trivial)]; exact q⟩
    · exact .inr q
mutual
theorem Rep.ke (t : Ke G.K H H') : ∀ {d : D} {v : V}, Rep G H d v → Rep G H' d v
  | .non, _, q => q
  | .bl _, _, q => q
  | .int _, _, q => q
  | .str _, _, q => q
  | .ref _, _, q => q
  | .tup _, _, ⟨a, vs, e, s, l⟩ => ⟨a, vs, e, t.1 a vs s, RepL.ke t l⟩
  | .fl _, _, ⟨a, vs, e, s, l⟩ => ⟨a, vs, e, t.2 a vs s, RepL.ke t l⟩
theorem RepL.ke (t : Ke G.K H H') : ∀ {ds : List D} {vs : List V}, RepL G H ds vs → RepL G H' ds vs
  | [], _, q => q
  | _ :: _, _, ⟨v, r', e, a, l⟩ => ⟨v, r', e, Rep.ke t a, RepL.ke t l⟩
end
theorem RepA.ke {α β : Type} {F : α → β} (t : Ke G.K H H') : ∀ {ds : List (α × D)} {vs : List (β × V)}, RepA G H F ds vs → RepA G H' F ds vs
  | [], _, q => q
  | _ :: _, _, ⟨v, r', e, a, l⟩ => ⟨v, r', e, a.ke t, RepA.ke t l⟩
theorem RepS.ke (t : Ke G.K H H') {τ : DS} {σ : L2.St} (s : RepS G H τ σ) : RepS G H' τ σ := ⟨s.1, fun i d e => let ⟨v, e1, q⟩ := s.2 i d e; ⟨v, e1, q.ke t⟩⟩
theorem RepO.ke (t : Ke G.K H H') {a : Addr} {o : DO} (q : RepO G H a o) (e : H' a = H a) : RepO G H' a o := by
  cases o with
  | lst xs => obtain ⟨vs, e2, l⟩ := q; exact ⟨vs, e.trans e2, l.ke t⟩
  | dK xs => obtain ⟨vs, e2, l⟩ := q; exact ⟨vs, e.trans e2, RepA.ke t l⟩
  | dT xs => obtain ⟨vs, e2, l⟩ := q; exact ⟨vs, e.trans e2, RepA.ke t l⟩
  | ins c fs => obtain ⟨dx, vs, e2, l, m⟩ := q; exact ⟨dx, vs, e.trans e2, RepA.ke t l, m⟩
theorem Rep.tr (r : RepH G h H) (t : Tr h H h' H') {d : D} {v : V} (q : Rep G H d v) : Rep G H' d v := q.ke (t.ke r)
theorem RepL.tr (r : RepH G h H) (t : Tr h H h' H') {ds : List D} {vs : List V} (q : RepL G H ds vs) : RepL G H' ds vs := q.ke (t.ke r)
theorem RepA.tr {α β : Type} {F : α → β} (r : RepH G h H) (t : Tr h H h' H') {ds : List (α × D)} {vs : List (β × V)} (q : RepA G H F ds vs) : RepA G H' F ds vs := RepA.ke (t.ke r) q
theorem RepS.tr (r : RepH G h H) (t : Tr h H h' H') {τ : DS} {σ : L2.St} (s : RepS G H τ σ) : RepS G H' τ σ := ⟨s.1, fun i d e => let ⟨v, e1, q⟩ := s.2 i d e; ⟨v, e1, q.tr r t⟩⟩
theorem RepH.has (r : RepH G h H) {a : Addr} {o : DO} (e : h a = some o) : ∃ u, H a = some u := by
  have z := r a o e
  cases o with
  | lst xs => obtain ⟨vs, e2, _⟩ := z; exact ⟨_, e2⟩
  | dK xs => obtain ⟨vs, e2, _⟩ := z; exact ⟨_, e2⟩
  | dT xs => obtain ⟨vs, e2, _⟩ := z; exact ⟨_, e2⟩
  | ins c fs => obtain ⟨dx, vs, e2, _⟩ := z; exact ⟨_, e2⟩
theorem RepH.free (r : RepH G h H) {a : Addr} (e : H a = none) : h a = none := by
  cases q : h a with
  | none => rfl
  | some o => obtain ⟨u, e2⟩ := r.has q; rw [e] at e2; cases e2
theorem RepL.length : ∀ {ds : List D} {vs : List V}, RepL G H ds vs → ds.length = vs.length
  | [], _, q => by cases (show _ = [] from q); rfl
  | _ :: _, _, ⟨v, r', e, a, l⟩ => by subst e; simp [RepL.length l]
theorem RepL.nil {vs : List V} (q : RepL G H [] vs) : vs = [] := q
theorem RepL.append : ∀ {ds es : List D} {vs us : List V}, RepL G H ds vs → RepL G H es us → RepL G H (ds ++ es) (vs ++ us)
  | [], _, _, _, q, p => by cases (show _ = [] from q); exact p
  | _ :: _, _, _, _, ⟨v, r', e, a, l⟩, p => by subst e; exact ⟨v, r' ++ _, rfl, a, RepL.append l p⟩
theorem RepL.get : ∀ {ds : List D} {vs : List V} {i : Nat} {d : D}, RepL G H ds vs → ds[i]? = some d → ∃ v, vs[i]? = some v ∧ Rep G H d v
  | [], _, _, _, _, e => by simp at e
  | _ :: _, _, 0, _, ⟨v, r', e, a, l⟩, q => by subst e; simp at q; subst q; exact ⟨v, rfl, a⟩
  | _ :: _, _, i + 1, _, ⟨v, r', e, a, l⟩, q => by subst e; simp at q; obtain ⟨u, e1, z⟩ := RepL.get l q; exact ⟨u, by simpa using e1, z⟩
theorem RepL.set {d : D} {v : V} (r : Rep G H d v) : ∀ {ds : List D} {vs : List V} (i : Nat), RepL G H ds vs → RepL G H (ds.set i d) (vs.set i v)
  | [], _, _, q => by cases (show _ = [] from q); rfl
  | _ :: _, _, 0, ⟨u, r', e, a, l⟩ => by subst e; exact ⟨v, r', rfl, r, l⟩
  | _ :: _, _, i + 1, ⟨u, r', e, a, l⟩ => by subst e; exact ⟨u, _, rfl, a, RepL.set r i l⟩
theorem RepL.drop : ∀ {ds : List D} {vs : List V} (i : Nat), RepL G H ds vs → RepL G H (ds.drop i) (vs.drop i)
  | _, _, 0, q => by simpa using q
  | [], _, i + 1, q => by cases (show _ = [] from q); rfl
  | _ :: _, _, i + 1, ⟨u, r', e, a, l⟩ => by subst e; simpa using RepL.drop i l
theorem RepL.take : ∀ {ds : List D} {vs : List V} (i : Nat), RepL G H ds vs → RepL G H (ds.take i) (vs.take i)
  | _, _, 0, q => by show _ = []; simp
  | [], _, i + 1, q => by cases (show _ = [] from q); rfl
  | _ :: _, _, i + 1, ⟨u, r', e, a, l⟩ => by subst e; exact ⟨u, _, rfl, a, RepL.take i l⟩
theorem RepL.rep {ds : List D} {vs : List V} (q : RepL G H ds vs) : ∀ k : Nat, RepL G H (List.replicate k ds).flatten (List.replicate k vs).flatten
  | 0 => rfl
  | k + 1 => by rw [List.replicate_succ, List.replicate_succ, List.flatten_cons, List.flatten_cons]; exact q.append (RepL.rep q k)
theorem RepL.one {ds : List D} {x : V} (q : RepL G H ds [x]) : ∃ d, ds = [d] ∧ Rep G H d x := by
  match ds, q with
  | [d], ⟨v, r', e, a, l⟩ => cases e; exact ⟨d, rfl, a⟩
  | [], q => cases (show [x] = [] from q)
  | d :: d2 :: r, ⟨v, r', e, a, ⟨_, _, e2, _⟩⟩ => cases e; cases e2
theorem RepL.two {ds : List D} {x y : V} (q : RepL G H ds [x, y]) : ∃ d e, ds = [d, e] ∧ Rep G H d x ∧ Rep G H e y := by
  match ds, q with
  | d :: r, ⟨v, r', e, a, l⟩ =>
    cases e
    obtain ⟨d2, rfl, a2⟩ := l.one
    exact ⟨d, d2, rfl, a, a2⟩
  | [], q => cases (show [x, y] = [] from q)
theorem RepL.reverse {ds : List D} {vs : List V} (q : RepL G H ds vs) : RepL G H ds.reverse vs.reverse := by
  induction ds generalizing vs with
  | nil => cases (show vs = [] from q); rfl
  | cons d ds ih =>
    obtain ⟨v, r', e, a, l⟩ := q
    subst e
    rw [List.reverse_cons, List.reverse_cons]
    exact (ih l).append ⟨v, [], rfl, a, rfl⟩
theorem RepL.ints : ∀ {ns : List Int} {vs : List V}, RepL G H (ns.map D.int) vs → vs = ns.map V.int
  | [], _, q => q
  | _ :: _, _, ⟨v, r', e, a, l⟩ => by subst e; rw [show v = _ from a, RepL.ints l]; rfl
theorem RepL.bls : ∀ {ns : List Bool} {vs : List V}, RepL G H (ns.map D.bl) vs → vs = ns.map V.bl
  | [], _, q => q
  | _ :: _, _, ⟨v, r', e, a, l⟩ => by subst e; rw [show v = _ from a, RepL.bls l]; rfl
theorem RepL.ofInts : ∀ (ns : List Int), RepL G H (ns.map D.int) (ns.map V.int)
  | [] => rfl
  | n :: r => ⟨_, _, rfl, rfl, RepL.ofInts r⟩

/-- a new object of data -/
theorem RepO.tr (r : RepH G h H) {a : Addr} (t : Tr h H h' H') {o : DO} (q : RepO G H a o) (e : H' a = H a) : RepO G H' a o := q.ke (t.ke r) e
/-- an object that is no data's is changed -/
theorem RepH.aside (r : RepH G h H) {D : Addr} {u o : HO} (e : H D = some u) (n : ¬ Stays u) (hD : h D = none) : RepH G h (upd H D o) := fun a w q =>
  (r a w q).ke (Ke.upd e n) (upd_ne fun z => by subst z; rw [hD] at q; cases q)
/-- something new that is no data -/
theorem tr_new (r : RepH G h H) {p : Addr} (hp : H p = none) (o : HO) : Tr h H h (upd H p o) := fun b u e n => ⟨by rw [upd_ne (ne_of_none e hp)]; exact e, n⟩
theorem RepH.new (r : RepH G h H) {p : Addr} (hp : H p = none) (o : HO) : RepH G h (upd H p o) := fun a u e => by
  obtain ⟨w, e2⟩ := r.has e
  exact (r a u e).tr r (tr_new r hp o) (upd_ne (ne_of_none e2 hp))
theorem tr_newD (r : RepH G h H) {p : Addr} (hp : H p = none) (o : HO) (d : DO) : Tr h H (dput h p d) (upd H p o) := fun b u e n => ⟨by rw [upd_ne (ne_of_none e hp)]; exact e, by rw [dput_ne (ne_of_none e hp)]; exact n⟩
theorem RepH.newD (r : RepH G h H) {p : Addr} (hp : H p = none) {o : HO} {d : DO} (q : RepO G (upd H p o) p d) : RepH G (dput h p d) (upd H p o) := fun a u e => by
  by_cases ha : a = p
  · subst ha
    rw [dput_same] at e
    cases e
    exact q
  · rw [dput_ne ha] at e
    exact (r a u e).tr r (tr_newD r hp o d) (upd_ne ha)
/-- an object of data is changed -/
theorem tr_set (r : RepH G h H) {p : Addr} {d0 : DO} (hp : h p = some d0) (o : HO) (d : DO) : Tr h H (dput h p d) (upd H p o) := fun b u e n => by
  have hb : b ≠ p := fun z => by subst z; rw [n] at hp; cases hp
  exact ⟨by rw [upd_ne hb]; exact e, by rw [dput_ne hb]; exact n⟩
theorem RepH.setD (r : RepH G h H) {p : Addr} {d0 : DO} (hp : h p = some d0) {o : HO} {d : DO} (q : RepO G (upd H p o) p d) : RepH G (dput h p d) (upd H p o) := fun a u e => by
  by_cases ha : a = p
  · subst ha
    rw [dput_same] at e
    cases e
    exact q
  · rw [dput_ne ha] at e
    exact (r a u e).tr r (tr_set r hp o d) (upd_ne ha)
theorem lsK_inv {a : Addr} {k : List D → Prop} (q : lsK h a k) : ∃ xs, h a = some (.lst xs) ∧ k xs := by
  unfold lsK at q
  split at q
  · exact ⟨_, by assumption, q⟩
  · exact q.elim
theorem RepH.lsts (r : RepH G h H) {a : Addr} {xs : List D} (e : h a = some (.lst xs)) : ∃ vs, H a = some (.lst vs) ∧ RepL G H xs vs := r a _ e
/-- what sqK reads -/
theorem sqK_inv (r : RepH G h H) {d : D} {x : V} (rx : Rep G H d x) {k : List D → Prop} (q : sqK h d k) : ∃ (a : Addr) (xs : List D) (vs : List V), x = .ref a ∧ (SqL G.K H a vs ∨ SqT G.K H a vs) ∧ RepL G H xs vs ∧ k xs := by
  cases d with
  | tup xs => obtain ⟨a, vs, e, s, l⟩ := rx; exact ⟨a, xs, vs, e, .inr s, l, q⟩
  | fl xs => obtain ⟨a, vs, e, s, l⟩ := rx; exact ⟨a, xs, vs, e, .inl s.l, l, q⟩
  | ref a =>
    obtain ⟨xs, e, q⟩ := lsK_inv q
    obtain ⟨vs, e2, l⟩ := r.lsts e
    exact ⟨a, xs, vs, rx, .inl (SqL.of e2), l, q⟩
  | _ => exact False.elim q
end
end Z
set_option Elab.async false
set_option linter.all false
set_option maxRecDepth 100000
set_option maxHeartbeats 4000000
/-! Fw3: each operation keeps its word. -/
namespace Z
open PySem (Str Addr sizeLine PyData Paired Expr Stmt Value Shared binaryOp compareOp unaryOp)
open L2
section
variable {G : Gd} {X : Cx}
/-- an operation by values, as the hand layer asks -/
def liN (G : Gd) (o : Op) : List V → Hp → VK → Prop := fun xs H Q => ∃ ds h R, RepL G H ds xs ∧ RepH G h H ∧ opS o ds h R ∧ ∀ d h' v H', Tr h H h' H' → RepH G h' H' → Rep G H' d v → R d h' → Q v H'
abbrev li2 (G : Gd) (o : Op) : R2 := fun x y H Q => liN G o [x, y] H Q
abbrev li1 (G : Gd) (o : Op) : V → Hp → VK → Prop := fun x H Q => liN G o [x] H Q
variable (hK : X.K = G.K)
include hK
/-- a new tuple -/
theorem newT {h : DH} {H : Hp} (rh : RepH G h H) {xs : List D} {vs : List V} (l : RepL G H xs vs) {p : Addr} (hp : H p = none) : Rep G (upd H p (.tup vs)) (.tup xs) (.ref p) :=
  ⟨p, vs, rfl, SqT.of upd_same, l.tr rh (tr_new rh hp _)⟩
theorem newL {h : DH} {H : Hp} (rh : RepH G h H) {xs : List D} {vs : List V} (l : RepL G H xs vs) {p : Addr} (hp : H p = none) : RepH G (dput h p (.lst xs)) (upd H p (.lst vs)) :=
  rh.newD hp ⟨vs, upd_same, l.tr rh (tr_newD rh hp _ (.lst xs))⟩
theorem or_add : OpR X (binaryOp .Add) (li2 G .add) := by
  intro pins s σ H x y v u Q I rx ry ⟨ds, h, R, rl, rh, w, k⟩
  obtain ⟨d1, d2, rfl, r1, r2⟩ := rl.two
  simp only [opS] at w
  cases d1 <;> cases d2 <;> simp only [oAdd] at w
  · cases r1; cases r2
    exact op_add pins s σ H _ _ v u Q I rx ry ⟨_, _, rfl, rfl, k (.int _) h _ H Tr.refl rh rfl w⟩
  · cases r1; cases r2
    exact op_add_str pins s σ H _ _ v u Q I rx ry ⟨_, _, rfl, rfl, w.1, k (.str _) h _ H Tr.refl rh rfl w.2⟩
  · cases r1; cases r2
    obtain ⟨xs, e1, w⟩ := lsK_inv w
    obtain ⟨ys, e2, w⟩ := lsK_inv w
    obtain ⟨vs, f1, l1⟩ := rh.lsts e1
    obtain ⟨us, f2, l2⟩ := rh.lsts e2
    refine op_cat pins s σ H _ _ v u Q I rx ry ⟨_, _, _, _, rfl, rfl, f1, f2, by rw [← l1.length, ← l2.length]; exact w.1, fun p hp => ?_⟩
    exact k _ _ _ _ (tr_newD rh hp _ _) (newL hK rh (l1.append l2) hp) (show Rep G _ (.ref p) _ from rfl) (w.2 p (rh.free hp))
  · rename_i xs ys
    obtain ⟨a, vs, rfl, q1, l1⟩ := r1
    obtain ⟨b, us, rfl, q2, l2⟩ := r2
    rw [← hK] at q1 q2
    refine op_catA pins s σ H _ _ v u Q I rx ry ⟨a, b, vs, us, rfl, rfl, q1, q2, by rw [← l1.length, ← l2.length]; exact w.1, fun e => ?_, fun _ e => ?_, fun _ _ p hp => ?_⟩
    · subst e
      have e0 : xs = [] := List.length_eq_zero_iff.mp (l1.length)
      subst e0
      exact k (.tup _) h _ H Tr.refl rh ⟨b, us, rfl, by rw [← hK]; exact q2, l2⟩ w.2
    · subst e
      have e0 : ys = [] := List.length_eq_zero_iff.mp (l2.length)
      subst e0
      exact k (.tup _) h _ H Tr.refl rh ⟨a, vs, rfl, by rw [← hK]; exact q1, by rw [List.append_nil]; exact l1⟩ w.2
    · exact k _ h _ _ (tr_new rh hp _) (rh.new hp _) (newT hK rh (l1.append l2) hp) w.2
theorem or_sub : OpR X (binaryOp .Sub) (li2 G .sub) := by
  intro pins s σ H x y v u Q I rx ry ⟨ds, h, R, rl, rh, w, k⟩
  obtain ⟨d1, d2, rfl, r1, r2⟩ := rl.two
  simp only [opS] at w
  cases d1 <;> cases d2 <;> simp only [oSub] at w
  cases r1; cases r2
  exact op_sub pins s σ H _ _ v u Q I rx ry ⟨_, _, rfl, rfl, k (.int _) h _ H Tr.refl rh rfl w⟩
theorem or_mul : OpR X (binaryOp .Mult) (li2 G .mul) := by
  intro pins s σ H x y v u Q I rx ry ⟨ds, h, R, rl, rh, w, k⟩
  obtain ⟨d1, d2, rfl, r1, r2⟩ := rl.two
  simp only [opS] at w
  cases d1 <;> cases d2 <;> simp only [oMul] at w
  · cases r1; cases r2
    obtain ⟨m, w⟩ := w
    rcases m with m | m
    · exact op_mul pins s σ H _ _ v u Q I rx ry ⟨_, _, rfl, rfl, m, k (.int _) h _ H Tr.refl rh rfl w⟩
    · exact op_mulX pins s σ H _ _ v u Q I rx ry ⟨_, _, rfl, rfl, m, k (.int _) h _ H Tr.refl rh rfl w⟩
  · cases r1; cases r2
    obtain ⟨xs, e1, w⟩ := lsK_inv w
    obtain ⟨vs, f1, l1⟩ := rh.lsts e1
    refine op_rep pins s σ H _ _ v u Q I rx ry ⟨_, _, _, rfl, rfl, f1, w.1, w.2.1, by rw [← l1.length]; exact w.2.2.1, fun p hp => ?_⟩
    exact k _ _ _ _ (tr_newD rh hp _ _) (newL hK rh (l1.rep _) hp) (show Rep G _ (.ref p) _ from rfl) (w.2.2.2 p (rh.free hp))
theorem or_fdiv : OpR X (binaryOp .FloorDiv) (li2 G .fdiv) := by
  intro pins s σ H x y v u Q I rx ry ⟨ds, h, R, rl, rh, w, k⟩
  obtain ⟨d1, d2, rfl, r1, r2⟩ := rl.two
  simp only [opS] at w
  cases d1 <;> cases d2 <;> simp only [oFdiv] at w
  cases r1; cases r2
  obtain ⟨⟨m0, m⟩, w⟩ := w
  rcases m with m | m
  · exact op_fdiv pins s σ H _ _ v u Q I rx ry ⟨_, _, rfl, rfl, ⟨m0, m⟩, k (.int _) h _ H Tr.refl rh rfl w⟩
  · exact op_fdivW pins s σ H _ _ v u Q I rx ry ⟨_, _, rfl, rfl, ⟨m0, m⟩, k (.int _) h _ H Tr.refl rh rfl w⟩
theorem or_mod : OpR X (binaryOp .Mod) (li2 G .mod) := by
  intro pins s σ H x y v u Q I rx ry ⟨ds, h, R, rl, rh, w, k⟩
  obtain ⟨d1, d2, rfl, r1, r2⟩ := rl.two
  simp only [opS] at w
  cases d1 <;> cases d2 <;> simp only [oMod] at w
  cases r1; cases r2
  exact op_mod pins s σ H _ _ v u Q I rx ry ⟨_, _, rfl, rfl, w.1, k (.int _) h _ H Tr.refl rh rfl w.2⟩
theorem or_pow : OpR X (binaryOp .Pow) (li2 G .pow) := by
  intro pins s σ H x y v u Q I rx ry ⟨ds, h, R, rl, rh, w, k⟩
  obtain ⟨d1, d2, rfl, r1, r2⟩ := rl.two
  simp only [opS] at w
  cases d1 <;> cases d2 <;> simp only [oPow] at w
  cases r1; cases r2
  exact op_pow pins s σ H _ _ v u Q I rx ry ⟨_, _, rfl, rfl, w.1, k (.int _) h _ H Tr.refl rh rfl w.2⟩
theorem or_shl : OpR X (binaryOp .LShift) (li2 G .shl) := by
  intro pins s σ H x y v u Q I rx ry ⟨ds, h, R, rl, rh, w, k⟩
  obtain ⟨d1, d2, rfl, r1, r2⟩ := rl.two
  simp only [opS] at w
  cases d1 <;> cases d2 <;> simp only [oShl] at w
  cases r1; cases r2
  exact op_shl pins s σ H _ _ v u Q I rx ry ⟨_, _, rfl, rfl, w.1, k (.int _) h _ H Tr.refl rh rfl w.2⟩
theorem or_band : OpR X (binaryOp .BitAnd) (li2 G .band) := by
  intro pins s σ H x y v u Q I rx ry ⟨ds, h, R, rl, rh, w, k⟩
  obtain ⟨d1, d2, rfl, r1, r2⟩ := rl.two
  simp only [opS] at w
  cases d1 <;> cases d2 <;> simp only [oBand] at w
  cases r1; cases r2
  exact op_and pins s σ H _ _ v u Q I rx ry ⟨_, _, rfl, rfl, k (.int _) h _ H Tr.refl rh rfl w⟩
theorem or_lt : OpR X (compareOp .Lt) (li2 G .lt) := by
  intro pins s σ H x y v u Q I rx ry ⟨ds, h, R, rl, rh, w, k⟩
  obtain ⟨d1, d2, rfl, r1, r2⟩ := rl.two
  simp only [opS] at w
  cases d1 <;> cases d2 <;> simp only [oLt] at w
  cases r1; cases r2
  exact op_lt pins s σ H _ _ v u Q I rx ry ⟨_, _, rfl, rfl, k (.bl _) h _ H Tr.refl rh rfl w⟩
theorem or_le : OpR X (compareOp .LtE) (li2 G .le) := by
  intro pins s σ H x y v u Q I rx ry ⟨ds, h, R, rl, rh, w, k⟩
  obtain ⟨d1, d2, rfl, r1, r2⟩ := rl.two
  simp only [opS] at w
  cases d1 <;> cases d2 <;> simp only [oLe] at w
  cases r1; cases r2
  exact op_le pins s σ H _ _ v u Q I rx ry ⟨_, _, rfl, rfl, k (.bl _) h _ H Tr.refl rh rfl w⟩
theorem or_gt : OpR X (compareOp .Gt) (li2 G .gt) := by
  intro pins s σ H x y v u Q I rx ry ⟨ds, h, R, rl, rh, w, k⟩
  obtain ⟨d1, d2, rfl, r1, r2⟩ := rl.two
  simp only [opS] at w
  cases d1 <;> cases d2 <;> simp only [oGt] at w
  cases r1; cases r2
  exact op_gt pins s σ H _ _ v u Q I rx ry ⟨_, _, rfl, rfl, k (.bl _) h _ H Tr.refl rh rfl w⟩
theorem or_ge : OpR X (compareOp .GtE) (li2 G .ge) := by
  intro pins s σ H x y v u Q I rx ry ⟨ds, h, R, rl, rh, w, k⟩
  obtain ⟨d1, d2, rfl, r1, r2⟩ := rl.two
  simp only [opS] at w
  cases d1 <;> cases d2 <;> simp only [oGe] at w
  cases r1; cases r2
  exact op_ge pins s σ H _ _ v u Q I rx ry ⟨_, _, rfl, rfl, k (.bl _) h _ H Tr.refl rh rfl w⟩
end
/-! ### == -/
section
variable {G : Gd} {h : DH} {H : Hp}
mutual
theorem PyOf.dp (rh : RepH G h H) : ∀ {d : D} {p : PyData} {v : V}, PyOf h d p → Rep G H d v → Dp G.K H v p
  | _, _, _, .non, r => by cases (show _ = V.non from r); exact .non
  | _, _, _, .bl b, r => by cases (show _ = V.bl b from r); exact .bl b
  | _, _, _, .int i, r => by cases (show _ = V.int i from r); exact .int i
  | _, _, _, .str x, r => by cases (show _ = V.str x from r); exact .str x
  | _, _, _, .tup q, ⟨a, vs, e, s, l⟩ => by subst e; exact .tup s (PyOfL.dp rh q l)
  | _, _, _, .fl q, ⟨a, vs, e, s, l⟩ => by subst e; exact .lst s.l (PyOfL.dp rh q l)
  | _, _, _, @PyOf.ref _ a xs ps e q, r => by
    cases (show _ = V.ref a from r)
    obtain ⟨vs, e2, l⟩ := rh.lsts e
    exact .lst (SqL.of e2) (PyOfL.dp rh q l)
theorem PyOfL.dp (rh : RepH G h H) : ∀ {d : List D} {p : List PyData} {v : List V}, PyOfL h d p → RepL G H d v → DpAll G.K H v p
  | _, _, _, .nil, r => by cases (show _ = [] from r); exact .nil
  | _, _, _, .cons a q, ⟨v, r', e, r, l⟩ => by subst e; exact .cons (PyOf.dp rh a r) (PyOfL.dp rh q l)
end
end
section
variable {G : Gd} {X : Cx}
theorem eqK_cases {h : DH} {H : Hp} (rh : RepH G h H) {d1 d2 : D} {x y : V} (r1 : Rep G H d1 x) (r2 : Rep G H d2 y) {k : Bool → Prop} (w : eqK d1 d2 h k) :
    (scal x y = true ∧ k (decide (x = y))) ∨ ∃ p q, Dp G.K H x p ∧ Dp G.K H y q ∧ PySem.SeqAt.shaped p = true ∧ PySem.SeqAt.shaped q = true ∧ k (PyData.eqv p q) := by
  have gen : eqG d1 d2 h k → (scal x y = true ∧ k (decide (x = y))) ∨ ∃ p q, Dp G.K H x p ∧ Dp G.K H y q ∧ PySem.SeqAt.shaped p = true ∧ PySem.SeqAt.shaped q = true ∧ k (PyData.eqv p q) := fun ⟨p, q, a, b, c, d, e⟩ => .inr ⟨p, q, a.dp rh r1, b.dp rh r2, c, d, e⟩
  cases d1 <;> cases d2 <;> first
    | exact gen w
    | (cases r1; cases r2; exact .inl ⟨rfl, by simpa [eqK] using w⟩)
theorem or_eq (hK : X.K = G.K) (hu : X.A.units + 64 < PySem.cLine) : OpR X (compareOp .Eq) (li2 G .eq) := by
  intro pins s σ H x y v u Q I rx ry ⟨ds, h, R, rl, rh, w, k⟩
  obtain ⟨d1, d2, rfl, r1, r2⟩ := rl.two
  rcases eqK_cases rh r1 r2 (show eqK d1 d2 h fun b => R (.bl b) h from w) with ⟨sc, z⟩ | ⟨p, q, a, b, c, d, z⟩
  · exact op_eq pins s σ H x y v u Q I rx ry ⟨sc, k (.bl _) h _ H Tr.refl rh rfl z⟩
  · exact op_eqD hu pins s σ H x y v u Q I rx ry ⟨p, q, by rw [hK]; exact a, by rw [hK]; exact b, c, d, k (.bl _) h _ H Tr.refl rh rfl z⟩
theorem or_ne (hK : X.K = G.K) (hu : X.A.units + 64 < PySem.cLine) : OpR X (compareOp .NotEq) (li2 G .ne) := by
  intro pins s σ H x y v u Q I rx ry ⟨ds, h, R, rl, rh, w, k⟩
  obtain ⟨d1, d2, rfl, r1, r2⟩ := rl.two
  rcases eqK_cases rh r1 r2 (show eqK d1 d2 h fun b => R (.bl (!b)) h from w) with ⟨sc, z⟩ | ⟨p, q, a, b, c, d, z⟩
  · exact op_ne pins s σ H x y v u Q I rx ry ⟨sc, k (.bl _) h _ H Tr.refl rh rfl z⟩
  · exact op_neD hu pins s σ H x y v u Q I rx ry ⟨p, q, by rw [hK]; exact a, by rw [hK]; exact b, c, d, k (.bl _) h _ H Tr.refl rh rfl z⟩
end
end Z
set_option Elab.async false
set_option linter.all false
set_option maxRecDepth 100000
set_option maxHeartbeats 4000000
/-! Fw4: calls of built-ins, subscripts, methods, truth. -/
namespace Z
open PySem (Str Addr sizeLine PyData Paired Expr Stmt Value Shared binaryOp compareOp unaryOp)
open L2
section
variable {G : Gd} {X : Cx}
variable (hK : X.K = G.K)
include hK
theorem ur_neg : UnR X (unaryOp .USub) (li1 G .neg) := by
  intro pins s σ H x v Q I rx ⟨ds, h, R, rl, rh, w, k⟩
  obtain ⟨d1, rfl, r1⟩ := rl.one
  simp only [opS] at w
  cases d1 <;> simp only [oNeg] at w
  cases r1
  exact un_neg pins s σ H _ v Q I rx ⟨_, rfl, k (.int _) h _ H Tr.refl rh rfl w⟩
/-- truth -/
theorem tr_truth : TruR X (fun x H Q => ∃ d h R, Rep G H d x ∧ RepH G h H ∧ truK h d R ∧ ∀ b, R b → Q b H) := by
  intro pins s σ H x v Q I rx ⟨d, h, R, r, rh, w, k⟩
  refine tru_ok pins s σ H x v Q I rx ?_
  cases d with
  | non => cases r; exact ⟨false, rfl, k _ w⟩
  | bl b => cases r; exact ⟨b, rfl, k _ w⟩
  | int i => cases r; exact ⟨_, rfl, by have := k _ w; rw [show (i != 0) = decide (i ≠ 0) by simp [bne, Bool.beq_eq_decide_eq]]; exact this⟩
  | str z =>
    cases r
    refine ⟨_, ⟨w.1, rfl⟩, ?_⟩
    have := k _ w.2
    rw [show ((z.length : Int) != 0) = decide (z.length ≠ 0) by simp [bne, Bool.beq_eq_decide_eq]]
    exact this
  | tup xs =>
    obtain ⟨a, vs, rfl, q, l⟩ := r
    refine ⟨_, .inr (.inl ⟨vs, by rw [hK]; exact q, rfl⟩), ?_⟩
    have := k _ w
    rw [show vs.isEmpty = xs.isEmpty by cases xs with | nil => cases (show vs = [] from l); rfl | cons y ys => obtain ⟨_, _, e, _⟩ := l; subst e; rfl]
    exact this
  | fl xs =>
    obtain ⟨a, vs, rfl, q, l⟩ := r
    refine ⟨_, .inl ⟨vs, by rw [hK]; exact q.l, rfl⟩, ?_⟩
    have := k _ w
    rw [show vs.isEmpty = xs.isEmpty by cases xs with | nil => cases (show vs = [] from l); rfl | cons y ys => obtain ⟨_, _, e, _⟩ := l; subst e; rfl]
    exact this
  | ref a =>
    cases r
    obtain ⟨xs, e, w⟩ := lsK_inv w
    obtain ⟨vs, e2, l⟩ := rh.lsts e
    refine ⟨_, .inl ⟨vs, SqL.of e2, rfl⟩, ?_⟩
    have := k _ w
    rw [show vs.isEmpty = xs.isEmpty by cases xs with | nil => cases (show vs = [] from l); rfl | cons y ys => obtain ⟨_, _, e, _⟩ := l; subst e; rfl]
    exact this
theorem atI_rep {H : Hp} {xs : List D} {vs : List V} (l : RepL G H xs vs) {i : Int} {d : D} (e : atI xs i = some d) : ∃ v, atI vs i = some v ∧ Rep G H d v := by
  unfold atI at e ⊢
  rw [← l.length]
  cases q : ixN xs.length i with
  | none => rw [q] at e; cases e
  | some j =>
    rw [q] at e
    obtain ⟨v, e1, r⟩ := l.get (i := j) e
    exact ⟨v, e1, r⟩
theorem ix_ok : IxR X (li2 G .idx) := by
  intro value slice pins s σ H x y v u Q I rx ry ⟨ds, h, R, rl, rh, w, k⟩ hs
  obtain ⟨d1, d2, rfl, r1, r2⟩ := rl.two
  simp only [opS] at w
  have gen : ∀ i : Int, d2 = .int i → sqK h d1 (fun xs => ∃ v, L2.atI xs i = some v ∧ R v h) → PySem.wpAny (PySem.model X.prog X.w) X.A (PyProof.Rows.subscriptTail value slice v u) (EP X pins σ Q) X.xe s := by
    intro i ei w'
    subst ei
    cases (show y = V.int i from r2)
    obtain ⟨a, xs, vs, rfl, sq, l, d, e, w'⟩ := sqK_inv rh r1 w'
    obtain ⟨z, e2, rz⟩ := atI_rep hK l e
    refine ix_seq value slice pins s σ H _ _ v u Q I rx ry ?_ hs
    rcases sq with sq | sq
    · exact .inl ⟨a, vs, i, z, rfl, rfl, by rw [hK]; exact sq, e2, k _ h _ H Tr.refl rh rz w'⟩
    · exact .inr (.inl ⟨a, vs, i, z, rfl, rfl, by rw [hK]; exact sq, e2, k _ h _ H Tr.refl rh rz w'⟩)
  cases d1 <;> cases d2 <;> simp only [oIdx] at w <;> first | exact w.elim | exact gen _ rfl w | skip
  cases r1; cases r2
  obtain ⟨z, c, e, w⟩ := w
  exact ix_str value slice pins s σ H _ _ v u Q I rx ry ⟨_, _, c, rfl, rfl, z, e, k (.str _) h _ H Tr.refl rh rfl w⟩ hs
theorem sIx_eq (n d : Nat) (o : Option Int) : sIx n d o = HT.sIx n d o := by
  cases o <;> rfl
theorem cut_rep {H : Hp} {xs : List D} {vs : List V} (l : RepL G H xs vs) (lo hi : Option Int) : RepL G H (cut xs lo hi) (cutV vs lo hi) := by
  unfold cut cutV
  rw [← l.length, sIx_eq hK, sIx_eq hK]
  exact (l.drop _).take _
theorem sl_ok : SlR X (fun x lo hi H Q => ∃ d h R, Rep G H d x ∧ RepH G h H ∧ oSlcR d lo hi h R ∧ ∀ d h' v H', Tr h H h' H' → RepH G h' H' → Rep G H' d v → R d h' → Q v H') := by
  intro pins s σ H x v vl vu lo hi sl Q I rx hs pl pu ⟨d, h, R, r, rh, w, k⟩
  have lst : ∀ (a : Addr) (xs : List D) (vs : List V), x = .ref a → SqL G.K H a vs → RepL G H xs vs → new h (.lst (cut xs lo hi)) R → ∃ T id, PySem.typeLookup (.type T) "__getitem__" = pure (some (.builtin id)) ∧ s.TypeIs v T ∧ PySem.wpAny (PySem.model X.prog X.w) X.A (PySem.getItem v (.ref sl)) (EP X pins σ Q) X.xe s := by
    intro a xs vs e q l w
    refine sl_list pins s σ H x v vl vu lo hi sl Q I rx hs pl pu ⟨a, vs, e, by rw [hK]; exact q, fun p hp => ?_⟩
    exact k _ _ _ _ (tr_newD rh hp _ _) (newL hK rh (cut_rep hK l lo hi) hp) (show Rep G _ (.ref p) _ from rfl) (w p (rh.free hp))
  cases d with
  | tup xs =>
    obtain ⟨a, vs, rfl, q, l⟩ := r
    have w : R (.tup (cut xs lo hi)) h := w
    refine sl_tupA pins s σ H _ v vl vu lo hi sl Q I rx hs pl pu ⟨a, vs, rfl, by rw [hK]; exact q, fun hw => ?_, fun _ p hp => ?_⟩
    · have e : cut xs lo hi = xs := by
        unfold cut
        rw [sIx_eq hK, sIx_eq hK, l.length, hw.1, hw.2, List.drop_zero, Nat.sub_zero, ← l.length, List.take_length]
      rw [e] at w
      exact k (.tup xs) h _ H Tr.refl rh ⟨a, vs, rfl, q, l⟩ w
    · exact k _ h _ _ (tr_new rh hp _) (rh.new hp _) (newT hK rh (cut_rep hK l lo hi) hp) w
  | fl xs => obtain ⟨a, vs, rfl, q, l⟩ := r; exact lst a xs vs rfl q.l l w
  | ref a =>
    cases r
    obtain ⟨xs, e, w⟩ := lsK_inv w
    obtain ⟨vs, e2, l⟩ := rh.lsts e
    exact lst a xs vs rfl (SqL.of e2) l w
  | _ => exact False.elim w
theorem cr_len : CallR X (.builtin "len") (liN G .len) := by
  intro pins s σ H xs us Q I r ⟨ds, h, R, rl, rh, w, k⟩
  replace w : oLen ds h R := w
  unfold oLen at w
  split at w
  · rename_i z
    obtain ⟨x, _, e, rx, e2⟩ := rl
    cases (show _ = [] from e2)
    subst e
    cases (show x = V.str z from rx)
    exact call_len_str pins s σ H _ us Q I r ⟨z, rfl, w.1, k (.int _) h _ H Tr.refl rh rfl w.2⟩
  · rename_i d _
    obtain ⟨x, _, e, rx, e2⟩ := rl
    cases (show _ = [] from e2)
    subst e
    obtain ⟨a, ys, vs, rfl, sq, l, w⟩ := sqK_inv rh rx w
    refine call_len_seq pins s σ H _ us Q I r ⟨a, vs, rfl, by rw [hK]; exact sq, ?_⟩
    rw [← l.length]
    exact k (.int _) h _ H Tr.refl rh rfl w
  · exact w.elim
theorem cr_abs : CallR X (.builtin "abs") (liN G .abs) := by
  intro pins s σ H xs us Q I r ⟨ds, h, R, rl, rh, w, k⟩
  replace w : oAbs ds h R := w
  unfold oAbs at w
  split at w
  · rename_i i
    obtain ⟨x, _, e, rx, e2⟩ := rl
    cases (show _ = [] from e2)
    subst e
    cases rx
    exact call_abs pins s σ H _ us Q I r ⟨_, rfl, k (.int _) h _ H Tr.refl rh rfl w⟩
  · exact w.elim

theorem cr_int : CallR X (.type "int") (liN G .int) := by
  intro pins s σ H xs us Q I r ⟨ds, h, R, rl, rh, w, k⟩
  replace w : oInt ds h R := w
  unfold oInt at w
  split at w
  · rename_i i
    obtain ⟨x, _, e, rx, e2⟩ := rl
    cases (show _ = [] from e2)
    subst e
    cases rx
    exact call_int1 pins s σ H _ us Q I r (.inl ⟨_, rfl, k (.int _) h _ H Tr.refl rh rfl w⟩)
  · rename_i i
    obtain ⟨x, _, e, rx, e2⟩ := rl
    cases (show _ = [] from e2)
    subst e
    cases rx
    exact call_int1 pins s σ H _ us Q I r (.inr ⟨_, rfl, k (.int _) h _ H Tr.refl rh rfl w⟩)
  · exact w.elim

theorem cr_str : CallR X (.type "str") (liN G .str) := by
  intro pins s σ H xs us Q I r ⟨ds, h, R, rl, rh, w, k⟩
  replace w : oStr ds h R := w
  unfold oStr at w
  split at w
  · rename_i i
    obtain ⟨x, _, e, rx, e2⟩ := rl
    cases (show _ = [] from e2)
    subst e
    cases rx
    exact call_str_int pins s σ H _ us Q I r ⟨_, rfl, w.1, k (.str _) h _ H Tr.refl rh rfl w.2⟩
  · exact w.elim

theorem cr_list : CallR X (.type "list") (liN G .list) := by
  intro pins s σ H xs us Q I r ⟨ds, h, R, rl, rh, w, k⟩
  replace w : oList ds h R := w
  unfold oList at w
  split at w
  · rename_i d
    obtain ⟨x, _, e, rx, e2⟩ := rl
    cases (show _ = [] from e2)
    subst e
    obtain ⟨a, ys, vs, rfl, sq, l, w⟩ := sqK_inv rh rx w
    refine call_list_of pins s σ H _ us Q I r ⟨a, vs, rfl, by rw [hK]; exact sq, fun p hp => ?_⟩
    exact k _ _ _ _ (tr_newD rh hp _ _) (newL hK rh l hp) (show Rep G _ (.ref p) _ from rfl) (w p (rh.free hp))
  · exact w.elim

theorem cr_tuple : CallR X (.type "tuple") (liN G .tuple) := by
  intro pins s σ H xs us Q I r ⟨ds, h, R, rl, rh, w, k⟩
  replace w : oTuple ds h R := w
  unfold oTuple at w
  split at w
  · rename_i d
    obtain ⟨x, _, e, rx, e2⟩ := rl
    cases (show _ = [] from e2)
    subst e
    obtain ⟨a, ys, vs, rfl, sq, l, w⟩ := sqK_inv rh rx w
    refine call_tuple_of pins s σ H _ us Q I r ⟨a, vs, rfl, ?_⟩
    rcases sq with sq | sq
    · exact .inl ⟨by rw [hK]; exact sq, fun p hp => k _ h _ _ (tr_new rh hp _) (rh.new hp _) (newT hK rh l hp) w⟩
    · exact .inr ⟨by rw [hK]; exact sq, k (.tup ys) h _ H Tr.refl rh ⟨a, vs, rfl, sq, l⟩ w⟩
  · exact w.elim

theorem cr_allZ (hc : X.calm = true) : CallR X (.builtin "all") (liN G .all) := by
  intro pins s σ H xs us Q I r ⟨ds, h, R, rl, rh, w, k⟩
  replace w : oAll ds h R := w
  unfold oAll at w
  split at w
  · rename_i a
    obtain ⟨x, _, e, rx, e2⟩ := rl
    cases (show _ = [] from e2)
    subst e
    cases rx
    obtain ⟨ys, e1, bs, eb, w⟩ := lsK_inv w
    subst eb
    obtain ⟨vs, f1, l⟩ := rh.lsts e1
    cases l.bls
    exact cr_all hc pins s σ H _ us Q I r ⟨a, bs, rfl, SqL.of f1, k (.bl _) h _ H Tr.refl rh rfl w⟩
  · exact w.elim

theorem cr_anyZ (hc : X.calm = true) : CallR X (.builtin "any") (liN G .any) := by
  intro pins s σ H xs us Q I r ⟨ds, h, R, rl, rh, w, k⟩
  replace w : oAny ds h R := w
  unfold oAny at w
  split at w
  · rename_i a
    obtain ⟨x, _, e, rx, e2⟩ := rl
    cases (show _ = [] from e2)
    subst e
    cases rx
    obtain ⟨ys, e1, bs, eb, w⟩ := lsK_inv w
    subst eb
    obtain ⟨vs, f1, l⟩ := rh.lsts e1
    cases l.bls
    exact cr_any hc pins s σ H _ us Q I r ⟨a, bs, rfl, SqL.of f1, k (.bl _) h _ H Tr.refl rh rfl w⟩
  · exact w.elim

theorem cr_sumZ (hc : X.calm = true) : CallR X (.builtin "sum") (liN G .sum) := by
  intro pins s σ H xs us Q I r ⟨ds, h, R, rl, rh, w, k⟩
  replace w : oSum ds h R := w
  unfold oSum at w
  split at w
  · rename_i a
    obtain ⟨x, _, e, rx, e2⟩ := rl
    cases (show _ = [] from e2)
    subst e
    cases rx
    obtain ⟨ys, e1, bs, eb, w⟩ := lsK_inv w
    subst eb
    obtain ⟨vs, f1, l⟩ := rh.lsts e1
    cases l.ints
    exact cr_sum hc pins s σ H _ us Q I r ⟨a, bs, rfl, SqL.of f1, k (.int _) h _ H Tr.refl rh rfl w⟩
  · exact w.elim

theorem cr_max2Z (hc : X.calm = true) : CallR X (.builtin "max") (liN G .max2) := by
  intro pins s σ H xs us Q I r ⟨ds, h, R, rl, rh, w, k⟩
  replace w : oMax2 ds h R := w
  unfold oMax2 at w
  split at w
  · rename_i i j
    obtain ⟨x, _, e, rx, y, _, e2, ry, e3⟩ := rl
    cases (show _ = [] from e3)
    subst e2 e
    cases (show x = V.int i from rx); cases (show y = V.int j from ry)
    exact call_max2 hc pins s σ H _ us Q I r ⟨i, j, rfl, k (.int _) h _ H Tr.refl rh rfl w⟩
  · exact w.elim

theorem cr_min2Z (hc : X.calm = true) : CallR X (.builtin "min") (liN G .min2) := by
  intro pins s σ H xs us Q I r ⟨ds, h, R, rl, rh, w, k⟩
  replace w : oMin2 ds h R := w
  unfold oMin2 at w
  split at w
  · rename_i i j
    obtain ⟨x, _, e, rx, y, _, e2, ry, e3⟩ := rl
    cases (show _ = [] from e3)
    subst e2 e
    cases (show x = V.int i from rx); cases (show y = V.int j from ry)
    exact call_min2 hc pins s σ H _ us Q I r ⟨i, j, rfl, k (.int _) h _ H Tr.refl rh rfl w⟩
  · exact w.elim

end
end Z
set_option Elab.async false
set_option linter.all false
set_option maxRecDepth 100000
set_option maxHeartbeats 4000000
/-! Fw5: expressions. -/
namespace Z
open PySem (Str Addr sizeLine PyData Paired Expr Stmt Value Shared binaryOp compareOp unaryOp)
open L2
section
variable (G : Gd) (W : WX)
def XRep (H : Hp) (c : String) (fs : List (String × D)) (cls : Value) (d : Option Addr) : Prop := cls = .ref (G.cl c) ∧ fs = [] ∧ d = none ∧ c ∈ G.EL
def XOk (σ : L2.St) (h : DH) (H : Hp) (S : DX) : Prop := ∀ c fs h' cls d H', Tr h H h' H' → RepH G h' H' → XRep G H' c fs cls d → S c fs h' → W cls d σ H'
/-- data's reading of an expression, as the hand layer's -/
def liE (w : DS → DH → DK → DX → Prop) : TE := fun σ H Q => ∃ τ h R S, RepS G H τ σ ∧ RepH G h H ∧ w τ h R S ∧ (∀ d h' v H', Tr h H h' H' → RepH G h' H' → Rep G H' d v → R d h' → Q v H') ∧ XOk G W σ h H S
def liA (w : DS → DH → (List D → DH → Prop) → DX → Prop) : TA := fun σ H Q => ∃ τ h R S, RepS G H τ σ ∧ RepH G h H ∧ w τ h R S ∧ (∀ d h' v H', Tr h H h' H' → RepH G h' H' → RepL G H' d v → R d h' → Q v H') ∧ XOk G W σ h H S
def liT (w : DS → DH → (Bool → DH → Prop) → DX → Prop) : TT := fun σ H Q => ∃ τ h R S, RepS G H τ σ ∧ RepH G h H ∧ w τ h R S ∧ (∀ b h' H', Tr h H h' H' → RepH G h' H' → R b h' → Q b H') ∧ XOk G W σ h H S
end
section
variable {G : Gd} {W : WX} {X : Cx} {a b e : Expr} {es : List Expr} {pos : PySem.Pos}
theorem XOk.tr {σ : L2.St} {h h1 : DH} {H H1 : Hp} {S : DX} (x : XOk G W σ h H S) (t : Tr h H h1 H1) : XOk G W σ h1 H1 S := fun c fs h' cls d H' t' => x c fs h' cls d H' (t.trans t')
theorem _root_.L2.PE.via {t t' : TE} (p : PE X e t) (m : ∀ σ H Q, t' σ H Q → t σ H Q) : PE X e t' := ⟨fun pins s σ H Q I q => p.run pins s σ H Q I (m σ H Q q)⟩
theorem _root_.L2.PT.via {t t' : TT} (p : PT X e t) (m : ∀ σ H Q, t' σ H Q → t σ H Q) : PT X e t' := ⟨fun pins s σ H Q I q => p.run pins s σ H Q I (m σ H Q q)⟩
theorem _root_.L2.PA.via {t t' : TA} (p : PA X es t) (m : ∀ σ H Q, t' σ H Q → t σ H Q) : PA X es t' := ⟨fun pos pins s σ H Q I q => p.run pos pins s σ H Q I (m σ H Q q)⟩
variable {wa wb wc : DS → DH → DK → DX → Prop} {C : Pr}
theorem ze_var {i : Nat} {x : Str} (hN : X.N[i]? = some x) (hv : Vis X.env.scope x) (hd : (x == ("__debug__" : Str)) = false) (hcd : (x == ("__classdict__" : Str)) = false) : PE X (.Name x pos) (liE G W (wE C (.var i))) :=
  (pe_var hN hv hd hcd).via fun σ H Q ⟨τ, h, R, S, rs, rh, w, k, _⟩ => by
    simp only [wE] at w
    unfold slot at w
    split at w
    · rename_i d e
      obtain ⟨v, e1, r⟩ := rs.2 i d e
      exact ⟨v, e1, k _ _ _ _ Tr.refl rh r w⟩
    · exact w.elim
theorem ze_con {d : D} {v : V} (p : PE X e (tC v)) (hr : ∀ H, Rep G H d v) : PE X e (liE G W (wE C (.con d))) :=
  p.via fun σ H Q ⟨τ, h, R, S, rs, rh, w, k, _⟩ => by
    simp only [wE] at w
    exact k _ _ _ _ Tr.refl rh (hr H) w
theorem ze_glo {g : String} {d : D} {v : V} (hg : C.gl g = some d) (p : PE X e (tC v)) (hr : ∀ H, Rep G H d v) : PE X e (liE G W (wE C (.glo g))) :=
  p.via fun σ H Q ⟨τ, h, R, S, rs, rh, w, k, _⟩ => by
    simp only [wE, hg] at w
    exact k _ _ _ _ Tr.refl rh (hr H) w
/-- one, two operands -/
theorem li1_of {a1 : Ex} {o : Op} {σ : L2.St} {H : Hp} {Q : VK} (q : liE G W (wE C (.op o (.cons a1 .nil))) σ H Q) : liE G W (wE C a1) σ H fun x H1 => liN G o [x] H1 Q := by
  obtain ⟨τ, h, R, S, rs, rh, w, k, x⟩ := q
  simp only [wE, wEs] at w
  exact ⟨τ, h, _, S, rs, rh, w, fun d h1 v H1 t1 rh1 r1 w1 => ⟨[d], h1, R, ⟨v, [], rfl, r1, rfl⟩, rh1, w1, fun d2 h2 v2 H2 t2 rh2 r2 w2 => k d2 h2 v2 H2 (t1.trans t2) rh2 r2 w2⟩, x⟩
theorem li2_of {a1 a2 : Ex} {o : Op} {σ : L2.St} {H : Hp} {Q : VK} (q : liE G W (wE C (.op o (.cons a1 (.cons a2 .nil)))) σ H Q) : liE G W (wE C a1) σ H fun x H1 => liE G W (wE C a2) σ H1 fun y H2 => liN G o [x, y] H2 Q := by
  obtain ⟨τ, h, R, S, rs, rh, w, k, x⟩ := q
  simp only [wE, wEs] at w
  exact ⟨τ, h, _, S, rs, rh, w, fun d h1 v H1 t1 rh1 r1 w1 => ⟨τ, h1, _, S, rs.tr rh t1, rh1, w1, fun d2 h2 v2 H2 t2 rh2 r2 w2 =>
    ⟨[d, d2], h2, R, ⟨v, _, rfl, r1.tr rh1 t2, v2, [], rfl, r2, rfl⟩, rh2, w2, fun d3 h3 v3 H3 t3 rh3 r3 w3 => k d3 h3 v3 H3 ((t1.trans t2).trans t3) rh3 r3 w3⟩, x.tr t1⟩, x⟩
theorem liN_of {es' : Exs} {o : Op} {σ : L2.St} {H : Hp} {Q : VK} (q : liE G W (wE C (.op o es')) σ H Q) : liA G W (wEs C es') σ H fun xs H1 => liN G o xs H1 Q := by
  obtain ⟨τ, h, R, S, rs, rh, w, k, x⟩ := q
  simp only [wE] at w
  exact ⟨τ, h, _, S, rs, rh, w, fun d h1 v H1 t1 rh1 r1 w1 => ⟨d, h1, R, r1, rh1, w1, fun d2 h2 v2 H2 t2 rh2 r2 w2 => k d2 h2 v2 H2 (t1.trans t2) rh2 r2 w2⟩, x⟩
theorem ze_bin {op : PySem.Operator} {o : Op} {a1 b1 : Ex} (ho : OpR X (binaryOp op) (li2 G o)) (ha : PE X a (liE G W (wE C a1))) (hb : PE X b (liE G W (wE C b1))) : PE X (.BinOp a op b pos) (liE G W (wE C (.op o (.cons a1 (.cons b1 .nil))))) :=
  (pe_op ho ha hb).via fun _ _ _ q => li2_of q
theorem ze_cmp {op : PySem.CmpOp} {o : Op} {a1 b1 : Ex} (ho : OpR X (compareOp op) (li2 G o)) (ha : PE X a (liE G W (wE C a1))) (hb : PE X b (liE G W (wE C b1))) (hm : PySem.behindInMarks op b = false) : PE X (.Compare a [op] [b] pos) (liE G W (wE C (.op o (.cons a1 (.cons b1 .nil))))) :=
  (pe_cmpR ho ha hb hm).via fun _ _ _ q => li2_of q
theorem ze_neg {a1 : Ex} (hK : X.K = G.K) (ha : PE X a (liE G W (wE C a1))) : PE X (.UnaryOp .USub a pos) (liE G W (wE C (.op .neg (.cons a1 .nil)))) :=
  (pe_un (ur_neg hK) ha).via fun _ _ _ q => li1_of q
theorem isNon_dec {H : Hp} {d : D} {v : V} (r : Rep G H d v) : decide (v = V.non) = isNon d := by
  cases d with
  | non => cases (show v = V.non from r); rfl
  | bl b => cases (show v = V.bl b from r); rfl
  | int b => cases (show v = V.int b from r); rfl
  | str b => cases (show v = V.str b from r); rfl
  | ref b => cases (show v = V.ref b from r); rfl
  | tup xs => obtain ⟨_, _, e, _⟩ := r; subst e; rfl
  | fl xs => obtain ⟨_, _, e, _⟩ := r; subst e; rfl
theorem ze_isN {a1 : Ex} {j : Nat} {pos' : PySem.Pos} (ha : PE X a (liE G W (wE C a1))) : PE X (.Compare a [.Is] [.Constant .none j pos'] pos) (liE G W (wE C (.op .isN (.cons a1 .nil)))) :=
  (pe_cmp (pc_isN ha) rfl).via fun σ H Q q => by
    obtain ⟨τ, h, R, S, rs, rh, w, k, x⟩ := li1_of q
    refine ⟨τ, h, R, S, rs, rh, w, fun d h' v H' t rh' r w' => ?_, x⟩
    obtain ⟨ds, h2, R2, rl, rh2, w2, k2⟩ := k d h' v H' t rh' r w'
    obtain ⟨d2, rfl, r2⟩ := rl.one
    rw [isNon_dec r2]
    exact k2 (.bl _) h2 _ _ Tr.refl rh2 rfl w2
theorem ze_notN {a1 : Ex} {j : Nat} {pos' : PySem.Pos} (ha : PE X a (liE G W (wE C a1))) : PE X (.Compare a [.IsNot] [.Constant .none j pos'] pos) (liE G W (wE C (.op .notN (.cons a1 .nil)))) :=
  (pe_cmp (pc_notN ha) rfl).via fun σ H Q q => by
    obtain ⟨τ, h, R, S, rs, rh, w, k, x⟩ := li1_of q
    refine ⟨τ, h, R, S, rs, rh, w, fun d h' v H' t rh' r w' => ?_, x⟩
    obtain ⟨ds, h2, R2, rl, rh2, w2, k2⟩ := k d h' v H' t rh' r w'
    obtain ⟨d2, rfl, r2⟩ := rl.one
    rw [isNon_dec r2]
    exact k2 (.bl _) h2 _ _ Tr.refl rh2 rfl w2
theorem isEmpty_rep {H : Hp} {xs : List D} {vs : List V} (l : RepL G H xs vs) : vs.isEmpty = xs.isEmpty := by
  cases xs with
  | nil => cases (show vs = [] from l); rfl
  | cons y ys => obtain ⟨_, _, e, _⟩ := l; subst e; rfl
theorem truK_inv (hK : X.K = G.K) {H : Hp} {h : DH} {d : D} {x : V} {R : Bool → Prop} (r : Rep G H d x) (rh : RepH G h H) (w : truK h d R) : ∃ k, TruV X.K x H k ∧ R k := by
  cases d with
  | non => cases r; exact ⟨false, rfl, w⟩
  | bl b => cases r; exact ⟨b, rfl, w⟩
  | int i => cases r; exact ⟨decide (i ≠ 0), by show _ = (i != 0); simp [bne, Bool.beq_eq_decide_eq], w⟩
  | str z => cases r; exact ⟨decide (z.length ≠ 0), ⟨w.1, by simp [bne, Bool.beq_eq_decide_eq]⟩, w.2⟩
  | tup xs =>
    obtain ⟨a, vs, rfl, q, l⟩ := r
    exact ⟨!xs.isEmpty, .inr (.inl ⟨vs, by rw [hK]; exact q, by rw [isEmpty_rep l]⟩), w⟩
  | fl xs =>
    obtain ⟨a, vs, rfl, q, l⟩ := r
    exact ⟨!xs.isEmpty, .inl ⟨vs, by rw [hK]; exact q.l, by rw [isEmpty_rep l]⟩, w⟩
  | ref a =>
    cases r
    obtain ⟨xs, e, w⟩ := lsK_inv w
    obtain ⟨vs, e2, l⟩ := rh.lsts e
    exact ⟨!xs.isEmpty, .inl ⟨vs, SqL.of e2, by rw [isEmpty_rep l]⟩, w⟩
theorem ze_not {a1 : Ex} (hK : X.K = G.K) (ha : PE X a (liE G W (wE C a1))) : PE X (.UnaryOp .Not a pos) (liE G W (wE C (.op .notv (.cons a1 .nil)))) :=
  (pe_notT ha).via fun σ H Q q => by
    obtain ⟨τ, h, R, S, rs, rh, w, k, x⟩ := li1_of q
    refine ⟨τ, h, R, S, rs, rh, w, fun d h' v H' t rh' r w' => ?_, x⟩
    obtain ⟨ds, h2, R2, rl, rh2, w2, k2⟩ := k d h' v H' t rh' r w'
    obtain ⟨d2, rfl, r2⟩ := rl.one
    obtain ⟨b, tv, w3⟩ := truK_inv hK r2 rh2 (show truK h2 d2 fun b => R2 (.bl (!b)) h2 from w2)
    exact ⟨b, tv, k2 (.bl _) h2 _ _ Tr.refl rh2 rfl w3⟩
theorem ze_and {rest : List Expr} {a1 b1 : Ex} (hK : X.K = G.K) (ha : PE X a (liE G W (wE C a1))) (hb : PE X (.BoolOp .And (b :: rest) pos) (liE G W (wE C b1))) : PE X (.BoolOp .And (a :: b :: rest) pos) (liE G W (wE C (.andV a1 b1))) :=
  (pe_andT ha hb).via fun σ H Q ⟨τ, h, R, S, rs, rh, w, k, x⟩ => by
    simp only [wE] at w
    refine ⟨τ, h, _, S, rs, rh, w, fun d h1 v H1 t1 rh1 r1 w1 => ?_, x⟩
    obtain ⟨c, tv, w1⟩ := truK_inv hK r1 rh1 w1
    refine ⟨c, tv, ?_⟩
    cases c with
    | true => exact ⟨τ, h1, R, S, rs.tr rh t1, rh1, w1, fun d2 h2 v2 H2 t2 rh2 r2 w2 => k d2 h2 v2 H2 (t1.trans t2) rh2 r2 w2, x.tr t1⟩
    | false => exact k d h1 v H1 t1 rh1 r1 w1
theorem ze_or {rest : List Expr} {a1 b1 : Ex} (hK : X.K = G.K) (ha : PE X a (liE G W (wE C a1))) (hb : PE X (.BoolOp .Or (b :: rest) pos) (liE G W (wE C b1))) : PE X (.BoolOp .Or (a :: b :: rest) pos) (liE G W (wE C (.orV a1 b1))) :=
  (pe_orT ha hb).via fun σ H Q ⟨τ, h, R, S, rs, rh, w, k, x⟩ => by
    simp only [wE] at w
    refine ⟨τ, h, _, S, rs, rh, w, fun d h1 v H1 t1 rh1 r1 w1 => ?_, x⟩
    obtain ⟨c, tv, w1⟩ := truK_inv hK r1 rh1 w1
    refine ⟨c, tv, ?_⟩
    cases c with
    | false => exact ⟨τ, h1, R, S, rs.tr rh t1, rh1, w1, fun d2 h2 v2 H2 t2 rh2 r2 w2 => k d2 h2 v2 H2 (t1.trans t2) rh2 r2 w2, x.tr t1⟩
    | true => exact k d h1 v H1 t1 rh1 r1 w1
theorem ze_one {op : PySem.BoolOp} {w : DS → DH → DK → DX → Prop} (ha : PE X a (liE G W w)) : PE X (.BoolOp op [a] pos) (liE G W w) := pe_one ha
theorem ze_ite {c : Expr} {t1 : Ts} {a1 b1 : Ex} (hc : PT X c (liT G W (wT C t1))) (ha : PE X a (liE G W (wE C a1))) (hb : PE X b (liE G W (wE C b1))) : PE X (.IfExp c a b pos) (liE G W (wE C (.ite t1 a1 b1))) :=
  (pe_ifExp hc ha hb).via fun σ H Q ⟨τ, h, R, S, rs, rh, w, k, x⟩ => by
    simp only [wE] at w
    refine ⟨τ, h, _, S, rs, rh, w, fun c h1 H1 t1 rh1 w1 => ?_, x⟩
    cases c with
    | false => exact ⟨τ, h1, R, S, rs.tr rh t1, rh1, w1, fun d2 h2 v2 H2 t2 rh2 r2 w2 => k d2 h2 v2 H2 (t1.trans t2) rh2 r2 w2, x.tr t1⟩
    | true => exact ⟨τ, h1, R, S, rs.tr rh t1, rh1, w1, fun d2 h2 v2 H2 t2 rh2 r2 w2 => k d2 h2 v2 H2 (t1.trans t2) rh2 r2 w2, x.tr t1⟩
theorem ze_chain {c : Expr} {op op' : PySem.CmpOp} {o o' : Op} {a1 b1 c1 : Ex} (ho : OpR X (compareOp op) (li2 G o)) (ho' : OpR X (compareOp op') (li2 G o')) (ha : PE X a (liE G W (wE C a1))) (hb : PE X b (liE G W (wE C b1))) (hc : PE X c (liE G W (wE C c1)))
    (hm : PySem.lastMarks [op, op'] [b, c] = false) : PE X (.Compare a [op, op'] [b, c] pos) (liE G W (wE C (.chain o o' a1 b1 c1))) :=
  (pe_chain ho ho' ha hb hc hm).via fun σ H Q ⟨τ, h, R, S, rs, rh, w, k, x⟩ => by
    simp only [wE] at w
    refine ⟨τ, h, _, S, rs, rh, w, fun d h1 v H1 t1 rh1 r1 w1 => ?_, x⟩
    refine ⟨τ, h1, _, S, rs.tr rh t1, rh1, w1, fun d2 h2 v2 H2 t2 rh2 r2 w2 => ?_, x.tr t1⟩
    refine ⟨[d, d2], h2, _, ⟨v, _, rfl, r1.tr rh1 t2, v2, [], rfl, r2, rfl⟩, rh2, w2, fun d3 h3 v3 H3 t3 rh3 r3 w3 => ?_⟩
    cases d3 with
    | bl q =>
      cases (show v3 = V.bl q from r3)
      refine ⟨q, rfl, ?_⟩
      have t4 := (t1.trans t2).trans t3
      cases q with
      | true => exact ⟨τ, h3, _, S, rs.tr rh t4, rh3, w3, fun d5 h5 v5 H5 t5 rh5 r5 w5 => ⟨[d2, d5], h5, R, ⟨v2, _, rfl, r2.tr rh2 (t3.trans t5), v5, [], rfl, r5, rfl⟩, rh5, w5, fun d6 h6 v6 H6 t6 rh6 r6 w6 => k d6 h6 v6 H6 ((t4.trans t5).trans t6) rh6 r6 w6⟩, x.tr t4⟩
      | false => exact k (.bl false) h3 _ H3 t4 rh3 rfl w3
    | _ => exact False.elim w3
/-- argument lists -/
theorem za_nil : PA X [] (liA G W (wEs C .nil)) := pa_nil.via fun σ H Q ⟨τ, h, R, S, rs, rh, w, k, _⟩ => by
  simp only [wEs] at w
  exact k [] h [] H Tr.refl rh rfl w
theorem za_cons {a1 : Ex} {es1 : Exs} (ha : PE X a (liE G W (wE C a1))) (hr : PA X es (liA G W (wEs C es1))) (hs : PySem.starEach (a :: es) X.env = (false, PySem.eval a X.env) :: PySem.starEach es X.env) : PA X (a :: es) (liA G W (wEs C (.cons a1 es1))) :=
  (pa_cons ha hr hs).via fun σ H Q ⟨τ, h, R, S, rs, rh, w, k, x⟩ => by
    simp only [wEs] at w
    exact ⟨τ, h, _, S, rs, rh, w, fun d h1 v H1 t1 rh1 r1 w1 => ⟨τ, h1, _, S, rs.tr rh t1, rh1, w1, fun d2 h2 v2 H2 t2 rh2 r2 w2 => k (d :: d2) h2 (v :: v2) H2 (t1.trans t2) rh2 ⟨v, v2, rfl, r1.tr rh1 t2, r2⟩ w2, x.tr t1⟩, x⟩
theorem ze_tup {es1 : Exs} {x1 : Nat} (hK : X.K = G.K) (h : PA X es (liA G W (wEs C es1))) : PE X (.Tuple es x1 pos) (liE G W (wE C (.op .tup es1))) :=
  (pe_tup h).via fun σ H Q q => by
    obtain ⟨τ, h, R, S, rs, rh, w, k, x⟩ := liN_of q
    refine ⟨τ, h, R, S, rs, rh, w, fun d h' v H' t rh' r w' => ?_, x⟩
    obtain ⟨ds, h2, R2, rl, rh2, w2, k2⟩ := k d h' v H' t rh' r w'
    refine ⟨by rw [← rl.length]; exact w2.1, fun p hp => ?_⟩
    exact k2 (.tup ds) h2 _ _ (tr_new rh2 hp _) (rh2.new hp _) (newT hK rh2 rl hp) w2.2
theorem ze_lst {es1 : Exs} (hK : X.K = G.K) (h : PA X es (liA G W (wEs C es1))) : PE X (.List es pos) (liE G W (wE C (.op .lst es1))) :=
  (pe_lst h).via fun σ H Q q => by
    obtain ⟨τ, h, R, S, rs, rh, w, k, x⟩ := liN_of q
    refine ⟨τ, h, R, S, rs, rh, w, fun d h' v H' t rh' r w' => ?_, x⟩
    obtain ⟨ds, h2, R2, rl, rh2, w2, k2⟩ := k d h' v H' t rh' r w'
    refine ⟨by rw [← rl.length]; exact w2.1, fun p hp => ?_⟩
    exact k2 _ _ _ _ (tr_newD rh2 hp _ _) (newL hK rh2 rl hp) (show Rep G _ (.ref p) _ from rfl) (w2.2 p (rh2.free hp))
theorem ze_idx {a1 b1 : Ex} (hK : X.K = G.K) (ha : PE X a (liE G W (wE C a1))) (hb : PE X b (liE G W (wE C b1))) (hs : PlainIx b) : PE X (.Subscript a b pos) (liE G W (wE C (.op .idx (.cons a1 (.cons b1 .nil))))) :=
  (pe_ix (ix_ok hK) ha hb hs).via fun _ _ _ q => li2_of q
theorem ze_callB {es1 : Exs} {o : Op} {id : String} {x : Str} {p : PySem.Pos} (hc : CallR X (.builtin id) (liN G o)) (hg : Gl X x) (hm : X.mg x = none) (hv : PySem.bootBuiltins x = some (.builtin id)) (ha : PA X (e :: es) (liA G W (wEs C es1))) (hn : x ≠ "__name__") (hdb : (x == ("__debug__" : Str)) = false)
    (he : PySem.starEach (e :: es) X.env = (false, PySem.eval e X.env) :: PySem.starEach es X.env) (hpl : (PySem.backTo pos (PySem.starEach es X.env)).any (·.1) = false) : PE X (.Call (.Name x p) (e :: es) [] pos) (liE G W (wE C (.op o es1))) :=
  (pe_callB hc hg hm hv ha hn hdb he hpl).via fun _ _ _ q => liN_of q
theorem ze_callTy {es1 : Exs} {o : Op} {id : String} {x : Str} {p : PySem.Pos} (hc : CallR X (.type id) (liN G o)) (hg : Gl X x) (hm : X.mg x = none) (hv : PySem.bootBuiltins x = some (.type id)) (ha : PA X (e :: es) (liA G W (wEs C es1))) (hn : x ≠ "__name__") (hdb : (x == ("__debug__" : Str)) = false)
    (he : PySem.starEach (e :: es) X.env = (false, PySem.eval e X.env) :: PySem.starEach es X.env) (hpl : (PySem.backTo pos (PySem.starEach es X.env)).any (·.1) = false) : PE X (.Call (.Name x p) (e :: es) [] pos) (liE G W (wE C (.op o es1))) :=
  (pe_callTy hc hg hm hv ha hn hdb he hpl).via fun _ _ _ q => liN_of q
end
end Z
set_option Elab.async false
set_option linter.all false
set_option maxRecDepth 100000
set_option maxHeartbeats 4000000
/-! Fw6: slices, attributes, isinstance, calls, tests. -/
namespace Z
open PySem (Str Addr sizeLine PyData Paired Expr Stmt Value Shared binaryOp compareOp unaryOp)
open L2
section
variable {G : Gd} {W : WX} {X : Cx} {a b e : Expr} {es : List Expr} {pos p2 : PySem.Pos} {C : Pr}
/-! slices -/
theorem ze_sl00 {a1 : Ex} (hK : X.K = G.K) (ha : PE X a (liE G W (wE C a1))) : PE X (.Subscript a (.Slice none none none p2) pos) (liE G W (wE C (.op (.slc false false) (.cons a1 .nil)))) :=
  (pe_slice (sl_ok hK) ha po_none po_none).via fun σ H Q q => by
    obtain ⟨τ, h, R, S, rs, rh, w, k, x⟩ := li1_of q
    refine ⟨τ, h, R, S, rs, rh, w, fun d h' v H' t rh' r w' => ?_, x⟩
    obtain ⟨ds, h2, R2, rl, rh2, w2, k2⟩ := k d h' v H' t rh' r w'
    obtain ⟨d2, rfl, r2⟩ := rl.one
    exact ⟨d2, h2, R2, r2, rh2, w2, k2⟩
theorem ze_sl10 {lo : Expr} {a1 b1 : Ex} (hK : X.K = G.K) (ha : PE X a (liE G W (wE C a1))) (hl : PE X lo (liE G W (wE C b1))) : PE X (.Subscript a (.Slice (some lo) none none p2) pos) (liE G W (wE C (.op (.slc true false) (.cons a1 (.cons b1 .nil))))) :=
  (pe_slice (sl_ok hK) ha (po_some hl) po_none).via fun σ H Q q => by
    obtain ⟨τ, h, R, S, rs, rh, w, k, x⟩ := li2_of q
    refine ⟨τ, h, R, S, rs, rh, w, fun d h' v H' t rh' r w' => ?_, x⟩
    obtain ⟨τ2, h2, R2, S2, rs2, rh2, w2, k2, x2⟩ := k d h' v H' t rh' r w'
    refine ⟨τ2, h2, R2, S2, rs2, rh2, w2, fun d3 h3 v3 H3 t3 rh3 r3 w3 => ?_, x2⟩
    obtain ⟨ds, h4, R4, rl, rh4, w4, k4⟩ := k2 d3 h3 v3 H3 t3 rh3 r3 w3
    obtain ⟨d5, d6, rfl, r5, r6⟩ := rl.two
    cases d6 with
    | int i => exact ⟨i, r6, d5, h4, R4, r5, rh4, w4, k4⟩
    | _ => exact False.elim w4
theorem ze_sl01 {hi : Expr} {a1 b1 : Ex} (hK : X.K = G.K) (ha : PE X a (liE G W (wE C a1))) (hl : PE X hi (liE G W (wE C b1))) : PE X (.Subscript a (.Slice none (some hi) none p2) pos) (liE G W (wE C (.op (.slc false true) (.cons a1 (.cons b1 .nil))))) :=
  (pe_slice (sl_ok hK) ha po_none (po_some hl)).via fun σ H Q q => by
    obtain ⟨τ, h, R, S, rs, rh, w, k, x⟩ := li2_of q
    refine ⟨τ, h, R, S, rs, rh, w, fun d h' v H' t rh' r w' => ?_, x⟩
    obtain ⟨τ2, h2, R2, S2, rs2, rh2, w2, k2, x2⟩ := k d h' v H' t rh' r w'
    refine ⟨τ2, h2, R2, S2, rs2, rh2, w2, fun d3 h3 v3 H3 t3 rh3 r3 w3 => ?_, x2⟩
    obtain ⟨ds, h4, R4, rl, rh4, w4, k4⟩ := k2 d3 h3 v3 H3 t3 rh3 r3 w3
    obtain ⟨d5, d6, rfl, r5, r6⟩ := rl.two
    cases d6 with
    | int i => exact ⟨i, r6, d5, h4, R4, r5, rh4, w4, k4⟩
    | _ => exact False.elim w4
theorem ze_sl11 {lo hi : Expr} {a1 b1 c1 : Ex} (hK : X.K = G.K) (ha : PE X a (liE G W (wE C a1))) (hl : PE X lo (liE G W (wE C b1))) (hh : PE X hi (liE G W (wE C c1))) : PE X (.Subscript a (.Slice (some lo) (some hi) none p2) pos) (liE G W (wE C (.sl2 a1 b1 c1))) :=
  (pe_slice (sl_ok hK) ha (po_some hl) (po_some hh)).via fun σ H Q ⟨τ, h, R, S, rs, rh, w, k, x⟩ => by
    simp only [wE] at w
    refine ⟨τ, h, _, S, rs, rh, w, fun d h1 v H1 t1 rh1 r1 w1 => ?_, x⟩
    refine ⟨τ, h1, _, S, rs.tr rh t1, rh1, w1, fun d2 h2 v2 H2 t2 rh2 r2 w2 => ?_, x.tr t1⟩
    cases d2 with
    | int i =>
      refine ⟨i, r2, τ, h2, _, S, rs.tr rh (t1.trans t2), rh2, w2, fun d3 h3 v3 H3 t3 rh3 r3 w3 => ?_, x.tr (t1.trans t2)⟩
      cases d3 with
      | int j => exact ⟨j, r3, d, h3, R, r1.tr rh1 (t2.trans t3), rh3, w3, fun d4 h4 v4 H4 t4 rh4 r4 w4 => k d4 h4 v4 H4 (((t1.trans t2).trans t3).trans t4) rh4 r4 w4⟩
      | _ => exact False.elim w3
    | _ => exact False.elim w2
/-! attributes -/
theorem ofString_inj {a b : String} (h : Str.ofString a = Str.ofString b) : a = b := by
  rw [Str.ofString_eq_toList, Str.ofString_eq_toList] at h
  have h1 := congrArg (fun s : Str => s.cps.toList) h
  simp only at h1
  have inj : ∀ l m : List Char, l.map Char.toNat = m.map Char.toNat → l = m := by
    intro l
    induction l with
    | nil => intro m e; cases m with
      | nil => rfl
      | cons => cases e
    | cons c r ih => intro m e; cases m with
      | nil => cases e
      | cons d t =>
        simp only [List.map_cons, List.cons.injEq] at e
        rw [ih t e.2, Char.toNat_inj.mp e.1]
  exact String.toList_inj.mp (inj _ _ h1)
theorem RepA.lookup {H : Hp} {f : String} : ∀ {fs : List (String × D)} {ws : List (Str × V)}, RepA G H Str.ofString fs ws → (∀ d, fs.lookup f = some d → ∃ v, ws.lookup (Str.ofString f) = some v ∧ Rep G H d v) ∧ (fs.lookup f = none → ws.lookup (Str.ofString f) = none)
  | [], _, q => by cases (show _ = [] from q); exact ⟨fun d e => by simp at e, fun _ => rfl⟩
  | (g, x) :: r, _, ⟨v, r', e, rx, l⟩ => by
    subst e
    obtain ⟨i1, i2⟩ := RepA.lookup l
    by_cases hg : f = g
    · subst hg
      have b1 : (f == f) = true := beq_self_eq_true f
      have b2 : (Str.ofString f == Str.ofString f) = true := beq_self_eq_true _
      simp only [List.lookup, b1, b2]
      exact ⟨fun d e => ⟨v, rfl, by cases e; exact rx⟩, fun e => by cases e⟩
    · have b1 : (f == g) = false := beq_eq_false_iff_ne.mpr hg
      have b2 : (Str.ofString f == Str.ofString g) = false := beq_eq_false_iff_ne.mpr fun z => hg (ofString_inj z)
      simp only [List.lookup, b1, b2]
      exact ⟨i1, i2⟩
theorem RepA.put {H : Hp} {f : String} {d : D} {v : V} (rd : Rep G H d v) : ∀ {fs : List (String × D)} {ws : List (Str × V)}, RepA G H Str.ofString fs ws → RepA G H Str.ofString (putA f d fs) (putF (Str.ofString f) v ws)
  | [], _, q => by cases (show _ = [] from q); exact ⟨v, [], rfl, rd, rfl⟩
  | (g, x) :: r, _, ⟨u, r', e, rx, l⟩ => by
    subst e
    show RepA G H Str.ofString (if g = f then (f, d) :: r else (g, x) :: putA f d r) (if Str.ofString g = Str.ofString f then (Str.ofString g, v) :: r' else (Str.ofString g, u) :: putF (Str.ofString f) v r')
    by_cases hg : g = f
    · rw [if_pos hg, if_pos (congrArg _ hg)]
      exact ⟨v, r', by rw [hg], rd, l⟩
    · rw [if_neg hg, if_neg fun z => hg (ofString_inj z)]
      exact ⟨u, _, rfl, rx, RepA.put rd l⟩
theorem RepA.len {α β : Type} {F : α → β} {H : Hp} : ∀ {fs : List (α × D)} {ws : List (β × V)}, RepA G H F fs ws → fs.length = ws.length
  | [], _, q => by cases (show _ = [] from q); rfl
  | _ :: _, _, ⟨_, _, e, _, l⟩ => by subst e; simp [RepA.len l]
theorem mem_putA {f : String} {d : D} : ∀ {fs : List (String × D)} {p : String × D}, p ∈ putA f d fs → p.1 = f ∨ p ∈ fs
  | [], p, h => by simp [putA] at h; subst h; exact .inl rfl
  | (g, x) :: r, p, h => by
    unfold putA at h
    split at h
    · rcases List.mem_cons.mp h with e | e
      · subst e; exact .inl rfl
      · exact .inr (List.mem_cons_of_mem _ e)
    · rcases List.mem_cons.mp h with e | e
      · subst e; exact .inr List.mem_cons_self
      · rcases mem_putA e with z | z
        · exact .inl z
        · exact .inr (List.mem_cons_of_mem _ z)
theorem lookup_mem {f : String} : ∀ {fs : List (String × D)} {d : D}, fs.lookup f = some d → (f, d) ∈ fs
  | [], _, e => by simp at e
  | (g, x) :: r, d, e => by
    by_cases hg : f = g
    · subst hg
      have b1 : (f == f) = true := beq_self_eq_true f
      simp only [List.lookup, b1] at e
      cases e; exact List.mem_cons_self
    · have b1 : (f == g) = false := beq_eq_false_iff_ne.mpr hg
      simp only [List.lookup, b1] at e
      exact List.mem_cons_of_mem _ (lookup_mem e)
/-- what the top has made of the classes -/
structure ClsF (G : Gd) (Y : Sc) : Prop where
  cls : ∀ c, c ∈ G.CL → Cls Y.K (G.cl c)
  no : ∀ c f, (c, f) ∈ G.FL → NoAttr Y.K (G.cl c) (Str.ofString f)
theorem ze_att {a1 : Ex} {f : String} (F : ClsF G X.sc) (ha : PE X a (liE G W (wE C a1))) (hb : PySem.attributeBase a (Str.ofString f) X.env (PySem.eval a X.env) = PySem.eval a X.env) : PE X (.Attribute a (Str.ofString f) pos) (liE G W (wE C (.op (.att f) (.cons a1 .nil)))) :=
  (pe_fld ha hb).via fun σ H Q q => by
    obtain ⟨τ, h, R, S, rs, rh, w, k, x⟩ := li1_of q
    refine ⟨τ, h, R, S, rs, rh, w, fun d h' v H' t rh' r w' => ?_, x⟩
    obtain ⟨ds, h2, R2, rl, rh2, w2, k2⟩ := k d h' v H' t rh' r w'
    obtain ⟨d2, rfl, r2⟩ := rl.one
    cases d2 with
    | ref p =>
      have w3 : (match h2 p with
        | some (.ins _ fs) => (match fs.lookup f with
          | some d => R2 d h2
          | none => False)
        | _ => False) := w2
      split at w3
      · rename_i c fs ep
        split at w3
        · rename_i y el
          obtain ⟨dx, ws, e3, l, hc, hf⟩ := rh2 p _ ep
          obtain ⟨u, e4, ru⟩ := (RepA.lookup l).1 y el
          exact ⟨p, _, dx, ws, u, r2, e3, F.cls c hc, F.no c f (hf _ (lookup_mem el)), e4, k2 y h2 u _ Tr.refl rh2 ru w3⟩
        · exact w3.elim
      · exact w3.elim
    | _ => exact False.elim w2
end
end Z
set_option Elab.async false
set_option linter.all false
set_option maxRecDepth 100000
set_option maxHeartbeats 4000000
/-! Fw7: isinstance, calls, methods, tests. -/
namespace Z
open PySem (Str Addr sizeLine PyData Paired Expr Stmt Value Shared binaryOp compareOp unaryOp)
open L2
section
variable {G : Gd} {W : WX} {X : Cx} {a b e : Expr} {es : List Expr} {pos p p2 apos : PySem.Pos} {C : Pr}
/-! isinstance -/
def isiTys : List String := ["int", "bool", "str", "tuple", "list", "dict"]
theorem kit_tab {K : PySem.W.Frag} : ∀ t ∈ isiTys, ∀ s ∈ (["NoneType", "bool", "int", "str", "tuple", "list", "dict"] : List String), PySem.W.kitOne K (.type s) (.type t) = some (s == t || (s == "bool" && t == "int")) := by
  intro t ht s hs
  simp only [isiTys, List.mem_cons, List.not_mem_nil, or_false] at ht hs
  rcases ht with rfl | rfl | rfl | rfl | rfl | rfl <;> rcases hs with rfl | rfl | rfl | rfl | rfl | rfl | rfl <;> exact kit_ty (by decide +kernel)
theorem ty_of (hK : X.K = G.K) {h : DH} {H : Hp} (rh : RepH G h H) {t : String} (ht : t ∈ isiTys) {d : D} {v : V} (r : Rep G H d v) {k : Bool} (w : isiD t h d = some k) : ∃ s, TyX X.K H v s ∧ PySem.W.kitOne X.K s (.type t) = some k := by
  have fin : ∀ s : String, s ∈ (["NoneType", "bool", "int", "str", "tuple", "list", "dict"] : List String) → TyX X.K H v (.type s) → (s == t || (s == "bool" && t == "int")) = k → ∃ s, TyX X.K H v s ∧ PySem.W.kitOne X.K s (.type t) = some k := fun s hs ty e => ⟨.type s, ty, by rw [← e]; exact kit_tab t ht s hs⟩
  have sw : ∀ s : String, (t == s) = (s == t) := fun s => by rw [Bool.eq_iff_iff, beq_iff_eq, beq_iff_eq]; exact ⟨Eq.symm, Eq.symm⟩
  cases d with
  | non =>
    cases r
    refine fin "NoneType" (by decide) (.base .non) ?_
    cases w
    simp only [isiTys, List.mem_cons, List.not_mem_nil, or_false] at ht
    rcases ht with rfl | rfl | rfl | rfl | rfl | rfl <;> decide
  | bl b =>
    cases r
    refine fin "bool" (by decide) (.base (.bl b)) ?_
    cases w
    rw [sw "bool"]; simp
  | int b =>
    cases r
    refine fin "int" (by decide) (.base (.int b)) ?_
    cases w
    rw [sw "int"]; simp
  | str b =>
    cases r
    refine fin "str" (by decide) (.base (.str b)) ?_
    cases w
    rw [sw "str"]; simp
  | tup xs =>
    obtain ⟨a, vs, rfl, q, l⟩ := r
    refine fin "tuple" (by decide) ?_ (by cases w; rw [sw "tuple"]; simp)
    rw [hK]
    rcases q with (q | ⟨o, q⟩) | ⟨o, its, n, q, c, _⟩
    · exact .base (.tup q)
    · exact .fTuple q
    · exact .kTuple q c
  | fl xs =>
    obtain ⟨a, vs, rfl, q, l⟩ := r
    refine fin "list" (by decide) ?_ (by cases w; rw [sw "list"]; simp)
    rw [hK]
    rcases q with ⟨o, q⟩ | ⟨o, its, n, q, c, _⟩
    · exact .base (.frz q)
    · exact .kList q c
  | ref a =>
    cases r
    simp only [isiD] at w
    split at w
    · rename_i xs e
      obtain ⟨vs, e2, _⟩ := rh a _ e
      exact fin "list" (by decide) (.base (.lst e2)) (by cases w; rw [sw "list"]; simp)
    · rename_i xs e
      obtain ⟨vs, e2, _⟩ := rh a _ e
      exact fin "dict" (by decide) (.base (.dK e2)) (by cases w; rw [sw "dict"]; simp)
    · rename_i xs e
      obtain ⟨vs, e2, _⟩ := rh a _ e
      exact fin "dict" (by decide) (.base (.dT e2)) (by cases w; rw [sw "dict"]; simp)
    · cases w
theorem ze_isi {a1 : Ex} {t : String} {x : Str} {p3 : PySem.Pos} (hK : X.K = G.K) (ht : t ∈ isiTys) (hg : Gl X "isinstance") (hm : X.mg "isinstance" = none) (ha : PE X a (liE G W (wE C a1))) (hb : PE X (.Name x p3) (tC (.ty t)))
    (hs : PySem.starEach [a, .Name x p3] X.env = (false, PySem.eval a X.env) :: PySem.starEach [.Name x p3] X.env) : PE X (.Call (.Name "isinstance" p) [a, .Name x p3] [] pos) (liE G W (wE C (.op (.isi t) (.cons a1 .nil)))) :=
  (pe_callB call_isi hg hm (by decide +kernel) (pa_cons ha (pa_cons hb pa_nil rfl) hs) (by decide) (by decide) hs rfl).via fun σ H Q q => by
    obtain ⟨τ, h, R, S, rs, rh, w, k, xx⟩ := li1_of q
    refine ⟨τ, h, R, S, rs, rh, w, fun d h' v H' t' rh' r w' => ?_, xx⟩
    obtain ⟨ds, h2, R2, rl, rh2, w2, k2⟩ := k d h' v H' t' rh' r w'
    obtain ⟨d2, rfl, r2⟩ := rl.one
    have w3 : (match isiD t h2 d2 with
      | some b => R2 (.bl b) h2
      | none => False) := w2
    split at w3
    · rename_i b eb
      obtain ⟨s, ty, e⟩ := ty_of hK rh2 ht r2 eb
      exact ⟨v, .ty t, s, .type t, b, rfl, .ty t, ty, e, k2 (.bl b) h2 _ _ Tr.refl rh2 rfl w3⟩
    · exact w3.elim
/-! own defs -/
/-- what a def promises, by data -/
def spD (G : Gd) (f : List D → DH → DK → DX → Prop) (n : Nat) : Sp := fun vs H Q E => ∃ ds h R S, RepL G H ds vs ∧ ds.length = n ∧ RepH G h H ∧ f ds h R S ∧ (∀ d h' v H', Tr h H h' H' → RepH G h' H' → Rep G H' d v → R d h' → Q v H') ∧
  ∀ c fs h' cls d H', Tr h H h' H' → RepH G h' H' → XRep G H' c fs cls d → S c fs h' → E cls d H'
/-- a def of the text stands in the module (or in a class) -/
structure FnF (G : Gd) (Y : Sc) (k : Nat) (f : List D → DH → DK → DX → Prop) (fa : Addr) : Prop where
  ok : ∃ n fd ps, (∀ ds h R S, f ds h R S → ds.length = n) ∧ Binds Y.K fd ps [] ∧ FnOk Y.prog Y.w Y.K Y.mg Y.base (L2.CX Y.prog Y.w) k fa fd ps (spD G f n)
  kp : PySem.W.keepIn Y.K (.ref fa) = true
theorem run_fnZ {k : Nat} {f : Addr} {fd : PySem.FuncData} {ps : List Str} {sp : Sp} {pins : List (Addr × PySem.Obj)} {σ : L2.St} {H : Hp} {s : Shared} {Q : VK} {us : List Value} {vs : List V} {E : XK} (F : FnOk X.prog X.w X.K X.mg X.base (L2.CX X.prog X.w) k f fd ps sp) (hr : Room k X.A) (hb : Binds X.K fd ps [])
    (hx : PassesAt (L2.CX X.prog X.w) X σ E) (I : L2.Inv X pins σ H s) (r : Vals vs us) (h : sp vs H Q E) : PySem.wpAny (PySem.model X.prog X.w) X.A (PySem.call (.ref f) us) (EP X pins σ Q) X.xe s :=
  run_fnS (E := fun _ => E) F hr hb hx I r h
theorem sp_in {f : List D → DH → DK → DX → Prop} {n : Nat} (hl : ∀ ds h R S, f ds h R S → ds.length = n) {ds : List D} {h : DH} {R : DK} {S : DX} {vs : List V} {H : Hp} {Q : VK} {E : XK} (rl : RepL G H ds vs) (rh : RepH G h H) (w : f ds h R S)
    (k : ∀ d h' v H', Tr h H h' H' → RepH G h' H' → Rep G H' d v → R d h' → Q v H') (x : ∀ c fs h' cls d H', Tr h H h' H' → RepH G h' H' → XRep G H' c fs cls d → S c fs h' → E cls d H') : spD G f n vs H Q E := ⟨ds, h, R, S, rl, hl _ _ _ _ w, rh, w, k, x⟩
/-- f(e, ..) -/
theorem ze_call {f : String} {es1 : Exs} {x : Str} {fa : Addr} {k : Nat} (tk : Takes X W) (F : FnF G X.sc k (C.fn "" f) fa) (hr : Room k X.A) (hg : Gl X x) (hm : X.mg x = some (.ref fa)) (ha : PA X (e :: es) (liA G W (wEs C es1))) (hdb : (x == ("__debug__" : Str)) = false)
    (he : PySem.starEach (e :: es) X.env = (false, PySem.eval e X.env) :: PySem.starEach es X.env) (hpl : (PySem.backTo pos (PySem.starEach es X.env)).any (·.1) = false) : PE X (.Call (.Name x p) (e :: es) [] pos) (liE G W (wE C (.call f es1))) := by
  obtain ⟨⟨n, fd, ps, hl, hb, ok⟩, kp⟩ := F
  refine (pe_callS (E := WE W) ok hr hg hm kp hb (fun σ => passAt tk σ) ha hdb he hpl).via fun σ H Q ⟨τ, h, R, S, rs, rh, w, k, x⟩ => ?_
  simp only [wE] at w
  exact ⟨τ, h, _, S, rs, rh, w, fun d h1 v H1 t1 rh1 r1 w1 => sp_in hl r1 rh1 w1 (fun d2 h2 v2 H2 t2 rh2 r2 w2 => k d2 h2 v2 H2 (t1.trans t2) rh2 r2 w2) fun c fs h' cls d' H' t' => x c fs h' cls d' H' (t1.trans t'), x⟩
/-- f() -/
theorem ze_call0 {f : String} {x : Str} {fa : Addr} {k : Nat} (tk : Takes X W) (F : FnF G X.sc k (C.fn "" f) fa) (hr : Room k X.A) (hg : Gl X x) (hm : X.mg x = some (.ref fa)) (hdb : (x == ("__debug__" : Str)) = false) : PE X (.Call (.Name x p) [] [] pos) (liE G W (wE C (.call f .nil))) := by
  obtain ⟨⟨n, fd, ps, hl, hb, ok⟩, kp⟩ := F
  refine ⟨fun pins s σ H Q I ⟨τ, h, R, S, rs, rh, w, k, x⟩ => ?_⟩
  simp only [wE, wEs] at w
  refine PySem.wpAny_Call_Name_kw (ld_glob I hg hm ?_ hdb)
  exact PySem.W.callWith_K0 I.kIn kp (run_fnZ (us := []) (vs := []) ok hr hb (passAt tk σ) I .nil (sp_in (ds := []) hl rfl rh w k x))
/-- o.m(e, ..) -/
structure MeF (G : Gd) (Y : Sc) (k : Nat) (C : Pr) (c m : String) : Prop where
  ok : ∃ fa, Meth Y.K (G.cl c) (Str.ofString m) fa ∧ FnF G Y k (C.fn c m) fa
  no : (c, m) ∉ G.FL
theorem meth_in {es1 : Exs} {m : String} {H : Hp} {h : DH} {d : D} {R : DK} {S : DX} {v : V} {τ : DS} (CF : ClsF G X.sc) {k : Nat} (F : ∀ c, C.has c m = true → MeF G X.sc k C c m) (rh : RepH G h H)
    (w : match d with
      | .ref a => (match h a with
        | some (.ins c _) => C.has c m = true ∧ wEs C es1 τ h (fun ds h2 => C.fn c m (.ref a :: ds) h2 R S) S
        | _ => False)
      | _ => False) (rv : Rep G H d v) : ∃ a c dx ws fa, v = .ref a ∧ d = .ref a ∧ H a = some (.ins (G.cl c) dx ws) ∧ ws.lookup (Str.ofString m) = none ∧ Cls X.K (G.cl c) ∧ Meth X.K (G.cl c) (Str.ofString m) fa ∧ FnF G X.sc k (C.fn c m) fa ∧ wEs C es1 τ h (fun ds h2 => C.fn c m (.ref a :: ds) h2 R S) S := by
  cases d with
  | ref a =>
    have w3 : (match h a with
        | some (.ins c _) => C.has c m = true ∧ wEs C es1 τ h (fun ds h2 => C.fn c m (.ref a :: ds) h2 R S) S
        | _ => False) := w
    split at w3
    · rename_i c fs ep
      obtain ⟨hh, w4⟩ := w3
      obtain ⟨⟨fa, M, FF⟩, no⟩ := F c hh
      obtain ⟨dx, ws, e3, l, hc, hf⟩ := rh a _ ep
      refine ⟨a, c, dx, ws, fa, rv, rfl, e3, (RepA.lookup l).2 ?_, CF.cls c hc, M, FF, w4⟩
      cases q : fs.lookup m with
      | none => rfl
      | some y => exact absurd (hf _ (lookup_mem q)) no
    · exact w3.elim
  | _ => exact False.elim w
theorem ze_meth {m : String} {o : Expr} {o1 : Ex} {es1 : Exs} {k : Nat} {pl : PySem.Sem Bool} (CF : ClsF G X.sc) (tk : Takes X W) (F : ∀ c, C.has c m = true → MeF G X.sc k C c m) (hr : Room k X.A) (ho : PE X o (liE G W (wE C o1))) (ha : PA X (e :: es) (liA G W (wEs C es1)))
    (hst : PySem.starEach (e :: es) X.env = (false, PySem.eval e X.env) :: PySem.starEach es X.env) (hpl : (PySem.backTo pos (PySem.starEach es X.env)).any (·.1) = false)
    (ht : PySem.eval (.Call (.Attribute o (Str.ofString m) apos) (e :: es) [] pos) X.env = (do
      let ov ← PySem.eval o X.env
      PySem.standAt apos.atName
      let (f, first) ← PySem.holding [ov] (PySem.getMethod ov (Str.ofString m) pl)
      PySem.callWith pos f first (PySem.backTo pos (PySem.starEach (e :: es) X.env)) (PySem.backToKw pos (PySem.keywordEach [] X.env)))) :
    PE X (.Call (.Attribute o (Str.ofString m) apos) (e :: es) [] pos) (liE G W (wE C (.meth o1 m es1))) := by
  refine ⟨fun pins s σ H Q I ⟨τ, h, R, S, rs, rh, w, k', x⟩ => ?_⟩
  simp only [wE] at w
  refine PySem.W.methodCall_KW (pl := pl) (thn (ho.run pins s σ H (fun v H1 => ∃ a c dx ws fa, v = .ref a ∧ H1 a = some (.ins (G.cl c) dx ws) ∧ ws.lookup (Str.ofString m) = none ∧ Cls X.K (G.cl c) ∧ Meth X.K (G.cl c) (Str.ofString m) fa ∧ FnF G X.sc k (C.fn c m) fa ∧
      liA G W (wEs C es1) σ H1 fun vs H2 => ∀ n, (∀ ds h R S, C.fn c m ds h R S → ds.length = n) → spD G (C.fn c m) n (.ref a :: vs) H2 Q (WE W σ)) I
    ⟨τ, h, _, S, rs, rh, w, fun d h1 v H1 t1 rh1 r1 w1 => ?_, x⟩) fun u s1 ⟨v, H1, I1, rv, a, c, dx, ws, fa, ev, e3, nl, cl, M, FF, q⟩ => ?_) ht
  · obtain ⟨a, c, dx, ws, fa, ev, ed, e3, nl, cl, M, FF, w4⟩ := meth_in CF F rh1 w1 r1
    subst ed
    refine ⟨a, c, dx, ws, fa, ev, e3, nl, cl, M, FF, τ, h1, _, S, rs.tr rh t1, rh1, w4, fun d2 h2 v2 H2 t2 rh2 r2 w2 n hl => ?_, x.tr t1⟩
    exact sp_in (ds := .ref a :: d2) hl ⟨_, _, rfl, rfl, r2⟩ rh2 w2 (fun d3 h3 v3 H3 t3 rh3 r3 w3 => k' d3 h3 v3 H3 ((t1.trans t2).trans t3) rh3 r3 w3) fun c fs h' cls d' H' t' => x c fs h' cls d' H' ((t1.trans t2).trans t')
  · subst ev
    cases rv
    obtain ⟨⟨n, fd, ps, hl, hb, ok⟩, kp⟩ := FF
    refine getmeth_ok I1 e3 cl M nl ?_
    refine PySem.W.callWith_K (first := [.ref a]) (h₀ := X.base) I.ok.mod.kin M.kp (thn (ha.run pos pins s1 σ H1 _ I1 q) fun us s2 ⟨vs, H2, I2, r, q2⟩ => ⟨I2.kIn, ?_⟩) hst hpl
    exact run_fnZ (us := .ref a :: us) (vs := .ref a :: vs) ok hr hb (passAt tk σ) I2 (.cons rfl r) (q2 n hl)
theorem ze_meth0 {m : String} {o : Expr} {o1 : Ex} {k : Nat} {pl : PySem.Sem Bool} (CF : ClsF G X.sc) (tk : Takes X W) (F : ∀ c, C.has c m = true → MeF G X.sc k C c m) (hr : Room k X.A) (ho : PE X o (liE G W (wE C o1)))
    (ht : PySem.eval (.Call (.Attribute o (Str.ofString m) apos) [] [] pos) X.env = (do
      let ov ← PySem.eval o X.env
      PySem.standAt apos.atName
      let (f, first) ← PySem.holding [ov] (PySem.getMethod ov (Str.ofString m) pl)
      PySem.callWith pos f first (PySem.backTo pos (PySem.starEach [] X.env)) (PySem.backToKw pos (PySem.keywordEach [] X.env)))) :
    PE X (.Call (.Attribute o (Str.ofString m) apos) [] [] pos) (liE G W (wE C (.meth o1 m .nil))) := by
  refine ⟨fun pins s σ H Q I ⟨τ, h, R, S, rs, rh, w, k', x⟩ => ?_⟩
  simp only [wE] at w
  refine PySem.W.methodCall_KW (pl := pl) (thn (ho.run pins s σ H (fun v H1 => ∃ a c dx ws fa, v = .ref a ∧ H1 a = some (.ins (G.cl c) dx ws) ∧ ws.lookup (Str.ofString m) = none ∧ Cls X.K (G.cl c) ∧ Meth X.K (G.cl c) (Str.ofString m) fa ∧ FnF G X.sc k (C.fn c m) fa ∧
      ∀ n, (∀ ds h R S, C.fn c m ds h R S → ds.length = n) → spD G (C.fn c m) n [.ref a] H1 Q (WE W σ)) I
    ⟨τ, h, _, S, rs, rh, w, fun d h1 v H1 t1 rh1 r1 w1 => ?_, x⟩) fun u s1 ⟨v, H1, I1, rv, a, c, dx, ws, fa, ev, e3, nl, cl, M, FF, q⟩ => ?_) ht
  · obtain ⟨a, c, dx, ws, fa, ev, ed, e3, nl, cl, M, FF, w4⟩ := meth_in CF F rh1 w1 r1
    subst ed
    simp only [wEs] at w4
    refine ⟨a, c, dx, ws, fa, ev, e3, nl, cl, M, FF, fun n hl => ?_⟩
    exact sp_in (ds := [.ref a]) hl ⟨_, _, rfl, rfl, rfl⟩ rh1 w4 (fun d3 h3 v3 H3 t3 rh3 r3 w3 => k' d3 h3 v3 H3 (t1.trans t3) rh3 r3 w3) fun c fs h' cls d' H' t' => x c fs h' cls d' H' (t1.trans t')
  · subst ev
    cases rv
    obtain ⟨⟨n, fd, ps, hl, hb, ok⟩, kp⟩ := FF
    refine getmeth_ok I1 e3 cl M nl ?_
    exact PySem.W.callWith_K0 (first := [.ref a]) I1.kIn M.kp (run_fnZ (us := [.ref a]) (vs := [.ref a]) ok hr hb (passAt tk σ) I1 (.cons rfl .nil) (q n hl))
/-! a new instance -/
structure MkF (G : Gd) (Y : Sc) (k : Nat) (C : Pr) (c : String) : Prop where
  ok : ∃ fa, Mk Y.K (G.cl c) fa ∧ FnF G Y k (C.fn c "__init__") fa
  cl : c ∈ G.CL
theorem run_mkZ {k : Nat} {Ca f : Addr} {fd : PySem.FuncData} {ps : List Str} {sp : Sp} {pins : List (Addr × PySem.Obj)} {σ : L2.St} {H : Hp} {s : Shared} {Q : VK} {us : List Value} {vs : List V} {E : XK} (M : Mk X.K Ca f)
    (F : FnOk X.prog X.w X.K X.mg X.base (L2.CX X.prog X.w) k f fd ps sp) (hr : Room (k + 1) X.A) (hb : Binds X.K fd ps []) (hx : PassesAt (L2.CX X.prog X.w) X σ E) (I : L2.Inv X pins σ H s) (r : Vals vs us)
    (h : ∀ x dx, H x = none → H dx = none → dx ≠ x → sp (.ref x :: vs) (upd (upd H dx (.own x)) x (.ins Ca dx [])) (fun v H2 => v = .non ∧ Q (.ref x) H2) E) :
    PySem.wpAny (PySem.model X.prog X.w) X.A (PySem.call (.ref Ca) us) (EP X pins σ Q) X.xe s := by
  have n1 : H (s.heap.objs.size + 1) = none := I.hok.fresh (Nat.le_succ _)
  have n2 : H s.heap.objs.size = none := I.hok.fresh (Nat.le_refl _)
  have q := h _ _ n1 n2 (Nat.ne_of_lt (Nat.lt_succ_self s.heap.objs.size))
  have J := Inv.made (C := Ca) I
  have rr : Vals (V.ref (s.heap.objs.size + 1) :: vs) (Value.ref (s.heap.objs.size + 1) :: us) := .cons rfl r
  have ln : (Value.ref (s.heap.objs.size + 1) :: us).length = ps.length := rr.length.symm.trans (F.len _ _ _ _ q)
  have bd := hb _ (Value.ref (s.heap.objs.size + 1) :: us) J.kIn (by rw [List.append_nil]; exact ln)
  rw [List.append_nil] at bd
  refine PySem.wpAny_call (make_map (f := f) I.kIn M.makes M.init (beq_iff_eq.mp M.fn) (PySem.codeAny_mono (F.run _ X.stack _ _ ⟨Value.ref (s.heap.objs.size + 1) :: us, []⟩ _ _ _ E (hr.make Ca us []) (J.env0.make Ca us []) bd rr q) fun res s' hq => ?_))
  cases res with
  | error e => exact hx pins _ _ e s' J hq
  | ok fl =>
    cases fl with
    | ret u =>
      obtain ⟨v, H', J2, rv, ev, q3⟩ := J.after hq
      subst ev
      exact ⟨rv, V.ref (s.heap.objs.size + 1), H', J2, rfl, q3⟩
    | next => exact hq.elim
    | brk => exact hq.elim
    | cont => exact hq.elim
theorem mk_in {c : String} {Ca : Addr} (ec : Ca = G.cl c) (hc : c ∈ G.CL) {n : Nat} (hl : ∀ ds h R S, C.fn c "__init__" ds h R S → ds.length = n) {h : DH} {H : Hp} {ds : List D} {vs : List V} {R : DK} {S : DX} {Q : VK} {E : XK} (rh : RepH G h H) (rl : RepL G H ds vs)
    (w : ∀ p, h p = none → C.fn c "__init__" (.ref p :: ds) (dput h p (.ins c [])) (fun d h2 => d = .non ∧ R (.ref p) h2) S) (k : ∀ d h' v H', Tr h H h' H' → RepH G h' H' → Rep G H' d v → R d h' → Q v H')
    (x : ∀ c fs h' cls d H', Tr h H h' H' → RepH G h' H' → XRep G H' c fs cls d → S c fs h' → E cls d H') :
    ∀ y dx, H y = none → H dx = none → dx ≠ y → spD G (C.fn c "__init__") n (.ref y :: vs) (upd (upd H dx (.own y)) y (.ins Ca dx [])) (fun v H2 => v = .non ∧ Q (.ref y) H2) E := by
  intro y dx hy hdx ne
  subst ec
  have t1 : Tr h H h (upd H dx (.own y)) := tr_new rh hdx _
  have rh1 : RepH G h (upd H dx (.own y)) := rh.new hdx _
  have hy1 : upd H dx (.own y) y = none := by rw [upd_ne (Ne.symm ne)]; exact hy
  have t2 := tr_newD rh1 hy1 (.ins (G.cl c) dx []) (.ins c [])
  have rh2 : RepH G (dput h y (.ins c [])) (upd (upd H dx (.own y)) y (.ins (G.cl c) dx [])) := rh1.newD hy1 ⟨dx, [], upd_same, rfl, hc, fun p hp => absurd hp (by simp)⟩
  have tt := t1.trans t2
  exact sp_in (ds := .ref y :: ds) hl ⟨_, _, rfl, rfl, rl.tr rh tt⟩ rh2 (w y (rh.free hy)) (fun d2 h2 v2 H2 t rh3 r3 w3 => by
    obtain ⟨e, w3⟩ := w3
    subst e
    exact ⟨r3, k _ h2 _ H2 (tt.trans t) rh3 (show Rep G H2 (.ref y) _ from rfl) w3⟩) fun c fs h' cls d' H' t => x c fs h' cls d' H' (tt.trans t)
theorem ze_mk {c : String} {es1 : Exs} {x : Str} {k : Nat} (tk : Takes X W) (F : MkF G X.sc k C c) (hr : Room (k + 1) X.A) (hg : Gl X x) (hm : X.mg x = some (.ref (G.cl c))) (ha : PA X (e :: es) (liA G W (wEs C es1))) (hdb : (x == ("__debug__" : Str)) = false)
    (he : PySem.starEach (e :: es) X.env = (false, PySem.eval e X.env) :: PySem.starEach es X.env) (hpl : (PySem.backTo pos (PySem.starEach es X.env)).any (·.1) = false) : PE X (.Call (.Name x p) (e :: es) [] pos) (liE G W (wE C (.mk c es1))) := by
  obtain ⟨⟨fa, M, ⟨n, fd, ps, hl, hb, ok⟩, kp⟩, hc⟩ := F
  refine ⟨fun pins s σ H Q I ⟨τ, h, R, S, rs, rh, w, k', xo⟩ => ?_⟩
  simp only [wE] at w
  refine PySem.wpAny_Call_Name_kw (ld_glob I hg hm ?_ hdb)
  refine PySem.W.callWith_K (h₀ := X.base) I.ok.mod.kin M.kp (thn (ha.run pos pins s σ H (fun vs H1 => ∀ y dx, H1 y = none → H1 dx = none → dx ≠ y → spD G (C.fn c "__init__") n (.ref y :: vs) (upd (upd H1 dx (.own y)) y (.ins (G.cl c) dx [])) (fun v H2 => v = .non ∧ Q (.ref y) H2) (WE W σ)) I
    ⟨τ, h, _, S, rs, rh, w, fun d h1 v H1 t1 rh1 r1 w1 => ?_, xo⟩) fun us s1 ⟨vs, H1, I1, r, q⟩ => ⟨I1.kIn, ?_⟩) he hpl
  · exact mk_in rfl hc hl rh1 r1 w1 (fun d2 h2 v2 H2 t2 => k' d2 h2 v2 H2 (t1.trans t2)) fun c fs h' cls d' H' t' => xo c fs h' cls d' H' (t1.trans t')
  · exact run_mkZ M ok hr hb (passAt tk σ) I1 r q
/-! methods of lists -/
theorem ze_bmA {m id : String} {o : Expr} {o1 a1 : Ex} {cpos : PySem.Pos} {r : V → List V → Hp → VK → Prop} (hK : X.K = G.K) (slot : PySem.Slot "list" (Str.ofString m) id) (hty : PySem.typeOf (.builtin id) = pure (.type "method_descriptor")) (hm : MtR X id r) (ho : PE X o (liE G W (wE C o1))) (ha : PE X a (liE G W (wE C a1)))
    (hr : ∀ d1 d2 h R x y H Q, Rep G H d1 x → Rep G H d2 y → RepH G h H → opM m [d1, d2] h R → (∀ d h' v H', Tr h H h' H' → RepH G h' H' → Rep G H' d v → R d h' → Q v H') → r x [y] H Q)
    (hbase : PySem.attributeBase o (Str.ofString m) X.env (PySem.eval o X.env) = PySem.eval o X.env) (hline : (apos.endLine == cpos.line) = true) (hs : PySem.starEach [a] X.env = [(false, PySem.eval a X.env)]) :
    PE X (.Call (.Attribute o (Str.ofString m) apos) [a] [] cpos) (liE G W (wE C (.bm m o1 (.cons a1 .nil)))) :=
  (pe_bm PySem.F.plainAttrs_list slot hty hm ho (pa_cons ha pa_nil hs) hbase (by rw [hs]; rfl) hline hs rfl).via fun σ H Q ⟨τ, h, R, S, rs, rh, w, k, x⟩ => by
    simp only [wE, wEs] at w
    refine ⟨τ, h, _, S, rs, rh, w, fun d h1 v H1 t1 rh1 r1 w1 => ?_, x⟩
    obtain ⟨rc, w1⟩ := w1
    refine ⟨?_, τ, h1, _, S, rs.tr rh t1, rh1, w1, fun d2 h2 v2 H2 t2 rh2 r2 w2 => ?_, x.tr t1⟩
    · cases d with
      | ref p =>
        cases r1
        obtain ⟨xs, e, _⟩ := lsK_inv (show lsK h1 p (fun _ => True) from rc)
        obtain ⟨vs, e2, _⟩ := rh1.lsts e
        exact Or.inl ⟨rfl, vs, SqL.of e2⟩
      | _ => exact False.elim rc
    · exact hr d d2 h2 R v v2 H2 Q (r1.tr rh1 t2) r2 rh2 w2 fun d3 h3 v3 H3 t3 => k d3 h3 v3 H3 ((t1.trans t2).trans t3)
theorem setL {h : DH} {H : Hp} (rh : RepH G h H) {p : Addr} {xs ys : List D} {vs : List V} (e : h p = some (.lst xs)) (l : RepL G H ys vs) : RepH G (dput h p (.lst ys)) (upd H p (.lst vs)) ∧ Tr h H (dput h p (.lst ys)) (upd H p (.lst vs)) :=
  ⟨rh.setD e ⟨vs, upd_same, l.tr rh (tr_set rh e _ (.lst ys))⟩, tr_set rh e _ _⟩
theorem ze_append {o : Expr} {o1 a1 : Ex} {cpos : PySem.Pos} (hK : X.K = G.K) (ho : PE X o (liE G W (wE C o1))) (ha : PE X a (liE G W (wE C a1)))
    (hbase : PySem.attributeBase o (Str.ofString "append") X.env (PySem.eval o X.env) = PySem.eval o X.env) (hline : (apos.endLine == cpos.line) = true) (hs : PySem.starEach [a] X.env = [(false, PySem.eval a X.env)]) :
    PE X (.Call (.Attribute o (Str.ofString "append") apos) [a] [] cpos) (liE G W (wE C (.bm "append" o1 (.cons a1 .nil)))) :=
  ze_bmA hK PySem.F.slot_list_append PySem.F.type_list_append mt_append ho ha (fun d1 d2 h R x y H Q r1 r2 rh w k => by
    have w : oAppend [d1, d2] h R := w
    cases d1 with
    | ref p =>
      cases r1
      obtain ⟨xs, e, w⟩ := lsK_inv w
      obtain ⟨vs, e2, l⟩ := rh.lsts e
      obtain ⟨rh2, t2⟩ := setL rh e (l.append (show RepL G H [d2] [y] from ⟨y, [], rfl, r2, rfl⟩))
      exact ⟨p, vs, y, rfl, rfl, e2, by rw [← l.length]; exact w.1, k .non _ _ _ t2 rh2 rfl w.2⟩
    | _ => exact False.elim w) hbase hline hs
theorem ze_clear_dummy : True := trivial
end
end Z
namespace PySem
open AutoSeq1
theorem z_extend_tup (l : Addr) (items : Array Value) (n : Nat) (b : Addr) (items2 : Array Value) (n2 : Nat) (dd : Option Addr) (sl : Array (Option Value)) (hs0 : ¬(!items.isEmpty && Builtin.List.listTooLong (items.size + items2.size)) = true) (hs1 : items.size ≤ sizeLine)
    (hs2 : items.size + items2.size ≤ sizeLine + 1) :
    Meets (Builtin.«list.extend» ⟨[.ref l, .ref b], []⟩) (fun _ R s => s.heap.get? l = some { cls := .type "list", dict := none, data := .seq items n, slots := #[] } ∧
      s.heap.get? b = some { cls := .type "tuple", dict := dd, data := .seq items2 n2, slots := sl } ∧ R (.ok (.ret Value.none)) { s with heap := s.heap.update l (Obj.mapSeq fun x => x ++ items2), toks := s.toks }) :=
  .of_wp fun prog w A R s h => by
    obtain ⟨hp, g, d, tk, os⟩ := s; obtain ⟨hl, hb, h⟩ := h; have f1 := idx_int; have f2 := sub_tuple_tuple; have f3 := sub_list_list
    have f4 := sub_tuple_list; have f5 := sub_list_tuple
    have hz' : (items ++ items2).size ≤ sizeLine + 1 := by rw [Array.size_append]; exact hs2
    wp_walk using (wpAny_updateSeq hl rfl (hz := hs1) (_hz' := hz')), wpAny_loadPart' hl, wpAny_loadPart' hb
    exact ⟨_, rfl, h⟩
end PySem
namespace L2
open PySem PySem.Spec PyProof.Rows
theorem mt_extendT {X : Cx} : MtM X "list.extend" (fun x vs H Q => ∃ l b xs zs, x = .ref l ∧ vs = [.ref b] ∧ H l = some (.lst xs) ∧ SqT X.K H b zs ∧ xs.length + zs.length ≤ sizeLine ∧ Q .non (upd H l (.lst (xs ++ zs)))) := by
  intro pins s σ H x vs v us Q I rx rv h
  obtain ⟨l, b, xs, zs, rfl, rfl, hH, hB, hz, q⟩ := h
  cases rx
  obtain ⟨u, rfl, ru⟩ := rv.one
  cases ru
  obtain ⟨z, its, n, r, hl, e⟩ := I.lstM hH
  obtain ⟨its2, r2, ⟨⟨oc, od, dt, sl⟩, ho, hc, n2, hd⟩, hz2⟩ := I.tuple hB
  simp only at hc hd
  subst hc hd
  have hl2 := r2.length
  have hsz : its.toArray.size + its2.toArray.size ≤ sizeLine := by rw [List.size_toArray, List.size_toArray]; omega
  have hlong : ¬ (!its.toArray.isEmpty && Builtin.List.listTooLong (its.toArray.size + its2.toArray.size)) = true := by
    rw [notLongL hsz, Bool.and_false]; simp
  refine call_meets F.slot_list_extend ⟨_, e, rfl⟩ F.entry_list_extend (F.args_list_extend_2 _ _)
    (z_extend_tup l its.toArray n b its2.toArray n2 od sl hlong (by rw [List.size_toArray]; omega) (by omega)) ⟨e, ho, ?_⟩
  refine ⟨.non, _, I.lset (its' := its ++ its2) hH e (by simp) (r.append r2) ?_, rfl, q⟩
  rw [List.length_append]; omega
end L2
namespace Z
open PySem (Str Addr sizeLine PyData Paired Expr Stmt Value Shared binaryOp compareOp unaryOp)
open L2
section
variable {G : Gd} {W : WX} {X : Cx} {a b e : Expr} {es : List Expr} {pos p p2 apos : PySem.Pos} {C : Pr}
theorem ze_extend {o : Expr} {o1 a1 : Ex} {cpos : PySem.Pos} (hK : X.K = G.K) (ho : PE X o (liE G W (wE C o1))) (ha : PE X a (liE G W (wE C a1)))
    (hbase : PySem.attributeBase o (Str.ofString "extend") X.env (PySem.eval o X.env) = PySem.eval o X.env) (hline : (apos.endLine == cpos.line) = true) (hs : PySem.starEach [a] X.env = [(false, PySem.eval a X.env)]) :
    PE X (.Call (.Attribute o (Str.ofString "extend") apos) [a] [] cpos) (liE G W (wE C (.bm "extend" o1 (.cons a1 .nil)))) :=
  ze_bmA hK PySem.F.slot_list_extend PySem.F.type_list_extend (MtR.or mt_extend mt_extendT) ho ha (fun d1 d2 h R x y H Q r1 r2 rh w k => by
    have w : oExtend [d1, d2] h R := w
    cases d1 with
    | ref p =>
      cases r1
      cases d2 with
      | ref b =>
        cases r2
        obtain ⟨xs, e, w⟩ := lsK_inv (show lsK h p (fun xs => lsK h b fun ys => xs.length + ys.length ≤ sizeLine ∧ R .non (dput h p (.lst (xs ++ ys)))) from w)
        obtain ⟨ys, e3, w⟩ := lsK_inv w
        obtain ⟨vs, e2, l⟩ := rh.lsts e
        obtain ⟨us, e4, l2⟩ := rh.lsts e3
        obtain ⟨rh2, t2⟩ := setL rh e (l.append l2)
        exact .inl ⟨p, b, vs, us, rfl, rfl, e2, e4, by rw [← l.length, ← l2.length]; exact w.1, k .non _ _ _ t2 rh2 rfl w.2⟩
      | tup ys =>
        obtain ⟨b, us, rfl, q, l2⟩ := r2
        obtain ⟨xs, e, w⟩ := lsK_inv (show lsK h p (fun xs => xs.length + ys.length ≤ sizeLine ∧ R .non (dput h p (.lst (xs ++ ys)))) from w)
        obtain ⟨vs, e2, l⟩ := rh.lsts e
        obtain ⟨rh2, t2⟩ := setL rh e (l.append l2)
        exact .inr ⟨p, b, vs, us, rfl, rfl, e2, by rw [hK]; exact q, by rw [← l.length, ← l2.length]; exact w.1, k .non _ _ _ t2 rh2 rfl w.2⟩
      | _ => exact False.elim w
    | _ => exact False.elim w) hbase hline hs
/-! tests -/
def cmpO : Op → Bool
  | .eq | .ne | .lt | .le | .gt | .ge | .isN | .notN | .isB | .notB => true
  | _ => false
theorem eqK_mono {x y : D} {h : DH} {k k' : Bool → Prop} (m : ∀ b, k b → k' b) (w : eqK x y h k) : eqK x y h k' := by
  have g : eqG x y h k → eqG x y h k' := fun ⟨p, q, a, b, c, d, e⟩ => ⟨p, q, a, b, c, d, m _ e⟩
  cases x <;> cases y <;> first | exact g w | exact m _ w
theorem oEq_bl {ds : List D} {h : DH} {R : DK} (w : oEq ds h R) : oEq ds h fun d h' => (∃ b, d = .bl b) ∧ R d h' := by
  unfold oEq at w ⊢
  split at w
  · exact eqK_mono (fun b q => ⟨⟨b, rfl⟩, q⟩) w
  · exact w.elim
theorem oNe_bl {ds : List D} {h : DH} {R : DK} (w : oNe ds h R) : oNe ds h fun d h' => (∃ b, d = .bl b) ∧ R d h' := by
  unfold oNe at w ⊢
  split at w
  · exact eqK_mono (fun b q => ⟨⟨!b, rfl⟩, q⟩) w
  · exact w.elim
theorem opS_bl {o : Op} (ho : cmpO o = true) {ds : List D} {h : DH} {R : DK} (w : opS o ds h R) : opS o ds h fun d h' => (∃ b, d = .bl b) ∧ R d h' := by
  cases o <;> first | cases ho | skip
  · exact oEq_bl w
  · exact oNe_bl w
  all_goals
    simp only [opS] at w ⊢
    first | unfold oIsB at w ⊢ | unfold oNotB at w ⊢ | unfold oLt at w ⊢ | unfold oLe at w ⊢ | unfold oGt at w ⊢ | unfold oGe at w ⊢ | unfold oIsN at w ⊢ | unfold oNotN at w ⊢
    split at w
    · exact ⟨⟨_, rfl⟩, w⟩
    · exact w.elim
end
end Z
set_option Elab.async false
set_option linter.all false
set_option maxRecDepth 100000
set_option maxHeartbeats 4000000
/-! Fw8: tests, what is walked, comprehensions. -/
namespace Z
open PySem (Str Addr sizeLine PyData Paired Expr Stmt Value Shared binaryOp compareOp unaryOp)
open L2
section
variable {G : Gd} {W : WX} {X : Cx} {a b c e tg iter : Expr} {es : List Expr} {pos p p2 apos : PySem.Pos} {C : Pr}
theorem zt_val {a1 : Ex} (hK : X.K = G.K) (ha : PE X a (liE G W (wE C a1))) (he : ∀ whole, PySem.isTrue a X.env whole = (do let v ← whole; PySem.standAt a.pos; PySem.holding [v] (PySem.truthy v))) : PT X a (liT G W (wT C (.val a1))) :=
  (pt_truth ha he).via fun σ H Q ⟨τ, h, R, S, rs, rh, w, k, x⟩ => by
    simp only [wT] at w
    refine ⟨τ, h, _, S, rs, rh, w, fun d h1 v H1 t1 rh1 r1 w1 => ?_, x⟩
    obtain ⟨b, tv, w2⟩ := truK_inv hK r1 rh1 w1
    exact ⟨b, tv, k b h1 H1 t1 rh1 w2⟩
theorem zt_cmp {op : PySem.CmpOp} {o : Op} {a1 b1 : Ex} (co : cmpO o = true) (ho : OpR X (compareOp op) (li2 G o)) (ha : PE X a (liE G W (wE C a1))) (hb : PE X b (liE G W (wE C b1))) (hm : PySem.behindInMarks op b = false) : PT X (.Compare a [op] [b] pos) (liT G W (wT C (.val (.op o (.cons a1 (.cons b1 .nil)))))) :=
  (pt_cmpR ho ha hb hm).via fun σ H Q ⟨τ, h, R, S, rs, rh, w, k, x⟩ => by
    simp only [wT, wE, wEs] at w
    refine ⟨τ, h, _, S, rs, rh, w, fun d h1 v H1 t1 rh1 r1 w1 => ?_, x⟩
    refine ⟨τ, h1, _, S, rs.tr rh t1, rh1, w1, fun d2 h2 v2 H2 t2 rh2 r2 w2 => ?_, x.tr t1⟩
    refine ⟨[d, d2], h2, _, ⟨v, _, rfl, r1.tr rh1 t2, v2, [], rfl, r2, rfl⟩, rh2, opS_bl co w2, fun d3 h3 v3 H3 t3 rh3 r3 w3 => ?_⟩
    obtain ⟨⟨q, rfl⟩, w3⟩ := w3
    exact ⟨q, r3, k q h3 H3 ((t1.trans t2).trans t3) rh3 w3⟩
theorem zt_isN {a1 : Ex} {j : Nat} {pos' : PySem.Pos} (ha : PE X a (liE G W (wE C a1))) : PT X (.Compare a [.Is] [.Constant .none j pos'] pos) (liT G W (wT C (.val (.op .isN (.cons a1 .nil))))) :=
  (pt_cmp (pc_isN ha) rfl).via fun σ H Q ⟨τ, h, R, S, rs, rh, w, k, x⟩ => by
    simp only [wT, wE, wEs] at w
    refine ⟨τ, h, _, S, rs, rh, w, fun d h1 v H1 t1 rh1 r1 w1 => ?_, x⟩
    exact ⟨_, rfl, by rw [isNon_dec r1]; exact k _ h1 H1 t1 rh1 w1⟩
theorem zt_notN {a1 : Ex} {j : Nat} {pos' : PySem.Pos} (ha : PE X a (liE G W (wE C a1))) : PT X (.Compare a [.IsNot] [.Constant .none j pos'] pos) (liT G W (wT C (.val (.op .notN (.cons a1 .nil))))) :=
  (pt_cmp (pc_notN ha) rfl).via fun σ H Q ⟨τ, h, R, S, rs, rh, w, k, x⟩ => by
    simp only [wT, wE, wEs] at w
    refine ⟨τ, h, _, S, rs, rh, w, fun d h1 v H1 t1 rh1 r1 w1 => ?_, x⟩
    exact ⟨_, rfl, by rw [isNon_dec r1]; exact k _ h1 H1 t1 rh1 w1⟩
theorem zt_chain {op op' : PySem.CmpOp} {o o' : Op} {a1 b1 c1 : Ex} (co : cmpO o' = true) (ho : OpR X (compareOp op) (li2 G o)) (ho' : OpR X (compareOp op') (li2 G o')) (ha : PE X a (liE G W (wE C a1))) (hb : PE X b (liE G W (wE C b1))) (hc : PE X c (liE G W (wE C c1)))
    (hm : PySem.lastMarks [op, op'] [b, c] = false) : PT X (.Compare a [op, op'] [b, c] pos) (liT G W (wT C (.val (.chain o o' a1 b1 c1)))) :=
  (pt_chain ho ho' ha hb hc hm).via fun σ H Q ⟨τ, h, R, S, rs, rh, w, k, x⟩ => by
    simp only [wT, wE] at w
    refine ⟨τ, h, _, S, rs, rh, w, fun d h1 v H1 t1 rh1 r1 w1 => ?_, x⟩
    refine ⟨τ, h1, _, S, rs.tr rh t1, rh1, w1, fun d2 h2 v2 H2 t2 rh2 r2 w2 => ?_, x.tr t1⟩
    refine ⟨[d, d2], h2, _, ⟨v, _, rfl, r1.tr rh1 t2, v2, [], rfl, r2, rfl⟩, rh2, w2, fun d3 h3 v3 H3 t3 rh3 r3 w3 => ?_⟩
    cases d3 with
    | bl q =>
      cases (show v3 = V.bl q from r3)
      refine ⟨q, rfl, ?_⟩
      have t4 := (t1.trans t2).trans t3
      cases q with
      | true => exact ⟨τ, h3, _, S, rs.tr rh t4, rh3, w3, fun d5 h5 v5 H5 t5 rh5 r5 w5 => ⟨[d2, d5], h5, _, ⟨v2, _, rfl, r2.tr rh2 (t3.trans t5), v5, [], rfl, r5, rfl⟩, rh5, opS_bl co w5, fun d6 h6 v6 H6 t6 rh6 r6 w6 => by
          obtain ⟨⟨q, rfl⟩, w6⟩ := w6
          exact ⟨q, r6, k q h6 H6 ((t4.trans t5).trans t6) rh6 w6⟩⟩, x.tr t4⟩
      | false => exact ⟨false, rfl, k false h3 H3 t4 rh3 w3⟩
    | _ => exact False.elim w3
theorem zt_not {t1 : Ts} (ha : PT X a (liT G W (wT C t1))) : PT X (.UnaryOp .Not a pos) (liT G W (wT C (.not t1))) :=
  (pt_not ha).via fun σ H Q ⟨τ, h, R, S, rs, rh, w, k, x⟩ => by
    simp only [wT] at w
    exact ⟨τ, h, _, S, rs, rh, w, fun b h1 H1 t1 rh1 w1 => k _ h1 H1 t1 rh1 w1, x⟩
theorem _root_.L2.PW.via {X : Cx} {e : Expr} {t t' : TT} (p : PW X e t) (m : ∀ σ H Q, t' σ H Q → t σ H Q) : PW X e t' := ⟨fun whole pins s σ H Q I q => p.run whole pins s σ H Q I (m σ H Q q)⟩
theorem zt_and {rest : List Expr} {t1 t2 : Ts} (ha : PT X a (liT G W (wT C t1))) (hb : PW X (.BoolOp .And (b :: rest) pos) (liT G W (wT C t2))) : PW X (.BoolOp .And (a :: b :: rest) pos) (liT G W (wT C (.and t1 t2))) :=
  (pw_and ha hb).via fun σ H Q ⟨τ, h, R, S, rs, rh, w, k, x⟩ => by
    simp only [wT] at w
    refine ⟨τ, h, _, S, rs, rh, w, fun b h1 H1 t1 rh1 w1 => ?_, x⟩
    cases b with
    | true => exact ⟨τ, h1, R, S, rs.tr rh t1, rh1, w1, fun b h2 H2 t2 => k b h2 H2 (t1.trans t2), x.tr t1⟩
    | false => exact k false h1 H1 t1 rh1 w1
theorem zt_or {rest : List Expr} {t1 t2 : Ts} (ha : PT X a (liT G W (wT C t1))) (hb : PW X (.BoolOp .Or (b :: rest) pos) (liT G W (wT C t2))) : PW X (.BoolOp .Or (a :: b :: rest) pos) (liT G W (wT C (.or t1 t2))) :=
  (pw_or ha hb).via fun σ H Q ⟨τ, h, R, S, rs, rh, w, k, x⟩ => by
    simp only [wT] at w
    refine ⟨τ, h, _, S, rs, rh, w, fun b h1 H1 t1 rh1 w1 => ?_, x⟩
    cases b with
    | false => exact ⟨τ, h1, R, S, rs.tr rh t1, rh1, w1, fun b h2 H2 t2 => k b h2 H2 (t1.trans t2), x.tr t1⟩
    | true => exact k true h1 H1 t1 rh1 w1
/-! what is walked -/
/-- J gives out the items ds as long as chk; P is what it leans on -/
structure ItOk (G : Gd) (J : L2.It) (ds : List D) (chk : DH → Prop) (P : DH → Hp → Prop) : Prop where
  st : ∀ h H h' H', RepH G h H → Ke G.K H H' → P h H → P h' H'
  go : ∀ (i : Nat) (d : D) h H, RepH G h H → P h H → chk h → ds[i]? = some d → J.go i H ∧ ∀ x H', J.yld i H x H' → Rep G H' d x ∧ Tr h H h H' ∧ RepH G h H'
  stop : ∀ h H, RepH G h H → P h H → chk h → J.stop ds.length H
def liI (G : Gd) (W : WX) (w : DS → DH → (List D → (DH → Prop) → DH → Prop) → DX → Prop) : TI := fun σ H Rr => ∃ τ h R S, RepS G H τ σ ∧ RepH G h H ∧ w τ h R S ∧ XOk G W σ h H S ∧
  ∀ ds chk h' J H' P, Tr h H h' H' → RepH G h' H' → ItOk G J ds chk P → P h' H' → R ds chk h' → Rr J H'
theorem _root_.L2.PI.via {X : Cx} {tg e : Expr} {t t' : TI} (p : PI X tg e t) (m : ∀ σ H Q, t' σ H Q → t σ H Q) : PI X tg e t' := ⟨fun pins s σ H Q I q => p.run pins s σ H Q I (m σ H Q q)⟩
theorem sqL_inj_dummy : True := trivial
/-- a list, a tuple: whichever it is when it comes -/
theorem pi_seq {l : Expr} {tl : TE} (hl : PE X l tl) : PI X tg l (fun σ H R => tl σ H fun x H1 => ∃ a, x = .ref a ∧ (((∃ xs, SqL X.K H1 a xs) ∧ R (Itl X.K a) H1) ∨ ((∃ xs, SqT X.K H1 a xs) ∧ R (Itt X.K a) H1))) := by
  refine ⟨fun pins s σ H R I h => ?_⟩
  refine thn (hl.run pins s σ H _ I h) fun v s1 ⟨x, H1, I1, r1, a, e, q⟩ => ?_
  subst e
  cases r1
  have fr : ∀ b ∈ [s1.heap.objs.size], FpOk X pins H1 b := fun b hb => by
    have e : b = s1.heap.objs.size := by simpa using hb
    rw [e]
    exact I1.fpOk (Nat.le_refl _) (I1.hok.fresh (Nat.le_refl _))
  rcases q with ⟨⟨xs, hq⟩, q⟩ | ⟨⟨xs, hq⟩, q⟩
  · obtain ⟨its, rv, p, hz⟩ := I1.list hq
    exact PySem.wpAny_pyIter_list p.isList ⟨s1.heap.objs.size, [s1.heap.objs.size], _, _, H1, rfl, I1.kept (t' := s1.toks) (fun b o e => PySem.Heap.get?_push_of_some _ e), turn_list a _,
      ⟨_, PySem.Heap.get?_push_size _ rfl, rfl, rfl⟩, fr, q⟩
  · obtain ⟨its, rv, p, hz⟩ := I1.tuple hq
    exact PySem.wpAny_pyIter_tuple (show s1.heap.IsTuple a its.toArray from p) ⟨s1.heap.objs.size, [s1.heap.objs.size], _, _, H1, rfl, I1.kept (t' := s1.toks) (fun b o e => PySem.Heap.get?_push_of_some _ e), turn_tuple a _,
      ⟨_, PySem.Heap.get?_push_size _ rfl, rfl, rfl⟩, fr, q⟩
theorem itOk_list (hK : X.K = G.K) (a : Addr) (ds : List D) : ItOk G (Itl X.K a) ds (fun h => h a = some (.lst ds)) (fun _ _ => True) where
  st := fun _ _ _ _ _ _ _ => trivial
  go := fun i d h H rh _ ck e => by
    obtain ⟨vs, e2, l⟩ := rh.lsts ck
    obtain ⟨v, e3, r⟩ := l.get e
    refine ⟨⟨vs, v, SqL.of e2, e3⟩, fun x H' y => ?_⟩
    obtain ⟨rfl, y⟩ := y
    have := y vs (SqL.of e2)
    rw [e3] at this; cases this
    exact ⟨r, Tr.refl, rh⟩
  stop := fun h H rh _ ck => by
    obtain ⟨vs, e2, l⟩ := rh.lsts ck
    exact ⟨vs, SqL.of e2, by rw [l.length]; exact Nat.le_refl _⟩
theorem itOk_fl (hK : X.K = G.K) (a : Addr) (ds : List D) (vs : List V) : ItOk G (Itl X.K a) ds (fun _ => True) (fun _ H => SqF G.K H a vs ∧ RepL G H ds vs) where
  st := fun _ _ _ _ _ k ⟨q, l⟩ => ⟨k.2 _ _ q, l.ke k⟩
  go := fun i d h H rh ⟨q, l⟩ _ e => by
    obtain ⟨v, e3, r⟩ := l.get e
    have q' : SqL X.K H a vs := by rw [hK]; exact q.l
    refine ⟨⟨vs, v, q', e3⟩, fun x H' y => ?_⟩
    obtain ⟨rfl, y⟩ := y
    have := y vs q'
    rw [e3] at this; cases this
    exact ⟨r, Tr.refl, rh⟩
  stop := fun h H rh ⟨q, l⟩ _ => ⟨vs, by rw [hK]; exact q.l, by rw [l.length]; exact Nat.le_refl _⟩
theorem itOk_tup (hK : X.K = G.K) (a : Addr) (ds : List D) (vs : List V) : ItOk G (Itt X.K a) ds (fun _ => True) (fun _ H => SqT G.K H a vs ∧ RepL G H ds vs) where
  st := fun _ _ _ _ _ k ⟨q, l⟩ => ⟨k.1 _ _ q, l.ke k⟩
  go := fun i d h H rh ⟨q, l⟩ _ e => by
    obtain ⟨v, e3, r⟩ := l.get e
    have q' : SqT X.K H a vs := by rw [hK]; exact q
    refine ⟨⟨vs, v, q', e3⟩, fun x H' y => ?_⟩
    obtain ⟨rfl, y⟩ := y
    have := y vs q'
    rw [e3] at this; cases this
    exact ⟨r, Tr.refl, rh⟩
  stop := fun h H rh ⟨q, l⟩ _ => ⟨vs, by rw [hK]; exact q, by rw [l.length]; exact Nat.le_refl _⟩
theorem itOk_rng (lo : Int) (n : Nat) : ItOk G (Itr lo n) (rngD lo n) (fun _ => True) (fun _ _ => True) where
  st := fun _ _ _ _ _ _ _ => trivial
  go := fun i d h H rh _ _ e => by
    unfold rngD at e
    rw [List.getElem?_map] at e
    cases q : (List.range n)[i]? with
    | none => rw [q] at e; cases e
    | some j =>
      rw [q] at e
      cases e
      obtain ⟨h1, h2⟩ := List.getElem?_eq_some_iff.mp q
      rw [List.getElem_range] at h2
      subst h2
      rw [List.length_range] at h1
      refine ⟨h1, fun x H' y => ?_⟩
      obtain ⟨rfl, rfl⟩ := y
      exact ⟨rfl, Tr.refl, rh⟩
  stop := fun h H rh _ _ => by
    show n ≤ (rngD lo n).length
    unfold rngD
    rw [List.length_map, List.length_range]
    exact Nat.le_refl _
theorem rev_get {α : Type} {ds : List α} {i : Nat} {d : α} (e : ds.reverse[i]? = some d) : i < ds.length ∧ ds[ds.length - 1 - i]? = some d := by
  have h1 := (List.getElem?_eq_some_iff.mp e).1
  rw [List.length_reverse] at h1
  rw [List.getElem?_reverse h1] at e
  exact ⟨h1, e⟩
theorem itOk_listR (hK : X.K = G.K) (a : Addr) (ds : List D) : ItOk G (Itv X.K a ds.length) ds.reverse (fun h => h a = some (.lst ds)) (fun _ _ => True) where
  st := fun _ _ _ _ _ _ _ => trivial
  go := fun i d h H rh _ ck e => by
    obtain ⟨vs, e2, l⟩ := rh.lsts ck
    obtain ⟨lt, e⟩ := rev_get e
    obtain ⟨v, e3, r⟩ := l.get e
    refine ⟨⟨lt, vs, v, SqL.of e2, e3⟩, fun x H' y => ?_⟩
    obtain ⟨rfl, y⟩ := y
    have := y vs (SqL.of e2)
    rw [e3] at this; cases this
    exact ⟨r, Tr.refl, rh⟩
  stop := fun h H rh _ ck => by
    show ds.length ≤ ds.reverse.length
    rw [List.length_reverse]
    exact Nat.le_refl _
theorem itOk_flR (hK : X.K = G.K) (a : Addr) (ds : List D) (vs : List V) : ItOk G (Itv X.K a ds.length) ds.reverse (fun _ => True) (fun _ H => SqF G.K H a vs ∧ RepL G H ds vs) where
  st := fun _ _ _ _ _ k ⟨q, l⟩ => ⟨k.2 _ _ q, l.ke k⟩
  go := fun i d h H rh ⟨q, l⟩ _ e => by
    obtain ⟨lt, e⟩ := rev_get e
    obtain ⟨v, e3, r⟩ := l.get e
    have q' : SqL X.K H a vs := by rw [hK]; exact q.l
    refine ⟨⟨lt, vs, v, q', e3⟩, fun x H' y => ?_⟩
    obtain ⟨rfl, y⟩ := y
    have := y vs q'
    rw [e3] at this; cases this
    exact ⟨r, Tr.refl, rh⟩
  stop := fun h H rh _ _ => by
    show ds.length ≤ ds.reverse.length
    rw [List.length_reverse]
    exact Nat.le_refl _
theorem itOk_tupR (hK : X.K = G.K) (a : Addr) (ds : List D) (vs : List V) : ItOk G (RT.ItvT X.K a ds.length) ds.reverse (fun _ => True) (fun _ H => SqT G.K H a vs ∧ RepL G H ds vs) where
  st := fun _ _ _ _ _ k ⟨q, l⟩ => ⟨k.1 _ _ q, l.ke k⟩
  go := fun i d h H rh ⟨q, l⟩ _ e => by
    obtain ⟨lt, e⟩ := rev_get e
    obtain ⟨v, e3, r⟩ := l.get e
    have q' : SqT X.K H a vs := by rw [hK]; exact q
    refine ⟨⟨lt, vs, v, q', e3⟩, fun x H' y => ?_⟩
    obtain ⟨rfl, y⟩ := y
    have := y vs q'
    rw [e3] at this; cases this
    exact ⟨r, Tr.refl, rh⟩
  stop := fun h H rh _ _ => by
    show ds.length ≤ ds.reverse.length
    rw [List.length_reverse]
    exact Nat.le_refl _
theorem srcK_inv {h : DH} {d : D} {k : List D → (DH → Prop) → Prop} (w : srcK h d k) : (∃ xs, d = .tup xs ∧ k xs fun _ => True) ∨ (∃ xs, d = .fl xs ∧ k xs fun _ => True) ∨ ∃ a xs, d = .ref a ∧ h a = some (.lst xs) ∧ k xs fun h' => h' a = some (.lst xs) := by
  cases d with
  | tup xs => exact .inl ⟨xs, rfl, w⟩
  | fl xs => exact .inr (.inl ⟨xs, rfl, w⟩)
  | ref a =>
    obtain ⟨xs, e, w⟩ := lsK_inv w
    exact .inr (.inr ⟨a, xs, rfl, e, w⟩)
  | _ => exact False.elim w
theorem zi_val {a1 : Ex} (hK : X.K = G.K) (ha : PE X a (liE G W (wE C a1))) : PI X tg a (liI G W (wI C (.val a1))) :=
  (pi_seq ha).via fun σ H Q ⟨τ, h, R, S, rs, rh, w, x, k⟩ => by
    simp only [wI] at w
    refine ⟨τ, h, _, S, rs, rh, w, fun d h1 v H1 t1 rh1 r1 w1 => ?_, x⟩
    rcases srcK_inv w1 with ⟨xs, rfl, w2⟩ | ⟨xs, rfl, w2⟩ | ⟨p, xs, rfl, e, w2⟩
    · obtain ⟨q, vs, ev, sq, l⟩ := r1
      refine ⟨q, ev, .inr ⟨⟨vs, by rw [hK]; exact sq⟩, k xs _ h1 _ H1 _ t1 rh1 (itOk_tup hK q xs vs) ⟨sq, l⟩ w2⟩⟩
    · obtain ⟨q, vs, ev, sq, l⟩ := r1
      refine ⟨q, ev, .inl ⟨⟨vs, by rw [hK]; exact sq.l⟩, k xs _ h1 _ H1 _ t1 rh1 (itOk_fl hK q xs vs) ⟨sq, l⟩ w2⟩⟩
    · obtain ⟨vs, e2, l⟩ := rh1.lsts e
      exact ⟨p, r1, .inl ⟨⟨vs, SqL.of e2⟩, k xs _ h1 _ H1 _ t1 rh1 (itOk_list hK p xs) trivial w2⟩⟩
theorem zi_rev {a1 : Ex} (hK : X.K = G.K) (hg : Gl X "reversed") (hm : X.mg "reversed" = none) (ha : PE X a (liE G W (wE C a1))) (hs : PySem.starEach [a] X.env = (false, PySem.eval a X.env) :: PySem.starEach [] X.env) : PI X tg (.Call (.Name "reversed" p) [a] [] pos) (liI G W (wI C (.rev a1))) :=
  (RT.pi_revA hg hm ha hs).via fun σ H Q ⟨τ, h, R, S, rs, rh, w, x, k⟩ => by
    simp only [wI] at w
    refine ⟨τ, h, _, S, rs, rh, w, fun d h1 v H1 t1 rh1 r1 w1 => ?_, x⟩
    rcases srcK_inv w1 with ⟨xs, rfl, w2⟩ | ⟨xs, rfl, w2⟩ | ⟨p, xs, rfl, e, w2⟩
    · obtain ⟨q, vs, ev, sq, l⟩ := r1
      refine ⟨q, vs, ev, .inr ⟨by rw [hK]; exact sq, ?_⟩⟩
      rw [← l.length]
      exact k _ _ h1 _ H1 _ t1 rh1 (itOk_tupR hK q xs vs) ⟨sq, l⟩ w2
    · obtain ⟨q, vs, ev, sq, l⟩ := r1
      refine ⟨q, vs, ev, .inl ⟨by rw [hK]; exact sq.l, ?_⟩⟩
      rw [← l.length]
      exact k _ _ h1 _ H1 _ t1 rh1 (itOk_flR hK q xs vs) ⟨sq, l⟩ w2
    · obtain ⟨vs, e2, l⟩ := rh1.lsts e
      refine ⟨p, vs, r1, .inl ⟨SqL.of e2, ?_⟩⟩
      rw [← l.length]
      exact k _ _ h1 _ H1 _ t1 rh1 (itOk_listR hK p xs) trivial w2
theorem zi_rng1 {a1 : Ex} (hg : Gl X "range") (hm : X.mg "range" = none) (ha : PE X a (liE G W (wE C a1))) (hs : PySem.starEach [a] X.env = [(false, PySem.eval a X.env)]) : PI X tg (.Call (.Name "range" p) [a] [] pos) (liI G W (wI C (.rng1 a1))) :=
  (pi_range1 hg hm (pa_cons ha pa_nil hs) hs).via fun σ H Q ⟨τ, h, R, S, rs, rh, w, x, k⟩ => by
    simp only [wI] at w
    refine ⟨τ, h, _, S, rs, rh, w, fun d h1 v H1 t1 rh1 r1 w1 => ?_, x⟩
    cases d with
    | int j =>
      cases r1
      exact ⟨j, rfl, w1.1.1, w1.1.2, k _ _ h1 _ H1 _ t1 rh1 (itOk_rng 0 j.toNat) trivial w1.2⟩
    | _ => exact False.elim w1
theorem zi_rng2 {a1 b1 : Ex} (hg : Gl X "range") (hm : X.mg "range" = none) (ha : PE X a (liE G W (wE C a1))) (hb : PE X b (liE G W (wE C b1))) (hs : PySem.starEach [a, b] X.env = [(false, PySem.eval a X.env), (false, PySem.eval b X.env)]) (hs2 : PySem.starEach [b] X.env = [(false, PySem.eval b X.env)]) : PI X tg (.Call (.Name "range" p) [a, b] [] pos) (liI G W (wI C (.rng2 a1 b1))) :=
  (pi_range2 hg hm (pa_cons ha (pa_cons hb pa_nil hs2) (by rw [hs, hs2])) hs hs2).via fun σ H Q ⟨τ, h, R, S, rs, rh, w, x, k⟩ => by
    simp only [wI] at w
    refine ⟨τ, h, _, S, rs, rh, w, fun d h1 v H1 t1 rh1 r1 w1 => ?_, x⟩
    refine ⟨τ, h1, _, S, rs.tr rh t1, rh1, w1, fun d2 h2 v2 H2 t2 rh2 r2 w2 => ?_, x.tr t1⟩
    cases d with
    | int i => cases d2 with
      | int j =>
        cases r1
        cases r2
        exact ⟨i, j, rfl, w2.1, k _ _ h2 _ H2 _ (t1.trans t2) rh2 (itOk_rng i (j - i).toNat) trivial w2.2⟩
      | _ => exact False.elim w2
    | _ => exact False.elim w2
end
end Z
set_option Elab.async false
set_option linter.all false
set_option maxRecDepth 100000
set_option maxHeartbeats 4000000
/-! Fw9: list comprehensions, statements. -/
namespace Z
open PySem (Str Addr sizeLine PyData Paired Expr Stmt Value Shared binaryOp compareOp unaryOp)
open L2
abbrev W0 : WX := fun _ _ _ _ => False
section
variable {G : Gd} {W : WX} {X : Cx} {a b c e tg iter elt : Expr} {es ifs : List Expr} {pos p p2 apos : PySem.Pos} {C : Pr}
theorem XOk.none {σ : L2.St} {h : DH} {H : Hp} : XOk G W σ h H (fun _ _ _ => False) := fun _ _ _ _ _ _ _ _ _ z => z.elim
/-- a comprehension's target, data beside the hand layer -/
def CtOk (G : Gd) (vs : List Nat) (g : TG) : Prop := ∀ (H : Hp) (τ : DS) (σ : L2.St) (d : D) (x : V) (k : DS → Prop), RepS G H τ σ → Rep G H d x → ctK vs d τ k → ∀ Q : L2.St → Hp → Prop, (∀ σ2, wipe σ2 vs = wipe σ vs → (∃ τ2, RepS G H τ2 σ2 ∧ k τ2) → Q σ2 H) → g x (wipe σ vs) H Q
theorem RepS.set {H : Hp} {τ : DS} {σ : L2.St} (s : RepS G H τ σ) {d : D} {v : V} (r : Rep G H d v) (i : Nat) : RepS G H (τ.set i (some d)) (σ.set i (some v)) := by
  refine ⟨by simp [s.1], fun j d' e => ?_⟩
  by_cases hj : i = j
  · subst hj
    by_cases hl : i < τ.length
    · rw [List.getElem?_set_self hl] at e
      cases e
      exact ⟨v, by rw [List.getElem?_set_self (by rw [← s.1]; exact hl)], r⟩
    · rw [List.getElem?_eq_none (by simp; omega)] at e
      cases e
  · rw [List.getElem?_set_ne hj] at e
    obtain ⟨u, e1, q⟩ := s.2 j d' e
    exact ⟨u, by rw [List.getElem?_set_ne hj]; exact e1, q⟩
theorem ct_one (i : Nat) : CtOk G [i] (gName i) := fun H τ σ d x k s r w Q q => by
  have e : wipe σ [i] = σ.set i none := rfl
  show Q ((wipe σ [i]).set i (some x)) H
  rw [e, List.set_set]
  refine q _ ?_ ⟨_, s.set r i, w⟩
  show (σ.set i (some x)).set i none = σ.set i none
  rw [List.set_set]
theorem ct_two (i j : Nat) (hij : i ≠ j) : CtOk G [i, j] (gTup G.K 2 (gCons (gName i) (gCons (gName j) gNil))) := fun H τ σ d x k s r w Q q => by
  cases d with
  | tup xs =>
    match xs, w with
    | [d1, d2], w =>
      obtain ⟨a, vs, e, sq, l⟩ := r
      obtain ⟨v1, _, ev, r1, v2, _, ev2, r2, en⟩ := l
      cases (show _ = [] from en)
      subst ev2 ev e
      have e : wipe σ [i, j] = (σ.set j none).set i none := rfl
      refine ⟨a, [v1, v2], rfl, sq, rfl, v1, [v2], rfl, v2, [], rfl, rfl, ?_⟩
      have e3 : ((wipe σ [i, j]).set i (some v1)).set j (some v2) = (σ.set i (some v1)).set j (some v2) := by
        rw [e, List.set_set, List.set_comm _ _ hij, List.set_set, ← List.set_comm _ _ hij]
      rw [e3]
      refine q _ ?_ ⟨_, (s.set r1 i).set r2 j, w⟩
      show ((((σ.set i (some v1)).set j (some v2)).set j none).set i none) = _
      rw [List.set_set, List.set_comm _ _ hij, List.set_set]
      rfl
    | [], w => exact False.elim w
    | [_], w => exact False.elim w
    | _ :: _ :: _ :: _, w => exact False.elim w
  | _ => exact False.elim w
theorem lc_of {vs : List Nat} {it : It} {t : Ts} {e1 : Ex} {g : TG} (hgk : CtOk G vs g) {σ : L2.St} {H : Hp} {Q : VK} (q : liE G W (wE C (.lc vs it t e1)) σ H Q) : tLc (liI G W (wI C it)) g (liT G W0 (wT C t)) (liE G W0 (wE C e1)) vs σ H Q := by
  obtain ⟨τ, h, R, S, rs, rh, w, k, x⟩ := q
  simp only [wE] at w
  refine ⟨τ, h, _, S, rs, rh, w, x, fun ds chk h1 J H1 P t1 rh1 io p0 w1 => ?_⟩
  intro D hD
  have s1 : ¬ Stays (.lst []) := fun z => z
  refine ⟨fun i m Hc => ∃ hc acc vacc, RepH G hc Hc ∧ Tr h1 H1 hc Hc ∧ Ke G.K H1 Hc ∧ P hc Hc ∧ Hc D = some (.lst vacc) ∧ RepL G Hc acc vacc ∧ hc D = none ∧ m = ds.length - i ∧ i ≤ ds.length ∧
    lcK chk (fun d h2 k => ctK vs d τ fun σ2 => wT C t σ2 h2 (fun b h3 => if b = true then wE C e1 σ2 h3 (fun y h4 => k (some y) h4) (fun _ _ _ => False) else k none h3) (fun _ _ _ => False)) (fun acc h2 => new h2 (.lst acc) R) (ds.drop i) acc hc, ?_, ?_⟩
  · have tn := tr_new rh1 hD (.lst [])
    exact ⟨_, h1, [], [], rh1.new hD _, tn, tn.ke rh1, io.st _ _ _ _ rh1 (tn.ke rh1) p0, upd_same, rfl, rh1.free hD, rfl, Nat.zero_le _, w1⟩
  · rintro i m Hc ⟨hc, acc, vacc, rhc, tc, kc, pc, eD, lD, nD, rfl, hi, wl⟩
    by_cases hlt : i < ds.length
    · have ed : ds.drop i = ds[i] :: ds.drop (i + 1) := List.drop_eq_getElem_cons hlt
      rw [ed] at wl
      obtain ⟨ck, wl⟩ := wl
      obtain ⟨go, yl⟩ := io.go i ds[i] hc Hc rhc pc ck (List.getElem?_eq_getElem hlt)
      refine .inr ⟨go, fun H' => ∃ m', m' < ds.length - i ∧ _, fun H' z => z, fun y H' hy => ?_⟩
      obtain ⟨ry, ty, rhy⟩ := yl y H' hy
      have eD1 : H' D = some (.lst vacc) := (ty D _ eD nD).1
      have rs1 : RepS G H' τ σ := (rs.tr rh t1).ke (kc.trans (ty.ke rhc))
      refine hgk H' τ σ ds[i] y _ rs1 ry wl _ fun σ2 ew ⟨τ2, rs2, w2⟩ => ⟨ew, τ2, hc, _, _, rs2, rhy, w2, fun b h3 H3 t3 rh3 w3 => ?_, XOk.none⟩
      have eD3 : H3 D = some (.lst vacc) ∧ h3 D = none := t3 D _ eD1 nD
      have tb := (tc.trans ty).trans t3
      have kb := (kc.trans (ty.ke rhc)).trans (t3.ke rhy)
      cases b with
      | true =>
        refine ⟨τ2, h3, _, _, rs2.tr rhy t3, rh3, w3, fun d4 h4 v4 H4 t4 rh4 r4 w4 => ?_, XOk.none⟩
        obtain ⟨lt4, w4⟩ := w4
        have eD4 := t4 D _ eD3.1 eD3.2
        have kl := kb.trans (t4.ke rh3)
        have ll : acc.length = vacc.length := lD.length
        refine ⟨vacc, eD4.1, by rw [← ll]; exact lt4, ds.length - (i + 1), by omega, h4, acc ++ [d4], vacc ++ [v4], ?_⟩
        have ku : Ke G.K H4 (upd H4 D (.lst (vacc ++ [v4]))) := Ke.upd eD4.1 fun z => z
        refine ⟨rh4.aside eD4.1 (fun z => z) eD4.2, fun b o e n => ?_, kl.trans ku, ?_, upd_same, ?_, eD4.2, rfl, hlt, w4⟩
        · obtain ⟨e2, n2⟩ := (tb.trans t4) b o e n
          exact ⟨by rw [upd_ne (fun z => by subst z; rw [hD] at e; cases e)]; exact e2, n2⟩
        · have p4 : P h4 H4 := io.st _ _ _ _ rhc ((ty.ke rhc).trans ((t3.ke rhy).trans (t4.ke rh3))) pc
          exact io.st _ _ _ _ rh4 ku p4
        · exact ((lD.ke ((ty.ke rhc).trans ((t3.ke rhy).trans (t4.ke rh3)))).ke ku).append (show RepL G _ [d4] [v4] from ⟨v4, [], rfl, r4.ke ku, rfl⟩)
      | false =>
        refine ⟨ds.length - (i + 1), by omega, h3, acc, vacc, rh3, tb, kb, ?_, eD3.1, lD.ke ((ty.ke rhc).trans (t3.ke rhy)), eD3.2, rfl, hlt, w3⟩
        exact io.st _ _ _ _ rhc ((ty.ke rhc).trans (t3.ke rhy)) pc
    · have ei : i = ds.length := by omega
      subst ei
      rw [List.drop_length] at wl
      obtain ⟨ck, wl⟩ := wl
      refine .inl ⟨io.stop hc Hc rhc pc ck, ?_⟩
      refine k (.ref D) (dput hc D (.lst acc)) (.ref D) Hc ?_ ?_ rfl (wl D nD)
      · intro b o e n
        obtain ⟨e1, n1⟩ := t1 b o e n
        have hb : b ≠ D := fun z => by subst z; rw [hD] at e1; cases e1
        obtain ⟨e2, n2⟩ := tc b o e1 n1
        exact ⟨e2, by rw [dput_ne hb]; exact n2⟩
      · intro a o e
        by_cases ha : a = D
        · subst ha
          rw [dput_same] at e
          cases e
          exact ⟨vacc, eD, lD⟩
        · rw [dput_ne ha] at e
          exact rhc a o e
theorem ze_lc {scope : PySem.Scope} {own : List (Str × Nat)} {vs : List Nat} {it : It} {t : Ts} {e1 : Ex} {g : TG} (hc : X.calm = true) (hN : X.N.Nodup) (hi : PI X tg iter (liI G W (wI C it))) (ok : BlkOk X.N X.env.scope scope own) (hvs : own.map (·.2) = vs) (hgk : CtOk G vs g)
    (hg : ∀ (s : Shared) (H : Hp) (Ca : Addr) (cl : List (Str × Addr)) (fp : List Addr), PG (X.blk s H scope (PySem.compEnvC scope cl Ca X.env) fp) tg g) (ht : ∀ (s : Shared) (H : Hp) (Ca : Addr) (cl : List (Str × Addr)) (fp : List Addr), PTs (X.blk s H scope (PySem.compEnvC scope cl Ca X.env) fp) ifs (liT G W0 (wT C t)))
    (he : ∀ (s : Shared) (H : Hp) (Ca : Addr) (cl : List (Str × Addr)) (fp : List Addr), PE (X.blk s H scope (PySem.compEnvC scope cl Ca X.env) fp) elt (liE G W0 (wE C e1))) (hs : ∀ x, PySem.foldedSetIterable iter X.env x = pure x) :
    PE X (.ListComp elt [⟨tg, iter, ifs, 0⟩] scope pos) (liE G W (wE C (.lc vs it t e1))) := by
  subst hvs
  exact (pe_lc hc hN hi ok hg ht he hs).via fun _ _ _ q => lc_of hgk q
end
end Z
set_option Elab.async false
set_option linter.all false
set_option maxRecDepth 100000
set_option maxHeartbeats 4000000
/-! Fw10: statements. -/
namespace Z
open PySem (Str Addr sizeLine PyData Paired Expr Stmt Value Shared binaryOp compareOp unaryOp)
open L2
section
variable (G : Gd) (W : WX)
structure EOk (h : DH) (H : Hp) (De : De) (Dc : Ends) : Prop where
  nx : ∀ τ' h' σ' H', Tr h H h' H' → RepS G H' τ' σ' → RepH G h' H' → De.nx τ' h' → Dc.nx σ' H'
  rt : ∀ d h' v H', Tr h H h' H' → RepH G h' H' → Rep G H' d v → De.rt d h' → Dc.rt v H'
  bk : ∀ τ' h' σ' H', Tr h H h' H' → RepS G H' τ' σ' → RepH G h' H' → De.bk τ' h' → Dc.bk σ' H'
  ct : ∀ τ' h' σ' H', Tr h H h' H' → RepS G H' τ' σ' → RepH G h' H' → De.ct τ' h' → Dc.ct σ' H'
  ex : ∀ τ' c fs h' σ' cls d H', Tr h H h' H' → RepS G H' τ' σ' → RepH G h' H' → XRep G H' c fs cls d → De.ex τ' c fs h' → W cls d σ' H'
def liS (w : De → DS → DH → Prop) : TS := fun Dc σ H => ∃ τ h De, RepS G H τ σ ∧ RepH G h H ∧ w De τ h ∧ EOk G W h H De Dc
def liG (w : D → DS → DH → (DS → DH → Prop) → Prop) : TG := fun v σ H Q => ∃ d τ h K, Rep G H d v ∧ RepS G H τ σ ∧ RepH G h H ∧ w d τ h K ∧ ∀ τ' h' σ' H', Tr h H h' H' → RepS G H' τ' σ' → RepH G h' H' → K τ' h' → Q σ' H'
end
section
variable {G : Gd} {W : WX} {X : Cx} {a b c e tg iter o i : Expr} {es ifs : List Expr} {pos p p2 apos : PySem.Pos} {C : Pr} {st : Stmt} {sts : List Stmt}
theorem EOk.tr {h h1 : DH} {H H1 : Hp} {De : De} {Dc : Ends} (x : EOk G W h H De Dc) (t : Tr h H h1 H1) : EOk G W h1 H1 De Dc :=
  ⟨fun τ' h' σ' H' t' => x.nx τ' h' σ' H' (t.trans t'), fun d h' v H' t' => x.rt d h' v H' (t.trans t'), fun τ' h' σ' H' t' => x.bk τ' h' σ' H' (t.trans t'), fun τ' h' σ' H' t' => x.ct τ' h' σ' H' (t.trans t'), fun τ' c fs h' σ' cls d H' t' => x.ex τ' c fs h' σ' cls d H' (t.trans t')⟩
theorem EOk.xo {h : DH} {H : Hp} {De : De} {Dc : Ends} (x : EOk G W h H De Dc) {τ : DS} {σ : L2.St} (rs : RepS G H τ σ) (rh : RepH G h H) : XOk G W σ h H (De.ex τ) :=
  fun c fs h' cls d H' t rh' xr q => x.ex τ c fs h' σ cls d H' t (rs.tr rh t) rh' xr q
theorem _root_.L2.PS.via {X : Cx} {st : Stmt} {t t' : TS} (p : PS X st t) (m : ∀ D σ H, t' D σ H → t D σ H) : PS X st t' := ⟨fun pins s σ H D I q => p.run pins s σ H D I (m D σ H q)⟩
theorem _root_.L2.PSs.via {X : Cx} {st : List Stmt} {t t' : TS} (p : PSs X st t) (m : ∀ D σ H, t' D σ H → t D σ H) : PSs X st t' := ⟨fun pins s σ H D I q => p.run pins s σ H D I (m D σ H q)⟩
theorem _root_.L2.PG.via {X : Cx} {e : Expr} {t t' : TG} (p : PG X e t) (m : ∀ v σ H Q, t' v σ H Q → t v σ H Q) : PG X e t' := ⟨fun pins s σ H v u Q I r q => p.run pins s σ H v u Q I r (m v σ H Q q)⟩
theorem zss_nil : PSs X [] (liS G W (wSs C .nil)) := pss_nil.via fun Dc σ H ⟨τ, h, De, rs, rh, w, x⟩ => by
  simp only [wSs] at w
  exact x.nx τ h σ H Tr.refl rs rh w
theorem zss_cons {s1 : Sm} {r1 : Sms} (hs : PS X st (liS G W (wS C s1))) (hr : PSs X sts (liS G W (wSs C r1))) : PSs X (st :: sts) (liS G W (wSs C (.cons s1 r1))) :=
  (pss_cons hs hr).via fun Dc σ H ⟨τ, h, De, rs, rh, w, x⟩ => by
    simp only [wSs] at w
    refine ⟨τ, h, _, rs, rh, w, ⟨fun τ' h' σ' H' t rs' rh' w' => ?_, x.rt, x.bk, x.ct, x.ex⟩⟩
    exact ⟨τ', h', De, rs', rh', w', x.tr t⟩
theorem zs_pas : PS X (.Pass pos) (liS G W (wS C .pas)) := ps_pass.via fun Dc σ H ⟨τ, h, De, rs, rh, w, x⟩ => by
  simp only [wS] at w
  exact x.nx τ h σ H Tr.refl rs rh w
theorem zs_brk : PS X (.Break pos) (liS G W (wS C .brk)) := ps_break.via fun Dc σ H ⟨τ, h, De, rs, rh, w, x⟩ => by
  simp only [wS] at w
  exact x.bk τ h σ H Tr.refl rs rh w
theorem zs_cnt : PS X (.Continue pos) (liS G W (wS C .cnt)) := ps_continue.via fun Dc σ H ⟨τ, h, De, rs, rh, w, x⟩ => by
  simp only [wS] at w
  exact x.ct τ h σ H Tr.refl rs rh w
theorem zs_ret {a1 : Ex} (ha : PE X a (liE G W (wE C a1))) : PS X (.Return (some a) pos) (liS G W (wS C (.ret a1))) :=
  (ps_ret ha).via fun Dc σ H ⟨τ, h, De, rs, rh, w, x⟩ => by
    simp only [wS] at w
    exact ⟨τ, h, _, _, rs, rh, w, fun d h1 v H1 t1 rh1 r1 w1 => x.rt d h1 v H1 t1 rh1 r1 w1, x.xo rs rh⟩
theorem zs_retN : PS X (.Return none pos) (liS G W (wS C .retN)) := ps_retN.via fun Dc σ H ⟨τ, h, De, rs, rh, w, x⟩ => by
  simp only [wS] at w
  exact x.rt .non h .non H Tr.refl rh rfl w
theorem zs_ex {a1 : Ex} (ha : PE X a (liE G W (wE C a1))) (hs : PySem.swapsWith a none pos.line X.env = pure false) : PS X (.Expr a pos) (liS G W (wS C (.ex a1))) :=
  (ps_expr ha hs).via fun Dc σ H ⟨τ, h, De, rs, rh, w, x⟩ => by
    simp only [wS] at w
    exact ⟨τ, h, _, _, rs, rh, w, fun d h1 v H1 t1 rh1 r1 w1 => x.nx τ h1 σ H1 t1 (rs.tr rh t1) rh1 w1, x.xo rs rh⟩
theorem zs_ite {t1 : Ts} {A B : List Stmt} {a1 b1 : Sms} (hc : PT X c (liT G W (wT C t1))) (ha : PSs X A (liS G W (wSs C a1))) (hb : PSs X B (liS G W (wSs C b1))) : PS X (.If c A B pos) (liS G W (wS C (.ite t1 a1 b1))) :=
  (ps_if hc ha hb).via fun Dc σ H ⟨τ, h, De, rs, rh, w, x⟩ => by
    simp only [wS] at w
    refine ⟨τ, h, _, _, rs, rh, w, fun k h1 H1 t1 rh1 w1 => ?_, x.xo rs rh⟩
    cases k with
    | true => exact ⟨τ, h1, De, rs.tr rh t1, rh1, w1, x.tr t1⟩
    | false => exact ⟨τ, h1, De, rs.tr rh t1, rh1, w1, x.tr t1⟩
/-! targets -/
theorem zg_name {j : Nat} {x : Str} (hN : X.N.Nodup) (hi : X.N[j]? = some x) (hx : Loc X.env.scope x) (hf : X.fn x = true ∨ X.env.scope.names.lookup x = some .local) : PG X (.Name x pos) (liG G (wG C (.name j))) :=
  (pg_name hN hi hx hf).via fun v σ H Q ⟨d, τ, h, K, r, rs, rh, w, k⟩ => by
    simp only [wG] at w
    exact k _ h _ H Tr.refl (rs.set r j) rh w
def liGs (G : Gd) (w : List D → DS → DH → (DS → DH → Prop) → Prop) : TGs := fun v σ H Q => ∃ d τ h K, RepL G H d v ∧ RepS G H τ σ ∧ RepH G h H ∧ w d τ h K ∧ ∀ τ' h' σ' H', Tr h H h' H' → RepS G H' τ' σ' → RepH G h' H' → K τ' h' → Q σ' H'
theorem _root_.L2.PGs.via {X : Cx} {e : List Expr} {t t' : TGs} (p : PGs X e t) (m : ∀ v σ H Q, t' v σ H Q → t v σ H Q) : PGs X e t' := ⟨fun pins s σ H v u Q I r q => p.run pins s σ H v u Q I r (m v σ H Q q)⟩
theorem zgs_nil : PGs X [] (liGs G (wGs C .nil)) := pgs_nil.via fun v σ H Q ⟨d, τ, h, K, r, rs, rh, w, k⟩ => by
  simp only [wGs] at w
  obtain ⟨rfl, w⟩ := w
  exact ⟨r, k _ h _ H Tr.refl rs rh w⟩
theorem zgs_cons {t1 : Tg} {ts1 : Tgs} (h1 : PG X e (liG G (wG C t1))) (h2 : PGs X es (liGs G (wGs C ts1))) (hs : (PySem.assignEach (e :: es) X.env).map (·.2) = PySem.assign e X.env :: (PySem.assignEach es X.env).map (·.2)) : PGs X (e :: es) (liGs G (wGs C (.cons t1 ts1))) :=
  (pgs_cons h1 h2 hs).via fun v σ H Q ⟨d, τ, h, K, r, rs, rh, w, k⟩ => by
    cases d with
    | nil => exact False.elim (by simpa only [wGs] using w)
    | cons d1 dr =>
      simp only [wGs] at w
      obtain ⟨v1, vr, ev, r1, rr⟩ := r
      refine ⟨v1, vr, ev, d1, τ, h, _, r1, rs, rh, w, fun τ' h' σ' H' t rs' rh' w' => ?_⟩
      exact ⟨dr, τ', h', K, rr.tr rh t, rs', rh', w', fun τ2 h2 σ2 H2 t2 => k τ2 h2 σ2 H2 (t.trans t2)⟩
theorem zg_tup {ts1 : Tgs} {kk : Nat} (hK : X.K = G.K) (hc : X.calm = true) (h : PGs X es (liGs G (wGs C ts1))) (hn : (PySem.assignEach es X.env).length = ts1.len) (hst : (PySem.assignEach es X.env).findIdx? (·.1) = none) : PG X (.Tuple es kk pos) (liG G (wG C (.tup ts1))) :=
  (pg_tup hc h hn hst).via fun v σ H Q ⟨d, τ, h, K, r, rs, rh, w, k⟩ => by
    simp only [wG] at w
    cases d with
    | tup xs =>
      obtain ⟨a, vs, ev, sq, l⟩ := r
      exact ⟨a, vs, ev, by rw [hK]; exact sq, by rw [← l.length]; exact w.1, xs, τ, h, K, l, rs, rh, w.2, k⟩
    | _ => exact False.elim w
theorem zg_sub {o1 i1 : Ex} (ho : PE X o (liE G W0 (wE C o1))) (hi : PE X i (liE G W0 (wE C i1)))
    (ha : ∀ v, PySem.assign (.Subscript o i pos) X.env v = (do
      let ov ← PySem.holding [v] (PySem.eval o X.env)
      let iv ← PySem.holding [v, ov] (PySem.eval i X.env)
      PySem.standAt pos
      PySem.holding [v, ov, iv] (PySem.setItem ov iv v)
      PySem.release [v, ov, iv] [])) : PG X (.Subscript o i pos) (liG G (wG C (.sub o1 i1))) :=
  (pg_sub ho hi set_list ha).via fun v σ H Q ⟨d, τ, h, K, r, rs, rh, w, k⟩ => by
    simp only [wG] at w
    refine ⟨τ, h, _, _, rs, rh, w, fun d1 h1 v1 H1 t1 rh1 r1 w1 => ?_, XOk.none⟩
    refine ⟨τ, h1, _, _, rs.tr rh t1, rh1, w1, fun d2 h2 v2 H2 t2 rh2 r2 w2 => ?_, XOk.none⟩
    have tt := t1.trans t2
    cases d1 with
    | ref q => cases d2 with
      | int j =>
        cases r1; cases r2
        simp only [subSet] at w2
        split at w2
        · rename_i xs e
          obtain ⟨n, en, w3⟩ := w2
          obtain ⟨vs, e2, l⟩ := rh2.lsts e
          obtain ⟨rh3, t3⟩ := setL rh2 e (l.set (r.tr rh tt) n)
          exact ⟨q, vs, j, n, rfl, rfl, e2, by rw [← l.length]; exact en, k τ _ σ _ (tt.trans t3) ((rs.tr rh tt).tr rh2 t3) rh3 w3⟩
        · exact w2.elim
      | _ => exact False.elim w2
    | _ => exact False.elim w2
/-! stores -/
theorem zs_asg {t1 : Tg} {a1 : Ex} (ha : PE X a (liE G W (wE C a1))) (hg : PG X tg (liG G (wG C t1))) (hs : PySem.swapsWithSole [tg] a pos.line X.env = pure false) (hw : PySem.swappedStores [tg] a X.env = pure none) (h1 : List.map (fun x => x.snd) (PySem.assignEach [tg] X.env) = [PySem.assign tg X.env]) : PS X (.Assign [tg] a pos) (liS G W (wS C (.asg t1 a1))) :=
  (ps_asg ha hg hs hw h1).via fun Dc σ H ⟨τ, h, De, rs, rh, w, x⟩ => by
    simp only [wS] at w
    refine ⟨τ, h, _, _, rs, rh, w, fun d h1 v H1 t1 rh1 r1 w1 => ?_, x.xo rs rh⟩
    exact ⟨d, τ, h1, De.nx, r1, rs.tr rh t1, rh1, w1, fun τ' h' σ' H' t' => x.nx τ' h' σ' H' (t1.trans t')⟩
theorem zs_setLc {j : Nat} {y : Str} {py spos : PySem.Pos} {scope : PySem.Scope} {own : List (Str × Nat)} {vs : List Nat} {it : It} {t : Ts} {e1 : Ex} {g : TG} {elt : Expr} (hc : X.calm = true) (hN : X.N.Nodup) (hy : X.N[j]? = some y) (hyl : X.env.scope.names.lookup y = some .local)
    (hsw : PySem.swapsWith (.ListComp elt [⟨tg, iter, ifs, 0⟩] scope pos) (some (.Name y py)) spos.line X.env = pure true) (hi : PI X tg iter (liI G W (wI C it))) (ok : BlkOk X.N X.env.scope scope own) (hvs : own.map (·.2) = vs) (hgk : CtOk G vs g)
    (hg : ∀ (s : Shared) (H : Hp) (Ca : Addr) (cl : List (Str × Addr)) (fp : List Addr), PG (X.blk s H scope (PySem.compEnvC scope cl Ca X.env) fp) tg g) (ht : ∀ (s : Shared) (H : Hp) (Ca : Addr) (cl : List (Str × Addr)) (fp : List Addr), PTs (X.blk s H scope (PySem.compEnvC scope cl Ca X.env) fp) ifs (liT G W0 (wT C t)))
    (he : ∀ (s : Shared) (H : Hp) (Ca : Addr) (cl : List (Str × Addr)) (fp : List Addr), PE (X.blk s H scope (PySem.compEnvC scope cl Ca X.env) fp) elt (liE G W0 (wE C e1))) (hs : ∀ x, PySem.foldedSetIterable iter X.env x = pure x) :
    PS X (.Assign [.Name y py] (.ListComp elt [⟨tg, iter, ifs, 0⟩] scope pos) spos) (liS G W (wS C (.asg (.name j) (.lc vs it t e1)))) := by
  subst hvs
  refine (ps_setLc hc hN hy hyl hsw hi ok hg ht he hs).via fun Dc σ H ⟨τ, h, De, rs, rh, w, x⟩ => ?_
  simp only [wS] at w
  refine lc_of hgk ⟨τ, h, _, _, rs, rh, w, fun d h1 v H1 t1 rh1 r1 w1 => ?_, x.xo rs rh⟩
  simp only [wG] at w1
  exact x.nx _ h1 _ H1 t1 ((rs.tr rh t1).set r1 j) rh1 w1
theorem zs_fld {o1 a1 : Ex} {f : String} {pos' : PySem.Pos} (F : ClsF G X.sc) (hf : ∀ c, C.fld c f = true → (c, f) ∈ G.FL) (ho : PE X o (liE G W (wE C o1))) (ha : PE X a (liE G W (wE C a1))) (hs : PySem.swapsWith a (some (.Attribute o (Str.ofString f) pos')) pos.line X.env = pure false) :
    PS X (.Assign [.Attribute o (Str.ofString f) pos'] a pos) (liS G W (wS C (.fld o1 f a1))) :=
  (ps_fld ho ha hs).via fun Dc σ H ⟨τ, h, De, rs, rh, w, x⟩ => by
    simp only [wS] at w
    refine ⟨τ, h, _, _, rs, rh, w, fun d h1 v H1 t1 rh1 r1 w1 => ?_, x.xo rs rh⟩
    refine ⟨τ, h1, _, _, rs.tr rh t1, rh1, w1, fun d2 h2 v2 H2 t2 rh2 r2 w2 => ?_, (x.xo rs rh).tr t1⟩
    have tt := t1.trans t2
    cases d2 with
    | ref q =>
      cases r2
      simp only [attSet] at w2
      split at w2
      · rename_i c fs e
        obtain ⟨fl, lf, w3⟩ := w2
        obtain ⟨dx, ws, e3, l, hc, hfs⟩ := rh2 q _ e
        have rd := r1.tr rh1 t2
        have t3 := tr_set rh2 e (.ins (G.cl c) dx (putF (Str.ofString f) v ws)) (.ins c (putA f d fs))
        refine ⟨q, _, dx, ws, rfl, e3, F.cls c hc, F.no c f (hf c fl), by rw [← RepA.len l]; exact lf, x.nx τ _ σ _ (tt.trans t3) ((rs.tr rh tt).tr rh2 t3) ?_ w3⟩
        refine rh2.setD e ⟨dx, _, upd_same, RepA.tr rh2 t3 (RepA.put rd l), hc, fun p hp => ?_⟩
        rcases mem_putA hp with z | z
        · rw [z]; exact hf c fl
        · exact hfs p z
      · exact w2.elim
    | _ => exact False.elim w2
theorem zs_aug {j : Nat} {x : Str} {op : PySem.Operator} {o1 : Op} {a1 : Ex} {pos' : PySem.Pos} (hop : (op = .Add ∧ o1 = .add) ∨ (op = .Sub ∧ o1 = .sub)) (hN : X.N.Nodup) (hi : X.N[j]? = some x) (hx : Loc X.env.scope x) (ha : PE X a (liE G W (wE C a1))) (hf : X.fn x = true ∨ X.env.scope.names.lookup x = some .local) :
    PS X (.AugAssign (.Name x pos') op a pos) (liS G W (wS C (.aug j o1 a1))) := by
  have main : ∀ {g : Int → Int → Int}, PIp X op (ipI g) → (∀ (d1 d2 : D) (h : DH) (Q : DK), augK o1 d1 d2 h Q → ∃ i k : Int, d1 = .int i ∧ d2 = .int k ∧ Q (.int (g i k)) h) → PS X (.AugAssign (.Name x pos') op a pos) (liS G W (wS C (.aug j o1 a1))) := fun {g} hp inv =>
    (ps_aug hN hi hx ha hp hf).via fun Dc σ H ⟨τ, h, De, rs, rh, w, x⟩ => by
      simp only [wS] at w
      unfold slot at w
      split at w
      · rename_i d e
        obtain ⟨v, e1, r⟩ := rs.2 j d e
        refine ⟨v, e1, τ, h, _, _, rs, rh, w, fun d2 h1 v2 H1 t1 rh1 r2 w1 => ?_, x.xo rs rh⟩
        obtain ⟨i, k, rfl, rfl, w2⟩ := inv _ _ _ _ w1
        cases r; cases r2
        exact ⟨i, k, rfl, rfl, x.nx _ h1 _ H1 t1 ((rs.tr rh t1).set (show Rep G H1 (.int _) _ from rfl) j) rh1 w2⟩
      · exact w.elim
  rcases hop with ⟨rfl, rfl⟩ | ⟨rfl, rfl⟩
  · refine main ip_add fun d1 d2 h Q w => ?_
    unfold augK at w
    split at w <;> first | exact w.elim | skip
    · exact ⟨_, _, rfl, rfl, w⟩
    · rename_i z; cases z
  · refine main ip_sub fun d1 d2 h Q w => ?_
    unfold augK at w
    split at w <;> first | exact w.elim | skip
    · rename_i z; cases z
    · exact ⟨_, _, rfl, rfl, w⟩
end
end Z
set_option Elab.async false
set_option linter.all false
set_option maxRecDepth 100000
set_option maxHeartbeats 4000000
/-! Fw11: loops, raise, try, a def. -/
namespace Z
open PySem (Str Addr sizeLine PyData Paired Expr Stmt Value Shared binaryOp compareOp unaryOp)
open L2
section
variable {G : Gd} {W : WX} {X : Cx} {a b c e tg iter o i : Expr} {es ifs : List Expr} {pos p p2 apos : PySem.Pos} {C : Pr} {st : Stmt} {sts : List Stmt}
theorem zs_par {j k : Nat} {x y : Str} {es1 : Exs} {px py pt : PySem.Pos} {kt k2 : Nat} {pt2 : PySem.Pos} (hc : X.calm = true) (hN : X.N.Nodup) (hi : X.N[j]? = some x) (hj : X.N[k]? = some y) (hij : j ≠ k) (hx : X.env.scope.names.lookup x = some .local) (hy : X.env.scope.names.lookup y = some .local)
    (ha : PA X [a, b] (liA G W (wEs C es1))) (hw : PySem.swappedStores [.Tuple [.Name x px, .Name y py] kt pt] (.Tuple [a, b] k2 pt2) X.env = pure (some [x, y])) :
    PS X (.Assign [.Tuple [.Name x px, .Name y py] kt pt] (.Tuple [a, b] k2 pt2) pos) (liS G W (wS C (.par j k es1))) :=
  (ps_par hc hN hi hj hij hx hy ha hw).via fun Dc σ H ⟨τ, h, De, rs, rh, w, xx⟩ => by
    simp only [wS] at w
    refine ⟨τ, h, _, _, rs, rh, w, fun d h1 v H1 t1 rh1 r1 w1 => ?_, xx.xo rs rh⟩
    match d, w1 with
    | [d1, d2], w1 =>
      obtain ⟨v1, _, ev, r1, v2, _, ev2, r2, en⟩ := r1
      cases (show _ = [] from en)
      subst ev2 ev
      exact ⟨v1, v2, rfl, xx.nx _ h1 _ H1 t1 (((rs.tr rh t1).set r1 j).set r2 k) rh1 w1⟩
    | [], w1 => exact False.elim w1
    | [_], w1 => exact False.elim w1
    | _ :: _ :: _ :: _, w1 => exact False.elim w1
theorem zs_for {t1 : Tg} {it : It} {b1 : Sms} {body : List Stmt} (hp : PySem.PassesOwn (PySem.model X.prog X.w) X.A X.env X.xe) (hc : X.calm = true) (hi : PI X tg iter (liI G W (wI C it))) (hg : PG X tg (liG G (wG C t1))) (hb : PSs X body (liS G W (wSs C b1))) (hs : ∀ x, PySem.foldedSetIterable iter X.env x = pure x) :
    PS X (.For tg iter body [] pos) (liS G W (wS C (.for_ t1 it b1))) :=
  (ps_for hp hc hi hg hb hs).via fun Dc σ H ⟨τ, h, De, rs, rh, w, x⟩ => by
    simp only [wS] at w
    refine ⟨τ, h, _, _, rs, rh, w, x.xo rs rh, fun ds chk h1 J H1 P t1' rh1 io p0 w1 => ?_⟩
    refine ⟨fun i m σc Hc => ∃ τc hc, RepS G Hc τc σc ∧ RepH G hc Hc ∧ Tr h H hc Hc ∧ P hc Hc ∧ m = ds.length - i ∧ i ≤ ds.length ∧
      forK chk (fun d σ1 h2 k => wG C t1 d σ1 h2 k) (fun D1 σ1 h2 => wSs C b1 D1 σ1 h2) De (ds.drop i) τc hc, ⟨_, τ, h1, rs.tr rh t1', rh1, t1', p0, rfl, Nat.zero_le _, w1⟩, ?_⟩
    rintro i m σc Hc ⟨τc, hc, rsc, rhc, tc, pc, rfl, hi, wl⟩
    by_cases hlt : i < ds.length
    · rw [List.drop_eq_getElem_cons hlt] at wl
      obtain ⟨ck, wl⟩ := wl
      obtain ⟨go, yl⟩ := io.go i ds[i] hc Hc rhc pc ck (List.getElem?_eq_getElem hlt)
      refine .inr ⟨go, fun σ' H' => ∃ m', m' < ds.length - i ∧ _, fun σ' H' z => z, fun y H' hy => ?_⟩
      obtain ⟨ry, ty, rhy⟩ := yl y H' hy
      have ty' := tc.trans ty
      refine ⟨ds[i], τc, hc, _, ry, rsc.tr rhc ty, rhy, wl, fun τ2 h2 σ2 H2 t2 rs2 rh2 k2 => ?_⟩
      have t2' := ty'.trans t2
      have again : ∀ τ' h' σ' H', Tr h2 H2 h' H' → RepS G H' τ' σ' → RepH G h' H' → forK chk (fun d σ1 h2 k => wG C t1 d σ1 h2 k) (fun D1 σ1 h2 => wSs C b1 D1 σ1 h2) De (ds.drop (i + 1)) τ' h' → ∃ m', m' < ds.length - i ∧ ∃ τc hc, RepS G H' τc σ' ∧ RepH G hc H' ∧ Tr h H hc H' ∧ P hc H' ∧ m' = ds.length - (i + 1) ∧ i + 1 ≤ ds.length ∧
          forK chk (fun d σ1 h2 k => wG C t1 d σ1 h2 k) (fun D1 σ1 h2 => wSs C b1 D1 σ1 h2) De (ds.drop (i + 1)) τc hc := fun τ' h' σ' H' t rs' rh' w' =>
        ⟨_, by omega, τ', h', rs', rh', t2'.trans t, io.st _ _ _ _ rhc ((ty.ke rhc).trans ((t2.ke rhy).trans (t.ke rh2))) pc, rfl, hlt, w'⟩
      exact ⟨τ2, h2, _, rs2, rh2, k2, ⟨again, fun d h' v H' t => x.rt d h' v H' (t2'.trans t), fun τ' h' σ' H' t => x.nx τ' h' σ' H' (t2'.trans t), again, fun τ' c fs h' σ' cls d H' t => x.ex τ' c fs h' σ' cls d H' (t2'.trans t)⟩⟩
    · have ei : i = ds.length := by omega
      subst ei
      rw [List.drop_length] at wl
      exact .inl ⟨io.stop hc Hc rhc pc wl.1, x.nx τc hc σc Hc tc rsc rhc wl.2⟩
theorem zs_whl {t1 : Ts} {b1 : Sms} {body : List Stmt} (hp : PySem.PassesOwn (PySem.model X.prog X.w) X.A X.env X.xe) (hc : PT X c (liT G W (wT C t1))) (hb : PSs X body (liS G W (wSs C b1))) : PS X (.While c body [] pos) (liS G W (wS C (.whl t1 b1))) :=
  (ps_while hp hc hb).via fun Dc σ H ⟨τ, h, De, rs, rh, w, x⟩ => by
    simp only [wS] at w
    obtain ⟨n, w⟩ := w
    refine ⟨fun m σc Hc => ∃ τc hc, RepS G Hc τc σc ∧ RepH G hc Hc ∧ Tr h H hc Hc ∧ whlK (fun σ1 h1 k => wT C t1 σ1 h1 k (De.ex σ1)) (fun D1 σ1 h2 => wSs C b1 D1 σ1 h2) De m τc hc, ⟨n, τ, h, rs, rh, Tr.refl, w⟩, ?_⟩
    rintro m σc Hc ⟨τc, hc, rsc, rhc, tc, wl⟩
    cases m with
    | zero => exact wl.elim
    | succ m =>
      refine ⟨τc, hc, _, _, rsc, rhc, wl, fun k h1 H1 t1' rh1 w1 => ?_, (x.tr tc).xo rsc rhc⟩
      have t2' := tc.trans t1'
      cases k with
      | true =>
        refine ⟨fun σ' H' => ∃ m', m' < m + 1 ∧ _, fun σ' H' z => z, ?_⟩
        have again : ∀ τ' h' σ' H', Tr h1 H1 h' H' → RepS G H' τ' σ' → RepH G h' H' → whlK (fun σ1 h1 k => wT C t1 σ1 h1 k (De.ex σ1)) (fun D1 σ1 h2 => wSs C b1 D1 σ1 h2) De m τ' h' → ∃ m', m' < m + 1 ∧ ∃ τc hc, RepS G H' τc σ' ∧ RepH G hc H' ∧ Tr h H hc H' ∧
            whlK (fun σ1 h1 k => wT C t1 σ1 h1 k (De.ex σ1)) (fun D1 σ1 h2 => wSs C b1 D1 σ1 h2) De m' τc hc := fun τ' h' σ' H' t rs' rh' w' => ⟨m, Nat.lt_succ_self _, τ', h', rs', rh', t2'.trans t, w'⟩
        exact ⟨τc, h1, _, rsc.tr rhc t1', rh1, w1, ⟨again, fun d h' v H' t => x.rt d h' v H' (t2'.trans t), fun τ' h' σ' H' t => x.nx τ' h' σ' H' (t2'.trans t), again, fun τ' c fs h' σ' cls d H' t => x.ex τ' c fs h' σ' cls d H' (t2'.trans t)⟩⟩
      | false => exact x.nx τc h1 σc H1 t2' (rsc.tr rhc t1') rh1 w1
/-! errors -/
/-- what the top has made of the error classes -/
structure ExF (G : Gd) (Y : Sc) (C : Pr) : Prop where
  mkE : ∀ c, c ∈ G.EL → PySem.W.excIn Y.K (G.cl c) [.type "ValueError", .type "Exception", .type "BaseException", .type "object"] "ValueError.__new__" = true ∧ PySem.W.keepIn Y.K (.ref (G.cl c)) = true ∧ PySem.W.subIn Y.K (.ref (G.cl c)) (.type "BaseException") = some true ∧ PySem.W.typeIn Y.K (.ref (G.cl c)) = some (.type "type")
  mt : ∀ c d, c ∈ G.EL → d ∈ G.EL → PySem.W.exmOne Y.K (.ref (G.cl c)) (.ref (G.cl d)) = some (C.sub c d)
  ki : ∀ c d, c ∈ G.EL → d ∈ G.EL → PySem.W.kitOne Y.K (.ref (G.cl c)) (.ref (G.cl d)) = some (C.sub c d)
  kv : ∀ c, c ∈ G.EL → PySem.W.kitOne Y.K (.ref (G.cl c)) (.type "ValueError") = some true
  ec : ∀ c, c ∈ G.EL → ExcC Y.K (G.cl c)
theorem zs_rai {x m : Str} {j : Nat} {cn : String} (F : ExF G X.sc C) (hc : X.calm = true) (tk : Takes X W) (hcn : cn ∈ G.EL) (gC : X.mg x = some (.ref (G.cl cn))) (hg : Gl X x) (hdb : (x == ("__debug__" : Str)) = false) :
    PS X (.Raise (some (.Call (.Name x p) [.Constant (.str m) j p2] [] apos)) none pos) (liS G W (wS C (.rai cn))) := by
  obtain ⟨q, kC, r1, r2⟩ := F.mkE cn hcn
  have r : Raises X (.ref (G.cl cn)) := raises_own r1 r2
  refine (ps_raise hc tk (pmk_own PySem.F.excBase_ValueError q gC kC r hg hdb)).via fun Dc σ H ⟨τ, h, De, rs, rh, w, xx⟩ => ?_
  simp only [wS] at w
  exact xx.ex τ cn [] h σ _ none H Tr.refl rs rh ⟨rfl, rfl, rfl, hcn⟩ w
/-! an except suite: return a word over isinstance -/
/-- the word x is the expression e, n the caught error's name -/
inductive XbOk (X : Cx) (n : Str) (G : Gd) : Expr → XB → Prop
  | isi {x : Str} {c : String} {p1 p2 p3 pos : PySem.Pos} (hm : X.mg x = some (.ref (G.cl c))) (hg : Gl X x) (hd : (x == ("__debug__" : Str)) = false) (hc : c ∈ G.EL) : XbOk X n G (.Call (.Name "isinstance" p1) [.Name n p2, .Name x p3] [] pos) (.isi c)
  | bi {p1 p2 p3 pos : PySem.Pos} : XbOk X n G (.Call (.Name "isinstance" p1) [.Name n p2, .Name "ValueError" p3] [] pos) (.bi "ValueError")
  | not {e : Expr} {x : XB} {pos : PySem.Pos} : XbOk X n G e x → XbOk X n G (.UnaryOp .Not e pos) (.not x)
  | and {a b : Expr} {es : List Expr} {x y : XB} {pos : PySem.Pos} : XbOk X n G a x → XbOk X n G (.BoolOp .And (b :: es) pos) y → XbOk X n G (.BoolOp .And (a :: b :: es) pos) (.and x y)
  | one {a : Expr} {x : XB} {pos : PySem.Pos} : XbOk X n G a x → XbOk X n G (.BoolOp .And [a] pos) x
theorem xb_run {n : Str} {j : Nat} {a : Addr} {oe : PySem.Obj} {pn : List (Addr × PySem.Obj)} {cn : String} (F : ExF G X.sc C) (hcn : cn ∈ G.EL) (hi : X.N[j]? = some n) (hln : X.env.scope.names.lookup n = some .local) (hnd : (n == ("__debug__" : Str)) = false) (hncd : (n == ("__classdict__" : Str)) = false)
    (gi : Gl X "isinstance") (mi : X.mg "isinstance" = none) (gv : Gl X "ValueError" ∨ True) (mv : X.mg "ValueError" = none) (hz : Zc (.ref (G.cl cn)) none oe) (hf : ∃ vs, oe.data = .fields vs) (gV : Gl X "ValueError") :
    ∀ {e : Expr} {x : XB}, XbOk X n G e x → PE (X.suite a ((a, oe) :: pn)) e (fun σ H Q => σ[j]? = some (some (.ref a)) ∧ Q (.bl (xbV C cn x)) H) := by
  intro e x ok
  have hv : Vis X.env.scope n := .inl hln
  induction ok with
  | @isi y c p1 p2 p3 pos m1 m2 m3 hc =>
    exact (pe_callB (X := X.suite a ((a, oe) :: pn)) (call_isE (F.ec cn hcn) hz hf) gi mi (by decide +kernel) (pa_cons (pe_var (X := X.suite a ((a, oe) :: pn)) hi hv hnd hncd) (pa_cons (pe_glob (X := X.suite a ((a, oe) :: pn)) (v := .ref (G.cl c)) m2 m1 rfl m3) pa_nil))).via fun σ H Q ⟨q1, q2⟩ =>
      ⟨_, q1, _, _, _, rfl, fun u r => r, F.ki cn c hcn hc, q2⟩
  | bi =>
    exact (pe_callB (X := X.suite a ((a, oe) :: pn)) (call_isE (F.ec cn hcn) hz hf) gi mi (by decide +kernel) (pa_cons (pe_var (X := X.suite a ((a, oe) :: pn)) hi hv hnd hncd) (pa_cons (pe_bltn (X := X.suite a ((a, oe) :: pn)) (v := .ty "ValueError") (u := .type "ValueError") gV mv (by decide +kernel) rfl) pa_nil))).via fun σ H Q ⟨q1, q2⟩ =>
      ⟨_, q1, _, _, _, rfl, fun u r => r, F.kv cn hcn, q2⟩
  | not _ ih => exact (pe_not ih).via fun σ H Q ⟨q1, q2⟩ => ⟨q1, _, rfl, q2⟩
  | @and a' b' es' x y pos' _ _ ih1 ih2 => exact (pe_and ih1 ih2).via fun σ H Q ⟨q1, q2⟩ => ⟨q1, _, rfl, by
      have q3 : Q (.bl (xbV C cn x && xbV C cn y)) H := q2
      cases h : xbV C cn x with
      | true => rw [h] at q3; exact ⟨q1, q3⟩
      | false => rw [h] at q3; exact q3⟩
  | one _ ih => exact pe_one ih
theorem zs_try {x n : Str} {np pos' rp : PySem.Pos} {j : Nat} {body : List Stmt} {b1 : Sms} {cd : String} {xb : XB} {e : Expr} (F : ExF G X.sc C) (hs : X.stack = X.env :: X.outer) (hf : X.env.frame = some X.env.locals) (hN : X.N.Nodup) (hi : X.N[j]? = some n) (hln : X.env.scope.names.lookup n = some .local)
    (m1 : X.mg x = some (.ref (G.cl cd))) (m2 : Gl X x) (m3 : (x == ("__debug__" : Str)) = false) (hnd : (n == ("__debug__" : Str)) = false) (hncd : (n == ("__classdict__" : Str)) = false) (gi : Gl X "isinstance") (mi : X.mg "isinstance" = none) (mv : X.mg "ValueError" = none) (gV : Gl X "ValueError")
    (hcd : cd ∈ G.EL) (tk : Takes X W) (hxb : XbOk X n G e xb)
    (hb : ∀ (W' : WX) (pn : List (Addr × PySem.Obj)) (xe : Value → Shared → Prop), Takes (X.tr pn xe) W' → PySem.PassesOwn (PySem.model X.prog X.w) X.A X.env xe → PSs (X.tr pn xe) body (liS G W' (wSs C b1))) :
    PS X (.Try body [.ExceptHandler (some (.Name x np)) (some n) [.Return (some e) rp] pos'] [] [] pos) (liS G W (wS C (.try_ b1 cd xb))) := by
  have hsu : ∀ (a : Addr) (oe : PySem.Obj) (cls : Value) (d : Option Addr) (pn : List (Addr × PySem.Obj)), Zc cls d oe → (∃ vs, oe.data = .fields vs) → PSs (X.suite a ((a, oe) :: pn)) [.Return (some e) rp]
      (fun D σ H => ∃ c1, c1 ∈ G.EL ∧ cls = .ref (G.cl c1) ∧ d = none ∧ (∃ σ0 : List (Option V), σ = σ0.set j (some (.ref a))) ∧ D.rt (.bl (xbV C c1 xb)) H) := by
    intro a oe cls d pn hz hfl
    refine ⟨fun pins s σ H D I ⟨c1, h1, h2, h3, ⟨σ0, h4⟩, h5⟩ => ?_⟩
    subst h2 h3
    have h4 : σ[j]? = some (some (.ref a)) := by
      have q1 : σ.length = X.N.length := I.len
      have q2 : j < X.N.length := (List.getElem?_eq_some_iff.1 hi).1
      subst h4
      rw [List.length_set] at q1
      exact List.getElem?_set_self (q1 ▸ q2)
    exact (pss_one (ps_ret (xb_run F h1 hi hln hnd hncd gi mi (.inr trivial) mv hz hfl gV hxb))).run pins s σ H D I ⟨h4, h5⟩
  refine (ps_try_as hs hf hN hi hln ⟨m2, m3, .inl m1⟩ tk hb hsu).via fun Dc σ H ⟨τ, h, De, rs, rh, w, xx⟩ => ?_
  simp only [wS] at w
  refine ⟨τ, h, _, rs, rh, w, ⟨xx.nx, xx.rt, xx.bk, xx.ct, fun τ' c fs h' σ' cls d H' t rs' rh' xr q => ?_⟩⟩
  obtain ⟨ec, ef, ed, hc⟩ := xr
  subst ec ef ed
  have q' : if C.sub c cd = true then De.rt (.bl (xbV C c xb)) h' else De.ex τ' c [] h' := q
  refine ⟨C.sub c cd, F.mt c cd hc hcd, fun e1 a na => ?_, fun e1 => ?_⟩
  · rw [if_pos e1] at q'
    exact ⟨c, hc, rfl, rfl, ⟨σ', rfl⟩, xx.rt (.bl (xbV C c xb)) h' (.bl (xbV C c xb)) H' t rh' rfl q'⟩
  · rw [if_neg (by rw [e1]; exact Bool.false_ne_true)] at q'
    exact xx.ex τ' c [] h' σ' _ none H' t rs' rh' ⟨rfl, rfl, rfl, hc⟩ q'
/-! a def -/
def dstart (N : Nat) (ds : List D) : DS := ds.map some ++ List.replicate (N - ds.length) none
/-- a def's body, run by data -/
def runB (C : Pr) (n N : Nat) (b : Sms) (ds : List D) (h : DH) (R : DK) (S : DX) : Prop :=
  ds.length = n ∧ wSs C b { nx := fun _ h' => R .non h', rt := R, bk := fun _ _ => False, ct := fun _ _ => False, ex := fun _ => S } (dstart N ds) h
theorem repS_start {H : Hp} {ds : List D} {vs : List V} (l : RepL G H ds vs) (N : List Str) : RepS G H (dstart N.length ds) (start N vs) := by
  have hl := l.length
  refine ⟨by simp [dstart, start, hl], fun i d e => ?_⟩
  unfold dstart at e
  by_cases hi : i < ds.length
  · rw [List.getElem?_append_left (by simpa using hi), List.getElem?_map] at e
    cases q : ds[i]? with
    | none => rw [q] at e; cases e
    | some d' =>
      rw [q] at e
      cases e
      obtain ⟨v, e1, r⟩ := l.get q
      refine ⟨v, ?_, r⟩
      unfold start
      rw [List.getElem?_append_left (by rw [List.length_map, ← hl]; exact hi), List.getElem?_map, e1]
      rfl
  · rw [List.getElem?_append_right (by simpa using hi), List.getElem?_replicate] at e
    split at e <;> cases e
end
end Z
set_option Elab.async false
set_option linter.all false
set_option maxRecDepth 100000
set_option maxHeartbeats 4000000
/-! Fw12: a def of the text; short forms. -/
namespace Z
open PySem (Str Addr sizeLine PyData Paired Expr Stmt Value Shared binaryOp compareOp unaryOp)
open L2
structure DefT where
  n : Nat
  N : Nat
  b : Sms
/-- the text's defs and constants -/
structure Tb where
  fn : String → String → Option DefT
  gl : String → Option D
  sub : String → String → Bool
  has : String → String → Bool
  fld : String → String → Bool
def levF (T : Tb) : Nat → String → String → List D → DH → DK → DX → Prop
  | 0 => fun _ _ _ _ _ _ => False
  | k + 1 => fun c f ds h R S => match T.fn c f with
    | some d => runB ⟨levF T k, T.gl, T.sub, T.has, T.fld⟩ d.n d.N d.b ds h R S
    | none => False
/-- the text, calls nested at most k deep -/
def lev (T : Tb) (k : Nat) : Pr := ⟨levF T k, T.gl, T.sub, T.has, T.fld⟩
theorem lev_fn {T : Tb} {k : Nat} {c f : String} {d : DefT} (e : T.fn c f = some d) (ds : List D) (h : DH) (R : DK) (S : DX) : (lev T (k + 1)).fn c f ds h R S = runB (lev T k) d.n d.N d.b ds h R S := by
  show levF T (k + 1) c f ds h R S = _
  unfold levF
  rw [e]
  rfl
abbrev WEx (E : XK) : WX := fun cls d _ H => E cls d H
section
variable {G : Gd} {Y : Sc} {T : Tb} {k : Nat} {c f : String} {d : DefT} {x qual : Str} {st : Stmt} {fa : Addr} {N ps : List Str}
theorem runB_len {C : Pr} {n N : Nat} {b : Sms} {ds : List D} {h : DH} {R : DK} {S : DX} (q : runB C n N b ds h R S) : ds.length = n := q.1
theorem fn_ok {fd : PySem.FuncData} (hT : T.fn c f = some d) (hn : d.n = ps.length) (hN : d.N = N.length) (F : Fun Y.K x qual st fa fd) (S : FnScope N ps (defScope st))
    (hb : ∀ (cdv : Value) (A : PySem.Around) (outer : List PySem.Env) (s : Shared) (H : Hp) (E : XK), Room (2 * k + 1) (cxOf (L2.CX Y.prog Y.w) Y.prog Y.w Y.K Y.mg Y.base N qual (defScope st) fa cdv A outer s H E).A →
      Takes (cxOf (L2.CX Y.prog Y.w) Y.prog Y.w Y.K Y.mg Y.base N qual (defScope st) fa cdv A outer s H E) (WEx E) →
      PySem.PassesOwn (PySem.model Y.prog Y.w) (cxOf (L2.CX Y.prog Y.w) Y.prog Y.w Y.K Y.mg Y.base N qual (defScope st) fa cdv A outer s H E).A (cxOf (L2.CX Y.prog Y.w) Y.prog Y.w Y.K Y.mg Y.base N qual (defScope st) fa cdv A outer s H E).env (cxOf (L2.CX Y.prog Y.w) Y.prog Y.w Y.K Y.mg Y.base N qual (defScope st) fa cdv A outer s H E).xe →
      PSs (cxOf (L2.CX Y.prog Y.w) Y.prog Y.w Y.K Y.mg Y.base N qual (defScope st) fa cdv A outer s H E) (defBody st) (liS G (WEx E) (wSs (lev T k) d.b))) : FnOk Y.prog Y.w Y.K Y.mg Y.base (L2.CX Y.prog Y.w) (2 * (k + 1)) fa fd ps (spD G ((lev T (k + 1)).fn c f) d.n) := by
  refine F.okX (k := 2 * k + 1) S ?_ ?_
  · rintro vs H Q E ⟨ds, h, R, S', rl, ln, _⟩
    rw [← rl.length, ln, hn]
  · rintro cdv A outer s H vs Q E hr ⟨ds, h, R, S', rl, ln, rh, w, kk, xx⟩
    rw [lev_fn hT] at w
    refine ⟨_, hb cdv A outer s H E hr (takes_of rfl rfl rfl rfl) (passes_of rfl), dstart d.N ds, h, _, ?_, rh, w.2, ⟨fun τ' h' σ' H' t rs' rh' q => ?_, fun d' h' v H' t rh' r q => kk d' h' v H' t rh' r q, fun _ _ _ _ _ _ _ q => q.elim, fun _ _ _ _ _ _ _ q => q.elim, fun τ' c' fs h' σ' cls d' H' t rs' rh' xr q => xx c' fs h' cls d' H' t rh' xr q⟩⟩
    · rw [hN]
      exact repS_start rl N
    · exact kk .non h' .non H' t rh' rfl q
theorem fn_of (hT : T.fn c f = some d) (F : ∃ fd, Binds Y.K fd ps [] ∧ FnOk Y.prog Y.w Y.K Y.mg Y.base (L2.CX Y.prog Y.w) (2 * (k + 1)) fa fd ps (spD G ((lev T (k + 1)).fn c f) d.n)) (kp : PySem.W.keepIn Y.K (.ref fa) = true) : FnF G Y (2 * (k + 1)) ((lev T (k + 1)).fn c f) fa := by
  obtain ⟨fd, bd, F⟩ := F
  refine ⟨⟨d.n, fd, ps, fun ds h R S q => ?_, bd, F⟩, kp⟩
  rw [lev_fn hT] at q
  exact q.1
theorem fn_step (hT : T.fn c f = some d) (hn : d.n = ps.length) (hN : d.N = N.length) (F : ∃ fd, Fun Y.K x qual st fa fd ∧ Binds Y.K fd ps []) (S : FnScope N ps (defScope st)) (kp : PySem.W.keepIn Y.K (.ref fa) = true)
    (hb : ∀ (cdv : Value) (A : PySem.Around) (outer : List PySem.Env) (s : Shared) (H : Hp) (E : XK), Room (2 * k + 1) (cxOf (L2.CX Y.prog Y.w) Y.prog Y.w Y.K Y.mg Y.base N qual (defScope st) fa cdv A outer s H E).A →
      Takes (cxOf (L2.CX Y.prog Y.w) Y.prog Y.w Y.K Y.mg Y.base N qual (defScope st) fa cdv A outer s H E) (WEx E) →
      PySem.PassesOwn (PySem.model Y.prog Y.w) (cxOf (L2.CX Y.prog Y.w) Y.prog Y.w Y.K Y.mg Y.base N qual (defScope st) fa cdv A outer s H E).A (cxOf (L2.CX Y.prog Y.w) Y.prog Y.w Y.K Y.mg Y.base N qual (defScope st) fa cdv A outer s H E).env (cxOf (L2.CX Y.prog Y.w) Y.prog Y.w Y.K Y.mg Y.base N qual (defScope st) fa cdv A outer s H E).xe →
      PSs (cxOf (L2.CX Y.prog Y.w) Y.prog Y.w Y.K Y.mg Y.base N qual (defScope st) fa cdv A outer s H E) (defBody st) (liS G (WEx E) (wSs (lev T k) d.b))) : FnF G Y (2 * (k + 1)) ((lev T (k + 1)).fn c f) fa := by
  obtain ⟨fd, F, bd⟩ := F
  exact fn_of hT ⟨fd, bd, fn_ok hT hn hN F S hb⟩ kp
theorem fn_zero (F : ∃ fd, Fun Y.K x qual st fa fd ∧ Binds Y.K fd ps []) (kp : PySem.W.keepIn Y.K (.ref fa) = true) : FnF G Y 0 ((lev T 0).fn c f) fa := by
  obtain ⟨fd, F, bd⟩ := F
  refine ⟨⟨ps.length, fd, ps, fun ds h R S q => False.elim q, bd, ⟨?_, ?_⟩⟩, kp⟩
  · rintro vs H Q E ⟨ds, h, R, S', rl, ln, _⟩
    rw [← rl.length, ln]
  · rintro A outer s H args us vs Q E hr _ _ _ ⟨ds, h, R, S', rl, ln, rh, w, _⟩
    exact False.elim w
end
/-! the row's end -/
/-- the law's promise: at a script of at most 63 ints (the greatest of 2 ^ 20 bits) True comes out -/
def spLaw (K : PySem.W.Frag) : Sp := fun vs H Q E => ∃ (a : Addr) (ns : List Int), vs = [.ref a] ∧ SqL K H a (ns.map V.int) ∧ ns.length ≤ 63 ∧ (∀ z ∈ ns, PySem.Builtin.Int.intBits z ≤ 1048576) ∧ Only H ∧ ∀ H', Q (.bl true) H'
/-- the plain law -/
def LawOk (f : List D → DH → DK → DX → Prop) : Prop := ∀ ns : List Int, ns.length ≤ 63 → (∀ z ∈ ns, PySem.Builtin.Int.intBits z ≤ 1048576) → f [.fl (ns.map D.int)] (fun _ => none) (fun d _ => d = .bl true) (fun _ _ _ => False)
theorem repL_ints {G : Gd} {H : Hp} : ∀ ns : List Int, RepL G H (ns.map D.int) (ns.map V.int)
  | [] => rfl
  | n :: r => ⟨.int n, r.map V.int, rfl, rfl, repL_ints r⟩
theorem law_end {G : Gd} {Y : Sc} {k : Nat} {fa : Addr} {fd : PySem.FuncData} {ps : List Str} {f : List D → DH → DK → DX → Prop} (F : FnOk Y.prog Y.w Y.K Y.mg Y.base (L2.CX Y.prog Y.w) k fa fd ps (spD G f 1)) (hG : G.K = Y.K) (pl : LawOk f) :
    FnOk Y.prog Y.w Y.K Y.mg Y.base (L2.CX Y.prog Y.w) k fa fd ps (spLaw Y.K) := by
  refine F.imp ?_
  rintro vs H Q E ⟨a, ns, rfl, sq, hl, hb, on, q⟩
  refine ⟨[.fl (ns.map D.int)], fun _ => none, _, _, ⟨.ref a, [], rfl, ⟨a, ns.map V.int, rfl, ?_, repL_ints ns⟩, rfl⟩, rfl, fun a o e => (by cases e), pl ns hl hb, fun d h' v H' t rh' r e => ?_, fun c fs h' cls d H' _ _ _ z => z.elim⟩
  · rw [hG]
    rcases sq with (sq | ⟨o, sq⟩) | sq
    · rcases on a with z | ⟨o, xs, z⟩
      · rw [sq] at z; cases z
      · rw [sq] at z; cases z
    · exact .inl ⟨o, sq⟩
    · exact .inr sq
  · subst e
    cases (show v = V.bl true from r)
    exact q H'
theorem walkZ {l : PySem.W.OpenLaw} {k : Nat} {q : PySem.Program} {loose : List Str} {XP : (Str → Option Value) → PySem.Heap → Prop} {YP : PySem.World → PySem.Heap → Prop} {d : PySem.DefRec} {K : PySem.Params → PySem.W.Frag} (hn : l.most = some 63) (hdf : d.params.defaults = []) (hr : Room k PySem.callerA)
    (hY : ∀ (w : PySem.World) (h : PySem.Heap), YP w h → (K w.params).In h)
    (F : ∀ (w : PySem.World) (mg : Str → Option Value) (fa : Addr) (h : PySem.Heap), (K w.params).In h → h.Ns PySem.mainGlobals mg → mg d.name = some (.ref fa) →
      ∃ fd : PySem.FuncData, (∀ (s : Shared) (u : Value), PySem.BindsTo s fd ⟨[u], []⟩ [("_law_script", u)]) ∧ ∀ base : PySem.Heap, (K w.params).In base → base.Ns PySem.mainGlobals mg → FnOk l.prog w (K w.params) mg base (L2.CX l.prog w) k fa fd ["_law_script"] (spLaw (K w.params))) :
    PySem.W.WalkO q loose XP YP l.row.toRowW d [] (fun f vs => PySem.call f vs) :=
  L2.walk_ofB (n := 63) (k := k) (x := "_law_script") (CX := fun w => L2.CX l.prog w) (sp := fun w => spLaw (K w.params)) hn (by decide) hdf hr hY F (fun _ _ a ns hl hb on hS => ⟨a, ns, rfl, hS, hl, hb, on, fun _ => rfl⟩) fun w H s e s' z => by
    obtain ⟨_, _, _, _, _, z⟩ := z
    exact z.2.2.2.2.2.2.2
/-! short forms -/
section
variable {G : Gd} {W : WX} {X : Cx} {C : Pr} {pos : PySem.Pos} {j : Nat}
theorem ev (i : Nat) {x : Str} (hN : X.N[i]? = some x := by rfl) (hv : Vis X.env.scope x := by first | exact Or.inl rfl | exact Or.inr (Or.inl rfl) | exact Or.inr (Or.inr rfl)) (hd : (x == ("__debug__" : Str)) = false := by decide) (hcd : (x == ("__classdict__" : Str)) = false := by decide) : PE X (.Name x pos) (liE G W (wE C (.var i))) := ze_var hN hv hd hcd
theorem ei {i : Int} : PE X (.Constant (.int i) j pos) (liE G W (wE C (.con (.int i)))) := ze_con pe_int fun _ => rfl
theorem es {x : Str} : PE X (.Constant (.str x) j pos) (liE G W (wE C (.con (.str x)))) := ze_con pe_str fun _ => rfl
theorem eb {x : Bool} : PE X (.Constant (.bool x) j pos) (liE G W (wE C (.con (.bl x)))) := ze_con pe_bl fun _ => rfl
theorem en : PE X (.Constant .none j pos) (liE G W (wE C (.con .non))) := ze_con pe_non fun _ => rfl
theorem gv (i : Nat) {x : Str} (hN : X.N.Nodup) (hi : X.N[i]? = some x := by rfl) (hx : Loc X.env.scope x := by first | exact Or.inl rfl | exact Or.inr rfl) (hf : X.fn x = true ∨ X.env.scope.names.lookup x = some .local := by first | exact Or.inl rfl | exact Or.inr rfl) : PG X (.Name x pos) (liG G (wG C (.name i))) := zg_name hN hi hx hf
variable {ifs : List Expr}
theorem pts0 : PTs X [] (liT G W (wT C .tt)) := ⟨fun pins s σ H Q I q => pts_nil.run pins s σ H Q I (by
  obtain ⟨τ, h, R, S, rs, rh, w, k, x⟩ := q
  simp only [wT] at w
  exact k true h H Tr.refl rh w)⟩
variable {a b : Expr} {rest : List Expr} {t1 t2 : Ts}
theorem zw_and {rest : List Expr} {t1 t2 : Ts} (ha : PT X a (liT G W (wT C t1))) (hb : PW X (.BoolOp .And (b :: rest) pos) (liT G W (wT C t2))) : PW X (.BoolOp .And (a :: b :: rest) pos) (liT G W (wT C (.and t1 t2))) :=
  (pw_and ha hb).via fun σ H Q ⟨τ, h, R, S, rs, rh, w, k, x⟩ => by
    simp only [wT] at w
    refine ⟨τ, h, _, S, rs, rh, w, fun b h1 H1 t1 rh1 w1 => ?_, x⟩
    cases b with
    | true => exact ⟨τ, h1, R, S, rs.tr rh t1, rh1, w1, fun b h2 H2 t2 => k b h2 H2 (t1.trans t2), x.tr t1⟩
    | false => exact k false h1 H1 t1 rh1 w1
theorem zw_or {rest : List Expr} {t1 t2 : Ts} (ha : PT X a (liT G W (wT C t1))) (hb : PW X (.BoolOp .Or (b :: rest) pos) (liT G W (wT C t2))) : PW X (.BoolOp .Or (a :: b :: rest) pos) (liT G W (wT C (.or t1 t2))) :=
  (pw_or ha hb).via fun σ H Q ⟨τ, h, R, S, rs, rh, w, k, x⟩ => by
    simp only [wT] at w
    refine ⟨τ, h, _, S, rs, rh, w, fun b h1 H1 t1 rh1 w1 => ?_, x⟩
    cases b with
    | false => exact ⟨τ, h1, R, S, rs.tr rh t1, rh1, w1, fun b h2 H2 t2 => k b h2 H2 (t1.trans t2), x.tr t1⟩
    | true => exact k true h1 H1 t1 rh1 w1
end
end Z
set_option Elab.async false
set_option linter.all false
set_option maxRecDepth 100000
set_option maxHeartbeats 4000000
/-! Fw13: plain reading of weakest preconditions. -/
namespace Z
open PySem (Str Addr sizeLine PyData)
section
variable {C : Pr} {σ : DS} {h : DH} {Q : DK} {E : DX} {K : De}
theorem slot0 {d : D} {σ : DS} {k : D → Prop} : slot (some d :: σ) 0 k = k d := rfl
theorem slotS {x : Option D} {σ : DS} {n : Nat} {k : D → Prop} : slot (x :: σ) (n + 1) k = slot σ n k := by
  unfold slot
  rw [List.getElem?_cons_succ]
/-- steps of the reading -/
theorem zw :
    (∀ (C : Pr) i σ h Q E, wE C (.var i) σ h Q E = slot σ i fun d => Q d h) ∧
    (∀ (C : Pr) d σ h (Q : DK) E, wE C (.con d) σ h Q E = Q d h) ∧
    (∀ (C : Pr) o es σ h Q E, wE C (.op o es) σ h Q E = wEs C es σ h (fun ds h' => opS o ds h' Q) E) ∧
    (∀ (C : Pr) f es σ h Q E, wE C (.call f es) σ h Q E = wEs C es σ h (fun ds h' => C.fn "" f ds h' Q E) E) ∧
    (∀ (C : Pr) m o es σ h Q E, wE C (.bm m o es) σ h Q E = wE C o σ h (fun d h1 => rcv m d h1 ∧ wEs C es σ h1 (fun ds h2 => opM m (d :: ds) h2 Q) E) E) ∧
    (∀ (C : Pr) t a b σ h Q E, wE C (.ite t a b) σ h Q E = wT C t σ h (fun k h1 => if k = true then wE C a σ h1 Q E else wE C b σ h1 Q E) E) ∧
    (∀ (C : Pr) a b σ h Q E, wE C (.andV a b) σ h Q E = wE C a σ h (fun x h1 => truK h1 x fun k => if k = true then wE C b σ h1 Q E else Q x h1) E) ∧
    (∀ (C : Pr) a b σ h Q E, wE C (.orV a b) σ h Q E = wE C a σ h (fun x h1 => truK h1 x fun k => if k = true then Q x h1 else wE C b σ h1 Q E) E) ∧
    (∀ (C : Pr) o1 o2 a b c σ h Q E, wE C (.chain o1 o2 a b c) σ h Q E = wE C a σ h (fun x h1 => wE C b σ h1 (fun y h2 => opS o1 [x, y] h2 fun z h3 => match z with
      | .bl true => wE C c σ h3 (fun u h4 => opS o2 [y, u] h4 Q) E
      | .bl false => Q (.bl false) h3
      | _ => False) E) E) ∧
    (∀ (C : Pr) vs it t e σ h Q E, wE C (.lc vs it t e) σ h Q E = wI C it σ h (fun xs chk h1 => lcK chk (fun d h2 k => ctK vs d σ fun σ2 => wT C t σ2 h2 (fun b h3 => if b = true then wE C e σ2 h3 (fun y h4 => k (some y) h4) (fun _ _ _ => False) else k none h3) (fun _ _ _ => False))
      (fun acc h2 => new h2 (.lst acc) Q) xs [] h1) E) ∧
    (∀ (C : Pr) a lo hi σ h Q E, wE C (.sl2 a lo hi) σ h Q E = wE C a σ h (fun x h1 => wE C lo σ h1 (fun l h2 => match l with
      | .int i => wE C hi σ h2 (fun u h3 => match u with
        | .int j => oSlcR x (some i) (some j) h3 Q
        | _ => False) E
      | _ => False) E) E) ∧
    (∀ (C : Pr) σ h (Q : List D → DH → Prop) E, wEs C .nil σ h Q E = Q [] h) ∧
    (∀ (C : Pr) e es σ h Q E, wEs C (.cons e es) σ h Q E = wE C e σ h (fun d h1 => wEs C es σ h1 (fun ds h2 => Q (d :: ds) h2) E) E) ∧
    (∀ (C : Pr) σ h (Q : Bool → DH → Prop) E, wT C .tt σ h Q E = Q true h) ∧
    (∀ (C : Pr) e σ h Q E, wT C (.val e) σ h Q E = wE C e σ h (fun d h1 => truK h1 d fun b => Q b h1) E) ∧
    (∀ (C : Pr) a b σ h Q E, wT C (.and a b) σ h Q E = wT C a σ h (fun k h1 => if k = true then wT C b σ h1 Q E else Q false h1) E) ∧
    (∀ (C : Pr) a b σ h Q E, wT C (.or a b) σ h Q E = wT C a σ h (fun k h1 => if k = true then Q true h1 else wT C b σ h1 Q E) E) ∧
    (∀ (C : Pr) a σ h Q E, wT C (.not a) σ h Q E = wT C a σ h (fun k h1 => Q (!k) h1) E) ∧
    (∀ (C : Pr) e σ h Q E, wI C (.val e) σ h Q E = wE C e σ h (fun d h1 => srcK h1 d fun xs chk => Q xs chk h1) E) ∧
    (∀ (C : Pr) e σ h Q E, wI C (.rev e) σ h Q E = wE C e σ h (fun d h1 => srcK h1 d fun xs chk => Q xs.reverse chk h1) E) ∧
    (∀ (C : Pr) a σ h Q E, wI C (.rng1 a) σ h Q E = wE C a σ h (fun d h1 => match d with
      | .int j => (-(2 ^ 62) ≤ j ∧ j < 2 ^ 62) ∧ Q (rngD 0 j.toNat) (fun _ => True) h1
      | _ => False) E) ∧
    (∀ (C : Pr) a b σ h Q E, wI C (.rng2 a b) σ h Q E = wE C a σ h (fun d h1 => wE C b σ h1 (fun e h2 => match d, e with
      | .int i, .int j => (-(2 ^ 62) ≤ i ∧ i < 2 ^ 62 ∧ -(2 ^ 62) ≤ j ∧ j < 2 ^ 62) ∧ Q (rngD i (j - i).toNat) (fun _ => True) h2
      | _, _ => False) E) E) := by
  refine ⟨?_, ?_, ?_, ?_, ?_, ?_, ?_, ?_, ?_, ?_, ?_, ?_, ?_, ?_, ?_, ?_, ?_, ?_, ?_, ?_, ?_, ?_⟩ <;> intros <;> simp only [wE, wEs, wT, wI] <;> rfl
theorem zo :
    (∀ i j h (Q : DK), opS .add [.int i, .int j] h Q = Q (.int (i + j)) h) ∧
    (∀ xs ys h (Q : DK), opS .add [.tup xs, .tup ys] h Q = (xs.length + ys.length ≤ sizeLine ∧ Q (.tup (xs ++ ys)) h)) ∧
    (∀ x y h (Q : DK), opS .add [.str x, .str y] h Q = (x.length + y.length ≤ sizeLine ∧ Q (.str (x ++ y)) h)) ∧
    (∀ a b h (Q : DK), opS .add [.ref a, .ref b] h Q = lsK h a fun xs => lsK h b fun ys => xs.length + ys.length ≤ sizeLine ∧ new h (.lst (xs ++ ys)) Q) ∧
    (∀ i j h (Q : DK), opS .sub [.int i, .int j] h Q = Q (.int (i - j)) h) ∧
    (∀ i j h (Q : DK), opS .mul [.int i, .int j] h Q = (mulOk i j ∧ Q (.int (i * j)) h)) ∧
    (∀ a k h (Q : DK), opS .mul [.ref a, .int k] h Q = lsK h a fun xs => -(2 ^ 63) ≤ k ∧ k < 2 ^ 63 ∧ xs.length * k.toNat ≤ sizeLine ∧ new h (.lst (List.replicate k.toNat xs).flatten) Q) ∧
    (∀ i j h (Q : DK), opS .fdiv [.int i, .int j] h Q = (divOk j ∧ Q (.int (i / j)) h)) ∧
    (∀ i j h (Q : DK), opS .mod [.int i, .int j] h Q = (0 < j ∧ Q (.int (i % j)) h)) ∧
    (∀ i j h (Q : DK), opS .pow [.int i, .int j] h Q = (L2.CPow i j ∧ Q (.int (i ^ j.toNat)) h)) ∧
    (∀ i j h (Q : DK), opS .shl [.int i, .int j] h Q = (L2.CPow i j ∧ Q (.int (i * 2 ^ j.toNat)) h)) ∧
    (∀ i j h (Q : DK), opS .band [.int i, .int j] h Q = Q (.int (PySem.Builtin.bitAnd i j)) h) ∧
    (∀ i h (Q : DK), opS .neg [.int i] h Q = Q (.int (-i)) h) ∧
    (∀ i j h (Q : DK), opS .eq [.int i, .int j] h Q = Q (.bl (decide (i = j))) h) ∧
    (∀ i j h (Q : DK), opS .ne [.int i, .int j] h Q = Q (.bl (!decide (i = j))) h) ∧
    (∀ i j h (Q : DK), opS .eq [.str i, .str j] h Q = Q (.bl (decide (i = j))) h) ∧
    (∀ i j h (Q : DK), opS .ne [.str i, .str j] h Q = Q (.bl (!decide (i = j))) h) ∧
    (∀ i j h (Q : DK), opS .eq [.tup i, .tup j] h Q = eqG (.tup i) (.tup j) h fun b => Q (.bl b) h) ∧
    (∀ i j h (Q : DK), opS .ne [.tup i, .tup j] h Q = eqG (.tup i) (.tup j) h fun b => Q (.bl (!b)) h) ∧
    (∀ i j h (Q : DK), opS .eq [.ref i, .ref j] h Q = eqG (.ref i) (.ref j) h fun b => Q (.bl b) h) ∧
    (∀ i j h (Q : DK), opS .ne [.ref i, .ref j] h Q = eqG (.ref i) (.ref j) h fun b => Q (.bl (!b)) h) ∧
    (∀ i j h (Q : DK), opS .eq [.bl i, .bl j] h Q = Q (.bl (decide (i = j))) h) ∧
    (∀ i j h (Q : DK), opS .ne [.bl i, .bl j] h Q = Q (.bl (!decide (i = j))) h) ∧
    (∀ i j h (Q : DK), opS .lt [.int i, .int j] h Q = Q (.bl (decide (i < j))) h) ∧
    (∀ i j h (Q : DK), opS .le [.int i, .int j] h Q = Q (.bl (decide (i ≤ j))) h) ∧
    (∀ i j h (Q : DK), opS .gt [.int i, .int j] h Q = Q (.bl (decide (j < i))) h) ∧
    (∀ i j h (Q : DK), opS .ge [.int i, .int j] h Q = Q (.bl (decide (j ≤ i))) h) ∧
    (∀ x h (Q : DK), opS .isN [x] h Q = Q (.bl (isNon x)) h) ∧
    (∀ x h (Q : DK), opS .notN [x] h Q = Q (.bl (!isNon x)) h) ∧
    (∀ x h (Q : DK), opS .notv [x] h Q = truK h x fun b => Q (.bl (!b)) h) ∧
    (∀ xs i h (Q : DK), opS .idx [.tup xs, .int i] h Q = ∃ v, L2.atI xs i = some v ∧ Q v h) ∧
    (∀ xs i h (Q : DK), opS .idx [.fl xs, .int i] h Q = ∃ v, L2.atI xs i = some v ∧ Q v h) ∧
    (∀ a i h (Q : DK), opS .idx [.ref a, .int i] h Q = lsK h a fun xs => ∃ v, L2.atI xs i = some v ∧ Q v h) ∧
    (∀ x h (Q : DK), opS (.slc false false) [x] h Q = oSlcR x none none h Q) ∧
    (∀ x i h (Q : DK), opS (.slc true false) [x, .int i] h Q = oSlcR x (some i) none h Q) ∧
    (∀ x i h (Q : DK), opS (.slc false true) [x, .int i] h Q = oSlcR x none (some i) h Q) ∧
    (∀ xs lo hi h (Q : DK), oSlcR (.tup xs) lo hi h Q = Q (.tup (cut xs lo hi)) h) ∧
    (∀ xs lo hi h (Q : DK), oSlcR (.fl xs) lo hi h Q = new h (.lst (cut xs lo hi)) Q) ∧
    (∀ a lo hi h (Q : DK), oSlcR (.ref a) lo hi h Q = lsK h a fun xs => new h (.lst (cut xs lo hi)) Q) ∧
    (∀ xs h (Q : DK), opS .len [.tup xs] h Q = Q (.int xs.length) h) ∧
    (∀ xs h (Q : DK), opS .len [.fl xs] h Q = Q (.int xs.length) h) ∧
    (∀ a h (Q : DK), opS .len [.ref a] h Q = lsK h a fun xs => Q (.int xs.length) h) ∧
    (∀ i h (Q : DK), opS .abs [.int i] h Q = Q (.int (if i < 0 then -i else i)) h) ∧
    (∀ i h (Q : DK), opS .int [.int i] h Q = Q (.int i) h) ∧
    (∀ i h (Q : DK), opS .int [.bl i] h Q = Q (.int (if i then 1 else 0)) h) ∧
    (∀ xs h (Q : DK), opS .list [.tup xs] h Q = new h (.lst xs) Q) ∧
    (∀ xs h (Q : DK), opS .list [.fl xs] h Q = new h (.lst xs) Q) ∧
    (∀ a h (Q : DK), opS .list [.ref a] h Q = lsK h a fun xs => new h (.lst xs) Q) ∧
    (∀ xs h (Q : DK), opS .tuple [.tup xs] h Q = Q (.tup xs) h) ∧
    (∀ xs h (Q : DK), opS .tuple [.fl xs] h Q = Q (.tup xs) h) ∧
    (∀ a h (Q : DK), opS .tuple [.ref a] h Q = lsK h a fun xs => Q (.tup xs) h) ∧
    (∀ i j h (Q : DK), opS .max2 [.int i, .int j] h Q = Q (.int (if j > i then j else i)) h) ∧
    (∀ i j h (Q : DK), opS .min2 [.int i, .int j] h Q = Q (.int (if j < i then j else i)) h) ∧
    (∀ a h (Q : DK), opS .all [.ref a] h Q = lsK h a fun xs => ∃ bs : List Bool, xs = bs.map D.bl ∧ Q (.bl (bs.all id)) h) ∧
    (∀ a h (Q : DK), opS .any [.ref a] h Q = lsK h a fun xs => ∃ bs : List Bool, xs = bs.map D.bl ∧ Q (.bl (bs.any id)) h) ∧
    (∀ a h (Q : DK), opS .sum [.ref a] h Q = lsK h a fun xs => ∃ ns : List Int, xs = ns.map D.int ∧ Q (.int ns.sum) h) ∧
    (∀ t ds h Q, opS (.isi t) ds h Q = oIsi t ds h Q) ∧
    (∀ t ds h Q, opS (.att t) ds h Q = oAtt t ds h Q) := by
  refine ⟨?_, ?_, ?_, ?_, ?_, ?_, ?_, ?_, ?_, ?_, ?_, ?_, ?_, ?_, ?_, ?_, ?_, ?_, ?_, ?_, ?_, ?_, ?_, ?_, ?_, ?_, ?_, ?_, ?_, ?_, ?_, ?_, ?_, ?_, ?_, ?_, ?_, ?_, ?_, ?_, ?_, ?_, ?_, ?_, ?_, ?_, ?_, ?_, ?_, ?_, ?_, ?_, ?_, ?_, ?_, ?_, ?_, ?_⟩ <;> intros <;> rfl
theorem zt :
    (∀ h (k : Bool → Prop), truK h .non k = k false) ∧ (∀ h b (k : Bool → Prop), truK h (.bl b) k = k b) ∧ (∀ h i (k : Bool → Prop), truK h (.int i) k = k (decide (i ≠ 0))) ∧ (∀ h xs (k : Bool → Prop), truK h (.tup xs) k = k (!xs.isEmpty)) ∧ (∀ h xs (k : Bool → Prop), truK h (.fl xs) k = k (!xs.isEmpty)) ∧
    (∀ h a (k : Bool → Prop), truK h (.ref a) k = lsK h a fun xs => k (!xs.isEmpty)) ∧ (∀ h s (k : Bool → Prop), truK h (.str s) k = (s.length ≤ sizeLine ∧ k (decide (s.length ≠ 0)))) ∧
    (∀ h xs (k : List D → (DH → Prop) → Prop), srcK h (.tup xs) k = k xs fun _ => True) ∧ (∀ h xs (k : List D → (DH → Prop) → Prop), srcK h (.fl xs) k = k xs fun _ => True) ∧ (∀ h a (k : List D → (DH → Prop) → Prop), srcK h (.ref a) k = lsK h a fun xs => k xs fun h' => h' a = some (.lst xs)) ∧
    (∀ h a, rcv "append" (.ref a) h = lsK h a fun _ => True) ∧ (∀ h a, rcv "extend" (.ref a) h = lsK h a fun _ => True) ∧
    (∀ a y h Q, opM "append" [.ref a, y] h Q = lsK h a fun xs => xs.length < sizeLine ∧ Q .non (dput h a (.lst (xs ++ [y])))) ∧
    (∀ a ys h Q, opM "extend" [.ref a, .tup ys] h Q = lsK h a fun xs => xs.length + ys.length ≤ sizeLine ∧ Q .non (dput h a (.lst (xs ++ ys)))) ∧
    (∀ a b h Q, opM "extend" [.ref a, .ref b] h Q = lsK h a fun xs => lsK h b fun ys => xs.length + ys.length ≤ sizeLine ∧ Q .non (dput h a (.lst (xs ++ ys)))) := by
  refine ⟨?_, ?_, ?_, ?_, ?_, ?_, ?_, ?_, ?_, ?_, ?_, ?_, ?_, ?_, ?_⟩ <;> intros <;> rfl
theorem zs :
    (∀ (C : Pr) t e K σ h, wS C (.asg t e) K σ h = wE C e σ h (fun d h1 => wG C t d σ h1 K.nx) (K.ex σ)) ∧
    (∀ (C : Pr) i o e K σ h, wS C (.aug i o e) K σ h = slot σ i fun x => wE C e σ h (fun y h1 => augK o x y h1 fun z h2 => K.nx (σ.set i (some z)) h2) (K.ex σ)) ∧
    (∀ (C : Pr) e K σ h, wS C (.ex e) K σ h = wE C e σ h (fun _ h1 => K.nx σ h1) (K.ex σ)) ∧
    (∀ (C : Pr) e K σ h, wS C (.ret e) K σ h = wE C e σ h K.rt (K.ex σ)) ∧
    (∀ (C : Pr) K σ h, wS C .retN K σ h = K.rt .non h) ∧ (∀ (C : Pr) K σ h, wS C .pas K σ h = K.nx σ h) ∧ (∀ (C : Pr) K σ h, wS C .brk K σ h = K.bk σ h) ∧ (∀ (C : Pr) K σ h, wS C .cnt K σ h = K.ct σ h) ∧
    (∀ (C : Pr) t a b K σ h, wS C (.ite t a b) K σ h = wT C t σ h (fun k h1 => if k = true then wSs C a K σ h1 else wSs C b K σ h1) (K.ex σ)) ∧
    (∀ (C : Pr) c K σ h, wS C (.rai c) K σ h = K.ex σ c [] h) ∧
    (∀ (C : Pr) K σ h, wSs C .nil K σ h = K.nx σ h) ∧
    (∀ (C : Pr) s r K σ h, wSs C (.cons s r) K σ h = wS C s { K with nx := fun σ1 h1 => wSs C r K σ1 h1 } σ h) ∧
    (∀ (C : Pr) i d σ h (k : DS → DH → Prop), wG C (.name i) d σ h k = k (σ.set i (some d)) h) := by
  refine ⟨?_, ?_, ?_, ?_, ?_, ?_, ?_, ?_, ?_, ?_, ?_, ?_, ?_⟩ <;> intros <;> simp only [wS, wSs, wG]
theorem w_for {t : Tg} {it : It} {b : Sms} : wS C (.for_ t it b) K σ h = wI C it σ h (fun xs chk h1 => forK chk (fun d σ1 h2 k => wG C t d σ1 h2 k) (fun D1 σ1 h2 => wSs C b D1 σ1 h2) K xs σ h1) (K.ex σ) := by simp only [wS]
theorem w_whl {t : Ts} {b : Sms} : wS C (.whl t b) K σ h = ∃ n, whlK (fun σ1 h1 k => wT C t σ1 h1 k (K.ex σ1)) (fun D1 σ1 h2 => wSs C b D1 σ1 h2) K n σ h := by simp only [wS]
/-- what comes behind, unread -/
def Rest (C : Pr) (r : Sms) (K : De) : DS → DH → Prop := fun σ h => wSs C r K σ h
theorem seqR {s : Sm} {r : Sms} (p : wS C s { K with nx := Rest C r K } σ h) : wSs C (.cons s r) K σ h := by
  simp only [wSs]
  exact p
theorem rest {r : Sms} (p : wSs C r K σ h) : Rest C r K σ h := p
/-- one statement at a time -/
theorem seqS {s : Sm} {r : Sms} (p : ∀ N : DS → DH → Prop, (∀ σ1 h1, wSs C r K σ1 h1 → N σ1 h1) → wS C s { K with nx := N } σ h) : wSs C (.cons s r) K σ h := by
  simp only [wSs]
  exact p _ fun _ _ q => q
theorem seqN (p : K.nx σ h) : wSs C .nil K σ h := by
  simp only [wSs]
  exact p
/-! loops -/
theorem forK_of {chk : DH → Prop} {tg : D → DS → DH → (DS → DH → Prop) → Prop} {body : De → DS → DH → Prop} {K : De} (P : List D → DS → DH → Prop)
    (step : ∀ d ds σ h N, P (d :: ds) σ h → (∀ σ' h', P ds σ' h' → N σ' h') → chk h ∧ tg d σ h fun σ1 h1 => body { K with nx := N, ct := N, bk := K.nx } σ1 h1)
    (stop : ∀ σ h, P [] σ h → chk h ∧ K.nx σ h) : ∀ ds σ h, P ds σ h → forK chk tg body K ds σ h
  | [], σ, h, p => stop σ h p
  | d :: ds, σ, h, p => step d ds σ h _ p fun σ' h' p' => forK_of P step stop ds σ' h' p'
theorem forK_ix {chk : DH → Prop} {tg : D → DS → DH → (DS → DH → Prop) → Prop} {body : De → DS → DH → Prop} {K : De} {ds : List D} (P : Nat → DS → DH → Prop)
    (step : ∀ i d σ h N, ds[i]? = some d → P i σ h → (∀ σ' h', P (i + 1) σ' h' → N σ' h') → chk h ∧ tg d σ h fun σ1 h1 => body { K with nx := N, ct := N, bk := K.nx } σ1 h1)
    (stop : ∀ σ h, P ds.length σ h → chk h ∧ K.nx σ h) {σ : DS} {h : DH} (p : P 0 σ h) : forK chk tg body K ds σ h := by
  refine forK_of (fun r σ h => ∃ i, r = ds.drop i ∧ i ≤ ds.length ∧ P i σ h) ?_ ?_ ds σ h ⟨0, rfl, Nat.zero_le _, p⟩
  · rintro d r σ h N ⟨i, e, hi, p⟩ hN
    have hl : i < ds.length := by
      by_cases q : i < ds.length
      · exact q
      · rw [List.drop_eq_nil_of_le (by omega)] at e; cases e
    rw [List.drop_eq_getElem_cons hl] at e
    injection e with e1 e2
    exact step i d σ h N (by rw [e1]; exact List.getElem?_eq_getElem hl) p fun σ' h' p' => hN σ' h' ⟨i + 1, e2, hl, p'⟩
  · rintro σ h ⟨i, e, hi, p⟩
    have : i = ds.length := by
      by_cases q : i < ds.length
      · rw [List.drop_eq_getElem_cons q] at e; cases e
      · omega
    subst this
    exact stop σ h p
theorem rngD_get {lo : Int} {n i : Nat} {d : D} (e : (rngD lo n)[i]? = some d) : i < n ∧ d = .int (lo + i) := by
  unfold rngD at e
  rw [List.getElem?_map] at e
  by_cases h : i < n
  · rw [List.getElem?_range h] at e
    cases e
    exact ⟨h, rfl⟩
  · rw [List.getElem?_eq_none (by simpa using h)] at e
    cases e
theorem rngD_len {lo : Int} {n : Nat} : (rngD lo n).length = n := by simp [rngD]
/-- over a range -/
theorem forK_rng {tg : D → DS → DH → (DS → DH → Prop) → Prop} {body : De → DS → DH → Prop} {K : De} {lo : Int} {n : Nat} (P : Nat → DS → DH → Prop)
    (step : ∀ (i : Nat) σ h N, i < n → P i σ h → (∀ σ' h', P (i + 1) σ' h' → N σ' h') → tg (.int (lo + i)) σ h fun σ1 h1 => body { K with nx := N, ct := N, bk := K.nx } σ1 h1)
    (stop : ∀ σ h, P n σ h → K.nx σ h) {σ : DS} {h : DH} (p : P 0 σ h) : forK (fun _ => True) tg body K (rngD lo n) σ h :=
  forK_ix P (fun i d σ h N e p hN => by
    obtain ⟨hi, rfl⟩ := rngD_get e
    exact ⟨trivial, step i σ h N hi p hN⟩) (fun σ h p => ⟨trivial, stop σ h (by rw [rngD_len] at p; exact p)⟩) p
/-- while: a measure falls -/
theorem whlK_of {test : DS → DH → (Bool → DH → Prop) → Prop} {body : De → DS → DH → Prop} {K : De} (P : Nat → DS → DH → Prop)
    (step : ∀ m σ h W, P m σ h → (∀ m' σ' h', m' < m → P m' σ' h' → W σ' h') → test σ h fun b h1 => if b = true then body { K with nx := W, ct := W, bk := K.nx } σ h1 else K.nx σ h1) :
    ∀ m σ h, P m σ h → ∃ n, whlK test body K n σ h := by
  have main : ∀ n m σ h, m < n → P m σ h → whlK test body K n σ h := by
    intro n
    induction n with
    | zero => intro m σ h z; omega
    | succ n ih =>
      intro m σ h hm p
      exact step m σ h _ p fun m' σ' h' hm' p' => ih m' σ' h' (by omega) p'
  exact fun m σ h p => ⟨m + 1, main (m + 1) m σ h (Nat.lt_succ_self m) p⟩
/-- a comprehension that makes f of every item -/
theorem lcK_map {chk : DH → Prop} {turn : D → DH → (Option D → DH → Prop) → Prop} {fin : List D → DH → Prop} (I : DH → Prop) (f : D → D) (hI : ∀ h, I h → chk h) : ∀ (ds : List D) (acc : List D) (h : DH),
    (∀ d ∈ ds, ∀ h k, I h → (∀ h', I h' → k (some (f d)) h') → turn d h k) → acc.length + ds.length ≤ sizeLine → I h → (∀ h, I h → fin (acc ++ ds.map f) h) → lcK chk turn fin ds acc h
  | [], acc, h, _, _, i, hf => ⟨hI h i, by have q := hf h i; rwa [List.map_nil, List.append_nil] at q⟩
  | d :: ds, acc, h, ht, hl, i, hf => ⟨hI h i, ht d (List.mem_cons_self ..) h _ i fun h' i' => ⟨by rw [List.length_cons] at hl; omega, lcK_map I f hI ds (acc ++ [f d]) h' (fun e he => ht e (List.mem_cons_of_mem _ he)) (by rw [List.length_append, List.length_cons, List.length_nil]; rw [List.length_cons] at hl; omega) i' fun h2 i2 => by
      have q := hf h2 i2
      rwa [List.map_cons, ← List.singleton_append, ← List.append_assoc] at q⟩⟩
/-- a comprehension that makes F i of the i-th item -/
theorem lcK_ix {chk : DH → Prop} {turn : D → DH → (Option D → DH → Prop) → Prop} {fin : List D → DH → Prop} (I : DH → Prop) (hI : ∀ h, I h → chk h) : ∀ (ds : List D) (acc : List D) (F : Nat → D) (h : DH),
    (∀ i d, ds[i]? = some d → ∀ h k, I h → (∀ h', I h' → k (some (F i)) h') → turn d h k) → acc.length + ds.length ≤ sizeLine → I h → (∀ h, I h → fin (acc ++ (List.range ds.length).map F) h) → lcK chk turn fin ds acc h
  | [], acc, F, h, _, _, i, hf => ⟨hI h i, by have q := hf h i; rwa [List.length_nil, List.range_zero, List.map_nil, List.append_nil] at q⟩
  | d :: ds, acc, F, h, ht, hl, i, hf => ⟨hI h i, ht 0 d rfl h _ i fun h' i' => ⟨by rw [List.length_cons] at hl; omega, lcK_ix I hI ds (acc ++ [F 0]) (fun i => F (i + 1)) h' (fun i e he => ht (i + 1) e (by rw [List.getElem?_cons_succ]; exact he)) (by rw [List.length_append, List.length_cons, List.length_nil]; rw [List.length_cons] at hl; omega) i' fun h2 i2 => by
      have q := hf h2 i2
      rwa [List.length_cons, List.range_succ_eq_map, List.map_cons, List.map_map, ← List.singleton_append, ← List.append_assoc] at q⟩⟩
theorem lcK_rng {turn : D → DH → (Option D → DH → Prop) → Prop} {fin : List D → DH → Prop} (I : DH → Prop) (F : Nat → D) {lo : Int} {n : Nat} {h : DH} (ht : ∀ (i : Nat), i < n → ∀ h k, I h → (∀ h', I h' → k (some (F i)) h') → turn (.int (lo + i)) h k) (hl : n ≤ sizeLine) (i : I h)
    (hf : ∀ h, I h → fin ((List.range n).map F) h) : lcK (fun _ => True) turn fin (rngD lo n) [] h :=
  lcK_ix I (fun _ _ => trivial) (rngD lo n) [] F h (fun i d e => by
    obtain ⟨hi, rfl⟩ := rngD_get e
    exact ht i hi) (by rw [rngD_len, List.length_nil, Nat.zero_add]; exact hl) i fun h i => by rw [rngD_len]; exact hf h i
theorem ct1 {i : Nat} {d : D} {σ : DS} {k : DS → Prop} : ctK [i] d σ k = k (σ.set i (some d)) := rfl
theorem ct2 {i j : Nat} {x y : D} {σ : DS} {k : DS → Prop} : ctK [i, j] (.tup [x, y]) σ k = k ((σ.set i (some x)).set j (some y)) := rfl
/-! the heap grows -/
def Ext (h h' : DH) : Prop := ∀ a o, h a = some o → h' a = some o
theorem Ext.refl {h : DH} : Ext h h := fun _ _ e => e
theorem Ext.trans {a b c : DH} (x : Ext a b) (y : Ext b c) : Ext a c := fun d o e => y d o (x d o e)
theorem Ext.new {h : DH} {p : Addr} {o : DO} (hp : h p = none) : Ext h (dput h p o) := fun a u e => by
  rw [dput_ne (fun z => by subst z; rw [hp] at e; cases e)]; exact e
theorem Ext.put {h h' : DH} (x : Ext h h') {p : Addr} {o : DO} (hp : h p = none) : Ext h (dput h' p o) := fun a u e => by
  rw [dput_ne (fun z => by subst z; rw [hp] at e; cases e)]; exact x a u e
theorem ne_of {h : DH} {p a : Addr} {o : DO} (hp : h p = none) (ha : h a = some o) : a ≠ p := fun z => by subst z; rw [hp] at ha; cases ha
theorem divOk_lit {j : Int} (h1 : 0 < j) (h2 : j < 1073741824) : divOk j = True := eq_true ⟨h1, .inl h2⟩
theorem mulOk_l {i j : Int} (h1 : -18446744073709551616 < i) (h2 : i < 18446744073709551616) : mulOk i j = True := eq_true (.inl (.inl ⟨h1, h2⟩))
theorem mulOk_r {i j : Int} (h1 : -18446744073709551616 < j) (h2 : j < 18446744073709551616) : mulOk i j = True := eq_true (.inl (.inr ⟨h1, h2⟩))
theorem zl : (∀ (d : D) (σ : DS) (k : D → Prop), slot (some d :: σ) 0 k = k d) ∧ (∀ (x : Option D) (σ : DS) (n : Nat) (k : D → Prop), slot (x :: σ) (n + 1) k = slot σ n k) ∧
    (∀ (x y : Option D) (σ : DS), (x :: σ).set 0 y = y :: σ) ∧ (∀ (x y : Option D) (σ : DS) (n : Nat), (x :: σ).set (n + 1) y = x :: σ.set n y) :=
  ⟨fun _ _ _ => slot0, fun _ _ _ _ => slotS, fun _ _ _ => rfl, fun _ _ _ _ => rfl⟩
theorem zb : (∀ (p : Prop) [Decidable p], (decide p = true) = p) ∧ (∀ (p : Prop) [Decidable p], ((!decide p) = true) = ¬ p) ∧ (∀ (α : Type) (a b : α), (if (true : Bool) = true then a else b) = a) ∧ (∀ (A B : Prop), (if (true : Bool) = true then A else B) = A) ∧ (∀ (A B : Prop), (if (false : Bool) = true then A else B) = B) ∧ (∀ (A B : Prop), (if True then A else B) = A) ∧ (∀ (A B : Prop), (if False then A else B) = B) ∧
    (∀ (A B : Prop) (p : Prop) [Decidable p], (if ¬ p then A else B) = if p then B else A) := by
  refine ⟨?_, ?_, ?_, ?_, ?_, ?_, ?_, ?_⟩ <;> intros <;> simp
theorem lsK_put {h : DH} {a : Addr} {xs : List D} {k : List D → Prop} : lsK (dput h a (.lst xs)) a k = k xs := lsK_of dput_same k
theorem small_le {n : Nat} (h : n ≤ 1000) : n ≤ sizeLine := Nat.le_trans h (by decide)
theorem ztl : (∀ (h : DH) (Q : DK), opS .tup [] h Q = Q (.tup []) h) ∧
    (∀ (h : DH) (Q : DK), opS .lst [] h Q = new h (.lst []) Q) ∧
    (∀ (x0 : D) (h : DH) (Q : DK), opS .tup [x0] h Q = Q (.tup [x0]) h) ∧
    (∀ (x0 : D) (h : DH) (Q : DK), opS .lst [x0] h Q = new h (.lst [x0]) Q) ∧
    (∀ (x0 x1 : D) (h : DH) (Q : DK), opS .tup [x0, x1] h Q = Q (.tup [x0, x1]) h) ∧
    (∀ (x0 x1 : D) (h : DH) (Q : DK), opS .lst [x0, x1] h Q = new h (.lst [x0, x1]) Q) ∧
    (∀ (x0 x1 x2 : D) (h : DH) (Q : DK), opS .tup [x0, x1, x2] h Q = Q (.tup [x0, x1, x2]) h) ∧
    (∀ (x0 x1 x2 : D) (h : DH) (Q : DK), opS .lst [x0, x1, x2] h Q = new h (.lst [x0, x1, x2]) Q) ∧
    (∀ (x0 x1 x2 x3 : D) (h : DH) (Q : DK), opS .tup [x0, x1, x2, x3] h Q = Q (.tup [x0, x1, x2, x3]) h) ∧
    (∀ (x0 x1 x2 x3 : D) (h : DH) (Q : DK), opS .lst [x0, x1, x2, x3] h Q = new h (.lst [x0, x1, x2, x3]) Q) ∧
    (∀ (x0 x1 x2 x3 x4 : D) (h : DH) (Q : DK), opS .tup [x0, x1, x2, x3, x4] h Q = Q (.tup [x0, x1, x2, x3, x4]) h) ∧
    (∀ (x0 x1 x2 x3 x4 : D) (h : DH) (Q : DK), opS .lst [x0, x1, x2, x3, x4] h Q = new h (.lst [x0, x1, x2, x3, x4]) Q) ∧
    (∀ (x0 x1 x2 x3 x4 x5 : D) (h : DH) (Q : DK), opS .tup [x0, x1, x2, x3, x4, x5] h Q = Q (.tup [x0, x1, x2, x3, x4, x5]) h) ∧
    (∀ (x0 x1 x2 x3 x4 x5 : D) (h : DH) (Q : DK), opS .lst [x0, x1, x2, x3, x4, x5] h Q = new h (.lst [x0, x1, x2, x3, x4, x5]) Q) ∧
    (∀ (x0 x1 x2 x3 x4 x5 x6 : D) (h : DH) (Q : DK), opS .tup [x0, x1, x2, x3, x4, x5, x6] h Q = Q (.tup [x0, x1, x2, x3, x4, x5, x6]) h) ∧
    (∀ (x0 x1 x2 x3 x4 x5 x6 : D) (h : DH) (Q : DK), opS .lst [x0, x1, x2, x3, x4, x5, x6] h Q = new h (.lst [x0, x1, x2, x3, x4, x5, x6]) Q) ∧
    (∀ (x0 x1 x2 x3 x4 x5 x6 x7 : D) (h : DH) (Q : DK), opS .tup [x0, x1, x2, x3, x4, x5, x6, x7] h Q = Q (.tup [x0, x1, x2, x3, x4, x5, x6, x7]) h) ∧
    (∀ (x0 x1 x2 x3 x4 x5 x6 x7 : D) (h : DH) (Q : DK), opS .lst [x0, x1, x2, x3, x4, x5, x6, x7] h Q = new h (.lst [x0, x1, x2, x3, x4, x5, x6, x7]) Q) ∧
    (∀ (x0 x1 x2 x3 x4 x5 x6 x7 x8 : D) (h : DH) (Q : DK), opS .tup [x0, x1, x2, x3, x4, x5, x6, x7, x8] h Q = Q (.tup [x0, x1, x2, x3, x4, x5, x6, x7, x8]) h) ∧
    (∀ (x0 x1 x2 x3 x4 x5 x6 x7 x8 : D) (h : DH) (Q : DK), opS .lst [x0, x1, x2, x3, x4, x5, x6, x7, x8] h Q = new h (.lst [x0, x1, x2, x3, x4, x5, x6, x7, x8]) Q) ∧
    (∀ (x0 x1 x2 x3 x4 x5 x6 x7 x8 x9 : D) (h : DH) (Q : DK), opS .tup [x0, x1, x2, x3, x4, x5, x6, x7, x8, x9] h Q = Q (.tup [x0, x1, x2, x3, x4, x5, x6, x7, x8, x9]) h) ∧
    (∀ (x0 x1 x2 x3 x4 x5 x6 x7 x8 x9 : D) (h : DH) (Q : DK), opS .lst [x0, x1, x2, x3, x4, x5, x6, x7, x8, x9] h Q = new h (.lst [x0, x1, x2, x3, x4, x5, x6, x7, x8, x9]) Q) ∧
    (∀ (x0 x1 x2 x3 x4 x5 x6 x7 x8 x9 x10 : D) (h : DH) (Q : DK), opS .tup [x0, x1, x2, x3, x4, x5, x6, x7, x8, x9, x10] h Q = Q (.tup [x0, x1, x2, x3, x4, x5, x6, x7, x8, x9, x10]) h) ∧
    (∀ (x0 x1 x2 x3 x4 x5 x6 x7 x8 x9 x10 : D) (h : DH) (Q : DK), opS .lst [x0, x1, x2, x3, x4, x5, x6, x7, x8, x9, x10] h Q = new h (.lst [x0, x1, x2, x3, x4, x5, x6, x7, x8, x9, x10]) Q) ∧
    (∀ (x0 x1 x2 x3 x4 x5 x6 x7 x8 x9 x10 x11 : D) (h : DH) (Q : DK), opS .tup [x0, x1, x2, x3, x4, x5, x6, x7, x8, x9, x10, x11] h Q = Q (.tup [x0, x1, x2, x3, x4, x5, x6, x7, x8, x9, x10, x11]) h) ∧
    (∀ (x0 x1 x2 x3 x4 x5 x6 x7 x8 x9 x10 x11 : D) (h : DH) (Q : DK), opS .lst [x0, x1, x2, x3, x4, x5, x6, x7, x8, x9, x10, x11] h Q = new h (.lst [x0, x1, x2, x3, x4, x5, x6, x7, x8, x9, x10, x11]) Q) := by
  refine ⟨?_, ?_, ?_, ?_, ?_, ?_, ?_, ?_, ?_, ?_, ?_, ?_, ?_, ?_, ?_, ?_, ?_, ?_, ?_, ?_, ?_, ?_, ?_, ?_, ?_, ?_⟩ <;> intros <;> exact propext ⟨fun q => q.2, fun q => ⟨small_le (by simp), q⟩⟩
def zz := And.intro ztl (And.intro zw (And.intro zo (And.intro zt (And.intro zs (And.intro zl (And.intro zb (And.intro (@w_for) (And.intro (@lsK_put) (And.intro (@ct1) (@ct2))))))))))
end
end Z
set_option Elab.async false
set_option linter.all false
set_option maxRecDepth 100000
set_option maxHeartbeats 4000000
/-! Fw14: equality of data; small facts. -/
namespace Z
open PySem (Str Addr sizeLine PyData)
theorem pyL_ints : ∀ xs : List Int, pyL (xs.map D.int) = xs.map PyData.int
  | [] => rfl
  | x :: r => by rw [List.map_cons, List.map_cons, pyL, pyD, pyL_ints r]
theorem pureL_ints : ∀ xs : List Int, pureL (xs.map D.int) = true
  | [] => rfl
  | x :: r => by rw [List.map_cons, pureL, pureL_ints r]; rfl
theorem canL_ints : ∀ xs : List Int, PyData.canLayAll0 (xs.map PyData.int) = true
  | [] => rfl
  | x :: r => by
    rw [List.map_cons, PyData.canLayAll0, canL_ints r, PyData.canLay0]
    rfl
theorem depth_ints : ∀ xs : List Int, PyData.depthAll (xs.map PyData.int) ≤ 1
  | [] => by decide
  | x :: r => by
    rw [List.map_cons, PyData.depthAll]
    have := depth_ints r
    have : PyData.depth (.int x) = 0 := by rw [PyData.depth]
    omega
theorem shaped_ints (xs : List Int) : PySem.SeqAt.shaped (.tuple (xs.map PyData.int)) = true := by
  unfold PySem.SeqAt.shaped
  rw [PyData.canLay0, canL_ints, PyData.depth]
  have := depth_ints xs
  simp only [Bool.true_and, decide_eq_true_eq]
  omega
theorem shaped_intsL (xs : List Int) : PySem.SeqAt.shaped (.list (xs.map PyData.int)) = true := by
  unfold PySem.SeqAt.shaped
  rw [PyData.canLay0, canL_ints, PyData.depth]
  have := depth_ints xs
  simp only [Bool.true_and, decide_eq_true_eq]
  omega
theorem eqv_ints : ∀ xs ys : List Int, PyData.eqvAll (xs.map PyData.int) (ys.map PyData.int) = decide (xs = ys)
  | [], [] => rfl
  | [], _ :: _ => rfl
  | _ :: _, [] => rfl
  | x :: xs, y :: ys => by
    rw [List.map_cons, List.map_cons, PyData.eqvAll, eqv_ints xs ys, PyData.eqv]
    by_cases h : x = y <;> by_cases h2 : xs = ys <;> simp [h, h2]
theorem eqG_ints {xs ys : List Int} {h : DH} {k : Bool → Prop} (q : k (decide (xs = ys))) : eqG (.tup (xs.map D.int)) (.tup (ys.map D.int)) h k := by
  refine ⟨.tuple (xs.map .int), .tuple (ys.map .int), .tup ?_, .tup ?_, shaped_ints _, shaped_ints _, by rw [PyData.eqv, eqv_ints]; exact q⟩
  · rw [← pyL_ints]; exact PyOfL.pure h _ (pureL_ints xs)
  · rw [← pyL_ints]; exact PyOfL.pure h _ (pureL_ints ys)
theorem atI_nat {α : Type} {xs : List α} {i : Nat} : L2.atI xs (i : Int) = xs[i]? := by
  unfold L2.atI L2.ixN
  rw [if_pos (Int.natCast_nonneg i)]
  by_cases h : i < xs.length
  · rw [if_pos (by omega)]; rfl
  · rw [if_neg (by omega), List.getElem?_eq_none (by omega)]; rfl
theorem cut_take {xs : List D} {n : Nat} : cut xs none (some (n : Int)) = xs.take n := by
  unfold cut sIx
  simp only [if_neg (Int.not_lt.2 (Int.natCast_nonneg n)), Int.toNat_natCast, List.drop_zero, Nat.sub_zero]
  by_cases h : n ≤ xs.length
  · rw [show n.min xs.length = n from Nat.min_eq_left h]
  · rw [show n.min xs.length = xs.length from Nat.min_eq_right (by omega), List.take_of_length_le (Nat.le_refl _), List.take_of_length_le (by omega)]
theorem cut_drop {xs : List D} {n : Nat} : cut xs (some (n : Int)) none = xs.drop n := by
  unfold cut sIx
  simp only [if_neg (Int.not_lt.2 (Int.natCast_nonneg n)), Int.toNat_natCast]
  by_cases h : n ≤ xs.length
  · rw [show n.min xs.length = n from Nat.min_eq_left h, List.take_of_length_le (by rw [List.length_drop]; omega)]
  · rw [show n.min xs.length = xs.length from Nat.min_eq_right (by omega), List.take_of_length_le (by rw [List.length_drop]; omega), List.drop_eq_nil_of_le (Nat.le_refl _), List.drop_eq_nil_of_le (by omega)]
theorem zi : (∀ t i h (Q : DK), oIsi t [.int i] h Q = Q (.bl (t == "int")) h) ∧ (∀ t i h (Q : DK), oIsi t [.bl i] h Q = Q (.bl (t == "bool" || t == "int")) h) ∧ (∀ t h (Q : DK), oIsi t [.non] h Q = Q (.bl false) h) ∧ (∀ t i h (Q : DK), oIsi t [.str i] h Q = Q (.bl (t == "str")) h) ∧
    (∀ t i h (Q : DK), oIsi t [.tup i] h Q = Q (.bl (t == "tuple")) h) ∧ (∀ t i h (Q : DK), oIsi t [.fl i] h Q = Q (.bl (t == "list")) h) := by
  refine ⟨?_, ?_, ?_, ?_, ?_, ?_⟩ <;> intros <;> rfl
/-- read as a list or a tuple -/
def Sq (h : DH) (x : D) (xs : List D) : Prop := x = .tup xs ∨ ∃ a, x = .ref a ∧ h a = some (.lst xs)
theorem Sq.len {h : DH} {x : D} {xs : List D} (s : Sq h x xs) {Q : DK} : opS .len [x] h Q = Q (.int xs.length) h := by
  rcases s with rfl | ⟨a, rfl, e⟩
  · rfl
  · show lsK h a _ = _
    rw [lsK_of e]
theorem Sq.idx {h : DH} {x : D} {xs : List D} (s : Sq h x xs) {i : Int} {Q : DK} : opS .idx [x, .int i] h Q = ∃ v, L2.atI xs i = some v ∧ Q v h := by
  rcases s with rfl | ⟨a, rfl, e⟩
  · rfl
  · show lsK h a _ = _
    rw [lsK_of e]
/-- tuple of a slice -/
theorem Sq.tsl {h : DH} {x : D} {xs : List D} (s : Sq h x xs) {i : Int} {Q : DK} (q : ∀ h', Ext h h' → Q (.tup (cut xs none (some i))) h') : opS (.slc false true) [x, .int i] h fun d h' => opS .tuple [d] h' Q := by
  rcases s with rfl | ⟨a, rfl, e⟩
  · exact q h Ext.refl
  · show lsK h a _
    rw [lsK_of e]
    intro p hp
    show lsK _ p _
    rw [lsK_of dput_same]
    exact q _ (Ext.new hp)
theorem Sq.ext {h h' : DH} {x : D} {xs : List D} (s : Sq h x xs) (e : Ext h h') : Sq h' x xs := s.imp id fun ⟨a, e1, e2⟩ => ⟨a, e1, e _ _ e2⟩
end Z
set_option Elab.async false
set_option linter.all false
set_option maxRecDepth 100000
set_option maxHeartbeats 4000000
/-! Fw15: is True, clear, own classes' checks. -/
namespace Z
open PySem (Str Addr sizeLine PyData Paired Expr Stmt Value Shared binaryOp compareOp unaryOp)
open L2
section
variable {G : Gd} {W : WX} {X : Cx} {a b e o : Expr} {es : List Expr} {pos p p2 apos : PySem.Pos} {C : Pr}
theorem or_isB : OpR X (compareOp .Is) (li2 G .isB) := by
  intro pins s σ H x y v u Q I rx ry ⟨ds, h, R, rl, rh, w, k⟩
  obtain ⟨d1, d2, rfl, r1, r2⟩ := rl.two
  simp only [opS] at w
  cases d1 <;> cases d2 <;> simp only [oIsB] at w
  cases r1; cases r2
  exact op_is_bl pins s σ H _ _ v u Q I rx ry ⟨_, _, rfl, rfl, k (.bl _) h _ H Tr.refl rh rfl w⟩
theorem or_notB : OpR X (compareOp .IsNot) (li2 G .notB) := by
  intro pins s σ H x y v u Q I rx ry ⟨ds, h, R, rl, rh, w, k⟩
  obtain ⟨d1, d2, rfl, r1, r2⟩ := rl.two
  simp only [opS] at w
  cases d1 <;> cases d2 <;> simp only [oNotB] at w
  cases r1; cases r2
  exact op_isnot_bl pins s σ H _ _ v u Q I rx ry ⟨_, _, rfl, rfl, k (.bl _) h _ H Tr.refl rh rfl w⟩
theorem ze_clear {cpos : PySem.Pos} {o1 : Ex} (hK : X.K = G.K) (ho : PE X o (liE G W (wE C o1))) (hbase : PySem.attributeBase o (Str.ofString "clear") X.env (PySem.eval o X.env) = PySem.eval o X.env) (hline : (apos.endLine == cpos.line) = true) :
    PE X (.Call (.Attribute o (Str.ofString "clear") apos) [] [] cpos) (liE G W (wE C (.bm "clear" o1 .nil))) :=
  (pe_bm0 PySem.F.plainAttrs_list PySem.F.slot_list_clear PySem.F.type_list_clear mt_clear ho hbase hline).via fun σ H Q ⟨τ, h, R, S, rs, rh, w, k, x⟩ => by
    simp only [wE, wEs] at w
    refine ⟨τ, h, _, S, rs, rh, w, fun d h1 v H1 t1 rh1 r1 w1 => ?_, x⟩
    obtain ⟨rc, w1⟩ := w1
    have w1 : oClear [d] h1 R := w1
    cases d with
    | ref p =>
      cases r1
      obtain ⟨xs, e, w1⟩ := lsK_inv w1
      obtain ⟨vs, e2, l⟩ := rh1.lsts e
      obtain ⟨rh2, t2⟩ := setL rh1 e (show RepL G H1 [] [] from rfl)
      exact ⟨Or.inl ⟨rfl, vs, SqL.of e2⟩, p, vs, rfl, rfl, e2, k .non _ _ _ (t1.trans t2) rh2 rfl w1⟩
    | _ => exact False.elim w1
theorem eg_int {x : Str} {n : Int} (hm : ∃ t, X.mg x = some (.int n t)) (hg : Gl X x) (hd : (x == ("__debug__" : Str)) = false) : PE X (.Name x pos) (liE G W (wE C (.con (.int n)))) := by
  obtain ⟨t, hm⟩ := hm
  exact ze_con (pe_glob (v := .int n) hg hm ⟨t, rfl⟩ hd) fun _ => rfl
/-- what the top has made of an error class -/
structure EcF (K : PySem.W.Frag) (D : Addr) : Prop where
  a1 : PySem.W.excIn K D [.type "ValueError", .type "Exception", .type "BaseException", .type "object"] "ValueError.__new__" = true
  a2 : PySem.W.keepIn K (.ref D) = true
  a3 : PySem.W.subIn K (.ref D) (.type "BaseException") = some true
  a4 : PySem.W.typeIn K (.ref D) = some (.type "type")
  a5 : PySem.W.subIn K (.ref D) (.type "ValueError") = some true
  a6 : PySem.W.isClsIn K D = true
  hg : PySem.W.findIn K (.ref D) "__getattribute__" = some (some (.builtin "BaseException.__getattribute__"))
  hk : PySem.W.findIn K (.ref D) "__getattr__" = some none
  hd : PySem.W.hasDictIn K D = true
  ha : PySem.W.findIn K (.ref D) "__class__" = some (some (.builtin "object.__class__"))
  hn : PySem.W.specialIn K (.builtin "object.__class__") "__get__" = some (some (.builtin "getset_descriptor.__get__"))
  ht : PySem.W.takesIn K (.builtin "object.__class__") = some true
  hm : PySem.W.mroIn K D (.type "object") = some true
theorem EcF.cls {K : PySem.W.Frag} {D : Addr} (E : EcF K D) (c : Value) : PySem.W.kitCls K c (.ref D) = PySem.W.subIn K c (.ref D) := by
  have e2 : ((PySem.W.clsIn K D).isSome && PySem.W.typeIn K (.ref D) == some (.type "type")) = true := by
    have h2' : (PySem.W.clsIn K D).isSome = true := E.a6
    rw [h2', E.a4]; rfl
  unfold PySem.W.kitCls
  simp only [e2, if_true]
theorem EcF.exm {K : PySem.W.Frag} {D : Addr} (E : EcF K D) {c : Value} {b : Bool} (h : PySem.W.subIn K c (.ref D) = some b) : PySem.W.exmOne K c (.ref D) = some b := by
  unfold PySem.W.exmOne
  have e1 : (PySem.W.subIn K (.ref D) (.type "BaseException") == some true) = true := by rw [E.a3]; rfl
  rw [if_pos e1, E.cls]
  exact h
theorem EcF.kit {K : PySem.W.Frag} {C' D : Addr} (E : EcF K D) {b : Bool} (h : PySem.W.subIn K (.ref C') (.ref D) = some b) (hs : PySem.W.subIn K (.ref D) (.ref D) = some true) : PySem.W.kitOne K (.ref C') (.ref D) = some b := by
  unfold PySem.W.kitOne
  split
  · rename_i z
    have z2 : Value.ref C' = Value.ref D := eq_of_beq z
    cases z2
    rw [hs] at h
    exact h
  · rw [E.cls]
    exact h
theorem EcF.kitV {K : PySem.W.Frag} {D : Addr} (E : EcF K D) : PySem.W.kitOne K (.ref D) (.type "ValueError") = some true := by
  unfold PySem.W.kitOne
  split
  · rfl
  · show (if PySem.W.kitMeta "ValueError" = true then PySem.W.subIn K (.ref D) (.type "ValueError") else none) = some true
    rw [if_pos (by decide +kernel)]
    exact E.a5
theorem exF_of {Y : Sc} (one : ∀ c ∈ G.EL, EcF Y.K (G.cl c)) (se : ∀ c ∈ G.EL, C.sub c c = true) (two : ∀ c ∈ G.EL, ∀ d ∈ G.EL, PySem.W.subIn Y.K (.ref (G.cl c)) (.ref (G.cl d)) = some (C.sub c d)) : ExF G Y C where
  mkE c hc := ⟨(one c hc).a1, (one c hc).a2, (one c hc).a3, (one c hc).a4⟩
  mt c d hc hd := (one d hd).exm (two c hc d hd)
  ki c d hc hd := (one d hd).kit (two c hc d hd) (by rw [two d hd d hd, se d hd])
  kv c hc := (one c hc).kitV
  ec c hc := ⟨(one c hc).hg, (one c hc).hk, (one c hc).a3, (one c hc).hd, (one c hc).ha, (one c hc).hn, (one c hc).ht, (one c hc).hm⟩
/-! reading -/
end
theorem zy :
    (Tgs.len .nil = 0) ∧ (∀ t ts, Tgs.len (.cons t ts) = ts.len + 1) ∧ (∀ a b h (Q : DK), opS .isB [.bl a, .bl b] h Q = Q (.bl (decide (a = b))) h) ∧ (∀ a b h (Q : DK), opS .notB [.bl a, .bl b] h Q = Q (.bl (!decide (a = b))) h) ∧
    (∀ xs h (Q : DK), opS .rev [.tup xs] h Q = Q (.tup xs.reverse) h) ∧ (∀ a h (Q : DK), opS .rev [.ref a] h Q = lsK h a fun xs => new h (.lst xs.reverse) Q) ∧
    (∀ c ds h Q, opS (.isO c) ds h Q = oIsO c ds h Q) ∧
    (∀ a h, rcv "clear" (.ref a) h = lsK h a fun _ => True) ∧ (∀ a h Q, opM "clear" [.ref a] h Q = lsK h a fun xs => Q .non (dput h a (.lst []))) ∧
    (∀ (C : Pr) o m es σ h Q E, wE C (.meth o m es) σ h Q E = wE C o σ h (fun d h1 => match d with
      | .ref a => (match h1 a with
        | some (.ins c _) => C.has c m = true ∧ wEs C es σ h1 (fun ds h2 => C.fn c m (.ref a :: ds) h2 Q E) E
        | _ => False)
      | _ => False) E) ∧
    (∀ (C : Pr) c es σ h Q E, wE C (.mk c es) σ h Q E = wEs C es σ h (fun ds h1 => ∀ p, h1 p = none → C.fn c "__init__" (.ref p :: ds) (dput h1 p (.ins c [])) (fun d h2 => d = .non ∧ Q (.ref p) h2) E) E) ∧
    (∀ (C : Pr) o f e K σ h, wS C (.fld o f e) K σ h = wE C e σ h (fun d h1 => wE C o σ h1 (fun od h2 => match od with
      | .ref a => attSet C a f d h2 fun h3 => K.nx σ h3
      | _ => False) (K.ex σ)) (K.ex σ)) ∧
    (∀ (C : Pr) i j es K σ h, wS C (.par i j es) K σ h = wEs C es σ h (fun ds h2 => match ds with
      | [x, y] => K.nx ((σ.set i (some x)).set j (some y)) h2
      | _ => False) (K.ex σ)) ∧
    (∀ (C : Pr) b c x K σ h, wS C (.try_ b c x) K σ h = wSs C b { K with ex := fun σ1 c1 fs h1 => if C.sub c1 c = true then K.rt (.bl (xbV C c1 x)) h1 else K.ex σ1 c1 fs h1 } σ h) ∧
    (∀ (C : Pr) ts d σ h (k : DS → DH → Prop), wG C (.tup ts) d σ h k = (match d with
      | .tup xs => xs.length = ts.len ∧ wGs C ts xs σ h k
      | _ => False)) ∧
    (∀ (C : Pr) o i d σ h (k : DS → DH → Prop), wG C (.sub o i) d σ h k = wE C o σ h (fun od h1 => wE C i σ h1 (fun iv h2 => subSet od iv d h2 fun h3 => k σ h3) (fun _ _ _ => False)) (fun _ _ _ => False)) ∧
    (∀ (C : Pr) ds σ h (k : DS → DH → Prop), wGs C .nil ds σ h k = (ds = [] ∧ k σ h)) ∧
    (∀ (C : Pr) t ts d r σ h (k : DS → DH → Prop), wGs C (.cons t ts) (d :: r) σ h k = wG C t d σ h (fun σ1 h1 => wGs C ts r σ1 h1 k)) := by
  refine ⟨?_, ?_, ?_, ?_, ?_, ?_, ?_, ?_, ?_, ?_, ?_, ?_, ?_, ?_, ?_, ?_, ?_, ?_⟩ <;> intros <;> first | rfl | (simp only [wE, wS, wG, wGs]; done) | (simp only [wE, wS, wG, wGs]; rfl)
end Z
set_option Elab.async false
set_option linter.all false
set_option maxRecDepth 100000
set_option maxHeartbeats 4000000
/-! Fw16: equality of data to itself; objects; more steps. -/
namespace Z
open PySem (Str Addr sizeLine PyData)
mutual
/-- data without text or a changing object -/
def nS : D → Bool
  | .ref _ => false
  | .str _ => false
  | .tup xs => nSL xs
  | .fl xs => nSL xs
  | _ => true
def nSL : List D → Bool
  | [] => true
  | x :: xs => nS x && nSL xs
end
mutual
def dpD : D → Nat
  | .tup xs => dpL xs + 1
  | .fl xs => dpL xs + 1
  | _ => 0
def dpL : List D → Nat
  | [] => 0
  | x :: xs => max (dpD x) (dpL xs)
end
mutual
theorem nS_pure : ∀ x : D, nS x = true → pureD x = true ∧ PyData.canLay0 (pyD x) = true ∧ PyData.depth (pyD x) = dpD x
  | .non, _ => by simp [pureD, pyD, PyData.canLay0, PyData.depth, dpD]
  | .bl b, _ => by simp [pureD, pyD, PyData.canLay0, PyData.depth, dpD]
  | .int i, _ => by simp [pureD, pyD, PyData.canLay0, PyData.depth, dpD]
  | .str x, h => by simp [nS] at h
  | .ref x, h => by simp [nS] at h
  | .tup xs, h => by
    have := nSL_pure xs (by simpa [nS] using h)
    simp [pureD, pyD, PyData.canLay0, PyData.depth, dpD, this]
  | .fl xs, h => by
    have := nSL_pure xs (by simpa [nS] using h)
    simp [pureD, pyD, PyData.canLay0, PyData.depth, dpD, this]
theorem nSL_pure : ∀ xs : List D, nSL xs = true → pureL xs = true ∧ PyData.canLayAll0 (pyL xs) = true ∧ PyData.depthAll (pyL xs) = dpL xs
  | [], _ => by simp [pureL, pyL, PyData.canLayAll0, PyData.depthAll, dpL]
  | x :: xs, h => by
    simp only [nSL, Bool.and_eq_true] at h
    have a := nS_pure x h.1
    have b := nSL_pure xs h.2
    simp [pureL, pyL, PyData.canLayAll0, PyData.depthAll, dpL, a, b]
end
theorem shaped_nS {x : D} (h : nS x = true) (d : dpD x ≤ 64) : PySem.SeqAt.shaped (pyD x) = true := by
  unfold PySem.SeqAt.shaped
  have := nS_pure x h
  rw [this.2.1, this.2.2]
  simpa using d
theorem eqG_same {x : D} {h : DH} {k : Bool → Prop} (n : nS x = true) (d : dpD x ≤ 64) (q : k true) : eqG x x h k :=
  ⟨pyD x, pyD x, .pure h x (nS_pure x n).1, .pure h x (nS_pure x n).1, shaped_nS n d, shaped_nS n d, by rw [PySem.SeqAt.eqv_refl _ (nS_pure x n).2.1]; exact q⟩
/-- two lists of the same data -/
theorem eqG_refs {a b : Addr} {xs : List D} {h : DH} {k : Bool → Prop} (ea : h a = some (.lst xs)) (eb : h b = some (.lst xs)) (n : nSL xs = true) (d : dpL xs ≤ 63) (q : k true) : eqG (.ref a) (.ref b) h k := by
  have p := nSL_pure xs n
  have sh : PySem.SeqAt.shaped (.list (pyL xs)) = true := shaped_nS (x := .fl xs) n (by show dpL xs + 1 ≤ 64; omega)
  have cl : PyData.canLay0 (.list (pyL xs)) = true := (nS_pure (.fl xs) n).2.1
  exact ⟨.list (pyL xs), .list (pyL xs), .ref ea (.pure h xs p.1), .ref eb (.pure h xs p.1), sh, sh, by rw [PySem.SeqAt.eqv_refl _ cl]; exact q⟩
theorem nSL_ints : ∀ xs : List Int, nSL (xs.map D.int) = true
  | [] => rfl
  | x :: r => by rw [List.map_cons, nSL, nSL_ints r]; rfl
theorem dpL_ints : ∀ xs : List Int, dpL (xs.map D.int) = 0
  | [] => rfl
  | x :: r => by rw [List.map_cons, dpL, dpL_ints r]; rfl
theorem nSL_all {xs : List D} (h : ∀ x ∈ xs, nS x = true) : nSL xs = true := by
  induction xs with
  | nil => rfl
  | cons x r ih => rw [nSL, h x (List.mem_cons_self ..), ih fun y hy => h y (List.mem_cons_of_mem _ hy)]; rfl
theorem dpL_le {xs : List D} {n : Nat} (h : ∀ x ∈ xs, dpD x ≤ n) : dpL xs ≤ n := by
  induction xs with
  | nil => exact Nat.zero_le _
  | cons x r ih => rw [dpL]; exact Nat.max_le.2 ⟨h x (List.mem_cons_self ..), ih fun y hy => h y (List.mem_cons_of_mem _ hy)⟩
/-- a word: None or a row of ints -/
def wD : Option (List Int) → D
  | none => .non
  | some l => .tup (l.map D.int)
theorem nS_wD : ∀ w, nS (wD w) = true
  | none => rfl
  | some l => nSL_ints l
theorem dpD_wD : ∀ w, dpD (wD w) ≤ 1
  | none => Nat.zero_le _
  | some l => by show dpL _ + 1 ≤ 1; rw [dpL_ints]; exact Nat.le_refl _
theorem nSL_words (ws : List (Option (List Int))) : nSL (ws.map wD) = true := nSL_all fun x hx => by obtain ⟨w, _, rfl⟩ := List.mem_map.1 hx; exact nS_wD w
theorem dpL_words (ws : List (Option (List Int))) : dpL (ws.map wD) ≤ 1 := dpL_le fun x hx => by obtain ⟨w, _, rfl⟩ := List.mem_map.1 hx; exact dpD_wD w
/-! kinds of values -/
/-- no own object -/
def Kn (h : DH) : D → Prop
  | .ref a => ∃ xs, h a = some (.lst xs)
  | _ => True
theorem Kn.ext {h h' : DH} (e : Ext h h') : ∀ {x : D}, Kn h x → Kn h' x
  | .ref _, ⟨xs, q⟩ => ⟨xs, e _ _ q⟩
  | .non, _ => trivial
  | .bl _, _ => trivial
  | .int _, _ => trivial
  | .str _, _ => trivial
  | .tup _, _ => trivial
  | .fl _, _ => trivial
def isTy (t : String) : D → Bool
  | .non => false
  | .bl _ => t == "bool" || t == "int"
  | .int _ => t == "int"
  | .str _ => t == "str"
  | .tup _ => t == "tuple"
  | .fl _ => t == "list"
  | .ref _ => t == "list"
theorem isi_kn {t : String} {h : DH} {Q : DK} : ∀ {x : D}, Kn h x → oIsi t [x] h Q = Q (.bl (isTy t x)) h
  | .ref _, ⟨xs, q⟩ => by unfold oIsi isiD; simp only [q]; rfl
  | .non, _ => rfl
  | .bl _, _ => rfl
  | .int _, _ => rfl
  | .str _, _ => rfl
  | .tup _, _ => rfl
  | .fl _, _ => rfl
def isIntD (lo hi : Int) : D → Bool
  | .int i => decide (lo ≤ i) && decide (i ≤ hi)
  | _ => false
theorem zk : (("int" == "int") = true) ∧ (("int" == "bool") = false) ∧ (("int" == "str") = false) ∧ (("int" == "tuple") = false) ∧ (("int" == "list") = false) ∧ (("bool" == "int") = false) ∧ (("bool" == "bool") = true) ∧ (("bool" == "str") = false) ∧ (("bool" == "tuple") = false) ∧ (("bool" == "list") = false) ∧ (("str" == "int") = false) ∧ (("str" == "bool") = false) ∧ (("str" == "str") = true) ∧ (("str" == "tuple") = false) ∧ (("str" == "list") = false) ∧ (("tuple" == "int") = false) ∧ (("tuple" == "bool") = false) ∧ (("tuple" == "str") = false) ∧ (("tuple" == "tuple") = true) ∧ (("tuple" == "list") = false) ∧ (("list" == "int") = false) ∧ (("list" == "bool") = false) ∧ (("list" == "str") = false) ∧ (("list" == "tuple") = false) ∧ (("list" == "list") = true) := by decide
theorem zq : ((!true) = false) ∧ ((!false) = true) ∧ (∀ b, (true || b) = true) ∧ (∀ b, (false || b) = b) ∧ (∀ b : Bool, (b || false) = b) ∧ ((true = false) = False) ∧ ((false = true) = False) ∧ ((true = true) = True) ∧ (∀ b, (true && b) = b) ∧ (∀ b, (false && b) = false) := by simp
/-- an object's attribute -/
theorem att_of {f : String} {a : Addr} {c : String} {fs : List (String × D)} {d : D} {h : DH} {Q : DK} (e : h a = some (.ins c fs)) (el : fs.lookup f = some d) : oAtt f [.ref a] h Q = Q d h := by
  unfold oAtt
  simp only [e, el]
theorem attSet_of {C : Pr} {f : String} {a : Addr} {c : String} {fs : List (String × D)} {d : D} {h : DH} {k : DH → Prop} (e : h a = some (.ins c fs)) (ef : C.fld c f = true) (l : fs.length < 1000) : attSet C a f d h k = k (dput h a (.ins c (putA f d fs))) := by
  unfold attSet
  simp only [e, ef, l, true_and]
/-- all but p stands -/
def ExtB (p : Addr) (h h' : DH) : Prop := ∀ b o, b ≠ p → h b = some o → h' b = some o
theorem new_all {h : DH} {o : DO} {Q : DK} (q : ∀ p, h p = none → Q (.ref p) (dput h p o)) : new h o Q := q
theorem natAbs_pos {c : Int} : (if c < 0 then -c else c) = (c.natAbs : Int) := by split <;> omega
/-- all in 0 .. 65536 -/
def Drawn (ds : List Int) : Prop := ∀ d ∈ ds, 0 ≤ d ∧ d < 65537
theorem Drawn.snoc {ds : List Int} (q : Drawn ds) {x : Int} (h0 : 0 ≤ x) (h1 : x < 65537) : Drawn (ds ++ [x]) := fun d hd => by
  rcases List.mem_append.1 hd with z | z
  · exact q d z
  · rw [List.mem_singleton.1 z]; exact ⟨h0, h1⟩
theorem mod_drawn {x j : Int} (h0 : 0 < j) (h1 : j ≤ 65537) : 0 ≤ x % j ∧ x % j < 65537 := ⟨Int.emod_nonneg _ (by omega), by have := Int.emod_lt_of_pos x h0; omega⟩
theorem map_snoc {ds : List Int} {x : Int} : ds.map D.int ++ [.int x] = (ds ++ [x]).map D.int := by rw [List.map_append]; rfl
theorem atI_zero {α : Type} {x : α} {xs : List α} : L2.atI (x :: xs) 0 = some x := atI_nat (i := 0)
theorem atI_one {α : Type} {x y : α} {xs : List α} : L2.atI (x :: y :: xs) 1 = some y := atI_nat (i := 1)
theorem atI_two {α : Type} {x y z : α} {xs : List α} : L2.atI (x :: y :: z :: xs) 2 = some z := atI_nat (i := 2)
theorem zag : (∀ i j h (Q : DK), augK .add (.int i) (.int j) h Q = Q (.int (i + j)) h) ∧ (∀ i j h (Q : DK), augK .sub (.int i) (.int j) h Q = Q (.int (i - j)) h) := ⟨fun _ _ _ _ => rfl, fun _ _ _ _ => rfl⟩
theorem zn : (∀ h (Q : DK), opS .eq [.non, .non] h Q = Q (.bl true) h) ∧ (∀ h (Q : DK), opS .ne [.non, .non] h Q = Q (.bl (!true)) h) := ⟨fun _ _ => rfl, fun _ _ => rfl⟩
/-! whole for statements, their bodies unread -/
section
variable {C : Pr} {σ : DS} {h : DH} {K : De}
theorem for_rng {v : Nat} {a : Ex} {b : Sms} {n : Nat} (hn : n < 2 ^ 62) (P : Nat → DS → DH → Prop) (hE : ∀ Q : DK, (∀ h1, P 0 σ h1 → Q (.int n) h1) → wE C a σ h Q (K.ex σ))
    (step : ∀ (i : Nat) σ h N, i < n → P i σ h → (∀ σ' h', P (i + 1) σ' h' → N σ' h') → wSs C b { K with nx := N, ct := N, bk := K.nx } (σ.set v (some (.int i))) h) (stop : ∀ σ h, P n σ h → K.nx σ h) : wS C (.for_ (.name v) (.rng1 a) b) K σ h := by
  simp only [wS, wI]
  refine hE _ fun h1 p => ⟨⟨by omega, by omega⟩, ?_⟩
  rw [Int.toNat_natCast]
  refine forK_rng P (fun i σ h N hi p hN => ?_) stop p
  simp only [wG, Int.zero_add]
  exact step i σ h N hi p hN
theorem for_rng2 {v : Nat} {a a2 : Ex} {b : Sms} {lo : Int} {n : Nat} (hlo : -(2 ^ 61) ≤ lo ∧ lo < 2 ^ 61) (hn : n < 2 ^ 61) (P : Nat → DS → DH → Prop) (hE : ∀ Q : D → D → DH → Prop, (∀ h1 (hi : Int), (hi - lo).toNat = n → -(2 ^ 61) ≤ hi ∧ hi < 2 ^ 62 → P 0 σ h1 → Q (.int lo) (.int hi) h1) → wE C a σ h (fun d h1 => wE C a2 σ h1 (fun e h2 => Q d e h2) (K.ex σ)) (K.ex σ))
    (step : ∀ (i : Nat) σ h N, i < n → P i σ h → (∀ σ' h', P (i + 1) σ' h' → N σ' h') → wSs C b { K with nx := N, ct := N, bk := K.nx } (σ.set v (some (.int (lo + i)))) h) (stop : ∀ σ h, P n σ h → K.nx σ h) : wS C (.for_ (.name v) (.rng2 a a2) b) K σ h := by
  simp only [wS, wI]
  refine hE _ fun h1 hi hd hb p => ⟨⟨by omega, by omega, by omega, by omega⟩, ?_⟩
  rw [hd]
  refine forK_rng P (fun i σ h N hi p hN => ?_) stop p
  simp only [wG]
  exact step i σ h N hi p hN
/-- a sequence that stands while it is walked -/
def SrcOk (h : DH) (x : D) (ds : List D) : Prop := x = .tup ds ∨ x = .fl ds ∨ ∃ a, x = .ref a ∧ h a = some (.lst ds)
theorem for_seq {t : Tg} {e : Ex} {b : Sms} {ds : List D} {x : D} (P : List D → DS → DH → Prop) (hE : ∀ Q : DK, (∀ h1, P ds σ h1 → Q x h1) → wE C e σ h Q (K.ex σ)) (hs : ∀ r σ h, P r σ h → SrcOk h x ds)
    (step : ∀ d r σ h N, P (d :: r) σ h → (∀ σ' h', P r σ' h' → N σ' h') → wG C t d σ h fun σ1 h1 => wSs C b { K with nx := N, ct := N, bk := K.nx } σ1 h1) (stop : ∀ σ h, P [] σ h → K.nx σ h) : wS C (.for_ t (.val e) b) K σ h := by
  simp only [wS, wI]
  refine hE _ fun h1 p => ?_
  have go : ∀ chk : DH → Prop, (∀ r σ h, P r σ h → chk h) → forK chk (fun d σ1 h2 k => wG C t d σ1 h2 k) (fun D1 σ1 h2 => wSs C b D1 σ1 h2) K ds σ h1 := fun chk hc =>
    forK_of P (fun d r σ h N p hN => ⟨hc _ _ _ p, step d r σ h N p hN⟩) (fun σ h p => ⟨hc _ _ _ p, stop σ h p⟩) ds σ h1 p
  rcases hs _ _ _ p with rfl | rfl | ⟨a, rfl, ea⟩
  · exact go _ fun _ _ _ _ => trivial
  · exact go _ fun _ _ _ _ => trivial
  · show lsK h1 a _
    rw [lsK_of ea]
    refine go _ fun r σ h p => ?_
    rcases hs _ _ _ p with z | z | ⟨b, z, eb⟩
    · cases z
    · cases z
    · cases z; exact eb
end
end Z
set_option Elab.async false
set_option linter.all false
set_option maxRecDepth 100000
set_option maxHeartbeats 4000000
/-! L0: numbers -/
namespace Z
open PySem (Str Addr sizeLine PyData)
/-- is_integer -/
def ir_is_integer_344730 : Sms := (.cons (.ret (.andV (.op (.isi "int") (.cons (.var 0) .nil)) (.andV (.op .notv (.cons (.op (.isi "bool") (.cons (.var 0) .nil)) .nil)) (.chain .le .le (.var 1) (.var 0) (.var 2)))))
  .nil)
theorem sp_is_integer {T : Tb} {k : Nat} (e : T.fn "" "is_integer" = some ⟨3, 3, ir_is_integer_344730⟩) {v : D} {lo hi : Int} {h : DH} {R : DK} {S : DX} (kn : Kn h v) (q : R (.bl (isIntD lo hi v)) h) : (lev T (k + 1)).fn "" "is_integer" [v, .int lo, .int hi] h R S := by
  rw [lev_fn e]
  refine ⟨rfl, ?_⟩
  show wSs _ ir_is_integer_344730 _ [_, _, _] _
  simp only [ir_is_integer_344730, zz, isi_kn kn]
  cases v with
  | int i =>
    simp only [isTy, zk, zq, zz]
    unfold isIntD at q
    by_cases h1 : lo ≤ i <;> by_cases h2 : i ≤ hi <;> simp only [h1, h2, decide_true, decide_false, zq] at q ⊢ <;> exact q
  | bl b =>
    simp only [isTy, zk, zq, zz]
    exact q
  | _ =>
    simp only [isTy, zk, zq, zz]
    exact q
end Z
set_option Elab.async false
set_option linter.all false
set_option maxRecDepth 100000
set_option maxHeartbeats 4000000
/-! L3: draws of the laws on rows -/
namespace Z
open PySem (Str Addr sizeLine PyData)
/-- _law_draws -/
def ir__law_draws_4873db : Sms := (.cons (.asg (.name 2) (.op .lst .nil))
  (.cons (.asg (.name 3) (.con (D.int 7)))
  (.cons (.for_ (.name 4) (.val (.op (.slc false true) (.cons (.var 0) (.cons (.con (D.int 63)) .nil))))
  (.cons (.asg (.name 6) (.op .abs (.cons (.var 4) .nil)))
  (.cons (.asg (.name 3) (.op .mod (.cons (.op .int (.cons (.op .add (.cons (.op .add (.cons (.op .mul (.cons (.var 3) (.cons (.con (D.int 48271)) .nil))) (.cons (.var 6) .nil))) (.cons (.con (D.int 11)) .nil))) .nil)) (.cons (.con (D.int 2147483647)) .nil))))
  (.cons (.ite (.val (.op .ge (.cons (.var 6) (.cons (.op .pow (.cons (.con (D.int 10)) (.cons (.con (D.int 18)) .nil))) .nil))))
  (.cons (.for_ (.name 5) (.rng1 (.con (D.int 60)))
  (.cons (.ite (.val (.op .gt (.cons (.var 6) (.cons (.con (D.int 0)) .nil))))
  (.cons (.ex (.bm "append" (.var 2) (.cons (.op .mod (.cons (.op .int (.cons (.var 6) .nil)) (.cons (.con (D.int 1009)) .nil))) .nil)))
  (.cons (.asg (.name 6) (.op .fdiv (.cons (.var 6) (.cons (.con (D.int 1009)) .nil))))
  .nil))
  .nil)
  .nil))
  .nil)
  (.cons (.ex (.bm "append" (.var 2) (.cons (.op .mod (.cons (.op .fdiv (.cons (.op .int (.cons (.op .add (.cons (.op .mul (.cons (.var 3) (.cons (.con (D.int 16807)) .nil))) (.cons (.con (D.int 5)) .nil))) .nil)) (.cons (.con (D.int 3)) .nil))) (.cons (.con (D.int 65521)) .nil))) .nil)))
  .nil))
  .nil))))
  (.cons (.for_ (.name 5) (.rng1 (.var 1))
  (.cons (.ite (.val (.op .lt (.cons (.op .len (.cons (.var 2) .nil)) (.cons (.var 1) .nil))))
  (.cons (.asg (.name 3) (.op .mod (.cons (.op .int (.cons (.op .add (.cons (.op .add (.cons (.op .mul (.cons (.var 3) (.cons (.con (D.int 69621)) .nil))) (.cons (.var 5) .nil))) (.cons (.con (D.int 1)) .nil))) .nil)) (.cons (.con (D.int 2147483647)) .nil))))
  (.cons (.ex (.bm "append" (.var 2) (.cons (.op .mod (.cons (.op .fdiv (.cons (.op .int (.cons (.var 3) .nil)) (.cons (.con (D.int 7)) .nil))) (.cons (.con (D.int 65521)) .nil))) .nil)))
  .nil))
  .nil)
  .nil))
  (.cons (.ret (.op (.slc false true) (.cons (.var 2) (.cons (.var 1) .nil))))
  .nil)))))
theorem sp_draws3 {T : Tb} {k : Nat} (e : T.fn "" "_law_draws" = some ⟨2, 7, ir__law_draws_4873db⟩) {ns : List Int} {m : Nat} (hm : m ≤ 100000) {h : DH} {R : DK} {S : DX}
    (q : ∀ p h' ds, Ext h h' → h p = none → h' p = some (.lst (ds.map .int)) → ds.length = m → Drawn ds → R (.ref p) h') : (lev T (k + 1)).fn "" "_law_draws" [.fl (ns.map D.int), .int m] h R S := by
  rw [lev_fn e]
  refine ⟨rfl, ?_⟩
  show wSs _ ir__law_draws_4873db _ [_, _, none, none, none, none, none] _
  simp only [ir__law_draws_4873db, zz]
  intro p hp a ha
  have hpa : p ≠ a := ne_of ha dput_same
  have cN := cut_take (xs := ns.map D.int) (n := 63)
  rw [show ((63 : Nat) : Int) = 63 from rfl] at cN
  simp only [zz, cN, ← List.map_take]
  refine forK_of (fun r σ h' => ∃ (cs : List Int) (ds : List Int) (u : Int) (x4 x5 x6 : Option D), r = cs.map .int ∧ σ = [some (.fl (ns.map .int)), some (.int m), some (.ref p), some (.int u), x4, x5, x6] ∧ h' p = some (.lst (ds.map .int)) ∧ h' a = some (.lst ((ns.take 63).map .int)) ∧ Ext h h' ∧ Drawn ds ∧ ds.length + 60 * cs.length ≤ 60 * 63) ?_ ?_ _ _ _
    ⟨ns.take 63, [], 7, none, none, none, rfl, rfl, by rw [dput_ne hpa]; exact dput_same, dput_same, (Ext.new hp).trans (Ext.new ha), fun d z => (by cases z), by rw [List.length_take, List.length_nil]; omega⟩
  · rintro d r σ h' N ⟨cs, ds, u, x4, x5, x6, e1, rfl, hP, hA, ex, dr, hl⟩ hN
    obtain ⟨c, cs, rfl, rfl, rfl⟩ := List.map_eq_cons_iff.1 e1.symm
    rw [List.length_cons] at hl
    simp (discharger := decide) only [zz, natAbs_pos, mulOk_r, true_and]
    refine ⟨hA, by decide, ⟨by decide, by decide, by decide⟩, ?_⟩
    generalize hv : (u * 48271 + (c.natAbs : Int) + 11) % 2147483647 = v
    have tail : ∀ (h' : DH) (ds : List Int) (x5 x6 : Option D), h' p = some (.lst (ds.map .int)) → h' a = some (.lst ((ns.take 63).map .int)) → Ext h h' → Drawn ds → ds.length + 60 * cs.length ≤ 60 * 63 →
        N [some (.fl (ns.map .int)), some (.int m), some (.ref p), some (.int v), some (.int c), x5, x6] h' := fun h' ds x5 x6 hP hA ex dr hl => hN _ _ ⟨cs, ds, v, _, _, _, rfl, rfl, hP, hA, ex, dr, hl⟩
    split
    · refine ⟨by decide, ?_⟩
      refine forK_rng (fun i σ h' => ∃ (ds : List Int) (x5 : Option D) (z : Int), σ = [some (.fl (ns.map .int)), some (.int m), some (.ref p), some (.int v), some (.int c), x5, some (.int z)] ∧ h' p = some (.lst (ds.map .int)) ∧ h' a = some (.lst ((ns.take 63).map .int)) ∧ Ext h h' ∧ Drawn ds ∧ ds.length + 60 * cs.length + (60 - i) ≤ 60 * 63) ?_ ?_ ⟨ds, x5, _, rfl, hP, hA, ex, dr, by omega⟩
      · rintro i σ h' N' hi ⟨ds, x5, z, rfl, hP, hA, ex, dr, hl⟩ hN'
        have hi' : i < 60 := hi
        simp (discharger := decide) only [zz, lsK_of hP, divOk_lit, true_and]
        split
        · refine ⟨by decide, by rw [List.length_map]; exact Nat.lt_of_le_of_lt (show ds.length ≤ 60 * 63 by omega) (by decide), ?_⟩
          have md := mod_drawn (x := z) (j := 1009) (by decide) (by decide)
          exact hN' _ _ ⟨ds ++ [z % 1009], _, z / 1009, rfl, by rw [dput_same, map_snoc], by rw [dput_ne (Ne.symm hpa)]; exact hA, ex.put hp, dr.snoc md.1 md.2, by rw [List.length_append, List.length_singleton]; omega⟩
        · exact hN' _ _ ⟨ds, _, z, rfl, hP, hA, ex, dr, by omega⟩
      · rintro σ h' ⟨ds, x5, z, rfl, hP, hA, ex, dr, hl⟩
        simp only [zz]
        exact tail _ ds _ _ hP hA ex dr (by omega)
    · simp (discharger := decide) only [zz, lsK_of hP, mulOk_r, divOk_lit, true_and, List.length_map]
      have md := mod_drawn (x := (v * 16807 + 5) / 3) (j := 65521) (by decide) (by decide)
      refine ⟨by decide, Nat.lt_of_le_of_lt (show ds.length ≤ 60 * 63 by omega) (by decide), ?_⟩
      refine tail _ (ds ++ [_]) _ _ ?_ ?_ (ex.put hp) (dr.snoc md.1 md.2) (by simp only [List.length_append, List.length_singleton]; omega)
      · rw [dput_same, map_snoc]
      · rw [dput_ne (Ne.symm hpa)]; exact hA
  · rintro σ h' ⟨cs, ds, u, x4, x5, x6, e1, rfl, hP, hA, ex, dr, hl⟩
    simp only [zz]
    refine ⟨hA, ⟨by omega, by omega⟩, ?_⟩
    rw [Int.toNat_natCast]
    refine forK_rng (fun i σ h' => ∃ (ds : List Int) (u : Int) (x5 : Option D), σ = [some (.fl (ns.map .int)), some (.int m), some (.ref p), some (.int u), x4, x5, x6] ∧ h' p = some (.lst (ds.map .int)) ∧ Ext h h' ∧ Drawn ds ∧ ds.length ≤ 60 * 63 + i ∧ i ≤ ds.length) ?_ ?_ ⟨ds, u, x5, rfl, hP, ex, dr, by omega, by omega⟩
    · rintro i σ h' N hi ⟨ds, u, x5, rfl, hP, ex, dr, hl, hl2⟩ hN
      simp (discharger := decide) only [zz, lsK_of hP, mulOk_r, divOk_lit, true_and, List.length_map]
      split
      · generalize (u * 69621 + (0 + (i : Int)) + 1) % 2147483647 = v
        have md := mod_drawn (x := v / 7) (j := 65521) (by decide) (by decide)
        refine ⟨by decide, by decide, Nat.lt_of_le_of_lt (show ds.length ≤ 60 * 63 + 100000 by omega) (by decide), ?_⟩
        exact hN _ _ ⟨ds ++ [_], v, _, rfl, by rw [dput_same, map_snoc], ex.put hp, dr.snoc md.1 md.2, by rw [List.length_append, List.length_singleton]; omega, by rw [List.length_append, List.length_singleton]; omega⟩
      · exact hN _ _ ⟨ds, u, _, rfl, hP, ex, dr, by omega, by omega⟩
    · rintro σ h' ⟨ds, u, x5, rfl, hP, ex, dr, hl, hl2⟩
      simp only [zz, lsK_of hP]
      intro b hb
      rw [cut_take, ← List.map_take]
      have nb : h b = none := by
        cases z : h b with
        | none => rfl
        | some o => rw [ex _ _ z] at hb; cases hb
      refine q b _ (ds.take m) (ex.trans (Ext.new hb)) nb dput_same (by rw [List.length_take]; omega) fun d hd => dr d (List.mem_of_mem_take hd)
end Z
set_option Elab.async false
set_option linter.all false
set_option maxRecDepth 100000
set_option maxHeartbeats 4000000
/-! L2: rings -/
namespace Z
open PySem (Str Addr sizeLine PyData)
/-- _law_ring_step -/
def ir__law_ring_step_e9a86a : Sms := (.cons (.asg (.tup (.cons (.name 3) (.cons (.name 4) .nil))) (.var 1))
  (.cons (.ite (.or (.val (.op .eq (.cons (.op .len (.cons (.var 3) .nil)) (.cons (.con (D.int 0)) .nil)))) (.and (.val (.op .eq (.cons (.op .idx (.cons (.var 3) (.cons (.con (D.int 0)) .nil))) (.cons (.con (D.int 1)) .nil)))) (.val (.op .isN (.cons (.op .idx (.cons (.var 0) (.cons (.var 4) .nil))) .nil)))))
  (.cons (.ret (.con D.non))
  .nil)
  .nil)
  (.cons (.asg (.name 2) (.var 3))
  (.cons (.ite (.val (.op .eq (.cons (.op .idx (.cons (.var 3) (.cons (.con (D.int 0)) .nil))) (.cons (.con (D.int 1)) .nil))))
  (.cons (.asg (.name 2) (.op .add (.cons (.var 3) (.cons (.op .idx (.cons (.var 0) (.cons (.var 4) .nil))) .nil))))
  .nil)
  .nil)
  (.cons (.ite (.val (.op .eq (.cons (.op .len (.cons (.var 2) .nil)) (.cons (.con (D.int 1)) .nil))))
  (.cons (.ret (.op .tup (.cons (.op .tup .nil) (.cons (.con (D.int 0)) .nil))))
  .nil)
  .nil)
  (.cons (.ret (.op .tup (.cons (.op (.slc true false) (.cons (.var 2) (.cons (.con (D.int 1)) .nil))) (.cons (.op .mod (.cons (.op .int (.cons (.op .add (.cons (.var 4) (.cons (.con (D.int 1)) .nil))) .nil)) (.cons (.op .len (.cons (.var 0) .nil)) .nil))) .nil))))
  .nil))))))
/-- Ring.__init__ -/
def ir_Ring___init___602e1a : Sms := (.cons (.ite (.not (.val (.chain .le .le (.con (D.int 1)) (.op .len (.cons (.var 1) .nil)) (.con (D.int 40000)))))
  (.cons (.rai "BadMachine")
  .nil)
  .nil)
  (.cons (.for_ (.name 2) (.val (.var 1))
  (.cons (.ite (.and (.val (.op .notN (.cons (.var 2) .nil))) (.not (.val (.call "is_row" (.cons (.var 2) (.cons (.con (D.int 2)) .nil))))))
  (.cons (.rai "BadMachine")
  .nil)
  .nil)
  .nil))
  (.cons (.fld (.var 0) "size" (.op .len (.cons (.var 1) .nil)))
  (.cons (.fld (.var 0) "_words" (.op .list (.cons (.var 1) .nil)))
  .nil))))
/-- _law_ring -/
def ir__law_ring_ba06da : Sms := (.cons (.asg (.name 2) (.op .lst .nil))
  (.cons (.for_ (.name 3) (.rng1 (.op .add (.cons (.con (D.int 1)) (.cons (.op .mod (.cons (.op .int (.cons (.op .idx (.cons (.var 0) (.cons (.con (D.int 0)) .nil))) .nil)) (.cons (.var 1) .nil))) .nil))))
  (.cons (.asg (.name 4) (.op .idx (.cons (.var 0) (.cons (.op .add (.cons (.con (D.int 1)) (.cons (.var 3) .nil))) .nil))))
  (.cons (.asg (.name 5) (.op .tuple (.cons (.lc [6] (.rng1 (.op .mod (.cons (.op .int (.cons (.var 4) .nil)) (.cons (.con (D.int 6)) .nil)))) .tt (.op .mod (.cons (.op .int (.cons (.op .add (.cons (.op .fdiv (.cons (.var 4) (.cons (.op .add (.cons (.con (D.int 1)) (.cons (.op .mul (.cons (.var 6) (.cons (.var 6) .nil))) .nil))) .nil))) (.cons (.var 6) .nil))) .nil)) (.cons (.con (D.int 2)) .nil)))) .nil)))
  (.cons (.ex (.bm "append" (.var 2) (.cons (.op .idx (.cons (.op .lst (.cons (.var 5) (.cons (.con D.non) .nil))) (.cons (.op .int (.cons (.op .eq (.cons (.op .mod (.cons (.op .int (.cons (.op .fdiv (.cons (.var 4) (.cons (.con (D.int 7)) .nil))) .nil)) (.cons (.con (D.int 7)) .nil))) (.cons (.con (D.int 0)) .nil))) .nil)) .nil))) .nil)))
  .nil))))
  (.cons (.ret (.var 2))
  .nil)))
/-- is_row -/
def ir_is_row_a5df9b : Sms := (.cons (.ret (.andV (.op (.isi "tuple") (.cons (.var 0) .nil)) (.op .all (.cons (.lc [2] (.val (.var 0)) .tt (.call "is_integer" (.cons (.var 2) (.cons (.con (D.int 0)) (.cons (.op .sub (.cons (.var 1) (.cons (.con (D.int 1)) .nil))) .nil))))) .nil))))
  .nil)
/-- Ring.table -/
def ir_Ring_table_e87d90 : Sms := (.cons (.ret (.op .list (.cons (.op (.att "_words") (.cons (.var 0) .nil)) .nil)))
  .nil)
/-- Ring.is_configuration -/
def ir_Ring_is_configuration_622698 : Sms := (.cons (.ite (.or (.not (.val (.op (.isi "tuple") (.cons (.var 1) .nil)))) (.or (.val (.op .ne (.cons (.op .len (.cons (.var 1) .nil)) (.cons (.con (D.int 2)) .nil)))) (.not (.val (.call "is_row" (.cons (.op .idx (.cons (.var 1) (.cons (.con (D.int 0)) .nil))) (.cons (.con (D.int 2)) .nil)))))))
  (.cons (.ret (.con (D.bl false)))
  .nil)
  .nil)
  (.cons (.ite (.not (.val (.call "is_integer" (.cons (.op .idx (.cons (.var 1) (.cons (.con (D.int 1)) .nil))) (.cons (.con (D.int 0)) (.cons (.op .sub (.cons (.op (.att "size") (.cons (.var 0) .nil)) (.cons (.con (D.int 1)) .nil))) .nil))))))
  (.cons (.ret (.con (D.bl false)))
  .nil)
  .nil)
  (.cons (.ret (.orV (.op .gt (.cons (.op .len (.cons (.op .idx (.cons (.var 1) (.cons (.con (D.int 0)) .nil))) .nil)) (.cons (.con (D.int 0)) .nil))) (.op .eq (.cons (.op .idx (.cons (.var 1) (.cons (.con (D.int 1)) .nil))) (.cons (.con (D.int 0)) .nil)))))
  .nil)))
/-- Ring.run -/
def ir_Ring_run_c91f62 : Sms := (.cons (.asg (.name 3) (.op .list (.cons (.op .idx (.cons (.var 1) (.cons (.con (D.int 0)) .nil))) .nil)))
  (.cons (.asg (.name 4) (.op .idx (.cons (.var 1) (.cons (.con (D.int 1)) .nil))))
  (.cons (.asg (.name 5) (.con (D.int 0)))
  (.cons (.whl (.and (.val (.op .lt (.cons (.var 5) (.cons (.var 2) .nil)))) (.val (.op .lt (.cons (.var 5) (.cons (.op .len (.cons (.var 3) .nil)) .nil)))))
  (.cons (.ite (.val (.op .eq (.cons (.op .idx (.cons (.var 3) (.cons (.var 5) .nil))) (.cons (.con (D.int 1)) .nil))))
  (.cons (.ite (.val (.op .isN (.cons (.op .idx (.cons (.op (.att "_words") (.cons (.var 0) .nil)) (.cons (.var 4) .nil))) .nil)))
  (.cons .brk
  .nil)
  .nil)
  (.cons (.ex (.bm "extend" (.var 3) (.cons (.op .idx (.cons (.op (.att "_words") (.cons (.var 0) .nil)) (.cons (.var 4) .nil))) .nil)))
  .nil))
  .nil)
  (.cons (.asg (.name 4) (.op .mod (.cons (.op .add (.cons (.var 4) (.cons (.con (D.int 1)) .nil))) (.cons (.op (.att "size") (.cons (.var 0) .nil)) .nil))))
  (.cons (.aug 5 .add (.con (D.int 1)))
  .nil))))
  (.cons (.asg (.name 6) (.op .tuple (.cons (.op (.slc true false) (.cons (.var 3) (.cons (.var 5) .nil))) .nil)))
  (.cons (.ret (.op .tup (.cons (.op .tup (.cons (.var 6) (.cons (.ite (.val (.var 6)) (.var 4) (.con (D.int 0))) .nil))) (.cons (.var 5) .nil))))
  .nil))))))
/-- Ring.step -/
def ir_Ring_step_78e109 : Sms := (.cons (.ite (.val (.meth (.var 0) "stopped" (.cons (.var 1) .nil)))
  (.cons (.ret (.con D.non))
  .nil)
  .nil)
  (.cons (.ret (.op .idx (.cons (.meth (.var 0) "run" (.cons (.var 1) (.cons (.con (D.int 1)) .nil))) (.cons (.con (D.int 0)) .nil))))
  .nil))
/-- Ring.stopped -/
def ir_Ring_stopped_e9260c : Sms := (.cons (.asg (.tup (.cons (.name 2) (.cons (.name 3) .nil))) (.var 1))
  (.cons (.ret (.orV (.op .eq (.cons (.op .len (.cons (.var 2) .nil)) (.cons (.con (D.int 0)) .nil))) (.andV (.op .eq (.cons (.op .idx (.cons (.var 2) (.cons (.con (D.int 0)) .nil))) (.cons (.con (D.int 1)) .nil))) (.op .isN (.cons (.op .idx (.cons (.op (.att "_words") (.cons (.var 0) .nil)) (.cons (.var 3) .nil))) .nil)))))
  .nil))
/-! ### rows -/
def isRowD (m : Int) : D → Bool
  | .tup xs => xs.all (isIntD 0 (m - 1))
  | _ => false
/-- no own object, nor in it -/
def KnR (h : DH) (v : D) : Prop := Kn h v ∧ ∀ xs, v = .tup xs → ∀ x ∈ xs, Kn h x
theorem KnR.ext {h h' : DH} (e : Ext h h') {x : D} (q : KnR h x) : KnR h' x := ⟨q.1.ext e, fun xs z y hy => (q.2 xs z y hy).ext e⟩
theorem KnR.ints {h : DH} {xs : List Int} : KnR h (.tup (xs.map .int)) := ⟨trivial, fun ys e y hy => by
  cases e
  obtain ⟨z, _, rfl⟩ := List.mem_map.1 hy
  exact trivial⟩
theorem sp_is_row {T : Tb} {k : Nat} (e : T.fn "" "is_row" = some ⟨2, 3, ir_is_row_a5df9b⟩) (e1 : T.fn "" "is_integer" = some ⟨3, 3, ir_is_integer_344730⟩) {v : D} {m : Int} {h : DH} {R : DK} {S : DX} (kn : KnR h v) (sz : ∀ xs, v = .tup xs → xs.length ≤ 1000000)
    (q : ∀ h', Ext h h' → R (.bl (isRowD m v)) h') : (lev T (k + 2)).fn "" "is_row" [v, .int m] h R S := by
  rw [lev_fn e]
  refine ⟨rfl, ?_⟩
  show wSs _ ir_is_row_a5df9b _ [_, _, none] _
  simp only [ir_is_row_a5df9b, zz, isi_kn kn.1]
  cases v with
  | tup xs =>
    simp only [isTy, zk, zq, zz]
    refine lcK_map (fun h' => h' = h) (fun d => .bl (isIntD 0 (m - 1) d)) (fun _ _ => trivial) xs [] h (fun d hd h' k e hk => ?_) (by rw [List.length_nil, Nat.zero_add]; exact Nat.le_trans (sz xs rfl) (by decide)) rfl fun h' e => ?_
    · subst e
      exact sp_is_integer e1 (kn.2 xs rfl d hd) (hk _ rfl)
    · subst e
      intro p hp
      simp only [zz]
      refine ⟨xs.map (isIntD 0 (m - 1)), by rw [List.map_map, List.nil_append]; rfl, ?_⟩
      have e3 : (xs.map (isIntD 0 (m - 1))).all id = xs.all (isIntD 0 (m - 1)) := by rw [List.all_map]; rfl
      rw [e3]
      exact q _ (Ext.new hp)
  | _ =>
    simp only [isTy, zk, zq, zz]
    exact q h Ext.refl
theorem isRow_ints {m : Int} {xs : List Int} (h : ∀ x ∈ xs, 0 ≤ x ∧ x < m) : isRowD m (.tup (xs.map .int)) = true := by
  show (xs.map D.int).all _ = true
  rw [List.all_map, List.all_eq_true]
  intro x hx
  have := h x hx
  show (decide (0 ≤ x) && decide (x ≤ m - 1)) = true
  simp only [Bool.and_eq_true, decide_eq_true_eq]
  omega
/-! ### rings -/
/-- a ring's object -/
def RingAt (h : DH) (a : Addr) (ws : List (Option (List Int))) : Prop := ∃ w, h a = some (.ins "Ring" [("size", .int ws.length), ("_words", .ref w)]) ∧ h w = some (.lst (ws.map wD))
theorem RingAt.ext {h h' : DH} (e : Ext h h') {a : Addr} {ws : List (Option (List Int))} : RingAt h a ws → RingAt h' a ws := fun ⟨w, e1, e2⟩ => ⟨w, e _ _ e1, e _ _ e2⟩
def okW (w : D) : Bool := isNon w || isRowD 2 w
def okWs (ws : List D) : Prop := 1 ≤ ws.length ∧ ws.length ≤ 40000 ∧ ws.all okW = true
theorem sp_ring_init {T : Tb} {k : Nat} (e : T.fn "Ring" "__init__" = some ⟨2, 3, ir_Ring___init___602e1a⟩) (er : T.fn "" "is_row" = some ⟨2, 3, ir_is_row_a5df9b⟩) (e1 : T.fn "" "is_integer" = some ⟨3, 3, ir_is_integer_344730⟩)
    (hf1 : T.fld "Ring" "size" = true) (hf2 : T.fld "Ring" "_words" = true) {p a : Addr} {ws : List D} {h : DH} {R : DK} {S : DX} (hp : h p = some (.ins "Ring" [])) (ha : h a = some (.lst ws)) (kn : ∀ w ∈ ws, KnR h w) (sz : ∀ w ∈ ws, ∀ xs, w = .tup xs → xs.length ≤ 1000000)
    (q : okWs ws → ∀ h' w, h w = none → ExtB p h h' → h' p = some (.ins "Ring" [("size", .int ws.length), ("_words", .ref w)]) → h' w = some (.lst ws) → R .non h') (x : ¬ okWs ws → ∀ h', Ext h h' → S "BadMachine" [] h') : (lev T (k + 3)).fn "Ring" "__init__" [.ref p, .ref a] h R S := by
  rw [lev_fn e]
  refine ⟨rfl, ?_⟩
  show wSs _ ir_Ring___init___602e1a _ [_, _, none] _
  unfold ir_Ring___init___602e1a
  refine seqS fun N hN => ?_
  simp only [zz, lsK_of ha]
  by_cases c1 : (1 : Int) ≤ ws.length
  case neg =>
    simp only [c1, decide_false, zq, zz]
    exact x (fun o => c1 (by have := o.1; omega)) h Ext.refl
  by_cases c2 : (ws.length : Int) ≤ 40000
  case neg =>
    simp only [c1, c2, decide_true, decide_false, zq, zz, lsK_of ha]
    exact x (fun o => c2 (by have := o.2.1; omega)) h Ext.refl
  simp only [c1, c2, decide_true, zq, zz, lsK_of ha]
  refine hN _ _ (seqS fun N hN => ?_)
  simp only [zz, lsK_of ha]
  refine forK_of (fun r σ h' => ∃ x2 : Option D, σ = [some (.ref p), some (.ref a), x2] ∧ Ext h h' ∧ (∀ w ∈ r, w ∈ ws) ∧ (ws.all okW = r.all okW)) ?_ ?_ _ _ _ ⟨none, rfl, Ext.refl, fun _ h => h, rfl⟩
  · rintro d r σ h' N ⟨x2, rfl, ex, hr, hk⟩ hN
    have hd := hr d (List.mem_cons_self ..)
    have hr' : ∀ w ∈ r, w ∈ ws := fun w hw => hr w (List.mem_cons_of_mem _ hw)
    refine ⟨ex _ _ ha, ?_⟩
    simp only [zz]
    by_cases n : isNon d = true
    · simp only [n, zq, zz]
      refine hN _ _ ⟨_, rfl, ex, hr', ?_⟩
      rw [hk, List.all_cons]
      show ((_ || _) && _) = _
      rw [n]; rfl
    · have n' : isNon d = false := by simpa using n
      simp only [n', zq, zz]
      refine sp_is_row er e1 ((kn d hd).ext ex) (sz d hd) fun h2 ex2 => ?_
      cases b : isRowD 2 d with
      | true =>
        simp only [zq, zz]
        refine hN _ _ ⟨_, rfl, ex.trans ex2, hr', ?_⟩
        rw [hk, List.all_cons]
        show ((_ || _) && _) = _
        rw [b, Bool.or_true]; rfl
      | false =>
        simp only [zq, zz]
        refine x (fun o => ?_) _ (ex.trans ex2)
        have z := o.2.2
        rw [hk, List.all_cons] at z
        have z2 : (okW d) = false := by unfold okW; rw [n', b]; rfl
        rw [z2] at z
        cases z
  · rintro σ h' ⟨x2, rfl, ex, hr, hk⟩
    refine ⟨ex _ _ ha, hN _ _ (seqS fun N hN => ?_)⟩
    have ok : okWs ws := ⟨by omega, by omega, by rw [hk]; rfl⟩
    simp only [zy, zz, lsK_of (ex _ _ ha)]
    rw [attSet_of (ex _ _ hp) (by exact hf1) (by decide)]
    refine hN _ _ (seqS fun N hN => ?_)
    have pa : p ≠ a := fun z => by subst z; rw [hp] at ha; cases ha
    have ha2 : ∀ o, dput h' p o a = some (.lst ws) := fun o => by rw [dput_ne (Ne.symm pa)]; exact ex _ _ ha
    simp only [zy, zz, lsK_of (ha2 _)]
    intro w hw
    have pw : p ≠ w := ne_of hw dput_same
    rw [attSet_of (by rw [dput_ne pw]; exact dput_same) (by exact hf2) (by show 1 < 1000; decide)]
    refine hN _ _ (seqN ?_)
    have hwn : h w = none := by
      cases z : h w with
      | none => rfl
      | some o => rw [dput_ne (Ne.symm pw), ex _ _ z] at hw; cases hw
    refine q ok _ w hwn ?_ dput_same (by rw [dput_ne (Ne.symm pw)]; exact dput_same)
    intro b o hb eb
    rw [dput_ne hb, dput_ne (ne_of hw (show dput h' p _ b = some o by rw [dput_ne hb]; exact ex _ _ eb)), dput_ne hb]
    exact ex _ _ eb
theorem sp_ring_table {T : Tb} {k : Nat} (e : T.fn "Ring" "table" = some ⟨1, 1, ir_Ring_table_e87d90⟩) {a : Addr} {ws : List (Option (List Int))} {h : DH} {R : DK} {S : DX} (hr : RingAt h a ws) (q : ∀ p h', h p = none → Ext h h' → h' p = some (.lst (ws.map wD)) → R (.ref p) h') : (lev T (k + 1)).fn "Ring" "table" [.ref a] h R S := by
  obtain ⟨w, e2, e3⟩ := hr
  rw [lev_fn e]
  refine ⟨rfl, ?_⟩
  show wSs _ ir_Ring_table_e87d90 _ [_] _
  simp only [ir_Ring_table_e87d90, zz]
  rw [att_of e2 rfl]
  simp only [zz, lsK_of e3]
  exact fun p hp => q p _ hp (Ext.new hp) dput_same
/-- a ring's configuration -/
def cD (bits : List Int) (u : Nat) : D := .tup [.tup (bits.map .int), .int u]
def rsFin (n u : Nat) (l : List Int) : List Int × Nat := (l, if l = [] then 0 else (u + 1) % n)
/-- a step of a ring -/
def rsStep (ws : List (Option (List Int))) : List Int × Nat → Option (List Int × Nat)
  | ([], _) => none
  | (b :: bs, u) => if b = 1 then (match ws[u]?.join with
    | none => none
    | some w => some (rsFin ws.length u (bs ++ w))) else some (rsFin ws.length u bs)
/-- so many steps, and how many there were -/
def rsRun (ws : List (Option (List Int))) : Nat → List Int × Nat → (List Int × Nat) × Nat
  | 0, c => (c, 0)
  | k + 1, c => match rsStep ws c with
    | none => (c, 0)
    | some d => ((rsRun ws k d).1, (rsRun ws k d).2 + 1)
theorem word_at {ws : List (Option (List Int))} {u : Nat} (hu : u < ws.length) : L2.atI (ws.map wD) (u : Int) = some (wD ws[u]?.join) := by
  rw [atI_nat, List.getElem?_map, List.getElem?_eq_getElem hu]
  rfl
theorem isNon_wD (w : Option (List Int)) : isNon (wD w) = w.isNone := by cases w <;> rfl
theorem sp_ring_stopped {T : Tb} {k : Nat} (e : T.fn "Ring" "stopped" = some ⟨2, 4, ir_Ring_stopped_e9260c⟩) {a : Addr} {ws : List (Option (List Int))} {bits : List Int} {u : Nat} (hu : u < ws.length) {h : DH} {R : DK} {S : DX} (hr : RingAt h a ws) (q : R (.bl (rsStep ws (bits, u)).isNone) h) :
    (lev T (k + 1)).fn "Ring" "stopped" [.ref a, cD bits u] h R S := by
  obtain ⟨w, e2, e3⟩ := hr
  rw [lev_fn e]
  refine ⟨rfl, ?_⟩
  show wSs _ ir_Ring_stopped_e9260c _ [_, _, none, none] _
  simp only [ir_Ring_stopped_e9260c, zz, zy, cD, true_and, List.length_cons, List.length_nil, List.length_map]
  cases bits with
  | nil =>
    simp only [List.length_nil, Int.natCast_zero, decide_true, zz]
    exact q
  | cons b bs =>
    have n0 : ¬ (((bs.length + 1 : Nat) : Int) = 0) := by omega
    have a0 : L2.atI ((b :: bs).map D.int) 0 = some (.int b) := atI_zero
    simp only [List.length_cons, n0, decide_false, zz, a0]
    refine ⟨_, rfl, ?_⟩
    simp only [zz]
    rw [rsStep] at q
    by_cases hb : b = 1
    · simp only [hb, decide_true, zz, if_true] at q ⊢
      rw [att_of e2 rfl]
      simp only [zz, lsK_of e3, word_at hu]
      refine ⟨_, rfl, ?_⟩
      simp only [zz, isNon_wD]
      cases hw : ws[u]?.join with
      | none => rw [hw] at q; exact q
      | some w => rw [hw] at q; exact q
    · simp only [hb, decide_false, zz, if_false] at q ⊢
      exact q
def cfgD (c : List Int × Nat) : D := cD c.1 c.2
theorem sp_ring_run {T : Tb} {k : Nat} (e : T.fn "Ring" "run" = some ⟨3, 7, ir_Ring_run_c91f62⟩) {a : Addr} {ws : List (Option (List Int))} {bits : List Int} {u : Nat} (hu : u < ws.length) (hz : bits = [] → u = 0) {steps W : Nat} (hW : ∀ w ∈ ws, ∀ l, w = some l → l.length ≤ W)
    (hb : bits.length + steps * W ≤ 1000000) {h : DH} {R : DK} {S : DX} (hr : RingAt h a ws) (q : ∀ h', Ext h h' → R (.tup [cfgD (rsRun ws steps (bits, u)).1, .int (rsRun ws steps (bits, u)).2]) h') :
    (lev T (k + 1)).fn "Ring" "run" [.ref a, cD bits u, .int steps] h R S := by
  obtain ⟨w, e2, e3⟩ := hr
  rw [lev_fn e]
  refine ⟨rfl, ?_⟩
  show wSs _ ir_Ring_run_c91f62 _ [_, _, _, none, none, none, none] _
  unfold ir_Ring_run_c91f62
  refine seqS fun N hN => ?_
  simp only [zz, cD, atI_zero]
  refine ⟨_, rfl, ?_⟩
  simp only [zz]
  intro p hp
  have pw : w ≠ p := ne_of hp e3
  have pa : a ≠ p := ne_of hp e2
  refine hN _ _ (seqS fun N hN => ?_)
  simp only [zz, atI_one]
  refine ⟨_, rfl, ?_⟩
  refine hN _ _ (seqS fun N hN => ?_)
  simp only [zz]
  refine hN _ _ (seqS fun N hN => ?_)
  simp only [w_whl]
  refine whlK_of (fun m σ h' => ∃ (L : List Int) (A t r : Nat) (d : List Int × Nat), m = steps - t ∧ t ≤ steps ∧ σ = [some (.ref a), some (.tup [.tup (bits.map .int), .int u]), some (.int steps), some (.ref p), some (.int A), some (.int t), none] ∧ A < ws.length ∧
      h' p = some (.lst (L.map .int)) ∧ h' a = some (.ins "Ring" [("size", .int ws.length), ("_words", .ref w)]) ∧ h' w = some (.lst (ws.map wD)) ∧ Ext h h' ∧ L.length ≤ bits.length + t * W ∧ t ≤ L.length ∧
      rsRun ws (steps - t) (L.drop t, if L.drop t = [] then 0 else A) = (d, r) ∧ rsRun ws steps (bits, u) = (d, t + r)) ?_ (steps - 0) _ _
      ⟨bits, u, 0, _, _, rfl, Nat.zero_le _, rfl, hu, dput_same, by rw [dput_ne pa]; exact e2, by rw [dput_ne pw]; exact e3, Ext.new hp, by omega, Nat.zero_le _, rfl, ?_⟩
  case refine_2 =>
    rw [Nat.sub_zero, Nat.zero_add, List.drop_zero]
    by_cases z : bits = []
    · rw [if_pos z, hz z]
    · rw [if_neg z]
  rintro m σ h' M ⟨L, A, t, r, d, rfl, hts, rfl, hA, hP, hO, hWd, ex, hl, htl, hc, hd⟩ hM
  have fin : ∀ h2 : DH, h2 = h' → (r = 0 ∧ d = (L.drop t, if L.drop t = [] then 0 else A)) → N [some (.ref a), some (.tup [.tup (bits.map .int), .int u]), some (.int steps), some (.ref p), some (.int A), some (.int t), none] h2 := by
    rintro h2 rfl ⟨rfl, rfl⟩
    refine hN _ _ (seqS fun N hN => ?_)
    simp only [zz, lsK_of hP, cut_drop]
    intro p2 hp2
    simp only [zz]
    refine hN _ _ (seqS fun N hN => ?_)
    have q2 := q _ (ex.trans (Ext.new hp2 (o := .lst (List.drop t (L.map D.int)))))
    rw [hd, ← List.map_drop] at q2
    simp only [zz, List.isEmpty_iff, ← List.map_drop]
    by_cases z : L.drop t = []
    · rw [if_pos z, z] at q2
      rw [z]
      simp only [List.map_nil, List.isEmpty_nil, zq, zz]
      rw [List.map_nil] at q2
      exact q2
    · rw [if_neg z] at q2
      obtain ⟨y, ys, hy⟩ := List.exists_cons_of_ne_nil z
      rw [hy] at q2 ⊢
      simp only [List.map_cons, List.isEmpty_cons, zq, zz]
      exact q2
  have hw0 : ∀ {x}, ws[A]?.join = some x → x.length ≤ W := fun {x} hx => by
    rw [List.getElem?_eq_getElem hA] at hx
    exact hW _ (List.getElem_mem hA) x hx
  simp only [zz, lsK_of hP, List.length_map]
  by_cases h1 : t < steps
  case neg =>
    have h1' : ¬ (t : Int) < steps := by omega
    rw [if_neg h1']
    have : steps - t = 0 := by omega
    rw [this, rsRun] at hc
    cases hc
    exact fin _ rfl ⟨rfl, rfl⟩
  have h1' : (t : Int) < steps := by omega
  rw [if_pos h1']
  by_cases h2 : t < L.length
  case neg =>
    rw [if_neg (by omega)]
    have z : L.drop t = [] := List.drop_eq_nil_of_le (by omega)
    obtain ⟨s', hs⟩ : ∃ s', steps - t = s' + 1 := ⟨steps - t - 1, by omega⟩
    rw [hs, rsRun, z, rsStep] at hc
    cases hc
    exact fin _ rfl ⟨rfl, by rw [z]⟩
  rw [if_pos (by omega)]
  obtain ⟨s', hs⟩ : ∃ s', steps - t = s' + 1 := ⟨steps - t - 1, by omega⟩
  have dc : L.drop t = L[t] :: L.drop (t + 1) := List.drop_eq_getElem_cons h2
  have nz : ¬ (L.drop t = []) := by rw [dc]; exact List.cons_ne_nil _ _
  rw [if_neg nz] at hc
  have aS : ∀ Q : DK, oAtt "size" [.ref a] h' Q = Q (.int ws.length) h' := fun Q => att_of hO rfl
  have aW : ∀ Q : DK, oAtt "_words" [.ref a] h' Q = Q (.ref w) h' := fun Q => att_of hO rfl
  have tw : (t + 1) * W = t * W + W := Nat.succ_mul t W
  have tw2 : (t + 1) * W ≤ steps * W := Nat.mul_le_mul_right W (by omega)
  -- the next turn
  have next : ∀ (h2 : DH) (L2 : List Int), h2 p = some (.lst (L2.map .int)) → h2 a = some (.ins "Ring" [("size", .int ws.length), ("_words", .ref w)]) → h2 w = some (.lst (ws.map wD)) → Ext h h2 → L2.length ≤ bits.length + (t + 1) * W → t + 1 ≤ L2.length →
      rsStep ws (L.drop t, A) = some (rsFin ws.length A (L2.drop (t + 1))) →
      M [some (.ref a), some (.tup [.tup (bits.map .int), .int u]), some (.int steps), some (.ref p), some (.int (((A + 1) % ws.length : Nat) : Int)), some (.int ((t : Int) + 1)), none] h2 := by
    intro h2 L2 hP2 hO2 hW2 ex2 hl2 htl2 hst
    rw [hs, rsRun, hst] at hc
    cases hc
    refine hM (steps - (t + 1)) _ _ (by omega) ⟨L2, (A + 1) % ws.length, t + 1, (rsRun ws s' (rsFin ws.length A (L2.drop (t + 1)))).2, (rsRun ws s' (rsFin ws.length A (L2.drop (t + 1)))).1, rfl, by omega, rfl, Nat.mod_lt _ (by omega), hP2, hO2, hW2, ex2, hl2, htl2, ?_, ?_⟩
    · rw [show steps - (t + 1) = s' by omega]; rfl
    · rw [hd]
      exact congrArg (Prod.mk _) (by omega)
  have wpos : (0 : Int) < ws.length := by omega
  have aeq : ((A : Int) + 1) % (ws.length : Int) = (((A + 1) % ws.length : Nat) : Int) := by rw [Int.natCast_emod]; rfl
  simp only [atI_nat, List.getElem?_map, List.getElem?_eq_getElem h2, Option.map_some]
  refine ⟨_, rfl, ?_⟩
  simp only [zz, aS, aW, lsK_of hWd, word_at hA, zag]
  by_cases hb1 : L[t] = 1
  · rw [if_pos hb1]
    refine ⟨_, rfl, ?_⟩
    rw [isNon_wD]
    cases hw : ws[A]?.join with
    | none =>
      simp only [Option.isNone_none, zz]
      rw [hs, rsRun, dc, rsStep, if_pos hb1, hw] at hc
      cases hc
      refine fin _ rfl ⟨rfl, ?_⟩
      rw [dc, if_neg (List.cons_ne_nil _ _)]
    | some x =>
      simp only [Option.isNone_some, zz, lsK_of hP]
      refine ⟨trivial, _, rfl, ?_⟩
      have hx := hw0 hw
      simp only [wD, zz, zt, lsK_of hP, List.length_map]
      refine ⟨Nat.le_trans (show L.length + x.length ≤ 1000000 by omega) (by decide), ?_⟩
      have hO2 : dput h' p (.lst (L.map D.int ++ x.map D.int)) a = some (.ins "Ring" [("size", .int ws.length), ("_words", .ref w)]) := by rw [dput_ne pa]; exact hO
      rw [att_of hO2 rfl]
      simp only [zz, zag]
      refine ⟨wpos, ?_⟩
      rw [aeq]
      refine next _ (L ++ x) (by rw [dput_same, List.map_append]) hO2 (by rw [dput_ne pw]; exact hWd) (ex.put hp) (by rw [List.length_append]; omega) (by rw [List.length_append]; omega) ?_
      rw [dc, rsStep, if_pos hb1, hw, List.drop_append_of_le_length (by omega)]
  · rw [if_neg hb1]
    refine ⟨wpos, ?_⟩
    rw [aeq]
    refine next _ L hP hO hWd ex (by omega) (by omega) ?_
    rw [dc, rsStep, if_neg hb1]
theorem sp_ring_step {T : Tb} {k : Nat} (e : T.fn "Ring" "step" = some ⟨2, 2, ir_Ring_step_78e109⟩) (e1 : T.fn "Ring" "stopped" = some ⟨2, 4, ir_Ring_stopped_e9260c⟩) (e2 : T.fn "Ring" "run" = some ⟨3, 7, ir_Ring_run_c91f62⟩) (m1 : T.has "Ring" "stopped" = true) (m2 : T.has "Ring" "run" = true)
    {a : Addr} {ws : List (Option (List Int))} {bits : List Int} {u : Nat} (hu : u < ws.length) (hz : bits = [] → u = 0) {W : Nat} (hW : ∀ w ∈ ws, ∀ l, w = some l → l.length ≤ W)
    (hb : bits.length + W ≤ 1000000) {h : DH} {R : DK} {S : DX} (hr : RingAt h a ws) (q : ∀ h', Ext h h' → R (match rsStep ws (bits, u) with | none => .non | some c => cfgD c) h') :
    (lev T (k + 2)).fn "Ring" "step" [.ref a, cD bits u] h R S := by
  rw [lev_fn e]
  refine ⟨rfl, ?_⟩
  show wSs _ ir_Ring_step_78e109 _ [_, _] _
  have hi := hr
  obtain ⟨w, eo, _⟩ := hi
  unfold ir_Ring_step_78e109
  refine seqS fun N hN => ?_
  simp only [zz, zy, eo]
  refine ⟨m1, sp_ring_stopped e1 hu hr ?_⟩
  simp only [zz]
  cases hs : rsStep ws (bits, u) with
  | none =>
    simp only [Option.isNone_none, zz]
    rw [hs] at q
    exact q h Ext.refl
  | some c =>
    simp only [Option.isNone_some, zz]
    refine hN _ _ (seqS fun N hN => ?_)
    simp only [zz, zy, eo]
    refine ⟨m2, sp_ring_run e2 hu hz (steps := 1) hW (by omega) hr fun h' ex => ?_⟩
    simp only [zz, atI_zero]
    refine ⟨_, rfl, ?_⟩
    rw [hs] at q
    have z : rsRun ws 1 (bits, u) = (c, 1) := by rw [rsRun, hs]; rfl
    rw [z]
    exact q h' ex
def dEmpty : D → Bool
  | .tup [] => true
  | _ => false
def dZero : D → Bool
  | .int i => decide (i = 0)
  | _ => false
/-- what is_configuration tells -/
def isCfgD (n : Int) : D → Bool
  | .tup [b, u] => isRowD 2 b && isIntD 0 (n - 1) u && (!dEmpty b || dZero u)
  | _ => false
theorem isCfg_pair {n : Int} {b u : D} : isCfgD n (.tup [b, u]) = (isRowD 2 b && isIntD 0 (n - 1) u && (!dEmpty b || dZero u)) := rfl
theorem sp_ring_iscfg {T : Tb} {k : Nat} (e : T.fn "Ring" "is_configuration" = some ⟨2, 2, ir_Ring_is_configuration_622698⟩) (er : T.fn "" "is_row" = some ⟨2, 3, ir_is_row_a5df9b⟩) (e1 : T.fn "" "is_integer" = some ⟨3, 3, ir_is_integer_344730⟩)
    {a : Addr} {ws : List (Option (List Int))} {v : D} {h : DH} {R : DK} {S : DX} (hr : RingAt h a ws) (kn : Kn h v) (kn2 : ∀ xs, v = .tup xs → ∀ x ∈ xs, KnR h x ∧ ∀ ys, x = .tup ys → ys.length ≤ 1000000) (q : ∀ h', Ext h h' → R (.bl (isCfgD ws.length v)) h') :
    (lev T (k + 3)).fn "Ring" "is_configuration" [.ref a, v] h R S := by
  obtain ⟨w, e2, e3⟩ := hr
  rw [lev_fn e]
  refine ⟨rfl, ?_⟩
  show wSs _ ir_Ring_is_configuration_622698 _ [_, _] _
  unfold ir_Ring_is_configuration_622698
  refine seqS fun N hN => ?_
  simp only [zz, isi_kn kn]
  have no : (∀ b u, v ≠ .tup [b, u]) → ∀ h', Ext h h' → R (.bl false) h' := fun hv h' ex => by
    have z : isCfgD ws.length v = false := by
      unfold isCfgD
      split
      · exact absurd rfl (hv _ _)
      · rfl
    have q2 := q h' ex
    rwa [z] at q2
  cases v with
  | tup xs =>
    simp only [isTy, zk, zq, zz]
    by_cases hl : (xs.length : Int) = 2
    case neg =>
      simp only [hl, decide_false, zq, zz]
      exact no (fun b u z => hl (by cases z; rfl)) h Ext.refl
    match xs, hl, kn2 with
    | [b, u], hl, kn2 =>
      obtain ⟨kb, sb⟩ := kn2 _ rfl b (by simp)
      obtain ⟨ku, su⟩ := kn2 _ rfl u (by simp)
      simp only [hl, decide_true, zq, zz, atI_zero]
      refine ⟨_, rfl, sp_is_row er e1 kb sb fun h1 ex1 => ?_⟩
      cases hb : isRowD 2 b with
      | false =>
        simp only [zq, zz]
        have q2 := q h1 ex1
        rw [show isCfgD ws.length (.tup [b, u]) = false by rw [isCfg_pair, hb]; rfl] at q2
        exact q2
      | true =>
        simp only [zq, zz]
        refine hN _ _ (seqS fun N hN => ?_)
        simp only [zz, atI_one]
        refine ⟨_, rfl, ?_⟩
        rw [att_of (ex1 _ _ e2) rfl]
        simp only [zz]
        refine sp_is_integer e1 (ku.1.ext ex1) ?_
        cases hu : isIntD 0 (ws.length - 1) u with
        | false =>
          simp only [zq, zz]
          have q2 := q h1 ex1
          rw [show isCfgD ws.length (.tup [b, u]) = false by rw [isCfg_pair, hb, hu]; rfl] at q2
          exact q2
        | true =>
          simp only [zq, zz]
          refine hN _ _ (seqS fun N hN => ?_)
          simp only [zz, atI_zero, atI_one]
          refine ⟨_, rfl, ?_⟩
          have q2 := q h1 ex1
          rw [isCfg_pair, hb, hu] at q2
          cases b with
          | tup ys =>
            cases u with
            | int j =>
              simp only [zz]
              cases ys with
              | nil =>
                simp only [List.length_nil, zz]
                refine ⟨_, rfl, ?_⟩
                simp only [zz]
                exact q2
              | cons y ys =>
                have : (0 : Int) < ((y :: ys).length : Int) := by rw [List.length_cons]; omega
                simp only [this, decide_true, zz]
                exact q2
            | _ => cases hu
          | _ => cases hb
    | [], hl, _ => cases hl
    | [_], hl, _ => cases hl
    | _ :: _ :: _ :: _, hl, _ => exact absurd hl (by simp only [List.length_cons]; omega)
  | _ =>
    simp only [isTy, zk, zq, zz]
    exact no (fun b u z => by cases z) h Ext.refl
theorem sp_law_ring_step {T : Tb} {k : Nat} (e : T.fn "" "_law_ring_step" = some ⟨2, 5, ir__law_ring_step_e9a86a⟩) {a : Addr} {ws : List (Option (List Int))} {bits : List Int} {u : Nat} (hu : u < ws.length) (hb : bits.length ≤ 1000000) (hW : ∀ w ∈ ws, ∀ l, w = some l → l.length ≤ 1000000) {h : DH} {R : DK} {S : DX}
    (ha : h a = some (.lst (ws.map wD))) (q : R (match rsStep ws (bits, u) with | none => .non | some c => cfgD c) h) : (lev T (k + 1)).fn "" "_law_ring_step" [.ref a, cD bits u] h R S := by
  rw [lev_fn e]
  refine ⟨rfl, ?_⟩
  show wSs _ ir__law_ring_step_e9a86a _ [_, _, none, none, none] _
  unfold ir__law_ring_step_e9a86a
  refine seqS fun N hN => ?_
  simp only [zz, zy, cD, true_and, List.length_cons, List.length_nil, List.length_map]
  refine hN _ _ (seqS fun N hN => ?_)
  simp only [zz, lsK_of ha, word_at hu]
  cases bits with
  | nil =>
    simp only [List.map_nil, List.length_nil, Int.natCast_zero, decide_true, zz]
    exact q
  | cons b bs =>
    have n0 : ¬ (((bs.length + 1 : Nat) : Int) = 0) := by omega
    simp only [List.map_cons, List.length_cons, List.length_map, n0, decide_false, zz, atI_zero]
    rw [rsStep] at q
    rw [List.length_cons] at hb
    have wpos : (0 : Int) < ws.length := by omega
    have last : ∀ l : List Int, l.length ≤ 3000000 → R (cfgD (rsFin ws.length u l)) h → ∀ N' : DS → DH → Prop, True → wSs (lev T k) (.cons (.ite (.val (.op .eq (.cons (.op .len (.cons (.var 2) .nil)) (.cons (.con (D.int 1)) .nil)))) (.cons (.ret (.op .tup (.cons (.op .tup .nil) (.cons (.con (D.int 0)) .nil)))) .nil) .nil)
        (.cons (.ret (.op .tup (.cons (.op (.slc true false) (.cons (.var 2) (.cons (.con (D.int 1)) .nil))) (.cons (.op .mod (.cons (.op .int (.cons (.op .add (.cons (.var 4) (.cons (.con (D.int 1)) .nil))) .nil)) (.cons (.op .len (.cons (.var 0) .nil)) .nil))) .nil)))) .nil))
        { nx := fun _ h' => R .non h', rt := R, bk := fun _ _ => False, ct := fun _ _ => False, ex := fun _ => S } [some (.ref a), some (.tup [.tup (D.int b :: bs.map D.int), .int u]), some (.tup (.int b :: l.map .int)), some (.tup (D.int b :: bs.map D.int)), some (.int u)] h := by
      intro l hl qq N' _
      refine seqS fun N hN => ?_
      simp only [zz, List.length_cons, List.length_map]
      have ct := cut_drop (xs := D.int b :: l.map .int) (n := 1)
      rw [show ((1 : Nat) : Int) = 1 from rfl, List.drop_succ_cons, List.drop_zero] at ct
      have aeq : ((u : Int) + 1) % (ws.length : Int) = (((u + 1) % ws.length : Nat) : Int) := by rw [Int.natCast_emod]; rfl
      by_cases z : l = []
      · subst z
        simp only [List.length_nil, Nat.zero_add, Int.natCast_one, decide_true, zz]
        exact qq
      · have : ¬ (((l.length + 1 : Nat) : Int) = 1) := by
          have : l.length ≠ 0 := fun y => z (List.length_eq_zero_iff.1 y)
          omega
        simp only [this, decide_false, zz]
        refine hN _ _ (seqS fun N hN => ?_)
        simp only [zz, ct, lsK_of ha, List.length_map]
        refine ⟨wpos, ?_⟩
        rw [aeq]
        unfold cfgD rsFin cD at qq
        rw [if_neg z] at qq
        exact qq
    refine ⟨_, rfl, ?_⟩
    simp only [zz]
    by_cases hb1 : b = 1
    · rw [if_pos hb1] at q
      simp only [hb1, decide_true, zz, lsK_of ha, word_at hu]
      refine ⟨_, rfl, ?_⟩
      simp only [zz, isNon_wD]
      cases hw : ws[u]?.join with
      | none =>
        simp only [Option.isNone_none, zz]
        rw [hw] at q
        exact q
      | some x =>
        rw [hw] at q
        have hx : x.length ≤ 1000000 := by
          rw [List.getElem?_eq_getElem hu] at hw
          exact hW _ (List.getElem_mem hu) x hw
        simp only [Option.isNone_some, zz]
        refine hN _ _ (seqS fun N hN => ?_)
        simp only [zz]
        refine hN _ _ (seqS fun N hN => ?_)
        simp only [zz, atI_zero]
        refine ⟨_, rfl, ?_⟩
        simp only [zz, decide_true, lsK_of ha, word_at hu, hw]
        refine ⟨_, rfl, ?_⟩
        simp only [wD, zz, List.length_cons, List.length_map]
        refine ⟨Nat.le_trans (show bs.length + 1 + x.length ≤ 2000000 by omega) (by decide), hN _ _ ?_⟩
        have z := last (bs ++ x) (by rw [List.length_append]; omega) q N trivial
        rw [List.map_append, hb1] at z
        exact z
    · rw [if_neg hb1] at q
      simp only [hb1, decide_false, zz]
      refine hN _ _ (seqS fun N hN => ?_)
      simp only [zz]
      refine hN _ _ (seqS fun N hN => ?_)
      simp only [zz, atI_zero]
      refine ⟨_, rfl, ?_⟩
      simp only [zz, hb1, decide_false]
      exact hN _ _ (last bs (by omega) q N trivial)
/-- words of bits, none longer than five -/
def Words (ws : List (Option (List Int))) : Prop := ∀ w ∈ ws, ∀ l, w = some l → l.length ≤ 5 ∧ ∀ b ∈ l, b = 0 ∨ b = 1
theorem sp_law_ring {T : Tb} {k : Nat} (e : T.fn "" "_law_ring" = some ⟨2, 7, ir__law_ring_ba06da⟩) {d : Addr} {ds : List Int} {m : Nat} (hm : 1 ≤ m ∧ m ≤ 1000) {h : DH} (hd : h d = some (.lst (ds.map .int))) (hl : m + 1 ≤ ds.length) (dr : Drawn ds) {R : DK} {S : DX}
    (q : ∀ p h' ws, h p = none → Ext h h' → h' p = some (.lst (ws.map wD)) → 1 ≤ ws.length → ws.length ≤ m → Words ws → R (.ref p) h') : (lev T (k + 1)).fn "" "_law_ring" [.ref d, .int m] h R S := by
  rw [lev_fn e]
  refine ⟨rfl, ?_⟩
  show wSs _ ir__law_ring_ba06da _ [_, _, none, none, none, none, none] _
  unfold ir__law_ring_ba06da
  have g : ∀ i : Nat, i < m + 1 → ∃ x : Int, ds[i]? = some x ∧ 0 ≤ x ∧ x < 65537 := fun i hi => ⟨ds[i]'(by omega), List.getElem?_eq_getElem _, dr _ (List.getElem_mem _)⟩
  refine seqS fun N hN => ?_
  simp only [zz]
  intro p hp
  have dp : d ≠ p := ne_of hp hd
  refine hN _ _ (seqS fun N hN => ?_)
  obtain ⟨x0, g0, l0, u0⟩ := g 0 (by omega)
  have a0 := atI_nat (xs := ds.map D.int) (i := 0)
  rw [show ((0 : Nat) : Int) = 0 from rfl, List.getElem?_map, g0] at a0
  have hd1 : ∀ o, dput h p o d = some (.lst (ds.map .int)) := fun o => by rw [dput_ne dp]; exact hd
  simp only [zz, lsK_of (hd1 _), a0]
  refine ⟨_, rfl, ?_⟩
  have mpos : (0 : Int) < m := by omega
  have md0 := Int.emod_nonneg x0 (show (m : Int) ≠ 0 by omega)
  have md1 := Int.emod_lt_of_pos x0 mpos
  simp only [zz]
  refine ⟨mpos, ⟨by omega, by omega⟩, ?_⟩
  generalize hn : (1 + x0 % (m : Int)).toNat = n
  refine forK_rng (fun i σ h' => ∃ (ws : List (Option (List Int))) (x3 x4 x5 : Option D), σ = [some (.ref d), some (.int m), some (.ref p), x3, x4, x5, none] ∧ h' p = some (.lst (ws.map wD)) ∧ h' d = some (.lst (ds.map .int)) ∧ Ext h h' ∧ Words ws ∧ ws.length = i) ?_ ?_
    ⟨[], none, none, none, rfl, dput_same, hd1 _, Ext.new hp, fun w hw => (by cases hw), rfl⟩
  · rintro i σ h' N' hi ⟨ws, x3, x4, x5, rfl, hP, hD, ex, hw, hlen⟩ hN'
    obtain ⟨y, gy, ly, uy⟩ := g (1 + i) (by omega)
    have ay := atI_nat (xs := ds.map D.int) (i := 1 + i)
    rw [List.getElem?_map, gy, show ((1 + i : Nat) : Int) = 1 + (0 + (i : Int)) by omega] at ay
    simp only [zz, lsK_of hD, ay]
    refine ⟨_, rfl, ?_⟩
    simp only [zz]
    have m6 := Int.emod_nonneg y (show (6 : Int) ≠ 0 by decide)
    have m6' := Int.emod_lt_of_pos y (show (0 : Int) < 6 by decide)
    refine ⟨by decide, ⟨by omega, by omega⟩, ?_⟩
    refine lcK_rng (fun h2 => h2 = h') (fun j => .int ((y / (1 + (j : Int) * j) + j) % 2)) (fun j hj h2 k e hk => ?_) (by show _ ≤ 16777216; omega) rfl fun h2 e => ?_
    · subst e
      have hj' : j < 6 := by omega
      have mm : mulOk (0 + (j : Int)) (0 + (j : Int)) := .inl (.inl ⟨by omega, by omega⟩)
      have dd : divOk (1 + (0 + (j : Int)) * (0 + (j : Int))) := by
        have : (j : Int) * j ≤ 5 * 5 := Int.mul_le_mul (by omega) (by omega) (by omega) (by omega)
        have : 0 ≤ (j : Int) * j := Int.mul_nonneg (by omega) (by omega)
        rw [Int.zero_add]
        exact ⟨by omega, .inl (by omega)⟩
      simp only [zz, mm, dd, true_and]
      rw [Int.zero_add]
      exact ⟨by decide, hk _ rfl⟩
    · subst e
      rw [show (fun j : Nat => D.int ((y / (1 + (j : Int) * j) + j) % 2)) = D.int ∘ (fun j : Nat => (y / (1 + (j : Int) * j) + j) % 2) from rfl, ← List.map_map]
      generalize hbits : (List.range (y % 6).toNat).map (fun j : Nat => (y / (1 + (j : Int) * j) + j) % 2) = bits
      have bl : bits.length ≤ 5 := by rw [← hbits, List.length_map, List.length_range]; omega
      have bb : ∀ b ∈ bits, b = 0 ∨ b = 1 := fun b hb => by
        rw [← hbits] at hb
        obtain ⟨j, _, rfl⟩ := List.mem_map.1 hb
        omega
      intro a ha
      have pa : p ≠ a := ne_of ha hP
      have da : d ≠ a := ne_of ha hD
      have hP2 : ∀ o, dput h2 a o p = some (.lst (ws.map wD)) := fun o => by rw [dput_ne pa]; exact hP
      simp (discharger := decide) only [zz, lsK_of (hP2 _), divOk_lit, true_and]
      intro b hb
      have pb : p ≠ b := ne_of hb (hP2 _)
      have db : d ≠ b := ne_of hb (show dput h2 a _ d = some _ by rw [dput_ne da]; exact hD)
      simp (discharger := decide) only [zz, divOk_lit, true_and]
      have hP3 : ∀ o o2, dput (dput h2 a o) b o2 p = some (.lst (ws.map wD)) := fun o o2 => by rw [dput_ne pb]; exact hP2 _
      have fin : ∀ (w : Option (List Int)) (h3 : DH), (w = none ∨ w = some bits) → h3 p = some (.lst (ws.map wD)) → h3 d = some (.lst (ds.map .int)) → Ext h h3 → ∀ x3 x4 x5, lsK h3 p fun xs => xs.length < sizeLine ∧ N' [some (.ref d), some (.int m), some (.ref p), x3, x4, x5, none] (dput h3 p (.lst (xs ++ [wD w]))) := by
        intro w h3 hw' hp3 hd3 ex3 x3 x4 x5
        rw [lsK_of hp3]
        refine ⟨by rw [List.length_map]; exact Nat.lt_of_le_of_lt (show ws.length ≤ 1000 by omega) (by decide), ?_⟩
        refine hN' _ _ ⟨ws ++ [w], _, _, _, rfl, by rw [dput_same, List.map_append]; rfl, by rw [dput_ne dp]; exact hd3, ex3.put hp, fun v hv l el => ?_, by rw [List.length_append, hlen]; rfl⟩
        rcases List.mem_append.1 hv with z | z
        · exact hw v z l el
        · rw [List.mem_singleton.1 z] at el
          rcases hw' with z2 | z2
          · rw [z2] at el; cases el
          · rw [z2] at el; cases el; exact ⟨bl, bb⟩
      refine ⟨by decide, ?_⟩
      have hd3 : dput (dput h2 a (DO.lst (bits.map D.int))) b (DO.lst [D.tup (bits.map D.int), D.non]) d = some (.lst (ds.map .int)) := by rw [dput_ne db, dput_ne da]; exact hD
      have ex3 : Ext h (dput (dput h2 a (DO.lst (bits.map D.int))) b (DO.lst [D.tup (bits.map D.int), D.non])) := (ex.trans (Ext.new ha)).trans (Ext.new hb)
      by_cases c7 : y / 7 % 7 = 0
      · rw [if_pos c7]
        exact ⟨_, atI_one, fin none _ (.inl rfl) (hP3 _ _) hd3 ex3 _ _ _⟩
      · rw [if_neg c7]
        exact ⟨_, atI_zero, fin (some bits) _ (.inr rfl) (hP3 _ _) hd3 ex3 _ _ _⟩
  · rintro σ h' ⟨ws, x3, x4, x5, rfl, hP, hD, ex, hw, hlen⟩
    refine hN _ _ (seqS fun N hN => ?_)
    simp only [zz]
    exact q p h' ws hp ex hP (by omega) (by omega) hw
theorem rsRun_snoc (ws : List (Option (List Int))) : ∀ (k : Nat) (c : List Int × Nat), rsRun ws (k + 1) c = match rsStep ws (rsRun ws k c).1 with
    | none => rsRun ws k c
    | some d => (d, (rsRun ws k c).2 + 1)
  | 0, c => by
    rw [rsRun]
    cases h : rsStep ws c with
    | none => simp only [rsRun, h]
    | some d => simp only [rsRun, h]
  | k + 1, c => by
    rw [rsRun]
    cases h : rsStep ws c with
    | none => simp only [rsRun, h]
    | some d =>
      have ih := rsRun_snoc ws k d
      have e : rsRun ws (k + 1) c = ((rsRun ws k d).1, (rsRun ws k d).2 + 1) := by rw [rsRun, h]
      simp only [e, ih]
      cases rsStep ws (rsRun ws k d).1 <;> rfl
/-- a configuration as it should be -/
def Good (ws : List (Option (List Int))) (c : List Int × Nat) (B : Nat) : Prop := (∀ b ∈ c.1, b = 0 ∨ b = 1) ∧ c.2 < ws.length ∧ (c.1 = [] → c.2 = 0) ∧ c.1.length ≤ B
theorem Good.step {ws : List (Option (List Int))} {c d : List Int × Nat} {B : Nat} (hw : Words ws) (g : Good ws c B) (h : rsStep ws c = some d) : Good ws d (B + 5) := by
  obtain ⟨bits, u⟩ := c
  obtain ⟨g1, g2, g3, g4⟩ := g
  cases bits with
  | nil => cases h
  | cons b bs =>
    have pos : 0 < ws.length := Nat.lt_of_le_of_lt (Nat.zero_le _) g2
    have fin : ∀ l : List Int, (∀ b ∈ l, b = 0 ∨ b = 1) → l.length ≤ B + 5 → Good ws (rsFin ws.length u l) (B + 5) := fun l h1 h2 => by
      refine ⟨h1, ?_, fun z => ?_, h2⟩
      · show (if l = [] then 0 else (u + 1) % ws.length) < ws.length
        split
        · exact pos
        · exact Nat.mod_lt _ pos
      · exact if_pos z
    have gb : ∀ x ∈ bs, x = 0 ∨ x = 1 := fun x hx => g1 x (List.mem_cons_of_mem _ hx)
    have gl : bs.length + 1 ≤ B := g4
    rw [rsStep] at h
    split at h
    · cases hw2 : ws[u]?.join with
      | none => rw [hw2] at h; cases h
      | some x =>
        rw [hw2] at h
        cases h
        have hx : some x ∈ ws := by
          have q : u < ws.length := g2
          rw [List.getElem?_eq_getElem q] at hw2
          have z : ws[u] = some x := hw2
          rw [← z]; exact List.getElem_mem q
        have q := hw _ hx x rfl
        refine fin _ (fun y hy => ?_) (by rw [List.length_append]; omega)
        rcases List.mem_append.1 hy with z | z
        · exact gb y z
        · exact q.2 y z
    · cases h
      exact fin _ gb (by omega)
theorem Good.cfg {ws : List (Option (List Int))} {c : List Int × Nat} {B : Nat} (g : Good ws c B) : isCfgD ws.length (cfgD c) = true := by
  obtain ⟨g1, g2, g3, g4⟩ := g
  show (isRowD 2 (.tup (c.1.map .int)) && isIntD 0 ((ws.length : Int) - 1) (.int c.2) && (!dEmpty (.tup (c.1.map .int)) || dZero (.int c.2))) = true
  rw [isRow_ints fun x hx => by rcases g1 x hx with z | z <;> omega]
  have e1 : isIntD 0 ((ws.length : Int) - 1) (.int c.2) = true := by
    unfold isIntD
    simp only [Bool.and_eq_true, decide_eq_true_eq]
    omega
  rw [e1]
  cases h : c.1 with
  | nil => rw [g3 h]; rfl
  | cons x y => rfl
theorem nS_cfg (c : List Int × Nat) : nS (cfgD c) = true := by
  unfold cfgD cD
  simp [nS, nSL, nSL_ints]
theorem dp_cfg (c : List Int × Nat) : dpD (cfgD c) = 2 := by
  unfold cfgD cD
  simp [dpD, dpL, dpL_ints]
theorem okWs_of {ws : List (Option (List Int))} (hw : Words ws) (h1 : 1 ≤ ws.length) (h2 : ws.length ≤ 40000) : okWs (ws.map wD) := by
  refine ⟨by rw [List.length_map]; exact h1, by rw [List.length_map]; exact h2, ?_⟩
  rw [List.all_map, List.all_eq_true]
  intro w h
  show okW (wD w) = true
  unfold okW
  cases w with
  | none => rfl
  | some l =>
    show (false || isRowD 2 (.tup (l.map .int))) = true
    rw [isRow_ints fun x hx => by rcases (hw _ h l rfl).2 x hx with z | z <;> omega]
    rfl
theorem knR_word {h : DH} (w : Option (List Int)) : KnR h (wD w) := by
  cases w with
  | none => exact ⟨trivial, fun xs e => by cases e⟩
  | some l => exact KnR.ints
theorem word_size {ws : List (Option (List Int))} (hw : Words ws) : ∀ w ∈ ws.map wD, ∀ xs, w = .tup xs → xs.length ≤ 1000000 := fun w h xs e => by
  obtain ⟨v, hv, rfl⟩ := List.mem_map.1 h
  cases v with
  | none => cases e
  | some l =>
    cases e
    rw [List.length_map]
    exact Nat.le_trans (hw _ hv l rfl).1 (by decide)
end Z
set_option Elab.async false
set_option linter.all false
set_option maxRecDepth 100000
set_option maxHeartbeats 4000000
set_option pp.maxSteps 60
/-! L4: tag machines -/
namespace Z
open PySem (Str Addr sizeLine PyData)
/-- _law_tag_step -/
def ir__law_tag_step_d871ba : Sms := (.cons (.ite (.or (.val (.op .eq (.cons (.op .len (.cons (.var 1) .nil)) (.cons (.con (D.int 0)) .nil)))) (.val (.op .isN (.cons (.op .idx (.cons (.var 0) (.cons (.op .idx (.cons (.var 1) (.cons (.con (D.int 0)) .nil))) .nil))) .nil))))
  (.cons (.ret (.con D.non))
  .nil)
  .nil)
  (.cons (.asg (.name 2) (.op .add (.cons (.var 1) (.cons (.op .idx (.cons (.var 0) (.cons (.op .idx (.cons (.var 1) (.cons (.con (D.int 0)) .nil))) .nil))) .nil))))
  (.cons (.ret (.op (.slc true false) (.cons (.var 2) (.cons (.con (D.int 2)) .nil))))
  .nil)))
/-- _law_row -/
def ir__law_row_07d1b8 : Sms := (.cons (.ret (.op .tuple (.cons (.lc [3] (.rng1 (.var 2)) .tt (.op .mod (.cons (.op .int (.cons (.op .idx (.cons (.var 0) (.cons (.var 3) .nil))) .nil)) (.cons (.var 1) .nil)))) .nil)))
  .nil)
/-- Tag.__init__ -/
def ir_Tag___init___10b589 : Sms := (.cons (.ite (.not (.val (.call "is_integer" (.cons (.var 1) (.cons (.con (D.int 1)) (.cons (.con (D.int 20000)) .nil))))))
  (.cons (.rai "BadMachine")
  .nil)
  .nil)
  (.cons (.ite (.val (.op .ne (.cons (.op .len (.cons (.var 2) .nil)) (.cons (.var 1) .nil))))
  (.cons (.rai "BadMachine")
  .nil)
  .nil)
  (.cons (.for_ (.name 3) (.val (.var 2))
  (.cons (.ite (.and (.val (.op .notN (.cons (.var 3) .nil))) (.or (.not (.val (.call "is_row" (.cons (.var 3) (.cons (.var 1) .nil))))) (.val (.op .gt (.cons (.op .len (.cons (.var 3) .nil)) (.cons (.con (D.int 6)) .nil))))))
  (.cons (.rai "BadMachine")
  .nil)
  .nil)
  .nil))
  (.cons (.fld (.var 0) "letters" (.var 1))
  (.cons (.fld (.var 0) "_words" (.op .list (.cons (.var 2) .nil)))
  .nil)))))
/-- _law_tag -/
def ir__law_tag_c5b269 : Sms := (.cons (.asg (.name 2) (.op .add (.cons (.con (D.int 1)) (.cons (.op .mod (.cons (.op .int (.cons (.op .idx (.cons (.var 0) (.cons (.con (D.int 0)) .nil))) .nil)) (.cons (.var 1) .nil))) .nil))))
  (.cons (.asg (.name 3) (.op .lst .nil))
  (.cons (.for_ (.name 4) (.rng1 (.var 2))
  (.cons (.asg (.name 5) (.op .idx (.cons (.var 0) (.cons (.op .add (.cons (.con (D.int 1)) (.cons (.var 4) .nil))) .nil))))
  (.cons (.asg (.name 6) (.op .tuple (.cons (.lc [7] (.rng1 (.op .mod (.cons (.op .int (.cons (.var 5) .nil)) (.cons (.con (D.int 5)) .nil)))) .tt (.op .mod (.cons (.op .int (.cons (.op .add (.cons (.op .fdiv (.cons (.var 5) (.cons (.op .add (.cons (.var 7) (.cons (.con (D.int 1)) .nil))) .nil))) (.cons (.op .mul (.cons (.con (D.int 3)) (.cons (.var 7) .nil))) .nil))) .nil)) (.cons (.var 2) .nil)))) .nil)))
  (.cons (.ex (.bm "append" (.var 3) (.cons (.op .idx (.cons (.op .lst (.cons (.var 6) (.cons (.con D.non) .nil))) (.cons (.op .int (.cons (.op .eq (.cons (.op .mod (.cons (.op .int (.cons (.op .fdiv (.cons (.var 5) (.cons (.con (D.int 5)) .nil))) .nil)) (.cons (.con (D.int 6)) .nil))) (.cons (.con (D.int 0)) .nil))) .nil)) .nil))) .nil)))
  .nil))))
  (.cons (.ret (.op .tup (.cons (.var 2) (.cons (.var 3) .nil))))
  .nil))))
/-- Tag.table -/
def ir_Tag_table_e87d90 : Sms := (.cons (.ret (.op .list (.cons (.op (.att "_words") (.cons (.var 0) .nil)) .nil)))
  .nil)
/-- Tag.is_configuration -/
def ir_Tag_is_configuration_e25c6d : Sms := (.cons (.ret (.call "is_row" (.cons (.var 1) (.cons (.op (.att "letters") (.cons (.var 0) .nil)) .nil))))
  .nil)
/-- Tag.run -/
def ir_Tag_run_fe4180 : Sms := (.cons (.asg (.name 3) (.op .list (.cons (.var 1) .nil)))
  (.cons (.asg (.name 4) (.con (D.int 0)))
  (.cons (.asg (.name 5) (.con (D.int 0)))
  (.cons (.whl (.and (.val (.op .lt (.cons (.var 5) (.cons (.var 2) .nil)))) (.and (.val (.op .lt (.cons (.var 4) (.cons (.op .len (.cons (.var 3) .nil)) .nil)))) (.val (.op .notN (.cons (.op .idx (.cons (.op (.att "_words") (.cons (.var 0) .nil)) (.cons (.op .idx (.cons (.var 3) (.cons (.var 4) .nil))) .nil))) .nil)))))
  (.cons (.ex (.bm "extend" (.var 3) (.cons (.op .idx (.cons (.op (.att "_words") (.cons (.var 0) .nil)) (.cons (.op .idx (.cons (.var 3) (.cons (.var 4) .nil))) .nil))) .nil)))
  (.cons (.aug 4 .add (.con (D.int 2)))
  (.cons (.aug 5 .add (.con (D.int 1)))
  .nil))))
  (.cons (.ret (.op .tup (.cons (.op .tuple (.cons (.op (.slc true false) (.cons (.var 3) (.cons (.var 4) .nil))) .nil)) (.cons (.var 5) .nil))))
  .nil)))))
/-- Tag.stopped -/
def ir_Tag_stopped_ddd5ea : Sms := (.cons (.ret (.orV (.op .eq (.cons (.op .len (.cons (.var 1) .nil)) (.cons (.con (D.int 0)) .nil))) (.op .isN (.cons (.op .idx (.cons (.op (.att "_words") (.cons (.var 0) .nil)) (.cons (.op .idx (.cons (.var 1) (.cons (.con (D.int 0)) .nil))) .nil))) .nil))))
  .nil)
/-- Tag.step -/
def ir_Tag_step_beb46c : Sms := (.cons (.ite (.val (.meth (.var 0) "stopped" (.cons (.var 1) .nil)))
  (.cons (.ret (.con D.non))
  .nil)
  .nil)
  (.cons (.ret (.op (.slc true false) (.cons (.op .add (.cons (.var 1) (.cons (.op .idx (.cons (.op (.att "_words") (.cons (.var 0) .nil)) (.cons (.op .idx (.cons (.var 1) (.cons (.con (D.int 0)) .nil))) .nil))) .nil))) (.cons (.con (D.int 2)) .nil))))
  .nil))
/-- Tag.word -/
def ir_Tag_word_584a3a : Sms := (.cons (.ite (.not (.val (.call "is_integer" (.cons (.var 1) (.cons (.con (D.int 0)) (.cons (.op .sub (.cons (.op (.att "letters") (.cons (.var 0) .nil)) (.cons (.con (D.int 1)) .nil))) .nil))))))
  (.cons (.rai "BadMachine")
  .nil)
  .nil)
  (.cons (.ret (.op .idx (.cons (.op (.att "_words") (.cons (.var 0) .nil)) (.cons (.var 1) .nil))))
  .nil))
/-! a step again and again -/
def itRun {α : Type} (f : α → Option α) : Nat → α → α × Nat
  | 0, c => (c, 0)
  | k + 1, c => match f c with
    | none => (c, 0)
    | some d => ((itRun f k d).1, (itRun f k d).2 + 1)
theorem itRun_snoc {α : Type} (f : α → Option α) : ∀ (k : Nat) (c : α), itRun f (k + 1) c = match f (itRun f k c).1 with
    | none => itRun f k c
    | some d => (d, (itRun f k c).2 + 1)
  | 0, c => by
    rw [itRun]
    cases h : f c with
    | none => simp only [itRun, h]
    | some d => simp only [itRun, h]
  | k + 1, c => by
    rw [itRun]
    cases h : f c with
    | none => simp only [itRun, h]
    | some d =>
      have ih := itRun_snoc f k d
      have e : itRun f (k + 1) c = ((itRun f k d).1, (itRun f k d).2 + 1) := by rw [itRun, h]
      simp only [e, ih]
      cases f (itRun f k d).1 <;> rfl
/-- an invariant of the steps -/
theorem itRun_inv {α : Type} {f : α → Option α} (P : Nat → α → Prop) (mono : ∀ k c, P k c → P (k + 1) c) (step : ∀ k c d, P k c → f c = some d → P (k + 1) d) {c : α} (h0 : P 0 c) : ∀ k, P k (itRun f k c).1
  | 0 => h0
  | k + 1 => by
    have ih := itRun_inv P mono step h0 k
    rw [itRun_snoc]
    cases h : f (itRun f k c).1 with
    | none => exact mono _ _ ih
    | some d => exact step _ _ _ ih h
/-! ### tag machines -/
def tgStep (ws : List (Option (List Int))) : List Int → Option (List Int)
  | [] => none
  | x :: r => match ws[x.toNat]?.join with
    | none => none
    | some w => some ((x :: r ++ w).drop 2)
/-- letters below n -/
def Row (n : Nat) (row : List Int) : Prop := ∀ x ∈ row, 0 ≤ x ∧ x < n
/-- rows of letters, none longer than m -/
def TWords (n m : Nat) (ws : List (Option (List Int))) : Prop := ∀ w ∈ ws, ∀ l, w = some l → l.length ≤ m ∧ Row n l
theorem word_atI {ws : List (Option (List Int))} {x : Int} (h0 : 0 ≤ x) (h1 : x < ws.length) : L2.atI (ws.map wD) x = some (wD ws[x.toNat]?.join) := by
  have e : x = ((x.toNat : Nat) : Int) := by omega
  have h2 : x.toNat < ws.length := by omega
  rw [e, atI_nat, List.getElem?_map, Int.toNat_natCast, List.getElem?_eq_getElem h2]
  rfl
theorem word_in {n m : Nat} {ws : List (Option (List Int))} (hw : TWords n m ws) {i : Nat} {l : List Int} (h : ws[i]?.join = some l) : l.length ≤ m ∧ Row n l := by
  cases e : ws[i]? with
  | none => rw [e] at h; cases h
  | some v =>
    rw [e] at h
    have hv : v = some l := h
    exact hw v (List.mem_of_getElem? e) l hv
theorem tgStep_row {n m : Nat} {ws : List (Option (List Int))} (hw : TWords n m ws) {row d : List Int} (hr : Row n row) (h : tgStep ws row = some d) : Row n d ∧ d.length ≤ row.length + m := by
  cases row with
  | nil => cases h
  | cons x r =>
    rw [tgStep] at h
    cases e : ws[x.toNat]?.join with
    | none => rw [e] at h; cases h
    | some w =>
      rw [e] at h
      cases h
      have q := word_in hw e
      refine ⟨fun y hy => ?_, by rw [List.length_drop, List.length_append]; omega⟩
      rcases List.mem_append.1 (List.mem_of_mem_drop hy) with z | z
      · exact hr y z
      · exact q.2 y z
def TagAt (h : DH) (a : Addr) (ws : List (Option (List Int))) : Prop := ∃ w, h a = some (.ins "Tag" [("letters", .int ws.length), ("_words", .ref w)]) ∧ h w = some (.lst (ws.map wD))
theorem TagAt.ext {h h' : DH} (e : Ext h h') {a : Addr} {ws : List (Option (List Int))} : TagAt h a ws → TagAt h' a ws := fun ⟨w, e1, e2⟩ => ⟨w, e _ _ e1, e _ _ e2⟩
theorem sp_tag_table {T : Tb} {k : Nat} (e : T.fn "Tag" "table" = some ⟨1, 1, ir_Tag_table_e87d90⟩) {a : Addr} {ws : List (Option (List Int))} {h : DH} {R : DK} {S : DX} (hr : TagAt h a ws) (q : ∀ p h', h p = none → Ext h h' → h' p = some (.lst (ws.map wD)) → R (.ref p) h') : (lev T (k + 1)).fn "Tag" "table" [.ref a] h R S := by
  obtain ⟨w, e2, e3⟩ := hr
  rw [lev_fn e]
  refine ⟨rfl, ?_⟩
  show wSs _ ir_Tag_table_e87d90 _ [_] _
  simp only [ir_Tag_table_e87d90, zz]
  rw [att_of e2 rfl]
  simp only [zz, lsK_of e3]
  exact fun p hp => q p _ hp (Ext.new hp) dput_same
theorem sp_tag_iscfg {T : Tb} {k : Nat} (e : T.fn "Tag" "is_configuration" = some ⟨2, 2, ir_Tag_is_configuration_e25c6d⟩) (er : T.fn "" "is_row" = some ⟨2, 3, ir_is_row_a5df9b⟩) (e1 : T.fn "" "is_integer" = some ⟨3, 3, ir_is_integer_344730⟩)
    {a : Addr} {ws : List (Option (List Int))} {v : D} {h : DH} {R : DK} {S : DX} (hr : TagAt h a ws) (kn : KnR h v) (sz : ∀ xs, v = .tup xs → xs.length ≤ 1000000) (q : ∀ h', Ext h h' → R (.bl (isRowD ws.length v)) h') : (lev T (k + 3)).fn "Tag" "is_configuration" [.ref a, v] h R S := by
  obtain ⟨w, e2, e3⟩ := hr
  rw [lev_fn e]
  refine ⟨rfl, ?_⟩
  show wSs _ ir_Tag_is_configuration_e25c6d _ [_, _] _
  simp only [ir_Tag_is_configuration_e25c6d, zz]
  rw [att_of e2 rfl]
  exact sp_is_row er e1 kn sz q
theorem sp_tag_stopped {T : Tb} {k : Nat} (e : T.fn "Tag" "stopped" = some ⟨2, 2, ir_Tag_stopped_ddd5ea⟩) {a : Addr} {ws : List (Option (List Int))} {row : List Int} (hrow : Row ws.length row) {h : DH} {R : DK} {S : DX} (hr : TagAt h a ws) (q : R (.bl (tgStep ws row).isNone) h) :
    (lev T (k + 1)).fn "Tag" "stopped" [.ref a, .tup (row.map .int)] h R S := by
  obtain ⟨w, e2, e3⟩ := hr
  rw [lev_fn e]
  refine ⟨rfl, ?_⟩
  show wSs _ ir_Tag_stopped_ddd5ea _ [_, _] _
  simp only [ir_Tag_stopped_ddd5ea, zz, List.length_map]
  cases row with
  | nil => exact q
  | cons x r =>
    have hx := hrow x (List.mem_cons_self ..)
    have n0 : ¬ (((r.length + 1 : Nat) : Int) = 0) := by omega
    simp only [List.length_cons, n0, decide_false, zz]
    rw [att_of e2 rfl]
    simp only [List.map_cons, atI_zero]
    refine ⟨_, rfl, ?_⟩
    simp only [zz, lsK_of e3, word_atI hx.1 hx.2]
    refine ⟨_, rfl, ?_⟩
    rw [tgStep] at q
    simp only [zz, isNon_wD]
    cases hw : ws[x.toNat]?.join with
    | none => rw [hw] at q; exact q
    | some w => rw [hw] at q; exact q
theorem cut_drop2 {xs : List D} : cut xs (some 2) none = xs.drop 2 := cut_drop (n := 2)
theorem sp_tag_step {T : Tb} {k : Nat} (e : T.fn "Tag" "step" = some ⟨2, 2, ir_Tag_step_beb46c⟩) (e1 : T.fn "Tag" "stopped" = some ⟨2, 2, ir_Tag_stopped_ddd5ea⟩) (m1 : T.has "Tag" "stopped" = true) {a : Addr} {ws : List (Option (List Int))} {row : List Int} (hrow : Row ws.length row) {n m : Nat} (hm : m ≤ 1000000) (hw : TWords n m ws)
    (hl : row.length ≤ 1000000) {h : DH} {R : DK} {S : DX} (hr : TagAt h a ws) (q : R (match tgStep ws row with | none => .non | some c => .tup (c.map .int)) h) : (lev T (k + 2)).fn "Tag" "step" [.ref a, .tup (row.map .int)] h R S := by
  rw [lev_fn e]
  refine ⟨rfl, ?_⟩
  show wSs _ ir_Tag_step_beb46c _ [_, _] _
  have hi := hr
  obtain ⟨w, eo, e3⟩ := hi
  unfold ir_Tag_step_beb46c
  refine seqR ?_
  simp only [zz, zy, eo]
  refine ⟨m1, sp_tag_stopped e1 hrow hr ?_⟩
  simp only [zz]
  cases row with
  | nil =>
    simp only [tgStep, Option.isNone_none, zz]
    exact q
  | cons x r =>
    have hx := hrow x (List.mem_cons_self ..)
    rw [tgStep] at q ⊢
    cases hs : ws[x.toNat]?.join with
    | none =>
      rw [hs] at q
      simp only [Option.isNone_none, zz]
      exact q
    | some l =>
      rw [hs] at q
      simp only [Option.isNone_some, zz]
      refine rest (seqR ?_)
      simp only [zz, List.map_cons]
      rw [att_of eo rfl]
      simp only [atI_zero]
      refine ⟨_, rfl, ?_⟩
      simp only [zz, lsK_of e3, word_atI hx.1 hx.2, hs]
      refine ⟨_, rfl, ?_⟩
      have ll := (word_in hw hs).1
      rw [List.length_cons] at hl
      simp only [wD, zz, List.length_cons, List.length_map, cut_drop2]
      refine ⟨Nat.le_trans (show r.length + 1 + l.length ≤ 2000000 by omega) (by decide), ?_⟩
      replace q : R (.tup (((x :: r ++ l).drop 2).map .int)) h := q
      rw [List.map_drop, List.map_append, List.map_cons] at q
      exact q
theorem sp_law_tag_step {T : Tb} {k : Nat} (e : T.fn "" "_law_tag_step" = some ⟨2, 3, ir__law_tag_step_d871ba⟩) {a : Addr} {ws : List (Option (List Int))} {row : List Int} (hrow : Row ws.length row) {n m : Nat} (hm : m ≤ 1000000) (hw : TWords n m ws)
    (hl : row.length ≤ 1000000) {h : DH} {R : DK} {S : DX} (ha : h a = some (.lst (ws.map wD))) (q : R (match tgStep ws row with | none => .non | some c => .tup (c.map .int)) h) : (lev T (k + 1)).fn "" "_law_tag_step" [.ref a, .tup (row.map .int)] h R S := by
  rw [lev_fn e]
  refine ⟨rfl, ?_⟩
  show wSs _ ir__law_tag_step_d871ba _ [_, _, none] _
  unfold ir__law_tag_step_d871ba
  refine seqR ?_
  simp only [zz, List.length_map, lsK_of ha]
  cases row with
  | nil => exact q
  | cons x r =>
    have hx := hrow x (List.mem_cons_self ..)
    have n0 : ¬ (((r.length + 1 : Nat) : Int) = 0) := by omega
    simp only [List.length_cons, n0, decide_false, zz, List.map_cons, atI_zero]
    refine ⟨_, rfl, ?_⟩
    simp only [zz, lsK_of ha, word_atI hx.1 hx.2]
    refine ⟨_, rfl, ?_⟩
    rw [tgStep] at q
    simp only [zz, isNon_wD]
    cases hs : ws[x.toNat]?.join with
    | none => rw [hs] at q; exact q
    | some l =>
      rw [hs] at q
      simp only [Option.isNone_some, zz]
      refine rest (seqR ?_)
      simp only [zz, atI_zero]
      refine ⟨_, rfl, ?_⟩
      simp only [zz, lsK_of ha, word_atI hx.1 hx.2, hs]
      refine ⟨_, rfl, ?_⟩
      have ll := (word_in hw hs).1
      rw [List.length_cons] at hl
      simp only [wD, zz, List.length_cons, List.length_map]
      refine ⟨Nat.le_trans (show r.length + 1 + l.length ≤ 2000000 by omega) (by decide), rest (seqR ?_)⟩
      simp only [zz, cut_drop2]
      replace q : R (.tup (((x :: r ++ l).drop 2).map .int)) h := q
      rw [List.map_drop, List.map_append, List.map_cons] at q
      exact q
theorem sp_tag_run {T : Tb} {k : Nat} (e : T.fn "Tag" "run" = some ⟨3, 6, ir_Tag_run_fe4180⟩) {a : Addr} {ws : List (Option (List Int))} {row : List Int} (hrow : Row ws.length row) {m : Nat} (hw : TWords ws.length m ws) {steps : Nat} (hb : row.length + steps * m ≤ 1000000)
    {h : DH} {R : DK} {S : DX} (hr : TagAt h a ws) (q : ∀ h', Ext h h' → R (.tup [.tup ((itRun (tgStep ws) steps row).1.map .int), .int (itRun (tgStep ws) steps row).2]) h') : (lev T (k + 1)).fn "Tag" "run" [.ref a, .tup (row.map .int), .int steps] h R S := by
  obtain ⟨w, e2, e3⟩ := hr
  rw [lev_fn e]
  refine ⟨rfl, ?_⟩
  show wSs _ ir_Tag_run_fe4180 _ [_, _, _, none, none, none] _
  unfold ir_Tag_run_fe4180
  refine seqR ?_
  simp only [zz]
  intro p hp
  have pw : w ≠ p := ne_of hp e3
  have pa : a ≠ p := ne_of hp e2
  refine rest (seqR ?_)
  simp only [zz]
  refine rest (seqR ?_)
  simp only [zz]
  refine rest (seqR ?_)
  simp only [w_whl]
  refine whlK_of (fun v σ h' => ∃ (L : List Int) (A t r : Nat) (d : List Int), v = steps - t ∧ t ≤ steps ∧ σ = [some (.ref a), some (.tup (row.map .int)), some (.int steps), some (.ref p), some (.int A), some (.int t)] ∧ Row ws.length L ∧
      h' p = some (.lst (L.map .int)) ∧ h' a = some (.ins "Tag" [("letters", .int ws.length), ("_words", .ref w)]) ∧ h' w = some (.lst (ws.map wD)) ∧ Ext h h' ∧ L.length ≤ row.length + t * m ∧
      itRun (tgStep ws) (steps - t) (L.drop A) = (d, r) ∧ itRun (tgStep ws) steps row = (d, t + r)) ?_ (steps - 0) _ _
      ⟨row, 0, 0, _, _, rfl, Nat.zero_le _, rfl, hrow, dput_same, by rw [dput_ne pa]; exact e2, by rw [dput_ne pw]; exact e3, Ext.new hp, by omega, rfl, by rw [Nat.sub_zero, Nat.zero_add, List.drop_zero]⟩
  rintro v σ h' M ⟨L, A, t, r, d, rfl, hts, rfl, hL, hP, hO, hWd, ex, hl, hc, hd⟩ hM
  have fin : r = 0 ∧ d = L.drop A → Rest (lev T k) (.cons (.ret (.op .tup (.cons (.op .tuple (.cons (.op (.slc true false) (.cons (.var 3) (.cons (.var 4) .nil))) .nil)) (.cons (.var 5) .nil)))) .nil) { nx := fun _ h' => R .non h', rt := R, bk := fun _ _ => False, ct := fun _ _ => False, ex := fun _ => S }
      [some (.ref a), some (.tup (row.map .int)), some (.int steps), some (.ref p), some (.int A), some (.int t)] h' := by
    rintro ⟨rfl, rfl⟩
    refine rest (seqR ?_)
    simp only [zz, lsK_of hP, cut_drop]
    intro p2 hp2
    simp only [zz]
    have q2 := q _ (ex.trans (Ext.new hp2 (o := .lst ((L.map D.int).drop A))))
    rw [hd, List.map_drop] at q2
    exact q2
  have aW : ∀ Q : DK, oAtt "_words" [.ref a] h' Q = Q (.ref w) h' := fun Q => att_of hO rfl
  simp only [zz, lsK_of hP, List.length_map, aW]
  by_cases h1 : t < steps
  case neg =>
    rw [if_neg (by omega)]
    have : steps - t = 0 := by omega
    rw [this, itRun] at hc
    cases hc
    exact fin ⟨rfl, rfl⟩
  rw [if_pos (by omega)]
  obtain ⟨s', hs⟩ : ∃ s', steps - t = s' + 1 := ⟨steps - t - 1, by omega⟩
  by_cases h2 : A < L.length
  case neg =>
    rw [if_neg (by omega)]
    have z : L.drop A = [] := List.drop_eq_nil_of_le (by omega)
    rw [hs, itRun, z, tgStep] at hc
    cases hc
    exact fin ⟨rfl, z.symm⟩
  rw [if_pos (by omega)]
  have dc : L.drop A = L[A] :: L.drop (A + 1) := List.drop_eq_getElem_cons h2
  have hx := hL L[A] (List.getElem_mem h2)
  simp only [atI_nat, List.getElem?_map, List.getElem?_eq_getElem h2, Option.map_some]
  refine ⟨_, rfl, ?_⟩
  simp only [zz, lsK_of hWd, word_atI hx.1 hx.2]
  refine ⟨_, rfl, ?_⟩
  simp only [zz, isNon_wD]
  cases hw2 : ws[L[A].toNat]?.join with
  | none =>
    simp only [Option.isNone_none, zq, zz]
    rw [hs, itRun, dc, tgStep, hw2] at hc
    cases hc
    exact fin ⟨rfl, dc.symm⟩
  | some x =>
    have hx2 := word_in hw hw2
    simp only [Option.isNone_some, zq, zz, lsK_of hP, atI_nat, List.getElem?_map, List.getElem?_eq_getElem h2, Option.map_some]
    refine ⟨trivial, ?_⟩
    rw [att_of hO rfl, lsK_of hP]
    simp only [atI_nat, List.getElem?_map, List.getElem?_eq_getElem h2, Option.map_some]
    refine ⟨_, rfl, ?_⟩
    simp only [zz, lsK_of hWd, word_atI hx.1 hx.2, hw2]
    refine ⟨_, rfl, ?_⟩
    have tw : (t + 1) * m = t * m + m := Nat.succ_mul t m
    have tw2 : (t + 1) * m ≤ steps * m := Nat.mul_le_mul_right m (by omega)
    simp only [wD, zz, zag, lsK_of hP, List.length_map]
    refine ⟨Nat.le_trans (show L.length + x.length ≤ 1000000 by omega) (by decide), ?_⟩
    rw [hs, itRun, dc, tgStep, hw2] at hc
    have dd : (L[A] :: L.drop (A + 1) ++ x).drop 2 = (L ++ x).drop (A + 2) := by
      rw [← dc, ← List.drop_append_of_le_length (by omega), List.drop_drop]
    replace hc : ((itRun (tgStep ws) s' ((L[A] :: L.drop (A + 1) ++ x).drop 2)).1, (itRun (tgStep ws) s' ((L[A] :: L.drop (A + 1) ++ x).drop 2)).2 + 1) = (d, r) := hc
    rw [dd] at hc
    cases hc
    refine hM (steps - (t + 1)) _ _ (by omega) ⟨L ++ x, A + 2, t + 1, (itRun (tgStep ws) s' ((L ++ x).drop (A + 2))).2, (itRun (tgStep ws) s' ((L ++ x).drop (A + 2))).1, rfl, by omega, rfl, fun y hy => ?_, by rw [dput_same, List.map_append], by rw [dput_ne pa]; exact hO, by rw [dput_ne pw]; exact hWd, ex.put hp, by rw [List.length_append]; omega, ?_, ?_⟩
    · rcases List.mem_append.1 hy with z | z
      · exact hL y z
      · exact hx2.2 y z
    · rw [show steps - (t + 1) = s' by omega]
    · rw [hd]
      exact congrArg (Prod.mk _) (by omega)
def lenD : D → Nat
  | .tup xs => xs.length
  | _ => 0
def okTW (n : Int) (w : D) : Bool := isNon w || (isRowD n w && decide (lenD w ≤ 6))
/-- what Tag takes -/
def okTag (lt : D) (ws : List D) : Prop := isIntD 1 20000 lt = true ∧ lt = .int ws.length ∧ ws.all (okTW ws.length) = true
theorem sp_tag_init {T : Tb} {k : Nat} (e : T.fn "Tag" "__init__" = some ⟨3, 4, ir_Tag___init___10b589⟩) (er : T.fn "" "is_row" = some ⟨2, 3, ir_is_row_a5df9b⟩) (e1 : T.fn "" "is_integer" = some ⟨3, 3, ir_is_integer_344730⟩)
    (hf1 : T.fld "Tag" "letters" = true) (hf2 : T.fld "Tag" "_words" = true) {p a : Addr} {lt : D} {ws : List D} {h : DH} {R : DK} {S : DX} (hp : h p = some (.ins "Tag" [])) (ha : h a = some (.lst ws)) (kl : Kn h lt) (kn : ∀ w ∈ ws, KnR h w) (sz : ∀ w ∈ ws, ∀ xs, w = .tup xs → xs.length ≤ 1000000)
    (q : okTag lt ws → ∀ h' w, h w = none → ExtB p h h' → h' p = some (.ins "Tag" [("letters", .int ws.length), ("_words", .ref w)]) → h' w = some (.lst ws) → R .non h') (x : ¬ okTag lt ws → ∀ h', Ext h h' → S "BadMachine" [] h') : (lev T (k + 3)).fn "Tag" "__init__" [.ref p, lt, .ref a] h R S := by
  rw [lev_fn e]
  refine ⟨rfl, ?_⟩
  show wSs _ ir_Tag___init___10b589 _ [_, _, _, none] _
  unfold ir_Tag___init___10b589
  refine seqR ?_
  simp only [zz]
  refine sp_is_integer (k := k + 1) e1 kl ?_
  simp only [zz]
  cases c1 : isIntD 1 20000 lt with
  | false =>
    simp only [zq, zz]
    exact x (fun o => by have := o.1; rw [c1] at this; cases this) h Ext.refl
  | true =>
  obtain ⟨n, rfl⟩ : ∃ n, lt = .int n := by
    cases lt with
    | int n => exact ⟨n, rfl⟩
    | _ => cases c1
  simp only [zq, zz]
  refine rest (seqR ?_)
  simp only [zz, lsK_of ha]
  by_cases c2 : (ws.length : Int) = n
  case neg =>
    simp only [c2, decide_false, zq, zz]
    exact x (fun o => c2 (by have := o.2.1; cases this; rfl)) h Ext.refl
  subst c2
  simp only [decide_true, zq, zz]
  refine rest (seqR ?_)
  refine for_seq (ds := ws) (x := .ref a) (fun r σ h' => ∃ x2 : Option D, σ = [some (.ref p), some (.int ws.length), some (.ref a), x2] ∧ Ext h h' ∧ (∀ w ∈ r, w ∈ ws) ∧ (ws.all (okTW ws.length) = r.all (okTW ws.length)))
    (fun Q hQ => by simp only [zz]; exact hQ _ ⟨none, rfl, Ext.refl, fun _ h => h, rfl⟩) (fun r σ h' ⟨_, _, ex, _⟩ => .inr (.inr ⟨a, rfl, ex _ _ ha⟩)) ?_ ?_
  · rintro d r σ h' N ⟨x2, rfl, ex, hr, hk⟩ hN
    have hd := hr d (List.mem_cons_self ..)
    have hr' : ∀ w ∈ r, w ∈ ws := fun w hw => hr w (List.mem_cons_of_mem _ hw)
    simp only [zz]
    by_cases n : isNon d = true
    · simp only [n, zq, zz]
      refine hN _ _ ⟨_, rfl, ex, hr', ?_⟩
      rw [hk, List.all_cons]
      show ((_ || _) && _) = _
      rw [n]; rfl
    · have n' : isNon d = false := by simpa using n
      have bad : (isRowD ws.length d && decide (lenD d ≤ 6)) = false → ∀ h3, Ext h h3 → S "BadMachine" [] h3 := fun hb h3 e3 => by
        refine x (fun o => ?_) _ e3
        have z := o.2.2
        rw [hk, List.all_cons] at z
        have z2 : okTW ws.length d = false := by unfold okTW; rw [n', hb]; rfl
        rw [z2] at z
        cases z
      simp only [n', zq, zz]
      refine sp_is_row er e1 ((kn d hd).ext ex) (sz d hd) fun h2 ex2 => ?_
      cases b : isRowD ws.length d with
      | true =>
        cases d with
        | tup ys =>
          simp only [zq, zz]
          by_cases b2 : ys.length ≤ 6
          · have : ¬ (6 : Int) < ys.length := by omega
            simp only [this, decide_false, zz]
            refine hN _ _ ⟨_, rfl, ex.trans ex2, hr', ?_⟩
            rw [hk, List.all_cons]
            show ((_ || _) && _) = _
            rw [b, show decide (lenD (.tup ys) ≤ 6) = true from decide_eq_true b2]
            rfl
          · have : (6 : Int) < ys.length := by omega
            simp only [this, decide_true, zz]
            exact bad (by rw [b, show decide (lenD (.tup ys) ≤ 6) = false from decide_eq_false b2]; rfl) _ (ex.trans ex2)
        | _ => cases b
      | false =>
        simp only [zq, zz]
        exact bad (by rw [b]; rfl) _ (ex.trans ex2)
  · rintro σ h' ⟨x2, rfl, ex, hr, hk⟩
    refine rest (seqR ?_)
    have ok : okTag (.int ws.length) ws := ⟨c1, rfl, by rw [hk]; rfl⟩
    simp only [zy, zz]
    rw [attSet_of (ex _ _ hp) (by exact hf1) (by decide)]
    refine rest (seqR ?_)
    have pa : p ≠ a := fun z => by subst z; rw [hp] at ha; cases ha
    have ha2 : ∀ o, dput h' p o a = some (.lst ws) := fun o => by rw [dput_ne (Ne.symm pa)]; exact ex _ _ ha
    simp only [zy, zz, lsK_of (ha2 _)]
    intro w hw
    have pw : p ≠ w := ne_of hw dput_same
    rw [attSet_of (by rw [dput_ne pw]; exact dput_same) (by exact hf2) (by show 1 < 1000; decide)]
    refine rest (seqN ?_)
    have hwn : h w = none := by
      cases z : h w with
      | none => rfl
      | some o => rw [dput_ne (Ne.symm pw), ex _ _ z] at hw; cases hw
    refine q ok _ w hwn ?_ dput_same (by rw [dput_ne (Ne.symm pw)]; exact dput_same)
    intro b o hb eb
    rw [dput_ne hb, dput_ne (ne_of hw (show dput h' p _ b = some o by rw [dput_ne hb]; exact ex _ _ eb)), dput_ne hb]
    exact ex _ _ eb
theorem sp_tag_word {T : Tb} {k : Nat} (e : T.fn "Tag" "word" = some ⟨2, 2, ir_Tag_word_584a3a⟩) (e1 : T.fn "" "is_integer" = some ⟨3, 3, ir_is_integer_344730⟩) {a : Addr} {ws : List (Option (List Int))} {v : D} {h : DH} {R : DK} {S : DX} (hr : TagAt h a ws) (kn : Kn h v)
    (q : ∀ x : Int, v = .int x → 0 ≤ x → x < ws.length → R (wD ws[x.toNat]?.join) h) (xx : isIntD 0 ((ws.length : Int) - 1) v = false → S "BadMachine" [] h) : (lev T (k + 2)).fn "Tag" "word" [.ref a, v] h R S := by
  obtain ⟨w, e2, e3⟩ := hr
  rw [lev_fn e]
  refine ⟨rfl, ?_⟩
  show wSs _ ir_Tag_word_584a3a _ [_, _] _
  unfold ir_Tag_word_584a3a
  refine seqR ?_
  simp only [zz]
  rw [att_of e2 rfl]
  simp only [zz]
  refine sp_is_integer e1 kn ?_
  simp only [zz]
  cases c1 : isIntD 0 ((ws.length : Int) - 1) v with
  | false =>
    simp only [zq, zz]
    exact xx c1
  | true =>
    simp only [zq, zz]
    refine rest (seqR ?_)
    cases v with
    | int x =>
      unfold isIntD at c1
      simp only [Bool.and_eq_true, decide_eq_true_eq] at c1
      simp only [zz]
      rw [att_of e2 rfl]
      simp only [zz, lsK_of e3, word_atI c1.1 (show x < ws.length by omega)]
      exact ⟨_, rfl, q x rfl c1.1 (by omega)⟩
    | _ => cases c1
theorem sp_law_tag {T : Tb} {k : Nat} (e : T.fn "" "_law_tag" = some ⟨2, 8, ir__law_tag_c5b269⟩) {d : Addr} {ds : List Int} {m : Nat} (hm : 1 ≤ m ∧ m ≤ 1000) {h : DH} (hd : h d = some (.lst (ds.map .int))) (hl : m + 1 ≤ ds.length) (dr : Drawn ds) {R : DK} {S : DX}
    (q : ∀ p h' ws, h p = none → Ext h h' → h' p = some (.lst (ws.map wD)) → 1 ≤ ws.length → ws.length ≤ m → TWords ws.length 4 ws → R (.tup [.int ws.length, .ref p]) h') : (lev T (k + 1)).fn "" "_law_tag" [.ref d, .int m] h R S := by
  rw [lev_fn e]
  refine ⟨rfl, ?_⟩
  show wSs _ ir__law_tag_c5b269 _ [_, _, none, none, none, none, none, none] _
  unfold ir__law_tag_c5b269
  have g : ∀ i : Nat, i < m + 1 → ∃ x : Int, ds[i]? = some x ∧ 0 ≤ x ∧ x < 65537 := fun i hi => ⟨ds[i]'(by omega), List.getElem?_eq_getElem _, dr _ (List.getElem_mem _)⟩
  refine seqR ?_
  obtain ⟨x0, g0, l0, u0⟩ := g 0 (by omega)
  have a0 := atI_nat (xs := ds.map D.int) (i := 0)
  rw [show ((0 : Nat) : Int) = 0 from rfl, List.getElem?_map, g0] at a0
  simp only [zz, lsK_of hd, a0]
  refine ⟨_, rfl, ?_⟩
  have mpos : (0 : Int) < m := by omega
  have md0 := Int.emod_nonneg x0 (show (m : Int) ≠ 0 by omega)
  have md1 := Int.emod_lt_of_pos x0 mpos
  simp only [zz]
  refine ⟨mpos, rest (seqR ?_)⟩
  obtain ⟨n, hn⟩ : ∃ n : Nat, 1 + x0 % (m : Int) = (n : Int) := ⟨(1 + x0 % (m : Int)).toNat, by omega⟩
  rw [hn]
  have npos : (0 : Int) < n := by omega
  simp only [zz]
  intro p hp
  have dp : d ≠ p := ne_of hp hd
  refine rest (seqR ?_)
  refine for_rng (n := n) (by omega) (fun i σ h' => ∃ (ws : List (Option (List Int))) (x4 x5 x6 : Option D), σ = [some (.ref d), some (.int m), some (.int n), some (.ref p), x4, x5, x6, none] ∧ h' p = some (.lst (ws.map wD)) ∧ h' d = some (.lst (ds.map .int)) ∧ Ext h h' ∧ TWords n 4 ws ∧ ws.length = i)
    (fun Q hQ => by simp only [zz]; exact hQ _ ⟨[], none, none, none, rfl, dput_same, by rw [dput_ne dp]; exact hd, Ext.new hp, fun w hw => (by cases hw), rfl⟩) ?_ ?_
  · rintro i σ h' N' hi ⟨ws, x3, x4, x5, rfl, hP, hD, ex, hw, hlen⟩ hN'
    obtain ⟨y, gy, ly, uy⟩ := g (1 + i) (by omega)
    have ay := atI_nat (xs := ds.map D.int) (i := 1 + i)
    rw [List.getElem?_map, gy, show ((1 + i : Nat) : Int) = 1 + (i : Int) by omega] at ay
    refine seqR ?_
    simp only [zz, lsK_of hD, ay]
    refine ⟨_, rfl, rest (seqR ?_)⟩
    simp only [zz]
    have m6 := Int.emod_nonneg y (show (5 : Int) ≠ 0 by decide)
    have m6' := Int.emod_lt_of_pos y (show (0 : Int) < 5 by decide)
    refine ⟨by decide, ⟨by omega, by omega⟩, ?_⟩
    refine lcK_rng (fun h2 => h2 = h') (fun j => .int ((y / ((j : Int) + 1) + 3 * j) % n)) (fun j hj h2 k e hk => ?_) (by show _ ≤ 16777216; omega) rfl fun h2 e => ?_
    · subst e
      have hj' : j < 5 := by omega
      have dd : divOk (0 + (j : Int) + 1) := ⟨by omega, .inl (by omega)⟩
      simp (discharger := decide) only [zz, mulOk_l, dd, true_and]
      rw [Int.zero_add]
      exact ⟨npos, hk _ rfl⟩
    · subst e
      rw [show (fun j : Nat => D.int ((y / ((j : Int) + 1) + 3 * j) % n)) = D.int ∘ (fun j : Nat => (y / ((j : Int) + 1) + 3 * j) % n) from rfl, ← List.map_map]
      generalize hbits : (List.range (y % 5).toNat).map (fun j : Nat => (y / ((j : Int) + 1) + 3 * j) % (n : Int)) = bits
      have bl : bits.length ≤ 4 := by rw [← hbits, List.length_map, List.length_range]; omega
      have bb : Row n bits := fun b hb => by
        rw [← hbits] at hb
        obtain ⟨j, _, rfl⟩ := List.mem_map.1 hb
        exact ⟨Int.emod_nonneg _ (by omega), Int.emod_lt_of_pos _ npos⟩
      intro a ha
      have pa : p ≠ a := ne_of ha hP
      have da : d ≠ a := ne_of ha hD
      have hP2 : dput h2 a (.lst (bits.map .int)) p = some (.lst (ws.map wD)) := by rw [dput_ne pa]; exact hP
      have hD2 : dput h2 a (.lst (bits.map .int)) d = some (.lst (ds.map .int)) := by rw [dput_ne da]; exact hD
      have ex2 : Ext h (dput h2 a (.lst (bits.map .int))) := ex.trans (Ext.new ha)
      simp only [zz]
      refine rest (seqR ?_)
      generalize dput h2 a (.lst (bits.map .int)) = h3 at hP2 hD2 ex2
      simp (discharger := decide) only [zz, lsK_of hP2, divOk_lit, true_and]
      intro b hb
      have pb : p ≠ b := ne_of hb hP2
      have db : d ≠ b := ne_of hb hD2
      simp (discharger := decide) only [zz, divOk_lit, true_and]
      refine ⟨by decide, ?_⟩
      have hP3 : ∀ o, dput h3 b o p = some (.lst (ws.map wD)) := fun o => by rw [dput_ne pb]; exact hP2
      have fin : ∀ (w : Option (List Int)) (o : DO), (w = none ∨ w = some bits) → ∀ x4 x5 x6, lsK (dput h3 b o) p fun xs => xs.length < sizeLine ∧ Rest (lev T k) .nil { nx := N', rt := R, bk := Rest (lev T k) (.cons (.ret (.op .tup (.cons (.var 2) (.cons (.var 3) .nil)))) .nil) { nx := fun _ h' => R .non h', rt := R, bk := fun _ _ => False, ct := fun _ _ => False, ex := fun _ => S }, ct := N', ex := fun _ => S }
          [some (.ref d), some (.int m), some (.int n), some (.ref p), x4, x5, x6, none] (dput (dput h3 b o) p (.lst (xs ++ [wD w]))) := by
        intro w o hw' x4 x5 x6
        rw [lsK_of (hP3 _)]
        refine ⟨by rw [List.length_map]; exact Nat.lt_of_le_of_lt (show ws.length ≤ 1000 by omega) (by decide), rest (seqN ?_)⟩
        refine hN' _ _ ⟨ws ++ [w], _, _, _, rfl, by rw [dput_same, List.map_append]; rfl, by rw [dput_ne dp, dput_ne db]; exact hD2, (ex2.trans (Ext.new hb)).put hp, fun v hv l el => ?_, by rw [List.length_append, hlen]; rfl⟩
        rcases List.mem_append.1 hv with z | z
        · exact hw v z l el
        · rw [List.mem_singleton.1 z] at el
          rcases hw' with z2 | z2
          · rw [z2] at el; cases el
          · rw [z2] at el; cases el; exact ⟨bl, bb⟩
      by_cases c7 : y / 5 % 6 = 0
      · rw [if_pos c7]
        exact ⟨_, atI_one, fin none _ (.inl rfl) _ _ _⟩
      · rw [if_neg c7]
        exact ⟨_, atI_zero, fin (some bits) _ (.inr rfl) _ _ _⟩
  · rintro σ h' ⟨ws, x3, x4, x5, rfl, hP, hD, ex, hw, hlen⟩
    refine rest (seqR ?_)
    simp only [zz]
    rw [← hlen] at hw ⊢
    exact q p h' ws hp ex hP (by omega) (by omega) hw
theorem sp_law_row {T : Tb} {k : Nat} (e : T.fn "" "_law_row" = some ⟨3, 4, ir__law_row_07d1b8⟩) {d : Addr} {ds : List Int} {n m : Nat} (hn : 1 ≤ n) (hm : m ≤ 1000) {h : DH} (hd : h d = some (.lst (ds.map .int))) (hl : m ≤ ds.length) {R : DK} {S : DX}
    (q : ∀ h' row, Ext h h' → row.length = m → Row n row → R (.tup (row.map .int)) h') : (lev T (k + 1)).fn "" "_law_row" [.ref d, .int n, .int m] h R S := by
  rw [lev_fn e]
  refine ⟨rfl, ?_⟩
  show wSs _ ir__law_row_07d1b8 _ [_, _, _, none] _
  simp only [ir__law_row_07d1b8, zz]
  have npos : (0 : Int) < n := by omega
  refine ⟨⟨by omega, by omega⟩, ?_⟩
  rw [Int.toNat_natCast]
  refine lcK_rng (fun h2 => h2 = h) (fun j => .int ((ds.getD j 0) % n)) (fun j hj h2 k e hk => ?_) (Nat.le_trans hm (by decide)) rfl fun h2 e => ?_
  · subst e
    have gi : ds[j]? = some (ds.getD j 0) := by
      rw [List.getD_eq_getElem?_getD, List.getElem?_eq_getElem (by omega)]; rfl
    simp only [zz, lsK_of hd, Int.zero_add, atI_nat, List.getElem?_map, gi, Option.map_some]
    refine ⟨_, rfl, ?_⟩
    simp only [zz]
    exact ⟨npos, hk _ rfl⟩
  · subst e
    intro p hp
    simp only [zz]
    rw [show (fun j => D.int (ds.getD j 0 % n)) = D.int ∘ (fun j => ds.getD j 0 % n) from rfl, ← List.map_map]
    refine q _ ((List.range m).map fun j => ds.getD j 0 % (n : Int)) (Ext.new hp) (by rw [List.length_map, List.length_range]) fun x hx => ?_
    obtain ⟨j, _, rfl⟩ := List.mem_map.1 hx
    exact ⟨Int.emod_nonneg _ (by omega), Int.emod_lt_of_pos _ npos⟩
end Z
set_option Elab.async false
set_option linter.all false
set_option maxRecDepth 100000
set_option maxHeartbeats 4000000
namespace Z
open PySem (Str Addr sizeLine PyData Paired Expr Stmt Value Shared binaryOp compareOp unaryOp)
/-- law -/
def ir_law_64dcfd : Sms := (.cons (.asg (.name 1) (.call "_law_draws" (.cons (.var 0) (.cons (.con (D.int 60)) .nil))))
  (.cons (.asg (.tup (.cons (.name 9) (.cons (.name 10) .nil))) (.call "_law_tag" (.cons (.var 1) (.cons (.op .idx (.cons (.op .lst (.cons (.con (D.int 6)) (.cons (.con (D.int 30)) .nil))) (.cons (.op .int (.cons (.op .eq (.cons (.op .mod (.cons (.op .int (.cons (.op .idx (.cons (.var 1) (.cons (.con (D.int 59)) .nil))) .nil)) (.cons (.con (D.int 10)) .nil))) (.cons (.con (D.int 0)) .nil))) .nil)) .nil))) .nil))))
  (.cons (.asg (.name 2) (.op .list (.cons (.var 10) .nil)))
  (.cons (.asg (.name 3) (.mk "Tag" (.cons (.var 9) (.cons (.var 2) .nil))))
  (.cons (.ex (.bm "append" (.var 2) (.cons (.con D.non) .nil)))
  (.cons (.ite (.or (.val (.op .ne (.cons (.op (.att "letters") (.cons (.var 3) .nil)) (.cons (.var 9) .nil)))) (.or (.val (.op .ne (.cons (.meth (.var 3) "table" .nil) (.cons (.var 10) .nil)))) (.val (.op .ne (.cons (.lc [7] (.rng1 (.var 9)) .tt (.meth (.var 3) "word" (.cons (.var 7) .nil))) (.cons (.var 10) .nil))))))
  (.cons (.ret (.con (D.bl false)))
  .nil)
  .nil)
  (.cons (.asg (.name 4) (.meth (.var 3) "table" .nil))
  (.cons (.ex (.bm "clear" (.var 4) .nil))
  (.cons (.asg (.name 5) (.call "_law_row" (.cons (.op (.slc true false) (.cons (.var 1) (.cons (.con (D.int 35)) .nil))) (.cons (.var 9) (.cons (.op .mod (.cons (.op .int (.cons (.op .idx (.cons (.var 1) (.cons (.con (D.int 34)) .nil))) .nil)) (.cons (.con (D.int 15)) .nil))) .nil)))))
  (.cons (.par 11 12 (.cons (.var 5) (.cons (.con (D.int 0)) .nil)))
  (.cons (.asg (.name 6) (.op .mod (.cons (.op .int (.cons (.op .idx (.cons (.var 1) (.cons (.con (D.int 50)) .nil))) .nil)) (.cons (.con (D.int 21)) .nil))))
  (.cons (.for_ (.name 7) (.rng1 (.var 6))
  (.cons (.ite (.val (.op .notB (.cons (.meth (.var 3) "is_configuration" (.cons (.var 5) .nil)) (.cons (.con (D.bl true)) .nil))))
  (.cons (.ret (.con (D.bl false)))
  .nil)
  .nil)
  (.cons (.asg (.name 13) (.call "_law_tag_step" (.cons (.var 10) (.cons (.var 5) .nil))))
  (.cons (.asg (.name 14) (.meth (.var 3) "step" (.cons (.var 5) .nil)))
  (.cons (.ite (.or (.val (.op .ne (.cons (.var 14) (.cons (.var 13) .nil)))) (.or (.val (.op .ne (.cons (.meth (.var 3) "stopped" (.cons (.var 5) .nil)) (.cons (.op .isN (.cons (.var 13) .nil)) .nil)))) (.val (.op .ne (.cons (.meth (.var 3) "run" (.cons (.var 11) (.cons (.var 7) .nil))) (.cons (.op .tup (.cons (.var 5) (.cons (.var 12) .nil))) .nil))))))
  (.cons (.ret (.con (D.bl false)))
  .nil)
  .nil)
  (.cons (.ite (.val (.op .notN (.cons (.var 13) .nil)))
  (.cons (.par 5 12 (.cons (.var 13) (.cons (.op .add (.cons (.var 12) (.cons (.con (D.int 1)) .nil))) .nil)))
  .nil)
  .nil)
  .nil))))))
  (.cons (.ite (.or (.val (.op .ne (.cons (.meth (.var 3) "run" (.cons (.var 11) (.cons (.var 6) .nil))) (.cons (.op .tup (.cons (.var 5) (.cons (.var 12) .nil))) .nil)))) (.val (.op .ne (.cons (.meth (.var 3) "run" (.cons (.var 5) (.cons (.con (D.int 0)) .nil))) (.cons (.op .tup (.cons (.var 5) (.cons (.con (D.int 0)) .nil))) .nil)))))
  (.cons (.ret (.con (D.bl false)))
  .nil)
  .nil)
  (.cons (.for_ (.name 8) (.val (.op .lst (.cons (.op .add (.cons (.var 5) (.cons (.op .tup (.cons (.var 9) .nil)) .nil))) (.cons (.op .add (.cons (.var 5) (.cons (.op .tup (.cons (.op .neg (.cons (.con (D.int 1)) .nil)) .nil)) .nil))) (.cons (.op .list (.cons (.var 5) .nil)) (.cons (.op .add (.cons (.var 5) (.cons (.op .tup (.cons (.con (D.bl true)) .nil)) .nil))) (.cons (.con D.non) (.cons (.con (D.int 5)) .nil))))))))
  (.cons (.ite (.val (.op .notB (.cons (.meth (.var 3) "is_configuration" (.cons (.var 8) .nil)) (.cons (.con (D.bl false)) .nil))))
  (.cons (.ret (.con (D.bl false)))
  .nil)
  .nil)
  .nil))
  (.cons (.ret (.op .eq (.cons (.meth (.var 3) "table" .nil) (.cons (.var 10) .nil))))
  .nil)))))))))))))))
def TB : Tb where
  fn c f := if c = "" ∧ f = "law" then some ⟨1, 15, ir_law_64dcfd⟩ else if c = "" ∧ f = "_law_tag_step" then some ⟨2, 3, ir__law_tag_step_d871ba⟩ else if c = "" ∧ f = "_law_row" then some ⟨3, 4, ir__law_row_07d1b8⟩ else if c = "Tag" ∧ f = "__init__" then some ⟨3, 4, ir_Tag___init___10b589⟩ else if c = "" ∧ f = "_law_tag" then some ⟨2, 8, ir__law_tag_c5b269⟩ else if c = "" ∧ f = "_law_draws" then some ⟨2, 7, ir__law_draws_4873db⟩ else if c = "" ∧ f = "is_row" then some ⟨2, 3, ir_is_row_a5df9b⟩ else if c = "" ∧ f = "is_integer" then some ⟨3, 3, ir_is_integer_344730⟩ else if c = "Tag" ∧ f = "table" then some ⟨1, 1, ir_Tag_table_e87d90⟩ else if c = "Tag" ∧ f = "is_configuration" then some ⟨2, 2, ir_Tag_is_configuration_e25c6d⟩ else if c = "Tag" ∧ f = "run" then some ⟨3, 6, ir_Tag_run_fe4180⟩ else if c = "Tag" ∧ f = "stopped" then some ⟨2, 2, ir_Tag_stopped_ddd5ea⟩ else if c = "Tag" ∧ f = "step" then some ⟨2, 2, ir_Tag_step_beb46c⟩ else if c = "Tag" ∧ f = "word" then some ⟨2, 2, ir_Tag_word_584a3a⟩ else none
  gl _ := none
  sub c d := decide ((c, d) ∈ ([("BadMachine", "BadMachine")] : List (String × String)))
  has c m := decide ((c, m) ∈ ([("Tag", "table"), ("Tag", "is_configuration"), ("Tag", "run"), ("Tag", "stopped"), ("Tag", "step"), ("Tag", "word")] : List (String × String)))
  fld c f := decide ((c, f) ∈ ([("Tag", "letters"), ("Tag", "_words")] : List (String × String)))
end Z
set_option Elab.async false
set_option linter.all false
set_option maxRecDepth 100000
set_option maxHeartbeats 4000000
namespace Z
open PySem (Str Addr sizeLine PyData Paired Expr Stmt Value Shared binaryOp compareOp unaryOp)
open L2
def top (i : Nat) : Stmt := PySem.Challenge.pw_stepdown_k50_tag_machines.main.body.getD i (.Pass ⟨0, 0, 0, 0⟩)
def gd (K : PySem.W.Frag) (ca : String → Addr) : Gd := ⟨K, ca, [("Tag", "letters"), ("Tag", "_words")], ["Tag"], ["BadMachine"]⟩
/-- what the top has made -/
structure Fc (Y : Sc) (f : Nat → Addr) (ca : String → Addr) : Prop where
  m0 : Y.mg "law" = some (.ref (f 0))
  f0 : ∃ fd, Fun Y.K "law" "law" (top 14) (f 0) fd ∧ Binds Y.K fd ["_law_script"] []
  k0 : PySem.W.keepIn Y.K (.ref (f 0)) = true
  m1 : Y.mg "_law_tag_step" = some (.ref (f 1))
  f1 : ∃ fd, Fun Y.K "_law_tag_step" "_law_tag_step" (top 13) (f 1) fd ∧ Binds Y.K fd ["_law_words", "_law_row_here"] []
  k1 : PySem.W.keepIn Y.K (.ref (f 1)) = true
  m2 : Y.mg "_law_row" = some (.ref (f 2))
  f2 : ∃ fd, Fun Y.K "_law_row" "_law_row" (top 12) (f 2) fd ∧ Binds Y.K fd ["_law_draws_here", "_law_letters", "_law_many"] []
  k2 : PySem.W.keepIn Y.K (.ref (f 2)) = true
  i3 : Mk Y.K (ca "Tag") (f 3)
  f3 : ∃ fd, Fun Y.K "__init__" "Tag.__init__" (inClass (top 8) 0) (f 3) fd ∧ Binds Y.K fd ["self", "letters", "words"] []
  k3 : PySem.W.keepIn Y.K (.ref (f 3)) = true
  m4 : Y.mg "_law_tag" = some (.ref (f 4))
  f4 : ∃ fd, Fun Y.K "_law_tag" "_law_tag" (top 11) (f 4) fd ∧ Binds Y.K fd ["_law_draws_here", "_law_most"] []
  k4 : PySem.W.keepIn Y.K (.ref (f 4)) = true
  m5 : Y.mg "_law_draws" = some (.ref (f 5))
  f5 : ∃ fd, Fun Y.K "_law_draws" "_law_draws" (top 10) (f 5) fd ∧ Binds Y.K fd ["_law_script", "_law_many"] []
  k5 : PySem.W.keepIn Y.K (.ref (f 5)) = true
  m6 : Y.mg "is_row" = some (.ref (f 6))
  f6 : ∃ fd, Fun Y.K "is_row" "is_row" (top 7) (f 6) fd ∧ Binds Y.K fd ["value", "letters"] []
  k6 : PySem.W.keepIn Y.K (.ref (f 6)) = true
  m7 : Y.mg "is_integer" = some (.ref (f 7))
  f7 : ∃ fd, Fun Y.K "is_integer" "is_integer" (top 6) (f 7) fd ∧ Binds Y.K fd ["value", "least", "most"] []
  k7 : PySem.W.keepIn Y.K (.ref (f 7)) = true
  i8 : Meth Y.K (ca "Tag") (Str.ofString "table") (f 8)
  f8 : ∃ fd, Fun Y.K "table" "Tag.table" (inClass (top 8) 2) (f 8) fd ∧ Binds Y.K fd ["self"] []
  k8 : PySem.W.keepIn Y.K (.ref (f 8)) = true
  i9 : Meth Y.K (ca "Tag") (Str.ofString "is_configuration") (f 9)
  f9 : ∃ fd, Fun Y.K "is_configuration" "Tag.is_configuration" (inClass (top 8) 3) (f 9) fd ∧ Binds Y.K fd ["self", "value"] []
  k9 : PySem.W.keepIn Y.K (.ref (f 9)) = true
  i10 : Meth Y.K (ca "Tag") (Str.ofString "run") (f 10)
  f10 : ∃ fd, Fun Y.K "run" "Tag.run" (inClass (top 8) 6) (f 10) fd ∧ Binds Y.K fd ["self", "configuration", "steps"] []
  k10 : PySem.W.keepIn Y.K (.ref (f 10)) = true
  i11 : Meth Y.K (ca "Tag") (Str.ofString "stopped") (f 11)
  f11 : ∃ fd, Fun Y.K "stopped" "Tag.stopped" (inClass (top 8) 4) (f 11) fd ∧ Binds Y.K fd ["self", "configuration"] []
  k11 : PySem.W.keepIn Y.K (.ref (f 11)) = true
  i12 : Meth Y.K (ca "Tag") (Str.ofString "step") (f 12)
  f12 : ∃ fd, Fun Y.K "step" "Tag.step" (inClass (top 8) 5) (f 12) fd ∧ Binds Y.K fd ["self", "configuration"] []
  k12 : PySem.W.keepIn Y.K (.ref (f 12)) = true
  i13 : Meth Y.K (ca "Tag") (Str.ofString "word") (f 13)
  f13 : ∃ fd, Fun Y.K "word" "Tag.word" (inClass (top 8) 1) (f 13) fd ∧ Binds Y.K fd ["self", "letter"] []
  k13 : PySem.W.keepIn Y.K (.ref (f 13)) = true
  b_abs : Y.mg "abs" = none
  b_all : Y.mg "all" = none
  b_bool : Y.mg "bool" = none
  b_int : Y.mg "int" = none
  b_isinstance : Y.mg "isinstance" = none
  b_len : Y.mg "len" = none
  b_list : Y.mg "list" = none
  b_range : Y.mg "range" = none
  b_tuple : Y.mg "tuple" = none
  g_MOST_LETTERS : ∃ t, Y.mg "MOST_LETTERS" = some (.int 20000 t)
  g_MOST_WORD : ∃ t, Y.mg "MOST_WORD" = some (.int 6 t)
  c_Tag : Y.mg "Tag" = some (.ref (ca "Tag"))
  x_BadMachine : Y.mg "BadMachine" = some (.ref (ca "BadMachine"))
  cls : ClsF (gd Y.K ca) Y
  ex : ∀ {k : Nat}, ExF (gd Y.K ca) Y (lev TB k)
structure Okk (Y : Sc) (f : Nat → Addr) (ca : String → Addr) (k : Nat) : Prop where
  o : True
  d1 : FnF (gd Y.K ca) Y (2 * k) ((lev TB k).fn "" "_law_tag_step") (f 1)
  d2 : FnF (gd Y.K ca) Y (2 * k) ((lev TB k).fn "" "_law_row") (f 2)
  d3 : FnF (gd Y.K ca) Y (2 * k) ((lev TB k).fn "Tag" "__init__") (f 3)
  d4 : FnF (gd Y.K ca) Y (2 * k) ((lev TB k).fn "" "_law_tag") (f 4)
  d5 : FnF (gd Y.K ca) Y (2 * k) ((lev TB k).fn "" "_law_draws") (f 5)
  d6 : FnF (gd Y.K ca) Y (2 * k) ((lev TB k).fn "" "is_row") (f 6)
  d7 : FnF (gd Y.K ca) Y (2 * k) ((lev TB k).fn "" "is_integer") (f 7)
  d8 : FnF (gd Y.K ca) Y (2 * k) ((lev TB k).fn "Tag" "table") (f 8)
  d9 : FnF (gd Y.K ca) Y (2 * k) ((lev TB k).fn "Tag" "is_configuration") (f 9)
  d10 : FnF (gd Y.K ca) Y (2 * k) ((lev TB k).fn "Tag" "run") (f 10)
  d11 : FnF (gd Y.K ca) Y (2 * k) ((lev TB k).fn "Tag" "stopped") (f 11)
  d12 : FnF (gd Y.K ca) Y (2 * k) ((lev TB k).fn "Tag" "step") (f 12)
  d13 : FnF (gd Y.K ca) Y (2 * k) ((lev TB k).fn "Tag" "word") (f 13)
section
variable {Y : Sc} {f : Nat → Addr} {ca : String → Addr} {k : Nat}
theorem mk_Tag (F : Fc Y f ca) (I : Okk Y f ca k) : MkF (gd Y.K ca) Y (2 * k) (lev TB k) "Tag" := ⟨⟨_, F.i3, I.d3⟩, by simp [gd]⟩
theorem me_table (F : Fc Y f ca) (I : Okk Y f ca k) : ∀ c, (lev TB k).has c "table" = true → MeF (gd Y.K ca) Y (2 * k) (lev TB k) c "table" := fun c h => by
  have h2 := of_decide_eq_true h
  have h3 : c = "Tag" := by simpa using h2
  subst h3
  exact ⟨⟨_, F.i8, I.d8⟩, by simp [gd]⟩
theorem me_is_configuration (F : Fc Y f ca) (I : Okk Y f ca k) : ∀ c, (lev TB k).has c "is_configuration" = true → MeF (gd Y.K ca) Y (2 * k) (lev TB k) c "is_configuration" := fun c h => by
  have h2 := of_decide_eq_true h
  have h3 : c = "Tag" := by simpa using h2
  subst h3
  exact ⟨⟨_, F.i9, I.d9⟩, by simp [gd]⟩
theorem me_run (F : Fc Y f ca) (I : Okk Y f ca k) : ∀ c, (lev TB k).has c "run" = true → MeF (gd Y.K ca) Y (2 * k) (lev TB k) c "run" := fun c h => by
  have h2 := of_decide_eq_true h
  have h3 : c = "Tag" := by simpa using h2
  subst h3
  exact ⟨⟨_, F.i10, I.d10⟩, by simp [gd]⟩
theorem me_stopped (F : Fc Y f ca) (I : Okk Y f ca k) : ∀ c, (lev TB k).has c "stopped" = true → MeF (gd Y.K ca) Y (2 * k) (lev TB k) c "stopped" := fun c h => by
  have h2 := of_decide_eq_true h
  have h3 : c = "Tag" := by simpa using h2
  subst h3
  exact ⟨⟨_, F.i11, I.d11⟩, by simp [gd]⟩
theorem me_step (F : Fc Y f ca) (I : Okk Y f ca k) : ∀ c, (lev TB k).has c "step" = true → MeF (gd Y.K ca) Y (2 * k) (lev TB k) c "step" := fun c h => by
  have h2 := of_decide_eq_true h
  have h3 : c = "Tag" := by simpa using h2
  subst h3
  exact ⟨⟨_, F.i12, I.d12⟩, by simp [gd]⟩
theorem me_word (F : Fc Y f ca) (I : Okk Y f ca k) : ∀ c, (lev TB k).has c "word" = true → MeF (gd Y.K ca) Y (2 * k) (lev TB k) c "word" := fun c h => by
  have h2 := of_decide_eq_true h
  have h3 : c = "Tag" := by simpa using h2
  subst h3
  exact ⟨⟨_, F.i13, I.d13⟩, by simp [gd]⟩
theorem sc0 : FnScope ["_law_script", "_law_draws_here", "_law_given", "_law_machine", "_law_table", "_law_row_here", "_law_steps", "_law_k", "_law_value", "_law_letters", "_law_words", "_law_first", "_law_taken", "_law_due", "_law_found"] ["_law_script"] (defScope (top 14)) := ⟨rfl, rfl, rfl, by decide +kernel, rfl, by decide +kernel, by decide +kernel⟩
theorem w0 {fd : PySem.FuncData} (F : Fc Y f ca) (F0 : Fun Y.K "law" "law" (top 14) (f 0) fd) (I : Okk Y f ca k) : FnOk Y.prog Y.w Y.K Y.mg Y.base (L2.CX Y.prog Y.w) (2 * (k + 1)) (f 0) fd ["_law_script"] (spD (gd Y.K ca) ((lev TB (k + 1)).fn "" "law") 1) :=
  fn_ok (d := ⟨1, 15, ir_law_64dcfd⟩) rfl rfl rfl F0 sc0 fun cdv A outer s H E hr tk hp => by
    have nd := sc0.nd
    have hr0 := hr.mono (Nat.le_succ (2 * k))
    have hu := hr.units
    exact (zss_cons (zs_asg (ze_call tk I.d5 hr0 rfl F.m5 (za_cons (ev 0) (za_cons ei za_nil rfl) rfl) rfl rfl rfl) (gv 1 nd) rfl rfl rfl)
  (zss_cons (zs_asg (ze_call tk I.d4 hr0 rfl F.m4 (za_cons (ev 1) (za_cons (ze_idx rfl (ze_lst rfl (za_cons ei (za_cons ei za_nil rfl) rfl)) (ze_callTy (cr_int rfl) rfl F.b_int rfl (za_cons (ze_cmp (or_eq rfl hu) (ze_bin (or_mod rfl) (ze_callTy (cr_int rfl) rfl F.b_int rfl (za_cons (ze_idx rfl (ev 1) ei (fun _ _ => rfl)) za_nil rfl) (by decide) rfl rfl rfl) ei) ei rfl) za_nil rfl) (by decide) rfl rfl rfl) (fun _ _ => rfl)) za_nil rfl) rfl) rfl rfl rfl) (zg_tup rfl rfl (zgs_cons (gv 9 nd) (zgs_cons (gv 10 nd) zgs_nil rfl) rfl) rfl rfl) rfl rfl rfl)
  (zss_cons (zs_asg (ze_callTy (cr_list rfl) rfl F.b_list rfl (za_cons (ev 10) za_nil rfl) (by decide) rfl rfl rfl) (gv 2 nd) rfl rfl rfl)
  (zss_cons (zs_asg (ze_mk tk (mk_Tag F I) hr rfl F.c_Tag (za_cons (ev 9) (za_cons (ev 2) za_nil rfl) rfl) rfl rfl rfl) (gv 3 nd) rfl rfl rfl)
  (zss_cons (zs_ex (ze_append rfl (ev 2) en rfl rfl rfl) rfl)
  (zss_cons (zs_ite (L2.PW.pt (zw_or (zt_cmp rfl (or_ne rfl hu) (ze_att F.cls (ev 3) rfl) (ev 9) rfl) (zw_or (zt_cmp rfl (or_ne rfl hu) (ze_meth0 F.cls tk (me_table F I) hr0 (ev 3) rfl) (ev 10) rfl) (pw_or1 (zt_cmp rfl (or_ne rfl hu) (ze_lc (g := (gName 7)) rfl nd (zi_rng1 rfl F.b_range (ev 9) rfl) (blkOk_by (own := [("_law_k", 7)]) rfl) rfl (ct_one 7) (fun _ _ _ _ _ => pg_name (i := 7) nd rfl (Or.inl rfl) (Or.inr rfl)) (fun _ _ _ _ _ => pts0) (fun _ _ _ _ _ => (ze_meth F.cls takes0 (me_word F I) hr0 (ev 3) (za_cons (ev 7) za_nil rfl) rfl rfl rfl)) (fun _ => rfl)) (ev 10) rfl)))))
  (zss_cons (zs_ret eb)
  zss_nil)
  zss_nil)
  (zss_cons (zs_asg (ze_meth0 F.cls tk (me_table F I) hr0 (ev 3) rfl) (gv 4 nd) rfl rfl rfl)
  (zss_cons (zs_ex (ze_clear rfl (ev 4) rfl rfl) rfl)
  (zss_cons (zs_asg (ze_call tk I.d2 hr0 rfl F.m2 (za_cons (ze_sl10 rfl (ev 1) ei) (za_cons (ev 9) (za_cons (ze_bin (or_mod rfl) (ze_callTy (cr_int rfl) rfl F.b_int rfl (za_cons (ze_idx rfl (ev 1) ei (fun _ _ => rfl)) za_nil rfl) (by decide) rfl rfl rfl) ei) za_nil rfl) rfl) rfl) rfl rfl rfl) (gv 5 nd) rfl rfl rfl)
  (zss_cons (zs_par (j := 11) (k := 12) rfl nd rfl rfl (by decide) rfl rfl (za_cons (ev 5) (za_cons ei za_nil rfl) rfl) rfl)
  (zss_cons (zs_asg (ze_bin (or_mod rfl) (ze_callTy (cr_int rfl) rfl F.b_int rfl (za_cons (ze_idx rfl (ev 1) ei (fun _ _ => rfl)) za_nil rfl) (by decide) rfl rfl rfl) ei) (gv 6 nd) rfl rfl rfl)
  (zss_cons (zs_for hp rfl (zi_rng1 rfl F.b_range (ev 6) rfl) (gv 7 nd)
  (zss_cons (zs_ite (zt_cmp rfl or_notB (ze_meth F.cls tk (me_is_configuration F I) hr0 (ev 3) (za_cons (ev 5) za_nil rfl) rfl rfl rfl) eb rfl)
  (zss_cons (zs_ret eb)
  zss_nil)
  zss_nil)
  (zss_cons (zs_asg (ze_call tk I.d1 hr0 rfl F.m1 (za_cons (ev 10) (za_cons (ev 5) za_nil rfl) rfl) rfl rfl rfl) (gv 13 nd) rfl rfl rfl)
  (zss_cons (zs_asg (ze_meth F.cls tk (me_step F I) hr0 (ev 3) (za_cons (ev 5) za_nil rfl) rfl rfl rfl) (gv 14 nd) rfl rfl rfl)
  (zss_cons (zs_ite (L2.PW.pt (zw_or (zt_cmp rfl (or_ne rfl hu) (ev 14) (ev 13) rfl) (zw_or (zt_cmp rfl (or_ne rfl hu) (ze_meth F.cls tk (me_stopped F I) hr0 (ev 3) (za_cons (ev 5) za_nil rfl) rfl rfl rfl) (ze_isN (ev 13)) rfl) (pw_or1 (zt_cmp rfl (or_ne rfl hu) (ze_meth F.cls tk (me_run F I) hr0 (ev 3) (za_cons (ev 11) (za_cons (ev 7) za_nil rfl) rfl) rfl rfl rfl) (ze_tup rfl (za_cons (ev 5) (za_cons (ev 12) za_nil rfl) rfl)) rfl)))))
  (zss_cons (zs_ret eb)
  zss_nil)
  zss_nil)
  (zss_cons (zs_ite (zt_notN (ev 13))
  (zss_cons (zs_par (j := 5) (k := 12) rfl nd rfl rfl (by decide) rfl rfl (za_cons (ev 13) (za_cons (ze_bin (or_add rfl) (ev 12) ei) za_nil rfl) rfl) rfl)
  zss_nil)
  zss_nil)
  zss_nil))))) (fun _ => rfl))
  (zss_cons (zs_ite (L2.PW.pt (zw_or (zt_cmp rfl (or_ne rfl hu) (ze_meth F.cls tk (me_run F I) hr0 (ev 3) (za_cons (ev 11) (za_cons (ev 6) za_nil rfl) rfl) rfl rfl rfl) (ze_tup rfl (za_cons (ev 5) (za_cons (ev 12) za_nil rfl) rfl)) rfl) (pw_or1 (zt_cmp rfl (or_ne rfl hu) (ze_meth F.cls tk (me_run F I) hr0 (ev 3) (za_cons (ev 5) (za_cons ei za_nil rfl) rfl) rfl rfl rfl) (ze_tup rfl (za_cons (ev 5) (za_cons ei za_nil rfl) rfl)) rfl))))
  (zss_cons (zs_ret eb)
  zss_nil)
  zss_nil)
  (zss_cons (zs_for hp rfl (zi_val rfl (ze_lst rfl (za_cons (ze_bin (or_add rfl) (ev 5) (ze_tup rfl (za_cons (ev 9) za_nil rfl))) (za_cons (ze_bin (or_add rfl) (ev 5) (ze_tup rfl (za_cons (ze_neg rfl ei) za_nil rfl))) (za_cons (ze_callTy (cr_list rfl) rfl F.b_list rfl (za_cons (ev 5) za_nil rfl) (by decide) rfl rfl rfl) (za_cons (ze_bin (or_add rfl) (ev 5) (ze_tup rfl (za_cons eb za_nil rfl))) (za_cons en (za_cons ei za_nil rfl) rfl) rfl) rfl) rfl) rfl))) (gv 8 nd)
  (zss_cons (zs_ite (zt_cmp rfl or_notB (ze_meth F.cls tk (me_is_configuration F I) hr0 (ev 3) (za_cons (ev 8) za_nil rfl) rfl rfl rfl) eb rfl)
  (zss_cons (zs_ret eb)
  zss_nil)
  zss_nil)
  zss_nil) (fun _ => rfl))
  (zss_cons (zs_ret (ze_cmp (or_eq rfl hu) (ze_meth0 F.cls tk (me_table F I) hr0 (ev 3) rfl) (ev 10) rfl))
  zss_nil)))))))))))))))
theorem sc1 : FnScope ["_law_words", "_law_row_here", "_law_longer"] ["_law_words", "_law_row_here"] (defScope (top 13)) := ⟨rfl, rfl, rfl, by decide +kernel, rfl, by decide +kernel, by decide +kernel⟩
theorem w1 (F : Fc Y f ca) (I : Okk Y f ca k) : FnF (gd Y.K ca) Y (2 * (k + 1)) ((lev TB (k + 1)).fn "" "_law_tag_step") (f 1) :=
  fn_step (d := ⟨2, 3, ir__law_tag_step_d871ba⟩) rfl rfl rfl F.f1 sc1 F.k1 fun cdv A outer s H E hr tk hp => by
    have nd := sc1.nd
    have hr0 := hr.mono (Nat.le_succ (2 * k))
    have hu := hr.units
    exact (zss_cons (zs_ite (L2.PW.pt (zw_or (zt_cmp rfl (or_eq rfl hu) (ze_callB (cr_len rfl) rfl F.b_len rfl (za_cons (ev 1) za_nil rfl) (by decide) rfl rfl rfl) ei rfl) (pw_or1 (zt_isN (ze_idx rfl (ev 0) (ze_idx rfl (ev 1) ei (fun _ _ => rfl)) (fun _ _ => rfl))))))
  (zss_cons (zs_ret en)
  zss_nil)
  zss_nil)
  (zss_cons (zs_asg (ze_bin (or_add rfl) (ev 1) (ze_idx rfl (ev 0) (ze_idx rfl (ev 1) ei (fun _ _ => rfl)) (fun _ _ => rfl))) (gv 2 nd) rfl rfl rfl)
  (zss_cons (zs_ret (ze_sl10 rfl (ev 2) ei))
  zss_nil)))
theorem sc2 : FnScope ["_law_draws_here", "_law_letters", "_law_many", "_law_k"] ["_law_draws_here", "_law_letters", "_law_many"] (defScope (top 12)) := ⟨rfl, rfl, rfl, by decide +kernel, rfl, by decide +kernel, by decide +kernel⟩
theorem w2 (F : Fc Y f ca) (I : Okk Y f ca k) : FnF (gd Y.K ca) Y (2 * (k + 1)) ((lev TB (k + 1)).fn "" "_law_row") (f 2) :=
  fn_step (d := ⟨3, 4, ir__law_row_07d1b8⟩) rfl rfl rfl F.f2 sc2 F.k2 fun cdv A outer s H E hr tk hp => by
    have nd := sc2.nd
    have hr0 := hr.mono (Nat.le_succ (2 * k))
    have hu := hr.units
    exact (zss_cons (zs_ret (ze_callTy (cr_tuple rfl) rfl F.b_tuple rfl (za_cons (ze_lc (g := (gName 3)) rfl nd (zi_rng1 rfl F.b_range (ev 2) rfl) (blkOk_by (own := [("_law_k", 3)]) rfl) rfl (ct_one 3) (fun _ _ _ _ _ => pg_name (i := 3) nd rfl (Or.inl rfl) (Or.inr rfl)) (fun _ _ _ _ _ => pts0) (fun _ _ _ _ _ => (ze_bin (or_mod rfl) (ze_callTy (cr_int rfl) rfl F.b_int rfl (za_cons (ze_idx rfl (ev 0) (ev 3) (fun _ _ => rfl)) za_nil rfl) (by decide) rfl rfl rfl) (ev 1))) (fun _ => rfl)) za_nil rfl) (by decide) rfl rfl rfl))
  zss_nil)
theorem sc3 : FnScope ["self", "letters", "words", "word"] ["self", "letters", "words"] (defScope (inClass (top 8) 0)) := ⟨rfl, rfl, rfl, by decide +kernel, rfl, by decide +kernel, by decide +kernel⟩
theorem w3 (F : Fc Y f ca) (I : Okk Y f ca k) : FnF (gd Y.K ca) Y (2 * (k + 1)) ((lev TB (k + 1)).fn "Tag" "__init__") (f 3) :=
  fn_step (d := ⟨3, 4, ir_Tag___init___10b589⟩) rfl rfl rfl F.f3 sc3 F.k3 fun cdv A outer s H E hr tk hp => by
    have nd := sc3.nd
    have hr0 := hr.mono (Nat.le_succ (2 * k))
    have hu := hr.units
    exact (zss_cons (zs_ite (zt_not (zt_val rfl (ze_call tk I.d7 hr0 rfl F.m7 (za_cons (ev 1) (za_cons ei (za_cons (eg_int F.g_MOST_LETTERS rfl rfl) za_nil rfl) rfl) rfl) rfl rfl rfl) (fun _ => rfl)))
  (zss_cons (zs_rai F.ex rfl tk (by simp [gd]) F.x_BadMachine rfl rfl)
  zss_nil)
  zss_nil)
  (zss_cons (zs_ite (zt_cmp rfl (or_ne rfl hu) (ze_callB (cr_len rfl) rfl F.b_len rfl (za_cons (ev 2) za_nil rfl) (by decide) rfl rfl rfl) (ev 1) rfl)
  (zss_cons (zs_rai F.ex rfl tk (by simp [gd]) F.x_BadMachine rfl rfl)
  zss_nil)
  zss_nil)
  (zss_cons (zs_for hp rfl (zi_val rfl (ev 2)) (gv 3 nd)
  (zss_cons (zs_ite (L2.PW.pt (zw_and (zt_notN (ev 3)) (pw_and1 (L2.PW.pt (zw_or (zt_not (zt_val rfl (ze_call tk I.d6 hr0 rfl F.m6 (za_cons (ev 3) (za_cons (ev 1) za_nil rfl) rfl) rfl rfl rfl) (fun _ => rfl))) (pw_or1 (zt_cmp rfl (or_gt rfl) (ze_callB (cr_len rfl) rfl F.b_len rfl (za_cons (ev 3) za_nil rfl) (by decide) rfl rfl rfl) (eg_int F.g_MOST_WORD rfl rfl) rfl)))))))
  (zss_cons (zs_rai F.ex rfl tk (by simp [gd]) F.x_BadMachine rfl rfl)
  zss_nil)
  zss_nil)
  zss_nil) (fun _ => rfl))
  (zss_cons (zs_fld F.cls (fun _ h => of_decide_eq_true h) (ev 0) (ev 1) rfl)
  (zss_cons (zs_fld F.cls (fun _ h => of_decide_eq_true h) (ev 0) (ze_callTy (cr_list rfl) rfl F.b_list rfl (za_cons (ev 2) za_nil rfl) (by decide) rfl rfl rfl) rfl)
  zss_nil)))))
theorem sc4 : FnScope ["_law_draws_here", "_law_most", "_law_letters", "_law_words", "_law_k", "_law_draw", "_law_word", "_law_j"] ["_law_draws_here", "_law_most"] (defScope (top 11)) := ⟨rfl, rfl, rfl, by decide +kernel, rfl, by decide +kernel, by decide +kernel⟩
theorem w4 (F : Fc Y f ca) (I : Okk Y f ca k) : FnF (gd Y.K ca) Y (2 * (k + 1)) ((lev TB (k + 1)).fn "" "_law_tag") (f 4) :=
  fn_step (d := ⟨2, 8, ir__law_tag_c5b269⟩) rfl rfl rfl F.f4 sc4 F.k4 fun cdv A outer s H E hr tk hp => by
    have nd := sc4.nd
    have hr0 := hr.mono (Nat.le_succ (2 * k))
    have hu := hr.units
    exact (zss_cons (zs_asg (ze_bin (or_add rfl) ei (ze_bin (or_mod rfl) (ze_callTy (cr_int rfl) rfl F.b_int rfl (za_cons (ze_idx rfl (ev 0) ei (fun _ _ => rfl)) za_nil rfl) (by decide) rfl rfl rfl) (ev 1))) (gv 2 nd) rfl rfl rfl)
  (zss_cons (zs_asg (ze_lst rfl za_nil) (gv 3 nd) rfl rfl rfl)
  (zss_cons (zs_for hp rfl (zi_rng1 rfl F.b_range (ev 2) rfl) (gv 4 nd)
  (zss_cons (zs_asg (ze_idx rfl (ev 0) (ze_bin (or_add rfl) ei (ev 4)) (fun _ _ => rfl)) (gv 5 nd) rfl rfl rfl)
  (zss_cons (zs_asg (ze_callTy (cr_tuple rfl) rfl F.b_tuple rfl (za_cons (ze_lc (g := (gName 7)) rfl nd (zi_rng1 rfl F.b_range (ze_bin (or_mod rfl) (ze_callTy (cr_int rfl) rfl F.b_int rfl (za_cons (ev 5) za_nil rfl) (by decide) rfl rfl rfl) ei) rfl) (blkOk_by (own := [("_law_j", 7)]) rfl) rfl (ct_one 7) (fun _ _ _ _ _ => pg_name (i := 7) nd rfl (Or.inl rfl) (Or.inr rfl)) (fun _ _ _ _ _ => pts0) (fun _ _ _ _ _ => (ze_bin (or_mod rfl) (ze_callTy (cr_int rfl) rfl F.b_int rfl (za_cons (ze_bin (or_add rfl) (ze_bin (or_fdiv rfl) (ev 5) (ze_bin (or_add rfl) (ev 7) ei)) (ze_bin (or_mul rfl) ei (ev 7))) za_nil rfl) (by decide) rfl rfl rfl) (ev 2))) (fun _ => rfl)) za_nil rfl) (by decide) rfl rfl rfl) (gv 6 nd) rfl rfl rfl)
  (zss_cons (zs_ex (ze_append rfl (ev 3) (ze_idx rfl (ze_lst rfl (za_cons (ev 6) (za_cons en za_nil rfl) rfl)) (ze_callTy (cr_int rfl) rfl F.b_int rfl (za_cons (ze_cmp (or_eq rfl hu) (ze_bin (or_mod rfl) (ze_callTy (cr_int rfl) rfl F.b_int rfl (za_cons (ze_bin (or_fdiv rfl) (ev 5) ei) za_nil rfl) (by decide) rfl rfl rfl) ei) ei rfl) za_nil rfl) (by decide) rfl rfl rfl) (fun _ _ => rfl)) rfl rfl rfl) rfl)
  zss_nil))) (fun _ => rfl))
  (zss_cons (zs_ret (ze_tup rfl (za_cons (ev 2) (za_cons (ev 3) za_nil rfl) rfl)))
  zss_nil))))
theorem sc5 : FnScope ["_law_script", "_law_many", "_law_draws_here", "_law_seed", "_law_cell", "_law_k", "_law_number"] ["_law_script", "_law_many"] (defScope (top 10)) := ⟨rfl, rfl, rfl, by decide +kernel, rfl, by decide +kernel, by decide +kernel⟩
theorem w5 (F : Fc Y f ca) (I : Okk Y f ca k) : FnF (gd Y.K ca) Y (2 * (k + 1)) ((lev TB (k + 1)).fn "" "_law_draws") (f 5) :=
  fn_step (d := ⟨2, 7, ir__law_draws_4873db⟩) rfl rfl rfl F.f5 sc5 F.k5 fun cdv A outer s H E hr tk hp => by
    have nd := sc5.nd
    have hr0 := hr.mono (Nat.le_succ (2 * k))
    have hu := hr.units
    exact (zss_cons (zs_asg (ze_lst rfl za_nil) (gv 2 nd) rfl rfl rfl)
  (zss_cons (zs_asg ei (gv 3 nd) rfl rfl rfl)
  (zss_cons (zs_for hp rfl (zi_val rfl (ze_sl01 rfl (ev 0) ei)) (gv 4 nd)
  (zss_cons (zs_asg (ze_callB (cr_abs rfl) rfl F.b_abs rfl (za_cons (ev 4) za_nil rfl) (by decide) rfl rfl rfl) (gv 6 nd) rfl rfl rfl)
  (zss_cons (zs_asg (ze_bin (or_mod rfl) (ze_callTy (cr_int rfl) rfl F.b_int rfl (za_cons (ze_bin (or_add rfl) (ze_bin (or_add rfl) (ze_bin (or_mul rfl) (ev 3) ei) (ev 6)) ei) za_nil rfl) (by decide) rfl rfl rfl) ei) (gv 3 nd) rfl rfl rfl)
  (zss_cons (zs_ite (zt_cmp rfl (or_ge rfl) (ev 6) (ze_bin (or_pow rfl) ei ei) rfl)
  (zss_cons (zs_for hp rfl (zi_rng1 rfl F.b_range ei rfl) (gv 5 nd)
  (zss_cons (zs_ite (zt_cmp rfl (or_gt rfl) (ev 6) ei rfl)
  (zss_cons (zs_ex (ze_append rfl (ev 2) (ze_bin (or_mod rfl) (ze_callTy (cr_int rfl) rfl F.b_int rfl (za_cons (ev 6) za_nil rfl) (by decide) rfl rfl rfl) ei) rfl rfl rfl) rfl)
  (zss_cons (zs_asg (ze_bin (or_fdiv rfl) (ev 6) ei) (gv 6 nd) rfl rfl rfl)
  zss_nil))
  zss_nil)
  zss_nil) (fun _ => rfl))
  zss_nil)
  (zss_cons (zs_ex (ze_append rfl (ev 2) (ze_bin (or_mod rfl) (ze_bin (or_fdiv rfl) (ze_callTy (cr_int rfl) rfl F.b_int rfl (za_cons (ze_bin (or_add rfl) (ze_bin (or_mul rfl) (ev 3) ei) ei) za_nil rfl) (by decide) rfl rfl rfl) ei) ei) rfl rfl rfl) rfl)
  zss_nil))
  zss_nil))) (fun _ => rfl))
  (zss_cons (zs_for hp rfl (zi_rng1 rfl F.b_range (ev 1) rfl) (gv 5 nd)
  (zss_cons (zs_ite (zt_cmp rfl (or_lt rfl) (ze_callB (cr_len rfl) rfl F.b_len rfl (za_cons (ev 2) za_nil rfl) (by decide) rfl rfl rfl) (ev 1) rfl)
  (zss_cons (zs_asg (ze_bin (or_mod rfl) (ze_callTy (cr_int rfl) rfl F.b_int rfl (za_cons (ze_bin (or_add rfl) (ze_bin (or_add rfl) (ze_bin (or_mul rfl) (ev 3) ei) (ev 5)) ei) za_nil rfl) (by decide) rfl rfl rfl) ei) (gv 3 nd) rfl rfl rfl)
  (zss_cons (zs_ex (ze_append rfl (ev 2) (ze_bin (or_mod rfl) (ze_bin (or_fdiv rfl) (ze_callTy (cr_int rfl) rfl F.b_int rfl (za_cons (ev 3) za_nil rfl) (by decide) rfl rfl rfl) ei) ei) rfl rfl rfl) rfl)
  zss_nil))
  zss_nil)
  zss_nil) (fun _ => rfl))
  (zss_cons (zs_ret (ze_sl01 rfl (ev 2) (ev 1)))
  zss_nil)))))
theorem sc6 : FnScope ["value", "letters", "letter"] ["value", "letters"] (defScope (top 7)) := ⟨rfl, rfl, rfl, by decide +kernel, rfl, by decide +kernel, by decide +kernel⟩
theorem w6 (F : Fc Y f ca) (I : Okk Y f ca k) : FnF (gd Y.K ca) Y (2 * (k + 1)) ((lev TB (k + 1)).fn "" "is_row") (f 6) :=
  fn_step (d := ⟨2, 3, ir_is_row_a5df9b⟩) rfl rfl rfl F.f6 sc6 F.k6 fun cdv A outer s H E hr tk hp => by
    have nd := sc6.nd
    have hr0 := hr.mono (Nat.le_succ (2 * k))
    have hu := hr.units
    exact (zss_cons (zs_ret (ze_and rfl (ze_isi rfl (by decide) rfl F.b_isinstance (ev 0) (pe_bltn (v := .ty "tuple") (u := .type "tuple") rfl F.b_tuple rfl rfl) rfl) (ze_one (ze_callB (cr_allZ rfl rfl) rfl F.b_all rfl (za_cons (ze_lc (g := (gName 2)) rfl nd (zi_val rfl (ev 0)) (blkOk_by (own := [("letter", 2)]) rfl) rfl (ct_one 2) (fun _ _ _ _ _ => pg_name (i := 2) nd rfl (Or.inl rfl) (Or.inr rfl)) (fun _ _ _ _ _ => pts0) (fun _ _ _ _ _ => (ze_call takes0 I.d7 hr0 rfl F.m7 (za_cons (ev 2) (za_cons ei (za_cons (ze_bin (or_sub rfl) (ev 1) ei) za_nil rfl) rfl) rfl) rfl rfl rfl)) (fun _ => rfl)) za_nil rfl) (by decide) rfl rfl rfl))))
  zss_nil)
theorem sc7 : FnScope ["value", "least", "most"] ["value", "least", "most"] (defScope (top 6)) := ⟨rfl, rfl, rfl, by decide +kernel, rfl, by decide +kernel, by decide +kernel⟩
theorem w7 (F : Fc Y f ca) (I : Okk Y f ca k) : FnF (gd Y.K ca) Y (2 * (k + 1)) ((lev TB (k + 1)).fn "" "is_integer") (f 7) :=
  fn_step (d := ⟨3, 3, ir_is_integer_344730⟩) rfl rfl rfl F.f7 sc7 F.k7 fun cdv A outer s H E hr tk hp => by
    have nd := sc7.nd
    have hr0 := hr.mono (Nat.le_succ (2 * k))
    have hu := hr.units
    exact (zss_cons (zs_ret (ze_and rfl (ze_isi rfl (by decide) rfl F.b_isinstance (ev 0) (pe_bltn (v := .ty "int") (u := .type "int") rfl F.b_int rfl rfl) rfl) (ze_and rfl (ze_not rfl (ze_isi rfl (by decide) rfl F.b_isinstance (ev 0) (pe_bltn (v := .ty "bool") (u := .type "bool") rfl F.b_bool rfl rfl) rfl)) (ze_one (ze_chain (or_le rfl) (or_le rfl) (ev 1) (ev 0) (ev 2) rfl)))))
  zss_nil)
theorem sc8 : FnScope ["self"] ["self"] (defScope (inClass (top 8) 2)) := ⟨rfl, rfl, rfl, by decide +kernel, rfl, by decide +kernel, by decide +kernel⟩
theorem w8 (F : Fc Y f ca) (I : Okk Y f ca k) : FnF (gd Y.K ca) Y (2 * (k + 1)) ((lev TB (k + 1)).fn "Tag" "table") (f 8) :=
  fn_step (d := ⟨1, 1, ir_Tag_table_e87d90⟩) rfl rfl rfl F.f8 sc8 F.k8 fun cdv A outer s H E hr tk hp => by
    have nd := sc8.nd
    have hr0 := hr.mono (Nat.le_succ (2 * k))
    have hu := hr.units
    exact (zss_cons (zs_ret (ze_callTy (cr_list rfl) rfl F.b_list rfl (za_cons (ze_att F.cls (ev 0) rfl) za_nil rfl) (by decide) rfl rfl rfl))
  zss_nil)
theorem sc9 : FnScope ["self", "value"] ["self", "value"] (defScope (inClass (top 8) 3)) := ⟨rfl, rfl, rfl, by decide +kernel, rfl, by decide +kernel, by decide +kernel⟩
theorem w9 (F : Fc Y f ca) (I : Okk Y f ca k) : FnF (gd Y.K ca) Y (2 * (k + 1)) ((lev TB (k + 1)).fn "Tag" "is_configuration") (f 9) :=
  fn_step (d := ⟨2, 2, ir_Tag_is_configuration_e25c6d⟩) rfl rfl rfl F.f9 sc9 F.k9 fun cdv A outer s H E hr tk hp => by
    have nd := sc9.nd
    have hr0 := hr.mono (Nat.le_succ (2 * k))
    have hu := hr.units
    exact (zss_cons (zs_ret (ze_call tk I.d6 hr0 rfl F.m6 (za_cons (ev 1) (za_cons (ze_att F.cls (ev 0) rfl) za_nil rfl) rfl) rfl rfl rfl))
  zss_nil)
theorem sc10 : FnScope ["self", "configuration", "steps", "row", "at", "taken"] ["self", "configuration", "steps"] (defScope (inClass (top 8) 6)) := ⟨rfl, rfl, rfl, by decide +kernel, rfl, by decide +kernel, by decide +kernel⟩
theorem w10 (F : Fc Y f ca) (I : Okk Y f ca k) : FnF (gd Y.K ca) Y (2 * (k + 1)) ((lev TB (k + 1)).fn "Tag" "run") (f 10) :=
  fn_step (d := ⟨3, 6, ir_Tag_run_fe4180⟩) rfl rfl rfl F.f10 sc10 F.k10 fun cdv A outer s H E hr tk hp => by
    have nd := sc10.nd
    have hr0 := hr.mono (Nat.le_succ (2 * k))
    have hu := hr.units
    exact (zss_cons (zs_asg (ze_callTy (cr_list rfl) rfl F.b_list rfl (za_cons (ev 1) za_nil rfl) (by decide) rfl rfl rfl) (gv 3 nd) rfl rfl rfl)
  (zss_cons (zs_asg ei (gv 4 nd) rfl rfl rfl)
  (zss_cons (zs_asg ei (gv 5 nd) rfl rfl rfl)
  (zss_cons (zs_whl hp (L2.PW.pt (zw_and (zt_cmp rfl (or_lt rfl) (ev 5) (ev 2) rfl) (zw_and (zt_cmp rfl (or_lt rfl) (ev 4) (ze_callB (cr_len rfl) rfl F.b_len rfl (za_cons (ev 3) za_nil rfl) (by decide) rfl rfl rfl) rfl) (pw_and1 (zt_notN (ze_idx rfl (ze_att F.cls (ev 0) rfl) (ze_idx rfl (ev 3) (ev 4) (fun _ _ => rfl)) (fun _ _ => rfl)))))))
  (zss_cons (zs_ex (ze_extend rfl (ev 3) (ze_idx rfl (ze_att F.cls (ev 0) rfl) (ze_idx rfl (ev 3) (ev 4) (fun _ _ => rfl)) (fun _ _ => rfl)) rfl rfl rfl) rfl)
  (zss_cons (zs_aug (Or.inl ⟨rfl, rfl⟩) nd (j := 4) rfl (Or.inl rfl) ei (Or.inl rfl))
  (zss_cons (zs_aug (Or.inl ⟨rfl, rfl⟩) nd (j := 5) rfl (Or.inl rfl) ei (Or.inl rfl))
  zss_nil))))
  (zss_cons (zs_ret (ze_tup rfl (za_cons (ze_callTy (cr_tuple rfl) rfl F.b_tuple rfl (za_cons (ze_sl10 rfl (ev 3) (ev 4)) za_nil rfl) (by decide) rfl rfl rfl) (za_cons (ev 5) za_nil rfl) rfl)))
  zss_nil)))))
theorem sc11 : FnScope ["self", "configuration"] ["self", "configuration"] (defScope (inClass (top 8) 4)) := ⟨rfl, rfl, rfl, by decide +kernel, rfl, by decide +kernel, by decide +kernel⟩
theorem w11 (F : Fc Y f ca) (I : Okk Y f ca k) : FnF (gd Y.K ca) Y (2 * (k + 1)) ((lev TB (k + 1)).fn "Tag" "stopped") (f 11) :=
  fn_step (d := ⟨2, 2, ir_Tag_stopped_ddd5ea⟩) rfl rfl rfl F.f11 sc11 F.k11 fun cdv A outer s H E hr tk hp => by
    have nd := sc11.nd
    have hr0 := hr.mono (Nat.le_succ (2 * k))
    have hu := hr.units
    exact (zss_cons (zs_ret (ze_or rfl (ze_cmp (or_eq rfl hu) (ze_callB (cr_len rfl) rfl F.b_len rfl (za_cons (ev 1) za_nil rfl) (by decide) rfl rfl rfl) ei rfl) (ze_one (ze_isN (ze_idx rfl (ze_att F.cls (ev 0) rfl) (ze_idx rfl (ev 1) ei (fun _ _ => rfl)) (fun _ _ => rfl))))))
  zss_nil)
theorem sc12 : FnScope ["self", "configuration"] ["self", "configuration"] (defScope (inClass (top 8) 5)) := ⟨rfl, rfl, rfl, by decide +kernel, rfl, by decide +kernel, by decide +kernel⟩
theorem w12 (F : Fc Y f ca) (I : Okk Y f ca k) : FnF (gd Y.K ca) Y (2 * (k + 1)) ((lev TB (k + 1)).fn "Tag" "step") (f 12) :=
  fn_step (d := ⟨2, 2, ir_Tag_step_beb46c⟩) rfl rfl rfl F.f12 sc12 F.k12 fun cdv A outer s H E hr tk hp => by
    have nd := sc12.nd
    have hr0 := hr.mono (Nat.le_succ (2 * k))
    have hu := hr.units
    exact (zss_cons (zs_ite (zt_val rfl (ze_meth F.cls tk (me_stopped F I) hr0 (ev 0) (za_cons (ev 1) za_nil rfl) rfl rfl rfl) (fun _ => rfl))
  (zss_cons (zs_ret en)
  zss_nil)
  zss_nil)
  (zss_cons (zs_ret (ze_sl10 rfl (ze_bin (or_add rfl) (ev 1) (ze_idx rfl (ze_att F.cls (ev 0) rfl) (ze_idx rfl (ev 1) ei (fun _ _ => rfl)) (fun _ _ => rfl))) ei))
  zss_nil))
theorem sc13 : FnScope ["self", "letter"] ["self", "letter"] (defScope (inClass (top 8) 1)) := ⟨rfl, rfl, rfl, by decide +kernel, rfl, by decide +kernel, by decide +kernel⟩
theorem w13 (F : Fc Y f ca) (I : Okk Y f ca k) : FnF (gd Y.K ca) Y (2 * (k + 1)) ((lev TB (k + 1)).fn "Tag" "word") (f 13) :=
  fn_step (d := ⟨2, 2, ir_Tag_word_584a3a⟩) rfl rfl rfl F.f13 sc13 F.k13 fun cdv A outer s H E hr tk hp => by
    have nd := sc13.nd
    have hr0 := hr.mono (Nat.le_succ (2 * k))
    have hu := hr.units
    exact (zss_cons (zs_ite (zt_not (zt_val rfl (ze_call tk I.d7 hr0 rfl F.m7 (za_cons (ev 1) (za_cons ei (za_cons (ze_bin (or_sub rfl) (ze_att F.cls (ev 0) rfl) ei) za_nil rfl) rfl) rfl) rfl rfl rfl) (fun _ => rfl)))
  (zss_cons (zs_rai F.ex rfl tk (by simp [gd]) F.x_BadMachine rfl rfl)
  zss_nil)
  zss_nil)
  (zss_cons (zs_ret (ze_idx rfl (ze_att F.cls (ev 0) rfl) (ev 1) (fun _ _ => rfl)))
  zss_nil))
theorem okk (F : Fc Y f ca) : ∀ k, Okk Y f ca k
  | 0 => ⟨trivial, fn_zero F.f1 F.k1, fn_zero F.f2 F.k2, fn_zero F.f3 F.k3, fn_zero F.f4 F.k4, fn_zero F.f5 F.k5, fn_zero F.f6 F.k6, fn_zero F.f7 F.k7, fn_zero F.f8 F.k8, fn_zero F.f9 F.k9, fn_zero F.f10 F.k10, fn_zero F.f11 F.k11, fn_zero F.f12 F.k12, fn_zero F.f13 F.k13⟩
  | k + 1 => have I := okk F k; ⟨trivial, w1 F I, w2 F I, w3 F I, w4 F I, w5 F I, w6 F I, w7 F I, w8 F I, w9 F I, w10 F I, w11 F I, w12 F I, w13 F I⟩
end
end Z
set_option Elab.async false
set_option linter.all false
set_option maxRecDepth 100000
set_option maxHeartbeats 4000000
set_option pp.maxSteps 60
namespace Z
open PySem (Str Addr sizeLine PyData)
theorem okTag_of {ws : List (Option (List Int))} (hw : TWords ws.length 4 ws) (h1 : 1 ≤ ws.length) (h2 : ws.length ≤ 20000) : okTag (.int ws.length) (ws.map wD) := by
  refine ⟨?_, by rw [List.length_map], ?_⟩
  · unfold isIntD
    simp only [Bool.and_eq_true, decide_eq_true_eq]
    omega
  rw [List.all_map, List.all_eq_true]
  intro w h
  show okTW _ (wD w) = true
  unfold okTW
  cases w with
  | none => rfl
  | some l =>
    have q := hw _ h l rfl
    rw [List.length_map]
    have e : isRowD ws.length (wD (some l)) = true := isRow_ints q.2
    rw [e]
    show (false || (true && decide ((l.map D.int).length ≤ 6))) = true
    rw [List.length_map]
    simp only [zq, decide_eq_true_eq]
    omega
theorem tword_size {n : Nat} {ws : List (Option (List Int))} (hw : TWords n 4 ws) : ∀ w ∈ ws.map wD, ∀ xs, w = .tup xs → xs.length ≤ 1000000 := fun w h xs e => by
  obtain ⟨v, hv, rfl⟩ := List.mem_map.1 h
  cases v with
  | none => cases e
  | some l =>
    cases e
    rw [List.length_map]
    exact Nat.le_trans (hw _ hv l rfl).1 (by decide)
theorem rowRefl (row : List Int) {h : DH} {k : Bool → Prop} (q : k true) (t : Int) : eqG (.tup [.tup (row.map .int), .int t]) (.tup [.tup (row.map .int), .int t]) h k :=
  eqG_same (by simp [nS, nSL, nSL_ints]) (by simp [dpD, dpL, dpL_ints]) q
theorem law_ok : LawOk ((lev TB 4).fn "" "law") := by
  intro ns hl hb
  rw [lev_fn (k := 3) (d := ⟨1, 15, ir_law_64dcfd⟩) rfl]
  refine ⟨rfl, ?_⟩
  show wSs _ ir_law_64dcfd _ [_, none, none, none, none, none, none, none, none, none, none, none, none, none, none] _
  unfold ir_law_64dcfd
  refine seqR ?_
  simp only [zz]
  refine sp_draws3 (k := 2) rfl (m := 60) (by decide) fun d h1 ds ex1 hd0 eD el dr => rest (seqR ?_)
  have g : ∀ i : Nat, i < 60 → ∃ x : Int, ds[i]? = some x ∧ 0 ≤ x ∧ x < 65537 := fun i hi => ⟨ds[i]'(by omega), List.getElem?_eq_getElem _, dr _ (List.getElem_mem _)⟩
  have ga : ∀ (i : Nat) (x : Int), ds[i]? = some x → L2.atI (ds.map D.int) (i : Int) = some (.int x) := fun i x e => by rw [atI_nat, List.getElem?_map, e]; rfl
  -- the machine's numbers
  obtain ⟨x59, g59, l59, u59⟩ := g 59 (by decide)
  have a59 := ga 59 x59 g59
  simp only [zz]
  intro m1 hm1
  have dm1 := ne_of hm1 eD
  have eD2 : dput h1 m1 (.lst [.int 6, .int 30]) d = some (.lst (ds.map .int)) := by rw [dput_ne dm1]; exact eD
  rw [lsK_of eD2]
  refine ⟨_, a59, ?_⟩
  simp only [zz]
  refine ⟨by decide, ?_⟩
  have pick : ∃ m : Nat, (m = 6 ∨ m = 30) ∧ L2.atI [D.int 6, D.int 30] (if x59 % 10 = 0 then 1 else 0) = some (.int m) := by
    by_cases c : x59 % 10 = 0
    · rw [if_pos c]; exact ⟨30, .inr rfl, atI_one⟩
    · rw [if_neg c]; exact ⟨6, .inl rfl, atI_zero⟩
  obtain ⟨m, hm, em⟩ := pick
  refine ⟨_, em, ?_⟩
  refine sp_law_tag (k := 2) rfl (m := m) (by omega) eD2 (by omega) dr fun w h2 ws hw0 ex2 eW l1 l2 hw => ?_
  simp only [zz, zy, true_and, List.length_cons, List.length_nil]
  refine rest (seqR ?_)
  have eD3 := ex2 _ _ eD2
  have npos : (0 : Int) < ws.length := by omega
  simp only [zz, lsK_of eW]
  intro gv hg
  have wg := ne_of hg eW
  have dg := ne_of hg eD3
  refine rest (seqR ?_)
  have eW3 : dput h2 gv (.lst (ws.map wD)) w = some (.lst (ws.map wD)) := by rw [dput_ne wg]; exact eW
  have eD4 : dput h2 gv (.lst (ws.map wD)) d = some (.lst (ds.map .int)) := by rw [dput_ne dg]; exact eD3
  have eG3 : dput h2 gv (.lst (ws.map wD)) gv = some (.lst (ws.map wD)) := dput_same
  generalize dput h2 gv (.lst (ws.map wD)) = h3 at eW3 eD4 eG3
  simp only [zz, zy]
  intro a ha
  have gne := ne_of ha eG3
  refine sp_tag_init (k := 0) rfl rfl rfl rfl rfl (ws := ws.map wD) dput_same (by rw [dput_ne gne]; exact eG3) trivial (fun v hv => by obtain ⟨v, _, rfl⟩ := List.mem_map.1 hv; exact knR_word v) (tword_size hw)
    (fun ok h4 w2 hw2 xb eA eW2 => ⟨rfl, rest (seqR ?_)⟩) (fun no => absurd (okTag_of hw l1 (by omega)) no)
  have eW4 : h4 w = some (.lst (ws.map wD)) := xb _ _ (ne_of ha eW3) (by rw [dput_ne (ne_of ha eW3)]; exact eW3)
  have eD5 : h4 d = some (.lst (ds.map .int)) := xb _ _ (ne_of ha eD4) (by rw [dput_ne (ne_of ha eD4)]; exact eD4)
  have eG4 : h4 gv = some (.lst (ws.map wD)) := xb _ _ gne (by rw [dput_ne gne]; exact eG3)
  have g2 : gv ≠ w2 := ne_of hw2 (show dput h3 a _ gv = some _ by rw [dput_ne gne]; exact eG3)
  rw [List.length_map] at eA
  simp only [zz, lsK_of eG4, List.length_map]
  refine ⟨trivial, Nat.lt_of_le_of_lt (show ws.length ≤ 30 by omega) (by decide), rest (seqR ?_)⟩
  have eW5 : dput h4 gv (.lst (ws.map wD ++ [D.non])) w = some (.lst (ws.map wD)) := by rw [dput_ne wg]; exact eW4
  have eD6 : dput h4 gv (.lst (ws.map wD ++ [D.non])) d = some (.lst (ds.map .int)) := by rw [dput_ne dg]; exact eD5
  have eR5 : TagAt (dput h4 gv (.lst (ws.map wD ++ [D.non]))) a ws := ⟨w2, by rw [dput_ne (Ne.symm gne)]; exact eA, by rw [dput_ne (Ne.symm g2)]; exact eW2⟩
  generalize dput h4 gv (.lst (ws.map wD ++ [D.non])) = h5 at eW5 eD6 eR5
  have eo := eR5
  obtain ⟨w3, eo5, ew5⟩ := eo
  have main : ∀ h8, Ext h5 h8 → TagAt h8 a ws ∧ h8 a = some (.ins "Tag" [("letters", .int ws.length), ("_words", .ref w3)]) ∧ h8 w = some (.lst (ws.map wD)) ∧ h8 d = some (.lst (ds.map .int)) := fun h8 ex => ⟨eR5.ext ex, ex _ _ eo5, ex _ _ eW5, ex _ _ eD6⟩
  simp only [zz, zy]
  rw [att_of eo5 rfl]
  simp only [zz, zy, decide_true, eo5, zq]
  refine ⟨rfl, sp_tag_table (k := 2) rfl eR5 fun t2 h8 ht2 ex8 eT2 => ?_⟩
  obtain ⟨eR8, eA8, eW8, eD8⟩ := main h8 ex8
  simp only [zz]
  refine eqG_refs eT2 eW8 (nSL_words ws) (Nat.le_trans (dpL_words ws) (by decide)) ?_
  simp only [zq, zz]
  refine ⟨⟨by omega, by omega⟩, ?_⟩
  rw [Int.toNat_natCast]
  refine lcK_rng (fun h' => h' = h8) (fun i => wD ws[i]?.join) (fun i hi h' k e hk => ?_) (by show _ ≤ 16777216; omega) rfl (fun h' e => ?_)
  · subst e
    simp only [zz, zy, eA8]
    refine ⟨rfl, sp_tag_word (k := 1) rfl rfl eR8 trivial (fun x ex hx0 hx1 => ?_) (fun hf => ?_)⟩
    · cases ex
      have := hk h' rfl
      rw [show (0 + (i : Int)).toNat = i by omega]
      exact this
    · exfalso
      unfold isIntD at hf
      simp only [Bool.and_eq_false_iff, decide_eq_false_iff_not] at hf
      omega
  subst e
  intro b hb2
  have wl : (List.range ws.length).map (fun i => wD ws[i]?.join) = ws.map wD := by
    apply List.ext_getElem?
    intro i
    rw [List.getElem?_map, List.getElem?_map]
    by_cases hi : i < ws.length
    · rw [List.getElem?_range hi]
      show some (wD ws[i]?.join) = _
      rw [List.getElem?_eq_getElem hi]
      rfl
    · rw [List.getElem?_eq_none (by simpa using hi), List.getElem?_eq_none (by omega)]; rfl
  rw [wl]
  have bw := ne_of hb2 eW8
  simp only [zz]
  refine eqG_refs dput_same (by rw [dput_ne bw]; exact eW8) (nSL_words ws) (Nat.le_trans (dpL_words ws) (by decide)) ?_
  simp only [zq, zz]
  have ex9 : Ext h5 (dput h' b (.lst (ws.map wD))) := ex8.trans (Ext.new hb2)
  generalize dput h' b (.lst (ws.map wD)) = h9 at ex9
  obtain ⟨eR9, eA9, eW9, eD9⟩ := main h9 ex9
  refine rest (seqR ?_)
  simp only [zz, zy, eA9]
  refine ⟨rfl, sp_tag_table (k := 2) rfl eR9 fun t h6 ht ex6 eT => rest (seqR ?_)⟩
  simp only [zz, zy, lsK_of eT]
  refine ⟨trivial, rest (seqR ?_)⟩
  have ex10 : Ext h5 (dput h6 t (.lst [])) := ex9.trans (ex6.put ht)
  generalize dput h6 t (.lst []) = h10 at ex10
  obtain ⟨eR10, eA10, eW10, eD10⟩ := main h10 ex10
  -- the row
  have c35 : cut (ds.map D.int) (some 35) none = (ds.drop 35).map D.int := by rw [List.map_drop]; exact cut_drop (n := 35)
  simp only [zz, lsK_of eD10, c35]
  intro d2 hd2
  have dd2 := ne_of hd2 eD10
  obtain ⟨x34, g34, l34, u34⟩ := g 34 (by decide)
  have a34 := ga 34 x34 g34
  have eD11 : dput h10 d2 (.lst ((ds.drop 35).map .int)) d = some (.lst (ds.map .int)) := by rw [dput_ne dd2]; exact eD10
  rw [lsK_of eD11]
  refine ⟨_, a34, ?_⟩
  simp only [zz]
  have m34 := Int.emod_nonneg x34 (show (15 : Int) ≠ 0 by decide)
  have m34' := Int.emod_lt_of_pos x34 (show (0 : Int) < 15 by decide)
  refine ⟨by decide, ?_⟩
  obtain ⟨rn, hrn⟩ : ∃ rn : Nat, x34 % 15 = (rn : Int) := ⟨(x34 % 15).toNat, by omega⟩
  rw [hrn]
  refine sp_law_row (k := 2) rfl (n := ws.length) l1 (by omega) dput_same (by rw [List.length_drop]; omega) fun h11 row ex11 rl hrow => rest (seqR ?_)
  have ex12 : Ext h5 h11 := (ex10.trans (Ext.new hd2)).trans ex11
  obtain ⟨eR11, eA11, eW11, eD12⟩ := main h11 ex12
  simp only [zz, zy]
  refine rest (seqR ?_)
  obtain ⟨x50, g50, l50, u50⟩ := g 50 (by decide)
  have a50 := ga 50 x50 g50
  have m50 := Int.emod_nonneg x50 (show (21 : Int) ≠ 0 by decide)
  have m50' := Int.emod_lt_of_pos x50 (show (0 : Int) < 21 by decide)
  simp only [zz, lsK_of eD12]
  refine ⟨_, a50, ?_⟩
  simp only [zz]
  refine ⟨by decide, rest (seqR ?_)⟩
  obtain ⟨s, hs⟩ : ∃ s : Nat, x50 % 21 = (s : Int) := ⟨(x50 % 21).toNat, by omega⟩
  rw [hs]
  have sl : s ≤ 20 := by omega
  have goodk : ∀ k, Row ws.length (itRun (tgStep ws) k row).1 ∧ (itRun (tgStep ws) k row).1.length ≤ 14 + 4 * k :=
    itRun_inv (fun k c => Row ws.length c ∧ c.length ≤ 14 + 4 * k) (fun k c p => ⟨p.1, by omega⟩) (fun k c d p h => by
      have := tgStep_row hw p.1 h
      exact ⟨this.1, by omega⟩) ⟨hrow, by omega⟩
  refine for_rng (n := s) (by omega) (fun k σ h' => ∃ x7 x13 x14 : Option D, σ = [some (.fl (ns.map .int)), some (.ref d), some (.ref gv), some (.ref a), some (.ref t), some (.tup ((itRun (tgStep ws) k row).1.map .int)), some (.int s), x7, none, some (.int ws.length), some (.ref w), some (.tup (row.map .int)), some (.int (itRun (tgStep ws) k row).2), x13, x14] ∧ Ext h5 h')
    (fun Q hQ => by simp only [zz]; exact hQ _ ⟨none, none, none, rfl, ex12⟩) ?_ ?_
  · rintro k σ h' N' hk ⟨x7, x13, x14, rfl, ex⟩ hN'
    obtain ⟨eR, eA, eW, eD⟩ := main h' ex
    have gk := goodk k
    generalize hc : itRun (tgStep ws) k row = ck at gk
    obtain ⟨cr, tk⟩ := ck
    have lb : cr.length ≤ 14 + 4 * k := gk.2
    have gr : Row ws.length cr := gk.1
    refine seqR ?_
    simp only [zz, zy, eA]
    refine ⟨rfl, sp_tag_iscfg (k := 0) rfl rfl rfl eR KnR.ints (fun xs e => by cases e; rw [List.length_map]; omega) fun h1 ex1 => ?_⟩
    obtain ⟨eR1, eA1, eW1, eD1⟩ := main h1 (ex.trans ex1)
    rw [isRow_ints gr]
    simp only [zz, zy, decide_true, zq]
    refine rest (seqR ?_)
    simp only [zz]
    refine sp_law_tag_step (k := 2) rfl gr (m := 4) (by decide) hw (by omega) eW1 (rest (seqR ?_))
    simp only [zz, zy, eA1]
    refine ⟨rfl, sp_tag_step (k := 1) rfl rfl rfl gr (m := 4) (by decide) hw (by omega) eR1 (rest (seqR ?_))⟩
    have sn := itRun_snoc (tgStep ws) k row
    rw [hc] at sn
    have stp : (lev TB 3).has "Tag" "stopped" = true := rfl
    have run : ∀ h4, Ext h5 h4 → ∀ Q : DK, (∀ h', Ext h4 h' → Q (.tup [.tup (cr.map .int), .int tk]) h') → (lev TB 3).fn "Tag" "run" [.ref a, .tup (row.map .int), .int k] h4 Q (fun _ _ _ => False) := fun h4 e4 Q hQ =>
      sp_tag_run (k := 2) rfl hrow (m := 4) hw (by omega) (main h4 e4).1 fun h' e => by rw [hc]; exact hQ h' e
    cases hst : tgStep ws cr with
    | none =>
      rw [hst] at sn
      simp only [zz, zn, zy, zq, eA1]
      refine ⟨rfl, sp_tag_stopped (k := 2) rfl gr eR1 ?_⟩
      rw [hst]
      simp only [zz, zq, Option.isNone_none, isNon, decide_true, zy, eA1]
      refine ⟨rfl, run h1 (ex.trans ex1) _ fun h4 e4 => ?_⟩
      simp only [zz]
      refine rowRefl _ ?_ _
      simp only [zz, zq]
      refine rest (seqR ?_)
      simp only [zz, isNon, zq]
      refine rest (seqN (hN' _ _ ⟨some (.int k), some .non, some .non, ?_, (ex.trans ex1).trans e4⟩))
      rw [sn]
    | some cd =>
      rw [hst] at sn
      simp only [zz]
      refine eqG_ints ?_
      simp only [decide_true, zz, zn, zy, zq, eA1]
      refine ⟨rfl, sp_tag_stopped (k := 2) rfl gr eR1 ?_⟩
      rw [hst]
      simp only [zz, zq, Option.isNone_some, isNon, decide_true, zy, eA1]
      refine ⟨rfl, run h1 (ex.trans ex1) _ fun h4 e4 => ?_⟩
      simp only [zz]
      refine rowRefl _ ?_ _
      simp only [zz, zq]
      refine rest (seqR ?_)
      simp only [zz, isNon, zq, zy]
      refine rest (seqN (hN' _ _ ⟨some (.int k), some (.tup (cd.map .int)), some (.tup (cd.map .int)), ?_, (ex.trans ex1).trans e4⟩))
      rw [sn]
      rfl
  rintro σ h' ⟨x7, x13, x14, rfl, ex⟩
  obtain ⟨eR, eA, eW, eD⟩ := main h' ex
  have gk := goodk s
  generalize hc : itRun (tgStep ws) s row = ck at gk
  obtain ⟨cr, tk⟩ := ck
  have lb : cr.length ≤ 14 + 4 * s := gk.2
  have gr : Row ws.length cr := gk.1
  refine rest (seqR ?_)
  simp only [zz, zy, eA]
  refine ⟨rfl, sp_tag_run (k := 2) rfl hrow (m := 4) hw (by omega) eR fun h2 ex2 => ?_⟩
  obtain ⟨eR2, eA2, eW2, eD2⟩ := main h2 (ex.trans ex2)
  rw [hc]
  simp only [zz]
  refine rowRefl _ ?_ _
  simp only [zq, zz, eA2]
  refine ⟨rfl, sp_tag_run (k := 2) rfl gr (m := 4) hw (steps := 0) (by omega) eR2 fun h3 ex3 => ?_⟩
  obtain ⟨eR3, eA3, eW3, eD3⟩ := main h3 ((ex.trans ex2).trans ex3)
  simp only [zz, itRun]
  refine rowRefl _ ?_ _
  simp only [zq, zz]
  refine rest (seqR ?_)
  have l2' : ∀ x : D, (cr.map D.int).length + [x].length ≤ sizeLine := fun x => small_le (by rw [List.length_map, List.length_singleton]; omega)
  simp only [zz, zy, l2', true_and]
  intro v1 hv1
  try simp only [l2', true_and]
  intro v2 hv2
  have v12 : v1 ≠ v2 := ne_of hv2 dput_same
  have kr : ∀ (h : DH) (x : D), Kn h x → KnR h (.tup (cr.map D.int ++ [x])) := fun h x kx => ⟨trivial, fun ys e y hy => by
    cases e
    rcases List.mem_append.1 hy with z | z
    · obtain ⟨z, _, rfl⟩ := List.mem_map.1 z; exact trivial
    · rw [List.mem_singleton.1 z]; exact kx⟩
  have szr : ∀ (x : D) ys, D.tup (cr.map D.int ++ [x]) = .tup ys → ys.length ≤ 1000000 := fun x ys e => by cases e; rw [List.length_append, List.length_map, List.length_singleton]; omega
  have notR : ∀ x : D, isIntD 0 ((ws.length : Int) - 1) x = false → isRowD ws.length (.tup (cr.map D.int ++ [x])) = false := fun x hx => by
    show (cr.map D.int ++ [x]).all _ = false
    rw [List.all_append, List.all_cons, hx]
    simp
  generalize hbad : [D.tup (cr.map D.int ++ [D.int ws.length]), D.tup (cr.map D.int ++ [D.int (-1)]), D.ref v1, D.tup (cr.map D.int ++ [D.bl true]), D.non, D.int 5] = bad
  have eB : dput (dput h3 v1 (.lst (cr.map .int))) v2 (.lst bad) v2 = some (.lst bad) := dput_same
  have eV : dput (dput h3 v1 (.lst (cr.map .int))) v2 (.lst bad) v1 = some (.lst (cr.map .int)) := by rw [dput_ne v12]; exact dput_same
  have ex5 : Ext h5 (dput (dput h3 v1 (.lst (cr.map .int))) v2 (.lst bad)) := (((ex.trans ex2).trans ex3).trans (Ext.new hv1)).trans (Ext.new hv2)
  generalize dput (dput h3 v1 (.lst (cr.map .int))) v2 (.lst bad) = hb5 at eB eV ex5
  have allBad : ∀ h8, h8 v1 = some (.lst (cr.map .int)) → ∀ v ∈ bad, KnR h8 v ∧ (∀ xs, v = .tup xs → xs.length ≤ 1000000) ∧ isRowD ws.length v = false := by
    intro h8 e8 v hv
    rw [← hbad] at hv
    simp only [List.mem_cons, List.not_mem_nil, or_false] at hv
    rcases hv with rfl | rfl | rfl | rfl | rfl | rfl
    · refine ⟨kr _ _ trivial, szr _, notR _ ?_⟩
      unfold isIntD
      have : ¬ ((ws.length : Int) ≤ ws.length - 1) := by omega
      simp [this]
    · exact ⟨kr _ _ trivial, szr _, notR _ (by simp [isIntD])⟩
    · exact ⟨⟨⟨_, e8⟩, fun ys e => by cases e⟩, fun ys e => (by cases e), rfl⟩
    · exact ⟨kr _ _ trivial, szr _, notR _ rfl⟩
    · exact ⟨⟨trivial, fun ys e => by cases e⟩, fun ys e => (by cases e), rfl⟩
    · exact ⟨⟨trivial, fun ys e => by cases e⟩, fun ys e => (by cases e), rfl⟩
  simp only [zz, lsK_of eB]
  refine forK_of (fun r σ h' => ∃ x8 : Option D, σ = [some (.fl (ns.map .int)), some (.ref d), some (.ref gv), some (.ref a), some (.ref t), some (.tup (cr.map .int)), some (.int s), x7, x8, some (.int ws.length), some (.ref w), some (.tup (row.map .int)), some (.int tk), x13, x14] ∧ Ext hb5 h' ∧ ∀ v ∈ r, v ∈ bad) ?_ ?_ _ _ _ ⟨none, rfl, Ext.refl, fun _ h => h⟩
  · rintro v r σ h' N' ⟨x8, rfl, e6, hr⟩ hN'
    refine ⟨e6 _ _ eB, ?_⟩
    obtain ⟨eR6, eA6, eW6, eD6⟩ := main h' (ex5.trans e6)
    obtain ⟨k1, k2, k3⟩ := allBad h' (e6 _ _ eV) v (hr v (List.mem_cons_self ..))
    simp only [zz, zy, eA6]
    refine ⟨rfl, sp_tag_iscfg (k := 0) rfl rfl rfl eR6 k1 k2 fun h1 ex1 => ?_⟩
    rw [k3]
    simp only [zz, zy, decide_true, zq]
    exact hN' _ _ ⟨_, rfl, e6.trans ex1, fun x hx => hr x (List.mem_cons_of_mem _ hx)⟩
  · rintro σ h' ⟨x8, rfl, e6, _⟩
    refine ⟨e6 _ _ eB, rest (seqR ?_)⟩
    obtain ⟨eR6, eA6, eW6, eD6⟩ := main h' (ex5.trans e6)
    simp only [zz, zy, eA6]
    refine ⟨rfl, sp_tag_table (k := 2) rfl eR6 fun t2 h8 ht2 ex8 eT2 => ?_⟩
    obtain ⟨eR8, eA8, eW8, eD8⟩ := main h8 ((ex5.trans e6).trans ex8)
    simp only [zz]
    exact eqG_refs eT2 eW8 (nSL_words ws) (Nat.le_trans (dpL_words ws) (by decide)) rfl
end Z
set_option Elab.async false
set_option linter.all false
set_option maxRecDepth 100000
set_option maxHeartbeats 4000000
namespace Z
open PySem (Str Addr sizeLine PyData Paired Expr Stmt Value Shared binaryOp compareOp unaryOp)
open L2
open PySem (FuncData Heap Args)
theorem all_mk {l : PySem.W.OpenLaw} {w : PySem.World} {K : PySem.W.Frag} {h : PySem.Heap} {mg : Str → Option Value} {fa f0 f1 f2 f3 f4 f5 f6 f7 f8 f9 f10 f11 f12 f13 C_Tag C_BadMachine : Addr} (X : K.In h) (G : h.Ns PySem.mainGlobals mg) (hfa : mg "law" = some (.ref fa)) (pl : LawOk ((lev TB 4).fn "" "law"))
    {od0 an0 od1 an1 od2 an2 od3 an3 od4 an4 od5 an5 od6 an6 od7 an7 od8 an8 od9 an9 od10 an10 od11 an11 od12 an12 od13 an13 : Option Addr} {sl0 sl1 sl2 sl3 sl4 sl5 sl6 sl7 sl8 sl9 sl10 sl11 sl12 sl13 : Array (Option Value)} {oc0 kV0 dc0 pm0 cd0 ct0 oc1 kV1 dc1 pm1 cd1 ct1 oc2 kV2 dc2 pm2 cd2 ct2 oc3 kV3 dc3 pm3 cd3 ct3 oc4 kV4 dc4 pm4 cd4 ct4 oc5 kV5 dc5 pm5 cd5 ct5 oc6 kV6 dc6 pm6 cd6 ct6 oc7 kV7 dc7 pm7 cd7 ct7 oc8 kV8 dc8 pm8 cd8 ct8 oc9 kV9 dc9 pm9 cd9 ct9 oc10 kV10 dc10 pm10 cd10 ct10 oc11 kV11 dc11 pm11 cd11 ct11 oc12 kV12 dc12 pm12 cd12 ct12 oc13 kV13 dc13 pm13 cd13 ct13 : Value}
    {t_MOST_LETTERS t_MOST_WORD : PySem.Tok}
    (C_Tag_n : PySem.W.nsIn K PySem.mainGlobals "Tag" = some (some (.ref C_Tag)))
    (C_BadMachine_n : PySem.W.nsIn K PySem.mainGlobals "BadMachine" = some (some (.ref C_BadMachine)))
    (a0 : PySem.W.nsIn K PySem.mainGlobals "law" = some (some (.ref f0)))
    (l0 : K.lookup f0 = some ⟨oc0, od0, .func (PySem.W.fnOf "law" "law" (defArgs (top 14)) (defBody (top 14)) (defScope (top 14)) .none kV0 dc0 pm0 an0 cd0 ct0), sl0⟩)
    (c0 : PySem.W.codeIn K cd0 "law" = true)
    (k0 : PySem.W.keepIn K (.ref f0) = true)
    (a1 : PySem.W.nsIn K PySem.mainGlobals "_law_tag_step" = some (some (.ref f1)))
    (l1 : K.lookup f1 = some ⟨oc1, od1, .func (PySem.W.fnOf "_law_tag_step" "_law_tag_step" (defArgs (top 13)) (defBody (top 13)) (defScope (top 13)) .none kV1 dc1 pm1 an1 cd1 ct1), sl1⟩)
    (c1 : PySem.W.codeIn K cd1 "_law_tag_step" = true)
    (k1 : PySem.W.keepIn K (.ref f1) = true)
    (a2 : PySem.W.nsIn K PySem.mainGlobals "_law_row" = some (some (.ref f2)))
    (l2 : K.lookup f2 = some ⟨oc2, od2, .func (PySem.W.fnOf "_law_row" "_law_row" (defArgs (top 12)) (defBody (top 12)) (defScope (top 12)) .none kV2 dc2 pm2 an2 cd2 ct2), sl2⟩)
    (c2 : PySem.W.codeIn K cd2 "_law_row" = true)
    (k2 : PySem.W.keepIn K (.ref f2) = true)
    (a3 : PySem.W.findIn K (.ref C_Tag) "__init__" = some (some (.ref f3)))
    (i3 : PySem.W.isFn K (.ref f3) = true)
    (l3 : K.lookup f3 = some ⟨oc3, od3, .func (PySem.W.fnOf "__init__" "Tag.__init__" (defArgs (inClass (top 8) 0)) (defBody (inClass (top 8) 0)) (defScope (inClass (top 8) 0)) .none kV3 dc3 pm3 an3 cd3 ct3), sl3⟩)
    (c3 : PySem.W.codeIn K cd3 "Tag.__init__" = true)
    (k3 : PySem.W.keepIn K (.ref f3) = true)
    (a4 : PySem.W.nsIn K PySem.mainGlobals "_law_tag" = some (some (.ref f4)))
    (l4 : K.lookup f4 = some ⟨oc4, od4, .func (PySem.W.fnOf "_law_tag" "_law_tag" (defArgs (top 11)) (defBody (top 11)) (defScope (top 11)) .none kV4 dc4 pm4 an4 cd4 ct4), sl4⟩)
    (c4 : PySem.W.codeIn K cd4 "_law_tag" = true)
    (k4 : PySem.W.keepIn K (.ref f4) = true)
    (a5 : PySem.W.nsIn K PySem.mainGlobals "_law_draws" = some (some (.ref f5)))
    (l5 : K.lookup f5 = some ⟨oc5, od5, .func (PySem.W.fnOf "_law_draws" "_law_draws" (defArgs (top 10)) (defBody (top 10)) (defScope (top 10)) .none kV5 dc5 pm5 an5 cd5 ct5), sl5⟩)
    (c5 : PySem.W.codeIn K cd5 "_law_draws" = true)
    (k5 : PySem.W.keepIn K (.ref f5) = true)
    (a6 : PySem.W.nsIn K PySem.mainGlobals "is_row" = some (some (.ref f6)))
    (l6 : K.lookup f6 = some ⟨oc6, od6, .func (PySem.W.fnOf "is_row" "is_row" (defArgs (top 7)) (defBody (top 7)) (defScope (top 7)) .none kV6 dc6 pm6 an6 cd6 ct6), sl6⟩)
    (c6 : PySem.W.codeIn K cd6 "is_row" = true)
    (k6 : PySem.W.keepIn K (.ref f6) = true)
    (a7 : PySem.W.nsIn K PySem.mainGlobals "is_integer" = some (some (.ref f7)))
    (l7 : K.lookup f7 = some ⟨oc7, od7, .func (PySem.W.fnOf "is_integer" "is_integer" (defArgs (top 6)) (defBody (top 6)) (defScope (top 6)) .none kV7 dc7 pm7 an7 cd7 ct7), sl7⟩)
    (c7 : PySem.W.codeIn K cd7 "is_integer" = true)
    (k7 : PySem.W.keepIn K (.ref f7) = true)
    (a8 : PySem.W.findIn K (.ref C_Tag) "table" = some (some (.ref f8)))
    (i8 : PySem.W.isFn K (.ref f8) = true)
    (l8 : K.lookup f8 = some ⟨oc8, od8, .func (PySem.W.fnOf "table" "Tag.table" (defArgs (inClass (top 8) 2)) (defBody (inClass (top 8) 2)) (defScope (inClass (top 8) 2)) .none kV8 dc8 pm8 an8 cd8 ct8), sl8⟩)
    (c8 : PySem.W.codeIn K cd8 "Tag.table" = true)
    (k8 : PySem.W.keepIn K (.ref f8) = true)
    (a9 : PySem.W.findIn K (.ref C_Tag) "is_configuration" = some (some (.ref f9)))
    (i9 : PySem.W.isFn K (.ref f9) = true)
    (l9 : K.lookup f9 = some ⟨oc9, od9, .func (PySem.W.fnOf "is_configuration" "Tag.is_configuration" (defArgs (inClass (top 8) 3)) (defBody (inClass (top 8) 3)) (defScope (inClass (top 8) 3)) .none kV9 dc9 pm9 an9 cd9 ct9), sl9⟩)
    (c9 : PySem.W.codeIn K cd9 "Tag.is_configuration" = true)
    (k9 : PySem.W.keepIn K (.ref f9) = true)
    (a10 : PySem.W.findIn K (.ref C_Tag) "run" = some (some (.ref f10)))
    (i10 : PySem.W.isFn K (.ref f10) = true)
    (l10 : K.lookup f10 = some ⟨oc10, od10, .func (PySem.W.fnOf "run" "Tag.run" (defArgs (inClass (top 8) 6)) (defBody (inClass (top 8) 6)) (defScope (inClass (top 8) 6)) .none kV10 dc10 pm10 an10 cd10 ct10), sl10⟩)
    (c10 : PySem.W.codeIn K cd10 "Tag.run" = true)
    (k10 : PySem.W.keepIn K (.ref f10) = true)
    (a11 : PySem.W.findIn K (.ref C_Tag) "stopped" = some (some (.ref f11)))
    (i11 : PySem.W.isFn K (.ref f11) = true)
    (l11 : K.lookup f11 = some ⟨oc11, od11, .func (PySem.W.fnOf "stopped" "Tag.stopped" (defArgs (inClass (top 8) 4)) (defBody (inClass (top 8) 4)) (defScope (inClass (top 8) 4)) .none kV11 dc11 pm11 an11 cd11 ct11), sl11⟩)
    (c11 : PySem.W.codeIn K cd11 "Tag.stopped" = true)
    (k11 : PySem.W.keepIn K (.ref f11) = true)
    (a12 : PySem.W.findIn K (.ref C_Tag) "step" = some (some (.ref f12)))
    (i12 : PySem.W.isFn K (.ref f12) = true)
    (l12 : K.lookup f12 = some ⟨oc12, od12, .func (PySem.W.fnOf "step" "Tag.step" (defArgs (inClass (top 8) 5)) (defBody (inClass (top 8) 5)) (defScope (inClass (top 8) 5)) .none kV12 dc12 pm12 an12 cd12 ct12), sl12⟩)
    (c12 : PySem.W.codeIn K cd12 "Tag.step" = true)
    (k12 : PySem.W.keepIn K (.ref f12) = true)
    (a13 : PySem.W.findIn K (.ref C_Tag) "word" = some (some (.ref f13)))
    (i13 : PySem.W.isFn K (.ref f13) = true)
    (l13 : K.lookup f13 = some ⟨oc13, od13, .func (PySem.W.fnOf "word" "Tag.word" (defArgs (inClass (top 8) 1)) (defBody (inClass (top 8) 1)) (defScope (inClass (top 8) 1)) .none kV13 dc13 pm13 an13 cd13 ct13), sl13⟩)
    (c13 : PySem.W.codeIn K cd13 "Tag.word" = true)
    (k13 : PySem.W.keepIn K (.ref f13) = true)
    (C_Tag_pg : PySem.W.plainGet K C_Tag Str.empty = true)
    (C_Tag_hd : PySem.W.hasDictIn K C_Tag = true)
    (C_Tag_po : PySem.W.plainOver K C_Tag = true)
    (C_Tag_sa : PySem.W.findIn K (.ref C_Tag) "__setattr__" = some (some (.builtin "object.__setattr__")))
    (C_Tag_mk : PySem.W.makesIn K C_Tag = true)
    (C_Tag_kc : PySem.W.keepIn K (.ref C_Tag) = true)
    (N0 : PySem.W.findIn K (.ref C_Tag) "letters" = some none)
    (N1 : PySem.W.findIn K (.ref C_Tag) "_words" = some none)
    (E_BadMachine : EcF K C_BadMachine)
    (T_BadMachine_BadMachine : PySem.W.subIn K (.ref C_BadMachine) (.ref C_BadMachine) = some true)
    (z_abs : PySem.W.nsIn K PySem.mainGlobals "abs" = some none)
    (z_all : PySem.W.nsIn K PySem.mainGlobals "all" = some none)
    (z_bool : PySem.W.nsIn K PySem.mainGlobals "bool" = some none)
    (z_int : PySem.W.nsIn K PySem.mainGlobals "int" = some none)
    (z_isinstance : PySem.W.nsIn K PySem.mainGlobals "isinstance" = some none)
    (z_len : PySem.W.nsIn K PySem.mainGlobals "len" = some none)
    (z_list : PySem.W.nsIn K PySem.mainGlobals "list" = some none)
    (z_range : PySem.W.nsIn K PySem.mainGlobals "range" = some none)
    (z_tuple : PySem.W.nsIn K PySem.mainGlobals "tuple" = some none)
    (g_MOST_LETTERS : PySem.W.nsIn K PySem.mainGlobals "MOST_LETTERS" = some (some (.int 20000 t_MOST_LETTERS)))
    (g_MOST_WORD : PySem.W.nsIn K PySem.mainGlobals "MOST_WORD" = some (some (.int 6 t_MOST_WORD)))
    : ∃ fd : PySem.FuncData, (∀ (s : Shared) (v : Value), PySem.BindsTo s fd ⟨[v], []⟩ [("_law_script", v)]) ∧ ∀ base : PySem.Heap, K.In base → base.Ns PySem.mainGlobals mg → FnOk l.prog w K mg base (L2.CX l.prog w) 8 fa fd ["_law_script"] (spLaw K) := by
  have e := hfa.symm.trans (PySem.W.mg_of X G a0)
  cases e
  have F0 := fun_mk (st := (top 14)) l0 c0 k0
  have F1 := fun_mk (st := (top 13)) l1 c1 k1
  have F2 := fun_mk (st := (top 12)) l2 c2 k2
  have F3 := fun_mk (st := (inClass (top 8) 0)) l3 c3 k3
  have F4 := fun_mk (st := (top 11)) l4 c4 k4
  have F5 := fun_mk (st := (top 10)) l5 c5 k5
  have F6 := fun_mk (st := (top 7)) l6 c6 k6
  have F7 := fun_mk (st := (top 6)) l7 c7 k7
  have F8 := fun_mk (st := (inClass (top 8) 2)) l8 c8 k8
  have F9 := fun_mk (st := (inClass (top 8) 3)) l9 c9 k9
  have F10 := fun_mk (st := (inClass (top 8) 6)) l10 c10 k10
  have F11 := fun_mk (st := (inClass (top 8) 4)) l11 c11 k11
  have F12 := fun_mk (st := (inClass (top 8) 5)) l12 c12 k12
  have F13 := fun_mk (st := (inClass (top 8) 1)) l13 c13 k13
  have b0 := F0.binds (ps := ["_law_script"]) fun _ _ _ _ _ _ us hl => match us, hl with | [_], _ => rfl
  have b1 := F1.binds (ps := ["_law_words", "_law_row_here"]) fun _ _ _ _ _ _ us hl => match us, hl with | [_, _], _ => rfl
  have b2 := F2.binds (ps := ["_law_draws_here", "_law_letters", "_law_many"]) fun _ _ _ _ _ _ us hl => match us, hl with | [_, _, _], _ => rfl
  have b3 := F3.binds (ps := ["self", "letters", "words"]) fun _ _ _ _ _ _ us hl => match us, hl with | [_, _, _], _ => rfl
  have b4 := F4.binds (ps := ["_law_draws_here", "_law_most"]) fun _ _ _ _ _ _ us hl => match us, hl with | [_, _], _ => rfl
  have b5 := F5.binds (ps := ["_law_script", "_law_many"]) fun _ _ _ _ _ _ us hl => match us, hl with | [_, _], _ => rfl
  have b6 := F6.binds (ps := ["value", "letters"]) fun _ _ _ _ _ _ us hl => match us, hl with | [_, _], _ => rfl
  have b7 := F7.binds (ps := ["value", "least", "most"]) fun _ _ _ _ _ _ us hl => match us, hl with | [_, _, _], _ => rfl
  have b8 := F8.binds (ps := ["self"]) fun _ _ _ _ _ _ us hl => match us, hl with | [_], _ => rfl
  have b9 := F9.binds (ps := ["self", "value"]) fun _ _ _ _ _ _ us hl => match us, hl with | [_, _], _ => rfl
  have b10 := F10.binds (ps := ["self", "configuration", "steps"]) fun _ _ _ _ _ _ us hl => match us, hl with | [_, _, _], _ => rfl
  have b11 := F11.binds (ps := ["self", "configuration"]) fun _ _ _ _ _ _ us hl => match us, hl with | [_, _], _ => rfl
  have b12 := F12.binds (ps := ["self", "configuration"]) fun _ _ _ _ _ _ us hl => match us, hl with | [_, _], _ => rfl
  have b13 := F13.binds (ps := ["self", "letter"]) fun _ _ _ _ _ _ us hl => match us, hl with | [_, _], _ => rfl
  refine ⟨PySem.W.fnOf "law" "law" (defArgs (top 14)) (defBody (top 14)) (defScope (top 14)) .none kV0 dc0 pm0 an0 cd0 ct0, fun s v => .of_eq rfl, fun base _ _ => ?_⟩
  let fs : Nat → Addr := fun n => match n with | 0 => fa | 1 => f1 | 2 => f2 | 3 => f3 | 4 => f4 | 5 => f5 | 6 => f6 | 7 => f7 | 8 => f8 | 9 => f9 | 10 => f10 | 11 => f11 | 12 => f12 | 13 => f13 | _ => fa
  let ca : String → Addr := fun c => if c = "Tag" then C_Tag else if c = "BadMachine" then C_BadMachine else fa
  have F : Fc ⟨l.prog, w, K, mg, base⟩ fs ca := by
    have hcls : ClsF (gd K ca) ⟨l.prog, w, K, mg, base⟩ := by
      refine ⟨fun c hc => ?_, fun c f hf => ?_⟩
      · have h3 : c = "Tag" := by simpa [gd] using hc
        rcases h3 with rfl
        · exact ⟨C_Tag_pg, C_Tag_hd, C_Tag_po, C_Tag_sa⟩
      · have h3 : (c = "Tag" ∧ f = "letters") ∨ (c = "Tag" ∧ f = "_words") := by simpa [gd] using hf
        rcases h3 with ⟨rfl, rfl⟩ | ⟨rfl, rfl⟩
        · exact N0
        · exact N1
    have hex : ∀ {k : Nat}, ExF (gd K ca) ⟨l.prog, w, K, mg, base⟩ (lev TB k) := by
      intro k
      refine exF_of (fun c hc => ?_) (fun c hc => ?_) (fun c hc d hd => ?_)
      · have h3 : c = "BadMachine" := by simpa [gd] using hc
        rcases h3 with rfl
        · exact E_BadMachine
      · have h3 : c = "BadMachine" := by simpa [gd] using hc
        rcases h3 with rfl <;> rfl
      · have h3 : c = "BadMachine" := by simpa [gd] using hc
        have h4 : d = "BadMachine" := by simpa [gd] using hd
        rcases h3 with rfl <;> rcases h4 with rfl
        · exact T_BadMachine_BadMachine
    exact ⟨PySem.W.mg_of X G a0, ⟨_, F0, b0⟩, k0, PySem.W.mg_of X G a1, ⟨_, F1, b1⟩, k1, PySem.W.mg_of X G a2, ⟨_, F2, b2⟩, k2, ⟨C_Tag_mk, a3, i3, C_Tag_kc⟩, ⟨_, F3, b3⟩, k3, PySem.W.mg_of X G a4, ⟨_, F4, b4⟩, k4, PySem.W.mg_of X G a5, ⟨_, F5, b5⟩, k5, PySem.W.mg_of X G a6, ⟨_, F6, b6⟩, k6, PySem.W.mg_of X G a7, ⟨_, F7, b7⟩, k7, ⟨a8, i8, k8⟩, ⟨_, F8, b8⟩, k8, ⟨a9, i9, k9⟩, ⟨_, F9, b9⟩, k9, ⟨a10, i10, k10⟩, ⟨_, F10, b10⟩, k10, ⟨a11, i11, k11⟩, ⟨_, F11, b11⟩, k11, ⟨a12, i12, k12⟩, ⟨_, F12, b12⟩, k12, ⟨a13, i13, k13⟩, ⟨_, F13, b13⟩, k13, PySem.W.mg_none_of X G z_abs, PySem.W.mg_none_of X G z_all, PySem.W.mg_none_of X G z_bool, PySem.W.mg_none_of X G z_int, PySem.W.mg_none_of X G z_isinstance, PySem.W.mg_none_of X G z_len, PySem.W.mg_none_of X G z_list, PySem.W.mg_none_of X G z_range, PySem.W.mg_none_of X G z_tuple, ⟨_, PySem.W.mg_of X G g_MOST_LETTERS⟩, ⟨_, PySem.W.mg_of X G g_MOST_WORD⟩, PySem.W.mg_of X G C_Tag_n, PySem.W.mg_of X G C_BadMachine_n, hcls, hex⟩
  exact law_end (w0 (k := 3) F F0 (okk F 3)) rfl pl
end Z
open PySem PySem.W PyProof.Rows
set_option maxRecDepth 100000 in
set_option maxHeartbeats 0 in
theorem PySem.Challenge.cw_stepdown_k50_tag_machines_holds : PySem.Challenge.rw_stepdown_k50_tag_machines.Holds := by
  w_on; o_law; k_head; (case hw => w_witness2)
  k_fill
  refine Z.walkZ (k := 8) (l := PySem.Challenge.rw_stepdown_k50_tag_machines) rfl rfl ⟨rfl, by decide, by decide⟩ (fun w h Y => PySem.W.kIn_of Y) ?F
  case F =>
    intro w mg fa h KX G hmg
    refine' Z.all_mk KX G hmg Z.law_ok ?C_Tag_n ?C_BadMachine_n ?a0 ?l0 ?c0 ?k0 ?a1 ?l1 ?c1 ?k1 ?a2 ?l2 ?c2 ?k2 ?a3 ?i3 ?l3 ?c3 ?k3 ?a4 ?l4 ?c4 ?k4 ?a5 ?l5 ?c5 ?k5 ?a6 ?l6 ?c6 ?k6 ?a7 ?l7 ?c7 ?k7 ?a8 ?i8 ?l8 ?c8 ?k8 ?a9 ?i9 ?l9 ?c9 ?k9 ?a10 ?i10 ?l10 ?c10 ?k10 ?a11 ?i11 ?l11 ?c11 ?k11 ?a12 ?i12 ?l12 ?c12 ?k12 ?a13 ?i13 ?l13 ?c13 ?k13 ?C_Tag_pg ?C_Tag_hd ?C_Tag_po ?C_Tag_sa ?C_Tag_mk ?C_Tag_kc ?N0 ?N1 ?E_BadMachine ?T_BadMachine_BadMachine ?z_abs ?z_all ?z_bool ?z_int ?z_isinstance ?z_len ?z_list ?z_range ?z_tuple ?g_MOST_LETTERS ?g_MOST_WORD
    (case C_Tag_n => k_is)
    (case C_BadMachine_n => k_is)
    (case a0 => k_is)
    (case l0 => k_is)
    (case c0 => k_is)
    (case k0 => k_is)
    (case a1 => k_is)
    (case l1 => k_is)
    (case c1 => k_is)
    (case k1 => k_is)
    (case a2 => k_is)
    (case l2 => k_is)
    (case c2 => k_is)
    (case k2 => k_is)
    (case a3 => k_is)
    (case i3 => k_is)
    (case l3 => k_is)
    (case c3 => k_is)
    (case k3 => k_is)
    (case a4 => k_is)
    (case l4 => k_is)
    (case c4 => k_is)
    (case k4 => k_is)
    (case a5 => k_is)
    (case l5 => k_is)
    (case c5 => k_is)
    (case k5 => k_is)
    (case a6 => k_is)
    (case l6 => k_is)
    (case c6 => k_is)
    (case k6 => k_is)
    (case a7 => k_is)
    (case l7 => k_is)
    (case c7 => k_is)
    (case k7 => k_is)
    (case a8 => k_is)
    (case i8 => k_is)
    (case l8 => k_is)
    (case c8 => k_is)
    (case k8 => k_is)
    (case a9 => k_is)
    (case i9 => k_is)
    (case l9 => k_is)
    (case c9 => k_is)
    (case k9 => k_is)
    (case a10 => k_is)
    (case i10 => k_is)
    (case l10 => k_is)
    (case c10 => k_is)
    (case k10 => k_is)
    (case a11 => k_is)
    (case i11 => k_is)
    (case l11 => k_is)
    (case c11 => k_is)
    (case k11 => k_is)
    (case a12 => k_is)
    (case i12 => k_is)
    (case l12 => k_is)
    (case c12 => k_is)
    (case k12 => k_is)
    (case a13 => k_is)
    (case i13 => k_is)
    (case l13 => k_is)
    (case c13 => k_is)
    (case k13 => k_is)
    (case C_Tag_pg => k_is)
    (case C_Tag_hd => k_is)
    (case C_Tag_po => k_is)
    (case C_Tag_sa => k_is)
    (case C_Tag_mk => k_is)
    (case C_Tag_kc => k_is)
    (case N0 => k_is)
    (case N1 => k_is)
    (case E_BadMachine => refine' ⟨?_, ?_, ?_, ?_, ?_, ?_, ?_, ?_, ?_, ?_, ?_, ?_, ?_⟩ <;> first | k_exc | k_is)
    (case T_BadMachine_BadMachine => first | rfl | k_is)
    (case z_abs => k_is)
    (case z_all => k_is)
    (case z_bool => k_is)
    (case z_int => k_is)
    (case z_isinstance => k_is)
    (case z_len => k_is)
    (case z_list => k_is)
    (case z_range => k_is)
    (case z_tuple => k_is)
    (case g_MOST_LETTERS => k_is)
    (case g_MOST_WORD => k_is)
