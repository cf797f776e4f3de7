import PyProof.Rows.All
import Wide.All
import OpenK.AllK
import Wide.FinOn
import KE.KStateDown
import HandS.Head0
import HandS.Head1
import HandS.Head2
import HandS.HeadEnd
import HandS.ForMost
import HandS.ForExc
import HandS.Text
import HandS.StrMore
import PyProof.StrBlock2
import HandS.HeadHook1
import HandS.Wide
import HandS.TupMul
import HandS.TupAny
import HandS.Defaults
import HandS.IsInst
import HandS.Rev
import HandS.Conv
import HandS.SortInts
import HandS.WordsExc
import HandS.HeadHook2
import KE.IntBitsLaws
import KE.DataEq
import KE.DataFind
import HandS.Style
import HandS.More
import HandS.WordsDict
import HandS.Small
import KE.DataMinMax
import KE.SortData
import PyProof.ReprReads
import KE.KTupSum
import HandS.RaiseMore
import KE.SortLaws
import HandS.SetKeys
import KE.KIndexOf
import HandS.WideMore
import KE.GoesEnum
import KE.GoesZip
import HandS.Zip
import KE.GoesMore
import HandS.SetFor
import HandS.Strs
import HandS.DictComp
import HandS.ExcIs
import HandS.ExcValue
import HandS.Star
import HandS.Dict
import KE.KDictKeyed
import KE.KDictPairs
import PyProof.Rows.SeqRoads
import PyProof.SetRoads
import HandS.Ends
import HandS.HeadHook4
import PyProof.ExcBaseAll.ValueError
import PySem.Challenge.RW_runningcount_k13_stairs_of_involutions
import PyProof.FitsInt
import PyProof.StrLawsRepr
set_option Elab.async false
set_option linter.all false
set_option maxRecDepth 100000
/-! A small calculus over the layer L2: values with tuples and settled lists as data (D), a partial heap of what may change (Mp), programs as terms (T), and what is wanted ahead of a term (wpE, wpS ..). -/
namespace Pw
open PySem PySem.Spec PyProof.Rows L2

inductive D where
  | non | bl (b : Bool) | int (i : Int) | str (x : Str)
  | tup (xs : List D) | lst (xs : List D) | dic (kvs : List (Key × D))
  | ref (a : Addr) | ty (n : String) | exc (c : Str) | scr (xs : List D)

/-- what may change -/
inductive DO where
  | lst (xs : List D) | dic (kvs : List (Key × D)) | dicT (kvs : List (List Key × D)) | ins (c : Str) (fs : List (Str × D))

abbrev Mp := Addr → Option DO
def up (M : Mp) (a : Addr) (o : DO) : Mp := fun b => if b = a then some o else M b
def del (M : Mp) (a : Addr) : Mp := fun b => if b = a then none else M b
def Sub (M' M : Mp) : Prop := ∀ a o, M' a = some o → M a = some o

theorem up_same {M : Mp} {a : Addr} {o : DO} : up M a o a = some o := if_pos rfl
theorem up_ne {M : Mp} {a b : Addr} {o : DO} (h : b ≠ a) : up M a o b = M b := if_neg h
theorem up_up {M : Mp} {a : Addr} {o o' : DO} : up (up M a o) a o' = up M a o' := by
  funext b; unfold up; split <;> rfl
theorem up_old {M : Mp} {a b : Addr} {o : DO} {x : DO} (h : M b = some x) (n : M a = none) : up M a o b = some x := by
  rw [up_ne (fun e => by rw [e, n] at h; cases h)]; exact h
theorem Sub.refl {M : Mp} : Sub M M := fun _ _ h => h
theorem Sub.trans {M1 M2 M3 : Mp} (h : Sub M1 M2) (h' : Sub M2 M3) : Sub M1 M3 := fun a o e => h' a o (h a o e)
theorem Sub.up {M : Mp} {a : Addr} {o : DO} (h : M a = none) : Sub M (up M a o) := fun b x e => up_old e h
theorem Sub.up2 {M' M : Mp} {a : Addr} {o : DO} (s : Sub M' M) (h : M' a = none) : Sub M' (Pw.up M a o) := fun b x e => by
  rw [up_ne (fun z => by rw [z, h] at e; cases e)]; exact s b x e
theorem Sub.del {M : Mp} {a : Addr} : Sub (del M a) M := fun b x e => by
  unfold Pw.del at e; split at e
  · cases e
  · exact e

/-- the script: read, never written -/
def SqS (K : PySem.W.Frag) (H : Hp) (a : Addr) (xs : List V) : Prop := (∃ o, H a = some (.frz o (.lst xs))) ∨
  ∃ (o : Obj) (its : Array Value) (n : Nat), K.lookup a = some o ∧ o.cls = .type "list" ∧ o.dict = none ∧ o.data = .seq its n ∧ its.size ≤ sizeLine ∧ Vals xs its.toList
theorem SqS.sq {K : PySem.W.Frag} {H : Hp} {a : Addr} {xs : List V} (h : SqS K H a xs) : SqL K H a xs := h.elim (fun ⟨o, h⟩ => .inl (.inr ⟨o, h⟩)) .inr
/-- a tuple whose object is known -/
def SqF (K : PySem.W.Frag) (H : Hp) (a : Addr) (xs : List V) : Prop := (∃ o, H a = some (.frz o (.tup xs)) ∧ o.dict = none) ∨
  ∃ (o : Obj) (its : Array Value) (n : Nat), K.lookup a = some o ∧ o.cls = .type "tuple" ∧ o.dict = none ∧ o.data = .seq its n ∧ its.size ≤ sizeLine ∧ Vals xs its.toList
theorem SqF.sq {K : PySem.W.Frag} {H : Hp} {a : Addr} {xs : List V} (h : SqF K H a xs) : SqT K H a xs := by
  rcases h with ⟨o, h, _⟩ | ⟨o, its, n, h1, h2, _, h4, h5, h6⟩
  · exact .inl (.inr ⟨o, h⟩)
  · exact .inr ⟨o, its, n, h1, h2, h4, h5, h6⟩
/-- an exception object of the class cls, at a -/
def ExcHv (cls : Value) (a : Addr) : HO := .ext fun h => ∃ (oe : Obj) (vs : Array Value), h.get? a = some oe ∧ Zc cls none oe ∧ oe.data = .fields vs
def ExcH (K : PySem.W.Frag) (c : Str) (a : Addr) : HO := ExcHv (.ref (He.ga K c)) a
/-- is an exception of the class c one of t -/
def excIs (c t : Str) : Bool := decide (t = c) || (decide (t = ("CountError" : Str)) || decide (t = ("ValueError" : Str)))
mutual
/-- d is v, in the heap H where M may change -/
def RV (K : PySem.W.Frag) (M : Mp) (H : Hp) : D → V → Prop
  | .non, v => v = .non
  | .bl b, v => v = .bl b
  | .int i, v => v = .int i
  | .str x, v => v = .str x
  | .tup ds, v => ∃ a vs, v = .ref a ∧ SqF K H a vs ∧ RVs K M H ds vs
  | .lst ds, v => ∃ a vs, v = .ref a ∧ H a = some (.lst vs) ∧ M a = none ∧ RVs K M H ds vs
  | .dic kvs, v => ∃ a us, v = .ref a ∧ H a = some (.dK us) ∧ M a = none ∧ RKs K M H kvs us
  | .ref a, v => v = .ref a
  | .ty n, v => v = .ty n
  | .exc c, v => ∃ a, v = .ref a ∧ H a = some (ExcH K c a) ∧ M a = none
  | .scr ds, v => ∃ a vs, v = .ref a ∧ SqS K H a vs ∧ RVs K M H ds vs
def RVs (K : PySem.W.Frag) (M : Mp) (H : Hp) : List D → List V → Prop
  | [], vs => vs = []
  | d :: ds, vs => ∃ v r, vs = v :: r ∧ RV K M H d v ∧ RVs K M H ds r
def RKs (K : PySem.W.Frag) (M : Mp) (H : Hp) : List (Key × D) → List (Key × V) → Prop
  | [], vs => vs = []
  | (k, d) :: ds, vs => ∃ v r, vs = (k, v) :: r ∧ RV K M H d v ∧ RKs K M H ds r
end

def RO (K : PySem.W.Frag) (M : Mp) (H : Hp) (a : Addr) : DO → Prop
  | .lst ds => ∃ vs, H a = some (.lst vs) ∧ RVs K M H ds vs
  | .dic kvs => ∃ us, H a = some (.dK us) ∧ RKs K M H kvs us
  | .dicT _ => False
  | .ins _ _ => False
def RM (K : PySem.W.Frag) (M : Mp) (H : Hp) : Prop := ∀ a o, M a = some o → RO K M H a o

/-- what stays: what is tracked and may not change -/
def Ext (M : Mp) (H : Hp) (M' : Mp) (H' : Hp) : Prop := ∀ a o, H a = some o → M a = none → H' a = some o ∧ M' a = none

/-! ### terms -/
inductive BinO where
  | add | sub | mul | fdiv | mod | pow
  deriving DecidableEq
inductive CmpO where
  | eq | ne | lt | le | gt | ge | is_ | isnot | in_ | notin
  deriving DecidableEq
/-- built-in functions and types, called -/
inductive BF where
  | len | max | min | sum | all | any | int | str | repr | list | tuple | sorted | divmod | abs
  deriving DecidableEq
/-- methods of built-in types -/
inductive MF where
  | append | pop | insert | remove | index | count | extend | clear | reverse | get | setdefault | join | split | strip | upper
  deriving DecidableEq

inductive T where
  | nil | cons (a r : T)
  | var (i : Nat) | lit (d : D)
  | bin (m : Bool) (op : BinO) (a b : T) | neg (a : T)
  | not (a : T) | and (a b : T) | or (a b : T) | tst (a : T)
  | cmp (op : CmpO) (a b : T) | chain (o1 o2 : CmpO) (a b c : T) | ite (c a b : T)
  | tup (es : T) | lst (m : Bool) (es : T) | dct (tk : Bool)
  | call (f : String) (es : T) (dfl : List D) | callk (f : String) (es : T) (x : Str) (e : T)
  | blt (m : Bool) (f : BF) (es : T) | isi (e : T) (tys : List String)
  | conv (m : Bool) (l : Bool) (e : T) | convr (m : Bool) (l : Bool) (es : T) | convv (e : T)
  | meth (m : Bool) (f : MF) (o es : T)
  | idx (a i : T) | slc (m : Bool) (a lo hi : T) | revs (m : Bool) (a : T)
  | sset (m : Bool) (a : T)
  | ldct (a : T)
  | lset (a : T)
  | comp (m : Bool) (own : List Nat) (elt t it ifs : T)
  | comp2 (m : Bool) (own own2 : List Nat) (elt t it ifs t2 it2 ifs2 : T)
  | tups (es : T) | star (a r : T)
  | dc1 (m : Bool) (own : List Nat) (kx vx t it ifs : T)
  | dc2 (m : Bool) (own own2 : List Nat) (kx vx t it ifs t2 it2 ifs2 : T)
  | isx (xs : List Str) (e : T) (cs : List Str)
  | frz (e : T)
  | ival (e : T) | irng (es : T) | ienum (e : T) | izip (es : T) | irev (e : T)
  | gname (i : Nat) | gtup (gs : T) | gsub (o i : T)
  | asg (g e : T) | par (is : List Nat) (es : T) | aug (op : BinO) (i : Nat) (e : T) | augs (op : BinO) (o i e : T)
  | doc | expr (e : T) | ret (e : T) | retn | ifs (c a b : T) | for_ (clr : List Nat) (g it body : T) | while_ (clr : List Nat) (c body : T)
  | pass | brk | cont | raise (c : Str) (m : Str)
  | tryx (xs : List Str) (c : Str) (i j : Nat) (body : T)

abbrev St := List (Option D)
abbrev DK := D → Mp → Prop
abbrev XD := Str → St → Mp → Prop
abbrev SpD := List D → Mp → DK → (Str → Mp → Prop) → Prop
/-- the greatest length of a list, a tuple, a text -/
abbrev LIM : Nat := 16777216
/-- a new list, which may change (m) or not -/
def mkN (m : Bool) (ds : List D) (M : Mp) (Q : DK) : Prop := match m with
  | true => ∀ p, M p = none → Q (.ref p) (up M p (.lst ds))
  | false => Q (.lst ds) M
def mkL (m : Bool) (ds : List D) (M : Mp) (Q : DK) : Prop := ds.length ≤ LIM ∧ mkN m ds M Q
/-- a new dict, which may change (m) or not -/
def mkND (m : Bool) (kvs : List (Key × D)) (M : Mp) (Q : DK) : Prop := match m with
  | true => ∀ p, M p = none → Q (.ref p) (up M p (.dic kvs))
  | false => Q (.dic kvs) M
/-- a list of the program's own making -/
def lstM (M : Mp) : D → Option (List D)
  | .lst ds => some ds
  | .ref a => (match M a with
    | some (.lst ds) => some ds
    | _ => none)
  | _ => none
def lstOf (M : Mp) : D → Option (List D)
  | .lst ds => some ds
  | .scr ds => some ds
  | .ref a => (match M a with
    | some (.lst ds) => some ds
    | _ => none)
  | _ => none
def seqOf (M : Mp) : D → Option (List D)
  | .tup ds => some ds
  | d => lstOf M d
def chars (x : Str) : List D := x.cps.toList.map fun c => .str ⟨#[c]⟩
def intOf : D → Option Int
  | .int i => some i
  | _ => none
def intsOf : List D → Option (List Int)
  | [] => some []
  | d :: ds => (match intOf d, intsOf ds with
    | some i, some is => some (i :: is)
    | _, _ => none)
def tupsOf : List D → Option (List (List Int))
  | [] => some []
  | .tup xs :: ds => (match intsOf xs, tupsOf ds with
    | some r, some rs => some (r :: rs)
    | _, _ => none)
  | _ :: _ => none
/-- pairs of a tuple of whole numbers and True -/
def pairsOf : List D → Option (List (List Int))
  | [] => some []
  | .tup [.tup xs, .bl true] :: ds => (match intsOf xs, pairsOf ds with
    | some r, some rs => some (r :: rs)
    | _, _ => none)
  | _ :: _ => none
/-- rows of one length, in order -/
def ascT (rs : List (List Int)) : Prop := rs.Pairwise (fun a b => a ≤ b) ∧ ∃ k, ∀ r ∈ rs, r.length = k + 1
def blsOf : List D → Option (List Bool)
  | [] => some []
  | .bl b :: ds => (match blsOf ds with
    | some is => some (b :: is)
    | _ => none)
  | _ => none
def strsOf : List D → Option (List Str)
  | [] => some []
  | .str b :: ds => (match strsOf ds with
    | some is => some (b :: is)
    | _ => none)
  | _ => none

mutual
/-- data, as the library has it -/
def toP : D → PyData
  | .non => .none | .bl b => .bool b | .int i => .int i | .str x => .str x
  | .tup ds => .tuple (toPs ds) | .lst ds => .list (toPs ds) | .dic kvs => .dict (toPk kvs)
  | .ref _ => .none | .ty _ => .none | .exc _ => .none | .scr ds => .list (toPs ds)
def toPs : List D → List PyData
  | [] => []
  | d :: ds => toP d :: toPs ds
def toPk : List (Key × D) → List (PyData × PyData)
  | [] => []
  | (k, d) :: ds => ((match k with
    | .inl i => .int i
    | .inr x => .str x), toP d) :: toPk ds
end
mutual
/-- nothing but data, n deep at most; w: dicts may be within -/
def isD (w : Bool) : D → Nat → Bool
  | .non, _ | .bl _, _ | .int _, _ | .str _, _ => true
  | .tup ds, n | .lst ds, n => (match n with
    | 0 => false
    | n + 1 => isDs w ds n)
  | .dic kvs, n => w && (match n with
    | 0 => false
    | n + 1 => isDk w kvs n)
  | .ref _, _ | .ty _, _ | .exc _, _ | .scr _, _ => false
def isDs (w : Bool) : List D → Nat → Bool
  | [], _ => true
  | d :: ds, n => isD w d n && isDs w ds n
def isDk (w : Bool) : List (Key × D) → Nat → Bool
  | [], _ => true
  | (_, d) :: ds, n => isD w d n && isDk w ds n
end
/-- a list that may change, seen as data -/
def see (M : Mp) : D → D
  | .ref a => (match M a with
    | some (.lst ds) => .lst ds
    | some (.dic kvs) => .dic kvs
    | _ => .ref a)
  | d => d
/-- == of data -/
def eqD (x y : D) : Bool := PyData.eqv (toP x) (toP y)
def eqOk (x y : D) : Bool := isD false x 30 && isD false y 30
/-- a tuple, whatever stands in it, against () -/
def eq0 : D → D → Bool
  | .tup xs, .tup [] => isD true (.tup xs) 30
  | _, _ => false
def eqOkE (x y : D) : Bool := eqOk x y || eq0 x y
/-- truth -/
def tru (M : Mp) (d : D) : Option Bool := match see M d with
  | .non => some false
  | .bl b => some b
  | .int i => some (i != 0)
  | .tup ds => some (!ds.isEmpty)
  | .lst ds => some (!ds.isEmpty)
  | .scr ds => some (!ds.isEmpty)
  | .dic ds => some (!ds.isEmpty)
  | _ => none
def nm (d : D) : Option String := match d with
  | .non => some "NoneType" | .bl _ => some "bool" | .int _ => some "int" | .str _ => some "str" | .tup _ => some "tuple" | .lst _ => some "list" | .scr _ => some "list" | .dic _ => some "dict"
  | _ => none
def isI1 (n t : String) : Bool := n == t || (n == "bool" && t == "int")
/-- a product that may be reckoned -/
def MulOk (i j : Int) : Prop := ∃ a b : Nat, i.natAbs < 2 ^ a ∧ j.natAbs < 2 ^ b ∧ 0 < a ∧ 0 < b ∧ a + b ≤ 1000000
def PowOk (i j : Int) : Prop := 0 ≤ j ∧ ∃ a : Nat, i.natAbs < 2 ^ a ∧ 0 < a ∧ (a : Int) * j ≤ 1000000
def DivOk (j : Int) : Prop := 0 < j ∧ ∃ a : Nat, j.natAbs < 2 ^ a ∧ 0 < a ∧ a ≤ 9000
/-- xs[i]: the place -/
def ixAt (n : Nat) (i : Int) : Option Nat := if 0 ≤ i then (if i < n then some i.toNat else none) else if -(n : Int) ≤ i then some (i + n).toNat else none
def atD (xs : List D) (i : Int) : Option D := (ixAt xs.length i).bind fun j => xs[j]?
def rep (n : Int) (xs : List D) : List D := (List.replicate n.toNat xs).flatten

def bop (m : Bool) (op : BinO) (x y : D) (M : Mp) (Q : DK) : Prop := match op with
  | .add => (match x, y with
    | .int i, .int j => Q (.int (i + j)) M
    | .str a, .str b => a.length + b.length ≤ LIM ∧ Q (.str (a ++ b)) M
    | .tup a, .tup b => a.length + b.length ≤ LIM ∧ Q (.tup (a ++ b)) M
    | x, y => (match lstM M x, lstM M y with
      | some a, some b => mkL m (a ++ b) M Q
      | _, _ => False))
  | .sub => (match x, y with
    | .int i, .int j => Q (.int (i - j)) M
    | _, _ => False)
  | .mul => (match x, y with
    | .int i, .int j => MulOk i j ∧ Q (.int (i * j)) M
    | .tup a, .int j => a ≠ [] ∧ 1 ≤ j ∧ j ≤ 1000 ∧ a.length ≤ 1000 ∧ Q (.tup (rep j a)) M
    | .str a, .int j => 2 ≤ j ∧ j ≤ 10000 ∧ a.length ≤ 1000 ∧ Q (.str (Txt.mul a j)) M
    | x, .int j => (match lstM M x with
      | some a => -(2 ^ 62) ≤ j ∧ j < 2 ^ 62 ∧ a.length * j.toNat ≤ LIM ∧ mkN m (rep j a) M Q
      | _ => False)
    | _, _ => False)
  | .fdiv => (match x, y with
    | .int i, .int j => DivOk j ∧ Q (.int (i / j)) M
    | _, _ => False)
  | .mod => (match x, y with
    | .int i, .int j => 0 < j ∧ Q (.int (i % j)) M
    | _, _ => False)
  | .pow => (match x, y with
    | .int i, .int j => PowOk i j ∧ Q (.int (i ^ j.toNat)) M
    | _, _ => False)

/-- x op= y -/
def iopD (op : BinO) (x y : D) (M : Mp) (Q : DK) : Prop := match x, y with
  | .int i, .int j => (match op with
    | .add => Q (.int (i + j)) M
    | .sub => Q (.int (i - j)) M
    | .mul => MulOk i j ∧ Q (.int (i * j)) M
    | .fdiv => DivOk j ∧ Q (.int (i / j)) M
    | .mod => 0 < j ∧ Q (.int (i % j)) M
    | .pow => False)
  | _, _ => False

def memOk (x : D) (ys : List D) : Bool := isD false x 30 && isDs false ys 30
def memD (x : D) (ys : List D) : Bool := ys.any fun y => eqD y x
def isN : D → Bool
  | .non => true
  | _ => false
/-- x in y -/
def memC (x y : D) (M : Mp) (Q : Bool → Prop) : Prop := match see M y with
  | .tup ys => memOk (see M x) ys = true ∧ Q (memD (see M x) ys)
  | .lst ys => memOk (see M x) ys = true ∧ Q (memD (see M x) ys)
  | .str b => (match x with
    | .str a => Q (!(Builtin.Str.occurrences b a 0 b.length 1).isEmpty)
    | _ => False)
  | _ => False
def cop (op : CmpO) (x y : D) (M : Mp) (Q : Bool → Prop) : Prop := match op with
  | .eq => eqOkE (see M x) (see M y) = true ∧ Q (eqD (see M x) (see M y))
  | .ne => eqOk (see M x) (see M y) = true ∧ Q (!eqD (see M x) (see M y))
  | .lt => (match x, y with
    | .int i, .int j => Q (decide (i < j))
    | _, _ => False)
  | .le => (match x, y with
    | .int i, .int j => Q (decide (i ≤ j))
    | _, _ => False)
  | .gt => (match x, y with
    | .int i, .int j => Q (decide (j < i))
    | _, _ => False)
  | .ge => (match x, y with
    | .int i, .int j => Q (decide (j ≤ i))
    | _, _ => False)
  | .is_ => (match y with
    | .non => Q (isN x)
    | .bl b => (match x with
      | .bl a => Q (decide (a = b))
      | _ => False)
    | _ => False)
  | .isnot => (match y with
    | .non => Q (!isN x)
    | .bl b => (match x with
      | .bl a => Q (!decide (a = b))
      | _ => False)
    | _ => False)
  | .in_ => memC x y M Q
  | .notin => memC x y M fun k => Q (!k)

def mapP (f : D → Option (D × List Addr)) : List D → Option (List D × List Addr)
  | [] => some ([], [])
  | d :: ds => (match f d, mapP f ds with
    | some x, some xs => some (x.1 :: xs.1, x.2 ++ xs.2)
    | _, _ => none)
def mapK (f : D → Option (D × List Addr)) : List (Key × D) → Option (List (Key × D) × List Addr)
  | [] => some ([], [])
  | (k, d) :: ds => (match f d, mapK f ds with
    | some x, some xs => some ((k, x.1) :: xs.1, x.2 ++ xs.2)
    | _, _ => none)
/-- settle: what may change is told as it stands, and may change no more (its places are told) -/
def settle (M : Mp) : Nat → D → Option (D × List Addr)
  | 0, _ => none
  | n + 1, d => match isD true d 30 with
    | true => some (d, [])
    | false => (match d with
      | .ref a => (match M a with
        | some (.lst ds) => (mapP (settle M n) ds).map fun r => (.lst r.1, a :: r.2)
        | some (.dic kvs) => (mapK (settle M n) kvs).map fun r => (.dic r.1, a :: r.2)
        | _ => none)
      | .tup ds => (mapP (settle M n) ds).map fun r => (.tup r.1, r.2)
      | .lst ds => (mapP (settle M n) ds).map fun r => (.lst r.1, r.2)
      | _ => none)
/-- what x shows: as it is seen, or what it settles to -/
def deepV (M : Mp) (x y : D) : Prop := y = see M x ∨ ∃ l, settle M 8 x = some (y, l)

def maxI : List Int → Int
  | [] => 0
  | x :: r => r.foldl max x
def minI : List Int → Int
  | [] => 0
  | x :: r => r.foldl min x
def sortI (ns : List Int) : List Int := ns.mergeSort (fun a b => decide (a ≤ b))

/-- sorted of tuples that stand in order -/
def sortT (m : Bool) (o : Option (List (List Int))) (x : D) (M : Mp) (Q : DK) : Prop := match o with
  | some rs => ascT rs ∧ mkN m (rs.map fun r => .tup (r.map D.int)) M Q
  | none => (match x with
    | .tup ds => (match intsOf ds with
      | some ns => mkN m ((sortI ns).map D.int) M Q
      | none => False)
    | _ => False)
def bfn (m : Bool) (f : BF) (xs : List D) (M : Mp) (Q : DK) : Prop := match f, xs with
  | .len, [x] => (match see M x with
    | .tup ds => Q (.int ds.length) M
    | .lst ds => Q (.int ds.length) M
    | .scr ds => Q (.int ds.length) M
    | .str z => z.length ≤ LIM ∧ Q (.int z.length) M
    | .dic kvs => Q (.int kvs.length) M
    | _ => False)
  | .max, [.int i, .int j] => Q (.int (if j > i then j else i)) M
  | .min, [.int i, .int j] => Q (.int (if j < i then j else i)) M
  | .max, [x] => (match (seqOf M x).bind intsOf with
    | some ns => ns ≠ [] ∧ Q (.int (maxI ns)) M
    | none => False)
  | .min, [x] => (match (seqOf M x).bind intsOf with
    | some ns => ns ≠ [] ∧ Q (.int (minI ns)) M
    | none => False)
  | .sum, [x] => (match (seqOf M x).bind intsOf with
    | some ns => Q (.int ns.sum) M
    | none => False)
  | .all, [x] => (match (lstOf M x).bind blsOf with
    | some bs => Q (.bl (bs.all id)) M
    | none => False)
  | .any, [x] => (match (lstOf M x).bind blsOf with
    | some bs => Q (.bl (bs.any id)) M
    | none => False)
  | .abs, [.int i] => Q (.int (if i < 0 then -i else i)) M
  | .int, [.int i] => Q (.int i) M
  | .int, [.bl b] => Q (.int (if b then 1 else 0)) M
  | .str, [.int i] => i.natAbs.log2 < 1920 ∧ Q (.str (toString i)) M
  | .repr, [x] => ∃ y, deepV M x y ∧ isD true y 30 = true ∧ (toP y).showable = true ∧ (toP y).shown.length ≤ LIM ∧ Q (.str (toP y).shown) M
  | .sorted, [x] => (match (lstOf M x).bind intsOf with
    | some ns => mkN m ((sortI ns).map D.int) M Q
    | none => sortT m ((lstOf M x).bind tupsOf) x M Q)
  | .divmod, [.int i, .int j] => DivOk j ∧ Q (.tup [.int (i / j), .int (i % j)]) M
  | _, _ => False

def keyOf : D → Option Key
  | .int i => some (.inl i)
  | .str x => some (.inr x)
  | _ => none
def getK (kvs : List (Key × D)) (k : Key) : Option D := (kvs.find? fun p => decide (p.1 = k)).map (·.2)
def setK (kvs : List (Key × D)) (k : Key) (v : D) : List (Key × D) :=
  if (kvs.any fun p => decide (p.1 = k)) = true then kvs.map (fun p => if p.1 = k then (p.1, v) else p) else kvs ++ [(k, v)]
/-- what receives a call -/
inductive MK where
  | lst | tup | dic | str
def okM : MK → MF → Bool
  | .lst, .append | .lst, .pop | .lst, .insert | .lst, .remove | .lst, .index | .lst, .count | .lst, .extend | .lst, .clear | .lst, .reverse => true
  | .tup, .count | .tup, .index => true
  | .dic, .get | .dic, .setdefault => true
  | .str, .join | .str, .split | .str, .strip | .str, .upper => true
  | _, _ => false
def rcv (M : Mp) (f : MF) (d : D) : Option MK := match see M d with
  | .lst _ => if okM .lst f then some .lst else none
  | .scr _ => if okM .lst f then some .lst else none
  | .tup _ => if okM .tup f then some .tup else none
  | .dic _ => if okM .dic f then some .dic else none
  | .str _ => if okM .str f then some .str else none
  | _ => none
def onL (o : D) (M : Mp) (g : Addr → List D → Prop) : Prop := match o with
  | .ref a => (match M a with
    | some (.lst ds) => g a ds
    | _ => False)
  | _ => False
/-- a dict of the program's own making, read -/
def onD (o : D) (M : Mp) (g : List (Key × D) → Prop) : Prop := match see M o with
  | .dic kvs => g kvs
  | _ => False
def onDW (o : D) (M : Mp) (g : Addr → List (Key × D) → Prop) : Prop := match o with
  | .ref a => (match M a with
    | some (.dic kvs) => g a kvs
    | _ => False)
  | _ => False
def placeD (x : D) (ys : List D) : Option Nat := ys.findIdx? fun y => eqD y x
def countD (x : D) (ys : List D) : Nat := ys.countP fun y => eqD y x
/-- o.f(xs) -/
def mth (m : Bool) (k : MK) (f : MF) (o : D) (xs : List D) (M : Mp) (Q : DK) : Prop := match k, f, xs with
  | .lst, .append, [x] => onL o M fun a ds => ds.length < LIM ∧ Q .non (up M a (.lst (ds ++ [x])))
  | .lst, .pop, [] => onL o M fun a ds => (match ds[ds.length - 1]? with
    | some y => Q y (up M a (.lst ds.dropLast))
    | none => False)
  | .lst, .pop, [.int i] => onL o M fun a ds => (match ixAt ds.length i with
    | some k => (match ds[k]? with
      | some y => -(2 ^ 62) ≤ i ∧ i < 2 ^ 62 ∧ Q y (up M a (.lst (ds.eraseIdx k)))
      | none => False)
    | none => False)
  | .lst, .insert, [.int i, x] => onL o M fun a ds => 0 ≤ i ∧ i < 2 ^ 62 ∧ ds.length < LIM ∧ Q .non (up M a (.lst (ds.take i.toNat ++ [x] ++ ds.drop i.toNat)))
  | .lst, .extend, [x] => onL o M fun a ds => (match lstM M x with
    | some es => ds.length + es.length ≤ LIM ∧ Q .non (up M a (.lst (ds ++ es)))
    | none => False)
  | .lst, .clear, [] => onL o M fun a ds => Q .non (up M a (.lst []))
  | .lst, .reverse, [] => onL o M fun a ds => Q .non (up M a (.lst ds.reverse))
  | .lst, .remove, [x] => onL o M fun a ds => memOk (see M x) ds = true ∧ (match placeD (see M x) ds with
    | some j => Q .non (up M a (.lst (ds.eraseIdx j)))
    | none => False)
  | .lst, .count, [x] => (match lstM M o with
    | some ds => memOk (see M x) ds = true ∧ Q (.int (countD (see M x) ds : Nat)) M
    | none => False)
  | .tup, .count, [x] => (match o with
    | .tup ds => memOk (see M x) ds = true ∧ Q (.int (countD (see M x) ds : Nat)) M
    | _ => False)
  | .lst, .index, [.int x] => (match (lstOf M o).bind intsOf with
    | some ns => x ∈ ns ∧ Q (.int (ns.idxOf x : Nat)) M
    | none => False)
  | .lst, .index, [.bl b] => (match lstM M o with
    | some ds => memOk (.bl b) ds = true ∧ (match placeD (.bl b) ds with
      | some j => Q (.int (j : Nat)) M
      | none => False)
    | none => False)
  | .tup, .index, [.int x] => (match (match o with
    | .tup ds => intsOf ds
    | _ => none) with
    | some ns => x ∈ ns ∧ Q (.int (ns.idxOf x : Nat)) M
    | none => False)
  | .dic, .get, [y, x] => onD o M fun kvs => (match keyOf y with
    | some k => Q ((getK kvs k).getD x) M
    | none => False)
  | .dic, .get, [y] => onD o M fun kvs => (match keyOf y with
    | some k => Q ((getK kvs k).getD .non) M
    | none => False)
  | .dic, .setdefault, [y, x] => onDW o M fun a kvs => (match keyOf y with
    | some k => kvs.length < LIM ∧ (match getK kvs k with
      | some d => Q d M
      | none => Q x (up M a (.dic (setK kvs k x))))
    | none => False)
  | .str, .join, [x] => (match o, (seqOf M x).bind strsOf with
    | .str a, some ys => (ys.map (·.length)).sum + ys.length * a.length ≤ LIM ∧ Q (.str (Txt.join a ys)) M
    | _, _ => False)
  | .str, .split, [.str b] => (match o with
    | .str a => (b.length == 0) = false ∧ a.length + 2 ≤ LIM ∧ mkN m ((Txt.split a b).map D.str) M Q
    | _ => False)
  | .str, .strip, [.str b] => (match o with
    | .str a => a.length ≤ LIM ∧ Q (.str (Txt.stripChars a b)) M
    | _ => False)
  | .str, .upper, [] => (match o with
    | .str a => a.length ≤ 5592405 ∧ Q (.str (Txt.upper a)) M
    | _ => False)
  | _, _, _ => False

/-- o[i] -/
def ixD (x y : D) (M : Mp) (Q : DK) : Prop := match see M x with
  | .scr ds => (match y with
    | .int i => (match atD ds i with
      | some d => Q d M
      | none => False)
    | _ => False)
  | .tup ds => (match y with
    | .int i => (match atD ds i with
      | some d => Q d M
      | none => False)
    | _ => False)
  | .lst ds => (match y with
    | .int i => (match atD ds i with
      | some d => Q d M
      | none => False)
    | _ => False)
  | .str z => (match y with
    | .int i => z.length ≤ LIM ∧ (match (ixAt z.cps.toList.length i).bind fun j => z.cps.toList[j]? with
      | some c => Q (.str ⟨#[c]⟩) M
      | none => False)
    | _ => False)
  | .dic kvs => (match keyOf y with
    | some k => (match getK kvs k with
      | some d => Q d M
      | none => False)
    | none => False)
  | _ => False
/-- o[i] = v -/
def stD (o i v : D) (M : Mp) (Q : Mp → Prop) : Prop := match o with
  | .ref a => (match M a with
    | some (.lst ds) => (match i with
      | .int i => (match ixAt ds.length i with
        | some j => Q (up M a (.lst (ds.set j v)))
        | none => False)
      | _ => False)
    | some (.dic kvs) => (match keyOf i with
      | some k => kvs.length < LIM ∧ Q (up M a (.dic (setK kvs k v)))
      | none => False)
    | _ => False)
  | _ => False
/-- the bounds of a slice -/
def cutIx (n : Nat) (d : Nat) : Option Int → Nat
  | none => d
  | some i => if i < 0 then (i + n).toNat else min i.toNat n
def cutD (xs : List D) (lo hi : Option Int) : List D := (xs.drop (cutIx xs.length 0 lo)).take (cutIx xs.length xs.length hi - cutIx xs.length 0 lo)
def cutStr (z : Str) (lo hi : Option Int) : Str := ⟨((z.cps.toList.drop (cutIx z.cps.toList.length 0 lo)).take (cutIx z.cps.toList.length z.cps.toList.length hi - cutIx z.cps.toList.length 0 lo)).toArray⟩
def slD (m : Bool) (x : D) (lo hi : Option Int) (M : Mp) (Q : DK) : Prop := match see M x with
  | .tup ds => Q (.tup (cutD ds lo hi)) M
  | .lst ds => mkN m (cutD ds lo hi) M Q
  | .scr ds => mkN m (cutD ds lo hi) M Q
  | .str z => z.length ≤ LIM ∧ Q (.str (cutStr z lo hi)) M
  | _ => False

/-- list(x), tuple(x) -/
def convD (m l : Bool) (x : D) (M1 : Mp) (Q : DK) : Prop := match l with
  | true => (match x with
    | .tup ds => mkN m ds M1 Q
    | .lst ds => mkN m ds M1 Q
    | .scr ds => mkN m ds M1 Q
    | .ref a => (match M1 a with
      | some (.lst ds) => mkN m ds M1 Q
      | _ => False)
    | _ => False)
  | false => (match x with
    | .tup ds => Q (.tup ds) M1
    | .lst ds => Q (.tup ds) M1
    | .scr ds => Q (.tup ds) M1
    | .ref a => (match M1 a with
      | some (.lst ds) => Q (.tup ds) M1
      | _ => False)
    | _ => False)
/-- sorted(set(x)) of a tuple of whole numbers -/
def ssetI (ns : List Int) (m : Bool) (M : Mp) (Q : DK) : Prop := ns.length < 64 ∧ ∀ ms : List Int, ms.Pairwise (· < ·) → (∀ k, k ∈ ms ↔ k ∈ ns) → mkN m (ms.map D.int) M Q
def ssetD (m : Bool) (x : D) (M : Mp) (Q : DK) : Prop := match x with
  | .tup ds => (match intsOf ds with
    | some ns => ssetI ns m M Q
    | none => False)
  | .lst ds => (match intsOf ds with
    | some ns => ssetI ns m M Q
    | none => False)
  | _ => False
/-- len(dict(x)) of a list of pairs with different keys -/
def ldctD (x : D) (M : Mp) (Q : DK) : Prop := match x with
  | .lst ds => (match pairsOf ds with
    | some ks => ks.Nodup ∧ ks.length ≤ 1000 ∧ Q (.int (ks.length : Nat)) M
    | none => False)
  | _ => False
/-- len(set(x)) of whole numbers -/
def lsetI (ns : List Int) (M : Mp) (Q : DK) : Prop := ns.length ≤ 1000 ∧ ∀ ms : List Int, ms.Nodup → (∀ k, k ∈ ms ↔ k ∈ ns) → Q (.int (ms.length : Nat)) M
def lsetD (x : D) (M : Mp) (Q : DK) : Prop := match x with
  | .tup ds => (match intsOf ds with
    | some ns => lsetI ns M Q
    | none => False)
  | .lst ds => (match intsOf ds with
    | some ns => lsetI ns M Q
    | none => False)
  | _ => False
/-- a range's items -/
def rngD (Q : List D → (Mp → Prop) → Mp → Prop) (ds : List D) (M1 : Mp) : Prop := match ds with
    | [.int j] => -(2 ^ 62) ≤ j ∧ j ≤ LIM ∧ Q ((List.range j.toNat).map fun k => .int (k : Nat)) (fun _ => True) M1
    | [.int i, .int j] => -(2 ^ 62) ≤ i ∧ i < 2 ^ 62 ∧ -(2 ^ 62) ≤ j ∧ j < 2 ^ 62 ∧ j - i ≤ LIM ∧ Q ((List.range (j - i).toNat).map fun k => .int (i + (k : Nat))) (fun _ => True) M1
    | _ => False
/-- zip of two: tuples, or lists -/
def zipD (Q : List D → (Mp → Prop) → Mp → Prop) (ds : List D) (M1 : Mp) : Prop := match ds with
    | [x, y] => (match x, y with
      | .tup a, .tup b => Q ((a.zip b).map fun p => .tup [p.1, p.2]) (fun _ => True) M1
      | x, .tup b => (match lstOf M1 x with
        | some a => Q ((a.zip b).map fun p => .tup [p.1, p.2]) (fun M => lstOf M x = some a) M1
        | _ => False)
      | .tup a, y => (match lstOf M1 y with
        | some b => Q ((a.zip b).map fun p => .tup [p.1, p.2]) (fun M => lstOf M y = some b) M1
        | _ => False)
      | x, y => (match lstOf M1 x, lstOf M1 y with
        | some a, some b => Q ((a.zip b).map fun p => .tup [p.1, p.2]) (fun M => lstOf M x = some a ∧ lstOf M y = some b) M1
        | _, _ => False))
    | _ => False
def rngV (Q : List D → Mp → Prop) (ds : List D) (M1 : Mp) : Prop := rngD (fun ds _ M => Q ds M) ds M1
end Pw
set_option Elab.async false
set_option linter.all false
set_option maxRecDepth 100000
namespace Pw
open PySem PySem.Spec PyProof.Rows L2

/-- what is wanted behind a statement -/
structure En where
  nx : St → Mp → Prop
  rt : DK
  bk : St → Mp → Prop
  ct : St → Mp → Prop

/-- slots forgotten -/
def wipeD (δ : St) : List Nat → St
  | [] => δ
  | v :: vs => (wipeD δ vs).set v none

/-- a loop over items ds; still: the source stands as it was -/
def forL (step : D → (St → Mp → Prop) → St → Mp → Prop) (clr : List Nat) (still : Mp → Prop) (nx : St → Mp → Prop) : List D → St → Mp → Prop
  | [], δ, M => still M ∧ nx δ M
  | d :: ds, δ, M => still M ∧ step d (fun δ' M' => forL step clr still nx ds (wipeD δ' clr) M') δ M
/-- a comprehension over items -/
def compL {α : Type} (g : D → St → Mp → (St → Mp → Prop) → Prop) (tt : St → Mp → (Bool → Mp → Prop) → Prop) (te : St → Mp → (α → Mp → (α → Mp → Prop) → Prop)) (still : Mp → Prop) (δ : St) (K : α → Mp → Prop) : List D → α → Mp → Prop
  | [], acc, M => still M ∧ K acc M
  | d :: ds, acc, M => still M ∧ g d δ M fun δ1 M1 => tt δ1 M1 fun k M2 => match k with
    | true => te δ1 M2 acc M2 fun acc' M3 => compL g tt te still δ K ds acc' M3
    | false => compL g tt te still δ K ds acc M2

def cntL : T → Nat
  | .cons _ r => cntL r + 1
  | _ => 0
def never : XD := fun _ _ _ => False

mutual
/-- an expression -/
def wpE (Γ : String → SpD) (xk : XD) : T → St → Mp → DK → Prop
  | .var i, δ, M, Q => (match δ[i]? with
    | some (some d) => Q d M
    | _ => False)
  | .lit d, _, M, Q => Q d M
  | .bin m op a b, δ, M, Q => wpE Γ xk a δ M fun x M1 => wpE Γ xk b δ M1 fun y M2 => bop m op x y M2 Q
  | .neg a, δ, M, Q => wpE Γ xk a δ M fun x M1 => (match x with
    | .int i => Q (.int (-i)) M1
    | _ => False)
  | .not a, δ, M, Q => wpE Γ xk a δ M fun x M1 => (match x with
    | .bl b => Q (.bl (!b)) M1
    | _ => False)
  | .and a b, δ, M, Q => wpE Γ xk a δ M fun x M1 => (match x with
    | .bl true => wpE Γ xk b δ M1 Q
    | .bl false => Q (.bl false) M1
    | _ => False)
  | .or a b, δ, M, Q => wpE Γ xk a δ M fun x M1 => (match x with
    | .bl true => Q (.bl true) M1
    | .bl false => wpE Γ xk b δ M1 Q
    | _ => False)
  | .cmp op a b, δ, M, Q => wpE Γ xk a δ M fun x M1 => wpE Γ xk b δ M1 fun y M2 => cop op x y M2 fun k => Q (.bl k) M2
  | .chain o1 o2 a b c, δ, M, Q => wpE Γ xk a δ M fun x M1 => wpE Γ xk b δ M1 fun y M2 => cop o1 x y M2 fun k => (match k with
    | true => wpE Γ xk c δ M2 fun z M3 => cop o2 y z M3 fun k => Q (.bl k) M3
    | false => Q (.bl false) M2)
  | .ite c a b, δ, M, Q => wpT Γ xk c δ M fun k M1 => (match k with
    | true => wpE Γ xk a δ M1 Q
    | false => wpE Γ xk b δ M1 Q)
  | .tup es, δ, M, Q => wpL Γ xk es δ M fun ds M1 => Q (.tup ds) M1
  | .tups es, δ, M, Q => wpX Γ xk es δ M fun ds M1 => ds.length ≤ LIM ∧ Q (.tup ds) M1
  | .lst m es, δ, M, Q => wpL Γ xk es δ M fun ds M1 => mkN m ds M1 Q
  | .dct m, _, M, Q => (match m with
    | true => ∀ p, M p = none → Q (.ref p) (up M p (.dic []))
    | false => Q (.dic []) M)
  | .call f es dfl, δ, M, Q => wpL Γ xk es δ M fun ds M1 => Γ f (ds ++ dfl) M1 Q fun c M' => xk c δ M'
  | .callk f es _ e, δ, M, Q => wpL Γ xk es δ M fun ds M1 => wpE Γ xk e δ M1 fun d M2 => Γ f (ds ++ [d]) M2 Q fun c M' => xk c δ M'
  | .blt m f es, δ, M, Q => wpL Γ xk es δ M fun ds M1 => bfn m f ds M1 Q
  | .isi e tys, δ, M, Q => wpE Γ xk e δ M fun x M1 => (match nm (see M1 x) with
    | some n => Q (.bl (tys.any fun t => isI1 n t)) M1
    | none => False)
  | .conv m l e, δ, M, Q => wpE Γ xk e δ M fun x M1 => convD m l x M1 Q
  | .convr m l es, δ, M, Q => wpL Γ xk es δ M fun ds M1 => rngV (fun ds M2 => match l with
    | true => mkN m ds M2 Q
    | false => Q (.tup ds) M2) ds M1
  | .convv e, δ, M, Q => wpE Γ xk e δ M fun x M1 => (match lstOf M1 x with
    | some ds => Q (.tup ds.reverse) M1
    | none => False)
  | .meth m f o es, δ, M, Q => wpE Γ xk o δ M fun x M1 => (match rcv M1 f x with
    | some k => wpL Γ xk es δ M1 fun ds M2 => mth m k f x ds M2 Q
    | none => False)
  | .idx a i, δ, M, Q => wpE Γ xk a δ M fun x M1 => wpE Γ xk i δ M1 fun y M2 => ixD x y M2 Q
  | .slc m a lo hi, δ, M, Q => wpE Γ xk a δ M fun x M1 => wpO Γ xk lo δ M1 fun l M2 => wpO Γ xk hi δ M2 fun h M3 => slD m x l h M3 Q
  | .revs m a, δ, M, Q => wpE Γ xk a δ M fun x M1 => (match see M1 x with
    | .tup ds => Q (.tup ds.reverse) M1
    | .lst ds => mkN m ds.reverse M1 Q
    | _ => False)
  | .sset m a, δ, M, Q => wpE Γ xk a δ M fun x M1 => ssetD m x M1 Q
  | .ldct a, δ, M, Q => wpE Γ xk a δ M fun x M1 => ldctD x M1 Q
  | .lset a, δ, M, Q => wpE Γ xk a δ M fun x M1 => lsetD x M1 Q
  | .comp m own elt t it ifs, δ, M, Q => wpI Γ xk it δ M fun ds still M1 => compL (wpG Γ never t) (wpTs Γ never ifs) (fun δ1 M acc M' K => wpE Γ never elt δ1 M' fun x M'' => K (acc ++ [x]) M'') still (wipeD δ own)
      (fun acc M2 => mkN m acc M2 Q) ds [] M1
  | .comp2 m own own2 elt t it ifs t2 it2 ifs2, δ, M, Q => wpI Γ xk it δ M fun ds still M1 => compL (wpG Γ never t) (wpTs Γ never ifs)
      (fun δ1 _ acc M2 K => wpI Γ never it2 δ1 M2 fun ds2 still2 M3 => compL (wpG Γ never t2) (wpTs Γ never ifs2) (fun δ3 _ acc M' K' => wpE Γ never elt δ3 M' fun x M'' => acc.length < LIM ∧ K' (acc ++ [x]) M'') still2 (wipeD δ1 own2) K ds2 acc M3) still (wipeD δ own)
      (fun acc M2 => mkN m acc M2 Q) ds [] M1
  | .dc1 m own kx vx t it ifs, δ, M, Q => wpI Γ xk it δ M fun ds still M1 => compL (wpG Γ never t) (wpTs Γ never ifs)
      (fun δ1 _ acc M' K => wpE Γ never kx δ1 M' fun y M2 => wpE Γ never vx δ1 M2 fun x M3 => (match keyOf y with
        | some k => acc.length < LIM ∧ K (setK acc k x) M3
        | none => False)) still (wipeD δ own) (fun acc M2 => mkND m acc M2 Q) ds [] M1
  | .dc2 m own own2 kx vx t it ifs t2 it2 ifs2, δ, M, Q => wpI Γ xk it δ M fun ds still M1 => compL (wpG Γ never t) (wpTs Γ never ifs)
      (fun δ1 _ acc M2 K => wpI Γ never it2 δ1 M2 fun ds2 still2 M3 => compL (wpG Γ never t2) (wpTs Γ never ifs2)
        (fun δ3 _ acc M' K' => wpE Γ never kx δ3 M' fun y M4 => wpE Γ never vx δ3 M4 fun x M5 => (match keyOf y with
          | some k => acc.length < LIM ∧ K' (setK acc k x) M5
          | none => False)) still2 (wipeD δ1 own2) K ds2 acc M3) still (wipeD δ own) (fun acc M2 => mkND m acc M2 Q) ds [] M1
  | .isx xs e cs, δ, M, Q => wpE Γ xk e δ M fun x M1 => (match x with
    | .exc c => c ∈ xs ∧ Q (.bl (cs.any fun t => excIs c t)) M1
    | _ => False)
  | .frz e, δ, M, Q => wpE Γ xk e δ M fun x M1 => (match settle M1 8 x with
    | some d => ∃ M2, Sub M2 M1 ∧ (∀ a ∈ d.2, M2 a = none) ∧ Q d.1 M2
    | none => False)
  | _, _, _, _ => False
/-- a test -/
def wpT (Γ : String → SpD) (xk : XD) : T → St → Mp → (Bool → Mp → Prop) → Prop
  | .not a, δ, M, Q => wpT Γ xk a δ M fun k M1 => Q (!k) M1
  | .and a b, δ, M, Q => wpT Γ xk a δ M fun k M1 => (match k with
    | true => wpT Γ xk b δ M1 Q
    | false => Q false M1)
  | .or a b, δ, M, Q => wpT Γ xk a δ M fun k M1 => (match k with
    | true => Q true M1
    | false => wpT Γ xk b δ M1 Q)
  | .ite c a b, δ, M, Q => wpT Γ xk c δ M fun k M1 => (match k with
    | true => wpT Γ xk a δ M1 Q
    | false => wpT Γ xk b δ M1 Q)
  | .cmp op a b, δ, M, Q => wpE Γ xk a δ M fun x M1 => wpE Γ xk b δ M1 fun y M2 => cop op x y M2 fun k => Q k M2
  | .chain o1 o2 a b c, δ, M, Q => wpE Γ xk a δ M fun x M1 => wpE Γ xk b δ M1 fun y M2 => cop o1 x y M2 fun k => (match k with
    | true => wpE Γ xk c δ M2 fun z M3 => cop o2 y z M3 fun k => Q k M3
    | false => Q false M2)
  | .tst e, δ, M, Q => wpE Γ xk e δ M fun x M1 => (match tru M1 x with
    | some k => Q k M1
    | none => False)
  | _, _, _, _ => False
/-- the tests of a comprehension: none or one -/
def wpTs (Γ : String → SpD) (xk : XD) : T → St → Mp → (Bool → Mp → Prop) → Prop
  | .nil, _, M, Q => Q true M
  | .cons a _, δ, M, Q => wpT Γ xk a δ M Q
  | _, _, _, _ => False
/-- arguments -/
def wpL (Γ : String → SpD) (xk : XD) : T → St → Mp → (List D → Mp → Prop) → Prop
  | .nil, _, M, Q => Q [] M
  | .cons a r, δ, M, Q => wpE Γ xk a δ M fun x M1 => wpL Γ xk r δ M1 fun xs M2 => Q (x :: xs) M2
  | _, _, _, _ => False
/-- items, some of them spread out -/
def wpX (Γ : String → SpD) (xk : XD) : T → St → Mp → (List D → Mp → Prop) → Prop
  | .nil, _, M, Q => Q [] M
  | .star a r, δ, M, Q => wpE Γ xk a δ M fun x M1 => (match seqOf M1 x with
    | some ds => wpX Γ xk r δ M1 fun xs M2 => Q (ds ++ xs) M2
    | none => False)
  | .cons a r, δ, M, Q => wpE Γ xk a δ M fun x M1 => wpX Γ xk r δ M1 fun xs M2 => Q (x :: xs) M2
  | _, _, _, _ => False
/-- a slice's bound -/
def wpO (Γ : String → SpD) (xk : XD) : T → St → Mp → (Option Int → Mp → Prop) → Prop
  | .nil, _, M, Q => Q none M
  | .cons a _, δ, M, Q => wpE Γ xk a δ M fun x M1 => (match x with
    | .int i => Q (some i) M1
    | _ => False)
  | _, _, _, _ => False
/-- what is walked: the items, and that the source stands -/
def wpI (Γ : String → SpD) (xk : XD) : T → St → Mp → (List D → (Mp → Prop) → Mp → Prop) → Prop
  | .ival e, δ, M, Q => wpE Γ xk e δ M fun x M1 => (match x with
    | .tup ds => Q ds (fun _ => True) M1
    | .lst ds => Q ds (fun _ => True) M1
    | .scr ds => Q ds (fun _ => True) M1
    | .str z => z.length ≤ LIM ∧ Q (chars z) (fun _ => True) M1
    | .ref a => (match M1 a with
      | some (.lst ds) => Q ds (fun M => M a = some (.lst ds)) M1
      | _ => False)
    | _ => False)
  | .irng es, δ, M, Q => wpL Γ xk es δ M fun ds M1 => rngD Q ds M1
  | .izip es, δ, M, Q => wpL Γ xk es δ M fun ds M1 => zipD Q ds M1
  | .ienum e, δ, M, Q => wpE Γ xk e δ M fun x M1 => (match x with
    | .tup ds => Q (ds.zipIdx.map fun p => .tup [.int (p.2 : Nat), p.1]) (fun _ => True) M1
    | .lst ds => Q (ds.zipIdx.map fun p => .tup [.int (p.2 : Nat), p.1]) (fun _ => True) M1
    | .ref a => (match M1 a with
      | some (.lst ds) => Q (ds.zipIdx.map fun p => .tup [.int (p.2 : Nat), p.1]) (fun M => M a = some (.lst ds)) M1
      | _ => False)
    | _ => False)
  | .irev e, δ, M, Q => wpE Γ xk e δ M fun x M1 => (match x with
    | .tup ds => Q ds.reverse (fun _ => True) M1
    | .lst ds => Q ds.reverse (fun _ => True) M1
    | .ref a => (match M1 a with
      | some (.lst ds) => Q ds.reverse (fun M => M a = some (.lst ds)) M1
      | _ => False)
    | _ => False)
  | _, _, _, _ => False
/-- a target -/
def wpG (Γ : String → SpD) (xk : XD) : T → D → St → Mp → (St → Mp → Prop) → Prop
  | .gname i, d, δ, M, Q => Q (δ.set i (some d)) M
  | .gtup gs, d, δ, M, Q => (match d with
    | .tup ds => ds.length = cntL gs ∧ wpGs Γ xk gs ds δ M Q
    | _ => False)
  | .gsub o i, d, δ, M, Q => wpE Γ xk o δ M fun x M1 => wpE Γ xk i δ M1 fun y M2 => stD x y d M2 fun M3 => Q δ M3
  | _, _, _, _, _ => False
def wpGs (Γ : String → SpD) (xk : XD) : T → List D → St → Mp → (St → Mp → Prop) → Prop
  | .nil, ds, δ, M, Q => (match ds with
    | [] => Q δ M
    | _ => False)
  | .cons g r, ds, δ, M, Q => (match ds with
    | d :: ds => wpG Γ xk g d δ M fun δ1 M1 => wpGs Γ xk r ds δ1 M1 Q
    | _ => False)
  | _, _, _, _, _ => False
/-- a statement -/
def wpS (Γ : String → SpD) (xk : XD) : T → En → St → Mp → Prop
  | .asg g e, E, δ, M => wpE Γ xk e δ M fun x M1 => wpG Γ xk g x δ M1 E.nx
  | .par is es, E, δ, M => wpL Γ xk es δ M fun ds M1 => ds.length = is.length ∧ E.nx ((is.zip ds).foldl (fun δ p => δ.set p.1 (some p.2)) δ) M1
  | .aug op i e, E, δ, M => (match δ[i]? with
    | some (some x) => wpE Γ xk e δ M fun y M1 => iopD op x y M1 fun z M2 => E.nx (δ.set i (some z)) M2
    | _ => False)
  | .augs op o i e, E, δ, M => wpE Γ xk o δ M fun x M1 => wpE Γ xk i δ M1 fun y M2 => ixD x y M2 fun z M3 => wpE Γ xk e δ M3 fun u M4 => iopD op z u M4 fun v M5 => stD x y v M5 fun M6 => E.nx δ M6
  | .doc, E, δ, M => E.nx δ M
  | .expr e, E, δ, M => wpE Γ xk e δ M fun _ M1 => E.nx δ M1
  | .ret e, E, δ, M => wpE Γ xk e δ M E.rt
  | .retn, E, _, M => E.rt .non M
  | .ifs c a b, E, δ, M => wpT Γ xk c δ M fun k M1 => (match k with
    | true => wpSs Γ xk a E δ M1
    | false => wpSs Γ xk b E δ M1)
  | .for_ clr g it body, E, δ, M => wpI Γ xk it δ M fun ds still M1 => forL (fun d k δ M => wpG Γ xk g d δ M fun δ' M' => wpSs Γ xk body { nx := k, ct := k, bk := fun δ'' M'' => E.nx δ'' M'', rt := E.rt } δ' M') clr still E.nx ds (wipeD δ clr) M1
  | .while_ clr c body, E, δ, M => ∃ W : Nat → St → Mp → Prop, (∃ n, W n (wipeD δ clr) M) ∧ ∀ n δ M, W n δ M → wpT Γ xk c δ M fun k M1 => (match k with
    | true => wpSs Γ xk body { nx := fun δ' M' => ∃ n', n' < n ∧ W n' (wipeD δ' clr) M', ct := fun δ' M' => ∃ n', n' < n ∧ W n' (wipeD δ' clr) M', bk := E.nx, rt := E.rt } δ M1
    | false => E.nx δ M1)
  | .pass, E, δ, M => E.nx δ M
  | .brk, E, δ, M => E.bk δ M
  | .cont, E, δ, M => E.ct δ M
  | .raise c _, _, δ, M => xk c δ M
  | .tryx xs _ i j body, E, δ, M => wpSs Γ (fun q δ' M' => q ∈ xs ∧ E.nx ((δ'.set j (some (.exc q))).set i none) M') body E δ M
  | _, _, _, _ => False
def wpSs (Γ : String → SpD) (xk : XD) : T → En → St → Mp → Prop
  | .nil, E, δ, M => E.nx δ M
  | .cons s r, E, δ, M => wpS Γ xk s { E with nx := fun δ' M' => wpSs Γ xk r E δ' M' } δ M
  | _, _, _, _ => False
end

/-- a def: the number of its parameters, of its names, its body -/
structure Fn where
  ar : Nat
  sl : Nat
  body : T
def Lv (Q : Mp → Prop) (M : Mp) : Prop := ∃ M', Sub M' M ∧ Q M'
def wpF (Γ : String → SpD) (f : Fn) : SpD := fun ds M Q X => ds.length = f.ar ∧
  wpSs Γ (fun c _ M' => Lv (X c) M') f.body { nx := fun _ M' => Lv (Q .non) M', rt := fun d M' => Lv (Q d) M', bk := fun _ _ => False, ct := fun _ _ => False } (ds.map some ++ List.replicate (f.sl - f.ar) none) M
def run (P : List (String × Fn)) : Nat → String → SpD
  | 0, _ => fun _ _ _ _ => False
  | n + 1, x => match P.lookup x with
    | some f => wpF (run P n) f
    | none => fun _ _ _ _ => False
end Pw
set_option Elab.async false
set_option linter.all false
set_option maxRecDepth 100000
namespace Pw
open PySem PySem.Spec PyProof.Rows L2

/-! ### relations stay -/
section
variable {K : PySem.W.Frag} {M M' M'' : Mp} {H H' H'' : Hp}
theorem Ext.refl : Ext M H M H := fun _ _ h n => ⟨h, n⟩
theorem Ext.trans (a : Ext M H M' H') (b : Ext M' H' M'' H'') : Ext M H M'' H'' := fun c o h n => b c o (a c o h n).1 (a c o h n).2
theorem Ext.sub (s : Sub M' M) : Ext M H M' H := fun a o h n => ⟨h, by
  cases e : M' a with
  | none => rfl
  | some x => rw [s a x e] at n; cases n⟩
theorem Ext.new {p : Addr} {o : HO} (hp : H p = none) : Ext M H M (upd H p o) := fun a x h n => ⟨by rw [upd_ne (ne_of_none h hp)]; exact h, n⟩
theorem Ext.newM {p : Addr} {o : HO} {d : DO} (hp : H p = none) : Ext M H (up M p d) (upd H p o) := fun a x h n => by
  have e := ne_of_none h hp
  exact ⟨by rw [upd_ne e]; exact h, by rw [up_ne e]; exact n⟩
theorem Ext.wr {p : Addr} {o : HO} {d d' : DO} (hp : M p = some d) : Ext M H (up M p d') (upd H p o) := fun a x h n => by
  have e : a ≠ p := fun z => by rw [z, hp] at n; cases n
  exact ⟨by rw [upd_ne e]; exact h, by rw [up_ne e]; exact n⟩
theorem RM.none_of (r : RM K M H) {a : Addr} (h : H a = none) : M a = none := by
  cases e : M a with
  | none => rfl
  | some o =>
    have q := r a o e
    cases o with
    | lst ds => obtain ⟨_, z, _⟩ := q; rw [h] at z; cases z
    | dic ds => obtain ⟨_, z, _⟩ := q; rw [h] at z; cases z
    | dicT _ => exact q.elim
    | ins _ _ => exact q.elim
theorem RM.tup (r : RM K M H) {a : Addr} {vs : List V} (h : H a = some (.tup vs)) : M a = none := by
  cases e : M a with
  | none => rfl
  | some o =>
    have q := r a o e
    cases o with
    | lst ds => obtain ⟨_, z, _⟩ := q; rw [h] at z; cases z
    | dic ds => obtain ⟨_, z, _⟩ := q; rw [h] at z; cases z
    | dicT _ => exact q.elim
    | ins _ _ => exact q.elim
theorem RM.frz (r : RM K M H) {a : Addr} {o : Obj} {u : HO} (h : H a = some (.frz o u)) : M a = none := by
  cases e : M a with
  | none => rfl
  | some o =>
    have q := r a o e
    cases o with
    | lst ds => obtain ⟨_, z, _⟩ := q; rw [h] at z; cases z
    | dic ds => obtain ⟨_, z, _⟩ := q; rw [h] at z; cases z
    | dicT _ => exact q.elim
    | ins _ _ => exact q.elim
theorem Ext.sqF (x : Ext M H M' H') (r : RM K M H) {a : Addr} {vs : List V} (h : SqF K H a vs) : SqF K H' a vs := by
  rcases h with ⟨o, h, d⟩ | h
  · exact .inl ⟨o, (x a _ h (r.frz h)).1, d⟩
  · exact .inr h
theorem Ext.sqT (x : Ext M H M' H') (r : RM K M H) {a : Addr} {vs : List V} (h : SqT K H a vs) : SqT K H' a vs := by
  rcases h with (h | ⟨o, h⟩) | h
  · exact .inl (.inl (x a _ h (r.tup h)).1)
  · exact .inl (.inr ⟨o, (x a _ h (r.frz h)).1⟩)
  · exact .inr h
theorem Ext.sqS (x : Ext M H M' H') (r : RM K M H) {a : Addr} {vs : List V} (h : SqS K H a vs) : SqS K H' a vs := by
  rcases h with ⟨o, h⟩ | h
  · exact .inl ⟨o, (x a _ h (r.frz h)).1⟩
  · exact .inr h
mutual
theorem RV.mono (x : Ext M H M' H') (r : RM K M H) : ∀ (d : D) (v : V), RV K M H d v → RV K M' H' d v
  | .non, v, h => by simp only [RV] at h ⊢; exact h
  | .bl _, v, h => by simp only [RV] at h ⊢; exact h
  | .int _, v, h => by simp only [RV] at h ⊢; exact h
  | .str _, v, h => by simp only [RV] at h ⊢; exact h
  | .tup ds, v, h => by
    simp only [RV] at h ⊢
    obtain ⟨a, vs, e, s, q⟩ := h
    exact ⟨a, vs, e, x.sqF r s, RVs.mono x r ds vs q⟩
  | .lst ds, v, h => by
    simp only [RV] at h ⊢
    obtain ⟨a, vs, e, s, n, q⟩ := h
    exact ⟨a, vs, e, (x a _ s n).1, (x a _ s n).2, RVs.mono x r ds vs q⟩
  | .dic kvs, v, h => by
    simp only [RV] at h ⊢
    obtain ⟨a, us, e, s, n, q⟩ := h
    exact ⟨a, us, e, (x a _ s n).1, (x a _ s n).2, RKs.mono x r kvs us q⟩
  | .ref _, v, h => by simp only [RV] at h ⊢; exact h
  | .ty _, v, h => by simp only [RV] at h ⊢; exact h
  | .exc _, v, h => by
    simp only [RV] at h ⊢
    obtain ⟨a, e, s, n⟩ := h
    exact ⟨a, e, (x a _ s n).1, (x a _ s n).2⟩
  | .scr ds, v, h => by
    simp only [RV] at h ⊢
    obtain ⟨a, vs, e, s, q⟩ := h
    exact ⟨a, vs, e, x.sqS r s, RVs.mono x r ds vs q⟩
theorem RVs.mono (x : Ext M H M' H') (r : RM K M H) : ∀ (ds : List D) (vs : List V), RVs K M H ds vs → RVs K M' H' ds vs
  | [], vs, h => by simp only [RVs] at h ⊢; exact h
  | d :: ds, vs, h => by
    simp only [RVs] at h ⊢
    obtain ⟨v, q, e, h1, h2⟩ := h
    exact ⟨v, q, e, RV.mono x r d v h1, RVs.mono x r ds q h2⟩
theorem RKs.mono (x : Ext M H M' H') (r : RM K M H) : ∀ (ds : List (Key × D)) (vs : List (Key × V)), RKs K M H ds vs → RKs K M' H' ds vs
  | [], vs, h => by simp only [RKs] at h ⊢; exact h
  | (k, d) :: ds, vs, h => by
    simp only [RKs] at h ⊢
    obtain ⟨v, q, e, h1, h2⟩ := h
    exact ⟨v, q, e, RV.mono x r d v h1, RKs.mono x r ds q h2⟩
end
theorem RO.mono (x : Ext M H M' H') (r : RM K M H) {a : Addr} (h : H' a = H a) : ∀ {o : DO}, RO K M H a o → RO K M' H' a o
  | .lst ds, ⟨vs, e, q⟩ => ⟨vs, by rw [h]; exact e, RVs.mono x r ds vs q⟩
  | .dic ds, ⟨vs, e, q⟩ => ⟨vs, by rw [h]; exact e, RKs.mono x r ds vs q⟩
theorem RM.sub (r : RM K M H) (s : Sub M' M) : RM K M' H := fun a o e => (r a o (s a o e)).mono (Ext.sub s) r rfl
/-- a new thing, not ours to change -/
theorem RM.new (r : RM K M H) {p : Addr} {o : HO} (hp : H p = none) : RM K M (upd H p o) := fun a x e => (r a x e).mono (Ext.new hp) r (upd_ne fun z => by
  rw [z, r.none_of hp] at e; cases e)
/-- a new thing, ours -/
theorem RM.newM (r : RM K M H) {p : Addr} {o : HO} {d : DO} (hp : H p = none) (h : RO K (up M p d) (upd H p o) p d) : RM K (up M p d) (upd H p o) := fun a x e => by
  by_cases z : a = p
  · subst z
    rw [up_same] at e; cases e
    exact h
  · rw [up_ne z] at e
    exact (r a x e).mono (Ext.newM hp) r (upd_ne z)
/-- a thing of ours, changed -/
theorem RM.wr (r : RM K M H) {p : Addr} {o : HO} {d d' : DO} (hp : M p = some d) (h : RO K (up M p d') (upd H p o) p d') : RM K (up M p d') (upd H p o) := fun a x e => by
  by_cases z : a = p
  · subst z
    rw [up_same] at e; cases e
    exact h
  · rw [up_ne z] at e
    exact (r a x e).mono (Ext.wr hp) r (upd_ne z)
theorem RVs.length : ∀ {ds : List D} {vs : List V}, RVs K M H ds vs → vs.length = ds.length
  | [], vs, h => by simp only [RVs] at h; rw [h]; rfl
  | d :: ds, vs, h => by
    simp only [RVs] at h
    obtain ⟨v, q, e, h1, h2⟩ := h
    rw [e]; simp [RVs.length h2]
theorem RVs.app : ∀ {ds es : List D} {vs us : List V}, RVs K M H ds vs → RVs K M H es us → RVs K M H (ds ++ es) (vs ++ us)
  | [], es, vs, us, h, h' => by simp only [RVs] at h; rw [h]; exact h'
  | d :: ds, es, vs, us, h, h' => by
    simp only [RVs] at h
    obtain ⟨v, q, e, h1, h2⟩ := h
    rw [e]
    show RVs K M H (d :: (ds ++ es)) (v :: (q ++ us))
    simp only [RVs]
    exact ⟨v, _, rfl, h1, h2.app h'⟩
theorem RVs.get : ∀ {ds : List D} {vs : List V} {i : Nat} {d : D}, RVs K M H ds vs → ds[i]? = some d → ∃ v, vs[i]? = some v ∧ RV K M H d v
  | [], vs, i, d, h, e => by simp at e
  | d :: ds, vs, 0, x, h, e => by
    simp only [RVs] at h
    obtain ⟨v, q, e', h1, h2⟩ := h
    simp at e; subst e; subst e'
    exact ⟨v, rfl, h1⟩
  | d :: ds, vs, i + 1, x, h, e => by
    simp only [RVs] at h
    obtain ⟨v, q, e', h1, h2⟩ := h
    subst e'
    obtain ⟨u, z, y⟩ := RVs.get (i := i) h2 (by simpa using e)
    exact ⟨u, by simpa using z, y⟩
theorem RVs.of_get : ∀ {ds : List D} {vs : List V}, vs.length = ds.length → (∀ (i : Nat) (d : D) (v : V), ds[i]? = some d → vs[i]? = some v → RV K M H d v) → RVs K M H ds vs
  | [], vs, hl, h => by simp only [RVs]; exact List.length_eq_zero_iff.mp hl
  | d :: ds, [], hl, h => by simp at hl
  | d :: ds, v :: vs, hl, h => by
    simp only [RVs]
    exact ⟨v, vs, rfl, h 0 d v rfl rfl, RVs.of_get (by simpa using hl) fun i d' v' e1 e2 => h (i + 1) d' v' (by simpa using e1) (by simpa using e2)⟩
/-- the lists by places: any list of values picked from both -/
theorem RVs.take {ds : List D} {vs : List V} (h : RVs K M H ds vs) (n : Nat) : RVs K M H (ds.take n) (vs.take n) :=
  .of_get (by rw [List.length_take, List.length_take, h.length]) fun i d v e1 e2 => by
    rw [List.getElem?_take] at e1 e2
    split at e1
    · rename_i hi
      rw [if_pos hi] at e2
      obtain ⟨u, z, y⟩ := h.get e1
      rw [z] at e2; cases e2; exact y
    · cases e1
theorem RVs.drop {ds : List D} {vs : List V} (h : RVs K M H ds vs) (n : Nat) : RVs K M H (ds.drop n) (vs.drop n) :=
  .of_get (by rw [List.length_drop, List.length_drop, h.length]) fun i d v e1 e2 => by
    rw [List.getElem?_drop] at e1 e2
    obtain ⟨u, z, y⟩ := h.get e1
    rw [z] at e2; cases e2; exact y
theorem RVs.set {ds : List D} {vs : List V} (h : RVs K M H ds vs) (j : Nat) {d : D} {v : V} (hd : RV K M H d v) : RVs K M H (ds.set j d) (vs.set j v) :=
  .of_get (by simp [h.length]) fun i d' v' e1 e2 => by
    rw [List.getElem?_set] at e1 e2
    split at e1
    · rename_i hi
      rw [if_pos hi] at e2
      split at e1
      · rename_i hl
        rw [if_pos (by rw [h.length]; exact hl)] at e2
        cases e1; cases e2; exact hd
      · cases e1
    · rename_i hi
      rw [if_neg hi] at e2
      obtain ⟨u, z, y⟩ := h.get e1
      rw [z] at e2; cases e2; exact y
theorem RVs.rev {ds : List D} {vs : List V} (h : RVs K M H ds vs) : RVs K M H ds.reverse vs.reverse :=
  .of_get (by simp [h.length]) fun i d v e1 e2 => by
    have hi : i < ds.length := by
      have := (List.getElem?_eq_some_iff.mp e1).1
      simpa using this
    rw [List.getElem?_reverse (by simpa using hi)] at e1
    rw [List.getElem?_reverse (by rw [h.length]; simpa using hi), h.length] at e2
    obtain ⟨u, z, y⟩ := h.get e1
    rw [z] at e2; cases e2; exact y
theorem RVs.erase {ds : List D} {vs : List V} (h : RVs K M H ds vs) (k : Nat) : RVs K M H (ds.eraseIdx k) (vs.eraseIdx k) := by
  rw [List.eraseIdx_eq_take_drop_succ, List.eraseIdx_eq_take_drop_succ]
  exact (h.take k).app (h.drop (k + 1))
theorem RVs.last {ds : List D} {vs : List V} (h : RVs K M H ds vs) : RVs K M H ds.dropLast vs.dropLast := by
  rw [List.dropLast_eq_take, List.dropLast_eq_take, h.length]
  exact h.take _
theorem RVs.one {d : D} {v : V} (h : RV K M H d v) : RVs K M H [d] [v] := by
  simp only [RVs]
  exact ⟨v, [], rfl, h, rfl⟩
theorem RVs.flat {ds : List D} {vs : List V} (h : RVs K M H ds vs) : ∀ n : Nat, RVs K M H (List.replicate n ds).flatten (List.replicate n vs).flatten
  | 0 => by simp [RVs]
  | n + 1 => by
    rw [List.replicate_succ, List.replicate_succ, List.flatten_cons, List.flatten_cons]
    exact h.app (h.flat n)
theorem RVs.ints : ∀ {ns : List Int}, RVs K M H (ns.map D.int) (ns.map V.int)
  | [] => by simp [RVs]
  | n :: ns => by
    simp only [List.map_cons, RVs]
    exact ⟨_, _, rfl, by simp [RV], RVs.ints⟩
theorem RVs.ints_of : ∀ {ds : List D} {vs : List V} {ns : List Int}, intsOf ds = some ns → RVs K M H ds vs → vs = ns.map V.int ∧ ds = ns.map D.int
  | [], vs, ns, e, h => by
    simp only [RVs] at h
    simp only [intsOf] at e; cases e; exact ⟨h, rfl⟩
  | d :: ds, vs, ns, e, h => by
    simp only [RVs] at h
    obtain ⟨v, q, e', h1, h2⟩ := h
    simp only [intsOf] at e
    split at e
    · rename_i i is ei eis
      cases e
      obtain ⟨r1, r2⟩ := RVs.ints_of eis h2
      cases d <;> simp only [intOf] at ei <;> try cases ei
      simp only [RV] at h1
      subst h1; subst e'
      exact ⟨by rw [r1]; rfl, by rw [r2]; rfl⟩
    · cases e
theorem RVs.bls_of : ∀ {ds : List D} {vs : List V} {ns : List Bool}, blsOf ds = some ns → RVs K M H ds vs → vs = ns.map V.bl ∧ ds = ns.map D.bl
  | [], vs, ns, e, h => by
    simp only [RVs] at h
    simp only [blsOf] at e; cases e; exact ⟨h, rfl⟩
  | d :: ds, vs, ns, e, h => by
    simp only [RVs] at h
    obtain ⟨v, q, e', h1, h2⟩ := h
    cases d <;> simp only [blsOf] at e <;> try cases e
    split at e
    · rename_i is eis
      cases e
      obtain ⟨r1, r2⟩ := RVs.bls_of eis h2
      simp only [RV] at h1
      subst h1; subst e'
      exact ⟨by rw [r1]; rfl, by rw [r2]; rfl⟩
    · cases e
end
section
variable {K : PySem.W.Frag} {M : Mp} {H : Hp}
theorem RKs.length : ∀ {ds : List (Key × D)} {vs : List (Key × V)}, RKs K M H ds vs → vs.length = ds.length
  | [], vs, h => by simp only [RKs] at h; rw [h]; rfl
  | (k, d) :: ds, vs, h => by
    simp only [RKs] at h
    obtain ⟨v, q, e, h1, h2⟩ := h
    rw [e]; simp [RKs.length h2]
theorem RKs.get {k : Key} : ∀ {ds : List (Key × D)} {vs : List (Key × V)}, RKs K M H ds vs → (∀ d, getK ds k = some d → ∃ v, valV vs k = some v ∧ RV K M H d v) ∧ (getK ds k = none → valV vs k = none)
  | [], vs, h => by
    simp only [RKs] at h; subst h
    exact ⟨fun d e => by simp [getK] at e, fun _ => rfl⟩
  | (c, d) :: ds, vs, h => by
    simp only [RKs] at h
    obtain ⟨v, q, e, h1, h2⟩ := h
    subst e
    by_cases hc : c = k
    · subst hc
      refine ⟨fun d' e => ?_, fun e => ?_⟩
      · simp [getK] at e; subst e
        exact ⟨v, valV_pos rfl, h1⟩
      · simp [getK] at e
    · obtain ⟨g1, g2⟩ := RKs.get (k := k) h2
      have e1 : getK ((c, d) :: ds) k = getK ds k := by simp [getK, hc]
      rw [e1, valV_neg (p := (c, v)) hc]
      exact ⟨g1, g2⟩
theorem RKs.any {k : Key} : ∀ {ds : List (Key × D)} {vs : List (Key × V)}, RKs K M H ds vs → (vs.any fun kv => decide (kv.1 = k)) = (ds.any fun kv => decide (kv.1 = k))
  | [], vs, h => by simp only [RKs] at h; subst h; rfl
  | (c, d) :: ds, vs, h => by
    simp only [RKs] at h
    obtain ⟨v, q, e, h1, h2⟩ := h
    subst e
    rw [List.any_cons, List.any_cons, RKs.any h2]
theorem RKs.map {k : Key} {x : D} {y : V} (hx : RV K M H x y) : ∀ {ds : List (Key × D)} {vs : List (Key × V)}, RKs K M H ds vs → RKs K M H (ds.map fun p => if p.1 = k then (p.1, x) else p) (vs.map fun p => if p.1 = k then (p.1, y) else p)
  | [], vs, h => by simp only [RKs] at h; subst h; simp [RKs]
  | (c, d) :: ds, vs, h => by
    simp only [RKs] at h
    obtain ⟨v, q, e, h1, h2⟩ := h
    subst e
    have ih := RKs.map (k := k) hx h2
    rw [List.map_cons, List.map_cons]
    by_cases hc : c = k
    · rw [if_pos hc, if_pos hc]
      simp only [RKs]
      exact ⟨y, _, rfl, hx, ih⟩
    · rw [if_neg hc, if_neg hc]
      simp only [RKs]
      exact ⟨v, _, rfl, h1, ih⟩
theorem RKs.snoc {k : Key} {x : D} {y : V} (hx : RV K M H x y) : ∀ {ds : List (Key × D)} {vs : List (Key × V)}, RKs K M H ds vs → RKs K M H (ds ++ [(k, x)]) (vs ++ [(k, y)])
  | [], vs, h => by
    simp only [RKs] at h; subst h
    simp only [List.nil_append, RKs]
    exact ⟨y, [], rfl, hx, rfl⟩
  | (c, d) :: ds, vs, h => by
    simp only [RKs] at h
    obtain ⟨v, q, e, h1, h2⟩ := h
    subst e
    rw [List.cons_append, List.cons_append]
    simp only [RKs]
    exact ⟨v, _, rfl, h1, RKs.snoc hx h2⟩
theorem RKs.put {k : Key} {x : D} {y : V} (hx : RV K M H x y) {ds : List (Key × D)} {vs : List (Key × V)} (h : RKs K M H ds vs) : RKs K M H (setK ds k x) (putK vs k y) := by
  unfold setK putK
  rw [h.any]
  split
  · exact RKs.map hx h
  · exact RKs.snoc hx h
end
/-- the slots -/
def RS (K : PySem.W.Frag) (M : Mp) (H : Hp) (δ : St) (σ : L2.St) : Prop := δ.length = σ.length ∧ ∀ (i : Nat) (d : D), δ[i]? = some (some d) → ∃ v, σ[i]? = some (some v) ∧ RV K M H d v
section
variable {K : PySem.W.Frag} {M M' : Mp} {H H' : Hp} {δ : St} {σ σ' : L2.St}
theorem RS.mono (h : RS K M H δ σ) (x : Ext M H M' H') (r : RM K M H) : RS K M' H' δ σ := ⟨h.1, fun i d e => let ⟨v, e1, q⟩ := h.2 i d e; ⟨v, e1, RV.mono x r d v q⟩⟩
theorem RS.set (h : RS K M H δ σ) (i : Nat) {d : D} {v : V} (hd : RV K M H d v) : RS K M H (δ.set i (some d)) (σ.set i (some v)) := by
  refine ⟨by simp [h.1], fun j d' e => ?_⟩
  rw [List.getElem?_set] at e ⊢
  split at e
  · rename_i hi
    split at e
    · rename_i hl
      cases e
      rw [if_pos hi, if_pos (by rw [← h.1]; exact hl)]
      exact ⟨v, rfl, hd⟩
    · cases e
  · rename_i hi
    rw [if_neg hi]
    exact h.2 j d' e
theorem wipeD_length : ∀ (vs : List Nat) (δ : St), (wipeD δ vs).length = δ.length
  | [], δ => rfl
  | v :: vs, δ => by unfold wipeD; rw [List.length_set, wipeD_length]
theorem wipeD_some {i : Nat} {d : D} : ∀ {vs : List Nat} {δ : St}, (wipeD δ vs)[i]? = some (some d) → δ[i]? = some (some d) ∧ i ∉ vs
  | [], δ, h => ⟨h, by simp⟩
  | v :: vs, δ, h => by
    unfold wipeD at h
    rw [List.getElem?_set] at h
    split at h
    · split at h <;> cases h
    · rename_i hi
      obtain ⟨h1, h2⟩ := wipeD_some h
      exact ⟨h1, by simp only [List.mem_cons, not_or]; exact ⟨fun e => hi e.symm, h2⟩⟩
theorem RS.wipe (h : RS K M H δ σ) (vs : List Nat) : RS K M H (wipeD δ vs) σ := ⟨(wipeD_length _ _).trans h.1, fun i d e => h.2 i d (wipeD_some e).1⟩
theorem wipe_getElem? {σ : L2.St} {i : Nat} : ∀ {vs : List Nat}, (L2.wipe σ vs)[i]? = if i ∈ vs then (σ[i]?).map fun _ => none else σ[i]?
  | [] => by simp [L2.wipe]
  | v :: vs => by
    unfold L2.wipe
    rw [List.getElem?_set, wipe_length]
    by_cases hv : v = i
    · subst hv
      by_cases hl : v < σ.length
      · simp [hl]
      · simp [hl]
    · have hv' : ¬ i = v := fun e => hv e.symm
      rw [if_neg hv, wipe_getElem?]
      simp [hv']
theorem RS.wipe2 (h : RS K M H δ σ) (vs : List Nat) : RS K M H (wipeD δ vs) (L2.wipe σ vs) := ⟨by rw [wipeD_length, wipe_length]; exact h.1, fun i d e => by
  obtain ⟨h1, h2⟩ := wipeD_some e
  rw [wipe_getElem?, if_neg h2]
  exact h.2 i d h1⟩
end
end Pw
set_option Elab.async false
set_option linter.all false
set_option maxRecDepth 100000
namespace Pw
open PySem PySem.Spec PyProof.Rows L2

/-! ### a term stands for a piece of the program's text -/
/-- what is known of a def: its parameters, the values that fill up behind the first ones -/
structure FnI where
  ps : List Str
  dfl : List D
  /-- the last parameter is taken by its name alone -/
  kwn : Bool
structure Gc where
  fns : List (String × FnI)
  consts : List (Str × D)
  free : List Str
  excs : List Str
  clss : List Str
/-- where one stands -/
structure Ct where
  N : List Str
  sc : Scope
  fnB : Str → Bool

def visB (sc : Scope) (x : Str) : Bool := match sc.names.lookup x with
  | some .local | some .cell | some .free => true
  | _ => false
def glB (sc : Scope) (x : Str) : Bool := match sc.names.lookup x with
  | some .globalImplicit => !(x == ("__debug__" : Str)) && !(x == ("__name__" : Str))
  | _ => false
def isLoc (sc : Scope) (x : Str) : Bool := match sc.names.lookup x with
  | some .local => true
  | _ => false
def stoB (C : Ct) (x : Str) : Bool := match C.sc.names.lookup x with
  | some .local => true
  | some .cell => C.fnB x
  | _ => false
def eqFlat : D → D → Bool
  | .int i, .int j => decide (i = j)
  | .str x, .str y => decide (x = y)
  | .non, .non => true
  | .bl a, .bl b => a == b
  | _, _ => false
def eqFlats : List D → List D → Bool
  | [], [] => true
  | x :: xs, y :: ys => eqFlat x y && eqFlats xs ys
  | _, _ => false
def litB (G : Gc) (C : Ct) (d : D) : Expr → Bool
  | .Constant c _ _ => (match c, d with
    | .none, .non => true
    | .bool a, .bl b => a == b
    | .int i, .int j => decide (i = j)
    | .str x, .str y => decide (x = y)
    | _, _ => false)
  | .Name x _ => glB C.sc x && (match G.consts.lookup x with
    | some d' => eqFlat d' d
    | none => false)
  | _ => false
def binB : BinO → Operator → Bool
  | .add, .Add | .sub, .Sub | .mul, .Mult | .fdiv, .FloorDiv | .mod, .Mod | .pow, .Pow => true
  | _, _ => false
def cmpB : CmpO → CmpOp → Bool
  | .eq, .Eq | .ne, .NotEq | .lt, .Lt | .le, .LtE | .gt, .Gt | .ge, .GtE | .is_, .Is | .isnot, .IsNot | .in_, .In | .notin, .NotIn => true
  | _, _ => false
def BF.nm : BF → String
  | .len => "len" | .max => "max" | .min => "min" | .sum => "sum" | .all => "all" | .any => "any" | .int => "int" | .str => "str" | .repr => "repr"
  | .list => "list" | .tuple => "tuple" | .sorted => "sorted" | .divmod => "divmod" | .abs => "abs"
def MF.nm : MF → String
  | .append => "append" | .pop => "pop" | .insert => "insert" | .remove => "remove" | .index => "index" | .count => "count" | .extend => "extend" | .clear => "clear" | .reverse => "reverse"
  | .get => "get" | .setdefault => "setdefault" | .join => "join" | .split => "split" | .strip => "strip" | .upper => "upper"
def nameB (C : Ct) (G : Gc) (f : String) : Expr → Bool
  | .Name x _ => decide (x = Str.ofString f) && glB C.sc x && decide (x ∈ G.free)
  | _ => false
def okTy (t : String) : Bool := t == "int" || t == "bool" || t == "str" || t == "tuple" || t == "list" || t == "dict"
def tysB (C : Ct) (G : Gc) (tys : List String) (e : Expr) : Bool := match e, tys with
  | .Name x p, [t] => nameB C G t (.Name x p) && okTy t
  | .Tuple es _ _, ts => decide (es.length = ts.length) && decide (ts.length ≤ 10) && (ts.zip es).all fun p => nameB C G p.1 p.2 && okTy p.1
  | _, _ => false
/-- a class of exceptions, by its name -/
def clsN (C : Ct) (G : Gc) (t : Str) : Expr → Bool
  | .Name x _ => decide (x = t) && (glB C.sc x && (decide (t ∈ G.clss) || (decide (t = ("ValueError" : Str)) && decide (t ∈ G.free))))
  | _ => false
def clssB (C : Ct) (G : Gc) (cs : List Str) (e : Expr) : Bool := match e, cs with
  | .Name x p, [t] => clsN C G t (.Name x p)
  | .Tuple es _ _, ts => decide (es.length = ts.length) && (decide (ts.length ≤ 10) && (ts.zip es).all fun p => clsN C G p.1 p.2)
  | _, _ => false
/-- the slots of a target -/
def tgSl : T → List Nat
  | .gname i => [i]
  | .gtup g => tgSl g
  | .cons g r => tgSl g ++ tgSl r
  | _ => []
/-- a comprehension's value, stored by the statement itself -/
def swB (sc : Scope) (tg e : Expr) : Bool := match e with
  | .ListComp _ _ s p => (match tg with
    | .Name t q => isLoc sc t && (q.line == p.line) && !(s.names.any fun z => z.1 == t && (z.2 == .local || z.2 == .cell))
    | _ => false)
  | .DictComp _ _ _ s p => (match tg with
    | .Name t q => isLoc sc t && (q.line == p.line) && !(s.names.any fun z => z.1 == t && (z.2 == .local || z.2 == .cell))
    | _ => false)
  | _ => false
def swOk (e : Expr) : Bool := match e with
  | .SetComp .. => false
  | _ => true
/-- names stored from the right -/
def isCompT : T → Bool
  | .comp .. => true
  | .comp2 .. => true
  | .dc1 .. => true
  | .dc2 .. => true
  | _ => false
/-- names stored from the right -/
def swpB (sc : Scope) (tg e : Expr) : Option (Option (List Str)) := match tg, e with
  | .Tuple ts _ _, .Tuple vs _ _ =>
    if !(ts.length == 2 || ts.length == 3) || vs.length != ts.length then some none
    else if (vs.any fun v => match v with | .Starred .. => true | _ => false) then some none
    else
      let line := (ts.head?.map (·.pos.line)).getD 0
      let names := ts.filterMap fun t => match t with
        | .Name id pos => if isLoc sc id && pos.line == line then some id else none
        | _ => none
      if names.length != ts.length || names.eraseDups.length != names.length then some none
      else if vs.all (foldedForSure 8) then some none
      else if vs.all (constantsAlone 8) then none
      else some (some names)
  | .List _ _, .Tuple _ _ _ => none
  | _, _ => some none
def plainTo : Expr → Bool
  | .Call (.Name id _) [] [] _ => decide (id ≠ ("super" : Str))
  | _ => true
def noTest : Expr → Bool
  | .UnaryOp .Not _ _ | .BoolOp .. | .IfExp .. | .Compare .. => false
  | _ => true
def noLc : Expr → Bool
  | .ListComp .. => false
  | .DictComp .. => false
  | _ => true
def noSet : Expr → Bool
  | .Set .. => false
  | _ => true
def noSlc : Expr → Bool
  | .Slice .. => false
  | _ => true
def noStar : Expr → Bool
  | .Starred .. => false
  | _ => true
def isTupE : Expr → Bool
  | .Tuple .. => true
  | _ => false
def ownOf (N : List Str) (own : List Nat) : List (Str × Nat) := own.map fun i => (N.getD i Str.empty, i)

mutual
def chE (G : Gc) : T → Ct → Expr → Bool
  | .var i, C, e => (match e with
    | .Name x _ => decide (C.N[i]? = some x) && visB C.sc x && !(x == ("__debug__" : Str)) && !(x == ("__classdict__" : Str))
    | _ => false)
  | .lit d, C, e => litB G C d e
  | .bin _ op a b, C, e => (match e with
    | .BinOp x o y _ => binB op o && chE G a C x && chE G b C y
    | _ => false)
  | .neg a, C, e => (match e with
    | .UnaryOp .USub x _ => chE G a C x
    | _ => false)
  | .not a, C, e => (match e with
    | .UnaryOp .Not x _ => chE G a C x
    | _ => false)
  | .and a b, C, e => (match e with
    | .BoolOp .And [x, y] _ => chE G a C x && chE G b C y
    | .BoolOp .And (x :: y :: z :: r) p => chE G a C x && chE G b C (.BoolOp .And (y :: z :: r) p)
    | _ => false)
  | .or a b, C, e => (match e with
    | .BoolOp .Or [x, y] _ => chE G a C x && chE G b C y
    | .BoolOp .Or (x :: y :: z :: r) p => chE G a C x && chE G b C (.BoolOp .Or (y :: z :: r) p)
    | _ => false)
  | .cmp op a b, C, e => (match e with
    | .Compare x [o] [y] _ => cmpB op o && chE G a C x && chE G b C y && noSet y
    | _ => false)
  | .chain o1 o2 a b c, C, e => (match e with
    | .Compare x [p, q] [y, z] _ => cmpB o1 p && cmpB o2 q && chE G a C x && chE G b C y && chE G c C z && noSet z
    | _ => false)
  | .ite c a b, C, e => (match e with
    | .IfExp t x y _ => chT G c C t && chE G a C x && chE G b C y
    | _ => false)
  | .tup es, C, e => (match e with
    | .Tuple xs _ _ => chL G es C xs && decide (cntL es ≤ 1000)
    | _ => false)
  | .tups es, C, e => (match e with
    | .Tuple xs _ _ => chX G es C xs
    | _ => false)
  | .lst _ es, C, e => (match e with
    | .List xs _ => chL G es C xs && decide (cntL es ≤ 1000)
    | _ => false)
  | .dct _, _, e => (match e with
    | .Dict [] [] _ => true
    | _ => false)
  | .call f es dfl, C, e => (match e with
    | .Call (.Name x _) xs [] _ => decide (x = Str.ofString f) && glB C.sc x && chL G es C xs && (match G.fns.lookup f with
      | some I => decide (xs.length + dfl.length = I.ps.length) && eqFlats dfl I.dfl && (!I.kwn || !I.dfl.isEmpty)
      | none => false)
    | _ => false)
  | .callk f es y a, C, e => (match e with
    | .Call (.Name x _) xs [⟨some z, v, _⟩] _ => decide (x = Str.ofString f) && decide (y = z) && glB C.sc x && chL G es C xs && chE G a C v && (match G.fns.lookup f with
      | some I => decide (xs.length + 1 = I.ps.length) && I.kwn && decide (I.ps.getLast? = some z) && decide (xs.length > 0)
      | none => false)
    | _ => false)
  | .blt _ f es, C, e => (match e with
    | .Call g (x :: xs) [] _ => nameB C G f.nm g && chL G es C (x :: xs)
    | _ => false)
  | .isi a tys, C, e => (match e with
    | .Call g [x, t] [] _ => nameB C G "isinstance" g && noStar x && chE G a C x && tysB C G tys t
    | _ => false)
  | .conv _ l a, C, e => (match e with
    | .Call g [x] [] _ => nameB C G (if l then "list" else "tuple") g && noStar x && chE G a C x
    | _ => false)
  | .convr _ l es, C, e => (match e with
    | .Call g [.Call h xs [] _] [] _ => nameB C G (if l then "list" else "tuple") g && nameB C G "range" h && chL G es C xs && (decide (xs.length = 1) || decide (xs.length = 2))
    | _ => false)
  | .convv a, C, e => (match e with
    | .Call g [.Call h [x] [] _] [] _ => nameB C G "tuple" g && nameB C G "reversed" h && noStar x && chE G a C x
    | _ => false)
  | .meth _ f o es, C, e => (match e with
    | .Call (.Attribute x n ap) xs [] cp => decide (n = Str.ofString f.nm) && chE G o C x && chL G es C xs && plainTo x && (ap.endLine == cp.line) && decide (cntL es ≤ 20)
    | _ => false)
  | .idx a i, C, e => (match e with
    | .Subscript x y _ => chE G a C x && chE G i C y && noSlc y
    | _ => false)
  | .slc _ a lo hi, C, e => (match e with
    | .Subscript x (.Slice l h none _) _ => chE G a C x && chO G lo C l && chO G hi C h
    | _ => false)
  | .revs _ a, C, e => (match e with
    | .Subscript x (.Slice none none (some (.UnaryOp .USub (.Constant (.int 1) _ _) _)) _) _ => chE G a C x
    | _ => false)
  | .sset _ a, C, e => (match e with
    | .Call f [.Call h [x] [] _] [] _ => nameB C G "sorted" f && nameB C G "set" h && noStar x && chE G a C x
    | _ => false)
  | .ldct a, C, e => (match e with
    | .Call f [.Call h [x] [] _] [] _ => nameB C G "len" f && nameB C G "dict" h && noStar x && chE G a C x
    | _ => false)
  | .lset a, C, e => (match e with
    | .Call f [.Call h [x] [] _] [] _ => nameB C G "len" f && nameB C G "set" h && noStar x && chE G a C x
    | _ => false)
  | .comp _ own elt t it ifs, C, e => (match e with
    | .ListComp x [⟨tg, iter, cs, 0⟩] sc _ => chI G it C tg iter && blkC C.N C.sc sc (ownOf C.N own) && ((tgSl t).all fun i => own.contains i) && noSet iter &&
      chG G t ⟨C.N, relS sc C.sc, fun x => sc.names.lookup x == some .cell⟩ tg && chTs G ifs ⟨C.N, relS sc C.sc, fun x => sc.names.lookup x == some .cell⟩ cs && chE G elt ⟨C.N, relS sc C.sc, fun x => sc.names.lookup x == some .cell⟩ x
    | _ => false)
  | .comp2 _ own own2 elt t it ifs t2 it2 ifs2, C, e => (match e with
    | .ListComp x [⟨tg, iter, cs, 0⟩, ⟨tg2, iter2, cs2, 0⟩] sc _ => chI G it C tg iter && (blkC C.N C.sc sc (ownOf C.N own) && (((tgSl t).all fun i => own.contains i) && (((tgSl t2).all fun i => own2.contains i) && ((own2.all fun i => own.contains i) && (noSet iter && (noSet iter2 &&
      (chG G t ⟨C.N, relS sc C.sc, fun x => sc.names.lookup x == some .cell⟩ tg && (chTs G ifs ⟨C.N, relS sc C.sc, fun x => sc.names.lookup x == some .cell⟩ cs && (chI G it2 ⟨C.N, relS sc C.sc, fun x => sc.names.lookup x == some .cell⟩ tg2 iter2 &&
      (chG G t2 ⟨C.N, relS sc C.sc, fun x => sc.names.lookup x == some .cell⟩ tg2 && (chTs G ifs2 ⟨C.N, relS sc C.sc, fun x => sc.names.lookup x == some .cell⟩ cs2 && chE G elt ⟨C.N, relS sc C.sc, fun x => sc.names.lookup x == some .cell⟩ x)))))))))))
    | _ => false)
  | .dc1 _ own kx vx t it ifs, C, e => (match e with
    | .DictComp x y [⟨tg, iter, cs, 0⟩] sc _ => chI G it C tg iter && (blkC C.N C.sc sc (ownOf C.N own) && (((tgSl t).all fun i => own.contains i) && (noSet iter &&
      (chG G t ⟨C.N, relS sc C.sc, fun x => sc.names.lookup x == some .cell⟩ tg && (chTs G ifs ⟨C.N, relS sc C.sc, fun x => sc.names.lookup x == some .cell⟩ cs && (chE G kx ⟨C.N, relS sc C.sc, fun x => sc.names.lookup x == some .cell⟩ x && chE G vx ⟨C.N, relS sc C.sc, fun x => sc.names.lookup x == some .cell⟩ y))))))
    | _ => false)
  | .dc2 _ own own2 kx vx t it ifs t2 it2 ifs2, C, e => (match e with
    | .DictComp x y [⟨tg, iter, cs, 0⟩, ⟨tg2, iter2, cs2, 0⟩] sc _ => chI G it C tg iter && (blkC C.N C.sc sc (ownOf C.N own) && (((tgSl t).all fun i => own.contains i) && (((tgSl t2).all fun i => own2.contains i) && ((own2.all fun i => own.contains i) && (noSet iter && (noSet iter2 &&
      (chG G t ⟨C.N, relS sc C.sc, fun x => sc.names.lookup x == some .cell⟩ tg && (chTs G ifs ⟨C.N, relS sc C.sc, fun x => sc.names.lookup x == some .cell⟩ cs && (chI G it2 ⟨C.N, relS sc C.sc, fun x => sc.names.lookup x == some .cell⟩ tg2 iter2 &&
      (chG G t2 ⟨C.N, relS sc C.sc, fun x => sc.names.lookup x == some .cell⟩ tg2 && (chTs G ifs2 ⟨C.N, relS sc C.sc, fun x => sc.names.lookup x == some .cell⟩ cs2 && (chE G kx ⟨C.N, relS sc C.sc, fun x => sc.names.lookup x == some .cell⟩ x && chE G vx ⟨C.N, relS sc C.sc, fun x => sc.names.lookup x == some .cell⟩ y))))))))))))
    | _ => false)
  | .isx xs a cs, C, e => (match e with
    | .Call g [x, t] [] _ => nameB C G "isinstance" g && (noStar x && (chE G a C x && (clssB C G cs t && (!G.clss.isEmpty && xs.all fun q => decide (q ∈ G.excs)))))
    | _ => false)
  | .frz a, C, e => chE G a C e
  | _, _, _ => false
def chT (G : Gc) : T → Ct → Expr → Bool
  | .not a, C, e => (match e with
    | .UnaryOp .Not x _ => chT G a C x
    | _ => false)
  | .and a b, C, e => (match e with
    | .BoolOp .And [x, y] _ => chT G a C x && chT G b C y
    | .BoolOp .And (x :: y :: z :: r) p => chT G a C x && chT G b C (.BoolOp .And (y :: z :: r) p)
    | _ => false)
  | .or a b, C, e => (match e with
    | .BoolOp .Or [x, y] _ => chT G a C x && chT G b C y
    | .BoolOp .Or (x :: y :: z :: r) p => chT G a C x && chT G b C (.BoolOp .Or (y :: z :: r) p)
    | _ => false)
  | .cmp op a b, C, e => (match e with
    | .Compare x [o] [y] _ => cmpB op o && chE G a C x && chE G b C y && noSet y
    | _ => false)
  | .chain o1 o2 a b c, C, e => (match e with
    | .Compare x [p, q] [y, z] _ => cmpB o1 p && cmpB o2 q && chE G a C x && chE G b C y && chE G c C z && noSet z
    | _ => false)
  | .tst a, C, e => noTest e && chE G a C e
  | _, _, _ => false
def chTs (G : Gc) : T → Ct → List Expr → Bool
  | .nil, _, es => (match es with
    | [] => true
    | _ => false)
  | .cons a r, C, es => (match es, r with
    | [e], .nil => chT G a C e
    | _, _ => false)
  | _, _, _ => false
def chL (G : Gc) : T → Ct → List Expr → Bool
  | .nil, _, es => (match es with
    | [] => true
    | _ => false)
  | .cons a r, C, es => (match es with
    | e :: es => chE G a C e && noStar e && chL G r C es
    | _ => false)
  | _, _, _ => false
def chX (G : Gc) : T → Ct → List Expr → Bool
  | .nil, _, es => (match es with
    | [] => true
    | _ => false)
  | .star a r, C, es => (match es with
    | .Starred e _ :: es => chE G a C e && chX G r C es
    | _ => false)
  | .cons a r, C, es => (match es with
    | e :: es => chE G a C e && (noStar e && chX G r C es)
    | _ => false)
  | _, _, _ => false
def chO (G : Gc) : T → Ct → Option Expr → Bool
  | .nil, _, e => (match e with
    | none => true
    | _ => false)
  | .cons a _, C, e => (match e with
    | some e => chE G a C e
    | none => false)
  | _, _, _ => false
def chI (G : Gc) : T → Ct → Expr → Expr → Bool
  | .ival a, C, _, e => chE G a C e
  | .irng es, C, _, e => (match e with
    | .Call g xs [] _ => nameB C G "range" g && chL G es C xs && (decide (xs.length = 1) || decide (xs.length = 2))
    | _ => false)
  | .ienum a, C, tg, e => (match e with
    | .Call g [x] [] _ => nameB C G "enumerate" g && chE G a C x && isTupE tg && noStar x
    | _ => false)
  | .izip es, C, tg, e => (match e with
    | .Call g xs [] _ => nameB C G "zip" g && chL G es C xs && isTupE tg && decide (xs.length = 2)
    | _ => false)
  | .irev a, C, _, e => (match e with
    | .Call g [x] [] _ => nameB C G "reversed" g && chE G a C x && noStar x
    | _ => false)
  | _, _, _, _ => false
def chG (G : Gc) : T → Ct → Expr → Bool
  | .gname i, C, e => (match e with
    | .Name x _ => decide (C.N[i]? = some x) && stoB C x
    | _ => false)
  | .gtup gs, C, e => (match e with
    | .Tuple es _ _ => chGs G gs C es
    | _ => false)
  | .gsub o i, C, e => (match e with
    | .Subscript x y _ => chE G o C x && chE G i C y && noSlc y
    | _ => false)
  | _, _, _ => false
def chGs (G : Gc) : T → Ct → List Expr → Bool
  | .nil, _, es => (match es with
    | [] => true
    | _ => false)
  | .cons a r, C, es => (match es with
    | e :: es => chG G a C e && noStar e && chGs G r C es
    | _ => false)
  | _, _, _ => false
def chS (G : Gc) : T → Ct → Stmt → Bool
  | .asg g a, C, s => (match s with
    | .Assign [tg] e _ => chG G g C tg && chE G a C e && swOk e && noStar tg && (match swpB C.sc tg e with
      | some none => true
      | _ => false) && (!swB C.sc tg e || isCompT a)
    | _ => false)
  | .par is es, C, s => (match s with
    | .Assign [.Tuple [.Name x px, .Name y py] kt pt] (.Tuple [a, b] k2 p2) _ => chL G es C [a, b] && (match is with
      | [i, j] => decide (C.N[i]? = some x) && decide (C.N[j]? = some y) && decide (i ≠ j) && isLoc C.sc x && isLoc C.sc y && (match swpB C.sc (.Tuple [.Name x px, .Name y py] kt pt) (.Tuple [a, b] k2 p2) with
        | some (some ns) => decide (ns = [x, y])
        | _ => false)
      | _ => false)
    | _ => false)
  | .aug op i a, C, s => (match s with
    | .AugAssign (.Name x _) o e _ => binB op o && decide (C.N[i]? = some x) && stoB C x && visB C.sc x && chE G a C e
    | _ => false)
  | .augs op o i a, C, s => (match s with
    | .AugAssign (.Subscript x y _) p e _ => binB op p && chE G o C x && chE G i C y && chE G a C e && noSlc y
    | _ => false)
  | .doc, _, s => (match s with
    | .Expr (.Constant (.str _) _ _) _ => true
    | _ => false)
  | .expr a, C, s => (match s with
    | .Expr e _ => chE G a C e && swOk e && noLc e
    | _ => false)
  | .ret a, C, s => (match s with
    | .Return (some e) _ => chE G a C e
    | _ => false)
  | .retn, _, s => (match s with
    | .Return none _ => true
    | _ => false)
  | .ifs c a b, C, s => (match s with
    | .If t xs ys _ => chT G c C t && chSs G a C xs && chSs G b C ys
    | _ => false)
  | .for_ _ g it body, C, s => (match s with
    | .For tg iter xs [] _ => chG G g C tg && chI G it C tg iter && chSs G body C xs && noSet iter
    | _ => false)
  | .while_ _ c body, C, s => (match s with
    | .While t xs [] _ => chT G c C t && chSs G body C xs
    | _ => false)
  | .pass, _, s => (match s with
    | .Pass _ => true
    | _ => false)
  | .brk, _, s => (match s with
    | .Break _ => true
    | _ => false)
  | .cont, _, s => (match s with
    | .Continue _ => true
    | _ => false)
  | .raise c m, C, s => (match s with
    | .Raise (some (.Call (.Name x _) [.Constant (.str y) _ _] [] _)) none _ => decide (x = c) && decide (y = m) && glB C.sc x && decide (c ∈ G.excs)
    | _ => false)
  | .tryx xs c i j body, C, s => (match s with
    | .Try b [.ExceptHandler (some (.Name x _)) (some n) [.Assign [.Name y _] (.Name z _) _] _] [] [] _ => decide (x = c) && (glB C.sc x && (decide (c ∈ G.clss) && (decide (C.N[i]? = some n) && (isLoc C.sc n && (decide (z = n) && (!(n == ("__debug__" : Str)) && (!(n == ("__classdict__" : Str)) && (decide (C.N[j]? = some y) && (isLoc C.sc y &&
      (decide (i ≠ j) && ((xs.all fun q => decide (q ∈ G.excs) && excIs q c) && chSs G body C b)))))))))))
    | _ => false)
  | _, _, _ => false
def chSs (G : Gc) : T → Ct → List Stmt → Bool
  | .nil, _, ss => (match ss with
    | [] => true
    | _ => false)
  | .cons a r, C, ss => (match ss with
    | s :: ss => chS G a C s && chSs G r C ss
    | _ => false)
  | _, _, _ => false
end
end Pw
set_option Elab.async false
set_option linter.all false
set_option maxRecDepth 100000
namespace Pw
open PySem PySem.Spec PyProof.Rows L2

/-! ### defs, called where no repr is under way -/
structure RoomG (k : Nat) (A : Around) : Prop where
  rm : Room k A
  gd : A.guards = some []
theorem RoomG.deeper {k : Nat} {A : Around} (r : RoomG (k + 1) A) (env : Env) : RoomG k (A.deeper env) := ⟨r.rm.deeper env, r.gd⟩
theorem RoomG.mono {j k : Nat} {A : Around} (r : RoomG k A) (h : j ≤ k) : RoomG j A := ⟨r.rm.mono h, r.gd⟩
section
variable {P : Program} {w : World} {K : PySem.W.Frag} {mg : Str → Option Value} {base : Heap}
variable (P w K mg base) in
/-- the def at f keeps the promise sp -/
structure FnG (k : Nat) (f : Addr) (fd : FuncData) (ps : List Str) (sp : Sp) : Prop where
  ar : ∀ vs H Q E, sp vs H Q E → vs.length = ps.length
  go : ∀ (A : Around) (outer : List Env) (s : Shared) (H : Hp) (args : Args) (us : List Value) (vs : List V) (Q : VK) (E : XK),
    RoomG k A → Env0 P w K mg base A outer s H → BindsTo s fd args (ps.zip us) → Vals vs us → sp vs H Q E →
    codeAny (model P w) A (.call (.ref f) args) (CR (L2.CX P w) outer P w H s Q E) s
/-- a def of the text, by its body -/
theorem fnG_of {k : Nat} {f : Addr} {x qual : Str} {params : Arguments} {body : List Stmt} {scope : Scope} {dvs : List V} {kws : List (Str × V)} {fd : FuncData} {N ps : List Str} {sp : Sp}
    (F : FunD K x qual params body scope dvs kws f fd) (S : FnScope N ps scope) (ar : ∀ vs H Q E, sp vs H Q E → vs.length = ps.length)
    (hb : ∀ (cdv : Value) (A : Around) (outer : List Env) (s : Shared) (H : Hp) (vs : List V) (Q : VK) (E : XK), RoomG k (A.deeper (envOfC qual scope s.heap.objs.size f cdv)) → sp vs H Q E →
      ∃ t, PSs (cxOf (L2.CX P w) P w K mg base N qual scope f cdv A outer s H E) body t ∧ t { nx := fun _ H' => Q .non H', rt := Q } (start N vs) H) : FnG P w K mg base (k + 1) f fd ps sp := by
  obtain ⟨oc, od, dV, kV, doc, pm, an, cdv, ct, osl, rfl, lk, hcd, _, _⟩ := F.ex
  refine ⟨ar, fun A outer s H args us vs Q E room env bind rel want => ?_⟩
  have hl := ar _ _ _ _ want
  have stays : ∀ b o, base.get? b = some o → s.heap.get? b = some o := fun b o e => (env.bs b o e).1
  have KX : K.In s.heap := env.mod.kin.keeps stays
  have kinds : ∀ y ∈ ps.zip us, scope.names.lookup y.1 = some .local ∨ (scope.names.lookup y.1 = some .cell ∧ ((cellsFrom (s.heap.objs.size + 1) scope.names []).lookup y.1).isSome = true) := by
    rintro ⟨n, v⟩ hy
    have hn : n ∈ ps := (List.of_mem_zip hy).1
    rcases S.par n hn with q | q
    · exact .inl q
    · exact .inr ⟨q, PySem.W.cellsFrom_some _ _ _ (.inl q)⟩
  refine codeAny_call_function room.rm.depth (KX _ _ lk) rfl S.co S.gen rfl (PySem.W.codeRec_of KX hcd) (bind _ _ _ _ ?_)
  refine wpAny_newFunctionEnv_cells S.kind kinds fun ev hev s1 x => ?_
  subst hev
  refine ⟨(env.mod.nolimit.keeps stays).keeps x.toInCall.keep, codeAny_func ?_⟩
  obtain ⟨t, ht, hq⟩ := hb cdv A outer s H vs Q E (room.deeper _) want
  have I0 := inv_start (CX := L2.CX P w) (mg := mg) (E := E) S room.rm.hd env hl rel x
  refine wpAny_mono (ht.run [] s1 (start N vs) H _ I0 hq) (fun fl s' out => ?_) fun e s' out => out
  cases fl with
  | ret u =>
    obtain ⟨v, σ', H', J, rv, q⟩ := out
    exact ⟨v, H', J.os, J.bare, J.base, J.hok, rv, q⟩
  | next =>
    obtain ⟨σ', H', J, q⟩ := out
    exact ⟨V.non, H', J.os, J.bare, J.base, J.hok, rfl, q⟩
  | brk => obtain ⟨_, _, _, q⟩ := out; exact q.elim
  | cont => obtain ⟨_, _, _, q⟩ := out; exact q.elim
theorem FnG.mono {j k : Nat} {f : Addr} {fd : FuncData} {ps : List Str} {sp : Sp} (F : FnG P w K mg base j f fd ps sp) (h : j ≤ k) : FnG P w K mg base k f fd ps sp :=
  ⟨F.ar, fun A outer s H args us vs Q E room => F.go A outer s H args us vs Q E (room.mono h)⟩
end
section
variable {X : Cx} {k : Nat} {f : Addr} {fd : FuncData} {ps ks : List Str} {sp : Sp} {dvs : List V} {ds : List Value} {x : Str} {p pos : Pos} {es : List Expr} {t : TA} {E : L2.St → XK}
/-- the callee runs; what it may let out is told with the caller's slots -/
theorem goG {pins : List (Addr × Obj)} {σ : L2.St} {H : Hp} {s : Shared} {Q : VK} {args : Args} {us : List Value} {vs : List V} (F : FnG X.prog X.w X.K X.mg X.base k f fd ps sp) (hr : RoomG k X.A) (hb : BindsTo s fd args (ps.zip us))
    (hx : PassesAt (L2.CX X.prog X.w) X σ (E σ)) (I : Inv X pins σ H s) (r : Vals vs us) (h : sp vs H Q (E σ)) : codeAny (model X.prog X.w) X.A (.call (.ref f) args) (callEnd (EP X pins σ Q) X.xe) s := by
  refine codeAny_mono (F.go X.A X.stack s H args us vs Q (E σ) hr I.env0 hb r h) fun r s' out => ?_
  cases r with
  | error e => exact hx pins H s e s' I out
  | ok fl =>
    cases fl with
    | ret u => exact I.after out
    | next => exact out.elim
    | brk => exact out.elim
    | cont => exact out.elim
end
end Pw
set_option Elab.async false
set_option linter.all false
set_option maxRecDepth 100000
set_option maxHeartbeats 2000000
namespace Pw
open PySem PySem.Spec PyProof.Rows L2

/-! ### new tuples, their objects known -/
def NewT (H : Hp) (xs : List V) (Q : VK) : Prop := ∀ p o, H p = none → o.dict = none → Q (.ref p) (upd H p (.frz o (.tup xs)))
section
variable {X : Cx} {pins : List (Addr × Obj)} {σ : L2.St} {H : Hp} {s : Shared} {xs : List V} {its : List Value} {Q : VK}
theorem newT_ok (I : Inv X pins σ H s) (r : Vals xs its) (z : xs.length ≤ sizeLine) (q : NewT H xs Q) (t' : Nat) :
    EP X pins σ Q (.ref s.heap.objs.size) { s with heap := s.heap.push { cls := .type "tuple", data := .seq its.toArray }, toks := t' } :=
  ⟨.ref s.heap.objs.size, _, I.laid (o := .frz { cls := .type "tuple", data := .seq its.toArray } (.tup xs)) (fun _ _ e => Heap.get?_push_of_some _ e) (Nat.le_refl _) ⟨Heap.get?_push_size _ rfl, z, its, r, IsTup.new _ _⟩, rfl, q _ _ (I.hok.fresh (Nat.le_refl _)) rfl⟩
def tTupF (t : TA) : TE := fun σ H Q => t σ H fun xs H1 => xs.length ≤ sizeLine ∧ NewT H1 xs Q
theorem pe_tupF {es : List Expr} {t : TA} {j : Nat} {pos : Pos} (h : PA X es t) : PE X (.Tuple es j pos) (tTupF t) := by
  refine ⟨fun pins s σ H Q I hq => ?_⟩
  refine wpAny_Tuple_spliced (thn (h.run pos pins s σ H _ I hq) fun us s1 ⟨xs, H1, I1, r, z, q⟩ => ⟨by rw [← r.length]; exact z, ?_⟩)
  exact newT_ok I1 r z q s1.toks
def rCatF (K : PySem.W.Frag) : R2 := fun x y H Q => ∃ a b xs ys, x = .ref a ∧ y = .ref b ∧ SqT K H a xs ∧ SqT K H b ys ∧ xs.length + ys.length ≤ sizeLine ∧
  (xs = [] → Q (.ref b) H) ∧ (xs ≠ [] → ys = [] → Q (.ref a) H) ∧ NewT H (xs ++ ys) Q
theorem op_catF : OpR X (binaryOp .Add) (rCatF X.K) := by
  intro pins s σ H x y v u Q I rx ry h
  obtain ⟨a, b, xs, ys, rfl, rfl, ha, hb, hz, q0, q1, q2⟩ := h
  cases rx
  cases ry
  obtain ⟨its, r1, p1, _⟩ := I.tuple ha
  obtain ⟨its2, r2, p2, _⟩ := I.tuple hb
  by_cases hx : xs = []
  · subst hx
    cases r1
    exact cat_tup0 p1 p2 ⟨.ref b, H, I, rfl, q0 rfl⟩
  · refine HT.cat_tup p1 p2 (fun z => hx (r1.nil_iff.mp z)) (fun z => ⟨.ref a, H, I, rfl, q1 hx (r2.nil_iff.mp z)⟩) (fun z => ?_) (by rw [← r1.length, ← r2.length]; exact hz)
    exact newT_ok I (r1.append r2) (by rw [List.length_append]; exact hz) q2 s.toks
def rRepF (K : PySem.W.Frag) : R2 := fun x y H Q => ∃ l k xs, x = .ref l ∧ y = .int k ∧ SqT K H l xs ∧ xs ≠ [] ∧ 2 ≤ k ∧ k ≤ 1000 ∧ xs.length ≤ 1000 ∧ NewT H (List.replicate k.toNat xs).flatten Q
theorem op_repF : OpR X (binaryOp .Mult) (rRepF X.K) := by
  intro pins s σ H x y v u Q I rx ry h
  obtain ⟨l, k, xs, rfl, rfl, hT, hne, h1, h2, hz, q⟩ := h
  cases rx
  obtain ⟨t, rfl⟩ := ry
  obtain ⟨its, r, ⟨⟨cls, dd, data, sl⟩, ho, hc, n, hd⟩, hs⟩ := I.tuple hT
  simp only at hc hd
  subst hc hd
  have hle : its.length = xs.length := r.length.symm
  have hn : its ≠ [] := fun e => hne (by
    rw [e] at hle
    exact List.eq_nil_of_length_eq_zero hle.symm)
  have hi : its.toArray.isEmpty = false := by
    cases its with
    | nil => exact absurd rfl hn
    | cons a b => rfl
  have hsz0 : its.toArray.size = xs.length := by rw [List.size_toArray, hle]
  have a0 : ((xs.length : Nat) : Int) * k ≤ 1000 * k := Int.mul_le_mul_of_nonneg_right (by omega) (by omega)
  have hm : ((its.toArray.size : Nat) : Int) * k ≤ 1000000 := by rw [hsz0]; omega
  have a1 : k.toNat * xs.length ≤ 1000 * 1000 := Nat.mul_le_mul (by omega) hz
  have flen : (List.replicate k.toNat its).flatten.length ≤ sizeLine := by
    rw [PyProof.Rows.lm_len_rep_flat, hle, sizeLine_eq]
    omega
  have c0 : (decide (k < -(2 ^ 63)) || decide (k ≥ 2 ^ 63)) = false := by
    rw [decide_eq_false (by omega), decide_eq_false (by omega)] <;> rfl
  have c1 : (its.toArray.isEmpty || k == 1) = false := by
    rw [hi, Bool.false_or]
    exact beq_eq_false_iff_ne.mpr (by omega)
  have c2 : (decide (k ≤ 0) || its.toArray.isEmpty) = false := by
    rw [hi, Bool.or_false]
    exact decide_eq_false (by omega)
  have c4 : Builtin.Tuple.tupleTooMany (((its.toArray.size : Nat) : Int) * k) = false := by
    unfold Builtin.Tuple.tupleTooMany
    rw [sizeLine_eq]
    exact decide_eq_false (by omega)
  refine wpAny_binaryOp_repeat_ref (T := "tuple") (U := "int") (by decide) ⟨_, ho, rfl⟩ (fun s' => typeIs_int s' k t) noFill_tuple_mul F.fills_int_mul F.slot_int_rmul repeat_tuple F.slot_int_index.lookup
    (call_meets F.slot_int_rmul (typeIs_int s k t) F.entry_int_rmul (F.args_int_rmul_2 _ _) (int_rmul_tuple k t l its.toArray n dd sl)
      ⟨ho, rfl, ⟨_, ho, rfl⟩, call_meets F.slot_tuple_mul ⟨_, ho, rfl⟩ F.entry_tuple_mul (F.args_tuple_mul_2 _ _) (tuple_mulW l its.toArray n dd sl k t c0 c1 c2 (by omega) c4 (by rw [size_rep, List.size_toArray]; exact flen)) ⟨ho, ?_⟩⟩)
  rw [size_rep]
  exact newT_ok I (r.rep k.toNat) (by rw [PyProof.Rows.lm_len_rep_flat, sizeLine_eq]; omega) q s.toks
def rSlF (K : PySem.W.Frag) : V → Option Int → Option Int → Hp → VK → Prop := fun x lo hi H Q => ∃ a xs, x = .ref a ∧ SqT K H a xs ∧
  (HT.sIx xs.length 0 lo = 0 ∧ HT.sIx xs.length xs.length hi = xs.length → Q (.ref a) H) ∧ NewT H (cutV xs lo hi) Q
theorem sl_tupF : SlR X (rSlF X.K) := by
  intro pins s σ H x v vl vu lo hi sl Q I rx hs pl pu h
  obtain ⟨a, xs, rfl, hx, q1, q2⟩ := h
  cases rx
  obtain ⟨its, r, ht, hz⟩ := I.tuple hx
  have hlen : its.toArray.size = xs.length := by rw [List.size_toArray]; exact r.length.symm
  refine ⟨"tuple", _, PyProof.Rows.slot_tuple_getitem.lookup, ht.typeIs, ?_⟩
  by_cases hw : HT.sIx xs.length 0 lo = 0 ∧ HT.sIx xs.length xs.length hi = xs.length
  · exact getItem_tuple_whole ht hs pl pu (by rw [hlen]; exact hw) ⟨.ref a, H, I, rfl, q1 hw⟩
  · refine HT.getItem_tuple_cut ht hs pl pu (by rw [hlen]; exact hw) ?_ (by rw [hlen]; exact hz)
    rw [hlen]
    exact newT_ok I ((r.drop (HT.sIx xs.length 0 lo)).take (HT.sIx xs.length xs.length hi - HT.sIx xs.length 0 lo)) (Nat.le_trans (cutV_length xs lo hi) hz) q2 s.toks
theorem call_divmodF : CallR X (.builtin "divmod") (fun xs H Q => ∃ i j, xs = [.int i, .int j] ∧ (0 < j ∧ j.natAbs.log2 < 9000) ∧ NewT H [.int (i / j), .int (i % j)] Q) := by
  intro pins s σ H xs us Q I r h
  obtain ⟨i, j, rfl, ⟨h1, h2⟩, q⟩ := h
  obtain ⟨u, w', rfl, ⟨t, rfl⟩, ⟨t', rfl⟩⟩ := vals2 r
  refine divmod_int (by omega) ?_ (.inl (PyProof.noPylong_of_log2 h2))
  rw [Int.fdiv_eq_ediv_of_nonneg i (by omega), Int.fmod_eq_emod_of_nonneg i (by omega)]
  exact newT_ok (xs := [V.int (i / j), V.int (i % j)]) (its := [.int (i / j) s.toks, .int (i % j) (s.toks + 1)]) I (.cons ⟨_, rfl⟩ (.cons ⟨_, rfl⟩ .nil)) (by simp only [List.length_cons, List.length_nil]; rw [sizeLine_eq]; decide) q _
/-- tuple(xs) of a list -/
theorem call_tupleF : CallR X (.type "tuple") (fun xs H Q => ∃ p ys, xs = [.ref p] ∧ ((SqL X.K H p ys ∧ NewT H ys Q) ∨ (SqT X.K H p ys ∧ Q (.ref p) H))) := by
  intro pins s σ H xs us Q I r h
  obtain ⟨p, ys, rfl, h⟩ := h
  obtain ⟨u, rfl, rx⟩ := vals1 r
  cases rx
  rcases h with ⟨hq, q⟩ | ⟨hq, q⟩
  · obtain ⟨its, r', pl, hz⟩ := I.list hq
    have hlen := r'.length
    refine call_tuple_list pl.isList (fun h' kp => ?_) (by simp only [List.size_toArray] <;> omega)
    exact newT_ok (s := { s with heap := h' }) (I.kept (t' := s.toks) kp) r' hz q s.toks
  · obtain ⟨its, r', pl, hz⟩ := I.tuple hq
    exact call_tuple_same pl ⟨.ref p, H, I, rfl, q⟩
end
end Pw
set_option Elab.async false
set_option linter.all false
set_option maxRecDepth 100000
set_option maxHeartbeats 4000000
namespace Pw
open PySem PySem.Spec PyProof.Rows L2
/-- once a tuple: the tuple itself -/
theorem tuple_mul1 (l : Addr) (items : Array Value) (n : Nat) (dd : Option Addr) (sl : Array (Option Value)) (u : Tok) :
    Meets (Builtin.«tuple.__mul__» ⟨[.ref l, .int 1 u], []⟩) (fun _ R s => s.heap.get? l = some { cls := .type "tuple", dict := dd, data := .seq items n, slots := sl } ∧ R (.ok (.ret (.ref l))) s) :=
  .of_wp fun prog w A R s h => by
    obtain ⟨hp, g, d, tk, os⟩ := s
    obtain ⟨hl, h⟩ := h
    have f1 := AutoSeq1.idx_int
    wp_walk using wpAny_loadPart' hl
    exact ⟨_, rfl, h⟩
section
variable {X : Cx}
theorem op_rep1 : OpR X (binaryOp .Mult) (fun x y H Q => ∃ l xs, x = .ref l ∧ y = .int 1 ∧ SqT X.K H l xs ∧ Q (.ref l) H) := by
  intro pins s σ H x y v u Q I rx ry h
  obtain ⟨l, xs, rfl, rfl, hT, q⟩ := h
  cases rx
  obtain ⟨t, rfl⟩ := ry
  obtain ⟨its, r, ⟨⟨cls, dd, data, sl⟩, ho, hc, n, hd⟩, hs⟩ := I.tuple hT
  simp only at hc hd
  subst hc hd
  exact wpAny_binaryOp_repeat_ref (T := "tuple") (U := "int") (by decide) ⟨_, ho, rfl⟩ (fun s' => typeIs_int s' 1 t) noFill_tuple_mul F.fills_int_mul F.slot_int_rmul repeat_tuple F.slot_int_index.lookup
    (call_meets F.slot_int_rmul (typeIs_int s 1 t) F.entry_int_rmul (F.args_int_rmul_2 _ _) (int_rmul_tuple 1 t l its.toArray n dd sl)
      ⟨ho, rfl, ⟨_, ho, rfl⟩, call_meets F.slot_tuple_mul ⟨_, ho, rfl⟩ F.entry_tuple_mul (F.args_tuple_mul_2 _ _) (tuple_mul1 l its.toArray n dd sl t) ⟨ho, ⟨.ref l, H, I, rfl, q⟩⟩⟩)
end
end Pw
set_option Elab.async false
set_option linter.all false
set_option maxRecDepth 100000
namespace Pw
open PySem PySem.Spec PyProof.Rows L2

/-! ### what is seen of a heap: U of H -/
def Vw (U H : Hp) : Prop := ∀ a o, U a = some o → H a = some o
/-- what is not seen stays -/
structure Kp (U H U' H' : Hp) : Prop where
  st : ∀ a o, H a = some o → U a = none → H' a = some o ∧ U' a = none
  vw : Vw U' H'
theorem Vw.refl {H : Hp} : Vw H H := fun _ _ h => h
theorem Vw.none {U H : Hp} (vw : Vw U H) {a : Addr} (h : H a = none) : U a = none := by
  cases e : U a with
  | none => rfl
  | some o => rw [vw a o e] at h; cases h
theorem Kp.refl {U H : Hp} (vw : Vw U H) : Kp U H U H := ⟨fun _ _ h n => ⟨h, n⟩, vw⟩
theorem Kp.trans {U H U' H' U'' H'' : Hp} (a : Kp U H U' H') (b : Kp U' H' U'' H'') : Kp U H U'' H'' := ⟨fun c o h n => b.st c o (a.st c o h n).1 (a.st c o h n).2, b.vw⟩
theorem Vw.upd {U H : Hp} (vw : Vw U H) {p : Addr} {o : HO} : Vw (upd U p o) (upd H p o) := fun a x e => by
  by_cases z : a = p
  · subst z
    rw [upd_same] at e ⊢
    exact e
  · rw [upd_ne z] at e ⊢
    exact vw a x e
theorem Kp.new {U H : Hp} (vw : Vw U H) {p : Addr} {o : HO} (hp : H p = none) : Kp U H (upd U p o) (upd H p o) := ⟨fun a x h n => by
  have z := ne_of_none h hp
  rw [upd_ne z, upd_ne z]
  exact ⟨h, n⟩, vw.upd⟩
theorem Kp.wr {U H : Hp} (vw : Vw U H) {p : Addr} {o x : HO} (hp : U p = some x) : Kp U H (upd U p o) (upd H p o) := ⟨fun a x h n => by
  have z : a ≠ p := fun e => by rw [e, hp] at n; cases n
  rw [upd_ne z, upd_ne z]
  exact ⟨h, n⟩, vw.upd⟩
section
theorem Vw.sqF {K : PySem.W.Frag} {U H : Hp} {a : Addr} {vs : List V} (vw : Vw U H) (h : SqF K U a vs) : SqF K H a vs := by
  rcases h with ⟨o, h, d⟩ | h
  · exact .inl ⟨o, vw _ _ h, d⟩
  · exact .inr h
theorem Vw.sqT {K : PySem.W.Frag} {U H : Hp} {a : Addr} {vs : List V} (vw : Vw U H) (h : SqF K U a vs) : SqT K H a vs := (vw.sqF h).sq
theorem Vw.sqW {K : PySem.W.Frag} {U H : Hp} {a : Addr} {vs : List V} (vw : Vw U H) (h : SqT K U a vs) : SqT K H a vs := by
  rcases h with (h | ⟨o, h⟩) | h
  · exact .inl (.inl (vw _ _ h))
  · exact .inl (.inr ⟨o, vw _ _ h⟩)
  · exact .inr h
theorem Vw.sqS {K : PySem.W.Frag} {U H : Hp} {a : Addr} {vs : List V} (vw : Vw U H) (h : SqS K U a vs) : SqS K H a vs := by
  rcases h with ⟨o, h⟩ | h
  · exact .inl ⟨o, vw _ _ h⟩
  · exact .inr h
end
/-! ### what an expression's end gives -/
def Out (K : PySem.W.Frag) (M : Mp) (U H : Hp) (R : DK) (Q : VK) : Prop := ∀ d M' v U' H', Ext M U M' U' → Kp U H U' H' → RM K M' U' → RV K M' U' d v → R d M' → Q v H'
section
variable {K : PySem.W.Frag} {M M' : Mp} {U U' H H' : Hp} {R : DK} {Q : VK} {d : D} {v : V}
theorem Out.mono (o : Out K M U H R Q) (x : Ext M U M' U') (k : Kp U H U' H') : Out K M' U' H' R Q := fun d M1 v V1 H1 e k' r q h => o d M1 v V1 H1 (x.trans e) (k.trans k') r q h
theorem Out.here (o : Out K M U H R Q) (vw : Vw U H) (r : RM K M U) (q : RV K M U d v) (h : R d M) : Q v H := o d M v U H .refl (.refl vw) r q h
theorem Out.int (o : Out K M U H R Q) (vw : Vw U H) (r : RM K M U) {i : Int} (h : R (.int i) M) : Q (.int i) H := o.here vw r (by simp only [RV]) h
theorem Out.bl (o : Out K M U H R Q) (vw : Vw U H) (r : RM K M U) {b : Bool} (h : R (.bl b) M) : Q (.bl b) H := o.here vw r (by simp only [RV]) h
theorem Out.str (o : Out K M U H R Q) (vw : Vw U H) (r : RM K M U) {x : Str} (h : R (.str x) M) : Q (.str x) H := o.here vw r (by simp only [RV]) h
/-- a new tuple -/
theorem Out.tup (o : Out K M U H R Q) (vw : Vw U H) (r : RM K M U) {ds : List D} {vs : List V} (q : RVs K M U ds vs) (h : R (.tup ds) M) : NewT H vs Q := fun p ob hp hd =>
  o (.tup ds) M (.ref p) _ _ (Ext.new (vw.none hp)) (Kp.new vw hp) (r.new (vw.none hp)) (by
    simp only [RV]
    exact ⟨p, vs, rfl, .inl ⟨ob, upd_same, hd⟩, RVs.mono (Ext.new (vw.none hp)) r ds vs q⟩) h
/-- a new list -/
theorem Out.lst (o : Out K M U H R Q) (vw : Vw U H) (r : RM K M U) {m : Bool} {ds : List D} {vs : List V} (q : RVs K M U ds vs) (h : mkN m ds M R) {p : Addr} (hp : H p = none) : Q (.ref p) (upd H p (.lst vs)) := by
  have hv := vw.none hp
  cases m with
  | false =>
    exact o (.lst ds) M (.ref p) _ _ (Ext.new hv) (Kp.new vw hp) (r.new hv) (by
      simp only [RV]
      exact ⟨p, vs, rfl, upd_same, r.none_of hv, RVs.mono (Ext.new hv) r ds vs q⟩) h
  | true =>
    have n := r.none_of hv
    exact o (.ref p) (up M p (.lst ds)) (.ref p) _ _ (Ext.newM hv) (Kp.new vw hp) (r.newM hv ⟨vs, upd_same, RVs.mono (Ext.newM hv) r ds vs q⟩) (by simp only [RV]) (h p n)
/-- a new dict -/
theorem Out.dct (o : Out K M U H R Q) (vw : Vw U H) (r : RM K M U) {m : Bool} (h : match m with
    | true => ∀ p, M p = none → R (.ref p) (up M p (.dic []))
    | false => R (.dic []) M) {p : Addr} (hp : H p = none) : Q (.ref p) (upd H p (.dK [])) := by
  have hv := vw.none hp
  cases m with
  | false =>
    exact o (.dic []) M (.ref p) _ _ (Ext.new hv) (Kp.new vw hp) (r.new hv) (by
      simp only [RV]
      exact ⟨p, [], rfl, upd_same, r.none_of hv, by simp only [RKs]⟩) h
  | true =>
    have n := r.none_of hv
    exact o (.ref p) (up M p (.dic [])) (.ref p) _ _ (Ext.newM hv) (Kp.new vw hp) (r.newM hv ⟨[], upd_same, by simp only [RKs]⟩) (by simp only [RV]) (h p n)
end
section
variable {K : PySem.W.Frag} {M : Mp} {U H : Hp}
theorem lstM_at (vw : Vw U H) (r : RM K M U) {d : D} {v : V} {ds : List D} (e : lstM M d = some ds) (h : RV K M U d v) : ∃ a vs, v = .ref a ∧ H a = some (.lst vs) ∧ RVs K M U ds vs := by
  cases d <;> simp only [lstM] at e <;> try cases e
  · simp only [RV] at h
    obtain ⟨a, vs, e1, e2, _, q⟩ := h
    exact ⟨a, vs, e1, vw _ _ e2, q⟩
  · rename_i a
    simp only [RV] at h
    split at e
    · rename_i ds' e'
      cases e
      obtain ⟨vs, e2, q⟩ := r a _ e'
      exact ⟨a, vs, h, vw _ _ e2, q⟩
    · cases e
theorem lstOf_at (vw : Vw U H) (r : RM K M U) {d : D} {v : V} {ds : List D} (e : lstOf M d = some ds) (h : RV K M U d v) : ∃ a vs, v = .ref a ∧ SqL K H a vs ∧ RVs K M U ds vs := by
  cases d <;> simp only [lstOf] at e <;> try cases e
  · simp only [RV] at h
    obtain ⟨a, vs, e1, e2, _, q⟩ := h
    exact ⟨a, vs, e1, .of (vw _ _ e2), q⟩
  · rename_i a
    simp only [RV] at h
    split at e
    · rename_i ds' e'
      cases e
      obtain ⟨vs, e2, q⟩ := r a _ e'
      exact ⟨a, vs, h, .of (vw _ _ e2), q⟩
    · cases e
  · simp only [RV] at h
    obtain ⟨a, vs, e1, e2, q⟩ := h
    exact ⟨a, vs, e1, (vw.sqS e2).sq, q⟩
theorem seqOf_at (vw : Vw U H) (r : RM K M U) {d : D} {v : V} {ds : List D} (e : seqOf M d = some ds) (h : RV K M U d v) : ∃ a vs, v = .ref a ∧ (SqL K H a vs ∨ SqT K H a vs) ∧ RVs K M U ds vs := by
  cases d
  case tup =>
    simp only [seqOf] at e
    cases e
    simp only [RV] at h
    obtain ⟨a, vs, e1, e2, q⟩ := h
    exact ⟨a, vs, e1, .inr (vw.sqT e2), q⟩
  all_goals
    obtain ⟨a, vs, e1, e2, q⟩ := lstOf_at vw r (by simpa only [seqOf] using e) h
    exact ⟨a, vs, e1, .inl e2, q⟩
/-- what is seen as a list, a tuple .. -/
theorem see_lst {d : D} {ds : List D} (e : see M d = .lst ds) : lstM M d = some ds := by
  cases d <;> simp only [see] at e <;> try cases e
  · rfl
  · rename_i a
    simp only [lstM]
    split at e <;> first | (cases e; simp_all) | cases e
theorem lstM_of {d : D} {ds : List D} (e : lstM M d = some ds) : lstOf M d = some ds := by
  cases d <;> simp only [lstM] at e <;> simp only [lstOf] <;> first | exact e | cases e
theorem see_tup {d : D} {ds : List D} (e : see M d = .tup ds) : d = .tup ds := by
  cases d <;> simp only [see] at e <;> try cases e
  · rfl
  · split at e <;> cases e
theorem see_str {d : D} {ds : Str} (e : see M d = .str ds) : d = .str ds := by
  cases d <;> simp only [see] at e <;> try cases e
  · rfl
  · split at e <;> cases e
theorem see_int {d : D} {ds : Int} (e : see M d = .int ds) : d = .int ds := by
  cases d <;> simp only [see] at e <;> try cases e
  · rfl
  · split at e <;> cases e
theorem see_bl {d : D} {ds : Bool} (e : see M d = .bl ds) : d = .bl ds := by
  cases d <;> simp only [see] at e <;> try cases e
  · rfl
  · split at e <;> cases e
theorem see_non {d : D} (e : see M d = .non) : d = .non := by
  cases d <;> simp only [see] at e <;> try cases e
  · rfl
  · split at e <;> cases e
theorem see_scr {d : D} {ds : List D} (e : see M d = .scr ds) : d = .scr ds := by
  cases d <;> simp only [see] at e <;> try cases e
  · split at e <;> cases e
  · rfl
theorem see_dic (vw : Vw U H) (r : RM K M U) {d : D} {v : V} {kvs : List (Key × D)} (e : see M d = .dic kvs) (h : RV K M U d v) : ∃ a us, v = .ref a ∧ H a = some (.dK us) ∧ RKs K M U kvs us := by
  cases d <;> simp only [see] at e <;> try cases e
  · simp only [RV] at h
    obtain ⟨a, us, e1, e2, _, q⟩ := h
    exact ⟨a, us, e1, vw _ _ e2, q⟩
  · rename_i a
    simp only [RV] at h
    split at e
    · cases e
    · rename_i ds' e'
      cases e
      obtain ⟨vs, e2, q⟩ := r a _ e'
      exact ⟨a, vs, h, vw _ _ e2, q⟩
    · cases e
end
theorem lineLIM : sizeLine = LIM := by decide +kernel
/-- by values: two operands -/
def rOp (K : PySem.W.Frag) (f : D → D → Mp → DK → Prop) : R2 := fun x y H Q => ∃ U M a b R, Vw U H ∧ RM K M U ∧ RV K M U a x ∧ RV K M U b y ∧ f a b M R ∧ Out K M U H R Q

section
variable {X : Cx}
theorem op_powW : OpR X (binaryOp .Pow) (rI PowOk fun i j => .int (i ^ j.toNat)) := opI fun i j _ _ _ _ _ hc q => by
  obtain ⟨h0, a, h1, h2, h3⟩ := hc
  have b := intBits_le_iff.mpr h1
  refine pow_int h0 ?_ q
  have e1 : ((Builtin.Int.intBits i : Nat) : Int) * j ≤ (a : Int) * j := Int.mul_le_mul_of_nonneg_right (by omega) h0
  omega
theorem MulOk.w {i j : Int} (h : MulOk i j) : CMulW i j := by
  obtain ⟨a, b, h1, h2, h3, h4, h5⟩ := h
  exact wide_mul h1 h2 h3 h4 h5
theorem divOk_log {j : Int} (h : DivOk j) : j.natAbs.log2 < 9000 := by
  obtain ⟨h0, a, h1, h2, h3⟩ := h
  have := (Nat.log2_lt (by omega)).mpr h1
  omega
theorem DivOk.w {i j : Int} (h : DivOk j) : CDivW i j := by
  obtain ⟨h1, a, h2, h3, h4⟩ := h
  exact wide_div h1 h2 h3 h4
def bopO : BinO → Operator
  | .add => .Add | .sub => .Sub | .mul => .Mult | .fdiv => .FloorDiv | .mod => .Mod | .pow => .Pow
theorem RVs.nil_iff {K : PySem.W.Frag} {M : Mp} {H : Hp} {ds : List D} {vs : List V} (h : RVs K M H ds vs) : vs = [] ↔ ds = [] := by
  have l := h.length
  cases ds <;> cases vs <;> simp_all

theorem op_mul_str : OpR X (binaryOp .Mult) (fun x y H Q => ∃ i j, x = .str i ∧ y = .int j ∧ 2 ≤ j ∧ j ≤ 10000 ∧ i.length ≤ 1000 ∧ Q (.str (Txt.mul i j)) H) := by
  intro pins s σ H x y v u Q I rx ry h
  obtain ⟨i, j, rfl, rfl, h1, h2, h3, q⟩ := h
  obtain ⟨t, rfl⟩ := rx
  obtain ⟨t', rfl⟩ := ry
  refine SB.mul ⟨?_, fun _ _ => ?_, fun _ _ => ?_⟩ fun t' k => ⟨.str _, H, I.tok _, ⟨_, rfl⟩, q⟩
  · rw [decide_eq_false (by omega), decide_eq_false (by omega)] <;> rfl
  · have : (2 ^ 63 - 1) / j ≥ (2 ^ 63 - 1) / 10000 := by
      refine Int.le_ediv_of_mul_le (by omega) ?_
      have : (2 ^ 63 - 1 : Int) / 10000 * j ≤ (2 ^ 63 - 1) / 10000 * 10000 := Int.mul_le_mul_of_nonneg_left h2 (by decide)
      omega
    omega
  · have a1 : i.length * j.toNat ≤ 1000 * 10000 := Nat.mul_le_mul h3 (by omega)
    unfold Builtin.Str.tooLong
    exact decide_eq_false (by rw [sizeLine_eq]; omega)
theorem op_ok (m : Bool) (op : BinO) : OpR X (binaryOp (bopO op)) (rOp X.K (bop m op)) := by
  intro pins s σ H x y v u Q I rx ry h
  obtain ⟨U, M, a, b, R, vw, rm, ra, rb, hf, out⟩ := h
  cases op with
  | add =>
    have lists : ∀ {a' b' : List D}, lstM M a = some a' → lstM M b = some b' → mkL m (a' ++ b') M R → wpAny (model X.prog X.w) X.A (binaryOp .Add v u) (EP X pins σ Q) X.xe s := by
      intro a' b' ea eb hm
      obtain ⟨p, vs, rfl, hp, qa⟩ := lstM_at vw rm ea ra
      obtain ⟨p', vs', rfl, hp', qb⟩ := lstM_at vw rm eb rb
      refine op_cat pins s σ H _ _ v u Q I rx ry ⟨p, p', vs, vs', rfl, rfl, hp, hp', ?_, fun l hl => out.lst vw rm (qa.app qb) hm.2 hl⟩
      rw [qa.length, qb.length, lineLIM, ← List.length_append]
      exact hm.1
    unfold bop at hf
    dsimp only at hf
    split at hf
    · simp only [RV] at ra rb
      exact op_add pins s σ H _ _ v u Q I rx ry ⟨_, _, ra, rb, out.int vw rm hf⟩
    · simp only [RV] at ra rb
      refine op_add_str pins s σ H _ _ v u Q I rx ry ⟨_, _, ra, rb, ?_, out.str vw rm hf.2⟩
      rw [lineLIM]; exact hf.1
    · rename_i a' b'
      simp only [RV] at ra rb
      obtain ⟨p, vs, rfl, hpU, qa⟩ := ra
      obtain ⟨p', vs', rfl, hpU', qb⟩ := rb
      have hp := vw.sqT hpU
      have hp' := vw.sqT hpU'
      have l1 := qa.length
      have l2 := qb.length
      refine op_catF pins s σ H _ _ v u Q I rx ry ⟨p, p', vs, vs', rfl, rfl, hp, hp', by rw [l1, l2, lineLIM]; exact hf.1, fun e => ?_, fun _ e => ?_, out.tup vw rm (qa.app qb) hf.2⟩
      · have e' := qa.nil_iff.mp e
        subst e'
        exact out.here vw rm (d := .tup b') (by simp only [RV]; exact ⟨p', vs', rfl, hpU', qb⟩) hf.2
      · have e' := qb.nil_iff.mp e
        subst e'
        exact out.here vw rm (d := .tup a') (by simp only [RV]; exact ⟨p, vs, rfl, hpU, qa⟩) (by simpa using hf.2)
    · split at hf
      · rename_i a' b' ea eb
        exact lists ea eb hf
      · exact hf.elim
  | sub =>
    unfold bop at hf
    dsimp only at hf
    split at hf
    · simp only [RV] at ra rb
      exact op_sub pins s σ H _ _ v u Q I rx ry ⟨_, _, ra, rb, out.int vw rm hf⟩
    · exact hf.elim
  | mul =>
    unfold bop at hf
    dsimp only at hf
    split at hf
    · simp only [RV] at ra rb
      exact op_mulW pins s σ H _ _ v u Q I rx ry ⟨_, _, ra, rb, hf.1.w, out.int vw rm hf.2⟩
    · rename_i a' j
      simp only [RV] at ra rb
      obtain ⟨p, vs, rfl, hpU, qa⟩ := ra
      have hp := vw.sqT hpU
      obtain ⟨h1, h2, h3, h4, h5⟩ := hf
      by_cases hj : j = 1
      · subst hj
        have e1 : rep 1 a' = a' := by simp [rep]
        rw [e1] at h5
        exact op_rep1 pins s σ H _ _ v u Q I rx ry ⟨p, vs, rfl, rb, hp, out.here vw rm (d := .tup a') (by simp only [RV]; exact ⟨p, vs, rfl, hpU, qa⟩) h5⟩
      · exact op_repF pins s σ H _ _ v u Q I rx ry ⟨p, j, vs, rfl, rb, hp, fun e => h1 (qa.nil_iff.mp e), by omega, h3, by rw [qa.length]; exact h4, out.tup vw rm (qa.flat j.toNat) h5⟩
    · simp only [RV] at ra rb
      exact op_mul_str pins s σ H _ _ v u Q I rx ry ⟨_, _, ra, rb, hf.1, hf.2.1, hf.2.2.1, out.str vw rm hf.2.2.2⟩
    · rename_i d j _ _ _
      split at hf
      · rename_i a' ea
        obtain ⟨p, vs, rfl, hp, qa⟩ := lstM_at vw rm ea ra
        simp only [RV] at rb
        obtain ⟨h1, h2, h3, h4⟩ := hf
        exact op_rep pins s σ H _ _ v u Q I rx ry ⟨p, j, vs, rfl, rb, hp, by omega, by omega, by rw [qa.length, lineLIM]; exact h3, fun l hl => out.lst vw rm (qa.flat j.toNat) h4 hl⟩
      · exact hf.elim
    · exact hf.elim
  | fdiv =>
    unfold bop at hf
    dsimp only at hf
    split at hf
    · simp only [RV] at ra rb
      exact op_fdivW pins s σ H _ _ v u Q I rx ry ⟨_, _, ra, rb, hf.1.w, out.int vw rm hf.2⟩
    · exact hf.elim
  | mod =>
    unfold bop at hf
    dsimp only at hf
    split at hf
    · simp only [RV] at ra rb
      exact op_mod pins s σ H _ _ v u Q I rx ry ⟨_, _, ra, rb, hf.1, out.int vw rm hf.2⟩
    · exact hf.elim
  | pow =>
    unfold bop at hf
    dsimp only at hf
    split at hf
    · simp only [RV] at ra rb
      exact op_powW pins s σ H _ _ v u Q I rx ry ⟨_, _, ra, rb, hf.1, out.int vw rm hf.2⟩
    · exact hf.elim
end
end Pw
set_option Elab.async false
set_option linter.all false
set_option maxRecDepth 100000
namespace Pw
open PySem PySem.Spec PyProof.Rows L2

/-- the interpreter's table of modules is a dict of the written part -/
def SysD (K : PySem.W.Frag) : Prop := ∃ o, K.lookup sysModules = some o ∧ o.cls = .type "dict"
section
variable {X : Cx} {pins : List (Addr × Obj)} {σ : L2.St} {U H : Hp} {s : Shared} {M : Mp}
theorem sys_ne (sd : SysD X.K) (I : Inv X pins σ H s) {a : Addr} {o : Obj} (h : s.heap.get? a = some o) (c : o.cls = .type "list") : a ≠ sysModules := by
  obtain ⟨u, hu, hc⟩ := sd
  intro e
  subst e
  rw [I.kIn _ _ hu] at h
  cases h
  rw [hc] at c
  exact absurd (Value.type.inj c) (by decide)
theorem keyP {k : Key} {u : Value} (h : (mixKind X.prog X.w).is k u = true) : ∃ as, Reads s.heap u (match k with | .inl i => .int i | .inr x => .str x) as ∧ as = [] := by
  rcases keyIs_shape h with ⟨i, t, rfl, rfl⟩ | ⟨x, t, rfl, rfl⟩
  · exact ⟨_, .int i t, rfl⟩
  · exact ⟨_, .str x t, rfl⟩
/-- the addresses of data: none is the table of modules -/
def NoSys (as : List Addr) : Prop := sysModules ∉ as
mutual
theorem reads_of (I : Inv X pins σ H s) (vw : Vw U H) (sd : SysD X.K) : ∀ (d : D) (n : Nat) (v : V) (u : Value), isD true d n = true → RV X.K M U d v → RelV v u → ∃ as, Reads s.heap u (toP d) as ∧ NoSys as
  | .non, n, v, u, _, h, r => by
    simp only [RV] at h; subst h
    cases r
    exact ⟨_, .none, by simp [NoSys]⟩
  | .bl b, n, v, u, _, h, r => by
    simp only [RV] at h; subst h
    cases r
    exact ⟨_, .bool b, by simp [NoSys]⟩
  | .int i, n, v, u, _, h, r => by
    simp only [RV] at h; subst h
    obtain ⟨t, rfl⟩ := r
    exact ⟨_, .int i t, by simp [NoSys]⟩
  | .str x, n, v, u, _, h, r => by
    simp only [RV] at h; subst h
    obtain ⟨t, rfl⟩ := r
    exact ⟨_, .str x t, by simp [NoSys]⟩
  | .tup ds, 0, v, u, e, h, r => by simp [isD] at e
  | .tup ds, k + 1, v, u, e, h, r => by
    simp only [RV] at h
    obtain ⟨a, vs, rfl, hq, q⟩ := h
    cases r
    obtain ⟨its, rv, ⟨o, ho, hc, n, hd⟩, _⟩ := I.tuple (vw.sqT hq)
    simp only [isD] at e
    obtain ⟨as, h1, h2⟩ := readss_of I vw sd ds k vs its e q rv
    simp only [toP]
    exact ⟨as, .tuple ho hc hd (by simpa using h1), h2⟩
  | .lst ds, 0, v, u, e, h, r => by simp [isD] at e
  | .lst ds, k + 1, v, u, e, h, r => by
    simp only [RV] at h
    obtain ⟨a, vs, rfl, hq, _, q⟩ := h
    cases r
    obtain ⟨its, rv, ⟨o, n, ho, hc, _, hd⟩, _⟩ := I.list (.of (vw _ _ hq))
    simp only [isD] at e
    obtain ⟨as, h1, h2⟩ := readss_of I vw sd ds k vs its e q rv
    simp only [toP]
    refine ⟨a :: as, .list ho hc hd (by simpa using h1), fun z => ?_⟩
    rcases List.mem_cons.mp z with z | z
    · exact sys_ne sd I ho hc z.symm
    · exact h2 z
  | .dic kvs, 0, v, u, e, h, r => by simp [isD] at e
  | .dic kvs, k + 1, v, u, e, h, r => by
    simp only [RV] at h
    obtain ⟨a, us, rfl, hq, _, q⟩ := h
    cases r
    simp only [isD, Bool.true_and] at e
    obtain ⟨hz, hs, vs, kv, o, es, ep, ho, hx, hd, hk, hp, nd⟩ := dk_of I.hok (vw _ _ hq)
    obtain ⟨ks, bs, h1, h2, h3, h4⟩ := readsk_of I vw sd kvs k us vs es.toList e q kv hp
    simp only [toP]
    refine ⟨a :: ks ++ bs, .dict ho hx.1 hd h1 h2, fun z => ?_⟩
    rcases List.mem_append.mp z with z | z
    · rcases List.mem_cons.mp z with z | z
      · rw [← z] at hs; simp at hs
      · exact h3 z
    · exact h4 z
  | .ref _, _, _, _, e, _, _ => by simp [isD] at e
  | .ty _, _, _, _, e, _, _ => by simp [isD] at e
  | .exc _, _, _, _, e, _, _ => by simp [isD] at e
  | .scr _, _, _, _, e, _, _ => by simp [isD] at e
theorem readss_of (I : Inv X pins σ H s) (vw : Vw U H) (sd : SysD X.K) : ∀ (ds : List D) (n : Nat) (vs : List V) (us : List Value), isDs true ds n = true → RVs X.K M U ds vs → Vals vs us → ∃ as, ReadsAll s.heap us (toPs ds) as ∧ NoSys as
  | [], _, vs, us, _, h, r => by
    simp only [RVs] at h; subst h
    cases r
    exact ⟨_, .nil, by simp [NoSys]⟩
  | d :: ds, n, vs, us, e, h, r => by
    simp only [RVs] at h
    obtain ⟨v, q, rfl, h1, h2⟩ := h
    simp only [isDs, Bool.and_eq_true] at e
    cases r with
    | cons r1 r2 =>
      obtain ⟨as, a1, a2⟩ := reads_of I vw sd d n v _ e.1 h1 r1
      obtain ⟨bs, b1, b2⟩ := readss_of I vw sd ds n q _ e.2 h2 r2
      simp only [toPs]
      exact ⟨as ++ bs, .cons a1 b1, fun z => (List.mem_append.mp z).elim a2 b2⟩
theorem readsk_of (I : Inv X pins σ H s) (vw : Vw U H) (sd : SysD X.K) : ∀ (kvs : List (Key × D)) (n : Nat) (us : List (Key × V)) (vs : List (Key × Value)) (es : List DictEntry), isDk true kvs n = true → RKs X.K M U kvs us → KV us vs → PySem.Pairs (mixKind X.prog X.w) es vs →
    ∃ as bs, ReadsAll s.heap (es.map (·.key)) ((toPk kvs).map (·.1)) as ∧ ReadsAll s.heap (es.map (·.val)) ((toPk kvs).map (·.2)) bs ∧ NoSys as ∧ NoSys bs
  | [], _, us, vs, es, _, h, r, p => by
    simp only [RKs] at h; subst h
    cases r
    cases p
    exact ⟨[], [], .nil, .nil, by simp [NoSys], by simp [NoSys]⟩
  | (k, d) :: ds, n, us, vs, es, e, h, r, p => by
    simp only [RKs] at h
    obtain ⟨v, q, rfl, h1, h2⟩ := h
    simp only [isDk, Bool.and_eq_true] at e
    cases r with
    | cons r1 r2 =>
      rename_i kv vs'
      obtain ⟨ek, rk⟩ := r1
      cases p with
      | cons p1 p2 p3 =>
        rename_i en es'
        obtain ⟨as, bs, a1, b1, a2, b2⟩ := readsk_of I vw sd ds n q _ _ e.2 h2 r2 p3
        obtain ⟨cs, c1, c2⟩ := reads_of I vw sd d n v _ e.1 h1 rk
        obtain ⟨ks, k1, rfl⟩ := keyP (X := X) (s := s) p1
        rw [← ek] at k1
        simp only [toPk, List.map_cons]
        exact ⟨[] ++ as, cs ++ bs, .cons k1 a1, .cons (by rw [p2]; exact c1) b1, a2, fun z => (List.mem_append.mp z).elim c2 b2⟩
end
mutual
theorem plain_of : ∀ (d : D) (n : Nat), isD false d n = true → (toP d).plain = true
  | .non, _, _ => by simp [toP, PyData.plain]
  | .bl _, _, _ => by simp [toP, PyData.plain]
  | .int _, _, _ => by simp [toP, PyData.plain]
  | .str _, _, _ => by simp [toP, PyData.plain]
  | .tup ds, 0, h => by simp [isD] at h
  | .tup ds, n + 1, h => by simp only [toP, PyData.plain]; exact plains_of ds n (by simpa [isD] using h)
  | .lst ds, 0, h => by simp [isD] at h
  | .lst ds, n + 1, h => by simp only [toP, PyData.plain]; exact plains_of ds n (by simpa [isD] using h)
  | .dic _, _, h => by simp [isD] at h
  | .ref _, _, h => by simp [isD] at h
  | .ty _, _, h => by simp [isD] at h
  | .exc _, _, h => by simp [isD] at h
  | .scr _, _, h => by simp [isD] at h
theorem plains_of : ∀ (ds : List D) (n : Nat), isDs false ds n = true → PyData.plainAll (toPs ds) = true
  | [], _, _ => by simp [toPs, PyData.plainAll]
  | d :: ds, n, h => by
    simp only [isDs, Bool.and_eq_true] at h
    simp only [toPs, PyData.plainAll, plain_of d n h.1, plains_of ds n h.2, Bool.and_self]
end
mutual
theorem isD_mono : ∀ (d : D) (n : Nat), isD false d n = true → isD true d n = true
  | .non, _, _ => by simp [isD]
  | .bl _, _, _ => by simp [isD]
  | .int _, _, _ => by simp [isD]
  | .str _, _, _ => by simp [isD]
  | .tup ds, 0, h => by simp [isD] at h
  | .tup ds, n + 1, h => by simp only [isD] at h ⊢; exact isDs_mono ds n h
  | .lst ds, 0, h => by simp [isD] at h
  | .lst ds, n + 1, h => by simp only [isD] at h ⊢; exact isDs_mono ds n h
  | .dic _, _, h => by simp [isD] at h
  | .ref _, _, h => by simp [isD] at h
  | .ty _, _, h => by simp [isD] at h
  | .exc _, _, h => by simp [isD] at h
  | .scr _, _, h => by simp [isD] at h
theorem isDs_mono : ∀ (ds : List D) (n : Nat), isDs false ds n = true → isDs true ds n = true
  | [], _, _ => by simp [isDs]
  | d :: ds, n, h => by
    simp only [isDs, Bool.and_eq_true] at h ⊢
    exact ⟨isD_mono d n h.1, isDs_mono ds n h.2⟩
end
mutual
theorem depth_of : ∀ (d : D) (n : Nat), isD true d n = true → (toP d).depth ≤ n
  | .non, _, _ => by simp [toP, PyData.depth]
  | .bl _, _, _ => by simp [toP, PyData.depth]
  | .int _, _, _ => by simp [toP, PyData.depth]
  | .str _, _, _ => by simp [toP, PyData.depth]
  | .tup ds, 0, h => by simp [isD] at h
  | .tup ds, n + 1, h => by
    have := depths_of ds n (by simpa [isD] using h)
    simp only [toP, PyData.depth]; omega
  | .lst ds, 0, h => by simp [isD] at h
  | .lst ds, n + 1, h => by
    have := depths_of ds n (by simpa [isD] using h)
    simp only [toP, PyData.depth]; omega
  | .dic kvs, 0, h => by simp [isD] at h
  | .dic kvs, n + 1, h => by
    have := depthk_of kvs n (by simpa [isD] using h)
    simp only [toP, PyData.depth]; omega
  | .ref _, _, h => by simp [isD] at h
  | .ty _, _, h => by simp [isD] at h
  | .exc _, _, h => by simp [isD] at h
  | .scr _, _, h => by simp [isD] at h
theorem depths_of : ∀ (ds : List D) (n : Nat), isDs true ds n = true → PyData.depthAll (toPs ds) ≤ n
  | [], _, _ => by simp [toPs, PyData.depthAll]
  | d :: ds, n, h => by
    simp only [isDs, Bool.and_eq_true] at h
    have h1 := depth_of d n h.1
    have h2 := depths_of ds n h.2
    simp only [toPs, PyData.depthAll]; omega
theorem depthk_of : ∀ (ds : List (Key × D)) (n : Nat), isDk true ds n = true → PyData.depthKv (toPk ds) ≤ n
  | [], _, _ => by simp [toPk, PyData.depthKv]
  | (k, d) :: ds, n, h => by
    simp only [isDk, Bool.and_eq_true] at h
    have h1 := depth_of d n h.1
    have h2 := depthk_of ds n h.2
    simp only [toPk, PyData.depthKv]
    cases k <;> simp only [PyData.depth] <;> omega
end
/-- what may change, seen as data -/
theorem reads_see (I : Inv X pins σ H s) (vw : Vw U H) (sd : SysD X.K) (rm : RM X.K M U) {d : D} {v : V} {u : Value} {n : Nat} (e : isD true (see M d) n = true) (h : RV X.K M U d v) (r : RelV v u) : ∃ as, Reads s.heap u (toP (see M d)) as ∧ NoSys as := by
  cases d
  case ref a =>
    simp only [RV] at h
    subst h
    cases r
    cases q : M a with
    | none => simp only [see, q, isD] at e; cases e
    | some o =>
      cases o with
      | lst ds =>
        simp only [see, q] at e
        obtain ⟨k, rfl⟩ : ∃ k, n = k + 1 := by
          cases n with
          | zero => simp [isD] at e
          | succ k => exact ⟨k, rfl⟩
        simp only [isD] at e
        obtain ⟨vs, hl, rv⟩ := rm a _ q
        obtain ⟨its, rv', ⟨o, n, ho, hc, _, hd⟩, _⟩ := I.list (.of (vw _ _ hl))
        obtain ⟨as, h1, h2⟩ := readss_of I vw sd ds k vs its e rv rv'
        simp only [see, q, toP]
        refine ⟨a :: as, .list ho hc hd (by simpa using h1), fun z => ?_⟩
        rcases List.mem_cons.mp z with z | z
        · exact sys_ne sd I ho hc z.symm
        · exact h2 z
      | dic kvs =>
        simp only [see, q] at e
        obtain ⟨k, rfl⟩ : ∃ k, n = k + 1 := by
          cases n with
          | zero => simp [isD] at e
          | succ k => exact ⟨k, rfl⟩
        simp only [isD, Bool.true_and] at e
        obtain ⟨us, hl, rv⟩ := rm a _ q
        obtain ⟨hz, hs, vs, kv, o, es, ep, ho, hx, hd, hk, hp, nd⟩ := dk_of I.hok (vw _ _ hl)
        obtain ⟨ks, bs, h1, h2, h3, h4⟩ := readsk_of I vw sd kvs k us vs es.toList e rv kv hp
        simp only [see, q, toP]
        refine ⟨a :: ks ++ bs, .dict ho hx.1 hd h1 h2, fun z => ?_⟩
        rcases List.mem_append.mp z with z | z
        · rcases List.mem_cons.mp z with z | z
          · rw [← z] at hs; simp at hs
          · exact h3 z
        · exact h4 z
      | dicT _ => simp only [see, q, isD] at e; cases e
      | ins _ _ => simp only [see, q, isD] at e; cases e
  all_goals exact reads_of (M := M) I vw sd _ n v u e h r
end
end Pw
set_option Elab.async false
set_option linter.all false
set_option maxRecDepth 100000
namespace Pw
open PySem PySem.Spec PyProof.Rows L2

def copO : CmpO → CmpOp
  | .eq => .Eq | .ne => .NotEq | .lt => .Lt | .le => .LtE | .gt => .Gt | .ge => .GtE | .is_ => .Is | .isnot => .IsNot | .in_ => .In | .notin => .NotIn
theorem cmpB_eq {op : CmpO} {o : CmpOp} (h : cmpB op o = true) : o = copO op := by
  cases op <;> cases o <;> first | rfl | (simp [cmpB] at h)
theorem binB_eq {op : BinO} {o : Operator} (h : binB op o = true) : o = bopO op := by
  cases op <;> cases o <;> first | rfl | (simp [binB] at h)
/-- by values: a comparison -/
def rCop (K : PySem.W.Frag) (op : CmpO) : R2 := fun x y H Q => ∃ U M a b R, Vw U H ∧ RM K M U ∧ RV K M U a x ∧ RV K M U b y ∧ cop op a b M R ∧ ∀ k, R k → Q (.bl k) H
section
variable {X : Cx} {K : PySem.W.Frag} {M : Mp} {U H : Hp}
theorem isN_iff {d : D} {v : V} (h : RV K M U d v) : decide (v = .non) = isN d := by
  cases d <;> simp only [RV] at h <;> first
    | (subst h; simp [isN])
    | (obtain ⟨a, vs, e, _⟩ := h; subst e; simp [isN])
    | (obtain ⟨a, e, _⟩ := h; subst e; simp [isN])
theorem eq_both (hu : X.A.units + 64 < cLine) (sd : SysD X.K) {pins : List (Addr × Obj)} {σ : L2.St} {s : Shared} {a b : D} {x y : V} {v u : Value} {M : Mp} {U H : Hp} (I : Inv X pins σ H s) (vw : Vw U H) (rm : RM X.K M U) (ra : RV X.K M U a x) (rb : RV X.K M U b y) (rx : RelV x v) (ry : RelV y u)
    (e : eqOk (see M a) (see M b) = true) : ∃ as bs, Reads s.heap v (toP (see M a)) as ∧ Reads s.heap u (toP (see M b)) bs ∧ (toP (see M a)).plain = true ∧ (toP (see M b)).plain = true ∧ X.A.units + min (toP (see M a)).depth (toP (see M b)).depth < cLine := by
  simp only [eqOk, Bool.and_eq_true] at e
  obtain ⟨as, r1, _⟩ := reads_see I vw sd rm (isD_mono _ _ e.1) ra rx
  obtain ⟨bs, r2, _⟩ := reads_see I vw sd rm (isD_mono _ _ e.2) rb ry
  have d1 := depth_of _ _ (isD_mono _ _ e.1)
  exact ⟨as, bs, r1, r2, plain_of _ _ e.1, plain_of _ _ e.2, by omega⟩
theorem mem_both (hu : X.A.units + 64 < cLine) (sd : SysD X.K) {pins : List (Addr × Obj)} {σ : L2.St} {s : Shared} {a b : D} {ys : List D} {x y : V} {v u : Value} {M : Mp} {U H : Hp} (I : Inv X pins σ H s) (vw : Vw U H) (rm : RM X.K M U) (ra : RV X.K M U a x) (rb : RV X.K M U b y) (rx : RelV x v) (ry : RelV y u)
    (hb : see M b = .tup ys ∨ see M b = .lst ys) (e : memOk (see M a) ys = true) : ∃ as bs, Reads s.heap v (toP (see M a)) as ∧ Reads s.heap u (toP (see M b)) bs ∧ (toP (see M a)).plain = true ∧ PyData.plainAll (toPs ys) = true ∧ X.A.units + 1 + min (PyData.depthAll (toPs ys)) (toP (see M a)).depth < cLine := by
  simp only [memOk, Bool.and_eq_true] at e
  have e2 := isDs_mono _ _ e.2
  obtain ⟨as, r1, _⟩ := reads_see I vw sd rm (isD_mono _ _ e.1) ra rx
  obtain ⟨bs, r2, _⟩ := reads_see (n := 31) I vw sd rm (by rcases hb with hb | hb <;> rw [hb] <;> simpa [isD] using e2) rb ry
  have d1 := depth_of _ _ (isD_mono _ _ e.1)
  exact ⟨as, bs, r1, r2, plain_of _ _ e.1, plains_of _ _ e.2, by omega⟩
theorem toPs_any (x : D) : ∀ ys : List D, ((toPs ys).any fun y => PyData.eqv y (toP x)) = memD x ys
  | [] => rfl
  | y :: ys => by
    simp only [toPs, List.any_cons, toPs_any x ys, memD, eqD]
theorem ints_R {f : Int → Int → Bool} {a b : D} {x y : V} {R : Bool → Prop} {Q : VK} (ra : RV K M U a x) (rb : RV K M U b y) (out : ∀ k, R k → Q (.bl k) H) (hf : match (generalizing := false) a, b with
      | .int i, .int j => R (f i j)
      | _, _ => False) : ∃ i j, x = .int i ∧ y = .int j ∧ Q (.bl (f i j)) H := by
  split at hf
  · simp only [RV] at ra rb
    exact ⟨_, _, ra, rb, out _ hf⟩
  · exact hf.elim
theorem mem_R (hu : X.A.units + 64 < cLine) (sd : SysD X.K) {pins : List (Addr × Obj)} {σ : L2.St} {s : Shared} {a b : D} {x y : V} {v u : Value} {g : Bool → Bool} {R : Bool → Prop} {Q : VK} (I : Inv X pins σ H s) (vw : Vw U H) (rm : RM X.K M U) (ra : RV X.K M U a x) (rb : RV X.K M U b y) (rx : RelV x v) (ry : RelV y u)
    (out : ∀ k, R k → Q (.bl k) H) (hf : memC a b M (fun k => R (g k))) : (∃ as bs ys, Reads s.heap v (toP (see M a)) as ∧ Reads s.heap u (toP (see M b)) bs ∧ (toP (see M a)).plain = true ∧ PyData.plainAll (toPs ys) = true ∧ X.A.units + 1 + min (PyData.depthAll (toPs ys)) (toP (see M a)).depth < cLine ∧
      (see M b = .tup ys ∨ see M b = .lst ys) ∧ Q (.bl (g ((toPs ys).any fun y => PyData.eqv y (toP (see M a))))) H) ∨ ∃ i j, x = .str i ∧ y = .str j ∧ Q (.bl (g (!(Builtin.Str.occurrences j i 0 j.length 1).isEmpty))) H := by
  unfold memC at hf
  split at hf
  · rename_i ys e
    obtain ⟨as, bs, r1, r2, p1, p2, hd⟩ := mem_both hu sd I vw rm ra rb rx ry (.inl e) hf.1
    exact .inl ⟨as, bs, ys, r1, r2, p1, p2, hd, .inl e, by rw [toPs_any]; exact out _ hf.2⟩
  · rename_i ys e
    obtain ⟨as, bs, r1, r2, p1, p2, hd⟩ := mem_both hu sd I vw rm ra rb rx ry (.inr e) hf.1
    exact .inl ⟨as, bs, ys, r1, r2, p1, p2, hd, .inr e, by rw [toPs_any]; exact out _ hf.2⟩
  · rename_i j e
    have e' := see_str e
    subst e'
    split at hf
    · simp only [RV] at ra rb
      exact .inr ⟨_, _, ra, rb, out _ hf⟩
    · exact hf.elim
  · exact hf.elim
theorem readsAll_len {h : Heap} : ∀ {vs : List Value} {xs : List PyData} {as : List Addr}, ReadsAll h vs xs as → vs.length = xs.length
  | _, _, _, .nil => rfl
  | _, _, _, .cons _ r => by simp [readsAll_len r]
theorem toPs_length : ∀ xs : List D, (toPs xs).length = xs.length
  | [] => rfl
  | x :: xs => by simp [toPs, toPs_length xs]
theorem cop_ok (hu : X.A.units + 64 < cLine) (sd : SysD X.K) (op : CmpO) : OpR X (compareOp (copO op)) (rCop X.K op) := by
  intro pins s σ H x y v u Q I rx ry h
  obtain ⟨U, M, a, b, R, vw, rm, ra, rb, hf, out⟩ := h
  cases op with
  | eq =>
    obtain ⟨e, q⟩ := hf
    simp only [eqOkE, Bool.or_eq_true] at e
    rcases e with e | e
    · obtain ⟨as, bs, r1, r2, p1, p2, hd⟩ := eq_both hu sd I vw rm ra rb rx ry e
      exact SeqAt.eq_plain r1 r2 p1 p2 hd (fin_bl I (out _ q) rfl)
    · unfold eq0 at e
      split at e
      · rename_i xs e1 e2
        obtain ⟨as, r1, _⟩ := reads_see (n := 30) I vw sd rm (by rw [e1]; exact e) ra rx
        obtain ⟨bs, r2, _⟩ := reads_see (n := 30) I vw sd rm (by rw [e2]; simp [isD, isDs]) rb ry
        rw [e1] at r1
        rw [e2] at r2
        rw [e1, e2] at q
        simp only [toP, toPs] at r1 r2
        cases r1 with
        | tuple h1 h2 h3 h4 =>
          cases r2 with
          | tuple k1 k2 k3 k4 =>
            have n1 := readsAll_len h4
            have n2 := readsAll_len k4
            rw [List.length_nil] at n2
            have key := SeqAt.RcAt.tuples (s := s) (A := X.A) (e := fun _ => true) ⟨_, h1, h2, _, h3⟩ ⟨_, k1, k2, _, k3⟩ (by omega) (fun j g1 g2 => absurd g2 (by simp at n2; simp [n2]))
            refine key X.prog X.w X.xe _ ?_
            refine fin_bl I (out _ q) ?_
            simp only [Array.length_toList] at n1 n2
            rw [n1, n2, toPs_length]
            cases xs <;> simp [eqD, toP, toPs, PyData.eqv, PyData.eqvAll]
      · cases e
  | ne =>
    obtain ⟨e, q⟩ := hf
    obtain ⟨as, bs, r1, r2, p1, p2, hd⟩ := eq_both hu sd I vw rm ra rb rx ry e
    exact SeqAt.ne_plain r1 r2 p1 p2 hd (fin_bl I (out _ q) rfl)
  | lt => exact op_lt pins s σ H _ _ v u Q I rx ry (ints_R ra rb out hf)
  | le => exact op_le pins s σ H _ _ v u Q I rx ry (ints_R ra rb out hf)
  | gt => exact op_gt pins s σ H _ _ v u Q I rx ry (ints_R ra rb out hf)
  | ge => exact op_ge pins s σ H _ _ v u Q I rx ry (ints_R ra rb out hf)
  | is_ =>
    unfold cop at hf
    dsimp only at hf
    split at hf
    · simp only [RV] at rb
      exact op_isN pins s σ H _ _ v u Q I rx ry ⟨rb, by rw [isN_iff ra]; exact out _ hf⟩
    · split at hf
      · simp only [RV] at ra rb
        exact op_isBl pins s σ H _ _ v u Q I rx ry ⟨_, _, ra, rb, out _ hf⟩
      · exact hf.elim
    · exact hf.elim
  | isnot =>
    unfold cop at hf
    dsimp only at hf
    split at hf
    · simp only [RV] at rb
      exact op_notN pins s σ H _ _ v u Q I rx ry ⟨rb, by rw [isN_iff ra]; exact out _ hf⟩
    · split at hf
      · simp only [RV] at ra rb
        exact op_notBl pins s σ H _ _ v u Q I rx ry ⟨_, _, ra, rb, out _ hf⟩
      · exact hf.elim
    · exact hf.elim
  | in_ =>
    rcases mem_R (g := fun k => k) hu sd I vw rm ra rb rx ry out hf with ⟨as, bs, ys, r1, r2, p1, p2, hd, e, q⟩ | h
    · rcases e with e | e
      · rw [e] at r2
        simp only [toP] at r2
        exact SeqAt.in_tuple_data r2 r1 p2 p1 hd (fin_bl I q rfl)
      · rw [e] at r2
        simp only [toP] at r2
        exact SeqAt.in_list_data r2 r1 p2 p1 hd (fin_bl I q rfl)
    · exact op_in_str pins s σ H _ _ v u Q I rx ry h
  | notin =>
    rcases mem_R (g := fun k => !k) hu sd I vw rm ra rb rx ry out hf with ⟨as, bs, ys, r1, r2, p1, p2, hd, e, q⟩ | h
    · rcases e with e | e
      · rw [e] at r2
        simp only [toP] at r2
        exact SeqAt.notIn_tuple_data r2 r1 p2 p1 hd (fin_bl I q rfl)
      · rw [e] at r2
        simp only [toP] at r2
        exact SeqAt.notIn_list_data r2 r1 p2 p1 hd (fin_bl I q rfl)
    · exact op_notin_str pins s σ H _ _ v u Q I rx ry h
end
end Pw
set_option Elab.async false
set_option linter.all false
set_option maxRecDepth 100000
namespace Pw
open PySem PySem.Spec PyProof.Rows L2

/-- by values: a call of something built in -/
def rBf (K : PySem.W.Frag) (m : Bool) (f : BF) : List V → Hp → VK → Prop := fun vs H Q => ∃ U M ds R, Vw U H ∧ RM K M U ∧ RVs K M U ds vs ∧ bfn m f ds M R ∧ Out K M U H R Q
section
variable {X : Cx} {K : PySem.W.Frag} {M : Mp} {U H : Hp}
theorem RVs.one_of {d : D} {vs : List V} (h : RVs K M U [d] vs) : ∃ v, vs = [v] ∧ RV K M U d v := by
  simp only [RVs] at h
  obtain ⟨v, r, e, q, rfl⟩ := h
  exact ⟨v, e, q⟩
theorem RVs.two_of {d d' : D} {vs : List V} (h : RVs K M U [d, d'] vs) : ∃ v v', vs = [v, v'] ∧ RV K M U d v ∧ RV K M U d' v' := by
  simp only [RVs] at h
  obtain ⟨v, r, e, q, v', r', e', q', rfl⟩ := h
  subst e'
  exact ⟨v, v', e, q, q'⟩
theorem foldl_max_mem : ∀ (ns : List Int) (n m : Int), m ∈ n :: ns → (∀ y, y ∈ n :: ns → y ≤ m) → ns.foldl max n = m
  | [], n, m, h, _ => by
    simp at h; exact h.symm
  | k :: ns, n, m, h, q => by
    rw [List.foldl_cons]
    refine foldl_max_mem ns (max n k) m ?_ fun y hy => ?_
    · rcases List.mem_cons.mp h with e | h
      · subst e
        have := q k (by simp)
        rw [Int.max_eq_left this]; simp
      · rcases List.mem_cons.mp h with e | h
        · subst e
          have := q n (by simp)
          rw [Int.max_eq_right this]; simp
        · simp [h]
    · rcases List.mem_cons.mp hy with e | hy
      · subst e
        have h1 := q n (by simp)
        have h2 := q k (by simp)
        exact Int.max_le.mpr ⟨h1, h2⟩
      · exact q y (by simp [hy])
theorem foldl_min_mem : ∀ (ns : List Int) (n m : Int), m ∈ n :: ns → (∀ y, y ∈ n :: ns → m ≤ y) → ns.foldl min n = m
  | [], n, m, h, _ => by
    simp at h; exact h.symm
  | k :: ns, n, m, h, q => by
    rw [List.foldl_cons]
    refine foldl_min_mem ns (min n k) m ?_ fun y hy => ?_
    · rcases List.mem_cons.mp h with e | h
      · subst e
        have := q k (by simp)
        rw [Int.min_eq_left this]; simp
      · rcases List.mem_cons.mp h with e | h
        · subst e
          have := q n (by simp)
          rw [Int.min_eq_right this]; simp
        · simp [h]
    · rcases List.mem_cons.mp hy with e | hy
      · subst e
        have h1 := q n (by simp)
        have h2 := q k (by simp)
        exact Int.le_min.mpr ⟨h1, h2⟩
      · exact q y (by simp [hy])
theorem maxI_of {ns : List Int} {m : Int} (h : m ∈ ns) (q : ∀ y, y ∈ ns → y ≤ m) : maxI ns = m := by
  cases ns with
  | nil => cases h
  | cons n r => exact foldl_max_mem r n m h q
theorem minI_of {ns : List Int} {m : Int} (h : m ∈ ns) (q : ∀ y, y ∈ ns → m ≤ y) : minI ns = m := by
  cases ns with
  | nil => cases h
  | cons n r => exact foldl_min_mem r n m h q
theorem alike_ints (n : Int) (ns : List Int) : PySem.W.AlikeAll ((PyData.int n) :: ns.map .int) := by
  have all : ∀ x ∈ (PyData.int n) :: ns.map .int, ∃ i, x = .int i := by
    intro x hx
    rcases List.mem_cons.mp hx with e | hx
    · exact ⟨n, e⟩
    · obtain ⟨i, _, e⟩ := List.mem_map.mp hx
      exact ⟨i, e.symm⟩
  refine ⟨fun x hx y hy => ?_, fun x hx => ?_⟩
  · obtain ⟨i, rfl⟩ := all x hx
    obtain ⟨j, rfl⟩ := all y hy
    rfl
  · obtain ⟨i, rfl⟩ := all x hx
    exact fun z => by cases z
theorem depth_ints : ∀ ns : List Int, PyData.depthAll (ns.map .int) = 0
  | [] => rfl
  | n :: ns => by simp [PyData.depthAll, PyData.depth, depth_ints ns]
theorem reads_ints {h : Heap} : ∀ {ns : List Int} {us : List Value}, Vals (ns.map V.int) us → ∃ as, ReadsAll h us (ns.map .int) as
  | [], _, r => by cases r; exact ⟨[], .nil⟩
  | n :: ns, _, r => by
    cases r with
    | cons r t =>
      obtain ⟨as, q⟩ := reads_ints t
      obtain ⟨tk, rfl⟩ := r
      exact ⟨_, .cons (.int n tk) q⟩
/-- a list or a tuple of ints, as it stands -/
theorem intSeq (vw : Vw U H) (rm : RM K M U) {d : D} {v : V} {ns : List Int} (e : (seqOf M d).bind intsOf = some ns) (h : RV K M U d v) : ∃ a, v = .ref a ∧ (SqL K H a (ns.map V.int) ∨ SqT K H a (ns.map V.int)) := by
  obtain ⟨ds, e1, e2⟩ := Option.bind_eq_some_iff.mp e
  obtain ⟨a, vs, rfl, hq, q⟩ := seqOf_at vw rm e1 h
  obtain ⟨rfl, _⟩ := RVs.ints_of e2 q
  exact ⟨a, rfl, hq⟩
theorem intLst (vw : Vw U H) (rm : RM K M U) {d : D} {v : V} {ns : List Int} (e : (lstOf M d).bind intsOf = some ns) (h : RV K M U d v) : ∃ a, v = .ref a ∧ SqL K H a (ns.map V.int) := by
  obtain ⟨ds, e1, e2⟩ := Option.bind_eq_some_iff.mp e
  obtain ⟨a, vs, rfl, hq, q⟩ := lstOf_at vw rm e1 h
  obtain ⟨rfl, _⟩ := RVs.ints_of e2 q
  exact ⟨a, rfl, hq⟩
theorem blLst (vw : Vw U H) (rm : RM K M U) {d : D} {v : V} {ns : List Bool} (e : (lstOf M d).bind blsOf = some ns) (h : RV K M U d v) : ∃ a, v = .ref a ∧ SqL K H a (ns.map V.bl) := by
  obtain ⟨ds, e1, e2⟩ := Option.bind_eq_some_iff.mp e
  obtain ⟨a, vs, rfl, hq, q⟩ := lstOf_at vw rm e1 h
  obtain ⟨rfl, _⟩ := RVs.bls_of e2 q
  exact ⟨a, rfl, hq⟩
theorem sortI_perm (ns : List Int) : (sortI ns).Perm ns := List.mergeSort_perm ns _
theorem sortI_sorted (ns : List Int) : (sortI ns).Pairwise (· ≤ ·) := by
  have h := List.pairwise_mergeSort (le := fun a b : Int => decide (a ≤ b)) (fun a b c h1 h2 => by simp only [decide_eq_true_eq] at *; omega) (fun a b => by simp only [Bool.or_eq_true, decide_eq_true_eq]; omega) ns
  exact h.imp fun h => by simpa using h
theorem sortI_of {ns ns' : List Int} (h : ns'.Perm ns) (s : ns'.Pairwise (· ≤ ·)) : ns' = sortI ns :=
  List.Perm.eq_of_pairwise (fun a b _ _ h1 h2 => Int.le_antisymm h1 h2) s (sortI_sorted ns) (h.trans (sortI_perm ns).symm)

/-- a list or a tuple: max, min, sum -/
theorem big_max (hc : X.calm = true) (hu : X.A.units + 64 < cLine) : CallR X (.builtin "max") (fun vs H Q => ∃ (a : Addr) (ns : List Int), vs = [V.ref a] ∧ (SqL X.K H a (ns.map V.int) ∨ SqT X.K H a (ns.map V.int)) ∧ ns ≠ [] ∧ Q (.int (maxI ns)) H) := by
  intro pins s σ H vs us Q I r h
  obtain ⟨a, ns, rfl, hs, hne, q⟩ := h
  rcases hs with hs | hs
  · exact cr_max hc pins s σ H _ us Q I r ⟨a, ns, rfl, hs, List.length_pos_iff.mpr hne, fun m h1 h2 => by rw [maxI_of h1 h2] at q; exact q⟩
  · obtain ⟨its, rv, ht, _⟩ := I.tuple hs
    rw [Vals.ref1 r]
    cases ns with
    | nil => exact absurd rfl hne
    | cons n ns =>
      obtain ⟨as, hr⟩ := reads_ints (h := s.heap) rv
      refine PySem.W.max_tuple_data (I.ok.hd hc) (show s.heap.IsTuple a its.toArray from ht) (by simpa using hr) (alike_ints n ns) (by have e := depth_ints (n :: ns); rw [List.map_cons] at e; rw [e]; omega) fun i v h' tk bs _ hv hk => ?_
      rw [PySem.W.maxD_ints] at hv
      cases hv with
      | int i t => exact ⟨.int _, H, I.kept hk, ⟨t, rfl⟩, q⟩
theorem big_min (hc : X.calm = true) (hu : X.A.units + 64 < cLine) : CallR X (.builtin "min") (fun vs H Q => ∃ (a : Addr) (ns : List Int), vs = [V.ref a] ∧ (SqL X.K H a (ns.map V.int) ∨ SqT X.K H a (ns.map V.int)) ∧ ns ≠ [] ∧ Q (.int (minI ns)) H) := by
  intro pins s σ H vs us Q I r h
  obtain ⟨a, ns, rfl, hs, hne, q⟩ := h
  rcases hs with hs | hs
  · exact cr_min hc pins s σ H _ us Q I r ⟨a, ns, rfl, hs, List.length_pos_iff.mpr hne, fun m h1 h2 => by rw [minI_of h1 h2] at q; exact q⟩
  · obtain ⟨its, rv, ht, _⟩ := I.tuple hs
    rw [Vals.ref1 r]
    cases ns with
    | nil => exact absurd rfl hne
    | cons n ns =>
      obtain ⟨as, hr⟩ := reads_ints (h := s.heap) rv
      refine PySem.W.min_tuple_data (I.ok.hd hc) (show s.heap.IsTuple a its.toArray from ht) (by simpa using hr) (alike_ints n ns) (by have e := depth_ints (n :: ns); rw [List.map_cons] at e; rw [e]; omega) fun i v h' tk bs _ hv hk => ?_
      rw [PySem.W.minD_ints] at hv
      cases hv with
      | int i t => exact ⟨.int _, H, I.kept hk, ⟨t, rfl⟩, q⟩
theorem big_sum (hc : X.calm = true) : CallR X (.builtin "sum") (fun vs H Q => ∃ (a : Addr) (ns : List Int), vs = [V.ref a] ∧ (SqL X.K H a (ns.map V.int) ∨ SqT X.K H a (ns.map V.int)) ∧ Q (.int ns.sum) H) := by
  intro pins s σ H vs us Q I r h
  obtain ⟨a, ns, rfl, hs, q⟩ := h
  rcases hs with hs | hs
  · exact cr_sum hc pins s σ H _ us Q I r ⟨a, ns, rfl, hs, q⟩
  · obtain ⟨its, rv, ht, _⟩ := I.tuple hs
    rw [Vals.ref1 r]
    have hi := rv.ints
    obtain ⟨xs, e⟩ := hi.allInts.items
    have hn : numsOf (intItems xs).toList = ns := by rw [← e]; exact hi.numsOf
    rw [nums_intItems] at hn
    rw [e] at ht
    refine PySem.W.ktm_sumG (I.ok.hd hc) ht fun h' tk t' hk => ?_
    have h1 : preSum (numAt xs) xs.size = ns.sum := by rw [preSum_eq, List.take_of_length_le (by simp), hn]
    rw [h1]
    exact ⟨.int _, H, I.kept hk, ⟨_, rfl⟩, q⟩
end
end Pw
set_option Elab.async false
set_option linter.all false
set_option maxRecDepth 100000
namespace Pw
open PySem PySem.Spec PyProof.Rows L2
theorem mapP_ok {K : PySem.W.Frag} {M M2 : Mp} {U : Hp} {f : D → Option (D × List Addr)} (hf : ∀ x r v, f x = some r → RV K M U x v → (∀ a ∈ r.2, M2 a = none) → RV K M2 U r.1 v) :
    ∀ {ds : List D} {r : List D × List Addr} {vs : List V}, mapP f ds = some r → RVs K M U ds vs → (∀ a ∈ r.2, M2 a = none) → RVs K M2 U r.1 vs
  | [], r, vs, e, h, _ => by
    simp only [mapP] at e
    cases e
    simp only [RVs] at h ⊢
    exact h
  | d :: ds, r, vs, e, h, hn => by
    simp only [mapP] at e
    split at e
    · rename_i y ys e1 e2
      cases e
      simp only [RVs] at h ⊢
      obtain ⟨v, q, e3, h1, h2⟩ := h
      exact ⟨v, q, e3, hf d y v e1 h1 fun a ha => hn a (by simp [ha]), mapP_ok hf e2 h2 fun a ha => hn a (by simp [ha])⟩
    · cases e
theorem mapK_ok {K : PySem.W.Frag} {M M2 : Mp} {U : Hp} {f : D → Option (D × List Addr)} (hf : ∀ x r v, f x = some r → RV K M U x v → (∀ a ∈ r.2, M2 a = none) → RV K M2 U r.1 v) :
    ∀ {ds : List (Key × D)} {r : List (Key × D) × List Addr} {vs : List (Key × V)}, mapK f ds = some r → RKs K M U ds vs → (∀ a ∈ r.2, M2 a = none) → RKs K M2 U r.1 vs
  | [], r, vs, e, h, _ => by
    simp only [mapK] at e
    cases e
    simp only [RKs] at h ⊢
    exact h
  | (k, d) :: ds, r, vs, e, h, hn => by
    simp only [mapK] at e
    split at e
    · rename_i y ys e1 e2
      cases e
      simp only [RKs] at h ⊢
      obtain ⟨v, q, e3, h1, h2⟩ := h
      exact ⟨v, q, e3, hf d y v e1 h1 fun a ha => hn a (by simp [ha]), mapK_ok hf e2 h2 fun a ha => hn a (by simp [ha])⟩
    · cases e
theorem settle_ok {K : PySem.W.Frag} {M M2 : Mp} {U : Hp} (rm : RM K M U) (s : Sub M2 M) : ∀ (n : Nat) (x : D) (r : D × List Addr) (v : V), settle M n x = some r → RV K M U x v → (∀ a ∈ r.2, M2 a = none) → RV K M2 U r.1 v
  | 0, _, _, _, e, _, _ => by simp [settle] at e
  | n + 1, x, r, v, e, h, hn => by
    unfold settle at e
    split at e
    · cases e
      exact RV.mono (Ext.sub s) rm x v h
    · split at e
      · rename_i a he
        simp only [RV] at h
        subst h
        split at e
        · rename_i ds e1
          obtain ⟨y, e2, rfl⟩ := Option.map_eq_some_iff.mp e
          obtain ⟨vs, hl, q⟩ := rm a _ e1
          simp only [RV]
          exact ⟨a, vs, rfl, hl, hn a (by simp), mapP_ok (settle_ok rm s n) e2 q fun b hb => hn b (by simp [hb])⟩
        · rename_i ds e1
          obtain ⟨y, e2, rfl⟩ := Option.map_eq_some_iff.mp e
          obtain ⟨vs, hl, q⟩ := rm a _ e1
          simp only [RV]
          exact ⟨a, vs, rfl, hl, hn a (by simp), mapK_ok (settle_ok rm s n) e2 q fun b hb => hn b (by simp [hb])⟩
        · cases e
      · rename_i ds he
        obtain ⟨y, e2, rfl⟩ := Option.map_eq_some_iff.mp e
        simp only [RV] at h ⊢
        obtain ⟨a, vs, e3, hl, q⟩ := h
        exact ⟨a, vs, e3, hl, mapP_ok (settle_ok rm s n) e2 q hn⟩
      · rename_i ds he
        obtain ⟨y, e2, rfl⟩ := Option.map_eq_some_iff.mp e
        simp only [RV] at h ⊢
        obtain ⟨a, vs, e3, hl, hm, q⟩ := h
        exact ⟨a, vs, e3, hl, (Ext.sub s a _ hl hm).2, mapP_ok (settle_ok rm s n) e2 q hn⟩
      · cases e
end Pw
set_option Elab.async false
set_option linter.all false
set_option maxRecDepth 100000
set_option maxHeartbeats 2000000
namespace Pw
open PySem PySem.Spec PyProof.Rows L2
/-! sorted of tuples of whole numbers that stand in order -/
theorem intsOf_inv : ∀ {xs : List D} {r : List Int}, intsOf xs = some r → xs = r.map D.int
  | [], r, h => by
    simp only [intsOf, Option.some.injEq] at h
    subst h; rfl
  | x :: xs, r, h => by
    simp only [intsOf] at h
    split at h
    · rename_i i is q1 q2
      cases h
      rw [intsOf_inv q2]
      cases x <;> simp [intOf] at q1
      subst q1; rfl
    · cases h
theorem tupsOf_eq : ∀ {ds : List D} {rs : List (List Int)}, tupsOf ds = some rs → ds = rs.map fun r => .tup (r.map D.int)
  | [], rs, h => by
    simp only [tupsOf, Option.some.injEq] at h
    subst h; rfl
  | d :: ds, rs, h => by
    cases d <;> simp only [tupsOf] at h <;> try cases h
    rename_i xs
    split at h
    · rename_i r rs' e1 e2
      cases h
      rw [tupsOf_eq e2]
      have : xs = r.map D.int := intsOf_inv e1
      rw [this]; rfl
    · cases h
theorem toPs_ints : ∀ {r : List Int}, toPs (r.map D.int) = r.map PyData.int
  | [] => rfl
  | i :: r => by
    have := toPs_ints (r := r)
    simp only [List.map_cons, toPs, toP, this]
theorem toPs_tups : ∀ {rs : List (List Int)}, toPs (rs.map fun r => D.tup (r.map D.int)) = rs.map fun r => PyData.tuple (r.map PyData.int)
  | [] => rfl
  | r :: rs => by
    have := toPs_tups (rs := rs)
    simp only [List.map_cons, toPs, toP, this, toPs_ints]
theorem alikeAll_ints : ∀ {a b : List Int}, a.length = b.length → W.alikeAll (a.map PyData.int) (b.map PyData.int) = true
  | [], [], _ => rfl
  | [], _ :: _, h => by simp at h
  | _ :: _, [], h => by simp at h
  | x :: a, y :: b, h => by
    have ih := alikeAll_ints (a := a) (b := b) (by simpa using h)
    show (W.alike (.int x) (.int y) && W.alikeAll (a.map PyData.int) (b.map PyData.int)) = true
    rw [ih]; rfl
theorem dataLe_tups {β : Type} (x : β → List Int) : (W.dataLe false fun b => PyData.tuple (List.map PyData.int (x b))) = fun p q => decide (x p ≤ x q) := W.dataLe_rows x
theorem each_zip {α β γ : Type} {R : γ → α → Prop} : ∀ {us : List γ} {vs : List α} {ps : List β}, W.EachIs R us vs → vs.length = ps.length → W.EachIs (fun u (b : α × β) => R u b.1) us (vs.zip ps)
  | [], [], [], _, _ => .nil
  | u :: us, v :: vs, p :: ps, h, hl => by
    cases h with
    | cons h1 h2 => exact .cons h1 (each_zip h2 (by simpa using hl))
  | [], [], _ :: _, _, hl => by simp at hl
  | u :: us, v :: vs, [], _, hl => by simp at hl
theorem each_vals : ∀ {vs : List V} {us : List Value}, Vals vs us → W.EachIs (fun u v => RelV v u) us vs
  | [], _, .nil => .nil
  | _ :: _, _, .cons r t => .cons r (each_vals t)
theorem vals_each : ∀ {vs : List V} {us : List Value}, W.EachIs (fun u v => RelV v u) us vs → Vals vs us
  | [], _, .nil => .nil
  | _ :: _, _, .cons r t => .cons r (vals_each t)
theorem each_fst {α β γ : Type} {R : γ → α → Prop} : ∀ {us : List γ} {vs : List α} {ps : List β}, vs.length = ps.length → W.EachIs (fun u (b : α × β) => R u b.1) us (vs.zip ps) → W.EachIs R us vs
  | [], [], [], _, _ => .nil
  | u :: us, v :: vs, p :: ps, hl, h => by
    cases h with
    | cons h1 h2 => exact .cons h1 (each_fst (by simpa using hl) h2)
  | _, [], _ :: _, hl, _ => by simp at hl
  | _, v :: vs, [], hl, _ => by simp at hl
  | [], v :: vs, p :: ps, _, h => by cases h
  | u :: us, [], [], _, h => by cases h
theorem each_reads {h : Heap} {α : Type} : ∀ {us : List Value} {vs : List α} {rs : List (List Int)} {as : List Addr}, vs.length = rs.length → ReadsAll h us (rs.map fun r => PyData.tuple (r.map PyData.int)) as → W.EachIs (fun u (b : α × List Int) => ∃ as, Reads h u (PyData.tuple (b.2.map PyData.int)) as) us (vs.zip rs)
  | us, vs, r :: rs, as, hl, hr => by
    rw [List.map_cons] at hr
    cases hr with
    | cons h1 h2 =>
      cases vs with
      | nil => simp at hl
      | cons v vs => exact .cons ⟨_, h1⟩ (each_reads (by simpa using hl) h2)
  | us, vs, [], as, hl, hr => by
    cases hr
    cases vs with
    | nil => exact .nil
    | cons v vs => simp at hl
theorem isDs_tups : ∀ {rs : List (List Int)}, isDs true (rs.map fun r => D.tup (r.map D.int)) 30 = true
  | [] => rfl
  | r :: rs => by
    have ih := isDs_tups (rs := rs)
    have e : ∀ {n : Nat} {r : List Int}, isDs true (r.map D.int) n = true := fun {n r} => by
      induction r with
      | nil => cases n <;> rfl
      | cons i r ih => rw [List.map_cons, isDs, ih]; cases n <;> rfl
    rw [List.map_cons, isDs, ih, Bool.and_true]
    show isD true (.tup (r.map D.int)) (29 + 1) = true
    rw [isD]; exact e
theorem zip_map_snd {α β : Type} : ∀ {vs : List α} {ps : List β}, vs.length = ps.length → (vs.zip ps).map Prod.snd = ps
  | [], [], _ => rfl
  | v :: vs, p :: ps, h => by rw [List.zip_cons_cons, List.map_cons, zip_map_snd (by simpa using h)]
  | [], _ :: _, h => by simp at h
  | _ :: _, [], h => by simp at h
section
variable {X : Cx} {pins : List (Addr × Obj)} {σ : L2.St} {s : Shared} {M : Mp} {U H : Hp} {Q : VK} {a : Addr} {vs : List V} {u : Value}
theorem call_sorted_tups (hu : X.A.units + 64 < cLine) (sd : SysD X.K) (I : L2.Inv X pins σ H s) (vw : Vw U H) (hq : SqL X.K H a vs) {rs : List (List Int)} (rv : RVs X.K M U (rs.map fun r => .tup (r.map D.int)) vs) (ru : RelV (.ref a) u)
    (hs : ascT rs) (q : ∀ p, H p = none → Q (.ref p) (upd H p (.lst vs))) : wpAny (model X.prog X.w) X.A (call (.builtin "sorted") [u]) (EP X pins σ Q) X.xe s := by
  obtain ⟨hasc, k, hk⟩ := hs
  obtain rfl : u = Value.ref a := ru
  obtain ⟨its, rvs, hl, hz⟩ := I.list hq
  obtain ⟨as, ra, _⟩ := readss_of I vw sd _ 30 vs its isDs_tups rv rvs
  rw [toPs_tups] at ra
  have hlen : vs.length = rs.length := by
    have := rv.length
    simpa using this
  have e1 : W.EachIs (fun u (b : V × List Int) => RelV b.1 u) its (vs.zip rs) := each_zip (each_vals rvs) hlen
  have e2 := each_reads (h := s.heap) hlen ra
  have hz1 : (vs.zip rs).map Prod.snd = rs := zip_map_snd hlen
  have hmem : ∀ b ∈ vs.zip rs, b.2 ∈ rs := fun b hb => by
    rw [← hz1]; exact List.mem_map.mpr ⟨b, hb, rfl⟩
  have hle : W.dataLe false (fun (b : V × List Int) => PyData.tuple (b.2.map PyData.int)) = fun p q => decide (p.2 ≤ q.2) := dataLe_tups Prod.snd
  have hsrt : (vs.zip rs).mergeSort (W.dataLe false (fun (b : V × List Int) => PyData.tuple (b.2.map PyData.int))) = vs.zip rs := by
    refine List.mergeSort_of_pairwise ?_
    rw [hle]
    have : ((vs.zip rs).map Prod.snd).Pairwise (fun a b => a ≤ b) := by rw [hz1]; exact hasc
    rw [List.pairwise_map] at this
    exact this.imp fun {a b} hab => by simpa using hab
  refine W.sorted_data (s := s) (vs := its) (bs := vs.zip rs) (enc := fun b => PyData.tuple (b.2.map PyData.int)) (R := fun u b => RelV b.1 u) hl.isList e1 e2 ?_ ?_ ?_ ?_ ?_
  · intro d hd d' hd'
    obtain ⟨b, hb, rfl⟩ := List.mem_map.mp hd
    obtain ⟨b', hb', rfl⟩ := List.mem_map.mp hd'
    exact alikeAll_ints (by rw [hk _ (hmem b hb), hk _ (hmem b' hb')])
  · left
    intro d hd
    obtain ⟨b, hb, rfl⟩ := List.mem_map.mp hd
    have := hk _ (hmem b hb)
    cases hb2 : b.2 with
    | nil => rw [hb2] at this; simp at this
    | cons x r => exact ⟨_, _, rfl⟩
  · have := hz
    simp [hlen] at this ⊢
    exact this
  · intro b hb
    have e : PyData.depth (PyData.tuple (b.2.map PyData.int)) = PyData.depthAll (b.2.map PyData.int) + 1 := by simp [PyData.depth]
    rw [e, depth_ints]
    omega
  · intro out hol hout
    rw [hsrt] at hout
    have ho : Vals vs out := vals_each (each_fst hlen hout)
    obtain ⟨ep, he⟩ := PyProof.Rows.sortedAll_at s.heap its out.toArray
    exact ⟨.ref (s.heap.objs.size + 1), upd H (s.heap.objs.size + 1) (.lst vs), I.laid (fun _ _ => PyProof.Rows.sortedAll_old) (Nat.le_succ _) ⟨hz, out, ep, ho, he⟩, rfl, q _ (I.hok.fresh (Nat.le_succ _))⟩
end
theorem sorted_tup_raw {prog : Program} {w : World} {A : Around} {E : Value → Shared → Prop} {s : Shared} {l : Addr} {vs : List Value} {ns : List Int} {Q : Value → Shared → Prop}
    (ht : s.heap.IsTuple l vs.toArray) (hi : IntsAre vs ns) (hz : vs.length ≤ sizeLine)
    (q : ∀ (h1 h' : Heap) (a : Addr) (e : Nat) (out : List Value), (∀ (b : Addr) (o : Obj), s.heap.get? b = some o → h1.get? b = some o) → h1.objs.size ≤ a → h'.get? a = some (seqObj "list" out.toArray e) → (∀ (b : Addr) (o : Obj), h1.get? b = some o → h'.get? b = some o) →
      IntsAre out (out.map SrtO.iv) → (out.map SrtO.iv).Perm ns → (out.map SrtO.iv).Pairwise (· ≤ ·) → Q (.ref a) { heap := h', gens := s.gens, drawn := s.drawn, toks := s.toks, os := s.os }) :
    wpAny (model prog w) A (call (.builtin "sorted") [.ref l]) Q E s := by
  obtain ⟨o, ho, hc, n, hd⟩ := ht
  refine call_function_entry_kw kind_sorted plain_sorted entry_sorted (args_sorted1 _) ?_
  refine wpAny_bind (wpAny_pure ?_)
  refine wpAny_bind (wpAny_collect_seq l (.inr rfl) ho hc hd (fun h1 hk1 => ?_) (by simpa using hz))
  refine wpAny_bind (wpAny_newList ?_ (by simpa using hz))
  have ha : (h1.push { cls := Value.type "list", data := Data.seq vs.toArray.toList.toArray }).get? h1.objs.size = some (seqObj "list" vs.toArray 0) := by
    rw [Heap.get?_push_size _ rfl]
  refine wpAny_bind (wpAny_holding (wpAny_call_entry_kw slot_list_sort ⟨_, ha, rfl⟩ entry_list_sort (wpAny_mono (SrtO.list_sort_ord (E := E) (R := fun f s' => f = Fin.done (Flow.ret Value.none) ∧ wpAny (model prog w) A.in1 (ret (Value.ref h1.objs.size)) (fun fin s' => ∃ v, fin = Fin.done (Flow.ret v) ∧ Q v s') E s') SrtO.swo_int ha hz (fun h2 => SrtO.ints_sortable hi h2) ?_) ?_ ?_) (args_list_sort _)))
  · intro out k1 k2
    obtain ⟨g1, g2, g3⟩ := SrtO.ints_out hi k1 k2
    refine ⟨rfl, wpAny_pure ⟨_, rfl, ?_⟩⟩
    obtain ⟨e, he⟩ := sortedHeap_at (out := out.toArray) ha
    refine q h1 _ h1.objs.size e out hk1 (Nat.le_refl _) he (fun b o hb => ?_) g1 g2 g3
    have hbl := Heap.lt_size hb
    have hsz : (h1.push { cls := Value.type "list", data := Data.seq vs.toArray.toList.toArray }).objs.size = h1.objs.size + 1 := by simp [Heap.push]
    rw [sortedHeap_old (Nat.ne_of_lt hbl) (by rw [hsz]; exact Nat.lt_succ_of_lt hbl)]
    exact Heap.get?_push_of_some _ hb
  · intro f s' hf
    obtain ⟨rfl, hq⟩ := hf
    exact ⟨_, rfl, hq⟩
  · exact fun e s' he => he
section
variable {X : Cx} {pins : List (Addr × Obj)} {σ : L2.St} {s : Shared} {H : Hp} {Q : VK} {a : Addr} {u : Value}
theorem call_sorted_tupI (I : L2.Inv X pins σ H s) {ns : List Int} (hq : SqT X.K H a (ns.map V.int)) (ru : RelV (.ref a) u)
    (q : ∀ (ns' : List Int) (p : Addr), ns'.Perm ns → ns'.Pairwise (· ≤ ·) → H p = none → Q (.ref p) (upd H p (.lst (ns'.map V.int)))) : wpAny (model X.prog X.w) X.A (call (.builtin "sorted") [u]) (EP X pins σ Q) X.xe s := by
  obtain rfl : u = Value.ref a := ru
  obtain ⟨its, rvs, ht, hz⟩ := I.tuple hq
  have hz' : its.length ≤ sizeLine := by rw [← rvs.length]; exact hz
  refine sorted_tup_raw ht rvs.ints hz' fun h1 h' a e out hk1 hal he hk g1 g2 g3 => ?_
  have I1 := I.kept (t' := s.toks) hk1
  have hlen : ((out.map SrtO.iv).map V.int).length ≤ sizeLine := by
    have := g2.length_eq
    simp only [List.length_map] at this hz ⊢
    omega
  exact ⟨.ref a, upd H a (.lst ((out.map SrtO.iv).map V.int)), I1.laid (fun b o hb => hk b o hb) hal ⟨hlen, out, e, vals_of_ints g1, he⟩, rfl, q _ _ g2 g3 (I1.hok.fresh hal)⟩
end
end Pw
set_option Elab.async false
set_option linter.all false
set_option maxRecDepth 100000
namespace Pw
open PySem PySem.Spec PyProof.Rows L2

def BF.val : BF → Value
  | .int => .type "int" | .str => .type "str" | .list => .type "list" | .tuple => .type "tuple"
  | f => .builtin f.nm
section
variable {X : Cx} {K : PySem.W.Frag} {M : Mp} {U H : Hp}
theorem call_repr_data (hg : X.A.guards = some []) (hu : X.A.units + 64 < cLine) (sd : SysD X.K) {pins : List (Addr × Obj)} {σ : L2.St} {s : Shared} {M : Mp} {U H : Hp} {d : D} {v : V} {u : Value} {Q : VK} (I : Inv X pins σ H s) (vw : Vw U H) (rm : RM X.K M U) (h : RV X.K M U d v) (r : RelV v u)
    (e : isD true (see M d) 30 = true) (sh : (toP (see M d)).showable = true) (hz : (toP (see M d)).shown.length ≤ LIM) (q : Q (.str (toP (see M d)).shown) H) : wpAny (model X.prog X.w) X.A (call (.builtin "repr") [u]) (EP X pins σ Q) X.xe s := by
  obtain ⟨as, rd, ns⟩ := reads_see I vw sd rm e h r
  have dp := depth_of _ _ e
  rw [← lineLIM] at hz
  generalize toP (see M d) = D at *
  have fin : ∀ t h' tk, (∀ b o, s.heap.get? b = some o → h'.get? b = some o) → EP X pins σ Q (.str D.shown t) { s with heap := h', toks := tk } := fun t h' tk hk => ⟨.str D.shown, H, I.kept hk, ⟨t, rfl⟩, q⟩
  have tk1 : ∀ t, EP X pins σ Q (.str D.shown t) { s with toks := s.toks + 1 } := fun t => ⟨.str D.shown, H, I.tok _, ⟨t, rfl⟩, q⟩
  cases rd with
  | none => exact PySem.P.repr_of_none (tk1 _)
  | bool b => exact PySem.P.repr_of_bool (tk1 _)
  | int i t => exact PySem.P.repr_of_int (by simpa [PyData.showable] using sh) (tk1 _)
  | str x t => exact PySem.P.repr_of_str (tk1 _) hz
  | list h1 h2 h3 h4 => exact repr_of_reads' (.list h1 h2 h3 h4) sh (fun _ => ns) hg (by omega) (fun _ _ z => z) (fun h' t tk hk => fin t h' tk hk) hz
  | tuple h1 h2 h3 h4 => exact repr_of_reads' (.tuple h1 h2 h3 h4) sh (fun _ => ns) hg (by omega) (fun _ _ z => z) (fun h' t tk hk => fin t h' tk hk) hz
  | dict h1 h2 h3 h4 h5 => exact repr_of_reads' (.dict h1 h2 h3 h4 h5) sh (fun _ => ns) hg (by omega) (fun _ _ z => z) (fun h' t tk hk => fin t h' tk hk) hz
theorem bf_ok (hc : X.calm = true) (hg : X.A.guards = some []) (hu : X.A.units + 64 < cLine) (sd : SysD X.K) (m : Bool) (f : BF) : CallR X f.val (rBf X.K m f) := by
  intro pins s σ H vs us Q I r h
  obtain ⟨U, M, ds, R, vw, rm, rv, hf, out⟩ := h
  unfold bfn at hf
  split at hf
  · -- len
    obtain ⟨v, rfl, q⟩ := rv.one_of
    split at hf
    · rename_i zs e
      have e' := see_tup e
      subst e'
      simp only [RV] at q
      obtain ⟨a, vs, rfl, hq, q⟩ := q
      exact call_len_seq pins s σ H _ us Q I r ⟨a, vs, rfl, .inr (vw.sqT hq), by rw [q.length]; exact out.int vw rm hf⟩
    · rename_i zs e
      obtain ⟨a, vs, rfl, hq, q⟩ := lstM_at vw rm (see_lst e) q
      exact call_len_seq pins s σ H _ us Q I r ⟨a, vs, rfl, .inl (.of hq), by rw [q.length]; exact out.int vw rm hf⟩
    · rename_i zs e
      have e' := see_scr e
      subst e'
      simp only [RV] at q
      obtain ⟨a, vs, rfl, hq, q⟩ := q
      exact call_len_seq pins s σ H _ us Q I r ⟨a, vs, rfl, .inl (vw.sqS hq).sq, by rw [q.length]; exact out.int vw rm hf⟩
    · rename_i z e
      have e' := see_str e
      subst e'
      simp only [RV] at q
      subst q
      exact call_len_str pins s σ H _ us Q I r ⟨z, rfl, by rw [lineLIM]; exact hf.1, out.int vw rm hf.2⟩
    · rename_i kvs e
      obtain ⟨a, us', rfl, hq, q⟩ := see_dic vw rm e q
      refine call_lenD pins s σ H _ us Q I r ⟨a, us', rfl, hq, ?_⟩
      rw [q.length]; exact out.int vw rm hf
    · exact hf.elim
  · -- max 2
    obtain ⟨v, v', rfl, q, q'⟩ := rv.two_of
    simp only [RV] at q q'
    subst q q'
    exact call_max2 hc pins s σ H _ us Q I r ⟨_, _, rfl, out.int vw rm hf⟩
  · obtain ⟨v, v', rfl, q, q'⟩ := rv.two_of
    simp only [RV] at q q'
    subst q q'
    exact call_min2 hc pins s σ H _ us Q I r ⟨_, _, rfl, out.int vw rm hf⟩
  · -- max of a sequence
    obtain ⟨v, rfl, q⟩ := rv.one_of
    split at hf
    · rename_i ns e
      obtain ⟨a, rfl, hq⟩ := intSeq vw rm e q
      exact big_max hc hu pins s σ H _ us Q I r ⟨a, ns, rfl, hq, hf.1, out.int vw rm hf.2⟩
    · exact hf.elim
  · obtain ⟨v, rfl, q⟩ := rv.one_of
    split at hf
    · rename_i ns e
      obtain ⟨a, rfl, hq⟩ := intSeq vw rm e q
      exact big_min hc hu pins s σ H _ us Q I r ⟨a, ns, rfl, hq, hf.1, out.int vw rm hf.2⟩
    · exact hf.elim
  · obtain ⟨v, rfl, q⟩ := rv.one_of
    split at hf
    · rename_i ns e
      obtain ⟨a, rfl, hq⟩ := intSeq vw rm e q
      exact big_sum hc pins s σ H _ us Q I r ⟨a, ns, rfl, hq, out.int vw rm hf⟩
    · exact hf.elim
  · -- all
    obtain ⟨v, rfl, q⟩ := rv.one_of
    split at hf
    · rename_i bs e
      obtain ⟨a, rfl, hq⟩ := blLst vw rm e q
      exact cr_all hc pins s σ H _ us Q I r ⟨a, bs, rfl, hq, out.bl vw rm hf⟩
    · exact hf.elim
  · obtain ⟨v, rfl, q⟩ := rv.one_of
    split at hf
    · rename_i bs e
      obtain ⟨a, rfl, hq⟩ := blLst vw rm e q
      exact cr_any hc pins s σ H _ us Q I r ⟨a, bs, rfl, hq, out.bl vw rm hf⟩
    · exact hf.elim
  · -- abs
    obtain ⟨v, rfl, q⟩ := rv.one_of
    simp only [RV] at q
    subst q
    exact call_abs pins s σ H _ us Q I r ⟨_, rfl, out.int vw rm hf⟩
  · -- int
    obtain ⟨v, rfl, q⟩ := rv.one_of
    simp only [RV] at q
    subst q
    exact call_int1 pins s σ H _ us Q I r (.inl ⟨_, rfl, out.int vw rm hf⟩)
  · obtain ⟨v, rfl, q⟩ := rv.one_of
    simp only [RV] at q
    subst q
    exact call_int1 pins s σ H _ us Q I r (.inr ⟨_, rfl, out.int vw rm hf⟩)
  · -- str
    obtain ⟨v, rfl, q⟩ := rv.one_of
    simp only [RV] at q
    subst q
    exact call_str_int pins s σ H _ us Q I r ⟨_, rfl, hf.1, out.str vw rm hf.2⟩
  · -- repr
    obtain ⟨v, rfl, q⟩ := rv.one_of
    obtain ⟨u, rfl, ru⟩ := Vals.one r
    obtain ⟨y, hy, f1, f2, f3, f4⟩ := hf
    rcases hy with rfl | ⟨l, hl⟩
    · exact call_repr_data hg hu sd I vw rm q ru f1 f2 f3 (out.str vw rm f4)
    · have rm0 : RM X.K (fun _ => none) U := fun a o e => by cases e
      have q0 := settle_ok (M2 := fun _ => none) rm (fun a o e => by cases e) 8 _ _ _ hl q (fun _ _ => rfl)
      have e0 : see (fun _ => none) y = y := by
        cases y <;> simp [isD] at f1 <;> rfl
      exact call_repr_data (M := fun _ => none) (d := y) hg hu sd I vw rm0 q0 ru (by rw [e0]; exact f1) (by rw [e0]; exact f2) (by rw [e0]; exact f3) (by rw [e0]; exact out.str vw rm f4)
  · -- sorted
    obtain ⟨v, rfl, q⟩ := rv.one_of
    split at hf
    · rename_i ns e
      obtain ⟨a, rfl, hq⟩ := intLst vw rm e q
      refine cr_sortedI pins s σ H _ us Q I r ⟨a, ns, rfl, hq, fun ns' p hp hs hn => ?_⟩
      have e' := sortI_of hp hs
      subst e'
      exact out.lst vw rm RVs.ints hf hn
    · unfold sortT at hf
      split at hf
      · rename_i rs e
        obtain ⟨ds, e0, e1⟩ := Option.bind_eq_some_iff.mp e
        have e2 := tupsOf_eq e1
        subst e2
        obtain ⟨a, vs, rfl, hq, q2⟩ := lstOf_at vw rm e0 q
        obtain ⟨u, rfl, ru⟩ := Vals.one r
        exact call_sorted_tups hu sd I vw hq q2 ru hf.1 fun p hp => out.lst vw rm q2 hf.2 hp
      · split at hf
        · rename_i ds
          split at hf
          · rename_i ns e
            simp only [RV] at q
            obtain ⟨a, vs, rfl, hq, q2⟩ := q
            obtain ⟨rfl, rfl⟩ := RVs.ints_of e q2
            obtain ⟨u, rfl, ru⟩ := Vals.one r
            refine call_sorted_tupI I (vw.sqT hq) ru fun ns' p hp hs hn => ?_
            have e' := sortI_of hp hs
            subst e'
            exact out.lst vw rm RVs.ints hf hn
          · exact hf.elim
        · exact hf.elim
  · -- divmod
    obtain ⟨v, v', rfl, q, q'⟩ := rv.two_of
    simp only [RV] at q q'
    subst q q'
    exact call_divmodF pins s σ H _ us Q I r ⟨_, _, rfl, ⟨hf.1.1, divOk_log hf.1⟩, out.tup vw rm (ds := [.int _, .int _]) (by simp [RVs, RV]) hf.2⟩
  · exact hf.elim
end
end Pw
set_option Elab.async false
set_option linter.all false
set_option maxRecDepth 100000
namespace Pw
open PySem PySem.Spec PyProof.Rows L2

def MK.ty : MK → String
  | .lst => "list" | .tup => "tuple" | .dic => "dict" | .str => "str"
/-- the method's own name, among the built-in ones -/
def mid (k : MK) (f : MF) : String := k.ty ++ "." ++ f.nm
/-- by values: a method -/
def rMt (K : PySem.W.Frag) (m : Bool) (k : MK) (f : MF) : V → List V → Hp → VK → Prop := fun x vs H Q => ∃ U M d ds R, Vw U H ∧ RM K M U ∧ RV K M U d x ∧ RVs K M U ds vs ∧ mth m k f d ds M R ∧ Out K M U H R Q
section
variable {X : Cx} {K : PySem.W.Frag} {M : Mp} {U H : Hp}
theorem onL_at (vw : Vw U H) (rm : RM K M U) {o : D} {x : V} {g : Addr → List D → Prop} (h : RV K M U o x) (q : onL o M g) : ∃ a ds vs, x = .ref a ∧ M a = some (.lst ds) ∧ H a = some (.lst vs) ∧ RVs K M U ds vs ∧ g a ds := by
  unfold onL at q
  split at q
  · rename_i a
    split at q
    · rename_i ds e
      simp only [RV] at h
      obtain ⟨vs, hl, rv⟩ := rm a _ e
      exact ⟨a, ds, vs, h, e, vw _ _ hl, rv, q⟩
    · exact q.elim
  · exact q.elim
theorem onDW_at (vw : Vw U H) (rm : RM K M U) {o : D} {x : V} {g : Addr → List (Key × D) → Prop} (h : RV K M U o x) (q : onDW o M g) : ∃ a ds vs, x = .ref a ∧ M a = some (.dic ds) ∧ H a = some (.dK vs) ∧ RKs K M U ds vs ∧ g a ds := by
  unfold onDW at q
  split at q
  · rename_i a
    split at q
    · rename_i ds e
      simp only [RV] at h
      obtain ⟨vs, hl, rv⟩ := rm a _ e
      exact ⟨a, ds, vs, h, e, vw _ _ hl, rv, q⟩
    · exact q.elim
  · exact q.elim
theorem onD_at (vw : Vw U H) (rm : RM K M U) {o : D} {x : V} {g : List (Key × D) → Prop} (h : RV K M U o x) (q : onD o M g) : ∃ a us, x = .ref a ∧ H a = some (.dK us) ∧ ∃ kvs, RKs K M U kvs us ∧ g kvs := by
  unfold onD at q
  split at q
  · rename_i kvs e
    obtain ⟨a, us, e1, e2, e3⟩ := see_dic vw rm e h
    exact ⟨a, us, e1, e2, kvs, e3, q⟩
  · exact q.elim
/-- a list of ours is written -/
theorem Out.wr (o : Out K M U H R Q) (vw : Vw U H) (r : RM K M U) {a : Addr} {ds es : List D} {vs : List V} {d : D} {v : V} (hm : M a = some (.lst ds)) (q : RVs K M U es vs) (h : R d (up M a (.lst es))) (hd : RV K M U d v) : Q v (upd H a (.lst vs)) :=
  let ⟨_, hv, _⟩ := r a _ hm
  o d (up M a (.lst es)) v _ _ (Ext.wr hm) (Kp.wr vw hv) (r.wr hm ⟨vs, upd_same, RVs.mono (Ext.wr hm) r es vs q⟩) (RV.mono (Ext.wr hm) r d v hd) h
theorem Out.wrD (o : Out K M U H R Q) (vw : Vw U H) (r : RM K M U) {a : Addr} {ds es : List (Key × D)} {vs : List (Key × V)} {d : D} {v : V} (hm : M a = some (.dic ds)) (q : RKs K M U es vs) (h : R d (up M a (.dic es))) (hd : RV K M U d v) : Q v (upd H a (.dK vs)) :=
  let ⟨_, hv, _⟩ := r a _ hm
  o d (up M a (.dic es)) v _ _ (Ext.wr hm) (Kp.wr vw hv) (r.wr hm ⟨vs, upd_same, RKs.mono (Ext.wr hm) r es vs q⟩) (RV.mono (Ext.wr hm) r d v hd) h
theorem rvNon : RV K M U .non V.non := by simp only [RV]
theorem RVs.last_at {ds : List D} {vs : List V} {y : D} (h : RVs K M U ds vs) (e : ds[ds.length - 1]? = some y) : ∃ v, vs[vs.length - 1]? = some v ∧ RV K M U y v := by
  rw [h.length]; exact h.get e
theorem ixAt_seq {n : Nat} {i : Int} {k : Nat} (e : ixAt n i = some k) : seqIndex? i n = some k := (ixN_seq e).1
theorem mapSeq_erase (its : List Value) (n j : Nat) : ∃ n', Obj.mapSeq (fun ys => ys.eraseIdxIfInBounds j) { cls := .type "list", data := .seq its.toArray n } = { cls := .type "list", data := .seq (its.eraseIdx j).toArray n' } := by
  have e : its.toArray.eraseIdxIfInBounds j = (its.eraseIdx j).toArray := by
    rw [Array.eraseIdxIfInBounds]
    split
    · simp
    · rename_i hj
      rw [List.eraseIdx_of_length_le (by simpa using hj)]
  refine ⟨if (its.eraseIdx j).length = its.length then n else n + 1, ?_⟩
  simp [Obj.mapSeq, e]
theorem RVs.strs_of : ∀ {ds : List D} {vs : List V} {ns : List Str}, strsOf ds = some ns → RVs K M U ds vs → vs = ns.map V.str
  | [], vs, ns, e, h => by
    simp only [RVs] at h
    simp only [strsOf] at e; cases e; exact h
  | d :: ds, vs, ns, e, h => by
    simp only [RVs] at h
    obtain ⟨v, q, e', h1, h2⟩ := h
    cases d <;> simp only [strsOf] at e <;> try cases e
    split at e
    · rename_i is eis
      cases e
      have r1 := RVs.strs_of eis h2
      simp only [RV] at h1
      subst h1; subst e'
      rw [r1]; rfl
    · cases e
theorem RVs.strs : ∀ {ns : List Str}, RVs K M U (ns.map D.str) (ns.map V.str)
  | [] => by simp [RVs]
  | n :: ns => by
    simp only [List.map_cons, RVs]
    exact ⟨_, _, rfl, by simp [RV], RVs.strs⟩
theorem keyOf_kV {d : D} {k : Key} {v : V} (e : keyOf d = some k) (h : RV K M U d v) : v = kV k := by
  cases d <;> simp only [keyOf] at e <;> first
    | (cases e; simp only [RV] at h; exact h)
    | cases e
theorem intTup {d : D} {v : V} {ns : List Int} (e : (match d with
    | .tup ds => intsOf ds
    | _ => none) = some ns) (vw : Vw U H) (h : RV K M U d v) : ∃ a, v = .ref a ∧ SqT K H a (ns.map V.int) := by
  split at e
  · simp only [RV] at h
    obtain ⟨a, vs, rfl, hq, q⟩ := h
    obtain ⟨rfl, _⟩ := RVs.ints_of e q
    exact ⟨a, rfl, vw.sqT hq⟩
  · cases e
theorem toPs_place (x : D) (ys : List D) : PySem.SeqAt.dataPlace (toPs ys) (toP x) = placeD x ys := by
  unfold PySem.SeqAt.dataPlace placeD
  induction ys with
  | nil => rfl
  | cons y ys ih =>
    simp only [toPs, List.findIdx?_cons, ih, eqD]
theorem toPs_count (x : D) (ys : List D) : ((toPs ys).countP fun y => PyData.eqv y (toP x)) = countD x ys := by
  unfold countD
  induction ys with
  | nil => rfl
  | cons y ys ih =>
    simp only [toPs, List.countP_cons, ih, eqD]
/-- items and a value that are data -/
theorem mem_reads (hu : X.A.units + 64 < cLine) (sd : SysD X.K) {pins : List (Addr × Obj)} {σ : L2.St} {s : Shared} {a : D} {ys : List D} {x : V} {v : Value} {vs : List V} {us : List Value} {M : Mp} {U H : Hp} (I : Inv X pins σ H s) (vw : Vw U H) (rm : RM X.K M U) (ra : RV X.K M U a x) (rx : RelV x v)
    (rb : RVs X.K M U ys vs) (ry : Vals vs us) (e : memOk (see M a) ys = true) : ∃ as bs, Reads s.heap v (toP (see M a)) as ∧ ReadsAll s.heap us (toPs ys) bs ∧ (toP (see M a)).plain = true ∧ PyData.plainAll (toPs ys) = true ∧ X.A.units + 1 + min (PyData.depthAll (toPs ys)) (toP (see M a)).depth < cLine := by
  simp only [memOk, Bool.and_eq_true] at e
  have e2 := isDs_mono _ _ e.2
  obtain ⟨as, r1, _⟩ := reads_see I vw sd rm (isD_mono _ _ e.1) ra rx
  obtain ⟨bs, r2, _⟩ := readss_of I vw sd ys 30 vs us e2 rb ry
  have d1 := depth_of _ _ (isD_mono _ _ e.1)
  exact ⟨as, bs, r1, r2, plain_of _ _ e.1, plains_of _ _ e.2, by omega⟩
section
open PySem.SeqAt
variable {prog : Program} {w : World} {A : Around} {E : Value → Shared → Prop} {s : Shared} {l : Addr} {vs : Array Value} {xs : List PyData} {x : Value} {d : PyData} {as bs : List Addr} {Q : Value → Shared → Prop}
theorem index_list_data {j : Nat} (hl : s.heap.IsList l vs) (rs : ReadsAll s.heap vs.toList xs as) (rx : Reads s.heap x d bs) (hxs : PyData.plainAll xs = true) (hd : d.plain = true) (hu : A.units + 1 + min (PyData.depthAll xs) d.depth < cLine)
    (hp : dataPlace xs d = some j) (hsz : vs.size < 2 ^ 63 - 1) (h : Q (.int (j : Nat) s.toks) { s with toks := s.toks + 1 }) : wpAny (model prog w) A (call (.builtin "list.index") [.ref l, x]) Q E s := by
  obtain ⟨⟨cls, dd, data, sl⟩, ho, hc, n, hd'⟩ := id hl
  simp only at hc hd'
  subst hc hd'
  obtain ⟨hj, hit, hno⟩ := hit_at rs hxs hp
  exact call_meets PySem.F.slot_list_index ⟨_, ho, rfl⟩ PySem.F.entry_list_index (PySem.F.args_list_index_2 _ _) (list_indexAt l vs n dd sl x _ j hj (by omega) hit hno) ⟨ho, items_plain rs rx hxs hd hu, h⟩
end
theorem mt_ok (hu : X.A.units + 64 < cLine) (sd : SysD X.K) (m : Bool) (k : MK) (f : MF) : MtR X (mid k f) (rMt X.K m k f) := by
  intro pins s σ H x vs v us Q I rx rs h
  obtain ⟨U, M, d, ds, R, vw, rm, rd, rv, hf, out⟩ := h
  unfold mth at hf
  split at hf
  · -- append
    obtain ⟨a, es, ws, rfl, hm, hl, rw', hz, q⟩ := onL_at vw rm rd hf
    obtain ⟨y, rfl, ry⟩ := rv.one_of
    exact mt_append pins s σ H _ _ v us Q I rx rs ⟨a, ws, y, rfl, rfl, hl, by rw [rw'.length, lineLIM]; exact hz, out.wr vw rm hm (rw'.app (.one ry)) q rvNon⟩
  · -- pop
    obtain ⟨a, es, ws, rfl, hm, hl, rw', q⟩ := onL_at vw rm rd hf
    simp only [RVs] at rv
    subst rv
    split at q
    · rename_i y e
      obtain ⟨w, e', ry⟩ := rw'.last_at e
      exact mt_pop pins s σ H _ _ v us Q I rx rs ⟨a, ws, w, rfl, rfl, hl, e', out.wr vw rm hm rw'.last q ry⟩
    · exact q.elim
  · obtain ⟨a, es, ws, rfl, hm, hl, rw', q⟩ := onL_at vw rm rd hf
    obtain ⟨y, rfl, ry⟩ := rv.one_of
    simp only [RV] at ry
    subst ry
    split at q
    · rename_i k e
      split at q
      · rename_i y e1
        obtain ⟨w, e', ry⟩ := rw'.get e1
        obtain ⟨q1, q2, q3⟩ := q
        exact mt_popAt pins s σ H _ _ v us Q I rx rs ⟨a, ws, _, k, w, rfl, rfl, hl, by omega, by omega, by rw [rw'.length]; exact ixAt_seq e, e', out.wr vw rm hm (rw'.erase k) q3 ry⟩
      · exact q.elim
    · exact q.elim
  · -- insert
    obtain ⟨a, es, ws, rfl, hm, hl, rw', q1, q2, q3, q4⟩ := onL_at vw rm rd hf
    obtain ⟨y, y', rfl, ry, ry'⟩ := rv.two_of
    simp only [RV] at ry
    subst ry
    exact mt_insert pins s σ H _ _ v us Q I rx rs ⟨a, ws, _, y', rfl, rfl, hl, by rw [rw'.length, lineLIM]; exact q3, q1, by omega, out.wr vw rm hm (((rw'.take _).app (.one ry')).app (rw'.drop _)) q4 rvNon⟩
  · -- extend
    obtain ⟨a, es, ws, rfl, hm, hl, rw', q⟩ := onL_at vw rm rd hf
    obtain ⟨y, rfl, ry⟩ := rv.one_of
    split at q
    · rename_i fs e
      obtain ⟨b, zs, rfl, hb, rz⟩ := lstM_at vw rm e ry
      exact mt_extend pins s σ H _ _ v us Q I rx rs ⟨a, b, ws, zs, rfl, rfl, hl, hb, by rw [rw'.length, rz.length, lineLIM]; exact q.1, out.wr vw rm hm (rw'.app rz) q.2 rvNon⟩
    · exact q.elim
  · -- clear
    obtain ⟨a, es, ws, rfl, hm, hl, rw', q⟩ := onL_at vw rm rd hf
    simp only [RVs] at rv
    subst rv
    exact mt_clear pins s σ H _ _ v us Q I rx rs ⟨a, ws, rfl, rfl, hl, out.wr vw rm hm (by simp [RVs]) q rvNon⟩
  · -- reverse
    obtain ⟨a, es, ws, rfl, hm, hl, rw', q⟩ := onL_at vw rm rd hf
    simp only [RVs] at rv
    subst rv
    exact mt_reverse pins s σ H _ _ v us Q I rx rs ⟨a, ws, rfl, rfl, hl, out.wr vw rm hm rw'.rev q rvNon⟩
  · -- remove
    obtain ⟨a, es, ws, rfl, hm, hl, rw', q1, q⟩ := onL_at vw rm rd hf
    obtain ⟨y, rfl, ry⟩ := rv.one_of
    split at q
    · rename_i j e
      cases rx
      obtain ⟨u, rfl, ru⟩ := Vals.one rs
      obtain ⟨its, n, rvl, ho, hz⟩ := I.lst hl
      obtain ⟨as, bs, r1, r2, p1, p2, hd⟩ := mem_reads hu sd I vw rm ry ru rw' rvl q1
      have hlen := rvl.length
      refine PySem.SeqAt.remove_list_data (vs := its.toArray) (j := j) ⟨_, ho, rfl, n, rfl⟩ (by simpa using r2) r1 p2 p1 hd (by rw [toPs_place]; exact e) (by rw [List.size_toArray]; omega) ?_
      refine ⟨.non, upd H a (.lst (ws.eraseIdx j)), ?_, rfl, out.wr vw rm hm (rw'.erase j) q rvNon⟩
      obtain ⟨n', en⟩ := mapSeq_erase its n j
      exact I.lstUpd (its' := its.eraseIdx j) (n' := n') hl ho en (rvl.eraseIdx j) (Nat.le_trans (len_erase ws j) hz) s.toks
    · exact q.elim
  · -- count
    obtain ⟨y, rfl, ry⟩ := rv.one_of
    split at hf
    · rename_i es e
      obtain ⟨a, ws, rfl, hl, rw'⟩ := lstM_at vw rm e rd
      cases rx
      obtain ⟨u, rfl, ru⟩ := Vals.one rs
      obtain ⟨its, rvl, ht, hz⟩ := I.list (.of hl)
      obtain ⟨as, bs, r1, r2, p1, p2, hd⟩ := mem_reads hu sd I vw rm ry ru rw' rvl hf.1
      refine PySem.SeqAt.count_list_data ht.isList (by simpa using r2) r1 p2 p1 hd ?_
      rw [toPs_count]
      exact ⟨.int _, H, I.tok _, ⟨_, rfl⟩, out.int vw rm hf.2⟩
    · exact hf.elim
  · obtain ⟨y, rfl, ry⟩ := rv.one_of
    split at hf
    · rename_i es
      simp only [RV] at rd
      obtain ⟨a, ws, rfl, hl, rw'⟩ := rd
      cases rx
      obtain ⟨u, rfl, ru⟩ := Vals.one rs
      obtain ⟨its, rvl, ht, hz⟩ := I.tuple (vw.sqT hl)
      obtain ⟨as, bs, r1, r2, p1, p2, hd⟩ := mem_reads hu sd I vw rm ry ru rw' rvl hf.1
      refine PySem.SeqAt.count_tuple_data (show s.heap.IsTuple a its.toArray from ht) (by simpa using r2) r1 p2 p1 hd ?_
      rw [toPs_count]
      exact ⟨.int _, H, I.tok _, ⟨_, rfl⟩, out.int vw rm hf.2⟩
    · exact hf.elim
  · -- index
    obtain ⟨y, rfl, ry⟩ := rv.one_of
    simp only [RV] at ry
    subst ry
    split at hf
    · rename_i ns e
      obtain ⟨a, rfl, hq⟩ := intLst vw rm e rd
      cases rx
      obtain ⟨u, rfl, ru⟩ := Vals.one rs
      obtain ⟨t, rfl⟩ := ru
      obtain ⟨its, rvl, ht, hz⟩ := I.list hq
      exact PySem.SeqAt.list_index_ints ht.isList rvl.ints (by simpa using hz) hf.1 ⟨.int _, H, I.tok _, ⟨_, rfl⟩, out.int vw rm hf.2⟩
    · exact hf.elim
  · obtain ⟨y, rfl, ry⟩ := rv.one_of
    split at hf
    · rename_i es e
      obtain ⟨a, ws, rfl, hl, rw'⟩ := lstM_at vw rm e rd
      obtain ⟨q1, hf⟩ := hf
      split at hf
      · rename_i j ej
        cases rx
        obtain ⟨u, rfl, ru⟩ := Vals.one rs
        obtain ⟨its, rvl, ht, hz⟩ := I.list (.of hl)
        obtain ⟨as, bs, r1, r2, p1, p2, hd⟩ := mem_reads hu sd I vw rm ry ru rw' rvl q1
        have hzz : its.toArray.size < 2 ^ 63 - 1 := by
          have h9 := rvl.length
          rw [List.size_toArray, ← h9]
          exact Nat.lt_of_le_of_lt hz (by rw [lineLIM]; decide)
        refine index_list_data (j := j) ht.isList (by simpa using r2) r1 p2 p1 hd (by rw [toPs_place]; exact ej) hzz ?_
        exact ⟨.int _, H, I.tok _, ⟨_, rfl⟩, out.int vw rm hf⟩
      · exact hf.elim
    · exact hf.elim
  · obtain ⟨y, rfl, ry⟩ := rv.one_of
    simp only [RV] at ry
    subst ry
    split at hf
    · rename_i ns e
      obtain ⟨a, rfl, hq⟩ := intTup e vw rd
      cases rx
      obtain ⟨u, rfl, ru⟩ := Vals.one rs
      obtain ⟨t, rfl⟩ := ru
      · obtain ⟨its, rvl, ht, hz⟩ := I.tuple hq
        exact PySem.SeqAt.tuple_index_ints (show s.heap.IsTuple a its.toArray from ht) rvl.ints hf.1 ⟨.int _, H, I.tok _, ⟨_, rfl⟩, out.int vw rm hf.2⟩
    · exact hf.elim
  · -- get
    obtain ⟨y, y', rfl, ry, ry'⟩ := rv.two_of
    obtain ⟨a, us', rfl, hq, kvs, q, hf⟩ := onD_at vw rm rd hf
    split at hf
    · rename_i k e
      have ek := keyOf_kV e ry
      subst ek
      cases rx
      obtain ⟨u, u', rfl, r1, r2⟩ := Vals.two rs
      obtain ⟨g1, g2⟩ := q.get (k := k)
      refine d_get2 (by omega) I (DGet.k hq) r1 r2 fun w' s' I' rw' => ⟨_, H, I', rw', ?_⟩
      cases eg : getK kvs k with
      | none =>
        rw [g2 eg]
        rw [eg] at hf
        exact out.here vw rm ry' hf
      | some d =>
        obtain ⟨v, ev, rv⟩ := g1 d eg
        rw [ev]
        rw [eg] at hf
        exact out.here vw rm rv hf
    · exact hf.elim
  · obtain ⟨y, rfl, ry⟩ := rv.one_of
    obtain ⟨a, us', rfl, hq, kvs, q, hf⟩ := onD_at vw rm rd hf
    split at hf
    · rename_i k e
      have ek := keyOf_kV e ry
      subst ek
      cases rx
      obtain ⟨u, rfl, r1⟩ := Vals.one rs
      obtain ⟨g1, g2⟩ := q.get (k := k)
      refine d_get1 (by omega) I (DGet.k hq) r1 fun w' s' I' rw' => ⟨_, H, I', rw', ?_⟩
      cases eg : getK kvs k with
      | none =>
        rw [g2 eg]
        rw [eg] at hf
        exact out.here vw rm rvNon hf
      | some d =>
        obtain ⟨v, ev, rv⟩ := g1 d eg
        rw [ev]
        rw [eg] at hf
        exact out.here vw rm rv hf
    · exact hf.elim
  · -- setdefault
    obtain ⟨y, y', rfl, ry, ry'⟩ := rv.two_of
    obtain ⟨a, kvs, us', rfl, hm, hq, q, hf⟩ := onDW_at vw rm rd hf
    split at hf
    · rename_i k e
      have ek := keyOf_kV e ry
      subst ek
      cases rx
      obtain ⟨u, u', rfl, r1, r2⟩ := Vals.two rs
      obtain ⟨g1, g2⟩ := q.get (k := k)
      obtain ⟨hz, hf⟩ := hf
      refine d_setd I hq r1 r2 (by rw [q.length, lineLIM]; exact hz) (fun v ev w' s' I' rw' => ⟨_, H, I', rw', ?_⟩) fun en w' s' I' rw' => ⟨_, _, I', rw', ?_⟩
      · cases eg : getK kvs k with
        | none => rw [g2 eg] at ev; cases ev
        | some d =>
          obtain ⟨v', ev', rv⟩ := g1 d eg
          rw [ev] at ev'; cases ev'
          rw [eg] at hf
          exact out.here vw rm rv hf
      · cases eg : getK kvs k with
        | some d =>
          obtain ⟨v', ev', rv⟩ := g1 d eg
          rw [en] at ev'; cases ev'
        | none =>
          rw [eg] at hf
          exact out.wrD vw rm hm (q.put ry') hf ry'
    · exact hf.elim
  · -- join
    obtain ⟨y, rfl, ry⟩ := rv.one_of
    split at hf
    · rename_i a ys e
      obtain ⟨ds, e1, e2⟩ := Option.bind_eq_some_iff.mp e
      obtain ⟨p, vs, rfl, hq, q⟩ := seqOf_at vw rm e1 ry
      have ev := RVs.strs_of e2 q
      subst ev
      simp only [RV] at rd
      exact mt_join pins s σ H _ _ v us Q I rx rs ⟨a, p, ys, rd, rfl, hq, hf.1, out.str vw rm hf.2⟩
    · exact hf.elim
  · -- split
    obtain ⟨y, rfl, ry⟩ := rv.one_of
    simp only [RV] at ry
    subst ry
    split at hf
    · rename_i a
      simp only [RV] at rd
      refine mt_split pins s σ H _ _ v us Q I rx rs ⟨a, _, rd, rfl, hf.1, by rw [lineLIM]; exact hf.2.1, ?_⟩
      exact fun p hp => out.lst vw rm RVs.strs hf.2.2 hp
    · exact hf.elim
  · -- strip
    obtain ⟨y, rfl, ry⟩ := rv.one_of
    simp only [RV] at ry
    subst ry
    split at hf
    · rename_i a
      simp only [RV] at rd
      exact mt_stripChars pins s σ H _ _ v us Q I rx rs ⟨a, _, rd, rfl, by rw [lineLIM]; exact hf.1, out.str vw rm hf.2⟩
    · exact hf.elim
  · simp only [RVs] at rv
    subst rv
    split at hf
    · rename_i a
      simp only [RV] at rd
      exact mt_upper pins s σ H _ _ v us Q I rx rs ⟨a, rd, rfl, hf.1, out.str vw rm hf.2⟩
    · exact hf.elim
  · exact hf.elim
end
end Pw
set_option Elab.async false
set_option linter.all false
set_option maxRecDepth 100000
namespace Pw
open PySem PySem.Spec PyProof.Rows L2

/-- by values: o[i] -/
def rIxD (K : PySem.W.Frag) : R2 := fun x y H Q => ∃ U M a b R, Vw U H ∧ RM K M U ∧ RV K M U a x ∧ RV K M U b y ∧ ixD a b M R ∧ Out K M U H R Q
def rStD (K : PySem.W.Frag) : TSet := fun o i v H Q => ∃ U M a b d R, Vw U H ∧ RM K M U ∧ RV K M U a o ∧ RV K M U b i ∧ RV K M U d v ∧ stD a b d M R ∧ ∀ M' U' H', Ext M U M' U' → Kp U H U' H' → RM K M' U' → R M' → Q H'
def rSlD (K : PySem.W.Frag) (m : Bool) : V → Option Int → Option Int → Hp → VK → Prop := fun x lo hi H Q => ∃ U M a R, Vw U H ∧ RM K M U ∧ RV K M U a x ∧ slD m a lo hi M R ∧ Out K M U H R Q
/-- the names of types -/
def tyNames : List String := ["NoneType", "bool", "int", "str", "tuple", "list", "dict"]
def isiB (K : PySem.W.Frag) : Bool := tyNames.all fun n => ["int", "bool", "str", "tuple", "list", "dict"].all fun t => PySem.W.kitOne K (.type n) (.type t) == some (isI1 n t)
section
variable {X : Cx} {K : PySem.W.Frag} {M : Mp} {U H : Hp}
theorem atD_at {ds : List D} {vs : List V} {i : Int} {d : D} (h : RVs K M U ds vs) (e : atD ds i = some d) : ∃ v, atI vs i = some v ∧ RV K M U d v := by
  unfold atD at e
  obtain ⟨j, e1, e2⟩ := Option.bind_eq_some_iff.mp e
  obtain ⟨v, e3, q⟩ := h.get e2
  refine ⟨v, ?_, q⟩
  unfold atI
  rw [h.length]
  exact Option.bind_eq_some_iff.mpr ⟨j, e1, e3⟩
theorem ix_dict (hu : X.A.units + 1 < cLine) : IxR X (fun x y H Q => ∃ a v, x = .ref a ∧ DGet H a y (some v) ∧ Q v H) := by
  intro value slice pins s σ H x y v u Q I rx ry h hs
  obtain ⟨a, w, rfl, g, q⟩ := h
  cases rx
  exact tail_any (dict_typeIs I g) PySem.F.slot_dict_getitem.lookup (d_getItem hu I g ry fun w' s' I' rw' => ⟨w, H, I', rw', q⟩) hs
theorem ixD_ok (hu : X.A.units + 64 < cLine) : IxR X (rIxD X.K) := by
  intro value slice pins s σ H x y v u Q I rx ry h hs
  obtain ⟨U, M, a, b, R, vw, rm, ra, rb, hf, out⟩ := h
  unfold ixD at hf
  split at hf
  · rename_i ds e
    have e' := see_scr e
    subst e'
    split at hf
    · split at hf
      · rename_i d e1
        simp only [RV] at ra rb
        obtain ⟨p, vs, rfl, hq, q⟩ := ra
        obtain ⟨w, e2, rw'⟩ := atD_at q e1
        exact ix_list value slice pins s σ H _ _ v u Q I rx ry ⟨p, vs, _, w, rfl, rb, (vw.sqS hq).sq, e2, out.here vw rm rw' hf⟩ hs
      · exact hf.elim
    · exact hf.elim
  · rename_i ds e
    have e' := see_tup e
    subst e'
    split at hf
    · split at hf
      · rename_i d e1
        simp only [RV] at ra rb
        obtain ⟨p, vs, rfl, hq, q⟩ := ra
        obtain ⟨w, e2, rw'⟩ := atD_at q e1
        exact ix_tup value slice pins s σ H _ _ v u Q I rx ry ⟨p, vs, _, w, rfl, rb, vw.sqT hq, e2, out.here vw rm rw' hf⟩ hs
      · exact hf.elim
    · exact hf.elim
  · rename_i ds e
    split at hf
    · split at hf
      · rename_i d e1
        simp only [RV] at rb
        obtain ⟨p, vs, rfl, hq, q⟩ := lstM_at vw rm (see_lst e) ra
        obtain ⟨w, e2, rw'⟩ := atD_at q e1
        exact ix_list value slice pins s σ H _ _ v u Q I rx ry ⟨p, vs, _, w, rfl, rb, .of hq, e2, out.here vw rm rw' hf⟩ hs
      · exact hf.elim
    · exact hf.elim
  · rename_i z e
    have e' := see_str e
    subst e'
    split at hf
    · obtain ⟨hz, hf⟩ := hf
      split at hf
      · rename_i c e1
        simp only [RV] at ra rb
        exact ix_str value slice pins s σ H _ _ v u Q I rx ry ⟨z, _, c, ra, rb, by rw [lineLIM]; exact hz, e1, out.str vw rm hf⟩ hs
      · exact hf.elim
    · exact hf.elim
  · rename_i kvs e
    split at hf
    · rename_i k ek
      have e1 := keyOf_kV ek rb
      subst e1
      split at hf
      · rename_i d ed
        obtain ⟨a', us', rfl, hq, q⟩ := see_dic vw rm e ra
        obtain ⟨w, ew, rw'⟩ := (q.get (k := k)).1 d ed
        refine ix_dict (by omega) value slice pins s σ H _ _ v u Q I rx ry ⟨a', w, rfl, ?_, out.here vw rm rw' hf⟩ hs
        rw [← ew]
        exact DGet.k hq
      · exact hf.elim
    · exact hf.elim
  · exact hf.elim
theorem stD_ok (hu : X.A.units + 64 < cLine) : PSet X (rStD X.K) := by
  intro pins s σ H o i v ov iv u Q I ro ri rv h
  obtain ⟨U, M, a, b, d, R, vw, rm, ra, rb, rd, hf, out⟩ := h
  unfold stD at hf
  split at hf
  · rename_i p
    simp only [RV] at ra
    split at hf
    · rename_i ds e
      obtain ⟨vs, hl, q⟩ := rm p _ e
      split at hf
      · split at hf
        · rename_i k j ej
          simp only [RV] at rb
          refine set_list pins s σ H o i v ov iv u Q I ro ri rv ⟨p, vs, _, j, ra, rb, vw _ _ hl, by rw [q.length]; exact ej, ?_⟩
          exact out (up M p (.lst (ds.set j d))) _ _ (Ext.wr e) (Kp.wr vw hl) (rm.wr e ⟨_, upd_same, RVs.mono (Ext.wr e) rm _ _ (q.set j rd)⟩) hf
        · exact hf.elim
      · exact hf.elim
    · rename_i kvs e
      obtain ⟨us', hl, q⟩ := rm p _ e
      split at hf
      · rename_i k ek
        have e1 := keyOf_kV ek rb
        subst e1
        refine set_dict (by omega) pins s σ H o _ v ov iv u Q I ro ri rv ⟨p, _, ra, DPut.k (vw _ _ hl) (by rw [q.length, lineLIM]; exact hf.1), ?_⟩
        exact out (up M p (.dic (setK kvs k d))) _ _ (Ext.wr e) (Kp.wr vw hl) (rm.wr e ⟨_, upd_same, RKs.mono (Ext.wr e) rm _ _ (q.put rd)⟩) hf.2
      · exact hf.elim
    · exact hf.elim
  · exact hf.elim
theorem RVs.cut {ds : List D} {vs : List V} (h : RVs K M U ds vs) (lo hi : Option Int) : RVs K M U (cutD ds lo hi) (cutV vs lo hi) := by
  have e : ∀ (d : Nat) (x : Option Int), cutIx ds.length d x = HT.sIx vs.length d x := by
    intro d x
    rw [h.length]
    cases x <;> rfl
  unfold cutD cutV
  rw [e, e, ← h.length]
  exact (h.drop _).take _
theorem cutD_all {ds : List D} {vs : List V} (h : RVs K M U ds vs) {lo hi : Option Int} (e1 : HT.sIx vs.length 0 lo = 0) (e2 : HT.sIx vs.length vs.length hi = vs.length) : cutD ds lo hi = ds := by
  have a1 : cutIx ds.length 0 lo = 0 := by
    rw [h.length] at e1
    cases lo <;> exact e1
  have a2 : cutIx ds.length ds.length hi = ds.length := by
    rw [h.length] at e2
    cases hi <;> exact e2
  unfold cutD
  rw [a1, a2]
  simp
theorem cutStr_eq (z : Str) (lo hi : Option Int) : cutStr z lo hi = cutS z lo hi := by
  have e : z.cps.toList.length = z.length := by simp [Str.length]
  unfold cutStr cutS
  rw [e]
  cases lo <;> cases hi <;> rfl
theorem slD_ok (m : Bool) : SlR X (rSlD X.K m) := by
  intro pins s σ H x v vl vu lo hi sl Q I rx hs pl pu h
  obtain ⟨U, M, a, R, vw, rm, ra, hf, out⟩ := h
  unfold slD at hf
  split at hf
  · rename_i ds e
    have e' := see_tup e
    subst e'
    simp only [RV] at ra
    obtain ⟨p, vs, rfl, hq, q⟩ := ra
    refine sl_tupF pins s σ H _ v vl vu lo hi sl Q I rx hs pl pu ⟨p, vs, rfl, vw.sqT hq, fun ⟨e1, e2⟩ => ?_, out.tup vw rm (q.cut lo hi) hf⟩
    rw [cutD_all q e1 e2] at hf
    exact out.here vw rm (d := .tup ds) (by simp only [RV]; exact ⟨p, vs, rfl, hq, q⟩) hf
  · rename_i ds e
    obtain ⟨p, vs, rfl, hq, q⟩ := lstM_at vw rm (see_lst e) ra
    exact sl_list pins s σ H _ v vl vu lo hi sl Q I rx hs pl pu ⟨p, vs, rfl, .of hq, fun l hl => out.lst vw rm (q.cut lo hi) hf hl⟩
  · rename_i ds e
    have e' := see_scr e
    subst e'
    simp only [RV] at ra
    obtain ⟨p, vs, rfl, hq, q⟩ := ra
    exact sl_list pins s σ H _ v vl vu lo hi sl Q I rx hs pl pu ⟨p, vs, rfl, (vw.sqS hq).sq, fun l hl => out.lst vw rm (q.cut lo hi) hf hl⟩
  · rename_i z e
    have e' := see_str e
    subst e'
    simp only [RV] at ra
    refine sl_str pins s σ H _ v vl vu lo hi sl Q I rx hs pl pu ⟨z, ra, by rw [lineLIM]; exact hf.1, ?_⟩
    rw [← cutStr_eq]
    exact out.str vw rm hf.2
  · exact hf.elim
/-- the type of a value -/
theorem tyX_of (vw : Vw U H) (rm : RM K M U) {d : D} {v : V} {n : String} (e : nm (see M d) = some n) (h : RV K M U d v) : TyX K H v (.type n) ∧ n ∈ tyNames := by
  have tup : ∀ {a : Addr} {vs : List V}, SqT K H a vs → TyX K H (.ref a) (.type "tuple") := by
    intro a vs h
    rcases h with (h | ⟨o, h⟩) | ⟨o, its, n, h, c, _⟩
    · exact .base (.tup h)
    · exact .fTuple h
    · exact .kTuple h c
  cases d
  case ref a =>
    simp only [RV] at h
    subst h
    cases q : M a with
    | none => simp only [see, q, nm] at e; cases e
    | some o =>
      cases o with
      | lst ds =>
        simp only [see, q, nm] at e
        cases e
        obtain ⟨vs, hl, _⟩ := rm a _ q
        exact ⟨.base (.lst (vw _ _ hl)), by decide⟩
      | dic kvs =>
        simp only [see, q, nm] at e
        cases e
        obtain ⟨vs, hl, _⟩ := rm a _ q
        exact ⟨.base (.dK (vw _ _ hl)), by decide⟩
      | dicT _ => simp only [see, q, nm] at e; cases e
      | ins _ _ => simp only [see, q, nm] at e; cases e
  case non => simp only [see, nm] at e; cases e; simp only [RV] at h; subst h; exact ⟨.base .non, by decide⟩
  case bl b => simp only [see, nm] at e; cases e; simp only [RV] at h; subst h; exact ⟨.base (.bl b), by decide⟩
  case int b => simp only [see, nm] at e; cases e; simp only [RV] at h; subst h; exact ⟨.base (.int b), by decide⟩
  case str b => simp only [see, nm] at e; cases e; simp only [RV] at h; subst h; exact ⟨.base (.str b), by decide⟩
  case tup b => simp only [see, nm] at e; cases e; simp only [RV] at h; obtain ⟨a, vs, rfl, hq, _⟩ := h; exact ⟨tup (vw.sqT hq), by decide⟩
  case lst b => simp only [see, nm] at e; cases e; simp only [RV] at h; obtain ⟨a, vs, rfl, hq, _⟩ := h; exact ⟨.base (.lst (vw _ _ hq)), by decide⟩
  case dic b => simp only [see, nm] at e; cases e; simp only [RV] at h; obtain ⟨a, vs, rfl, hq, _⟩ := h; exact ⟨.base (.dK (vw _ _ hq)), by decide⟩
  case scr b =>
    simp only [see, nm] at e; cases e; simp only [RV] at h; obtain ⟨a, vs, rfl, hq, _⟩ := h
    rcases vw.sqS hq with ⟨o, hq⟩ | ⟨o, its, n, h, c, _⟩
    · exact ⟨.base (.frz hq), by decide⟩
    · exact ⟨.kList h c, by decide⟩
  case ty n => simp only [see, nm] at e; cases e
  case exc n => simp only [see, nm] at e; cases e
theorem okTy_mem {t : String} (h : okTy t = true) : t ∈ ["int", "bool", "str", "tuple", "list", "dict"] := by
  simp only [okTy, Bool.or_eq_true, beq_iff_eq] at h
  rcases h with ((((h | h) | h) | h) | h) | h <;> simp [h]
theorem kit_one (hk : isiB K = true) {n t : String} (hn : n ∈ tyNames) (ht : okTy t = true) : PySem.W.kitOne K (.type n) (.type t) = some (isI1 n t) := by
  have h := List.all_eq_true.mp hk n hn
  exact beq_iff_eq.mp (List.all_eq_true.mp h t (okTy_mem ht))
theorem kit_any (hk : isiB K = true) {n : String} (hn : n ∈ tyNames) : ∀ {ts : List String}, (∀ t ∈ ts, okTy t = true) → PySem.W.kitAny K (.type n) (ts.map Value.type) = some (ts.any fun t => isI1 n t)
  | [], _ => rfl
  | t :: ts, h => by
    have h1 := kit_one hk hn (h t (by simp))
    have h2 := kit_any hk hn (ts := ts) fun t ht => h t (by simp [ht])
    rw [List.map_cons, PySem.W.kitAny, h1, List.any_cons]
    cases isI1 n t
    · exact h2
    · rfl
end
end Pw
set_option Elab.async false
set_option linter.all false
set_option maxRecDepth 100000
namespace Pw
open PySem PySem.Spec PyProof.Rows L2

/-! ### what stands around, and the readings by wanted ends -/
structure Rel (K : PySem.W.Frag) (M : Mp) (U H : Hp) (δ : St) (σ : L2.St) : Prop where
  vw : Vw U H
  rm : RM K M U
  rs : RS K M U δ σ
/-- a step of the world -/
structure Go (K : PySem.W.Frag) (M : Mp) (U H : Hp) (M' : Mp) (U' H' : Hp) : Prop where
  ex : Ext M U M' U'
  kp : Kp U H U' H'
  rm : RM K M' U'
theorem Go.refl {K : PySem.W.Frag} {M : Mp} {U H : Hp} (vw : Vw U H) (rm : RM K M U) : Go K M U H M U H := ⟨.refl, .refl vw, rm⟩
theorem Go.trans {K : PySem.W.Frag} {M M' M'' : Mp} {U H U' H' U'' H'' : Hp} (a : Go K M U H M' U' H') (b : Go K M' U' H' M'' U'' H'') : Go K M U H M'' U'' H'' := ⟨a.ex.trans b.ex, a.kp.trans b.kp, b.rm⟩
theorem Rel.mono {K : PySem.W.Frag} {M M' : Mp} {U H U' H' : Hp} {δ : St} {σ : L2.St} (r : Rel K M U H δ σ) (g : Go K M U H M' U' H') : Rel K M' U' H' δ σ := ⟨g.kp.vw, g.rm, r.rs.mono g.ex r.rm⟩
theorem Rel.here {K : PySem.W.Frag} {M : Mp} {U H : Hp} {δ : St} {σ : L2.St} (r : Rel K M U H δ σ) : Go K M U H M U H := .refl r.vw r.rm
/-- what may be raised is taken -/
def XOk (X : Cx) (xk : XD) (W : WX) (M : Mp) (U H : Hp) : Prop := ∀ c δ' M' U' H' σ', Go X.K M U H M' U' H' → RS X.K M' U' δ' σ' → xk c δ' M' → ∀ C, X.mg c = some C → W C none σ' H'
theorem XOk.mono {X : Cx} {xk : XD} {W : WX} {M M' : Mp} {U H U' H' : Hp} (x : XOk X xk W M U H) (g : Go X.K M U H M' U' H') : XOk X xk W M' U' H' := fun c δ' M1 U1 H1 σ' g' => x c δ' M1 U1 H1 σ' (g.trans g')
def OutT (K : PySem.W.Frag) (M : Mp) (U H : Hp) (R : Bool → Mp → Prop) (Q : Bool → Hp → Prop) : Prop := ∀ k M' U' H', Go K M U H M' U' H' → R k M' → Q k H'
def OutL (K : PySem.W.Frag) (n : Nat) (M : Mp) (U H : Hp) (R : List D → Mp → Prop) (Q : List V → Hp → Prop) : Prop := ∀ ds M' vs U' H', Go K M U H M' U' H' → RVs K M' U' ds vs → ds.length = n → R ds M' → Q vs H'
def OutO (K : PySem.W.Frag) (M : Mp) (U H : Hp) (R : Option Int → Mp → Prop) (Q : Option Int → Hp → Prop) : Prop := ∀ k M' U' H', Go K M U H M' U' H' → R k M' → Q k H'
def OutG (K : PySem.W.Frag) (M : Mp) (U H : Hp) (R : St → Mp → Prop) (Q : L2.St → Hp → Prop) : Prop := ∀ δ' M' σ' U' H', Go K M U H M' U' H' → RS K M' U' δ' σ' → R δ' M' → Q σ' H'
section
variable (X : Cx) (xk : XD) (W : WX)
def LE (wp : St → Mp → DK → Prop) : TE := fun σ H Q => ∃ δ M U R, Rel X.K M U H δ σ ∧ XOk X xk W M U H ∧ wp δ M R ∧ Out X.K M U H R Q
def LT (wp : St → Mp → (Bool → Mp → Prop) → Prop) : TT := fun σ H Q => ∃ δ M U R, Rel X.K M U H δ σ ∧ XOk X xk W M U H ∧ wp δ M R ∧ OutT X.K M U H R Q
def LL (n : Nat) (wp : St → Mp → (List D → Mp → Prop) → Prop) : TA := fun σ H Q => ∃ δ M U R, Rel X.K M U H δ σ ∧ XOk X xk W M U H ∧ wp δ M R ∧ OutL X.K n M U H R Q
def LO (wp : St → Mp → (Option Int → Mp → Prop) → Prop) : TO := fun σ H Q => ∃ δ M U R, Rel X.K M U H δ σ ∧ XOk X xk W M U H ∧ wp δ M R ∧ OutO X.K M U H R Q
end
/-- a def that may be called -/
def spOf (K : PySem.W.Frag) (mg : Str → Option Value) (s : SpD) : Sp := fun vs H Q E => ∃ U M ds R Xc, Vw U H ∧ RM K M U ∧ RVs K M U ds vs ∧ s ds M R Xc ∧ Out K M U H R Q ∧ ∀ c M' U' H', Go K M U H M' U' H' → Xc c M' → ∀ C, mg c = some C → E C none H'
def flatDV : D → V → Bool
  | .non, .non => true
  | .bl a, .bl b => a == b
  | .int i, .int j => decide (i = j)
  | .str x, .str y => decide (x = y)
  | _, _ => false
def flatDVs : List D → List V → Bool
  | [], [] => true
  | d :: ds, v :: vs => flatDV d v && flatDVs ds vs
  | _, _ => false
/-- a def of the text, as it may be called -/
structure FnX (P : Program) (w : World) (K : PySem.W.Frag) (mg : Str → Option Value) (base : Heap) (k : Nat) (f : String) (I : FnI) (s : SpD) : Prop where
  ex : ∃ (a : Addr) (fd : FuncData), mg (Str.ofString f) = some (.ref a) ∧ PySem.W.keepIn K (.ref a) = true ∧ FnG P w K mg base k a fd I.ps (spOf K mg s) ∧
    ((I.kwn = true → I.dfl ≠ []) → ∃ (dvs : List V) (ds : List Value), flatDVs I.dfl dvs = true ∧ Vals dvs ds ∧ Binds K fd I.ps ds) ∧
    ∀ z, I.kwn = true → I.ps.getLast? = some z → KBn K fd I.ps (I.ps.length - 1) [z] (fun us ws => us ++ ws) (fun vs zs => vs ++ zs)
  ar : ∀ ds M R Xc, s ds M R Xc → ds.length = I.ps.length
/-! classes of exceptions -/
def clsV (K : PySem.W.Frag) (t : Str) : Value := if t = ("ValueError" : Str) then .type "ValueError" else .ref (He.ga K t)
def excCB (K : PySem.W.Frag) (D : Addr) : Bool := decide (PySem.W.findIn K (.ref D) "__getattribute__" = some (some (.builtin "BaseException.__getattribute__"))) && (decide (PySem.W.findIn K (.ref D) "__getattr__" = some none) && (decide (PySem.W.subIn K (.ref D) (.type "BaseException") = some true) &&
  (PySem.W.hasDictIn K D && (decide (PySem.W.findIn K (.ref D) "__class__" = some (some (.builtin "object.__class__"))) && (decide (PySem.W.specialIn K (.builtin "object.__class__") "__get__" = some (some (.builtin "getset_descriptor.__get__"))) &&
  (decide (PySem.W.takesIn K (.builtin "object.__class__") = some true) && decide (PySem.W.mroIn K D (.type "object") = some true)))))))
def isxB (G : Gc) (K : PySem.W.Frag) : Bool := G.clss.isEmpty || G.excs.all fun c => excCB K (He.ga K c) && (("ValueError" : Str) :: G.clss).all fun t => decide (PySem.W.kitOne K (.ref (He.ga K c)) (clsV K t) = some (excIs c t)) &&
  (decide (t = ("ValueError" : Str)) || decide (PySem.W.exmOne K (.ref (He.ga K c)) (clsV K t) = some (excIs c t)))
structure GX (X : Cx) (G : Gc) (C : Ct) (Γ : String → SpD) (k : Nat) (W : WX) : Prop where
  room : RoomG k X.A
  calm : X.calm = true
  sys : SysD X.K
  isi : isiB X.K = true
  N : X.N = C.N
  nd : X.N.Nodup
  sc : X.env.scope = C.sc
  fnB : ∀ x, C.fnB x = true → X.fn x = true
  free : ∀ x ∈ G.free, X.mg x = none
  const : ∀ x d, G.consts.lookup x = some d → ∃ v u, X.mg x = some u ∧ RelV v u ∧ flatDV d v = true
  fns : ∀ f I, G.fns.lookup f = some I → FnX X.prog X.w X.K X.mg X.base k f I (Γ f)
  exc : ∀ c ∈ G.excs, ∃ (A : Addr) (bmB : List Value) (B newId initId : String), ExcBaseFacts B newId initId bmB ∧ PySem.W.excIn X.K A bmB newId = true ∧ X.mg c = some (.ref A) ∧ PySem.W.keepIn X.K (.ref A) = true ∧ Raises X (.ref A)
  xis : isxB G X.K = true
  gcl : ∀ c ∈ G.excs ++ G.clss, X.mg c = some (.ref (He.ga X.K c))
  nve : ("ValueError" : Str) ∉ G.clss
  tk : Takes X W
theorem flat_rv {K : PySem.W.Frag} {M : Mp} {U : Hp} {d : D} {v : V} (h : flatDV d v = true) : RV K M U d v := by
  cases d <;> cases v <;> simp only [flatDV] at h <;> first
    | exact absurd h Bool.false_ne_true
    | (simp at h; subst h; simp only [RV])
    | (simp only [RV])
theorem flat_rvs {K : PySem.W.Frag} {M : Mp} {U : Hp} : ∀ {ds : List D} {vs : List V}, flatDVs ds vs = true → RVs K M U ds vs
  | [], [], _ => by simp only [RVs]
  | d :: ds, v :: vs, h => by
    simp only [flatDVs, Bool.and_eq_true] at h
    simp only [RVs]
    exact ⟨v, vs, rfl, flat_rv h.1, flat_rvs h.2⟩
  | [], _ :: _, h => by simp [flatDVs] at h
  | _ :: _, [], h => by simp [flatDVs] at h
theorem eqFlat_eq {x y : D} (h : eqFlat x y = true) : x = y := by
  cases x <;> cases y <;> simp only [eqFlat] at h <;> first
    | exact absurd h Bool.false_ne_true
    | (simp at h; subst h; rfl)
    | rfl
theorem eqFlats_eq : ∀ {x y : List D}, eqFlats x y = true → x = y
  | [], [], _ => rfl
  | x :: xs, y :: ys, h => by
    simp only [eqFlats, Bool.and_eq_true] at h
    rw [eqFlat_eq h.1, eqFlats_eq h.2]
  | [], _ :: _, h => by simp [eqFlats] at h
  | _ :: _, [], h => by simp [eqFlats] at h

/-! ### weaker readings -/
section
variable {X : Cx} {e : Expr}
theorem pe_imp {t t' : TE} (h : PE X e t) (i : ∀ σ H Q, t' σ H Q → t σ H Q) : PE X e t' := ⟨fun pins s σ H Q I q => h.run pins s σ H Q I (i σ H Q q)⟩
theorem pt_imp {t t' : TT} (h : PT X e t) (i : ∀ σ H Q, t' σ H Q → t σ H Q) : PT X e t' := ⟨fun pins s σ H Q I q => h.run pins s σ H Q I (i σ H Q q)⟩
theorem pa_imp {es : List Expr} {t t' : TA} (h : PA X es t) (i : ∀ σ H Q, t' σ H Q → t σ H Q) : PA X es t' := ⟨fun pos pins s σ H Q I q => h.run pos pins s σ H Q I (i σ H Q q)⟩
theorem po_imp {e : Option Expr} {t t' : TO} (h : PO X e t) (i : ∀ σ H Q, t' σ H Q → t σ H Q) : PO X e t' := ⟨fun pins s σ H Q I q => h.run pins s σ H Q I (i σ H Q q)⟩
end

/-! ### two readings, one behind another -/
section
variable {X : Cx} {xk : XD} {W : WX}
theorem LE.one {wa : St → Mp → DK → Prop} {f : D → Mp → DK → Prop} {σ : L2.St} {H : Hp} {Q : VK} (h : LE X xk W (fun δ M Q => wa δ M fun x M1 => f x M1 Q) σ H Q) :
    LE X xk W wa σ H fun x H1 => ∃ U M a R, Vw U H1 ∧ RM X.K M U ∧ RV X.K M U a x ∧ f a M R ∧ Out X.K M U H1 R Q := by
  obtain ⟨δ, M, U, R, r, xo, h, out⟩ := h
  exact ⟨δ, M, U, _, r, xo, h, fun d M1 v U1 H1 e k rm rv hR => ⟨U1, M1, d, R, k.vw, rm, rv, hR, out.mono e k⟩⟩
theorem LE.two {wa wb : St → Mp → DK → Prop} {f : D → D → Mp → DK → Prop} {σ : L2.St} {H : Hp} {Q : VK} (h : LE X xk W (fun δ M Q => wa δ M fun x M1 => wb δ M1 fun y M2 => f x y M2 Q) σ H Q) :
    LE X xk W wa σ H fun x H1 => LE X xk W wb σ H1 fun y H2 => ∃ U M a b R, Vw U H2 ∧ RM X.K M U ∧ RV X.K M U a x ∧ RV X.K M U b y ∧ f a b M R ∧ Out X.K M U H2 R Q := by
  obtain ⟨δ, M, U, R, r, xo, h, out⟩ := h
  refine ⟨δ, M, U, _, r, xo, h, fun d M1 v U1 H1 e k rm rv hR => ⟨δ, M1, U1, _, r.mono ⟨e, k, rm⟩, xo.mono ⟨e, k, rm⟩, hR, fun d2 M2 v2 U2 H2 e2 k2 rm2 rv2 hR2 => ?_⟩⟩
  exact ⟨U2, M2, d, d2, R, k2.vw, rm2, RV.mono e2 rm d v rv, rv2, hR2, (out.mono e k).mono e2 k2⟩
theorem LL.one {n : Nat} {wa : St → Mp → (List D → Mp → Prop) → Prop} {f : List D → Mp → DK → Prop} {σ : L2.St} {H : Hp} {Q : VK} (h : LE X xk W (fun δ M Q => wa δ M fun x M1 => f x M1 Q) σ H Q) :
    LL X xk W n wa σ H fun x H1 => ∃ U M a R, Vw U H1 ∧ RM X.K M U ∧ RVs X.K M U a x ∧ f a M R ∧ Out X.K M U H1 R Q := by
  obtain ⟨δ, M, U, R, r, xo, h, out⟩ := h
  exact ⟨δ, M, U, _, r, xo, h, fun d M1 v U1 H1 g rv _ hR => ⟨U1, M1, d, R, g.kp.vw, g.rm, rv, hR, out.mono g.ex g.kp⟩⟩
end
end Pw
set_option Elab.async false
set_option linter.all false
set_option maxRecDepth 100000
namespace Pw
open PySem PySem.Spec PyProof.Rows L2

/-! ### expressions, one by one -/
theorem visB_vis {sc : Scope} {x : Str} (h : visB sc x = true) : Vis sc x := by
  unfold visB at h
  split at h <;> first
    | (rename_i e; first | exact .inl e | exact .inr (.inl e) | exact .inr (.inr e))
    | cases h
theorem glB_gl {X : Cx} {x : Str} (h : glB X.env.scope x = true) : Gl X x ∧ (x == ("__debug__" : Str)) = false ∧ x ≠ "__name__" := by
  unfold glB at h
  split at h
  · rename_i e
    simp only [Bool.and_eq_true, Bool.not_eq_true', beq_eq_false_iff_ne] at h
    exact ⟨e, by simp [h.1], h.2⟩
  · cases h
theorem star_cons {e : Expr} {es : List Expr} {env : Env} (h : noStar e = true) : starEach (e :: es) env = (false, eval e env) :: starEach es env := by
  cases e <;> first | rfl | (simp [noStar] at h)
def allPlain : List Expr → Bool
  | [] => true
  | e :: es => noStar e && allPlain es
theorem star_any {env : Env} {pos : Pos} : ∀ {es : List Expr}, allPlain es = true → (backTo pos (starEach es env)).any (·.1) = false
  | [], _ => rfl
  | e :: es, h => by
    simp only [allPlain, Bool.and_eq_true] at h
    rw [star_cons h.1]
    have ih := star_any (env := env) (pos := pos) h.2
    unfold backTo at ih ⊢
    rw [List.map_cons, List.any_cons, ih]
    rfl
theorem star_all {env : Env} {pos : Pos} : ∀ {es : List Expr}, allPlain es = true → (backTo pos (starEach es env)).all (fun x => !x.1) = true
  | [], _ => rfl
  | e :: es, h => by
    simp only [allPlain, Bool.and_eq_true] at h
    rw [star_cons h.1]
    have ih := star_all (env := env) (pos := pos) h.2
    unfold backTo at ih ⊢
    rw [List.map_cons, List.all_cons, ih]
    rfl
theorem boot_bf (f : BF) : bootBuiltins (Str.ofString f.nm) = some f.val := by cases f <;> decide +kernel
theorem slc_plain {i : Expr} (h : noSlc i = true) : PlainIx i := by
  intro o v
  cases i <;> first | rfl | (simp [noSlc] at h)
section
variable {X : Cx} {xk : XD} {W : WX} {G : Gc} {C : Ct} {Γ : String → SpD} {k : Nat} {a b c : Expr} {wa wb wc : St → Mp → DK → Prop} {pos : Pos}
theorem GX.hu (g : GX X G C Γ k W) : X.A.units + 64 < cLine := g.room.rm.units
theorem r_var (g : GX X G C Γ k W) {i : Nat} {x : Str} (h1 : C.N[i]? = some x) (h2 : visB C.sc x = true) (h3 : (x == ("__debug__" : Str)) = false) (h4 : (x == ("__classdict__" : Str)) = false) :
    PE X (.Name x pos) (LE X xk W fun δ M Q => match δ[i]? with
      | some (some d) => Q d M
      | _ => False) := by
  refine pe_imp (pe_var (i := i) (by rw [g.N]; exact h1) (visB_vis (by rw [g.sc]; exact h2)) h3 h4) fun σ H Q ⟨δ, M, U, R, r, xo, h, out⟩ => ?_
  dsimp only at h
  split at h
  · rename_i d e
    obtain ⟨v, e1, q⟩ := r.rs.2 i d e
    exact ⟨v, e1, out.here r.vw r.rm q h⟩
  · exact h.elim
theorem r_lit (g : GX X G C Γ k W) {d : D} {e : Expr} (h : litB G C d e = true) : PE X e (LE X xk W fun _ M Q => Q d M) := by
  unfold litB at h
  split at h
  · split at h <;> first
      | (simp at h; subst h
         first
         | exact pe_imp pe_int fun σ H Q ⟨δ, M, U, R, r, xo, h, out⟩ => out.here r.vw r.rm (by simp only [RV]) h
         | exact pe_imp pe_bl fun σ H Q ⟨δ, M, U, R, r, xo, h, out⟩ => out.here r.vw r.rm (by simp only [RV]) h
         | exact pe_imp pe_str fun σ H Q ⟨δ, M, U, R, r, xo, h, out⟩ => out.here r.vw r.rm (by simp only [RV]) h)
      | exact pe_imp pe_non fun σ H Q ⟨δ, M, U, R, r, xo, h, out⟩ => out.here r.vw r.rm (by simp only [RV]) h
      | cases h
  · simp only [Bool.and_eq_true] at h
    obtain ⟨h1, h2⟩ := h
    rw [← g.sc] at h1
    obtain ⟨q1, q2, q3⟩ := glB_gl h1
    split at h2
    · rename_i d' e
      obtain ⟨v, u, e1, e2, e3⟩ := g.const _ _ e
      have e4 := eqFlat_eq h2
      subst e4
      exact pe_imp (pe_glob q1 e1 e2 q2) fun σ H Q ⟨δ, M, U, R, r, xo, h, out⟩ => out.here r.vw r.rm (flat_rv e3) h
    · cases h2
  · cases h
theorem r_bin (m : Bool) (op : BinO) (ha : PE X a (LE X xk W wa)) (hb : PE X b (LE X xk W wb)) :
    PE X (.BinOp a (bopO op) b pos) (LE X xk W fun δ M Q => wa δ M fun x M1 => wb δ M1 fun y M2 => bop m op x y M2 Q) :=
  pe_imp (pe_op (op_ok m op) ha hb) fun σ H Q h => LE.two h
theorem r_neg (ha : PE X a (LE X xk W wa)) : PE X (.UnaryOp .USub a pos) (LE X xk W fun δ M Q => wa δ M fun x M1 => match x with
    | .int i => Q (.int (-i)) M1
    | _ => False) := by
  refine pe_imp (pe_un un_neg ha) fun σ H Q h => ?_
  obtain ⟨δ, M, U, R, r, xo, h, out⟩ := h
  refine ⟨δ, M, U, _, r, xo, h, fun d M1 v U1 H1 e k rm rv hR => ?_⟩
  split at hR
  · simp only [RV] at rv
    exact ⟨_, rv, (out.mono e k).int k.vw rm hR⟩
  · exact hR.elim
theorem r_not (ha : PE X a (LE X xk W wa)) : PE X (.UnaryOp .Not a pos) (LE X xk W fun δ M Q => wa δ M fun x M1 => match x with
    | .bl i => Q (.bl (!i)) M1
    | _ => False) := by
  refine pe_imp (pe_not ha) fun σ H Q h => ?_
  obtain ⟨δ, M, U, R, r, xo, h, out⟩ := h
  refine ⟨δ, M, U, _, r, xo, h, fun d M1 v U1 H1 e k rm rv hR => ?_⟩
  split at hR
  · simp only [RV] at rv
    exact ⟨_, rv, (out.mono e k).bl k.vw rm hR⟩
  · exact hR.elim
theorem r_and {rest : List Expr} (ha : PE X a (LE X xk W wa)) (hb : PE X (.BoolOp .And (b :: rest) pos) (LE X xk W wb)) : PE X (.BoolOp .And (a :: b :: rest) pos) (LE X xk W fun δ M Q => wa δ M fun x M1 => match x with
    | .bl true => wb δ M1 Q
    | .bl false => Q (.bl false) M1
    | _ => False) := by
  refine pe_imp (pe_and ha hb) fun σ H Q h => ?_
  obtain ⟨δ, M, U, R, r, xo, h, out⟩ := h
  refine ⟨δ, M, U, _, r, xo, h, fun d M1 v U1 H1 e k rm rv hR => ?_⟩
  split at hR
  · simp only [RV] at rv
    exact ⟨true, rv, δ, M1, U1, R, r.mono ⟨e, k, rm⟩, xo.mono ⟨e, k, rm⟩, hR, out.mono e k⟩
  · simp only [RV] at rv
    exact ⟨false, rv, (out.mono e k).bl k.vw rm hR⟩
  · exact hR.elim
theorem r_or {rest : List Expr} (ha : PE X a (LE X xk W wa)) (hb : PE X (.BoolOp .Or (b :: rest) pos) (LE X xk W wb)) : PE X (.BoolOp .Or (a :: b :: rest) pos) (LE X xk W fun δ M Q => wa δ M fun x M1 => match x with
    | .bl true => Q (.bl true) M1
    | .bl false => wb δ M1 Q
    | _ => False) := by
  refine pe_imp (pe_or ha hb) fun σ H Q h => ?_
  obtain ⟨δ, M, U, R, r, xo, h, out⟩ := h
  refine ⟨δ, M, U, _, r, xo, h, fun d M1 v U1 H1 e k rm rv hR => ?_⟩
  split at hR
  · simp only [RV] at rv
    exact ⟨true, rv, (out.mono e k).bl k.vw rm hR⟩
  · simp only [RV] at rv
    exact ⟨false, rv, δ, M1, U1, R, r.mono ⟨e, k, rm⟩, xo.mono ⟨e, k, rm⟩, hR, out.mono e k⟩
  · exact hR.elim
theorem mark_of {op : CmpO} (h : noSet b = true) : behindInMarks (copO op) b = false := by
  cases b <;> first | rfl | (simp [noSet] at h)
theorem r_cmp (g : GX X G C Γ k W) (op : CmpO) (hs : noSet b = true) (ha : PE X a (LE X xk W wa)) (hb : PE X b (LE X xk W wb)) :
    PE X (.Compare a [copO op] [b] pos) (LE X xk W fun δ M Q => wa δ M fun x M1 => wb δ M1 fun y M2 => cop op x y M2 fun k => Q (.bl k) M2) :=
  pe_imp (pe_cmpR (cop_ok g.hu g.sys op) ha hb (mark_of hs)) fun σ H Q h => by
    obtain ⟨δ, M, U, R, r, xo, h, out⟩ := h
    refine ⟨δ, M, U, _, r, xo, h, fun d M1 v U1 H1 e k rm rv hR => ⟨δ, M1, U1, _, r.mono ⟨e, k, rm⟩, xo.mono ⟨e, k, rm⟩, hR, fun d2 M2 v2 U2 H2 e2 k2 rm2 rv2 hR2 => ?_⟩⟩
    exact ⟨U2, M2, d, d2, _, k2.vw, rm2, RV.mono e2 rm d v rv, rv2, hR2, fun q hq => ((out.mono e k).mono e2 k2).bl k2.vw rm2 hq⟩
theorem q_cmp (g : GX X G C Γ k W) (op : CmpO) (hs : noSet b = true) (ha : PE X a (LE X xk W wa)) (hb : PE X b (LE X xk W wb)) :
    PT X (.Compare a [copO op] [b] pos) (LT X xk W fun δ M Q => wa δ M fun x M1 => wb δ M1 fun y M2 => cop op x y M2 fun k => Q k M2) :=
  pt_imp (pt_cmpR (cop_ok g.hu g.sys op) ha hb (mark_of hs)) fun σ H Q h => by
    obtain ⟨δ, M, U, R, r, xo, h, out⟩ := h
    refine ⟨δ, M, U, _, r, xo, h, fun d M1 v U1 H1 e k rm rv hR => ⟨δ, M1, U1, _, r.mono ⟨e, k, rm⟩, xo.mono ⟨e, k, rm⟩, hR, fun d2 M2 v2 U2 H2 e2 k2 rm2 rv2 hR2 => ?_⟩⟩
    exact ⟨U2, M2, d, d2, _, k2.vw, rm2, RV.mono e2 rm d v rv, rv2, hR2, fun q hq => ⟨q, rfl, out q M2 U2 H2 ((Go.mk e k rm).trans ⟨e2, k2, rm2⟩) hq⟩⟩
theorem marks_of {o1 o2 : CmpO} (h : noSet c = true) : lastMarks [copO o1, copO o2] [b, c] = false := by
  show behindInMarks (copO o2) c = false
  exact mark_of h
theorem r_chain (g : GX X G C Γ k W) (o1 o2 : CmpO) (hs : noSet c = true) (ha : PE X a (LE X xk W wa)) (hb : PE X b (LE X xk W wb)) (hc : PE X c (LE X xk W wc)) :
    PE X (.Compare a [copO o1, copO o2] [b, c] pos) (LE X xk W fun δ M Q => wa δ M fun x M1 => wb δ M1 fun y M2 => cop o1 x y M2 fun k => match k with
      | true => wc δ M2 fun z M3 => cop o2 y z M3 fun k => Q (.bl k) M3
      | false => Q (.bl false) M2) :=
  pe_imp (pe_chain (cop_ok g.hu g.sys o1) (cop_ok g.hu g.sys o2) ha hb hc (marks_of hs)) fun σ H Q h => by
    obtain ⟨δ, M, U, R, r, xo, h, out⟩ := h
    refine ⟨δ, M, U, _, r, xo, h, fun d M1 v U1 H1 e k rm rv hR => ⟨δ, M1, U1, _, r.mono ⟨e, k, rm⟩, xo.mono ⟨e, k, rm⟩, hR, fun d2 M2 v2 U2 H2 e2 k2 rm2 rv2 hR2 => ?_⟩⟩
    refine ⟨U2, M2, d, d2, _, k2.vw, rm2, RV.mono e2 rm d v rv, rv2, hR2, fun q hq => ⟨q, rfl, ?_⟩⟩
    have g2 : Go X.K M U H M2 U2 H2 := (Go.mk e k rm).trans ⟨e2, k2, rm2⟩
    cases q with
    | false => exact (out.mono g2.ex g2.kp).bl k2.vw rm2 hq
    | true =>
      refine ⟨δ, M2, U2, _, r.mono g2, xo.mono g2, hq, fun d3 M3 v3 U3 H3 e3 k3 rm3 rv3 hR3 => ?_⟩
      exact ⟨U3, M3, d2, d3, _, k3.vw, rm3, RV.mono e3 rm2 d2 v2 rv2, rv3, hR3, fun q hq => ((out.mono g2.ex g2.kp).mono e3 k3).bl k3.vw rm3 hq⟩
theorem q_chain (g : GX X G C Γ k W) (o1 o2 : CmpO) (hs : noSet c = true) (ha : PE X a (LE X xk W wa)) (hb : PE X b (LE X xk W wb)) (hc : PE X c (LE X xk W wc)) :
    PT X (.Compare a [copO o1, copO o2] [b, c] pos) (LT X xk W fun δ M Q => wa δ M fun x M1 => wb δ M1 fun y M2 => cop o1 x y M2 fun k => match k with
      | true => wc δ M2 fun z M3 => cop o2 y z M3 fun k => Q k M3
      | false => Q false M2) :=
  pt_imp (pt_chain (cop_ok g.hu g.sys o1) (cop_ok g.hu g.sys o2) ha hb hc (marks_of hs)) fun σ H Q h => by
    obtain ⟨δ, M, U, R, r, xo, h, out⟩ := h
    refine ⟨δ, M, U, _, r, xo, h, fun d M1 v U1 H1 e k rm rv hR => ⟨δ, M1, U1, _, r.mono ⟨e, k, rm⟩, xo.mono ⟨e, k, rm⟩, hR, fun d2 M2 v2 U2 H2 e2 k2 rm2 rv2 hR2 => ?_⟩⟩
    refine ⟨U2, M2, d, d2, _, k2.vw, rm2, RV.mono e2 rm d v rv, rv2, hR2, fun q hq => ⟨q, rfl, ?_⟩⟩
    have g2 : Go X.K M U H M2 U2 H2 := (Go.mk e k rm).trans ⟨e2, k2, rm2⟩
    cases q with
    | false => exact ⟨false, rfl, out false M2 U2 H2 g2 hq⟩
    | true =>
      refine ⟨δ, M2, U2, _, r.mono g2, xo.mono g2, hq, fun d3 M3 v3 U3 H3 e3 k3 rm3 rv3 hR3 => ?_⟩
      exact ⟨U3, M3, d2, d3, _, k3.vw, rm3, RV.mono e3 rm2 d2 v2 rv2, rv3, hR3, fun q hq => ⟨q, rfl, out q M3 U3 H3 (g2.trans ⟨e3, k3, rm3⟩) hq⟩⟩
/-! tests -/
section
variable {ta tb : St → Mp → (Bool → Mp → Prop) → Prop}
theorem q_not (ha : PT X a (LT X xk W ta)) : PT X (.UnaryOp .Not a pos) (LT X xk W fun δ M Q => ta δ M fun k M1 => Q (!k) M1) :=
  pt_imp (pt_not ha) fun σ H Q h => by
    obtain ⟨δ, M, U, R, r, xo, h, out⟩ := h
    exact ⟨δ, M, U, _, r, xo, h, fun q M1 U1 H1 g hR => out _ M1 U1 H1 g hR⟩
theorem bool_pw {op : BoolOp} {es : List Expr} {t : TT} (h : PT X (.BoolOp op es pos) t) : PW X (.BoolOp op es pos) t := ⟨fun wh pins s σ H Q I q => h.run pins s σ H Q I q⟩
theorem pw_pt {e : Expr} {t : TT} (h : PW X e t) : PT X e t := ⟨fun pins s σ H Q I q => h.run _ pins s σ H Q I q⟩
theorem q_and {rest : List Expr} (ha : PT X a (LT X xk W ta)) (hb : PW X (.BoolOp .And (b :: rest) pos) (LT X xk W tb)) : PT X (.BoolOp .And (a :: b :: rest) pos) (LT X xk W fun δ M Q => ta δ M fun k M1 => match k with
    | true => tb δ M1 Q
    | false => Q false M1) :=
  pt_imp (pw_pt (pw_and ha hb)) fun σ H Q h => by
    obtain ⟨δ, M, U, R, r, xo, h, out⟩ := h
    refine ⟨δ, M, U, _, r, xo, h, fun q M1 U1 H1 g hR => ?_⟩
    cases q with
    | true => exact ⟨δ, M1, U1, R, r.mono g, xo.mono g, hR, fun q M2 U2 H2 g2 hR => out q M2 U2 H2 (g.trans g2) hR⟩
    | false => exact out _ M1 U1 H1 g hR
theorem q_or {rest : List Expr} (ha : PT X a (LT X xk W ta)) (hb : PW X (.BoolOp .Or (b :: rest) pos) (LT X xk W tb)) : PT X (.BoolOp .Or (a :: b :: rest) pos) (LT X xk W fun δ M Q => ta δ M fun k M1 => match k with
    | true => Q true M1
    | false => tb δ M1 Q) :=
  pt_imp (pw_pt (pw_or ha hb)) fun σ H Q h => by
    obtain ⟨δ, M, U, R, r, xo, h, out⟩ := h
    refine ⟨δ, M, U, _, r, xo, h, fun q M1 U1 H1 g hR => ?_⟩
    cases q with
    | false => exact ⟨δ, M1, U1, R, r.mono g, xo.mono g, hR, fun q M2 U2 H2 g2 hR => out q M2 U2 H2 (g.trans g2) hR⟩
    | true => exact out _ M1 U1 H1 g hR
theorem tru_of {K : PySem.W.Frag} {M : Mp} {U H : Hp} {d : D} {v : V} {k : Bool} (vw : Vw U H) (rm : RM K M U) (rv : RV K M U d v) (e : tru M d = some k) : TruV K v H k := by
  unfold tru at e
  split at e
  · rename_i e'
    have := see_non e'
    subst this
    simp only [RV] at rv; subst rv; cases e; rfl
  · rename_i b e'
    have := see_bl e'
    subst this
    simp only [RV] at rv; subst rv; cases e; rfl
  · rename_i b e'
    have := see_int e'
    subst this
    simp only [RV] at rv; subst rv; cases e; rfl
  · rename_i ds e'
    have := see_tup e'
    subst this
    simp only [RV] at rv
    obtain ⟨a, vs, rfl, hq, q⟩ := rv
    cases e
    refine .inr (.inl ⟨vs, vw.sqT hq, ?_⟩)
    have l := q.length
    cases vs <;> cases ds <;> simp_all
  · rename_i ds e'
    obtain ⟨a, vs, rfl, hq, q⟩ := lstM_at vw rm (see_lst e') rv
    cases e
    refine .inl ⟨vs, .of hq, ?_⟩
    have l := q.length
    cases vs <;> cases ds <;> simp_all
  · rename_i ds e'
    have := see_scr e'
    subst this
    simp only [RV] at rv
    obtain ⟨a, vs, rfl, hq, q⟩ := rv
    cases e
    refine .inl ⟨vs, (vw.sqS hq).sq, ?_⟩
    have l := q.length
    cases vs <;> cases ds <;> simp_all
  · rename_i ds e'
    obtain ⟨a, vs, rfl, hq, q⟩ := see_dic vw rm e' rv
    cases e
    refine .inr (.inr ⟨vs, hq, ?_⟩)
    have l := q.length
    cases vs <;> cases ds <;> simp_all
  · cases e
theorem noTest_is {e : Expr} {env : Env} (h : noTest e = true) : ∀ whole, isTrue e env whole = (do let v ← whole; standAt e.pos; holding [v] (truthy v)) := by
  intro wh
  cases e <;> first
    | rfl
    | (rename_i op _ _; cases op <;> first | rfl | (simp [noTest] at h))
    | (simp [noTest] at h)
theorem q_tst (hn : noTest a = true) (ha : PE X a (LE X xk W wa)) : PT X a (LT X xk W fun δ M Q => wa δ M fun x M1 => match tru M1 x with
    | some k => Q k M1
    | none => False) :=
  pt_imp (pt_truth ha (noTest_is hn)) fun σ H Q h => by
    obtain ⟨δ, M, U, R, r, xo, h, out⟩ := h
    refine ⟨δ, M, U, _, r, xo, h, fun d M1 v U1 H1 e k rm rv hR => ?_⟩
    split at hR
    · rename_i q eq
      exact ⟨q, tru_of k.vw rm rv eq, out q M1 U1 H1 ⟨e, k, rm⟩ hR⟩
    · exact hR.elim
theorem r_ite (hc : PT X c (LT X xk W ta)) (ha : PE X a (LE X xk W wa)) (hb : PE X b (LE X xk W wb)) : PE X (.IfExp c a b pos) (LE X xk W fun δ M Q => ta δ M fun k M1 => match k with
    | true => wa δ M1 Q
    | false => wb δ M1 Q) :=
  pe_imp (pe_ifExp hc ha hb) fun σ H Q h => by
    obtain ⟨δ, M, U, R, r, xo, h, out⟩ := h
    refine ⟨δ, M, U, _, r, xo, h, fun q M1 U1 H1 g hR => ?_⟩
    cases q with
    | true => exact ⟨δ, M1, U1, R, r.mono g, xo.mono g, hR, out.mono g.ex g.kp⟩
    | false => exact ⟨δ, M1, U1, R, r.mono g, xo.mono g, hR, out.mono g.ex g.kp⟩
end
/-! lists of expressions -/
section
variable {es : List Expr} {wl : St → Mp → (List D → Mp → Prop) → Prop}
theorem r_nil : PA X [] (LL X xk W 0 fun _ M Q => Q [] M) := pa_imp pa_nil fun σ H Q h => by
  obtain ⟨δ, M, U, R, r, xo, h, out⟩ := h
  exact out [] M [] U H r.here (by simp only [RVs]) rfl h
theorem r_cons {n : Nat} (hn : noStar a = true) (ha : PE X a (LE X xk W wa)) (hl : PA X es (LL X xk W n wl)) : PA X (a :: es) (LL X xk W (n + 1) fun δ M Q => wa δ M fun x M1 => wl δ M1 fun xs M2 => Q (x :: xs) M2) :=
  pa_imp (pa_cons ha hl (star_cons hn)) fun σ H Q h => by
    obtain ⟨δ, M, U, R, r, xo, h, out⟩ := h
    refine ⟨δ, M, U, _, r, xo, h, fun d M1 v U1 H1 e k rm rv hR => ⟨δ, M1, U1, _, r.mono ⟨e, k, rm⟩, xo.mono ⟨e, k, rm⟩, hR, fun ds M2 vs U2 H2 g2 rvs hl hR2 => ?_⟩⟩
    refine out (d :: ds) M2 (v :: vs) U2 H2 ((Go.mk e k rm).trans g2) ?_ (by simp [hl]) hR2
    simp only [RVs]
    exact ⟨v, vs, rfl, RV.mono g2.ex rm d v rv, rvs⟩
theorem r_tup {n : Nat} (hz : n ≤ 1000) (hl : PA X es (LL X xk W n wl)) : PE X (.Tuple es j pos) (LE X xk W fun δ M Q => wl δ M fun ds M1 => Q (.tup ds) M1) :=
  pe_imp (pe_tupF hl) fun σ H Q h => by
    obtain ⟨δ, M, U, R, r, xo, h, out⟩ := h
    refine ⟨δ, M, U, _, r, xo, h, fun ds M1 vs U1 H1 g rv hl hR => ⟨?_, (out.mono g.ex g.kp).tup g.kp.vw g.rm rv hR⟩⟩
    rw [rv.length, hl, lineLIM]
    exact Nat.le_trans hz (by decide)
theorem r_lst (m : Bool) {n : Nat} (hz : n ≤ 1000) (hl : PA X es (LL X xk W n wl)) : PE X (.List es pos) (LE X xk W fun δ M Q => wl δ M fun ds M1 => mkN m ds M1 Q) :=
  pe_imp (pe_lst hl) fun σ H Q h => by
    obtain ⟨δ, M, U, R, r, xo, h, out⟩ := h
    refine ⟨δ, M, U, _, r, xo, h, fun ds M1 vs U1 H1 g rv hl hR => ⟨?_, fun p hp => (out.mono g.ex g.kp).lst g.kp.vw g.rm rv hR hp⟩⟩
    rw [rv.length, hl, lineLIM]
    exact Nat.le_trans hz (by decide)
theorem r_dct (m : Bool) : PE X (.Dict [] [] pos) (LE X xk W fun _ M Q => match m with
    | true => ∀ p, M p = none → Q (.ref p) (up M p (.dic []))
    | false => Q (.dic []) M) :=
  pe_imp pe_dnewK fun σ H Q h => by
    obtain ⟨δ, M, U, R, r, xo, h, out⟩ := h
    exact fun p hp => out.dct r.vw r.rm (m := m) h hp
theorem r_blt {n : Nat} (g : GX X G C Γ k W) (m : Bool) (f : BF) {x : Str} {p : Pos} (hx : x = Str.ofString f.nm) (hg : glB C.sc x = true) (hf : x ∈ G.free) (hp : allPlain (a :: es) = true) (ha : PA X (a :: es) (LL X xk W n wl)) :
    PE X (.Call (.Name x p) (a :: es) [] pos) (LE X xk W fun δ M Q => wl δ M fun ds M1 => bfn m f ds M1 Q) := by
  rw [← g.sc] at hg
  obtain ⟨q1, q2, q3⟩ := glB_gl hg
  have hm := g.free x hf
  simp only [allPlain, Bool.and_eq_true] at hp
  have hv : bootBuiltins x = some f.val := by rw [hx]; exact boot_bf f
  have hc := bf_ok g.calm g.room.gd g.hu g.sys m f
  have imp : ∀ σ H Q, LE X xk W (fun δ M Q => wl δ M fun ds M1 => bfn m f ds M1 Q) σ H Q → tCB (rBf X.K m f) (LL X xk W n wl) σ H Q := fun σ H Q h => LL.one h
  cases f <;> first
    | exact pe_imp (pe_callB hc q1 hm hv ha q3 q2 (star_cons hp.1) (star_any hp.2)) imp
    | exact pe_imp (pe_callTy hc q1 hm hv ha q3 q2 (star_cons hp.1) (star_any hp.2)) imp
end
theorem r_idx (g : GX X G C Γ k W) (hs : noSlc b = true) (ha : PE X a (LE X xk W wa)) (hb : PE X b (LE X xk W wb)) : PE X (.Subscript a b pos) (LE X xk W fun δ M Q => wa δ M fun x M1 => wb δ M1 fun y M2 => ixD x y M2 Q) :=
  pe_imp (pe_ix (ixD_ok g.hu) ha hb (slc_plain hs)) fun σ H Q h => LE.two h
/-! slices -/
section
variable {lo hi : Option Expr} {wl wh : St → Mp → (Option Int → Mp → Prop) → Prop}
theorem r_onone : PO X none (LO X xk W fun _ M Q => Q none M) := po_imp po_none fun σ H Q h => by
  obtain ⟨δ, M, U, R, r, xo, h, out⟩ := h
  exact out none M U H r.here h
theorem r_osome (ha : PE X a (LE X xk W wa)) : PO X (some a) (LO X xk W fun δ M Q => wa δ M fun x M1 => match x with
    | .int i => Q (some i) M1
    | _ => False) := po_imp (po_some ha) fun σ H Q h => by
  obtain ⟨δ, M, U, R, r, xo, h, out⟩ := h
  refine ⟨δ, M, U, _, r, xo, h, fun d M1 v U1 H1 e k rm rv hR => ?_⟩
  split at hR
  · simp only [RV] at rv
    exact ⟨_, rv, out _ M1 U1 H1 ⟨e, k, rm⟩ hR⟩
  · exact hR.elim
theorem r_slc (m : Bool) {p2 : Pos} (ha : PE X a (LE X xk W wa)) (hl : PO X lo (LO X xk W wl)) (hh : PO X hi (LO X xk W wh)) :
    PE X (.Subscript a (.Slice lo hi none p2) pos) (LE X xk W fun δ M Q => wa δ M fun x M1 => wl δ M1 fun l M2 => wh δ M2 fun h M3 => slD m x l h M3 Q) :=
  pe_imp (pe_slice (slD_ok m) ha hl hh) fun σ H Q h => by
    obtain ⟨δ, M, U, R, r, xo, h, out⟩ := h
    refine ⟨δ, M, U, _, r, xo, h, fun d M1 v U1 H1 e k rm rv hR => ⟨δ, M1, U1, _, r.mono ⟨e, k, rm⟩, xo.mono ⟨e, k, rm⟩, hR, fun l M2 U2 H2 g2 hR2 => ?_⟩⟩
    have g12 : Go X.K M U H M2 U2 H2 := (Go.mk e k rm).trans g2
    refine ⟨δ, M2, U2, _, r.mono g12, xo.mono g12, hR2, fun h' M3 U3 H3 g3 hR3 => ?_⟩
    exact ⟨U3, M3, d, R, g3.kp.vw, g3.rm, RV.mono (g2.trans g3).ex rm d v rv, hR3, out.mono (g12.trans g3).ex (g12.trans g3).kp⟩
end
end
end Pw
set_option Elab.async false
set_option linter.all false
set_option maxRecDepth 100000
set_option maxHeartbeats 1000000
namespace Pw
open PySem PySem.Spec PyProof.Rows L2

/-! ### x[::-1] of a tuple -/
theorem rev_places (n : Nat) : Builtin.Slice.slicePlaces ((n : Int) - 1) (-1) (-1) = n := by
  unfold Builtin.Slice.slicePlaces
  rw [if_neg (by omega)]
  split
  · have e : ((n : Int) - 1 - -1 - 1) / -(-1) = (n : Int) - 1 := by
      have : (-(-1) : Int) = 1 := by omega
      rw [this, Int.ediv_one]; omega
    rw [e]; omega
  · omega
theorem filterMap_all {α β : Type} {f : α → Option β} {g : α → β} : ∀ {l : List α}, (∀ k ∈ l, f k = some (g k)) → l.filterMap f = l.map g
  | [], _ => rfl
  | a :: l, h => by
    rw [List.filterMap_cons, h a (by simp), List.map_cons, filterMap_all fun k hk => h k (by simp [hk])]
theorem rev_pick (xs : Array Value) : ((List.range xs.size).filterMap fun (k : Nat) => xs[(((xs.size : Int) - 1) + (k : Int) * (-1)).toNat]?).toArray = xs.toList.reverse.toArray := by
  congr 1
  have e : ∀ k ∈ List.range xs.size, xs[(((xs.size : Int) - 1) + (k : Int) * (-1)).toNat]? = some (xs.toList.reverse.getD k .none) := by
    intro k hk
    rw [List.mem_range] at hk
    have e1 : (((xs.size : Int) - 1) + (k : Int) * (-1)).toNat = xs.size - 1 - k := by omega
    rw [e1]
    have h2 : xs.size - 1 - k < xs.size := by omega
    rw [Array.getElem?_eq_getElem h2, List.getD_eq_getElem?_getD, List.getElem?_reverse (by simpa using hk)]
    simp [h2]
  rw [filterMap_all e]
  apply List.ext_getElem?
  intro i
  rw [List.getElem?_map]
  by_cases hi : i < xs.size
  · rw [List.getElem?_range hi]
    simp only [Option.map_some, List.getD_eq_getElem?_getD]
    have : i < xs.toList.reverse.length := by simpa using hi
    rw [List.getElem?_eq_getElem this]; rfl
  · rw [List.getElem?_eq_none (by simpa using hi), List.getElem?_eq_none (by simpa using hi)]
    rfl
section
variable {prog : Program} {w : World} {A : Around} {E : Value → Shared → Prop} {s : Shared}
theorem sliceApplied_rev {sl : Addr} {vl vu vs : Value} {n : Nat} {Q : Int × Int × Nat → Shared → Prop} (hs : s.heap.IsSliceOf sl vl vu vs) (pl : IsPart vl none) (pu : IsPart vu none) (pv : IsPart vs (some (-1)))
    (h : Q ((n : Int) - 1, -1, n) s) : wpAny (model prog w) A (Builtin.Slice.sliceApplied (.ref sl) (pure (n : Int))) Q E s := by
  obtain ⟨os, hos, hcs, hds⟩ := id hs
  unfold Builtin.Slice.sliceApplied Builtin.Slice.sliceFields
  refine wpAny_bind (wpAny_bind (wpAny_field hos hds (x := vl) rfl (wpAny_bind (wpAny_field hos hds (x := vu) rfl (wpAny_bind (wpAny_field hos hds (x := vs) rfl (wpAny_pure ?_)))))))
  refine wpAny_bind (HT.slicePart_ pv ?_)
  show wpAny _ _ (if ((-1 : Int) == 0) = true then _ else _) _ _ s
  rw [if_neg (by decide)]
  refine wpAny_bind (HT.slicePart_ pl (wpAny_bind (HT.slicePart_ pu (wpAny_bind (wpAny_pure ?_)))))
  show wpAny _ _ (match Builtin.Slice.sliceAdjust none none (-1) (n : Int) with | (lo, hi) => pure (lo, (-1 : Int), Builtin.Slice.slicePlaces lo hi (-1))) _ _ s
  show wpAny _ _ (pure ((n : Int) - 1, (-1 : Int), Builtin.Slice.slicePlaces ((n : Int) - 1) (-1) (-1))) _ _ s
  rw [rev_places]
  exact wpAny_pure h
theorem getItem_tuple_rev {t sl : Addr} {items : Array Value} {vl vu vs : Value} {Q : Value → Shared → Prop} (ht : IsTup s.heap t items) (hs : s.heap.IsSliceOf sl vl vu vs) (pl : IsPart vl none) (pu : IsPart vu none) (pv : IsPart vs (some (-1)))
    (h : Q (.ref s.heap.objs.size) { s with heap := s.heap.push { cls := .type "tuple", data := .seq items.toList.reverse.toArray } })
    (hsz : items.size ≤ sizeLine) : wpAny (model prog w) A (getItem (.ref t) (.ref sl)) Q E s := by
  have htake : sizeOk (.seq items.toList.reverse.toArray) := by
    show items.toList.reverse.toArray.size ≤ sizeLine
    simpa using hsz
  obtain ⟨os, hos, hcs, hds⟩ := id hs
  have hTs : s.TypeIs (.ref sl) "slice" := ⟨os, hos, hcs⟩
  unfold getItem
  try with_reducible refine wpAny_holding ?_
  first | refine wpAny_bind (wpAny_pure ?_) | skip
  refine wpAny_bind (wpAny_sequenceKey ht.typeIs (by decide) ?_)
  refine wpAny_bind (wpAny_callSpecial?_slot (name := Str.ofString "__getitem__") ht.typeIs PyProof.Rows.slot_tuple_getitem
    (wpAny_call_entry PyProof.Rows.slot_tuple_getitem ht.typeIs entry_tuple_getitem ?_ (args_tuple_getitem _ _)))
  show wpAny _ _ (Builtin.Tuple.tupleItemsOf (.ref t) >>= _) _ _ s
  refine wpAny_bind (tupleItemsOf_ ht ?_)
  refine wpAny_bind (wpAny_typeOf hTs ?_)
  rw [if_pos (by decide)]
  refine wpAny_bind (sliceApplied_rev hs pl pu pv ?_)
  have hno : ¬ ((((items.size : Int) - 1) == 0 && (-1 : Int) == 1 && items.size == items.size) = true) := by
    simp
  show wpAny _ _ (if (((items.size : Int) - 1) == 0 && (-1 : Int) == 1 && items.size == items.size) = true then _ else _) _ _ s
  rw [if_neg hno, rev_pick]
  first
    | exact wpAny_bind (m := Builtin.Tuple.tupleExact _) (wpAny_newObj_type (wpAny_pure ⟨_, rfl, wpAny_pure h⟩) htake)
    | exact wpAny_bind (m := Builtin.Tuple.tupleExact _) (wpAny_newObj_type (wpAny_bind (wpAny_pure (wpAny_pure ⟨_, rfl, wpAny_pure h⟩))) htake)
    | exact wpAny_bind (wpAny_bind (m := Builtin.Tuple.tupleExact _) (wpAny_newObj_type (wpAny_pure (wpAny_pure ⟨_, rfl, wpAny_pure h⟩)) htake))
    | exact wpAny_bind (wpAny_bind (m := Builtin.Tuple.tupleExact _) (wpAny_newObj_type (wpAny_pure ⟨_, rfl, wpAny_pure h⟩) htake))
end
section
variable {X : Cx} {xk : XD} {W : WX} {G : Gc} {C : Ct} {Γ : String → SpD} {k : Nat} {a b c : Expr} {wa wb wc : St → Mp → DK → Prop} {pos : Pos}
/-- x[::-1], a list or a tuple -/
def tRev (K : PySem.W.Frag) (te : TE) : TE := fun σ H Q => te σ H fun x H1 => ∃ a xs, x = .ref a ∧ ((SqL K H1 a xs ∧ ∀ p, H1 p = none → Q (.ref p) (upd H1 p (.lst xs.reverse))) ∨ (SqT K H1 a xs ∧ NewT H1 xs.reverse Q))
theorem pe_rev {e : Expr} {te : TE} {k : Nat} {p1 p2 p3 pos : Pos} (he : PE X e te) : PE X (.Subscript e (.Slice none none (some (.UnaryOp .USub (.Constant (.int 1) k p1) p2)) p3) pos) (tRev X.K te) := by
  refine ⟨fun pins s σ H Q I h => ?_⟩
  refine Subscript_ (thn (he.run pins s σ H _ I h) fun v s1 ⟨x, H1, I1, r1, q1⟩ => ?_)
  obtain ⟨a, xs, ex, q⟩ := q1
  subst ex
  cases r1
  have hst : PO X (some (.UnaryOp .USub (.Constant (.int 1) k p1) p2)) (tPart (tUn (rU fun i => .int (-i)) (tC (.int 1)))) := po_some (pe_un un_neg pe_int)
  refine wpAny_Slice (thn (po_none.run pins s1 σ H1 (fun o H2 => o = none ∧ H2 = H1) I1 ⟨rfl, rfl⟩) fun vl s2 ⟨l, H2, I2, pl, el, e2⟩ => ?_)
  subst el e2
  refine thn (po_none.run pins s2 σ H2 (fun o H3 => o = none ∧ H3 = H2) I2 ⟨rfl, rfl⟩) fun vu s3 ⟨u, H3, I3, pu, eu, e3⟩ => ?_
  subst eu e3
  refine thn (hst.run pins s3 σ H3 (fun o H4 => o = some (-1) ∧ H4 = H3) I3 ⟨1, rfl, -1, rfl, rfl, rfl⟩) fun vs s4 ⟨o, H4, I4, ps, eo, e4⟩ => ?_
  subst eo e4
  have I5 : Inv X pins σ H4 { s4 with heap := s4.heap.push { cls := .type "slice", data := .fields #[vl, vu, vs] } } := I4.kept (t' := s4.toks) fun b ob q => Heap.get?_push_of_some _ q
  rcases q with ⟨hx, q⟩ | ⟨hx, q⟩
  · obtain ⟨its, r, ht, hz⟩ := I5.list hx
    have hlen := r.length
    refine tail_any (ops := [.ref a, .ref s4.heap.objs.size]) ht.isList.typeIs (PySem.slot_list_getitem.lookup) ?_ (by with_unfolding_all rfl)
    refine wpAny_getItem_list_slice ht.isList (Heap.IsSliceOf.new _ vl vu vs) pl pu ps (by decide) ?_ (by rw [List.size_toArray]; omega)
    rw [PySem.W.krv_pick]
    refine ⟨.ref _, _, I5.laid (t' := s4.toks) (o := .lst xs.reverse) (fun b ob q => Heap.get?_push_of_some _ q) (Nat.le_refl _) ?_, rfl, q _ (I5.hok.fresh (Nat.le_refl _))⟩
    exact ⟨by rw [List.length_reverse]; exact hz, _, 0, r.reverse, Heap.get?_push_size _ rfl⟩
  · obtain ⟨its, r, ht, hz⟩ := I5.tuple hx
    have hlen := r.length
    refine tail_any (ops := [.ref a, .ref s4.heap.objs.size]) ht.typeIs (PyProof.Rows.slot_tuple_getitem.lookup) ?_ (by with_unfolding_all rfl)
    refine getItem_tuple_rev ht (Heap.IsSliceOf.new _ vl vu vs) pl pu ps ?_ (by rw [List.size_toArray]; omega)
    exact newT_ok I5 r.reverse (by rw [List.length_reverse]; exact hz) q s4.toks
theorem r_revs (m : Bool) {j : Nat} {p1 p2 p3 : Pos} (ha : PE X a (LE X xk W wa)) : PE X (.Subscript a (.Slice none none (some (.UnaryOp .USub (.Constant (.int 1) j p1) p2)) p3) pos) (LE X xk W fun δ M Q => wa δ M fun x M1 => match see M1 x with
    | .tup ds => Q (.tup ds.reverse) M1
    | .lst ds => mkN m ds.reverse M1 Q
    | _ => False) :=
  pe_imp (pe_rev ha) fun σ H Q h => by
    obtain ⟨δ, M, U, R, r, xo, h, out⟩ := h
    refine ⟨δ, M, U, _, r, xo, h, fun d M1 v U1 H1 e k rm rv hR => ?_⟩
    split at hR
    · rename_i ds e1
      have e2 := see_tup e1
      subst e2
      simp only [RV] at rv
      obtain ⟨p, vs, rfl, hq, q⟩ := rv
      exact ⟨p, vs, rfl, .inr ⟨k.vw.sqT hq, (out.mono e k).tup k.vw rm q.rev hR⟩⟩
    · rename_i ds e1
      obtain ⟨p, vs, rfl, hq, q⟩ := lstM_at k.vw rm (see_lst e1) rv
      exact ⟨p, vs, rfl, .inl ⟨.of hq, fun l hl => (out.mono e k).lst k.vw rm q.rev hR hl⟩⟩
    · exact hR.elim
/-! isinstance -/
theorem boot_ty {t : String} (h : okTy t = true) : bootBuiltins (Str.ofString t) = some (.type t) := by
  have h := okTy_mem h
  simp only [List.mem_cons, List.not_mem_nil, or_false] at h
  rcases h with h | h | h | h | h | h <;> subst h <;> decide +kernel
theorem boot_isi : bootBuiltins (Str.ofString "isinstance") = some (.builtin "isinstance") := by decide +kernel
theorem nameB_of (g : GX X G C Γ k W) {f : String} {e : Expr} (h : nameB C G f e = true) : ∃ p, e = .Name (Str.ofString f) p ∧ Gl X (Str.ofString f) ∧ X.mg (Str.ofString f) = none ∧ ((Str.ofString f) == ("__debug__" : Str)) = false ∧ Str.ofString f ≠ "__name__" := by
  unfold nameB at h
  split at h
  · rename_i x p
    simp only [Bool.and_eq_true, decide_eq_true_eq] at h
    obtain ⟨⟨rfl, h2⟩, h3⟩ := h
    rw [← g.sc] at h2
    obtain ⟨q1, q2, q3⟩ := glB_gl h2
    exact ⟨p, rfl, q1, g.free _ h3, q2, q3⟩
  · cases h
theorem ty_one (g : GX X G C Γ k W) {t : String} {e : Expr} (h : nameB C G t e = true) (ht : okTy t = true) : PE X e (tC (.ty t)) := by
  obtain ⟨p, rfl, q1, q2, q3, q4⟩ := nameB_of g h
  exact pe_bltn q1 q2 (boot_ty ht) rfl q4 q3
theorem ty_all (g : GX X G C Γ k W) : ∀ {ts : List String} {es : List Expr}, es.length = ts.length → (∀ p ∈ ts.zip es, nameB C G p.1 p.2 = true ∧ okTy p.1 = true) → PA X es (fun _ H Q => Q (ts.map V.ty) H)
  | [], [], _, _ => pa_imp pa_nil fun _ _ _ h => h
  | t :: ts, e :: es, hl, h => by
    have h1 : nameB C G t e = true ∧ okTy t = true := h (t, e) (by simp)
    have h2 := ty_all g (ts := ts) (es := es) (by simpa using hl) fun p hp => h p (by simp [hp])
    obtain ⟨p, e1, _⟩ := nameB_of g h1.1
    exact pa_imp (pa_cons (ty_one g h1.1 h1.2) h2 (star_cons (by rw [e1]; rfl))) fun _ _ _ h => h
  | [], _ :: _, hl, _ => by simp at hl
  | _ :: _, [], hl, _ => by simp at hl
theorem clsV_map : ∀ ts : List String, Paired ClsV (ts.map V.ty) (ts.map Value.type)
  | [] => .nil
  | t :: ts => .cons (.ty t) (clsV_map ts)
theorem r_isi (g : GX X G C Γ k W) {tys : List String} {f t : Expr} (hf : nameB C G "isinstance" f = true) (ht : tysB C G tys t = true) (hn : noStar a = true) (ha : PE X a (LE X xk W wa)) :
    PE X (.Call f [a, t] [] pos) (LE X xk W fun δ M Q => wa δ M fun x M1 => match nm (see M1 x) with
      | some n => Q (.bl (tys.any fun t => isI1 n t)) M1
      | none => False) := by
  obtain ⟨p, rfl, q1, q2, q3, q4⟩ := nameB_of g hf
  unfold tysB at ht
  split at ht
  · rename_i x p' t'
    simp only [Bool.and_eq_true] at ht
    have pt := ty_one g ht.1 ht.2
    refine pe_imp (pe_callB call_isi q1 q2 boot_isi (pa_cons ha (pa_cons pt pa_nil (star_cons rfl)) (star_cons hn)) q4 q3 (star_cons hn) (star_any rfl)) fun σ H Q h => ?_
    obtain ⟨δ, M, U, R, r, xo, h, out⟩ := h
    refine ⟨δ, M, U, _, r, xo, h, fun d M1 v U1 H1 e k rm rv hR => ?_⟩
    split at hR
    · rename_i n en
      obtain ⟨ty, hn⟩ := tyX_of k.vw rm en rv
      exact ⟨v, .ty t', _, _, _, rfl, .ty t', ty, kit_one g.isi hn ht.2, (out.mono e k).bl k.vw rm (by simpa using hR)⟩
    · exact hR.elim
  · rename_i es j p' 
    simp only [Bool.and_eq_true, decide_eq_true_eq, List.all_eq_true] at ht
    have pt := ty_all g ht.1.1 ht.2
    refine pe_imp (pe_callB call_isiT q1 q2 boot_isi (pa_cons ha (pa_cons (pe_tup pt) pa_nil (star_cons rfl)) (star_cons hn)) q4 q3 (star_cons hn) (star_any rfl)) fun σ H Q h => ?_
    obtain ⟨δ, M, U, R, r, xo, h, out⟩ := h
    refine ⟨δ, M, U, _, r, xo, h, fun d M1 v U1 H1 e k rm rv hR => ?_⟩
    split at hR
    · rename_i n en
      obtain ⟨ty, hn⟩ := tyX_of k.vw rm en rv
      have ok : ∀ t ∈ tys, okTy t = true := by
        intro t ht'
        obtain ⟨i, hi, rfl⟩ := List.mem_iff_getElem.mp ht'
        exact (ht.2 (tys[i], es[i]'(by have := ht.1.1; omega)) (List.mem_iff_getElem.mpr ⟨i, by have := ht.1.1; simp; omega, by simp⟩)).2
      have few : (tys.map V.ty).length ≤ sizeLine := by
        rw [List.length_map, lineLIM]
        exact Nat.le_trans ht.1.2 (by decide)
      refine ⟨few, fun p hp => ⟨v, p, tys.map V.ty, _, _, _, rfl, upd_same, clsV_map tys, ?_, kit_any g.isi hn ok, ?_⟩⟩
      · have k2 := Kp.new k.vw (o := .tup (tys.map V.ty)) hp
        exact (tyX_of k2.vw (rm.new (k.vw.none hp)) en (RV.mono (Ext.new (k.vw.none hp)) rm d v rv)).1
      · exact out (.bl _) M1 _ _ _ (e.trans (Ext.new (k.vw.none hp))) (k.trans (Kp.new k.vw hp)) (rm.new (k.vw.none hp)) (by simp only [RV]) hR
    · exact hR.elim
  · cases ht
/-! methods -/
theorem mfacts (k : MK) (f : MF) (h : okM k f = true) : PlainAttrs k.ty ∧ Slot k.ty (Str.ofString f.nm) (mid k f) ∧ typeOf (.builtin (mid k f)) = pure (.type "method_descriptor") := by
  cases k <;> cases f <;> first
    | exact absurd h Bool.false_ne_true
    | exact ⟨PySem.F.plainAttrs_list, PySem.F.slot_list_append, PySem.F.type_list_append⟩
    | exact ⟨PySem.F.plainAttrs_list, PySem.F.slot_list_pop, PySem.F.type_list_pop⟩
    | exact ⟨PySem.F.plainAttrs_list, PySem.F.slot_list_insert, PySem.F.type_list_insert⟩
    | exact ⟨PySem.F.plainAttrs_list, PySem.F.slot_list_remove, PySem.F.type_list_remove⟩
    | exact ⟨PySem.F.plainAttrs_list, PySem.F.slot_list_index, PySem.F.type_list_index⟩
    | exact ⟨PySem.F.plainAttrs_list, PySem.F.slot_list_count, PySem.F.type_list_count⟩
    | exact ⟨PySem.F.plainAttrs_list, PySem.F.slot_list_extend, PySem.F.type_list_extend⟩
    | exact ⟨PySem.F.plainAttrs_list, PySem.F.slot_list_clear, PySem.F.type_list_clear⟩
    | exact ⟨PySem.F.plainAttrs_list, PySem.F.slot_list_reverse, PySem.F.type_list_reverse⟩
    | exact ⟨PySem.F.plainAttrs_tuple, PySem.F.slot_tuple_count, PySem.F.type_tuple_count⟩
    | exact ⟨PySem.F.plainAttrs_tuple, PySem.F.slot_tuple_index, PySem.F.type_tuple_index⟩
    | exact ⟨PySem.F.plainAttrs_dict, PySem.F.slot_dict_get, PySem.F.type_dict_get⟩
    | exact ⟨PySem.F.plainAttrs_dict, PySem.F.slot_dict_setdefault, PySem.F.type_dict_setdefault⟩
    | exact ⟨PySem.F.plainAttrs_str, PySem.F.slot_str_join, PySem.F.type_str_join⟩
    | exact ⟨PySem.F.plainAttrs_str, PySem.F.slot_str_split, PySem.F.type_str_split⟩
    | exact ⟨PySem.F.plainAttrs_str, PySem.F.slot_str_strip, PySem.F.type_str_strip⟩
    | exact ⟨PySem.F.plainAttrs_str, PySem.F.slot_str_upper, PySem.F.type_str_upper⟩
theorem tyIs_of {pins : List (Addr × Obj)} {σ : L2.St} {s : Shared} {U H : Hp} {M : Mp} {d : D} {v : V} {u : Value} {f : MF} {m : MK} (I : Inv X pins σ H s) (vw : Vw U H) (rm : RM X.K M U) (rv : RV X.K M U d v) (r : RelV v u) (e : rcv M f d = some m) :
    okM m f = true ∧ s.TypeIs u m.ty ∧ ∀ a, u = .ref a → ∃ ob, s.heap.get? a = some ob ∧ ob.dict = none := by
  have lst : ∀ {a : Addr} {vs : List V}, v = .ref a → SqL X.K H a vs → s.TypeIs u "list" ∧ ∀ a, u = .ref a → ∃ ob, s.heap.get? a = some ob ∧ ob.dict = none := by
    intro a vs ev hq
    subst ev
    exact tyV_is I r (.inl ⟨rfl, vs, hq⟩)
  unfold rcv at e
  split at e
  · rename_i ds e1
    split at e
    · rename_i hk
      cases e
      obtain ⟨a, vs, rfl, hq, q⟩ := lstM_at vw rm (see_lst e1) rv
      exact ⟨hk, lst rfl (.of hq)⟩
    · cases e
  · rename_i ds e1
    split at e
    · rename_i hk
      cases e
      have e2 := see_scr e1
      subst e2
      simp only [RV] at rv
      obtain ⟨a, vs, rfl, hq, q⟩ := rv
      exact ⟨hk, lst rfl (vw.sqS hq).sq⟩
    · cases e
  · rename_i ds e1
    split at e
    · rename_i hk
      cases e
      have e2 := see_tup e1
      subst e2
      simp only [RV] at rv
      obtain ⟨a, vs, rfl, hq, q⟩ := rv
      cases r
      refine ⟨hk, ?_⟩
      rcases vw.sqF hq with ⟨o, h, hd⟩ | ⟨o, its, n, h1, h2, h3, h4, _⟩
      · obtain ⟨ho, _, _, _, o', h1, h2, _⟩ := I.hok a _ h
        rw [ho] at h1
        cases h1
        refine ⟨⟨o, ho, h2⟩, fun b eb => ?_⟩
        cases eb
        exact ⟨o, ho, hd⟩
      · refine ⟨⟨o, I.kIn _ _ h1, h2⟩, fun b eb => ?_⟩
        cases eb
        exact ⟨o, I.kIn _ _ h1, h3⟩
    · cases e
  · rename_i ds e1
    split at e
    · rename_i hk
      cases e
      obtain ⟨a, us, rfl, hq, q⟩ := see_dic vw rm e1 rv
      exact ⟨hk, tyV_is I r (.inr (.inr (.inl ⟨rfl, .inl ⟨us, hq⟩⟩)))⟩
    · cases e
  · rename_i z e1
    split at e
    · rename_i hk
      cases e
      have e2 := see_str e1
      subst e2
      simp only [RV] at rv
      subst rv
      exact ⟨hk, tyV_is I r (show tyV X.K "str" (.str z) H from rfl)⟩
    · cases e
  · cases e
theorem base_of {o : Expr} {n : Str} {env : Env} {wh : Sem Value} (h : plainTo o = true) : attributeBase o n env wh = wh := by
  unfold attributeBase
  split
  · rename_i id p pos
    have h : decide (id ≠ ("super" : Str)) = true := h
    simp only [decide_eq_true_eq] at h
    have h2 : (id != ("super" : Str)) = true := by simpa using h
    simp only [h2, Bool.true_or, if_true, pure_bind]
  · rfl
theorem r_meth0 (g : GX X G C Γ k W) (m : Bool) (f : MF) {apos cpos : Pos} (hb : plainTo a = true) (hl : (apos.endLine == cpos.line) = true) (ha : PE X a (LE X xk W wa)) :
    PE X (.Call (.Attribute a (Str.ofString f.nm) apos) [] [] cpos) (LE X xk W fun δ M Q => wa δ M fun x M1 => match rcv M1 f x with
      | some k => mth m k f x [] M1 Q
      | none => False) := by
  refine ⟨fun pins s σ H Q I h => ?_⟩
  obtain ⟨δ, M, U, R, r, xo, h, out⟩ := h
  refine wpAny_Call_method0_late (base_of hb) hl (thn (ha.run pins s σ H (fun v H1 => ∃ d M1 U1, Go X.K M U H M1 U1 H1 ∧ RV X.K M1 U1 d v ∧ (match rcv M1 f d with
      | some k => mth m k f d [] M1 R
      | none => False)) I ⟨δ, M, U, _, r, xo, h, fun d M1 v U1 H1 e k rm rv hR => ⟨d, M1, U1, ⟨e, k, rm⟩, rv, hR⟩⟩) fun u s1 ⟨v, H1, I1, r1, d, M1, U1, g1, rv, hR⟩ => ?_)
  split at hR
  · rename_i mk e
    obtain ⟨hk, t1, t2⟩ := tyIs_of I1 g1.kp.vw g1.rm rv r1 e
    obtain ⟨f1, f2, f3⟩ := mfacts mk f hk
    exact ⟨mk.ty, mid mk f, f1, f2, f3, t1, t2, Calls.callWith_builtin rfl (PySem.evalArgs_none (mt_ok g.hu g.sys m mk f pins s1 σ H1 v [] u [] Q I1 r1 .nil ⟨U1, M1, d, [], R, g1.kp.vw, g1.rm, rv, by simp only [RVs], hR, out.mono g1.ex g1.kp⟩))⟩
  · exact hR.elim
theorem r_meth (g : GX X G C Γ k W) (m : Bool) (f : MF) {e : Expr} {es : List Expr} {n : Nat} {wl : St → Mp → (List D → Mp → Prop) → Prop} {apos cpos : Pos} (hb : plainTo a = true) (hl : (apos.endLine == cpos.line) = true) (hp : allPlain (e :: es) = true) (hn : n ≤ 20) (hlen : (e :: es).length = n)
    (ha : PE X a (LE X xk W wa)) (hes : PA X (e :: es) (LL X xk W n wl)) :
    PE X (.Call (.Attribute a (Str.ofString f.nm) apos) (e :: es) [] cpos) (LE X xk W fun δ M Q => wa δ M fun x M1 => match rcv M1 f x with
      | some k => wl δ M1 fun ds M2 => mth m k f x ds M2 Q
      | none => False) := by
  refine ⟨fun pins s σ H Q I h => ?_⟩
  obtain ⟨δ, M, U, R, r, xo, h, out⟩ := h
  refine wpAny_Call_method_late (base_of hb) ?_ hl rfl (thn (ha.run pins s σ H (fun v H1 => ∃ d M1 U1, Go X.K M U H M1 U1 H1 ∧ RV X.K M1 U1 d v ∧ (match rcv M1 f d with
      | some k => wl δ M1 fun ds M2 => mth m k f d ds M2 R
      | none => False)) I ⟨δ, M, U, _, r, xo, h, fun d M1 v U1 H1 e k rm rv hR => ⟨d, M1, U1, ⟨e, k, rm⟩, rv, hR⟩⟩) fun u s1 ⟨v, H1, I1, r1, d, M1, U1, g1, rv, hR⟩ => ?_)
  · rw [star_all hp, hlen]
    simp only [keywordEach, backToKw, List.map_nil, List.all_nil, Bool.true_and, decide_eq_true_eq, List.length_nil, List.isEmpty_nil, if_true]
    omega
  · split at hR
    · rename_i mk e1
      obtain ⟨hk, t1, t2⟩ := tyIs_of I1 g1.kp.vw g1.rm rv r1 e1
      obtain ⟨f1, f2, f3⟩ := mfacts mk f hk
      have args : LL X xk W n wl σ H1 (fun vs H2 => rMt X.K m mk f v vs H2 Q) :=
        ⟨δ, M1, U1, _, r.mono g1, xo.mono g1, hR, fun ds M2 vs U2 H2 g2 rvs _ hm => ⟨U2, M2, d, ds, R, g2.kp.vw, g2.rm, RV.mono g2.ex g1.rm d v rv, rvs, hm, out.mono (g1.trans g2).ex (g1.trans g2).kp⟩⟩
      have hst := star_any (env := X.env) (pos := cpos) hp
      refine ⟨mk.ty, mid mk f, f1, f2, f3, t1, t2, ?_⟩
      have hA := hes.run cpos pins s1 σ H1 _ I1 args
      simp only [allPlain, Bool.and_eq_true] at hp
      rw [star_cons hp.1] at hA hst ⊢
      refine Calls.callWith_builtin hst (Calls.evalArgs_plain ?_)
      exact thn hA fun us s2 ⟨vs, H2, I2, r2, q2⟩ => mt_ok g.hu g.sys m mk f pins _ σ _ v _ u _ Q I2 r1 r2 q2
    · exact hR.elim
end
end Pw
set_option Elab.async false
set_option linter.all false
set_option maxRecDepth 100000
set_option maxHeartbeats 1000000
namespace Pw
open PySem PySem.Spec PyProof.Rows L2

section
variable {X : Cx} {xk : XD} {W : WX} {G : Gc} {C : Ct} {Γ : String → SpD} {k : Nat} {a b c : Expr} {wa wb wc : St → Mp → DK → Prop} {pos : Pos}
/-! ### calls of the program's own defs -/
theorem flatDVs_len : ∀ {ds : List D} {vs : List V}, flatDVs ds vs = true → vs.length = ds.length
  | [], [], _ => rfl
  | _ :: ds, _ :: vs, h => by
    simp only [flatDVs, Bool.and_eq_true] at h
    simp [flatDVs_len h.2]
  | [], _ :: _, h => by simp [flatDVs] at h
  | _ :: _, [], h => by simp [flatDVs] at h
theorem sp_of {M0 : Mp} {U0 H0 : Hp} {δ : St} {σ : L2.St} {M : Mp} {U H : Hp} {R : DK} {Q : VK} {s : SpD} {ds : List D} {vs : List V} (r : Rel X.K M0 U0 H0 δ σ) (xo : XOk X xk W M0 U0 H0) (g : Go X.K M0 U0 H0 M U H) (out : Out X.K M0 U0 H0 R Q) (rv : RVs X.K M U ds vs)
    (h : s ds M R fun c M' => xk c δ M') : spOf X.K X.mg s vs H Q (WE W σ) :=
  ⟨U, M, ds, R, _, g.kp.vw, g.rm, rv, h, out.mono g.ex g.kp, fun c M' U' H' g' hx => xo c δ M' U' H' σ (g.trans g') (r.mono (g.trans g')).rs hx⟩
theorem r_call (g : GX X G C Γ k W) {f : String} {I : FnI} {x : Str} {p : Pos} {e : Expr} {es : List Expr} {n : Nat} {wl : St → Mp → (List D → Mp → Prop) → Prop} (hI : G.fns.lookup f = some I) (hw : I.kwn = true → I.dfl ≠ []) (hx : x = Str.ofString f) (hg : glB C.sc x = true) (hp : allPlain (e :: es) = true)
    (ha : PA X (e :: es) (LL X xk W n wl)) : PE X (.Call (.Name x p) (e :: es) [] pos) (LE X xk W fun δ M Q => wl δ M fun ds M1 => Γ f (ds ++ I.dfl) M1 Q fun c M' => xk c δ M') := by
  rw [← g.sc] at hg
  obtain ⟨q1, q2, q3⟩ := glB_gl hg
  obtain ⟨⟨ad, fd, hm, hk, F, hps, _⟩, har⟩ := g.fns f I hI
  obtain ⟨dvs, dus, hfl, hv, hb⟩ := hps hw
  simp only [allPlain, Bool.and_eq_true] at hp
  subst hx
  refine ⟨fun pins s σ H Q In h => ?_⟩
  obtain ⟨δ, M, U, R, r, xo, h, out⟩ := h
  refine wpAny_Call_Name_kw (ld_glob In q1 hm ?_ q2)
  refine PySem.W.callWith_K (h₀ := X.base) In.ok.mod.kin hk (thn (ha.run pos pins s σ H (fun vs H1 => spOf X.K X.mg (Γ f) (vs ++ dvs) H1 Q (WE W σ)) In ⟨δ, M, U, _, r, xo, h, fun ds M1 vs U1 H1 g1 rv _ hR =>
    sp_of r xo g1 out (rv.app (flat_rvs hfl)) hR⟩) fun us s1 ⟨vs, H1, I1, r1, q⟩ => ⟨I1.kIn, ?_⟩) (star_cons hp.1) (star_any hp.2)
  have rr := r1.append hv
  have hl := F.ar _ _ _ _ q
  exact wpAny_call (goG F g.room (hb s1 us I1.kIn (by rw [← rr.length]; exact hl)) (passAt g.tk σ) I1 rr q)
theorem r_call0 (g : GX X G C Γ k W) {f : String} {I : FnI} {x : Str} {p : Pos} (hI : G.fns.lookup f = some I) (hw : I.kwn = true → I.dfl ≠ []) (hx : x = Str.ofString f) (hg : glB C.sc x = true) :
    PE X (.Call (.Name x p) [] [] pos) (LE X xk W fun δ M Q => Γ f I.dfl M Q fun c M' => xk c δ M') := by
  rw [← g.sc] at hg
  obtain ⟨q1, q2, q3⟩ := glB_gl hg
  obtain ⟨⟨ad, fd, hm, hk, F, hps, _⟩, har⟩ := g.fns f I hI
  obtain ⟨dvs, dus, hfl, hv, hb⟩ := hps hw
  subst hx
  refine ⟨fun pins s σ H Q In h => ?_⟩
  obtain ⟨δ, M, U, R, r, xo, h, out⟩ := h
  have q : spOf X.K X.mg (Γ f) dvs H Q (WE W σ) := sp_of r xo r.here out (flat_rvs hfl) h
  have hl := F.ar _ _ _ _ q
  refine wpAny_Call_Name_kw (ld_glob In q1 hm ?_ q2)
  exact PySem.W.callWith_K0 In.kIn hk (wpAny_call (goG F g.room (hb s [] In.kIn (by rw [List.nil_append, ← hv.length]; exact hl)) (passAt g.tk σ) In (by simpa using hv) q))
theorem r_callk (g : GX X G C Γ k W) {f : String} {I : FnI} {x z : Str} {p kp : Pos} {e v : Expr} {es : List Expr} {n : Nat} {wl : St → Mp → (List D → Mp → Prop) → Prop} (hI : G.fns.lookup f = some I) (hx : x = Str.ofString f) (hg : glB C.sc x = true) (hp : allPlain (e :: es) = true)
    (hn : n + 1 = I.ps.length) (hd : I.kwn = true) (hz : I.ps.getLast? = some z) (ha : PA X (e :: es) (LL X xk W n wl)) (hv : PE X v (LE X xk W wa)) :
    PE X (.Call (.Name x p) (e :: es) [⟨some z, v, kp⟩] pos) (LE X xk W fun δ M Q => wl δ M fun ds M1 => wa δ M1 fun d M2 => Γ f (ds ++ [d]) M2 Q fun c M' => xk c δ M') := by
  rw [← g.sc] at hg
  obtain ⟨q1, q2, q3⟩ := glB_gl hg
  obtain ⟨⟨ad, fd, hm, hk, F, _, hkb⟩, har⟩ := g.fns f I hI
  have KB := hkb z hd hz
  have hst := star_any (env := X.env) (pos := pos) hp
  simp only [allPlain, Bool.and_eq_true] at hp
  subst hx
  refine ⟨fun pins s σ H Q In h => ?_⟩
  obtain ⟨δ, M, U, R, r, xo, h, out⟩ := h
  refine wpAny_Call_Name_kw (ld_glob In q1 hm ?_ q2)
  refine PySem.W.callWith_KW (h₀ := X.base) In.ok.mod.kin hk rfl (thn (ha.run pos pins s σ H (fun vs H1 => vs.length = n ∧ LE X xk W wa σ H1 fun w H2 => spOf X.K X.mg (Γ f) (vs ++ [w]) H2 Q (WE W σ)) In ⟨δ, M, U, _, r, xo, h, fun ds M1 vs U1 H1 g1 rv hl hR => ⟨rv.length.trans hl,
    ⟨δ, M1, U1, _, r.mono g1, xo.mono g1, hR, fun d M2 w U2 H2 e2 k2 rm2 rw2 hR2 => ?_⟩⟩⟩) fun us s1 ⟨vs, H1, I1, r1, hl, q⟩ => ?_) (by rw [hst]; rfl) (star_cons hp.1)
  · have g2 : Go X.K M U H M2 U2 H2 := g1.trans ⟨e2, k2, rm2⟩
    exact sp_of r xo g2 out ((RVs.mono e2 g1.rm _ _ rv).app (.one rw2)) hR2
  · have pk : PK X [⟨some z, v, kp⟩] (tCons (LE X xk W wa) tNil) := pk_cons hv pk_nil
    refine thn (pk.run pos pins s1 σ H1 (fun zs H2 => ∃ w, zs = [w] ∧ spOf X.K X.mg (Γ f) (vs ++ [w]) H2 Q (WE W σ)) I1 ?_) fun ws s2 ⟨zs, H2, I2, rz, w, ez, q2⟩ => ⟨I2.kIn, ?_⟩
    · obtain ⟨δ1, M1, U1, R1, r', xo', h', out'⟩ := q
      exact ⟨δ1, M1, U1, R1, r', xo', h', fun d M2 w U2 H2 e2 k2 rm2 rw2 hR2 => ⟨w, rfl, out' d M2 w U2 H2 e2 k2 rm2 rw2 hR2⟩⟩
    · subst ez
      have ks : (backToKw pos (keywordEach [⟨some z, v, kp⟩] X.env)).filterMap (·.1) = [z] := rfl
      rw [ks]
      have l1 : us.length = I.ps.length - 1 := by rw [← r1.length, hl]; omega
      have l2 : ws.length = 1 := rz.length.symm
      exact wpAny_call (goG F g.room (KB.to s2 us ws I2.kIn l1 l2) (passAt g.tk σ) I2 (KB.rel r1 rz) q2)
/-! ### settled -/
theorem r_frz (ha : PE X a (LE X xk W wa)) : PE X a (LE X xk W fun δ M Q => wa δ M fun x M1 => match settle M1 8 x with
    | some d => ∃ M2, Sub M2 M1 ∧ (∀ a ∈ d.2, M2 a = none) ∧ Q d.1 M2
    | none => False) :=
  pe_imp ha fun σ H Q h => by
    obtain ⟨δ, M, U, R, r, xo, h, out⟩ := h
    refine ⟨δ, M, U, _, r, xo, h, fun d M1 v U1 H1 e k rm rv hR => ?_⟩
    split at hR
    · rename_i y ey
      obtain ⟨M2, s, hn, hq⟩ := hR
      exact out y.1 M2 v U1 H1 (e.trans (Ext.sub s)) k (rm.sub s) (settle_ok rm s 8 d y v ey rv hn) hq
    · exact hR.elim

/-! ### what is walked -/
/-- a value, as a loop hands it out: a tuple may be any tuple -/
def RW (K : PySem.W.Frag) (M : Mp) (U : Hp) (d : D) (v : V) : Prop := match d with
  | .tup ds => ∃ a vs, v = .ref a ∧ SqT K U a vs ∧ RVs K M U ds vs
  | d => RV K M U d v
theorem RW.of {K : PySem.W.Frag} {M : Mp} {U : Hp} {d : D} {v : V} (h : RV K M U d v) : RW K M U d v := by
  cases d <;> first
    | exact h
    | (simp only [RV] at h
       obtain ⟨a, vs, e, s, q⟩ := h
       exact ⟨a, vs, e, s.sq, q⟩)
abbrev Rho := PySem.W.Frag → Mp → Hp → D → V → Prop
def JOk (ρ : Rho) (K : PySem.W.Frag) (J : It) (M1 : Mp) (U1 : Hp) (ds : List D) (still : Mp → Prop) : Prop := ∀ M U H, Ext M1 U1 M U → Vw U H → RM K M U → still M → ∀ i : Nat,
  (ds.length = i → J.stop i H) ∧ ∀ d, ds[i]? = some d → J.go i H ∧ ∀ x H', J.yld i H x H' → ∃ U', Go K M U H M U' H' ∧ ρ K M U' d x
def OutI (ρ : Rho) (K : PySem.W.Frag) (M : Mp) (U H : Hp) (R : List D → (Mp → Prop) → Mp → Prop) (Q : It → Hp → Prop) : Prop := ∀ ds still M' U' H' J, Go K M U H M' U' H' → R ds still M' → ds.length ≤ LIM → JOk ρ K J M' U' ds still → Q J H'
def LI (ρ : Rho) (X : Cx) (xk : XD) (W : WX) (wp : St → Mp → (List D → (Mp → Prop) → Mp → Prop) → Prop) : TI := fun σ H Q => ∃ δ M U R, Rel X.K M U H δ σ ∧ XOk X xk W M U H ∧ wp δ M R ∧ OutI ρ X.K M U H R Q
theorem pi_imp {tg it : Expr} {t t' : TI} (h : PI X tg it t) (i : ∀ σ H Q, t' σ H Q → t σ H Q) : PI X tg it t' := ⟨fun pins s σ H Q I q => h.run pins s σ H Q I (i σ H Q q)⟩
/-- the lists and tuples are not too long -/
def Bd (K : PySem.W.Frag) (H : Hp) : Prop := ∀ a xs, SqL K H a xs ∨ SqT K H a xs → xs.length ≤ sizeLine
theorem bd_of {pins : List (Addr × Obj)} {σ : L2.St} {H : Hp} {s : Shared} (I : Inv X pins σ H s) : Bd X.K H := fun a xs h => by
  rcases h with h | h
  · obtain ⟨_, _, _, z⟩ := I.list h; exact z
  · obtain ⟨_, _, _, z⟩ := I.tuple h; exact z
/-- any value that may be walked -/
def iVal (K : PySem.W.Frag) (te : TE) : TI := fun σ H R => te σ H fun x H1 => (∃ a xs, x = .ref a ∧ SqL K H1 a xs ∧ (Bd K H1 → R (Itl K a) H1)) ∨ (∃ a xs, x = .ref a ∧ SqT K H1 a xs ∧ (Bd K H1 → R (Itt K a) H1)) ∨ ∃ z, x = .str z ∧ R (Its z) H1
theorem pi_val {tg e : Expr} {te : TE} (he : PE X e te) : PI X tg e (iVal X.K te) := by
  refine ⟨fun pins s σ H R I h => ?_⟩
  refine thn (he.run pins s σ H _ I h) fun v s1 ⟨y, H1, I1, r1, q⟩ => ?_
  rcases q with ⟨a, xs, rfl, hq, q⟩ | ⟨a, xs, rfl, hq, q⟩ | ⟨x, rfl, q⟩
  · have pe : PI X tg e (iList X.K fun _ H Q => Q (.ref a) H) → True := fun _ => trivial
    cases r1
    obtain ⟨its, rv, p, hz⟩ := I1.list hq
    exact wpAny_pyIter_list p.isList (pi_one (tk := s1.toks) I1 _ (turn_list a _) ⟨_, Heap.get?_push_size _ rfl, rfl, rfl⟩ (q (bd_of I1)))
  · cases r1
    obtain ⟨its, rv, p, hz⟩ := I1.tuple hq
    exact wpAny_pyIter_tuple (show s1.heap.IsTuple a its.toArray from p) (pi_one (tk := s1.toks) I1 _ (turn_tuple a _) ⟨_, Heap.get?_push_size _ rfl, rfl, rfl⟩ (q (bd_of I1)))
  · obtain ⟨t, rfl⟩ := r1
    cases ha : x.cps.all (· < 128)
    · exact wpAny_pyIter_wide ha (pi_one (tk := s1.toks) I1 _ (turn_str _ x t "str_iterator" (.inr rfl)) ⟨_, Heap.get?_push_size _ rfl, rfl, rfl⟩ q)
    · exact wpAny_pyIter_ascii ha (pi_one (tk := s1.toks) I1 _ (turn_str _ x t "str_ascii_iterator" (.inl rfl)) ⟨_, Heap.get?_push_size _ rfl, rfl, rfl⟩ q)
section
variable {K : PySem.W.Frag} {J : It} {M1 : Mp} {U1 : Hp} {ds : List D} {still : Mp → Prop} {tg : Expr}
theorem sqL_inj {H : Hp} {p : Addr} {xs ys : List V} (h : SqL K H p xs) (q : ∀ zs, SqL K H p zs → zs = ys) : xs = ys := q xs h
/-- a list as it stands -/
theorem jok_l {a : Addr} {vs : List V} (hs : ∀ M U, Ext M1 U1 M U → RM K M U → still M → ∃ vs, SqL K U a vs ∧ RVs K M U ds vs) : JOk RV K (Itl K a) M1 U1 ds still := by
  intro M U H x vw rm st i
  obtain ⟨vs, hq, q⟩ := hs M U x rm st
  have hq' : SqL K H a vs := by
    rcases hq with (h | ⟨o, h⟩) | h
    · exact .inl (.inl (vw _ _ h))
    · exact .inl (.inr ⟨o, vw _ _ h⟩)
    · exact .inr h
  refine ⟨fun hl => ⟨vs, hq', by rw [q.length]; exact Nat.le_of_eq hl⟩, fun d hd => ?_⟩
  obtain ⟨v, hv, rv⟩ := q.get hd
  refine ⟨⟨vs, v, hq', hv⟩, fun y H' hy => ?_⟩
  obtain ⟨rfl, hy⟩ := hy
  have e := hy vs hq'
  rw [hv] at e
  cases e
  exact ⟨U, .refl vw rm, rv⟩
theorem jok_t {a : Addr} (hs : ∀ M U, Ext M1 U1 M U → RM K M U → still M → ∃ vs, SqT K U a vs ∧ RVs K M U ds vs) : JOk RV K (Itt K a) M1 U1 ds still := by
  intro M U H x vw rm st i
  obtain ⟨vs, hq, q⟩ := hs M U x rm st
  have hq' : SqT K H a vs := vw.sqW hq
  refine ⟨fun hl => ⟨vs, hq', by rw [q.length]; exact Nat.le_of_eq hl⟩, fun d hd => ?_⟩
  obtain ⟨v, hv, rv⟩ := q.get hd
  refine ⟨⟨vs, v, hq', hv⟩, fun y H' hy => ?_⟩
  obtain ⟨rfl, hy⟩ := hy
  have e := hy vs hq'
  rw [hv] at e
  cases e
  exact ⟨U, .refl vw rm, rv⟩
theorem jok_s {z : Str} : JOk RV K (Its z) M1 U1 (chars z) (fun _ => True) := by
  intro M U H x vw rm st i
  have hl : (chars z).length = z.cps.size := by simp [chars]
  refine ⟨fun h => by rw [hl] at h; exact Nat.le_of_eq h, fun d hd => ?_⟩
  unfold chars at hd
  rw [List.getElem?_map, Array.getElem?_toList] at hd
  obtain ⟨c, hc, rfl⟩ := Option.map_eq_some_iff.mp hd
  refine ⟨(Array.getElem?_eq_some_iff.mp hc).1, fun y H' hy => ?_⟩
  obtain ⟨rfl, c', hc', rfl⟩ := hy
  rw [hc] at hc'
  cases hc'
  exact ⟨U, .refl vw rm, by simp only [RV]⟩
theorem jok_r {lo : Int} {n : Nat} : JOk RV K (Itr lo n) M1 U1 ((List.range n).map fun k => .int (lo + (k : Nat))) (fun _ => True) := by
  intro M U H x vw rm st i
  refine ⟨fun h => show n ≤ i from Nat.le_of_eq (by simpa using h), fun d hd => ?_⟩
  rw [List.getElem?_map] at hd
  obtain ⟨c, hc, rfl⟩ := Option.map_eq_some_iff.mp hd
  obtain ⟨hi, rfl⟩ := List.getElem?_eq_some_iff.mp hc
  rw [List.length_range] at hi
  refine ⟨hi, fun y H' hy => ?_⟩
  obtain ⟨rfl, rfl⟩ := hy
  exact ⟨U, .refl vw rm, by simp [RV]⟩
end
theorem w_ival {tg : Expr} (ha : PE X a (LE X xk W wa)) : PI X tg a (LI RV X xk W fun δ M Q => wa δ M fun x M1 => match x with
    | .tup ds => Q ds (fun _ => True) M1
    | .lst ds => Q ds (fun _ => True) M1
    | .scr ds => Q ds (fun _ => True) M1
    | .str z => z.length ≤ LIM ∧ Q (chars z) (fun _ => True) M1
    | .ref a => (match M1 a with
      | some (.lst ds) => Q ds (fun M => M a = some (.lst ds)) M1
      | _ => False)
    | _ => False) :=
  pi_imp (pi_val ha) fun σ H Q h => by
    obtain ⟨δ, M, U, R, r, xo, h, out⟩ := h
    refine ⟨δ, M, U, _, r, xo, h, fun d M1 v U1 H1 e k rm rv hR => ?_⟩
    split at hR
    · rename_i ds
      simp only [RV] at rv
      obtain ⟨p, vs, rfl, hq, q⟩ := rv
      refine .inr (.inl ⟨p, vs, rfl, k.vw.sqT hq, fun bd => out ds _ M1 U1 H1 _ ⟨e, k, rm⟩ hR (by rw [← q.length, ← lineLIM]; exact bd p vs (.inr (k.vw.sqT hq))) ?_⟩)
      exact jok_t fun M' U' x' rm' _ => ⟨vs, (x'.sqF rm hq).sq, RVs.mono x' rm _ _ q⟩
    · rename_i ds
      simp only [RV] at rv
      obtain ⟨p, vs, rfl, hq, hn, q⟩ := rv
      refine .inl ⟨p, vs, rfl, .of (k.vw _ _ hq), fun bd => out ds _ M1 U1 H1 _ ⟨e, k, rm⟩ hR (by rw [← q.length, ← lineLIM]; exact bd p vs (.inl (.of (k.vw _ _ hq)))) ?_⟩
      exact jok_l (vs := vs) fun M' U' x' rm' _ => ⟨vs, .of (x' p _ hq hn).1, RVs.mono x' rm _ _ q⟩
    · rename_i ds
      simp only [RV] at rv
      obtain ⟨p, vs, rfl, hq, q⟩ := rv
      refine .inl ⟨p, vs, rfl, (k.vw.sqS hq).sq, fun bd => out ds _ M1 U1 H1 _ ⟨e, k, rm⟩ hR (by rw [← q.length, ← lineLIM]; exact bd p vs (.inl (k.vw.sqS hq).sq)) ?_⟩
      exact jok_l (vs := vs) fun M' U' x' rm' _ => ⟨vs, (x'.sqS rm hq).sq, RVs.mono x' rm _ _ q⟩
    · rename_i z
      simp only [RV] at rv
      subst rv
      refine .inr (.inr ⟨z, rfl, out (chars z) _ M1 U1 H1 _ ⟨e, k, rm⟩ hR.2 (by simpa [chars, Str.length] using hR.1) jok_s⟩)
    · rename_i p
      simp only [RV] at rv
      subst rv
      split at hR
      · rename_i ds em
        obtain ⟨vs, hq, q⟩ := rm p _ em
        refine .inl ⟨p, vs, rfl, .of (k.vw _ _ hq), fun bd => out ds _ M1 U1 H1 _ ⟨e, k, rm⟩ hR (by rw [← q.length, ← lineLIM]; exact bd p vs (.inl (.of (k.vw _ _ hq)))) ?_⟩
        refine jok_l (vs := vs) fun M' U' x' rm' st => ?_
        obtain ⟨vs', hq', q'⟩ := rm' p _ st
        exact ⟨vs', .of hq', q'⟩
      · exact hR.elim
    · exact hR.elim
/-! range -/
theorem w_irng (g : GX X G C Γ k W) {tg f : Expr} {es : List Expr} {n : Nat} {wl : St → Mp → (List D → Mp → Prop) → Prop} (hf : nameB C G "range" f = true) (hp : allPlain es = true) (hn : es.length = n) (h12 : es.length = 1 ∨ es.length = 2) (ha : PA X es (LL X xk W n wl)) :
    PI X tg (.Call f es [] pos) (LI RV X xk W fun δ M Q => wl δ M fun ds M1 => rngD Q ds M1) := by
  obtain ⟨p, rfl, q1, q2, q3, q4⟩ := nameB_of g hf
  match es, h12 with
  | [a], _ =>
    simp only [allPlain, Bool.and_eq_true] at hp
    refine pi_imp (pi_range1 q1 q2 ha (star_cons hp.1)) fun σ H Q h => ?_
    obtain ⟨δ, M, U, R, r, xo, h, out⟩ := h
    refine ⟨δ, M, U, _, r, xo, h, fun ds M1 vs U1 H1 g1 rv hl hR => ?_⟩
    unfold rngD at hR
    split at hR
    · rename_i j
      obtain ⟨v, rfl, q⟩ := rv.one_of
      simp only [RV] at q
      subst q
      refine ⟨_, rfl, hR.1, by have := hR.2.1; simp only [LIM] at this; omega, out _ _ M1 U1 H1 _ g1 hR.2.2 (by have := hR.2.1; simp only [List.length_map, List.length_range, LIM] at this ⊢; omega) ?_⟩
      have := jok_r (K := X.K) (M1 := M1) (U1 := U1) (lo := 0) (n := j.toNat)
      simpa using this
    · simp at hl hn; omega
    · exact hR.elim
  | [a, b], _ =>
    simp only [allPlain, Bool.and_eq_true] at hp
    refine pi_imp (pi_range2 q1 q2 ha (by rw [star_cons hp.1, star_cons hp.2.1]; rfl) (star_cons hp.2.1)) fun σ H Q h => ?_
    obtain ⟨δ, M, U, R, r, xo, h, out⟩ := h
    refine ⟨δ, M, U, _, r, xo, h, fun ds M1 vs U1 H1 g1 rv hl hR => ?_⟩
    unfold rngD at hR
    split at hR
    · simp at hl hn; omega
    · rename_i i j
      obtain ⟨v, v', rfl, q, q'⟩ := rv.two_of
      simp only [RV] at q q'
      subst q q'
      obtain ⟨b1, b2, b3, b4, b5, hR⟩ := hR
      exact ⟨_, _, rfl, ⟨b1, b2, b3, b4⟩, out _ _ M1 U1 H1 _ g1 hR (by simp only [List.length_map, List.length_range, LIM] at b5 ⊢; omega) jok_r⟩
    · exact hR.elim
/-! reversed -/
theorem jok_v {K : PySem.W.Frag} {M1 : Mp} {U1 : Hp} {ds : List D} {still : Mp → Prop} {a : Addr} (hs : ∀ M U, Ext M1 U1 M U → RM K M U → still M → ∃ vs, SqL K U a vs ∧ RVs K M U ds vs) : JOk RV K (Itv K a ds.length) M1 U1 ds.reverse still := by
  intro M U H x vw rm st i
  obtain ⟨vs, hq, q⟩ := hs M U x rm st
  have hq' : SqL K H a vs := by
    rcases hq with (h | ⟨o, h⟩) | h
    · exact .inl (.inl (vw _ _ h))
    · exact .inl (.inr ⟨o, vw _ _ h⟩)
    · exact .inr h
  refine ⟨fun hl => by rw [List.length_reverse] at hl; exact Nat.le_of_eq hl, fun d hd => ?_⟩
  have hi : i < ds.length := by
    have := (List.getElem?_eq_some_iff.mp hd).1
    simpa using this
  rw [List.getElem?_reverse hi] at hd
  obtain ⟨v, hv, rv⟩ := q.get hd
  refine ⟨⟨hi, vs, v, hq', hv⟩, fun y H' hy => ?_⟩
  obtain ⟨rfl, hy⟩ := hy
  have e := hy vs hq'
  rw [hv] at e
  cases e
  exact ⟨U, .refl vw rm, rv⟩
theorem jok_vt {K : PySem.W.Frag} {M1 : Mp} {U1 : Hp} {ds : List D} {still : Mp → Prop} {a : Addr} (hs : ∀ M U, Ext M1 U1 M U → RM K M U → still M → ∃ vs, SqT K U a vs ∧ RVs K M U ds vs) : JOk RV K (RT.ItvT K a ds.length) M1 U1 ds.reverse still := by
  intro M U H x vw rm st i
  obtain ⟨vs, hq, q⟩ := hs M U x rm st
  have hq' : SqT K H a vs := vw.sqW hq
  refine ⟨fun hl => by rw [List.length_reverse] at hl; exact Nat.le_of_eq hl, fun d hd => ?_⟩
  have hi : i < ds.length := by
    have := (List.getElem?_eq_some_iff.mp hd).1
    simpa using this
  rw [List.getElem?_reverse hi] at hd
  obtain ⟨v, hv, rv⟩ := q.get hd
  refine ⟨⟨hi, vs, v, hq', hv⟩, fun y H' hy => ?_⟩
  obtain ⟨rfl, hy⟩ := hy
  have e := hy vs hq'
  rw [hv] at e
  cases e
  exact ⟨U, .refl vw rm, rv⟩
theorem pi_bd {tg it : Expr} {wi : TI} (h : PI X tg it wi) : PI X tg it (fun σ H R => wi σ H fun J H1 => Bd X.K H1 → R J H1) := ⟨fun pins s σ H R I q => thn (h.run pins s σ H _ I q) fun v s1 h1 => thn h1 fun itv s2 h2 => by
  obtain ⟨it, fp, tn, J, H', e, I', T, st, f, q⟩ := h2
  exact ⟨it, fp, tn, J, H', e, I', T, st, f, q (bd_of I')⟩⟩
theorem w_irev (g : GX X G C Γ k W) {tg f : Expr} (hf : nameB C G "reversed" f = true) (hn : noStar a = true) (ha : PE X a (LE X xk W wa)) : PI X tg (.Call f [a] [] pos) (LI RV X xk W fun δ M Q => wa δ M fun x M1 => match x with
    | .tup ds => Q ds.reverse (fun _ => True) M1
    | .lst ds => Q ds.reverse (fun _ => True) M1
    | .ref a => (match M1 a with
      | some (.lst ds) => Q ds.reverse (fun M => M a = some (.lst ds)) M1
      | _ => False)
    | _ => False) := by
  obtain ⟨p, rfl, q1, q2, q3, q4⟩ := nameB_of g hf
  refine pi_imp (pi_bd (RT.pi_revA q1 q2 ha (star_cons hn))) fun σ H Q h => ?_
  obtain ⟨δ, M, U, R, r, xo, h, out⟩ := h
  refine ⟨δ, M, U, _, r, xo, h, fun d M1 v U1 H1 e k rm rv hR => ?_⟩
  split at hR
  · rename_i ds
    simp only [RV] at rv
    obtain ⟨p, vs, rfl, hq, q⟩ := rv
    refine ⟨p, vs, rfl, .inr ⟨k.vw.sqT hq, fun bd => out _ _ M1 U1 H1 _ ⟨e, k, rm⟩ hR (by rw [List.length_reverse, ← q.length, ← lineLIM]; exact bd p vs (.inr (k.vw.sqT hq))) ?_⟩⟩
    rw [q.length]
    exact jok_vt fun M' U' x' rm' _ => ⟨vs, (x'.sqF rm hq).sq, RVs.mono x' rm _ _ q⟩
  · rename_i ds
    simp only [RV] at rv
    obtain ⟨p, vs, rfl, hq, hn, q⟩ := rv
    refine ⟨p, vs, rfl, .inl ⟨.of (k.vw _ _ hq), fun bd => out _ _ M1 U1 H1 _ ⟨e, k, rm⟩ hR (by rw [List.length_reverse, ← q.length, ← lineLIM]; exact bd p vs (.inl (.of (k.vw _ _ hq)))) ?_⟩⟩
    rw [q.length]
    exact jok_v fun M' U' x' rm' _ => ⟨vs, .of (x' p _ hq hn).1, RVs.mono x' rm _ _ q⟩
  · rename_i p
    simp only [RV] at rv
    subst rv
    split at hR
    · rename_i ds em
      obtain ⟨vs, hq, q⟩ := rm p _ em
      refine ⟨p, vs, rfl, .inl ⟨.of (k.vw _ _ hq), fun bd => out _ _ M1 U1 H1 _ ⟨e, k, rm⟩ hR (by rw [List.length_reverse, ← q.length, ← lineLIM]; exact bd p vs (.inl (.of (k.vw _ _ hq)))) ?_⟩⟩
      rw [q.length]
      refine jok_v fun M' U' x' rm' st => ?_
      obtain ⟨vs', hq', q'⟩ := rm' p _ st
      exact ⟨vs', .of hq', q'⟩
    · exact hR.elim
  · exact hR.elim
end
end Pw
set_option Elab.async false
set_option linter.all false
set_option maxRecDepth 100000
set_option maxHeartbeats 1000000
namespace Pw
open PySem PySem.Spec PyProof.Rows L2

section
variable {X : Cx} {xk : XD} {W : WX} {G : Gc} {C : Ct} {Γ : String → SpD} {k : Nat} {a b c : Expr} {wa wb wc : St → Mp → DK → Prop} {pos : Pos}
/-! ### list(x), tuple(x) -/
theorem r_convL (g : GX X G C Γ k W) (m : Bool) {f : Expr} (hf : nameB C G "list" f = true) (hn : noStar a = true) (ha : PE X a (LE X xk W wa)) : PE X (.Call f [a] [] pos) (LE X xk W fun δ M Q => wa δ M fun x M1 => convD m true x M1 Q) := by
  obtain ⟨p, rfl, q1, q2, q3, q4⟩ := nameB_of g hf
  refine pe_imp (pe_callTy call_list_of q1 q2 (by decide +kernel) (pa_cons ha pa_nil (star_cons hn)) q4 q3 (star_cons hn) (star_any rfl)) fun σ H Q h => ?_
  obtain ⟨δ, M, U, R, r, xo, h, out⟩ := h
  refine ⟨δ, M, U, _, r, xo, h, fun d M1 v U1 H1 e k rm rv hR => ?_⟩
  unfold convD at hR
  dsimp only at hR
  split at hR
  · rename_i ds
    simp only [RV] at rv
    obtain ⟨p, vs, rfl, hq, q⟩ := rv
    exact ⟨p, vs, rfl, .inr (k.vw.sqT hq), fun l hl => (out.mono e k).lst k.vw rm q hR hl⟩
  · rename_i ds
    simp only [RV] at rv
    obtain ⟨p, vs, rfl, hq, hn, q⟩ := rv
    exact ⟨p, vs, rfl, .inl (.of (k.vw _ _ hq)), fun l hl => (out.mono e k).lst k.vw rm q hR hl⟩
  · rename_i ds
    simp only [RV] at rv
    obtain ⟨p, vs, rfl, hq, q⟩ := rv
    exact ⟨p, vs, rfl, .inl (k.vw.sqS hq).sq, fun l hl => (out.mono e k).lst k.vw rm q hR hl⟩
  · rename_i p
    simp only [RV] at rv
    subst rv
    split at hR
    · rename_i ds em
      obtain ⟨vs, hq, q⟩ := rm p _ em
      exact ⟨p, vs, rfl, .inl (.of (k.vw _ _ hq)), fun l hl => (out.mono e k).lst k.vw rm q hR hl⟩
    · exact hR.elim
  · exact hR.elim
theorem r_convT (g : GX X G C Γ k W) (m : Bool) {f : Expr} (hf : nameB C G "tuple" f = true) (hn : noStar a = true) (ha : PE X a (LE X xk W wa)) : PE X (.Call f [a] [] pos) (LE X xk W fun δ M Q => wa δ M fun x M1 => convD m false x M1 Q) := by
  obtain ⟨p, rfl, q1, q2, q3, q4⟩ := nameB_of g hf
  refine pe_imp (pe_callTy call_tupleF q1 q2 (by decide +kernel) (pa_cons ha pa_nil (star_cons hn)) q4 q3 (star_cons hn) (star_any rfl)) fun σ H Q h => ?_
  obtain ⟨δ, M, U, R, r, xo, h, out⟩ := h
  refine ⟨δ, M, U, _, r, xo, h, fun d M1 v U1 H1 e k rm rv hR => ?_⟩
  unfold convD at hR
  dsimp only at hR
  split at hR
  · rename_i ds
    have rv' := rv
    simp only [RV] at rv
    obtain ⟨p, vs, rfl, hq, q⟩ := rv
    exact ⟨p, vs, rfl, .inr ⟨k.vw.sqT hq, (out.mono e k).here k.vw rm rv' hR⟩⟩
  · rename_i ds
    simp only [RV] at rv
    obtain ⟨p, vs, rfl, hq, hn, q⟩ := rv
    exact ⟨p, vs, rfl, .inl ⟨.of (k.vw _ _ hq), (out.mono e k).tup k.vw rm q hR⟩⟩
  · rename_i ds
    simp only [RV] at rv
    obtain ⟨p, vs, rfl, hq, q⟩ := rv
    exact ⟨p, vs, rfl, .inl ⟨(k.vw.sqS hq).sq, (out.mono e k).tup k.vw rm q hR⟩⟩
  · rename_i p
    simp only [RV] at rv
    subst rv
    split at hR
    · rename_i ds em
      obtain ⟨vs, hq, q⟩ := rm p _ em
      exact ⟨p, vs, rfl, .inl ⟨.of (k.vw _ _ hq), (out.mono e k).tup k.vw rm q hR⟩⟩
    · exact hR.elim
  · exact hR.elim
/-! of a range -/
def tRgA (t : TA) : L2.St → Hp → (Int → Int → Hp → Prop) → Prop := fun σ H Q => t σ H fun vs H1 => (∃ n, vs = [.int n] ∧ Q 0 n H1) ∨ ∃ i j, vs = [.int i, .int j] ∧ Q i j H1
theorem prg_A {es : List Expr} {t : TA} {p pos : Pos} (hg : Gl X "range") (hm : X.mg "range" = none) (hp : allPlain es = true) (h12 : es.length = 1 ∨ es.length = 2) (ha : PA X es t) : PRg X (.Call (.Name "range" p) es [] pos) (tRgA t) := by
  intro pins s σ H Q I h
  have key : ∀ e es', allPlain (e :: es') = true → PA X (e :: es') t → wpAny (model X.prog X.w) X.A (eval (.Call (.Name "range" p) (e :: es') [] pos) X.env) (fun x s' => ∃ r a b t u v H', x = .ref r ∧ IsRange s'.heap r a b 1 t u v ∧ Inv X pins σ H' s' ∧ Q a b H') X.xe s := by
    intro e es' hp ha
    simp only [allPlain, Bool.and_eq_true] at hp
    refine Call_ (ld_blt I hg hm boot_range (PyProof.Rows.callWith_type1 (thn (ha.run pos pins s σ H _ I h) fun us s1 ⟨vs, H1, I1, r1, q1⟩ => ?_) (star_cons hp.1) (star_any hp.2)))
    rcases q1 with ⟨n, rfl, q⟩ | ⟨i, j, rfl, q⟩
    · obtain ⟨u, rfl, t, rfl⟩ := Vals.one r1
      exact call_range_1 ⟨_, 0, n, _, _, _, H1, rfl, IsRange.new _ _ _ _ _ _ _, I1.kept fun b u e => Heap.get?_push_of_some _ e, q⟩
    · obtain ⟨u, u', rfl, ⟨t, rfl⟩, ⟨t', rfl⟩⟩ := Vals.two r1
      exact call_range_2 ⟨_, i, j, _, _, _, H1, rfl, IsRange.new _ _ _ _ _ _ _, I1.kept fun b u e => Heap.get?_push_of_some _ e, q⟩
  match es, h12 with
  | [a], _ => exact key a [] hp ha
  | [a, b], _ => exact key a [b] hp ha
def tTupRgF (te : L2.St → Hp → (Int → Int → Hp → Prop) → Prop) : TE := fun σ H Q => te σ H fun a b H1 => RgOk a b ∧ NewT H1 (rgV a b) Q
theorem pe_tupRgF {e : Expr} {te : L2.St → Hp → (Int → Int → Hp → Prop) → Prop} {p pos : Pos} (hc : X.calm = true) (hg : Gl X "tuple") (hm : X.mg "tuple" = none) (he : PRg X e te) (na : starEach [e] X.env = (false, eval e X.env) :: starEach [] X.env := by rfl) : PE X (.Call (.Name "tuple" p) [e] [] pos) (tTupRgF te) := by
  refine ⟨fun pins s σ H Q I h => ?_⟩
  refine Call_ (ld_blt I hg hm boot_tuple (PyProof.Rows.callWith_type1 (args_cons (thn (he pins s σ H _ I h) fun x s1 ⟨r, a, b, t, u, v, H1, ex, hr, I1, ok, q⟩ => args_nil ?_) na) na))
  subst ex
  obtain ⟨b1, b2, b3, b4, b5⟩ := ok
  refine call_tuple_range (n := (b - a).toNat) (I1.ok.hd hc) hr (small_one b1 b2 b3 b4) (rangeSize_nat a b) b5 fun h' tk acc hk hi => ?_
  have I2 : Inv X pins σ H1 { s1 with heap := h', toks := tk } := I1.kept hk
  have e := newT_ok (s := { s1 with heap := h', toks := tk }) I2 (vals_rg hi) (by rw [rgV_length, sizeLine_eq]; omega) q tk
  simpa using e
theorem rgV_D {a b : Int} {K : PySem.W.Frag} {M : Mp} {U : Hp} : RVs K M U ((List.range (b - a).toNat).map fun k => .int (a + (k : Nat))) (rgV a b) := by
  have := RVs.ints (K := K) (M := M) (H := U) (ns := (List.range (b - a).toNat).map fun k => a + (k : Nat))
  simpa [rgV, List.map_map, Function.comp_def] using this
theorem rngV_use {K : PySem.W.Frag} {M1 : Mp} {U1 : Hp} {ds : List D} {vs : List V} {Q : List D → Mp → Prop} {P : Int → Int → Prop} (rv : RVs K M1 U1 ds vs) (h : rngV Q ds M1) (hP : ∀ a b, RgOk a b → Q ((List.range (b - a).toNat).map fun k => .int (a + (k : Nat))) M1 → P a b) :
    (∃ n, vs = [.int n] ∧ P 0 n) ∨ ∃ i j, vs = [.int i, .int j] ∧ P i j := by
  unfold rngV rngD at h
  split at h
  · rename_i j
    obtain ⟨v, rfl, q⟩ := rv.one_of
    simp only [RV] at q
    subst q
    refine .inl ⟨_, rfl, hP 0 j ⟨by omega, by omega, h.1, by have := h.2.1; simp only [LIM] at this; omega, by have := h.2.1; simp only [LIM] at this; omega⟩ (by simpa using h.2.2)⟩
  · rename_i i j
    obtain ⟨v, v', rfl, q, q'⟩ := rv.two_of
    simp only [RV] at q q'
    subst q q'
    obtain ⟨b1, b2, b3, b4, b5, h⟩ := h
    exact .inr ⟨_, _, rfl, hP i j ⟨b1, b2, b3, b4, by simp only [LIM] at b5; omega⟩ h⟩
  · exact h.elim
section
variable {es : List Expr} {n : Nat} {wl : St → Mp → (List D → Mp → Prop) → Prop} {f fr : Expr} {pos2 : Pos}
theorem r_convLR (g : GX X G C Γ k W) (m : Bool) (hf : nameB C G "list" f = true) (hr : nameB C G "range" fr = true) (hp : allPlain es = true) (h12 : es.length = 1 ∨ es.length = 2) (ha : PA X es (LL X xk W n wl)) :
    PE X (.Call f [.Call fr es [] pos2] [] pos) (LE X xk W fun δ M Q => wl δ M fun ds M1 => rngV (fun ds M => mkN m ds M Q) ds M1) := by
  obtain ⟨p, rfl, q1, q2, q3, q4⟩ := nameB_of g hf
  obtain ⟨p', rfl, s1, s2, s3, s4⟩ := nameB_of g hr
  refine pe_imp (pe_listRg g.calm q1 q2 (prg_A s1 s2 hp h12 ha) (star_cons rfl)) fun σ H Q h => ?_
  obtain ⟨δ, M, U, R, r, xo, h, out⟩ := h
  refine ⟨δ, M, U, _, r, xo, h, fun ds M1 vs U1 H1 g1 rv hl hR => ?_⟩
  exact rngV_use (P := fun a b => RgOk a b ∧ ∀ q : Addr, H1 q = none → Q (.ref q) (upd H1 q (.lst (rgV a b)))) rv hR fun a b ok hq => ⟨ok, fun l hl => (out.mono g1.ex g1.kp).lst g1.kp.vw g1.rm rgV_D hq hl⟩
theorem r_convTR (g : GX X G C Γ k W) (hf : nameB C G "tuple" f = true) (hr : nameB C G "range" fr = true) (hp : allPlain es = true) (h12 : es.length = 1 ∨ es.length = 2) (ha : PA X es (LL X xk W n wl)) :
    PE X (.Call f [.Call fr es [] pos2] [] pos) (LE X xk W fun δ M Q => wl δ M fun ds M1 => rngV (fun ds M => Q (.tup ds) M) ds M1) := by
  obtain ⟨p, rfl, q1, q2, q3, q4⟩ := nameB_of g hf
  obtain ⟨p', rfl, s1, s2, s3, s4⟩ := nameB_of g hr
  refine pe_imp (pe_tupRgF g.calm q1 q2 (prg_A s1 s2 hp h12 ha) (star_cons rfl)) fun σ H Q h => ?_
  obtain ⟨δ, M, U, R, r, xo, h, out⟩ := h
  refine ⟨δ, M, U, _, r, xo, h, fun ds M1 vs U1 H1 g1 rv hl hR => ?_⟩
  exact rngV_use (P := fun a b => RgOk a b ∧ NewT H1 (rgV a b) Q) rv hR fun a b ok hq => ⟨ok, (out.mono g1.ex g1.kp).tup g1.kp.vw g1.rm rgV_D hq⟩
end

/-- tuple(reversed(x)), x a list -/
def tTupRevF (K : PySem.W.Frag) (te : TE) : TE := fun σ H Q => te σ H fun v H1 => ∃ (a : Addr) (xs : List V), v = .ref a ∧ SqL K H1 a xs ∧ NewT H1 xs.reverse Q
theorem r_convv (g : GX X G C Γ k W) {f fr : Expr} {pos2 : Pos} (hf : nameB C G "tuple" f = true) (hr : nameB C G "reversed" fr = true) (hn : noStar a = true) (ha : PE X a (LE X xk W wa)) : PE X (.Call f [.Call fr [a] [] pos2] [] pos) (LE X xk W fun δ M Q => wa δ M fun x M1 => match lstOf M1 x with
    | some ds => Q (.tup ds.reverse) M1
    | none => False) := by
  obtain ⟨p, rfl, q1, q2, q3, q4⟩ := nameB_of g hf
  obtain ⟨p', rfl, s1, s2, s3, s4⟩ := nameB_of g hr
  refine ⟨fun pins s σ H Q I h => ?_⟩
  obtain ⟨δ, M, U, R, r, xo, h, out⟩ := h
  have hA := ha.run pins s σ H (fun v H1 => ∃ (a : Addr) (xs : List V), v = .ref a ∧ SqL X.K H1 a xs ∧ NewT H1 xs.reverse Q) I ⟨δ, M, U, _, r, xo, h, fun d M1 v U1 H1 e k rm rv hR => by
    split at hR
    · rename_i ds ed
      obtain ⟨a, vs, rfl, hq, q⟩ := lstOf_at k.vw rm ed rv
      exact ⟨a, vs, rfl, hq, (out.mono e k).tup k.vw rm q.rev hR⟩
    · exact hR.elim⟩
  refine Call_ (ld_blt I q1 q2 boot_tuple (PyProof.Rows.callWith_type1 (args_cons (Call_ (ld_blt I s1 s2 PyProof.Rows.boot_reversed (PyProof.Rows.callWith_type1 (args_cons (thn hA fun u s1 ⟨v, H1, I1, r1, q1⟩ => args_nil ?_) (star_cons hn)) (star_cons hn) rfl))) (star_cons rfl)) (star_cons rfl) rfl))
  obtain ⟨a, xs, ev, hq, q⟩ := q1
  subst ev
  obtain rfl : u = Value.ref a := r1
  obtain ⟨its, rv, p', hz⟩ := I1.list hq
  refine call_reversed_list p'.isList (args_nil ?_)
  have k0 : ∀ b o, s1.heap.get? b = some o → (s1.heap.push (revObj a ((its.toArray.size : Int) - 1))).get? b = some o := fun b o e => Heap.get?_push_of_some _ e
  have I2 : Inv X pins σ H1 { s1 with heap := s1.heap.push (revObj a ((its.toArray.size : Int) - 1)) } := I1.kept (t' := s1.toks) k0
  obtain ⟨f0, f1, f2, f3, f4, f5⟩ := I1.fpOk (H' := H1) (b := s1.heap.objs.size) (Nat.le_refl _) (I1.hok.fresh (Nat.le_refl _))
  have hl := p'.isList
  obtain ⟨ol, hol, _⟩ := id hl
  have hne : a ≠ s1.heap.objs.size := Nat.ne_of_lt (Heap.lt_size hol)
  have hsz : its.toArray.size ≤ sizeLine := by rw [List.size_toArray, ← rv.length]; exact hz
  refine RT.call_tuple_rev (s := { s1 with heap := s1.heap.push (revObj a ((its.toArray.size : Int) - 1)) }) (I1.ok.hd g.calm) ⟨_, Heap.get?_push_size _ rfl, rfl, rfl⟩ (hl.push _) hne hsz fun h' tk acc hk hi => ?_
  have I3 : Inv X pins σ H1 { s1 with heap := h', toks := tk } := I2.turned (t' := tk) (fun b o hb e => hk b o hb e) f0 f1 f3 f4 f5
  have e := newT_ok I3 (RT.vals_rev rv hi) (by rw [List.length_reverse]; exact hz) q tk
  simpa using e

/-! ### targets -/
/-- the slots outside S stand -/
def Same (S : List Nat) (σ σ' : L2.St) : Prop := σ'.length = σ.length ∧ ∀ j, j ∉ S → σ'[j]? = σ[j]?
theorem Same.refl {S : List Nat} {σ : L2.St} : Same S σ σ := ⟨rfl, fun _ _ => rfl⟩
theorem Same.trans {S T : List Nat} {σ σ' σ'' : L2.St} (a : Same S σ σ') (b : Same T σ' σ'') : Same (S ++ T) σ σ'' := ⟨b.1.trans a.1, fun j hj => by
  simp only [List.mem_append, not_or] at hj
  rw [b.2 j hj.2, a.2 j hj.1]⟩
theorem Same.wipe {S vs : List Nat} {σ σ' : L2.St} (h : Same S (L2.wipe σ vs) σ') (hs : ∀ i ∈ S, i ∈ vs) : L2.wipe σ' vs = L2.wipe σ vs := by
  apply List.ext_getElem?
  intro i
  rw [wipe_getElem?, wipe_getElem?]
  have hl := h.1
  rw [wipe_length] at hl
  by_cases hi : i ∈ vs
  · rw [if_pos hi, if_pos hi]
    by_cases hlt : i < σ.length
    · rw [List.getElem?_eq_getElem hlt, List.getElem?_eq_getElem (by omega)]; rfl
    · rw [List.getElem?_eq_none (by omega), List.getElem?_eq_none (by omega)]
  · rw [if_neg hi, if_neg hi, h.2 i fun hS => hi (hs i hS), wipe_getElem?, if_neg hi]
def OutS (K : PySem.W.Frag) (S : List Nat) (σ0 : L2.St) (M : Mp) (U H : Hp) (R : St → Mp → Prop) (Q : L2.St → Hp → Prop) : Prop := ∀ δ' M' σ' U' H', Go K M U H M' U' H' → RS K M' U' δ' σ' → Same S σ0 σ' → R δ' M' → Q σ' H'
def LG (ρ : Rho) (X : Cx) (xk : XD) (W : WX) (S : List Nat) (wp : D → St → Mp → (St → Mp → Prop) → Prop) : TG := fun v σ H Q => ∃ δ M U R d, Rel X.K M U H δ σ ∧ XOk X xk W M U H ∧ ρ X.K M U d v ∧ wp d δ M R ∧ OutS X.K S σ M U H R Q
def LGs (X : Cx) (xk : XD) (W : WX) (S : List Nat) (wp : List D → St → Mp → (St → Mp → Prop) → Prop) : TGs := fun vs σ H Q => ∃ δ M U R ds, Rel X.K M U H δ σ ∧ XOk X xk W M U H ∧ RVs X.K M U ds vs ∧ wp ds δ M R ∧ OutS X.K S σ M U H R Q
theorem pg_imp {tg : Expr} {t t' : TG} (h : PG X tg t) (i : ∀ v σ H Q, t' v σ H Q → t v σ H Q) : PG X tg t' := ⟨fun pins s σ H v u Q I r q => h.run pins s σ H v u Q I r (i v σ H Q q)⟩
theorem pgs_imp {ts : List Expr} {t t' : TGs} (h : PGs X ts t) (i : ∀ v σ H Q, t' v σ H Q → t v σ H Q) : PGs X ts t' := ⟨fun pins s σ H v u Q I r q => h.run pins s σ H v u Q I r (i v σ H Q q)⟩
theorem stoB_of (g : GX X G C Γ k W) {x : Str} (h : stoB C x = true) : Loc X.env.scope x ∧ (X.fn x = true ∨ X.env.scope.names.lookup x = some .local) := by
  unfold stoB at h
  rw [← g.sc] at h
  split at h
  · rename_i e
    exact ⟨.inl e, .inr e⟩
  · rename_i e
    exact ⟨.inr e, .inl (g.fnB x h)⟩
  · cases h
theorem t_name (g : GX X G C Γ k W) {i : Nat} {x : Str} (hi : C.N[i]? = some x) (hs : stoB C x = true) : PG X (.Name x pos) (LG RV X xk W [i] fun d δ M Q => Q (δ.set i (some d)) M) := by
  obtain ⟨h1, h2⟩ := stoB_of g hs
  refine pg_imp (pg_name g.nd (by rw [g.N]; exact hi) h1 h2) fun v σ H Q h => ?_
  obtain ⟨δ, M, U, R, d, r, xo, rv, h, out⟩ := h
  exact out _ M _ U H r.here (r.rs.set i rv) ⟨by simp, fun j hj => by
    rw [List.getElem?_set_ne (by simpa using fun e => hj (by simp [e]))]⟩ h
theorem asg_sub {env : Env} (h : noSlc b = true) : ∀ v, assign (.Subscript a b pos) env v = (do
      let ov ← holding [v] (eval a env)
      let iv ← holding [v, ov] (eval b env)
      standAt pos
      holding [v, ov, iv] (setItem ov iv v)
      release [v, ov, iv] []) := by
  intro v
  cases b <;> first | rfl | (simp [noSlc] at h)
theorem t_sub (g : GX X G C Γ k W) (hsl : noSlc b = true) (ho : PE X a (LE X xk W wa)) (hi : PE X b (LE X xk W wb)) : PG X (.Subscript a b pos) (LG RV X xk W [] fun d δ M Q => wa δ M fun x M1 => wb δ M1 fun y M2 => stD x y d M2 fun M3 => Q δ M3) := by
  refine pg_imp (pg_sub ho hi (stD_ok g.hu) (asg_sub hsl)) fun v σ H Q h => ?_
  obtain ⟨δ, M, U, R, d, r, xo, rv, h, out⟩ := h
  refine ⟨δ, M, U, _, r, xo, h, fun d1 M1 v1 U1 H1 e k rm rv1 hR => ⟨δ, M1, U1, _, r.mono ⟨e, k, rm⟩, xo.mono ⟨e, k, rm⟩, hR, fun d2 M2 v2 U2 H2 e2 k2 rm2 rv2 hR2 => ?_⟩⟩
  have g2 : Go X.K M U H M2 U2 H2 := (Go.mk e k rm).trans ⟨e2, k2, rm2⟩
  refine ⟨U2, M2, d1, d2, d, _, k2.vw, rm2, RV.mono e2 rm _ _ rv1, rv2, RV.mono g2.ex r.rm _ _ rv, hR2, fun M3 U3 H3 e3 k3 rm3 hR3 => ?_⟩
  have g3 := g2.trans ⟨e3, k3, rm3⟩
  exact out δ M3 σ U3 H3 g3 (r.mono g3).rs .refl hR3
section
variable {es : List Expr} {S T : List Nat} {wg : D → St → Mp → (St → Mp → Prop) → Prop} {wr : List D → St → Mp → (St → Mp → Prop) → Prop}
theorem t_nil : PGs X [] (LGs X xk W [] fun ds δ M Q => match ds with
    | [] => Q δ M
    | _ => False) := pgs_imp pgs_nil fun vs σ H Q h => by
  obtain ⟨δ, M, U, R, ds, r, xo, rv, h, out⟩ := h
  split at h
  · simp only [RVs] at rv
    exact ⟨rv, out δ M σ U H r.here r.rs .refl h⟩
  · exact h.elim
theorem asg_cons {e : Expr} {es : List Expr} {env : Env} (h : noStar e = true) : assignEach (e :: es) env = (false, assign e env) :: assignEach es env := by
  cases e <;> first | rfl | (simp [noStar] at h)
theorem t_cons (hn : noStar a = true) (hg : PG X a (LG RV X xk W S wg)) (hr : PGs X es (LGs X xk W T wr)) : PGs X (a :: es) (LGs X xk W (S ++ T) fun ds δ M Q => match ds with
    | d :: ds => wg d δ M fun δ1 M1 => wr ds δ1 M1 Q
    | _ => False) := pgs_imp (pgs_cons hg hr (by rw [asg_cons hn]; rfl)) fun vs σ H Q h => by
  obtain ⟨δ, M, U, R, ds, r, xo, rv, h, out⟩ := h
  split at h
  · rename_i d ds
    simp only [RVs] at rv
    obtain ⟨v, vr, rfl, q1, q2⟩ := rv
    refine ⟨v, vr, rfl, δ, M, U, _, d, r, xo, q1, h, fun δ1 M1 σ1 U1 H1 g1 rs1 sm1 hR => ?_⟩
    exact ⟨δ1, M1, U1, R, ds, ⟨g1.kp.vw, g1.rm, rs1⟩, xo.mono g1, RVs.mono g1.ex r.rm _ _ q2, hR, fun δ2 M2 σ2 U2 H2 g2 rs2 sm2 hR2 => out δ2 M2 σ2 U2 H2 (g1.trans g2) rs2 (sm1.trans sm2) hR2⟩
  · exact h.elim
theorem asg_plain {env : Env} : ∀ {es : List Expr}, allPlain es = true → (assignEach es env).length = es.length ∧ (assignEach es env).findIdx? (·.1) = none
  | [], _ => ⟨rfl, rfl⟩
  | e :: es, h => by
    simp only [allPlain, Bool.and_eq_true] at h
    obtain ⟨h1, h2⟩ := asg_plain (env := env) h.2
    rw [asg_cons h.1]
    exact ⟨by simp [h1], by simp [List.findIdx?_cons, h2]⟩
/-- (a, b, ..) = a tuple -/
theorem t_tup (g : GX X G C Γ k W) {j : Nat} {n : Nat} (hp : allPlain es = true) (hl : es.length = n) (h : PGs X es (LGs X xk W S wr)) : PG X (.Tuple es j pos) (LG RW X xk W S fun d δ M Q => match d with
    | .tup ds => ds.length = n ∧ wr ds δ M Q
    | _ => False) := by
  obtain ⟨h1, h2⟩ := asg_plain (env := X.env) hp
  refine pg_imp (pg_tup g.calm h h1 h2) fun v σ H Q h => ?_
  obtain ⟨δ, M, U, R, d, r, xo, rv, h, out⟩ := h
  split at h
  · rename_i ds
    obtain ⟨p, vs, rfl, hq, q⟩ := rv
    exact ⟨p, vs, rfl, r.vw.sqW hq, by rw [q.length, hl]; exact h.1, δ, M, U, R, ds, r, xo, q, h.2, out⟩
  · exact h.elim
theorem LG.of {X : Cx} {xk : XD} {W : WX} {S : List Nat} {wp : D → St → Mp → (St → Mp → Prop) → Prop} {tg : Expr} (h : PG X tg (LG RW X xk W S wp)) : PG X tg (LG RV X xk W S wp) := pg_imp h fun v σ H Q h => by
  obtain ⟨δ, M, U, R, d, r, xo, rv, h, out⟩ := h
  exact ⟨δ, M, U, R, d, r, xo, .of rv, h, out⟩
end
end
end Pw
set_option Elab.async false
set_option linter.all false
set_option maxRecDepth 100000
set_option maxHeartbeats 1000000
namespace Pw
open PySem PySem.Spec PyProof.Rows L2

def W0 : WX := fun _ _ _ _ => False
theorem XOk.no {X : Cx} {M : Mp} {U H : Hp} : XOk X never W0 M U H := fun _ _ _ _ _ _ _ _ h => h.elim
section
variable {X : Cx} {xk : XD} {W : WX} {G : Gc} {C : Ct} {Γ : String → SpD} {k : Nat} {a b c : Expr} {wa wb wc : St → Mp → DK → Prop} {pos : Pos}
/-! ### comprehensions -/
theorem lc_read {ρ : Rho} {S own : List Nat} {wi : St → Mp → (List D → (Mp → Prop) → Mp → Prop) → Prop} {wg : D → St → Mp → (St → Mp → Prop) → Prop} {wt : St → Mp → (Bool → Mp → Prop) → Prop} {we : St → Mp → DK → Prop} {m : Bool} (hS : ∀ i ∈ S, i ∈ own) {σ : L2.St} {H : Hp} {Q : VK}
    (h : LE X xk W (fun δ M Q => wi δ M fun ds still M1 => compL wg wt (fun δ1 M acc M' K => we δ1 M' fun x M'' => K (acc ++ [x]) M'') still (wipeD δ own) (fun acc M2 => mkN m acc M2 Q) ds [] M1) σ H Q) :
    tLc (LI ρ X xk W wi) (LG ρ X never W0 S wg) (LT X never W0 wt) (LE X never W0 we) own σ H Q := by
  obtain ⟨δ, M, U, R, r, xo, h, out⟩ := h
  refine ⟨δ, M, U, _, r, xo, h, fun ds still M1 U1 H1 J g1 hC hz jok D hD => ?_⟩
  have hU1 := g1.kp.vw.none hD
  generalize hcL : compL wg wt (fun δ1 M acc M' K => we δ1 M' fun x M'' => K (acc ++ [x]) M'') still (wipeD δ own) (fun acc M2 => mkN m acc M2 R) = cL at hC
  have start : Go X.K M1 U1 H1 M1 U1 (upd H1 D (.lst [])) := ⟨.refl, ⟨fun a o ha n => by
    rw [upd_ne (ne_of_none ha hD)]
    exact ⟨ha, n⟩, fun a o ha => by
    rw [upd_ne (ne_of_none ha hU1)]
    exact g1.kp.vw _ _ ha⟩, g1.rm⟩
  refine ⟨fun i n Hc => n = ds.length - i ∧ i ≤ ds.length ∧ ∃ M' U' acc vs, Go X.K M1 U1 H1 M' U' Hc ∧ U' D = none ∧ Hc D = some (.lst vs) ∧ RVs X.K M' U' acc vs ∧ acc.length ≤ i ∧ cL (ds.drop i) acc M', ⟨ds.length, by simp, Nat.zero_le _, M1, U1, [], [], start, hU1, upd_same, by simp only [RVs], Nat.zero_le _, by simpa using hC⟩, ?_⟩
  rintro i n Hc ⟨rfl, hi, M', U', acc, vs, g2, hU, hHc, ra, hacc, hC⟩
  cases hd : ds.drop i with
  | nil =>
    rw [hd, ← hcL] at hC
    have hi' : i = ds.length := by
      have := List.drop_eq_nil_iff.mp hd
      omega
    obtain ⟨st, hk⟩ := hC
    refine .inl ⟨(jok M' U' Hc g2.ex g2.kp.vw g2.rm st i).1 hi'.symm, ?_⟩
    have g12 := g1.trans g2
    have kp : Kp U H (upd U' D (.lst vs)) Hc := ⟨fun a o ha n => by
      have q := g12.kp.st a o ha n
      have q1 := g1.kp.st a o ha n
      have ne := ne_of_none q1.1 hD
      rw [upd_ne ne]
      exact q, fun a o ha => by
      by_cases e : a = D
      · subst e
        rw [upd_same] at ha
        rw [hHc]; exact ha
      · rw [upd_ne e] at ha
        exact g2.kp.vw _ _ ha⟩
    cases m with
    | false =>
      exact out (.lst acc) M' (.ref D) _ Hc (g12.ex.trans (Ext.new hU)) kp (g2.rm.new hU) (by
        simp only [RV]
        exact ⟨D, vs, rfl, upd_same, g2.rm.none_of hU, RVs.mono (Ext.new hU) g2.rm _ _ ra⟩) hk
    | true =>
      exact out (.ref D) (up M' D (.lst acc)) (.ref D) _ Hc (g12.ex.trans (Ext.newM hU)) kp (g2.rm.newM hU ⟨vs, upd_same, RVs.mono (Ext.newM hU) g2.rm _ _ ra⟩) (by simp only [RV]) (hk D (g2.rm.none_of hU))
  | cons d rest =>
    rw [hd, ← hcL] at hC
    obtain ⟨st, hC⟩ := hC
    have hlt : i < ds.length := by
      have : (ds.drop i).length = ds.length - i := List.length_drop
      rw [hd] at this
      simp at this
      omega
    have hdi : ds[i]? = some d := by
      have := congrArg (fun l : List Pw.D => l[0]?) hd
      simpa using this
    have hrest : ds.drop (i + 1) = rest := by
      have := congrArg List.tail hd
      simpa [List.tail_drop] using this
    obtain ⟨go, yl⟩ := (jok M' U' Hc g2.ex g2.kp.vw g2.rm st i).2 d hdi
    refine .inr ⟨go, fun H' => ∃ M'' U'' acc' vs', Go X.K M1 U1 H1 M'' U'' H' ∧ U'' D = none ∧ H' D = some (.lst vs') ∧ RVs X.K M'' U'' acc' vs' ∧ acc'.length ≤ i + 1 ∧ cL rest acc' M'', ?_, ?_⟩
    · rintro H' ⟨M'', U'', acc', vs', q1, q2, q3, q4, q5, q6⟩
      exact ⟨ds.length - (i + 1), by omega, rfl, hlt, M'', U'', acc', vs', q1, q2, q3, q4, q5, by rw [hrest]; exact q6⟩
    · intro x H' hy
      obtain ⟨U2, g3, rx⟩ := yl x H' hy
      have hD2 := g3.kp.st D _ hHc hU
      have rs2 := (r.mono (g1.trans (g2.trans g3))).rs.wipe2 own
      refine ⟨wipeD δ own, M', U2, _, d, ⟨g3.kp.vw, g3.rm, rs2⟩, XOk.no, rx, hC, fun δ1 M3 σ2 U3 H3 g4 rs4 sm hT => ⟨sm.wipe hS, ?_⟩⟩
      have hD3 := g4.kp.st D _ hD2.1 hD2.2
      refine ⟨δ1, M3, U3, _, ⟨g4.kp.vw, g4.rm, rs4⟩, XOk.no, hT, fun q M4 U4 H4 g5 hb => ?_⟩
      have hD4 := g5.kp.st D _ hD3.1 hD3.2
      have g25 := g2.trans (g3.trans (g4.trans g5))
      have ra4 := RVs.mono (g3.trans (g4.trans g5)).ex g2.rm _ _ ra
      cases q with
      | false =>
        dsimp only
        rw [if_neg Bool.false_ne_true]
        exact ⟨M4, U4, acc, vs, g25, hD4.2, hD4.1, ra4, by omega, by rw [← hcL]; exact hb⟩
      | true =>
        dsimp only
        rw [if_pos rfl]
        refine ⟨δ1, M4, U4, _, ⟨g5.kp.vw, g5.rm, rs4.mono g5.ex g4.rm⟩, XOk.no, hb, fun d5 M5 v5 U5 H5 e5 k5 rm5 rv5 hR5 => ?_⟩
        have hD5 := k5.st D _ hD4.1 hD4.2
        have g26 := g25.trans ⟨e5, k5, rm5⟩
        refine ⟨vs, hD5.1, by rw [ra.length, lineLIM]; omega, M5, U5, acc ++ [d5], vs ++ [v5], ⟨g26.ex, ⟨fun a o ha n => ?_, fun a o ha => ?_⟩, rm5⟩, hD5.2, upd_same, (RVs.mono e5 g5.rm _ _ ra4).app (.one rv5), by simp; omega, by rw [← hcL]; exact hR5⟩
        · rw [upd_ne (ne_of_none ha hD)]
          exact g26.kp.st a o ha n
        · rw [upd_ne (ne_of_none ha hD5.2)]
          exact k5.vw _ _ ha
theorem ownOf_map {N : List Str} {own : List Nat} : (ownOf N own).map (·.2) = own := by simp [ownOf, Function.comp_def]
theorem set_fold {e : Expr} {env : Env} (h : noSet e = true) : ∀ x, foldedSetIterable e env x = pure x := by
  intro x
  cases e <;> first | rfl | (simp [noSet] at h)
section
variable {ρ : Rho} {S own : List Nat} {wi : St → Mp → (List D → (Mp → Prop) → Mp → Prop) → Prop} {wg : D → St → Mp → (St → Mp → Prop) → Prop} {wt : St → Mp → (Bool → Mp → Prop) → Prop} {we : St → Mp → DK → Prop} {m : Bool} {elt tg iter : Expr} {ifs : List Expr} {sc : Scope}
theorem r_comp (g : GX X G C Γ k W) (hok : blkC C.N C.sc sc (ownOf C.N own) = true) (hS : ∀ i ∈ S, i ∈ own) (hs : noSet iter = true) (hi : PI X tg iter (LI ρ X xk W wi))
    (hg : ∀ (s : Shared) (H : Hp) (Ca : Addr) (cl : List (Str × Addr)) (fp : List Addr), PG (X.blk s H sc (compEnvC sc cl Ca X.env) fp) tg (LG ρ X never W0 S wg)) (ht : ∀ (s : Shared) (H : Hp) (Ca : Addr) (cl : List (Str × Addr)) (fp : List Addr), PTs (X.blk s H sc (compEnvC sc cl Ca X.env) fp) ifs (LT X never W0 wt))
    (he : ∀ (s : Shared) (H : Hp) (Ca : Addr) (cl : List (Str × Addr)) (fp : List Addr), PE (X.blk s H sc (compEnvC sc cl Ca X.env) fp) elt (LE X never W0 we)) :
    PE X (.ListComp elt [⟨tg, iter, ifs, 0⟩] sc pos) (LE X xk W fun δ M Q => wi δ M fun ds still M1 => compL wg wt (fun δ1 M acc M' K => we δ1 M' fun x M'' => K (acc ++ [x]) M'') still (wipeD δ own) (fun acc M2 => mkN m acc M2 Q) ds [] M1) := by
  rw [← g.N, ← g.sc] at hok
  refine pe_imp (pe_lc g.calm g.nd hi (blkOk_by hok) hg ht he (set_fold hs)) fun σ H Q h => ?_
  rw [ownOf_map]
  exact lc_read hS h
end
theorem q_nilTs : PTs X [] (LT X xk W fun _ M Q => Q true M) := ⟨fun pins s σ H Q I h => by
  obtain ⟨δ, M, U, R, r, xo, h, out⟩ := h
  exact pts_nil.run pins s σ H Q I (out true M U H r.here h)⟩

/-! ### statements -/
structure OutE (K : PySem.W.Frag) (M : Mp) (U H : Hp) (E : En) (D : Ends) : Prop where
  nx : OutG K M U H E.nx D.nx
  rt : Out K M U H E.rt D.rt
  bk : OutG K M U H E.bk D.bk
  ct : OutG K M U H E.ct D.ct
theorem OutG.mono {K : PySem.W.Frag} {M M' : Mp} {U H U' H' : Hp} {R : St → Mp → Prop} {Q : L2.St → Hp → Prop} (o : OutG K M U H R Q) (g : Go K M U H M' U' H') : OutG K M' U' H' R Q := fun δ M1 σ U1 H1 g1 rs h => o δ M1 σ U1 H1 (g.trans g1) rs h
theorem OutE.mono {K : PySem.W.Frag} {M M' : Mp} {U H U' H' : Hp} {E : En} {D : Ends} (o : OutE K M U H E D) (g : Go K M U H M' U' H') : OutE K M' U' H' E D := ⟨o.nx.mono g, o.rt.mono g.ex g.kp, o.bk.mono g, o.ct.mono g⟩
variable (X xk W) in
def LS (wp : En → St → Mp → Prop) : TS := fun D σ H => ∃ δ M U E, Rel X.K M U H δ σ ∧ XOk X xk W M U H ∧ wp E δ M ∧ OutE X.K M U H E D
theorem ps_imp {st : Stmt} {t t' : TS} (h : PS X st t) (i : ∀ D σ H, t' D σ H → t D σ H) : PS X st t' := ⟨fun pins s σ H D I q => h.run pins s σ H D I (i D σ H q)⟩
theorem pss_imp {st : List Stmt} {t t' : TS} (h : PSs X st t) (i : ∀ D σ H, t' D σ H → t D σ H) : PSs X st t' := ⟨fun pins s σ H D I q => h.run pins s σ H D I (i D σ H q)⟩
structure GS (X : Cx) (G : Gc) (C : Ct) (Γ : String → SpD) (k : Nat) (W : WX) : Prop extends GX X G C Γ k W where
  kd : X.env.scope.kind = .function
  own : PassesOwn (model X.prog X.w) X.A X.env X.xe
  stk : X.stack = X.env :: X.outer
  frm : X.env.frame = some X.env.locals
theorem noSw {e : Expr} {tg : Option Expr} {l : Nat} {env : Env} (h : swOk e = true) (h2 : noLc e = true) : swapsWith e tg l env = pure false := by
  cases e <;> first | rfl | exact absurd h Bool.false_ne_true | exact absurd h2 Bool.false_ne_true
theorem blockKind_fn {env : Env} (h : env.scope.kind = .function) : env.blockKind = .function := by
  unfold Env.blockKind
  rw [h]
  rfl
theorem sw_of {e tg : Expr} {l : Nat} {env : Env} (kd : env.scope.kind = .function) (h : swOk e = true) : swapsWith e (some tg) l env = pure (swB env.scope tg e) := by
  cases e <;> first
    | rfl
    | exact absurd h Bool.false_ne_true
    | (cases tg <;> first
        | rfl
        | (unfold swapsWith swB
           simp only [blockKind_fn kd, pure_bind]
           congr 1
           unfold Env.kindOf isLoc
           generalize env.scope.names.lookup _ = o
           cases o with
           | none => rfl
           | some z => cases z <;> rfl))
section
variable {tg : Expr} {S : List Nat} {wg : D → St → Mp → (St → Mp → Prop) → Prop}
theorem asg_one {env : Env} (h : noStar tg = true) : (assignEach [tg] env).map (·.2) = [assign tg env] := by
  rw [asg_cons h]; rfl
theorem s_asg (g : GS X G C Γ k W) (hs : swOk a = true) (hb : swB C.sc tg a = false) (hw : swappedStores [tg] a X.env = pure none) (hn : noStar tg = true) (ha : PE X a (LE X xk W wa)) (hg : PG X tg (LG RV X xk W S wg)) :
    PS X (.Assign [tg] a pos) (LS X xk W fun E δ M => wa δ M fun x M1 => wg x δ M1 E.nx) := by
  refine ps_imp (ps_asg ha hg (by show swapsWith a (some tg) _ _ = _; rw [sw_of g.kd hs, g.sc, hb]) hw (asg_one hn)) fun D σ H h => ?_
  obtain ⟨δ, M, U, E, r, xo, h, out⟩ := h
  refine ⟨δ, M, U, _, r, xo, h, fun d M1 v U1 H1 e k rm rv hR => ?_⟩
  have g1 := Go.mk e k rm
  exact ⟨δ, M1, U1, E.nx, d, r.mono g1, xo.mono g1, rv, hR, fun δ2 M2 σ2 U2 H2 g2 rs2 _ hR2 => out.nx δ2 M2 σ2 U2 H2 (g1.trans g2) rs2 hR2⟩
/-- name = [.. for ..], stored by the comprehension itself -/
theorem s_setLc {ρ : Rho} {T own : List Nat} {wi : St → Mp → (List D → (Mp → Prop) → Mp → Prop) → Prop} {wh : D → St → Mp → (St → Mp → Prop) → Prop} {wt : St → Mp → (Bool → Mp → Prop) → Prop} {we : St → Mp → DK → Prop} {m : Bool} {elt ctg iter : Expr} {ifs : List Expr} {sc : Scope} {i : Nat} {y : Str} {py lpos : Pos}
    (g : GS X G C Γ k W) (hok : blkC C.N C.sc sc (ownOf C.N own) = true) (hS : ∀ i ∈ T, i ∈ own) (hs : noSet iter = true) (hy : C.N[i]? = some y) (hb : swB C.sc (.Name y py) (.ListComp elt [⟨ctg, iter, ifs, 0⟩] sc lpos) = true) (hi : PI X ctg iter (LI ρ X xk W wi))
    (hg : ∀ (s : Shared) (H : Hp) (Ca : Addr) (cl : List (Str × Addr)) (fp : List Addr), PG (X.blk s H sc (compEnvC sc cl Ca X.env) fp) ctg (LG ρ X never W0 T wh)) (ht : ∀ (s : Shared) (H : Hp) (Ca : Addr) (cl : List (Str × Addr)) (fp : List Addr), PTs (X.blk s H sc (compEnvC sc cl Ca X.env) fp) ifs (LT X never W0 wt))
    (he : ∀ (s : Shared) (H : Hp) (Ca : Addr) (cl : List (Str × Addr)) (fp : List Addr), PE (X.blk s H sc (compEnvC sc cl Ca X.env) fp) elt (LE X never W0 we)) :
    PS X (.Assign [.Name y py] (.ListComp elt [⟨ctg, iter, ifs, 0⟩] sc lpos) pos) (LS X xk W fun E δ M => wi δ M fun ds still M1 => compL wh wt (fun δ1 M acc M' K => we δ1 M' fun x M'' => K (acc ++ [x]) M'') still (wipeD δ own) (fun acc M2 => mkN m acc M2 fun x M3 => E.nx (δ.set i (some x)) M3) ds [] M1) := by
  have hsw := sw_of (tg := .Name y py) (e := .ListComp elt [⟨ctg, iter, ifs, 0⟩] sc lpos) (l := pos.line) g.kd rfl
  rw [g.sc, hb] at hsw
  have hl : X.env.scope.names.lookup y = some .local := by
    have : isLoc C.sc y = true := by
      unfold swB at hb
      simp only [Bool.and_eq_true] at hb
      exact hb.1.1
    rw [g.sc]
    unfold isLoc at this
    split at this
    · assumption
    · cases this
  rw [← g.N, ← g.sc] at hok
  refine ps_imp (ps_setLc g.calm g.nd (by rw [g.N]; exact hy) hl hsw hi (blkOk_by hok) hg ht he (set_fold hs)) fun D σ H h => ?_
  rw [ownOf_map]
  obtain ⟨δ, M, U, E, r, xo, h, out⟩ := h
  refine lc_read (m := m) hS ⟨δ, M, U, fun x M3 => E.nx (δ.set i (some x)) M3, r, xo, h, fun d M1 v U1 H1 e k rm rv hR => ?_⟩
  have g1 := Go.mk e k rm
  exact out.nx _ M1 _ U1 H1 g1 ((r.mono g1).rs.set i rv) hR
end
/-- a, b = x, y: stored from the right -/
theorem s_par {i j n : Nat} {x y : Str} {px py pt : Pos} {kt k2 : Nat} {pt2 : Pos} {wl : St → Mp → (List D → Mp → Prop) → Prop} (g : GS X G C Γ k W) (hi : C.N[i]? = some x) (hj : C.N[j]? = some y) (hij : i ≠ j) (hx : isLoc C.sc x = true) (hy : isLoc C.sc y = true)
    (hw : swappedStores [.Tuple [.Name x px, .Name y py] kt pt] (.Tuple [a, b] k2 pt2) X.env = pure (some [x, y])) (ha : PA X [a, b] (LL X xk W n wl)) :
    PS X (.Assign [.Tuple [.Name x px, .Name y py] kt pt] (.Tuple [a, b] k2 pt2) pos) (LS X xk W fun E δ M => wl δ M fun ds M1 => ds.length = [i, j].length ∧ E.nx (([i, j].zip ds).foldl (fun δ p => δ.set p.1 (some p.2)) δ) M1) := by
  have loc : ∀ {z : Str}, isLoc C.sc z = true → X.env.scope.names.lookup z = some .local := by
    intro z h
    rw [g.sc]
    unfold isLoc at h
    split at h
    · assumption
    · cases h
  refine ps_imp (ps_par g.calm g.nd (by rw [g.N]; exact hi) (by rw [g.N]; exact hj) hij (loc hx) (loc hy) ha hw) fun D σ H h => ?_
  obtain ⟨δ, M, U, E, r, xo, h, out⟩ := h
  refine ⟨δ, M, U, _, r, xo, h, fun ds M1 vs U1 H1 g1 rv hl hR => ?_⟩
  obtain ⟨hl2, hR⟩ := hR
  match ds, hl2 with
  | [d, d'], _ =>
    obtain ⟨v, v', rfl, q, q'⟩ := rv.two_of
    exact ⟨v, v', rfl, out.nx _ M1 _ U1 H1 g1 (((r.mono g1).rs.set i q).set j q') hR⟩
/-! op= -/
theorem iop_mulW : OpR X (inplaceOp .Mult) (rI CMulW fun i j => .int (i * j)) := opI fun _ _ _ _ _ _ _ hc q => imul_int q hc.ok
theorem iopD_ok (op : BinO) : PIp X (bopO op) (fun x y H Q => ∃ U M a b R, Vw U H ∧ RM X.K M U ∧ RV X.K M U a x ∧ RV X.K M U b y ∧ iopD op a b M R ∧ Out X.K M U H R Q) := by
  intro pins s σ H x y v u Q I rx ry h
  obtain ⟨U, M, a, b, R, vw, rm, ra, rb, hf, out⟩ := h
  unfold iopD at hf
  split at hf
  · simp only [RV] at ra rb
    subst ra rb
    cases op with
    | add => exact iop_add pins s σ H _ _ v u Q I rx ry ⟨_, _, rfl, rfl, out.int vw rm hf⟩
    | sub => exact iop_sub pins s σ H _ _ v u Q I rx ry ⟨_, _, rfl, rfl, out.int vw rm hf⟩
    | mul => exact iop_mulW pins s σ H _ _ v u Q I rx ry ⟨_, _, rfl, rfl, hf.1.w, out.int vw rm hf.2⟩
    | fdiv => exact iop_fdivW pins s σ H _ _ v u Q I rx ry ⟨_, _, rfl, rfl, hf.1.w, out.int vw rm hf.2⟩
    | mod => exact iop_mod pins s σ H _ _ v u Q I rx ry ⟨_, _, rfl, rfl, hf.1, out.int vw rm hf.2⟩
    | pow => exact hf.elim
  · exact hf.elim
theorem s_aug (g : GS X G C Γ k W) (op : BinO) {i : Nat} {x : Str} {px : Pos} (hi : C.N[i]? = some x) (hs : stoB C x = true) (ha : PE X a (LE X xk W wa)) :
    PS X (.AugAssign (.Name x px) (bopO op) a pos) (LS X xk W fun E δ M => match δ[i]? with
      | some (some x) => wa δ M fun y M1 => iopD op x y M1 fun z M2 => E.nx (δ.set i (some z)) M2
      | _ => False) := by
  obtain ⟨h1, h2⟩ := stoB_of g.toGX hs
  refine ps_imp (ps_aug g.nd (by rw [g.N]; exact hi) h1 ha (iopD_ok op) h2) fun D σ H h => ?_
  obtain ⟨δ, M, U, E, r, xo, h, out⟩ := h
  split at h
  · rename_i d e
    obtain ⟨v, e1, q⟩ := r.rs.2 i d e
    refine ⟨v, e1, δ, M, U, _, r, xo, h, fun y M1 w U1 H1 e2 k2 rm2 rw2 hR => ?_⟩
    refine ⟨U1, M1, d, y, _, k2.vw, rm2, RV.mono e2 r.rm _ _ q, rw2, hR, fun z M2 u U2 H2 e3 k3 rm3 ru hR3 => ?_⟩
    have g2 := (Go.mk e2 k2 rm2).trans ⟨e3, k3, rm3⟩
    exact out.nx _ M2 _ U2 H2 g2 ((r.mono g2).rs.set i ru) hR3
  · exact h.elim
/-! o[i], read by itself -/
theorem get_ok (hu : X.A.units + 64 < cLine) : PGet X (rIxD X.K) := by
  intro pins s σ H x y v u Q I rx ry h
  obtain ⟨U, M, a, b, R, vw, rm, ra, rb, hf, out⟩ := h
  have lst : ∀ {p : Addr} {ds : List D} {vs : List V} {i : Int} {d : D}, x = .ref p → b = .int i → SqL X.K H p vs → RVs X.K M U ds vs → atD ds i = some d → R d M → wpAny (model X.prog X.w) X.A (getItem v u) (EP X pins σ Q) X.xe s := by
    intro p ds vs i d ex eb hq q e1 hR
    subst ex eb
    simp only [RV] at rb
    subst rb
    cases rx
    obtain ⟨t, rfl⟩ := ry
    obtain ⟨w, e2, rw'⟩ := atD_at q e1
    obtain ⟨its, r, pl, hz⟩ := I.list hq
    obtain ⟨j, h1, h2, h3, h4, h5⟩ := atI_get e2
    obtain ⟨z, ez, rz⟩ := r.get h2
    have hl := r.length
    have hn := line63
    have fin : EP X pins σ Q z s := ⟨w, H, I, rz, out.here vw rm rw' hR⟩
    by_cases h0 : 0 ≤ i
    · have hj : i.toNat = j := by
        rw [seqIndex_of h0 h5] at h1
        exact Option.some.inj h1
      exact wpAny_getItem_list pl.isList h0 (by omega) (by rw [hj]; simpa using ez) fin
    · have hj : (i + (its.toArray.size : Int)).toNat = j := by
        rw [seqIndex_neg (by omega) h4] at h1
        rw [List.size_toArray, ← hl]
        exact Option.some.inj h1
      exact wpAny_getItem_list_neg pl.isList (by omega) (by rw [List.size_toArray] <;> omega) (by omega) (by rw [hj]; simpa using ez) fin
  unfold ixD at hf
  split at hf
  · rename_i ds e
    have e' := see_scr e
    subst e'
    split at hf
    · split at hf
      · rename_i d e1
        simp only [RV] at ra
        obtain ⟨p, vs, e3, hq, q⟩ := ra
        exact lst e3 rfl (vw.sqS hq).sq q e1 hf
      · exact hf.elim
    · exact hf.elim
  · rename_i ds e
    have e' := see_tup e
    subst e'
    split at hf
    · split at hf
      · rename_i d e1
        simp only [RV] at ra rb
        obtain ⟨p, vs, rfl, hq, q⟩ := ra
        subst rb
        cases rx
        obtain ⟨t, rfl⟩ := ry
        obtain ⟨w, e2, rw'⟩ := atD_at q e1
        obtain ⟨its, r, pl, hz⟩ := I.tuple (vw.sqT hq)
        obtain ⟨j, h1, h2, h3, h4, h5⟩ := atI_get e2
        obtain ⟨z, ez, rz⟩ := r.get h2
        have hl := r.length
        have hn := line63
        exact getItem_tuple (j := j) pl (by omega) (by omega) (by rw [List.size_toArray, ← hl]; exact h1) (by simpa using ez) ⟨w, H, I, rz, out.here vw rm rw' hf⟩
      · exact hf.elim
    · exact hf.elim
  · rename_i ds e
    split at hf
    · split at hf
      · rename_i d e1
        obtain ⟨p, vs, e3, hq, q⟩ := lstM_at vw rm (see_lst e) ra
        exact lst e3 rfl (.of hq) q e1 hf
      · exact hf.elim
    · exact hf.elim
  · rename_i z e
    have e' := see_str e
    subst e'
    split at hf
    · obtain ⟨hz, hf⟩ := hf
      split at hf
      · rename_i c e1
        simp only [RV] at ra rb
        subst ra rb
        obtain ⟨t, rfl⟩ := rx
        obtain ⟨t', rfl⟩ := ry
        obtain ⟨j, h1, h2, h3, h4, h5⟩ := atI_get e1
        have hl : z.cps.toList.length = z.length := by simp [Str.length]
        rw [hl] at h1 h4 h5
        have hn := line63
        have hz2 : z.length ≤ sizeLine := by rw [lineLIM]; exact hz
        exact getItem_str (c := c) (by
          rw [decide_eq_false (by omega), decide_eq_false (by omega), Bool.or_false]) (by rw [h1]; simpa using h2) ⟨.str ⟨#[c]⟩, H, I.tok _, ⟨_, rfl⟩, out.str vw rm hf⟩
      · exact hf.elim
    · exact hf.elim
  · rename_i kvs e
    split at hf
    · rename_i k ek
      have e1 := keyOf_kV ek rb
      subst e1
      split at hf
      · rename_i d ed
        obtain ⟨a', us', rfl, hq, q⟩ := see_dic vw rm e ra
        obtain ⟨w, ew, rw'⟩ := (q.get (k := k)).1 d ed
        cases rx
        have gg := DGet.k (k := k) hq
        rw [ew] at gg
        exact d_getItem (by omega) I gg ry fun w' s' I' rw2 => ⟨w, H, I', rw2, out.here vw rm rw' hf⟩
      · exact hf.elim
    · exact hf.elim
  · exact hf.elim
theorem aug_sub {i : Expr} (h : noSlc i = true) : ∀ ov iv new, augStore i ov iv new = (do holding [new, ov, iv] (setItem ov iv new); release [new, ov, iv] []; pure .next) := by
  intro ov iv new
  cases i <;> first | rfl | (simp [noSlc] at h)
theorem s_augs (g : GS X G C Γ k W) (op : BinO) (hsl : noSlc b = true) {tpos : Pos} (ha : PE X a (LE X xk W wa)) (hb : PE X b (LE X xk W wb)) (hc : PE X c (LE X xk W wc)) :
    PS X (.AugAssign (.Subscript a b tpos) (bopO op) c pos) (LS X xk W fun E δ M => wa δ M fun x M1 => wb δ M1 fun y M2 => ixD x y M2 fun z M3 => wc δ M3 fun u M4 => iopD op z u M4 fun v M5 => stD x y v M5 fun M6 => E.nx δ M6) := by
  refine ps_imp (ps_augS ha hb (get_ok g.hu) hc (iopD_ok op) (stD_ok g.hu) (aug_sub hsl)) fun D σ H h => ?_
  obtain ⟨δ, M, U, E, r, xo, h, out⟩ := h
  refine ⟨δ, M, U, _, r, xo, h, fun d1 M1 v1 U1 H1 e1 k1 rm1 rv1 hR => ?_⟩
  have g1 := Go.mk e1 k1 rm1
  refine ⟨δ, M1, U1, _, r.mono g1, xo.mono g1, hR, fun d2 M2 v2 U2 H2 e2 k2 rm2 rv2 hR2 => ?_⟩
  have g2 := Go.mk e2 k2 rm2
  refine ⟨U2, M2, d1, d2, _, k2.vw, rm2, RV.mono e2 rm1 _ _ rv1, rv2, hR2, fun d3 M3 v3 U3 H3 e3 k3 rm3 rv3 hR3 => ?_⟩
  have g3 := Go.mk e3 k3 rm3
  have g13 := g1.trans (g2.trans g3)
  refine ⟨δ, M3, U3, _, r.mono g13, xo.mono g13, hR3, fun d4 M4 v4 U4 H4 e4 k4 rm4 rv4 hR4 => ?_⟩
  have g4 := Go.mk e4 k4 rm4
  refine ⟨U4, M4, d3, d4, _, k4.vw, rm4, RV.mono e4 rm3 _ _ rv3, rv4, hR4, fun d5 M5 v5 U5 H5 e5 k5 rm5 rv5 hR5 => ?_⟩
  have g5 := Go.mk e5 k5 rm5
  have g25 := g2.trans (g3.trans (g4.trans g5))
  have g35 := g3.trans (g4.trans g5)
  refine ⟨U5, M5, d1, d2, d5, _, k5.vw, rm5, RV.mono g25.ex rm1 _ _ rv1, RV.mono g35.ex rm2 _ _ rv2, rv5, hR5, fun M6 U6 H6 e6 k6 rm6 hR6 => ?_⟩
  have g16 := (g1.trans g25).trans (Go.mk e6 k6 rm6)
  exact out.nx δ M6 σ U6 H6 g16 (r.mono g16).rs hR6
/-! the plain ones -/
theorem s_expr (hs : swapsWith a none pos.line X.env = pure false) (ha : PE X a (LE X xk W wa)) : PS X (.Expr a pos) (LS X xk W fun E δ M => wa δ M fun _ M1 => E.nx δ M1) :=
  ps_imp (ps_expr ha hs) fun D σ H h => by
    obtain ⟨δ, M, U, E, r, xo, h, out⟩ := h
    exact ⟨δ, M, U, _, r, xo, h, fun d M1 v U1 H1 e k rm rv hR => out.nx δ M1 σ U1 H1 ⟨e, k, rm⟩ (r.mono ⟨e, k, rm⟩).rs hR⟩
theorem s_ret (ha : PE X a (LE X xk W wa)) : PS X (.Return (some a) pos) (LS X xk W fun E δ M => wa δ M E.rt) :=
  ps_imp (ps_ret ha) fun D σ H h => by
    obtain ⟨δ, M, U, E, r, xo, h, out⟩ := h
    exact ⟨δ, M, U, E.rt, r, xo, h, out.rt⟩
theorem s_retn : PS X (.Return none pos) (LS X xk W fun E _ M => E.rt .non M) :=
  ps_imp ps_retN fun D σ H h => by
    obtain ⟨δ, M, U, E, r, xo, h, out⟩ := h
    exact out.rt.here r.vw r.rm rvNon h
theorem s_pass : PS X (.Pass pos) (LS X xk W fun E δ M => E.nx δ M) :=
  ps_imp ps_pass fun D σ H h => by
    obtain ⟨δ, M, U, E, r, xo, h, out⟩ := h
    exact out.nx δ M σ U H r.here r.rs h
theorem s_brk : PS X (.Break pos) (LS X xk W fun E δ M => E.bk δ M) :=
  ps_imp ps_break fun D σ H h => by
    obtain ⟨δ, M, U, E, r, xo, h, out⟩ := h
    exact out.bk δ M σ U H r.here r.rs h
theorem s_cont : PS X (.Continue pos) (LS X xk W fun E δ M => E.ct δ M) :=
  ps_imp ps_continue fun D σ H h => by
    obtain ⟨δ, M, U, E, r, xo, h, out⟩ := h
    exact out.ct δ M σ U H r.here r.rs h
theorem s_doc {x : Str} {j : Nat} {p : Pos} : PS X (.Expr (.Constant (.str x) j p) pos) (LS X xk W fun E δ M => E.nx δ M) :=
  ps_imp ps_doc fun D σ H h => by
    obtain ⟨δ, M, U, E, r, xo, h, out⟩ := h
    exact out.nx δ M σ U H r.here r.rs h
theorem s_if {ta : St → Mp → (Bool → Mp → Prop) → Prop} {w1 w2 : En → St → Mp → Prop} {xs ys : List Stmt} (hc : PT X c (LT X xk W ta)) (h1 : PSs X xs (LS X xk W w1)) (h2 : PSs X ys (LS X xk W w2)) :
    PS X (.If c xs ys pos) (LS X xk W fun E δ M => ta δ M fun k M1 => match k with
      | true => w1 E δ M1
      | false => w2 E δ M1) :=
  ps_imp (ps_if hc h1 h2) fun D σ H h => by
    obtain ⟨δ, M, U, E, r, xo, h, out⟩ := h
    refine ⟨δ, M, U, _, r, xo, h, fun q M1 U1 H1 g hR => ?_⟩
    cases q with
    | true => exact ⟨δ, M1, U1, E, r.mono g, xo.mono g, hR, out.mono g⟩
    | false => exact ⟨δ, M1, U1, E, r.mono g, xo.mono g, hR, out.mono g⟩
theorem s_raise (g : GS X G C Γ k W) {x m : Str} {j : Nat} {p p2 p3 : Pos} (hx : x ∈ G.excs) (hg : glB C.sc x = true) : PS X (.Raise (some (.Call (.Name x p) [.Constant (.str m) j p2] [] p3)) none pos) (LS X xk W fun _ δ M => xk x δ M) := by
  rw [← g.sc] at hg
  obtain ⟨q1, q2, q3⟩ := glB_gl hg
  obtain ⟨A, bmB, B, ni, ii, F, q, gC, kC, rs⟩ := g.exc x hx
  refine ps_imp (ps_raise g.calm g.tk (pmk_own F q gC kC rs q1 q2)) fun D σ H h => ?_
  obtain ⟨δ, M, U, E, r, xo, h, out⟩ := h
  exact xo x δ M U H σ r.here r.rs h _ gC
/-! suites -/
theorem s_nil : PSs X [] (LS X xk W fun E δ M => E.nx δ M) := pss_imp pss_nil fun D σ H h => by
  obtain ⟨δ, M, U, E, r, xo, h, out⟩ := h
  exact out.nx δ M σ U H r.here r.rs h
theorem s_cons {st : Stmt} {rest : List Stmt} {w1 w2 : En → St → Mp → Prop} (h1 : PS X st (LS X xk W w1)) (h2 : PSs X rest (LS X xk W w2)) : PSs X (st :: rest) (LS X xk W fun E δ M => w1 { E with nx := fun δ' M' => w2 E δ' M' } δ M) :=
  pss_imp (pss_cons h1 h2) fun D σ H h => by
    obtain ⟨δ, M, U, E, r, xo, h, out⟩ := h
    exact ⟨δ, M, U, _, r, xo, h, fun δ' M' σ' U' H' g rs hR => ⟨δ', M', U', E, ⟨g.kp.vw, g.rm, rs⟩, xo.mono g, hR, out.mono g⟩, out.rt, out.bk, out.ct⟩
end
end Pw
set_option Elab.async false
set_option linter.all false
set_option maxRecDepth 100000
set_option maxHeartbeats 1000000
namespace Pw
open PySem PySem.Spec PyProof.Rows L2

section
variable {X : Cx} {xk : XD} {W : WX} {G : Gc} {C : Ct} {Γ : String → SpD} {k : Nat} {a b c : Expr} {pos : Pos}
theorem swp_ok {env : Env} {tg e : Expr} {r : Option (List Str)} (kd : env.scope.kind = .function) (h : swpB env.scope tg e = some r) : swappedStores [tg] e env = pure r := by
  have bk := blockKind_fn kd
  cases tg with
  | Tuple ts kt pt =>
    cases e with
    | Tuple vs kv pv =>
      unfold swpB at h
      dsimp only at h
      unfold swappedStores
      simp only [bk, pure_bind]
      have kb : (ScopeKind.function != ScopeKind.function) = false := by decide
      rw [kb, Bool.or_false]
      have ek : ∀ id : Str, (env.kindOf id == some .local) = isLoc env.scope id := by
        intro id
        unfold Env.kindOf isLoc
        generalize env.scope.names.lookup id = o
        cases o with
        | none => rfl
        | some z => cases z <;> rfl
      simp only [ek]
      split at h
      · rename_i h1
        cases h
        exact if_pos h1
      · rename_i h1
        refine (if_neg h1).trans ?_
        split at h
        · rename_i h2
          cases h
          exact if_pos h2
        · rename_i h2
          refine (if_neg h2).trans ?_
          try dsimp only at h
          try dsimp only
          split at h
          · rename_i h3
            cases h
            exact if_pos h3
          · rename_i h3
            refine (if_neg h3).trans ?_
            split at h
            · rename_i h4
              cases h
              exact if_pos h4
            · rename_i h4
              refine (if_neg h4).trans ?_
              split at h
              · cases h
              · rename_i h5
                cases h
                exact if_neg h5
    | _ => cases h; rfl
  | List ts pt =>
    cases e with
    | Tuple vs kv pv => cases h
    | _ => cases h; rfl
  | _ => cases h; rfl
/-! ### loops -/
theorem s_while (g : GS X G C Γ k W) {tc : St → Mp → (Bool → Mp → Prop) → Prop} {wb : En → St → Mp → Prop} {body : List Stmt} {clr : List Nat} (hc : PT X c (LT X xk W tc)) (hb : PSs X body (LS X xk W wb)) :
    PS X (.While c body [] pos) (LS X xk W fun E δ M => ∃ Wd : Nat → St → Mp → Prop, (∃ n, Wd n (wipeD δ clr) M) ∧ ∀ n δ M, Wd n δ M → tc δ M fun k M1 => match k with
      | true => wb { nx := fun δ' M' => ∃ n', n' < n ∧ Wd n' (wipeD δ' clr) M', ct := fun δ' M' => ∃ n', n' < n ∧ Wd n' (wipeD δ' clr) M', bk := E.nx, rt := E.rt } δ M1
      | false => E.nx δ M1) :=
  ps_imp (ps_while g.own hc hb) fun D σ H h => by
    obtain ⟨δ, M, U, E, r, xo, ⟨Wd, ⟨n, w0⟩, step⟩, out⟩ := h
    refine ⟨fun n σ' H' => ∃ δ' M' U', Go X.K M U H M' U' H' ∧ RS X.K M' U' δ' σ' ∧ Wd n δ' M', ⟨n, wipeD δ clr, M, U, r.here, r.rs.wipe clr, w0⟩, ?_⟩
    rintro n σ' H' ⟨δ', M', U', g1, rs, w⟩
    refine ⟨δ', M', U', _, ⟨g1.kp.vw, g1.rm, rs⟩, xo.mono g1, step n δ' M' w, fun q M2 U2 H2 g2 hR => ?_⟩
    have g12 := g1.trans g2
    have rs2 := rs.mono g2.ex g1.rm
    cases q with
    | true =>
      dsimp only
      rw [if_pos rfl]
      refine ⟨fun σ3 H3 => ∃ m', m' < n ∧ ∃ δ' M' U', Go X.K M U H M' U' H3 ∧ RS X.K M' U' δ' σ3 ∧ Wd m' δ' M', fun _ _ z => z, δ', M2, U2, _, ⟨g2.kp.vw, g2.rm, rs2⟩, xo.mono g12, hR, ⟨?_, out.rt.mono g12.ex g12.kp, out.nx.mono g12, ?_⟩⟩
      · rintro δ3 M3 σ3 U3 H3 g3 rs3 ⟨n', hn, w'⟩
        exact ⟨n', hn, wipeD δ3 clr, M3, U3, g12.trans g3, rs3.wipe clr, w'⟩
      · rintro δ3 M3 σ3 U3 H3 g3 rs3 ⟨n', hn, w'⟩
        exact ⟨n', hn, wipeD δ3 clr, M3, U3, g12.trans g3, rs3.wipe clr, w'⟩
    | false =>
      dsimp only
      rw [if_neg Bool.false_ne_true]
      exact out.nx δ' M2 σ' U2 H2 g12 rs2 hR
theorem s_for {ρ : Rho} {S clr : List Nat} {wi : St → Mp → (List D → (Mp → Prop) → Mp → Prop) → Prop} {wg : D → St → Mp → (St → Mp → Prop) → Prop} {wb : En → St → Mp → Prop} {tg iter : Expr} {body : List Stmt} (g : GS X G C Γ k W) (hs : noSet iter = true)
    (hi : PI X tg iter (LI ρ X xk W wi)) (hg : PG X tg (LG ρ X xk W S wg)) (hb : PSs X body (LS X xk W wb)) :
    PS X (.For tg iter body [] pos) (LS X xk W fun E δ M => wi δ M fun ds still M1 => forL (fun d k δ M => wg d δ M fun δ' M' => wb { nx := k, ct := k, bk := fun δ'' M'' => E.nx δ'' M'', rt := E.rt } δ' M') clr still E.nx ds (wipeD δ clr) M1) :=
  ps_imp (ps_for g.own g.calm hi hg hb (set_fold hs)) fun D σ H h => by
    obtain ⟨δ, M, U, E, r, xo, h, out⟩ := h
    refine ⟨δ, M, U, _, r, xo, h, fun ds still M1 U1 H1 J g1 hC hz jok => ?_⟩
    generalize hcL : forL (fun d k δ M => wg d δ M fun δ' M' => wb { nx := k, ct := k, bk := fun δ'' M'' => E.nx δ'' M'', rt := E.rt } δ' M') clr still E.nx = cL at hC
    refine ⟨fun i n σ' H' => n = ds.length - i ∧ i ≤ ds.length ∧ ∃ δ' M' U', Go X.K M1 U1 H1 M' U' H' ∧ RS X.K M' U' δ' σ' ∧ cL (ds.drop i) δ' M', ⟨ds.length, by simp, Nat.zero_le _, wipeD δ clr, M1, U1, .refl g1.kp.vw g1.rm, ((r.mono g1).rs).wipe clr, by simpa using hC⟩, ?_⟩
    rintro i n σ' H' ⟨rfl, hi, δ', M', U', g2, rs, hC⟩
    have g12 := g1.trans g2
    cases hd : ds.drop i with
    | nil =>
      rw [hd, ← hcL] at hC
      have hi' : i = ds.length := by
        have := List.drop_eq_nil_iff.mp hd
        omega
      obtain ⟨st, hk⟩ := hC
      exact .inl ⟨(jok M' U' H' g2.ex g2.kp.vw g2.rm st i).1 hi'.symm, out.nx δ' M' σ' U' H' g12 rs hk⟩
    | cons d rest =>
      rw [hd, ← hcL] at hC
      obtain ⟨st, hC⟩ := hC
      have hlt : i < ds.length := by
        have : (ds.drop i).length = ds.length - i := List.length_drop
        rw [hd] at this
        simp at this
        omega
      have hdi : ds[i]? = some d := by
        have := congrArg (fun l : List Pw.D => l[0]?) hd
        simpa using this
      have hrest : ds.drop (i + 1) = rest := by
        have := congrArg List.tail hd
        simpa [List.tail_drop] using this
      obtain ⟨go, yl⟩ := (jok M' U' H' g2.ex g2.kp.vw g2.rm st i).2 d hdi
      refine .inr ⟨go, fun σ3 H3 => ∃ δ3 M3 U3, Go X.K M1 U1 H1 M3 U3 H3 ∧ RS X.K M3 U3 δ3 σ3 ∧ cL rest δ3 M3, ?_, ?_⟩
      · rintro σ3 H3 ⟨δ3, M3, U3, q1, q2, q3⟩
        exact ⟨ds.length - (i + 1), by omega, rfl, hlt, δ3, M3, U3, q1, q2, by rw [hrest]; exact q3⟩
      · intro x H3 hy
        obtain ⟨U3, g3, rx⟩ := yl x H3 hy
        have g13 := g12.trans g3
        refine ⟨δ', M', U3, _, d, ⟨g3.kp.vw, g3.rm, rs.mono g3.ex g2.rm⟩, xo.mono g13, rx, hC, fun δ4 M4 σ4 U4 H4 g4 rs4 _ hR => ?_⟩
        have g14 := g13.trans g4
        have nx : OutG X.K M4 U4 H4 (fun δ' M' => forL (fun d k δ M => wg d δ M fun δ' M' => wb { nx := k, ct := k, bk := fun δ'' M'' => E.nx δ'' M'', rt := E.rt } δ' M') clr still E.nx rest (wipeD δ' clr) M') (fun σ3 H3 => ∃ δ3 M3 U3, Go X.K M1 U1 H1 M3 U3 H3 ∧ RS X.K M3 U3 δ3 σ3 ∧ cL rest δ3 M3) := by
          intro δ5 M5 σ5 U5 H5 g5 rs5 h5
          exact ⟨wipeD δ5 clr, M5, U5, g2.trans (g3.trans (g4.trans g5)), rs5.wipe clr, by rw [← hcL]; exact h5⟩
        exact ⟨δ4, M4, U4, _, ⟨g4.kp.vw, g4.rm, rs4⟩, xo.mono g14, hR, ⟨nx, out.rt.mono g14.ex g14.kp, out.nx.mono g14, nx⟩⟩
end
end Pw
set_option Elab.async false
set_option linter.all false
set_option maxRecDepth 100000
set_option maxHeartbeats 2000000
namespace Pw
open PySem PySem.Spec PyProof.Rows L2

/-! ### a list or a tuple, drawn from -/
def SqX (b : Bool) (K : PySem.W.Frag) (H : Hp) (a : Addr) (xs : List V) : Prop := if b then SqL K H a xs else SqT K H a xs
def itSt (b : Bool) (h : Heap) (it a : Addr) (i : Nat) : Prop := if b then h.IsListIter it a i else h.IsTupleIter it a i
theorem itSt.at {b : Bool} {h h' : Heap} {it a : Addr} {i : Nat} (x : itSt b h it a i) (k : ∀ o, h.get? it = some o → h'.get? it = some o) : itSt b h' it a i := by
  cases b
  · exact Heap.IsTupleIter.at (show h.IsTupleIter it a i from x) k
  · exact Heap.IsListIter.at (show h.IsListIter it a i from x) k
theorem itSt.obj {b : Bool} {h : Heap} {it a : Addr} {i : Nat} (x : itSt b h it a i) : ∃ o, h.get? it = some o ∧ o.cls = .type (if b then "list_iterator" else "tuple_iterator") ∧ ∀ v, o.data ≠ .cell v := by
  cases b
  · obtain ⟨o, e, c, d⟩ := (show h.IsTupleIter it a i from x)
    exact ⟨o, e, c, fun v z => by rw [d] at z; cases z⟩
  · obtain ⟨o, e, c, d⟩ := (show h.IsListIter it a i from x)
    exact ⟨o, e, c, fun v z => by rw [d] at z; cases z⟩
section
variable {X : Cx} {pins : List (Addr × Obj)} {σ : L2.St} {s : Shared} {H : Hp}
theorem src_at {b : Bool} {a : Addr} {xs : List V} (I : Inv X pins σ H s) (h : SqX b X.K H a xs) : ∃ us : List Value, Vals xs us ∧ xs.length ≤ sizeLine ∧ (if b then s.heap.IsList a us.toArray else s.heap.IsTuple a us.toArray) := by
  cases b
  · obtain ⟨us, r, p, z⟩ := I.tuple (show SqT X.K H a xs from h)
    exact ⟨us, r, z, show s.heap.IsTuple a us.toArray from p⟩
  · obtain ⟨us, r, p, z⟩ := I.list (show SqL X.K H a xs from h)
    exact ⟨us, r, z, p.isList⟩
theorem sqX_inj {b : Bool} {a : Addr} {xs ys : List V} (I : Inv X pins σ H s) (h : SqX b X.K H a xs) (q : SqX b X.K H a ys) : xs = ys := by
  cases b
  · exact I.tuple_inj h q
  · exact I.list_inj h q
theorem src_cls {b : Bool} {a : Addr} {us : List Value} {h : Heap} (q : if b then h.IsList a us.toArray else h.IsTuple a us.toArray) : ∃ o, h.get? a = some o ∧ o.cls = .type (if b then "list" else "tuple") := by
  cases b
  · obtain ⟨o, e, c, _⟩ := (show h.IsTuple a us.toArray from q)
    exact ⟨o, e, c⟩
  · obtain ⟨o, e, c, _⟩ := (show h.IsList a us.toArray from q)
    exact ⟨o, e, c⟩
theorem cls_ne {h : Heap} {a c : Addr} {o u : Obj} (e : h.get? a = some o) (e' : h.get? c = some u) (n : o.cls ≠ u.cls) : a ≠ c := fun z => by
  subst z
  rw [e] at e'
  cases e'
  exact n rfl
/-- what draws from it, as things stand -/
theorem src_draw {b : Bool} {it a : Addr} {i : Nat} {xs : List V} (hc : X.calm = true) (I : Inv X pins σ H s) (h : SqX b X.K H a xs) (st : itSt b s.heap it a i) :
    ∃ (us : List Value) (St : Nat → Heap → Prop), Vals xs us ∧ Draws X.prog X.w X.A.in1 it [it, a] us.length (fun i v => us[i]? = some v) St ∧ St i s.heap ∧ (∀ j h', St j h' → itSt b h' it a j) ∧ ∃ o, s.heap.get? a = some o ∧ o.cls = .type (if b then "list" else "tuple") := by
  obtain ⟨us, r, z, q⟩ := src_at I h
  obtain ⟨oa, ea, ca⟩ := src_cls q
  obtain ⟨oi, ei, ci, _⟩ := st.obj
  have hh : X.A.in1.handled = none := I.ok.hd hc
  have ne : a ≠ it := cls_ne ea ei (by rw [ca, ci]; cases b <;> simp)
  have P : (fun (i : Nat) (v : Value) => us.toArray[i]? = some v) = fun i v => us[i]? = some v := by
    funext i v
    simp
  cases b
  · have D := Draws.tuple (prog := X.prog) (w := X.w) hh it a ne us.toArray
    rw [P, List.size_toArray] at D
    exact ⟨us, _, r, D, ⟨st, q⟩, fun j h' z => z.1, oa, ea, ca⟩
  · have D := Draws.list (prog := X.prog) (w := X.w) hh it a ne us.toArray
    rw [P, List.size_toArray] at D
    exact ⟨us, _, r, D, ⟨st, q⟩, fun j h' z => z.1, oa, ea, ca⟩
end
/-! ### enumerate -/
def IteX (b : Bool) (K : PySem.W.Frag) (a : Addr) : It :=
  ⟨fun i H => ∃ (xs : List V) (x : V), SqX b K H a xs ∧ xs[i]? = some x, fun i H v H' => ∃ T x, v = .ref T ∧ H T = none ∧ H' = upd H T (.tup [.int (i : Nat), x]) ∧ ∀ xs, SqX b K H a xs → xs[i]? = some x, fun i H => ∃ xs : List V, SqX b K H a xs ∧ xs.length = i⟩
theorem turn_enumX {P : Program} {w : World} {K : PySem.W.Frag} {elts : List Expr} {kk : Nat} {tpos : Pos} (b : Bool) (a e it : Addr) :
    Turn P w K (.Tuple elts kk tpos) (IteX b K a) [e, it] e (fun i h => (∃ old, IsEnum h e it ((i : Nat) : Int) old) ∧ itSt b h it a i ∧ e ≠ it) where
  mem := by simp
  obj := fun i h st c hc => by
    obtain ⟨⟨old, he⟩, hi, _⟩ := st
    obtain ⟨o, ho, _, hd⟩ := hi.obj
    have e' : c = e ∨ c = it := by simpa using hc
    rcases e' with z | z
    · rw [z]; exact ⟨_, he, fun v q => nomatch q⟩
    · rw [z]; exact ⟨o, ho, hd⟩
  keep := fun i h h' st k => let ⟨⟨old, he⟩, hi, hne⟩ := st; ⟨⟨old, k e (by simp) _ he⟩, hi.at fun o q => k it (by simp) o q, hne⟩
  item := by
    intro X hP hw hK hc i pins s σ H E I hf st hg
    subst hP hw hK
    obtain ⟨⟨old, he⟩, hit, hne⟩ := st
    obtain ⟨xs, x, hq, hx⟩ := hg
    obtain ⟨us, St, r, D, st, hst, oa, ea, ca⟩ := src_draw hc I hq hit
    obtain ⟨u, hu, ru⟩ := r.get hx
    have hel : e < s.heap.objs.size := Heap.lt_size he
    obtain ⟨oi, ei, _, _⟩ := hit.obj
    have hil : it < s.heap.objs.size := Heap.lt_size ei
    have hea : e ≠ a := cls_ne he ea (by rw [ca]; cases b <;> simp)
    refine wpAny_pyNext_enum_itemD D he st (List.getElem?_eq_some_iff.mp hu).1 hne (by simp [hne, hea]) fun v h' tk hv ho hSt hT hsz hk => ?_
    rw [hu] at hv
    cases hv
    refine ⟨_, rfl, wpAny_letOwnedTupleGo_enum (s := { s with heap := h', toks := tk + 1 }) ho fun h'' he' sb => ?_⟩
    have hT2 : h''.get? s.heap.objs.size = some { cls := .type "tuple", data := .seq #[.int i tk, u] } := (sb.2 _ (Nat.ne_of_gt hel)).trans hT
    have new : ObjOk X.prog X.w (upd H s.heap.objs.size (.tup [.int (i : Nat), x])) h'' s.heap.objs.size (.tup [.int (i : Nat), x]) :=
      ⟨by show 2 ≤ sizeLine; decide, [.int i tk, u], .cons ⟨_, rfl⟩ (.cons ru .nil), ⟨_, hT2, rfl, _, rfl⟩⟩
    have I1 : Inv X pins σ (upd H s.heap.objs.size (.tup [.int (i : Nat), x])) { s with heap := h'', toks := tk + 1 } :=
      I.turnedNew (ch := [e, it]) (fun c ob hb q => (sb.2 c (fun z => hb (by simp [z]))).trans (hk c ob (fun z => hb (by simp [z])) (fun z => hb (by simp [z])) q)) hf (Nat.le_refl _) new
    refine ⟨.ref s.heap.objs.size, _, I1, rfl, ⟨_, x, rfl, I.hok.fresh (Nat.le_refl _), rfl, fun ys hy => by rw [sqX_inj I hy hq]; exact hx⟩, ⟨⟨u, ?_⟩, (hst _ _ hSt).at fun o q => (sb.2 it (Ne.symm hne)).trans q, hne⟩, fun c hb => ?_⟩
    · have e1 : ((i + 1 : Nat) : Int) = (i : Int) + 1 := by omega
      rw [e1]; exact he'
    · have hb' : c < s.heap.objs.size := by
        have e' : c = e ∨ c = it := by simpa using hb
        rcases e' with z | z
        · rw [z]; exact hel
        · rw [z]; exact hil
      rw [upd_ne (Nat.ne_of_lt hb')]
      exact (hf c hb).1
  done := by
    intro X hP hw hK hc i pins s σ H E I hf st hg
    subst hP hw hK
    obtain ⟨⟨old, he⟩, hit, hne⟩ := st
    obtain ⟨xs, hq, hx⟩ := hg
    obtain ⟨us, St, r, D, st, hst, _⟩ := src_draw hc I hq hit
    obtain ⟨f0, f1, f2, f3, f4, f5⟩ := hf it (by simp)
    have hl := r.length
    have e1 : i = us.length := by omega
    subst e1
    exact wpAny_pyNext_enum_endD D he st fun h' eb => ⟨rfl, I.turned (t' := s.toks) (fun c o hb q => eb c o hb q) f0 f1 f3 f4 f5⟩
  self := fun A i s Q E st h => let ⟨⟨_, he⟩, _⟩ := st; wpAny_pyIter_enum he h
theorem meets_en1 {v : Value} {o : Obj} {H : Heap → Prop} (B : Begins v o H) :
    Meets (Builtin.«enumerate.__new__» ⟨[.type "enumerate", v], []⟩) (fun _ R s => H s.heap ∧
      R (.ok (.ret (.ref (s.heap.push o).objs.size))) { s with heap := (s.heap.push o).push { cls := .type "enumerate", data := .fields #[.none, .bool false, .ref s.heap.objs.size, rawInt 0, .none, .none] } }) :=
  .of_wp fun prog w A R s h => by
    obtain ⟨hp, g, d, tk, os⟩ := s
    obtain ⟨h1, h⟩ := h
    have hsub := sub_enumerate
    have q1 : ∀ {A' : Around} {E : Value → Shared → Prop} {Q : Value → Shared → Prop}, Q (.ref hp.objs.size) ⟨hp.push o, g, d, tk, os⟩ → wpAny (model prog w) A' (pyIter v) Q E ⟨hp, g, d, tk, os⟩ :=
      fun q => B.iter prog w _ _ ⟨hp, g, d, tk, os⟩ _ h1 q
    wp_walk using q1
    refine wpAny_stack_any fun st => wpAny_pure ?_
    split
    · rename_i c _ _ _ _ _
      cases (c == Value.type "enumerate")
      · wp_walk using q1
        exact ⟨_, rfl, h⟩
      · wp_walk using q1
        exact ⟨_, rfl, h⟩
    · wp_walk using q1
      exact ⟨_, rfl, h⟩
section
variable {prog : Program} {w : World} {A : Around} {E : Value → Shared → Prop} {s : Shared}
theorem call_en1 {v : Value} {o : Obj} {H : Heap → Prop} {Q : Value → Shared → Prop} (B : Begins v o H) (h1 : H s.heap)
    (h : ∀ h', IsEnum h' (s.heap.objs.size + 1) s.heap.objs.size 0 .none → h'.get? s.heap.objs.size = some o → (∀ b o, s.heap.get? b = some o → h'.get? b = some o) → Q (.ref (s.heap.objs.size + 1)) { s with heap := h' }) :
    wpAny (model prog w) A (call (.type "enumerate") [v]) Q E s := by
  refine callType_new F.called_enumerate (by decide) (F.typeCall_enumerate_1 _) (F.newCall_enumerate_1 _) (fun obj => F.args_object_init_2 obj _) F.entry_enumerate_new (meets_en1 B) ⟨h1, ?_⟩
  have hz : (s.heap.push o).objs.size = s.heap.objs.size + 1 := Heap.size_push ..
  show _ ∧ _
  rw [hz]
  have he : IsEnum ((s.heap.push o).push { cls := .type "enumerate", data := .fields #[.none, .bool false, .ref s.heap.objs.size, rawInt 0, .none, .none] }) (s.heap.objs.size + 1) s.heap.objs.size 0 .none := by
    have := Heap.get?_push_size (s.heap.push o) (o := { cls := .type "enumerate", data := .fields #[.none, .bool false, .ref s.heap.objs.size, rawInt 0, .none, .none] }) rfl
    rw [hz] at this
    exact this
  exact ⟨⟨_, he, rfl⟩, h _ he (Heap.get?_push_of_some _ (Heap.get?_push_size _ B.free)) fun b o x => Heap.get?_push_of_some _ (Heap.get?_push_of_some _ x)⟩
end
section
variable {X : Cx}
def iEnX (K : PySem.W.Frag) (te : TE) : TI := fun σ H R => te σ H fun v H1 => ∃ (b : Bool) (a : Addr) (xs : List V), v = .ref a ∧ SqX b K H1 a xs ∧ R (IteX b K a) H1
theorem pi_enX {e : Expr} {te : TE} {p pos tpos : Pos} {elts : List Expr} {kk : Nat} (hg : Gl X "enumerate") (hm : X.mg "enumerate" = none) (he : PE X e te) (hs : starEach [e] X.env = (false, eval e X.env) :: starEach [] X.env) :
    PI X (.Tuple elts kk tpos) (.Call (.Name "enumerate" p) [e] [] pos) (iEnX X.K te) := by
  refine ⟨fun pins s σ H R I h => ?_⟩
  refine Call_ (ld_blt I hg hm boot_enumerate (PyProof.Rows.callWith_type1 (args_cons (thn (he.run pins s σ H _ I h) fun u s1 ⟨v, H1, I1, r1, q1⟩ => args_nil ?_) hs) hs rfl))
  obtain ⟨b, a, xs, ev, hq, q⟩ := q1
  subst ev
  obtain rfl : u = Value.ref a := r1
  obtain ⟨us, r, z, src⟩ := src_at I1 hq
  have key : ∀ {o : Obj} {Hb : Heap → Prop}, Begins (.ref a) o Hb → Hb s1.heap → (∀ h' : Heap, h'.get? s1.heap.objs.size = some o → itSt b h' s1.heap.objs.size a 0) →
      wpAny (model X.prog X.w) X.A (call (.type "enumerate") [.ref a]) (fun v s₁ => wpAny (model X.prog X.w) X.A (pyIter v) (PIE X pins σ (.Tuple elts kk tpos) R) X.xe s₁) X.xe s1 := by
    intro o Hb B h1 hi
    refine call_en1 B h1 fun h' he' ho hk => wpAny_pyIter_enum he' ?_
    have I2 : Inv X pins σ H1 { s1 with heap := h' } := I1.kept (t' := s1.toks) hk
    refine ⟨s1.heap.objs.size + 1, [s1.heap.objs.size + 1, s1.heap.objs.size], _, _, H1, rfl, I2, turn_enumX b a (s1.heap.objs.size + 1) s1.heap.objs.size, ⟨⟨.none, he'⟩, hi h' ho, Nat.succ_ne_self _⟩, fun c hc => ?_, q⟩
    have e' : c = s1.heap.objs.size + 1 ∨ c = s1.heap.objs.size := by simpa using hc
    have hle : s1.heap.objs.size ≤ c := by
      rcases e' with z | z
      · rw [z]; exact Nat.le_add_right _ _
      · rw [z]; exact Nat.le_refl _
    exact I1.fpOk hle (I1.hok.fresh hle)
  cases b
  · exact key (begins_tuple a us.toArray) src fun h' ho => show h'.IsTupleIter _ _ _ from ⟨_, ho, rfl, rfl⟩
  · exact key (begins_list a us.toArray) src fun h' ho => show h'.IsListIter _ _ _ from ⟨_, ho, rfl, rfl⟩
end
/-- a list or a tuple that stands: its reading -/
theorem sqX_up {b : Bool} {K : PySem.W.Frag} {U H : Hp} {a : Addr} {vs : List V} (vw : Vw U H) (h : SqX b K U a vs) : SqX b K H a vs := by
  cases b
  · exact vw.sqW h
  · rcases (show SqL K U a vs from h) with (h | ⟨o, h⟩) | h
    · exact .inl (.inl (vw _ _ h))
    · exact .inl (.inr ⟨o, vw _ _ h⟩)
    · exact .inr h
theorem jok_e {K : PySem.W.Frag} {M1 : Mp} {U1 : Hp} {ds : List D} {still : Mp → Prop} {b : Bool} {a : Addr} (hs : ∀ M U, Ext M1 U1 M U → RM K M U → still M → ∃ vs, SqX b K U a vs ∧ RVs K M U ds vs) : JOk RW K (IteX b K a) M1 U1 (ds.zipIdx.map fun p => .tup [.int (p.2 : Nat), p.1]) still := by
  intro M U H x vw rm st i
  obtain ⟨vs, hq, q⟩ := hs M U x rm st
  have hq' := sqX_up vw hq
  refine ⟨fun hl => ⟨vs, hq', by rw [q.length]; simpa using hl⟩, fun d hd => ?_⟩
  rw [List.getElem?_map] at hd
  obtain ⟨p, hp, rfl⟩ := Option.map_eq_some_iff.mp hd
  rw [List.getElem?_zipIdx] at hp
  obtain ⟨y, hy, rfl⟩ := Option.map_eq_some_iff.mp hp
  obtain ⟨v, hv, rv⟩ := q.get hy
  refine ⟨⟨vs, v, hq', hv⟩, fun z H' hz => ?_⟩
  obtain ⟨T, w, rfl, hT, rfl, hw⟩ := hz
  have e := hw vs hq'
  rw [hv] at e
  cases e
  refine ⟨_, ⟨Ext.new (vw.none hT), Kp.new vw hT, rm.new (vw.none hT)⟩, ⟨T, _, rfl, .inl (.inl upd_same), ?_⟩⟩
  simp only [RVs]
  refine ⟨_, _, rfl, by simp [RV], _, _, rfl, RV.mono (Ext.new (vw.none hT)) rm _ _ rv, rfl⟩
section
variable {X : Cx} {xk : XD} {W : WX} {G : Gc} {C : Ct} {Γ : String → SpD} {k : Nat} {a : Expr} {wa : St → Mp → DK → Prop} {pos : Pos}
theorem w_ienum (g : GX X G C Γ k W) {tg f : Expr} (hf : nameB C G "enumerate" f = true) (ht : isTupE tg = true) (hn : noStar a = true) (ha : PE X a (LE X xk W wa)) : PI X tg (.Call f [a] [] pos) (LI RW X xk W fun δ M Q => wa δ M fun x M1 => match x with
    | .tup ds => Q (ds.zipIdx.map fun p => .tup [.int (p.2 : Nat), p.1]) (fun _ => True) M1
    | .lst ds => Q (ds.zipIdx.map fun p => .tup [.int (p.2 : Nat), p.1]) (fun _ => True) M1
    | .ref a => (match M1 a with
      | some (.lst ds) => Q (ds.zipIdx.map fun p => .tup [.int (p.2 : Nat), p.1]) (fun M => M a = some (.lst ds)) M1
      | _ => False)
    | _ => False) := by
  obtain ⟨p, rfl, q1, q2, q3, q4⟩ := nameB_of g hf
  cases tg <;> first
    | cases ht
    | skip
  refine pi_imp (pi_bd (pi_enX q1 q2 ha (star_cons hn))) fun σ H Q h => ?_
  obtain ⟨δ, M, U, R, r, xo, h, out⟩ := h
  refine ⟨δ, M, U, _, r, xo, h, fun d M1 v U1 H1 e k rm rv hR => ?_⟩
  split at hR
  · rename_i ds
    simp only [RV] at rv
    obtain ⟨p, vs, rfl, hq, q⟩ := rv
    refine ⟨false, p, vs, rfl, k.vw.sqT hq, fun bd => out _ _ M1 U1 H1 _ ⟨e, k, rm⟩ hR (by simp only [List.length_map, List.length_zipIdx]; rw [← q.length, ← lineLIM]; exact bd p vs (.inr (k.vw.sqT hq))) ?_⟩
    exact jok_e fun M' U' x' rm' _ => ⟨vs, (x'.sqF rm hq).sq, RVs.mono x' rm _ _ q⟩
  · rename_i ds
    simp only [RV] at rv
    obtain ⟨p, vs, rfl, hq, hn, q⟩ := rv
    refine ⟨true, p, vs, rfl, .of (k.vw _ _ hq), fun bd => out _ _ M1 U1 H1 _ ⟨e, k, rm⟩ hR (by simp only [List.length_map, List.length_zipIdx]; rw [← q.length, ← lineLIM]; exact bd p vs (.inl (.of (k.vw _ _ hq)))) ?_⟩
    exact jok_e fun M' U' x' rm' _ => ⟨vs, .of (x' p _ hq hn).1, RVs.mono x' rm _ _ q⟩
  · rename_i p
    simp only [RV] at rv
    subst rv
    split at hR
    · rename_i ds em
      obtain ⟨vs, hq, q⟩ := rm p _ em
      refine ⟨true, p, vs, rfl, .of (k.vw _ _ hq), fun bd => out _ _ M1 U1 H1 _ ⟨e, k, rm⟩ hR (by simp only [List.length_map, List.length_zipIdx]; rw [← q.length, ← lineLIM]; exact bd p vs (.inl (.of (k.vw _ _ hq)))) ?_⟩
      refine jok_e fun M' U' x' rm' st => ?_
      obtain ⟨vs', hq', q'⟩ := rm' p _ st
      exact ⟨vs', .of hq', q'⟩
    · exact hR.elim
  · exact hR.elim
end
end Pw
set_option Elab.async false
set_option linter.all false
set_option maxRecDepth 100000
/-! zip of two: lists and tuples, of any kind -/
namespace Pw
open PySem PySem.Spec PyProof.Rows L2
def seqX (b : Bool) (h : Heap) (a : Addr) (its : Array Value) : Prop := if b then h.IsList a its else h.IsTuple a its
def itO (b : Bool) (a : Addr) : Obj := { cls := .type (if b then "list_iterator" else "tuple_iterator"), data := .fields #[.ref a, .int 0 0] }
theorem itO_st {b : Bool} {h : Heap} {it a : Addr} (e : h.get? it = some (itO b a)) : itSt b h it a 0 := by
  cases b
  · exact ⟨_, e, rfl, rfl⟩
  · exact ⟨_, e, rfl, rfl⟩
theorem begins_x (b : Bool) (a : Addr) (its : Array Value) : Begins (.ref a) (itO b a) fun h => seqX b h a its := by
  cases b
  · exact begins_tuple a its
  · exact begins_list a its
theorem draws_x {prog : Program} {w : World} {A : Around} (b : Bool) (hh : A.handled = none) (it a : Addr) (hne : a ≠ it) (its : Array Value) :
    Draws prog w A it [it, a] its.size (fun i v => its[i]? = some v) (fun i h => itSt b h it a i ∧ seqX b h a its) := by
  cases b
  · exact Draws.tuple hh it a hne its
  · exact Draws.list hh it a hne its
theorem seqX_of {X : Cx} {pins : List (Addr × Obj)} {σ : L2.St} {H : Hp} {s : Shared} {b : Bool} {a : Addr} {xs : List V} (I : Inv X pins σ H s) (h : SqX b X.K H a xs) : ∃ its : List Value, Vals xs its ∧ seqX b s.heap a its.toArray := by
  cases b
  · obtain ⟨its, rv, p, _⟩ := I.tuple h
    exact ⟨its, rv, p⟩
  · obtain ⟨its, rv, p, _⟩ := I.list h
    exact ⟨its, rv, p.isList⟩
theorem seqX_inj {X : Cx} {pins : List (Addr × Obj)} {σ : L2.St} {H : Hp} {s : Shared} {b : Bool} {a : Addr} {xs ys : List V} (I : Inv X pins σ H s) (h : SqX b X.K H a xs) (h' : SqX b X.K H a ys) : xs = ys := by
  cases b
  · exact I.tuple_inj h h'
  · exact I.list_inj h h'
theorem seqX_lt {b : Bool} {h : Heap} {a : Addr} {its : Array Value} (p : seqX b h a its) : a < h.objs.size := by
  cases b
  · obtain ⟨o, e, _⟩ := (show h.IsTuple a its from p); exact Heap.lt_size e
  · obtain ⟨o, e, _⟩ := (show h.IsList a its from p); exact Heap.lt_size e
theorem itSt_obj {b : Bool} {h : Heap} {it a : Addr} {i : Nat} (p : itSt b h it a i) : ∃ o, h.get? it = some o ∧ ∀ v, o.data ≠ .cell v := by
  cases b
  · obtain ⟨o, e, _, d⟩ := (show h.IsTupleIter it a i from p); exact ⟨o, e, fun v q => by rw [d] at q; cases q⟩
  · obtain ⟨o, e, _, d⟩ := (show h.IsListIter it a i from p); exact ⟨o, e, fun v q => by rw [d] at q; cases q⟩
/-- what stands at a and b at each turn, the items in new pairs -/
def ItzM (b1 b2 : Bool) (K : PySem.W.Frag) (a b : Addr) : It :=
  ⟨fun i H => ∃ (xs ys : List V) (x y : V), SqX b1 K H a xs ∧ SqX b2 K H b ys ∧ xs[i]? = some x ∧ ys[i]? = some y,
    fun i H v H' => ∃ T x y, v = .ref T ∧ H T = none ∧ H' = upd H T (.tup [x, y]) ∧ (∀ xs, SqX b1 K H a xs → xs[i]? = some x) ∧ ∀ ys, SqX b2 K H b ys → ys[i]? = some y,
    fun i H => ∃ xs ys : List V, SqX b1 K H a xs ∧ SqX b2 K H b ys ∧ i ≤ xs.length ∧ i ≤ ys.length ∧ (i = xs.length ∨ i = ys.length)⟩
theorem sep_of {z TI TO i1 i2 a b : Addr} (D : ZipApart z TI TO i1 i2 a b) : ZipSep2 z TI TO i1 i2 [i1, a] [i2, b] where
  TIz := D.TIz
  TOz := D.TOz
  TITO := D.TITO
  TIi1 := D.TIi1
  mem1 := by simp
  zf1 := by simp; exact ⟨fun e => D.i1z e.symm, fun e => D.l1z e.symm⟩
  Tf1 := by simp; exact ⟨D.TOi1, fun e => D.l1TO e.symm⟩
  TIi2 := D.TIi2
  mem2 := by simp
  zf2 := by simp; exact ⟨fun e => D.i2z e.symm, fun e => D.l2z e.symm⟩
  Tf2 := by simp; exact ⟨D.TOi2, fun e => D.l2TO e.symm⟩
  sep1_2 := by simp; exact ⟨D.i12, fun e => D.l2i1 e.symm⟩
  sep2_1 := by simp; exact ⟨fun e => D.i12 e.symm, fun e => D.l1i2 e.symm⟩
theorem turn_zipM {P : Program} {w : World} {K : PySem.W.Frag} {elts : List Expr} {kk : Nat} {tpos : Pos} {b1 b2 : Bool} {a b z TI TO i1 i2 : Addr} (D : ZipApart z TI TO i1 i2 a b) :
    Turn P w K (.Tuple elts kk tpos) (ItzM b1 b2 K a b) [z, TI, TO, i1, i2] z (fun i h => IsZip h z TI TO .none ∧ IsPair h TI (.ref i1) (.ref i2) ∧ (∃ x y, IsPair h TO x y) ∧ itSt b1 h i1 a i ∧ itSt b2 h i2 b i) where
  mem := by simp
  obj := fun i h st c hc => by
    obtain ⟨hz, hTI, ⟨x, y, hTO⟩, h1, h2⟩ := st
    simp only [List.mem_cons, List.not_mem_nil, or_false] at hc
    rcases hc with rfl | rfl | rfl | rfl | rfl
    · exact ⟨_, hz, fun v q => nomatch q⟩
    · exact ⟨_, hTI, fun v q => nomatch q⟩
    · exact ⟨_, hTO, fun v q => nomatch q⟩
    · exact itSt_obj h1
    · exact itSt_obj h2
  keep := fun i h h' st k => by
    obtain ⟨hz, hTI, ⟨x, y, hTO⟩, h1, h2⟩ := st
    exact ⟨k z (by simp) _ hz, k TI (by simp) _ hTI, ⟨x, y, k TO (by simp) _ hTO⟩, h1.at fun o q => k i1 (by simp) o q, h2.at fun o q => k i2 (by simp) o q⟩
  item := by
    intro X hP hw hK hc i pins s σ H E I hf st hg
    subst hP hw hK
    obtain ⟨hz, hTI, ⟨x0, y0, hTO⟩, h1, h2⟩ := st
    obtain ⟨xs, ys, x, y, hqx, hqy, hx, hy⟩ := hg
    obtain ⟨its, rv, p⟩ := seqX_of I hqx
    obtain ⟨its2, rv2, p2⟩ := seqX_of I hqy
    obtain ⟨u, hu, ru⟩ := rv.get hx
    obtain ⟨u2, hu2, ru2⟩ := rv2.get hy
    have hzl : z < s.heap.objs.size := Heap.lt_size hz
    have n1 : i < its.toArray.size := by simpa using (List.getElem?_eq_some_iff.mp hu).1
    have n2 : i < its2.toArray.size := by simpa using (List.getElem?_eq_some_iff.mp hu2).1
    have hh : X.A.in1.handled = none := I.ok.hd hc
    refine wpAny_pyNext_zipD2_item (sep_of D) (draws_x b1 hh i1 a D.l1i1 its.toArray) (draws_x b2 hh i2 b D.l2i2 its2.toArray) hz hTI hTO ⟨h1, p⟩ ⟨h2, p2⟩ n1 n2 fun v1 v2 h' tk e1 e2 z' TO' s1 s2 hT hsz hk => ?_
    obtain rfl : u = v1 := by
      have : its[i]? = some v1 := by simpa using e1
      rw [hu] at this; exact Option.some.inj this
    obtain rfl : u2 = v2 := by
      have : its2[i]? = some v2 := by simpa using e2
      rw [hu2] at this; exact Option.some.inj this
    refine ⟨_, rfl, wpAny_letOwnedTupleGo_zip (s := { s with heap := h', toks := tk }) z' fun h'' z'' sb => ?_⟩
    have hT2 : h''.get? s.heap.objs.size = some { cls := .type "tuple", data := .seq #[u, u2] } := (sb.2 _ (Nat.ne_of_gt hzl)).trans hT
    have new : ObjOk X.prog X.w (upd H s.heap.objs.size (.tup [x, y])) h'' s.heap.objs.size (.tup [x, y]) :=
      ⟨by show 2 ≤ sizeLine; decide, [u, u2], .cons ru (.cons ru2 .nil), ⟨_, hT2, rfl, _, rfl⟩⟩
    have I1 : Inv X pins σ (upd H s.heap.objs.size (.tup [x, y])) { s with heap := h'', toks := tk } :=
      I.turnedNew (t' := tk) (ch := [z, TI, TO, i1, i2]) (fun c o hb q => (sb.2 c (fun q' => hb (by simp [q']))).trans (hk c o (fun q' => hb (by simp [q'])) (fun q' => hb (by simp [q'])) (fun q' => hb (by simp [q'])) (fun q' => hb (by simp [q'])) q)) hf (Nat.le_refl _) new
    refine ⟨.ref s.heap.objs.size, _, I1, rfl, ⟨_, x, y, rfl, I.hok.fresh (Nat.le_refl _), rfl, fun l hl => by rw [seqX_inj I hl hqx]; exact hx, fun l hl => by rw [seqX_inj I hl hqy]; exact hy⟩, ⟨z'', ?_, ⟨u, u2, ?_⟩, ?_, ?_⟩, fun c hcm => ?_⟩
    · exact (sb.2 _ D.TIz).trans (hk _ _ D.TIz D.TITO D.TIi1 D.TIi2 hTI)
    · exact (sb.2 _ D.TOz).trans TO'
    · exact s1.1.at fun o q => (sb.2 _ D.i1z).trans q
    · exact s2.1.at fun o q => (sb.2 _ D.i2z).trans q
    · have hlt : c < s.heap.objs.size := by
        simp only [List.mem_cons, List.not_mem_nil, or_false] at hcm
        rcases hcm with rfl | rfl | rfl | rfl | rfl
        · exact hzl
        · exact Heap.lt_size hTI
        · exact Heap.lt_size hTO
        · obtain ⟨_, e1, _⟩ := itSt_obj h1; exact Heap.lt_size e1
        · obtain ⟨_, e2, _⟩ := itSt_obj h2; exact Heap.lt_size e2
      rw [upd_ne (Nat.ne_of_lt hlt)]
      exact (hf c hcm).1
  done := by
    intro X hP hw hK hc i pins s σ H E I hf st hg
    subst hP hw hK
    obtain ⟨hz, hTI, ⟨x0, y0, hTO⟩, h1, h2⟩ := st
    obtain ⟨xs, ys, hqx, hqy, g1, g2, hend⟩ := hg
    obtain ⟨its, rv, p⟩ := seqX_of I hqx
    obtain ⟨its2, rv2, p2⟩ := seqX_of I hqy
    have l1 := rv.length
    have l2 := rv2.length
    have hh : X.A.in1.handled = none := I.ok.hd hc
    exact wpAny_pyNext_zipD2_end (sep_of D) (draws_x b1 hh i1 a D.l1i1 its.toArray) (draws_x b2 hh i2 b D.l2i2 its2.toArray) hz hTI hTO ⟨h1, p⟩ ⟨h2, p2⟩ (by simp; omega) (by simp; omega) (by simp; omega) fun h' tk hk => ⟨rfl, I.turnedL (t' := tk) (ch := [z, TI, TO, i1, i2]) (fun c o hb q =>
      hk c o (fun q' => hb (by simp [q'])) (fun q' => hb (by simp [q'])) (fun q' => hb (by simp [q'])) (fun q' => hb (by simp [q'])) q) hf⟩
  self := fun A i s Q E st h => wpAny_pyIter_zip st.1 h
def iZipM (K : PySem.W.Frag) (ta : TA) : TI := fun σ H R => ta σ H fun vs H1 => ∃ (a b : Addr) (xs ys : List V) (b1 b2 : Bool), vs = [.ref a, .ref b] ∧ SqX b1 K H1 a xs ∧ SqX b2 K H1 b ys ∧ (Bd K H1 → R (ItzM b1 b2 K a b) H1)
theorem pi_zipM {X : Cx} {e e2 : Expr} {ta : TA} {p pos tpos : Pos} {elts : List Expr} {kk : Nat} (hg : Gl X "zip") (hm : X.mg "zip" = none) (ha : PA X [e, e2] ta)
    (hs : starEach [e, e2] X.env = (false, eval e X.env) :: starEach [e2] X.env) (hpl : (backTo pos (starEach [e2] X.env)).any (·.1) = false) :
    PI X (.Tuple elts kk tpos) (.Call (.Name "zip" p) [e, e2] [] pos) (iZipM X.K ta) := by
  refine ⟨fun pins s σ H R I h => ?_⟩
  refine Call_ (ld_blt I hg hm PyProof.Rows.boot_zip (PyProof.Rows.callWith_type1 (thn (ha.run pos pins s σ H _ I h) fun us s1 ⟨vs, H1, I1, r1, q1⟩ => ?_) hs hpl))
  obtain ⟨a, b, xs, ys, b1, b2, ex, hqx, hqy, q⟩ := q1
  subst ex
  cases r1 with
  | cons r rr =>
    cases rr with
    | cons r' rr =>
      cases rr
      cases r
      cases r'
      have fresh5 : ∀ c, c ∈ [s1.heap.objs.size + 4, s1.heap.objs.size + 2, s1.heap.objs.size + 3, s1.heap.objs.size, s1.heap.objs.size + 1] → FpOk X pins H1 c := fun c hcm => by
        have hle : s1.heap.objs.size ≤ c := by
          simp only [List.mem_cons, List.not_mem_nil, or_false] at hcm
          omega
        exact I1.fpOk hle (I1.hok.fresh hle)
      obtain ⟨its, rv, p1⟩ := seqX_of I1 hqx
      obtain ⟨its2, rv2, p2⟩ := seqX_of I1 hqy
      refine zip_begins2 (begins_x b1 a its.toArray) (begins_x b2 b its2.toArray) p1 p2 fun h' hz hTI hTO g1 g2 hsz hk => wpAny_pyIter_zip hz ?_
      have I2 : Inv X pins σ H1 { s1 with heap := h' } := I1.kept (t' := s1.toks) hk
      exact ⟨s1.heap.objs.size + 4, [s1.heap.objs.size + 4, s1.heap.objs.size + 2, s1.heap.objs.size + 3, s1.heap.objs.size, s1.heap.objs.size + 1], _, _, H1, rfl, I2, turn_zipM (PySem.W.ktu_apart s1.heap.objs.size a b (seqX_lt p1) (seqX_lt p2)), ⟨hz, hTI, ⟨_, _, hTO⟩, itO_st g1, itO_st g2⟩, fresh5, q (bd_of I1)⟩
theorem RVs.get2 {K : PySem.W.Frag} {M : Mp} {U : Hp} {as bs : List Pw.D} {vs ws : List V} (h : RVs K M U as vs) (h' : RVs K M U bs ws) {i : Nat} {p : Pw.D × Pw.D} (e : (as.zip bs)[i]? = some p) : ∃ v w, vs[i]? = some v ∧ ws[i]? = some w ∧ RV K M U p.1 v ∧ RV K M U p.2 w := by
  obtain ⟨h1, h2⟩ := List.getElem?_zip_eq_some.mp e
  obtain ⟨v, hv, rv⟩ := h.get h1
  obtain ⟨w, hw, rw⟩ := h'.get h2
  exact ⟨v, w, hv, hw, rv, rw⟩
theorem jok_z {K : PySem.W.Frag} {M1 : Mp} {U1 : Hp} {as bs : List Pw.D} {still : Mp → Prop} {b1 b2 : Bool} {x y : Addr}
    (hs : ∀ M U, Ext M1 U1 M U → RM K M U → still M → ∃ vs ws, SqX b1 K U x vs ∧ RVs K M U as vs ∧ SqX b2 K U y ws ∧ RVs K M U bs ws) :
    JOk RW K (ItzM b1 b2 K x y) M1 U1 ((as.zip bs).map fun p => .tup [p.1, p.2]) still := by
  intro M U H ex vw rm st i
  obtain ⟨vs, ws, hq, q, hr, r⟩ := hs M U ex rm st
  have hq' := sqX_up vw hq
  have hr' := sqX_up vw hr
  have l1 := q.length
  have l2 := r.length
  refine ⟨fun hl => ?_, fun d hd => ?_⟩
  · simp only [List.length_map, List.length_zip] at hl
    exact ⟨vs, ws, hq', hr', by omega, by omega, by omega⟩
  · rw [List.getElem?_map] at hd
    obtain ⟨p, hp, rfl⟩ := Option.map_eq_some_iff.mp hd
    obtain ⟨v, w, hv, hw, rv, rw⟩ := q.get2 r hp
    refine ⟨⟨vs, ws, v, w, hq', hr', hv, hw⟩, fun z H' hz => ?_⟩
    obtain ⟨T, v', w', rfl, hT, rfl, e1, e2⟩ := hz
    have e1 := e1 vs hq'
    have e2 := e2 ws hr'
    rw [hv] at e1; rw [hw] at e2
    cases e1; cases e2
    refine ⟨_, ⟨Ext.new (vw.none hT), Kp.new vw hT, rm.new (vw.none hT)⟩, ⟨T, _, rfl, .inl (.inl upd_same), ?_⟩⟩
    simp only [RVs]
    exact ⟨_, _, rfl, RV.mono (Ext.new (vw.none hT)) rm _ _ rv, _, _, rfl, RV.mono (Ext.new (vw.none hT)) rm _ _ rw, rfl⟩
section
variable {X : Cx} {xk : XD} {W : WX} {G : Gc} {C : Ct} {Γ : String → SpD} {k : Nat} {pos : Pos}
theorem w_izip (g : GX X G C Γ k W) {tg f : Expr} {es : List Expr} {n : Nat} {wl : St → Mp → (List Pw.D → Mp → Prop) → Prop} (hf : nameB C G "zip" f = true) (ht : isTupE tg = true) (hp : allPlain es = true) (hn : es.length = n) (h2 : es.length = 2) (ha : PA X es (LL X xk W n wl)) :
    PI X tg (.Call f es [] pos) (LI RW X xk W fun δ M Q => wl δ M fun ds M1 => zipD Q ds M1) := by
  obtain ⟨p, rfl, q1, q2, q3, q4⟩ := nameB_of g hf
  cases tg <;> first
    | cases ht
    | skip
  match es, h2 with
  | [a, b], _ =>
    simp only [allPlain, Bool.and_eq_true] at hp
    have hs1 := star_cons (e := a) (es := [b]) (env := X.env) hp.1
    have hs2 := star_any (env := X.env) (pos := pos) (es := [b]) (by simp only [allPlain, Bool.and_eq_true]; exact hp.2)
    refine pi_imp (pi_zipM q1 q2 ha hs1 hs2) fun σ H Q h => ?_
    obtain ⟨δ, M, U, R, r, xo, h, out⟩ := h
    refine ⟨δ, M, U, _, r, xo, h, fun ds M1 vs U1 H1 g1 rv hl hR => ?_⟩
    have hlen : ∀ {b : Bool} {p1 : Addr} {vs : List V} {as : List Pw.D}, SqX b X.K H1 p1 vs → vs.length = as.length → Bd X.K H1 → as.length ≤ sizeLine := fun {b p1 vs as} hq e bd => by
      rw [← e]
      cases b
      · exact bd p1 vs (.inr hq)
      · exact bd p1 vs (.inl hq)
    unfold zipD at hR
    split at hR
    · rename_i x y
      obtain ⟨v, v', rfl, q, q'⟩ := rv.two_of
      split at hR
      · rename_i as bs
        simp only [RV] at q q'
        obtain ⟨p1, vs, rfl, hq, q⟩ := q
        obtain ⟨p2, ws, rfl, hq', q'⟩ := q'
        have b1 : SqX false X.K H1 p1 vs := g1.kp.vw.sqT hq
        have b2 : SqX false X.K H1 p2 ws := g1.kp.vw.sqT hq'
        refine ⟨p1, p2, vs, ws, false, false, rfl, b1, b2, fun bd => out _ _ M1 U1 H1 _ g1 hR ?_ ?_⟩
        · simp only [List.length_map, List.length_zip]
          have := hlen (as := as) b1 q.length bd
          rw [lineLIM] at this
          omega
        · exact jok_z fun M' U' x' rm' _ => ⟨vs, ws, (x'.sqF g1.rm hq).sq, RVs.mono x' g1.rm _ _ q, (x'.sqF g1.rm hq').sq, RVs.mono x' g1.rm _ _ q'⟩
      · rename_i bs _
        split at hR
        · rename_i as e1
          simp only [RV] at q'
          obtain ⟨p2, ws, rfl, hq', q'⟩ := q'
          obtain ⟨p1, vs, rfl, hq, qs⟩ := lstOf_at g1.kp.vw g1.rm e1 q
          have b2 : SqX false X.K H1 p2 ws := g1.kp.vw.sqT hq'
          refine ⟨p1, p2, vs, ws, true, false, rfl, hq, b2, fun bd => out _ _ M1 U1 H1 _ g1 hR ?_ ?_⟩
          · simp only [List.length_map, List.length_zip]
            have := hlen (as := bs) b2 q'.length bd
            rw [lineLIM] at this
            omega
          · refine jok_z fun M' U' x' rm' st => ?_
            obtain ⟨p3, vs3, e3, h3, r3⟩ := lstOf_at (H := U') (Vw.refl) rm' st (RV.mono x' g1.rm _ _ q)
            cases e3
            exact ⟨vs3, ws, h3, r3, (x'.sqF g1.rm hq').sq, RVs.mono x' g1.rm _ _ q'⟩
        · exact hR.elim
      · rename_i as _
        split at hR
        · rename_i bs e2
          simp only [RV] at q
          obtain ⟨p1, vs, rfl, hq, q⟩ := q
          obtain ⟨p2, ws, rfl, hq', qs'⟩ := lstOf_at g1.kp.vw g1.rm e2 q'
          have b1 : SqX false X.K H1 p1 vs := g1.kp.vw.sqT hq
          refine ⟨p1, p2, vs, ws, false, true, rfl, b1, hq', fun bd => out _ _ M1 U1 H1 _ g1 hR ?_ ?_⟩
          · simp only [List.length_map, List.length_zip]
            have := hlen (as := as) b1 q.length bd
            rw [lineLIM] at this
            omega
          · refine jok_z fun M' U' x' rm' st => ?_
            obtain ⟨p4, vs4, e4, h4, r4⟩ := lstOf_at (H := U') (Vw.refl) rm' st (RV.mono x' g1.rm _ _ q')
            cases e4
            exact ⟨vs, vs4, (x'.sqF g1.rm hq).sq, RVs.mono x' g1.rm _ _ q, h4, r4⟩
        · exact hR.elim
      · split at hR
        · rename_i as bs e1 e2
          obtain ⟨p1, vs, rfl, hq, qs⟩ := lstOf_at g1.kp.vw g1.rm e1 q
          obtain ⟨p2, ws, rfl, hq', qs'⟩ := lstOf_at g1.kp.vw g1.rm e2 q'
          refine ⟨p1, p2, vs, ws, true, true, rfl, hq, hq', fun bd => out _ _ M1 U1 H1 _ g1 hR ?_ ?_⟩
          · simp only [List.length_map, List.length_zip]
            have := bd p1 vs (.inl hq)
            rw [qs.length, lineLIM] at this
            omega
          · refine jok_z fun M' U' x' rm' st => ?_
            obtain ⟨p3, vs3, e3, h3, r3⟩ := lstOf_at (H := U') (Vw.refl) rm' st.1 (RV.mono x' g1.rm _ _ q)
            obtain ⟨p4, vs4, e4, h4, r4⟩ := lstOf_at (H := U') (Vw.refl) rm' st.2 (RV.mono x' g1.rm _ _ q')
            cases e3; cases e4
            exact ⟨vs3, vs4, h3, r3, h4, r4⟩
        · exact hR.elim
    · exact hR.elim
end
end Pw
set_option Elab.async false
set_option linter.all false
set_option maxRecDepth 100000
set_option maxHeartbeats 2000000
namespace Pw
open PySem PySem.Spec PyProof.Rows L2
/-! set(list of whole numbers), with the order of its table: after the library's rule for tuples -/
theorem call_set_lstI {P : Program} {w : World} {A : Around} {E : Value → Shared → Prop} {s : Shared} {l : Addr} {items : Array Value} (ns : List Int) {Q : Value → Shared → Prop}
    (hh : A.handled = none) (hl : s.heap.IsList l items) (hit : PyProof.Rows.IntsAre items.toList ns) (hb : ns.length + 1 < scanBound)
    (h : ∀ (h' : Heap) (tk c : Nat), SetR w h' s.heap.objs.size (fun j => decide (j ∈ ns)) c → c ≤ ns.length → (∀ (b : Addr) (o : Obj), s.heap.get? b = some o → h'.get? b = some o) →
      Q (.ref s.heap.objs.size) { heap := h', gens := s.gens, drawn := s.drawn, toks := tk, os := s.os }) :
    wpAny (model P w) A (call (.type "set") [.ref l]) Q E s := by
  have hisz : items.size = ns.length := by have q := hit.length; rwa [Array.length_toList] at q
  obtain ⟨c, tl, hmro⟩ := TypeCalled.mro F.called_set
  have hmade := TypeCalled.made F.called_set
  have hsub := TypeCalled.sub F.called_set
  refine wpAny_call (codeAny_of_tree ?_)
  refine wpAny_pure ⟨Code.quiet_builtin _ (by decide +kernel), codeAny_builtin F.entry_type_call ?_⟩
  rw [Around.under_plain (weight_type_call_type "set" [Value.ref l] []) rfl]
  unfold Builtin.«type.__call__»
  have h1 := TypeCalled.notType F.called_set
  have h2 := TypeCalled.canCreate F.called_set
  have hct := F.typeCall_set_1 (Value.ref l)
  refine wpAny_ite_false (by rfl) (wpAny_ite_false (by rfl) ?_)
  refine wpAny_bind (wpAny_of_eq hct ?_)
  refine wpAny_bind (wpAny_of_eq hmro ?_)
  refine wpAny_ite_false rfl ?_
  refine wpAny_bind (wpAny_of_eq hmade ?_)
  refine wpAny_bind (wpAny_pure ?_)
  refine wpAny_bind (wpAny_holding ?_)
  refine wpAny_call (codeAny_mono (code_set_led1 (E := E) (Q₁ := fun obj s₁ => obj = Value.ref s.heap.objs.size ∧ s₁ = { heap := s.heap.push { cls := Value.type "set", data := Data.set #[] 0 (SetTable.fresh 0 0 !w.params.followText "set-order") }, gens := s.gens, drawn := s.drawn, toks := s.toks, os := s.os }) (Value.ref l) ⟨rfl, rfl⟩) fun r s₁ hr => ?_)
  cases r with
  | error e => exact hr
  | ok fl =>
    cases fl with
    | ret obj =>
      obtain ⟨rfl, rfl⟩ := hr
      have hS : (s.heap.push { cls := Value.type "set", data := Data.set #[] 0 (SetTable.fresh 0 0 !w.params.followText "set-order") }).get? s.heap.objs.size = some { cls := Value.type "set", data := Data.set #[] 0 (SetTable.fresh 0 0 !w.params.followText "set-order") } := Heap.get?_push_size _ rfl
      have hT : Shared.TypeIs { heap := s.heap.push { cls := Value.type "set", data := Data.set #[] 0 (SetTable.fresh 0 0 !w.params.followText "set-order") }, gens := s.gens, drawn := s.drawn, toks := s.toks, os := s.os } (Value.ref s.heap.objs.size) "set" := ⟨_, hS, rfl⟩
      have hli := Slot.lookup (TypeCalled.init F.called_set)
      have hbi := Slot.bind (TypeCalled.init F.called_set) (Value.ref s.heap.objs.size)
      refine wpAny_bind (wpAny_isInstance hT hsub (wpAny_ite_false rfl ?_))
      refine wpAny_bind (wpAny_holding ?_)
      refine wpAny_bind (wpAny_specialOf hT hli (wpAny_holding ?_))
      refine wpAny_bind (wpAny_of_eq hbi ?_)
      refine wpAny_bind (wpAny_call (codeAny_mono (R := wants (fun v s₂ => v = Value.none ∧ ∃ h' tk c', s₂ = { heap := h', gens := s.gens, drawn := s.drawn, toks := tk, os := s.os } ∧ SetR w h' s.heap.objs.size (fun j => decide (j ∈ ns)) c' ∧ c' ≤ ns.length ∧ ∀ (b : Addr) (o : Obj), s.heap.get? b = some o → h'.get? b = some o) E) (codeAny_call_builtin (Slot.plain (TypeCalled.init F.called_set)) F.entry_set_init (check_set_init_1 hT ?_)) ?_))
      · unfold Builtin.«set.__init__»
        obtain ⟨ol, hol, hcl, nl, hdl⟩ := hl
        obtain ⟨ocls, odict, odata, oslots⟩ := ol
        obtain rfl : ocls = Value.type "list" := hcl
        obtain rfl : odata = Data.seq items nl := hdl
        have hol' : (s.heap.push { cls := Value.type "set", data := Data.set #[] 0 (SetTable.fresh 0 0 !w.params.followText "set-order") }).get? l = some _ := Heap.get?_push_of_some _ hol
        have hl1 : (s.heap.push { cls := Value.type "set", data := Data.set #[] 0 (SetTable.fresh 0 0 !w.params.followText "set-order") }).IsList l items := ⟨_, hol', rfl, nl, rfl⟩
        refine wpAny_bind (wpAny_ite_true rfl (wpAny_pure ?_))
        refine wpAny_bind (wpAny_bind (wpAny_bind (wpAny_typeOf hT (wpAny_ite_false rfl (wpAny_pure (wpAny_pure ?_))))))
        refine wpAny_bind ?_
        unfold checkCount
        refine wpAny_ite_false rfl (wpAny_ite_false rfl (wpAny_ite_false rfl (wpAny_pure ?_)))
        unfold Builtin.Frozenset.addrOf
        refine wpAny_bind (wpAny_pure ?_)
        refine wpAny_bind ?_
        unfold setUsed
        refine wpAny_bind ?_
        refine wpAny_bind (wpAny_load' hS (wpAny_ite_false rfl (wpAny_pure (wpAny_pure ?_))))
        refine wpAny_ite_false rfl ?_
        refine wpAny_bind ?_
        unfold Builtin.Frozenset.updateFrom
        refine wpAny_bind ?_
        unfold Builtin.Frozenset.isAnySet
        refine wpAny_bind ?_
        unfold isInstance
        refine wpAny_bind ?_
        unfold typeOf
        refine wpAny_bind (wpAny_loadPart' hol' (wpAny_pure ?_))
        refine wpAny_of_eq F.sub_list_set ?_
        refine wpAny_bind (wpAny_bind (wpAny_loadPart' hol' (wpAny_pure (wpAny_of_eq F.sub_list_frozenset (wpAny_ite_false rfl ?_)))))
        refine wpAny_bind (wpAny_bind (wpAny_loadPart' hol' (wpAny_pure (wpAny_ite_false rfl ?_))))
        refine wpAny_bind (wpAny_pyIter_list hl1 ?_)
        refine wpAny_bind (wpAny_runValue ?_)
        have hll : l < s.heap.objs.size := Heap.lt_size hol
        have hsz : ∀ o : Obj, (s.heap.push o).objs.size = s.heap.objs.size + 1 := fun o => by simp [Heap.push]
        have hh3 : A.in1.in1.in1.handled = none := hh
        have hget : ((s.heap.push { cls := Value.type "set", data := Data.set #[] 0 (SetTable.fresh 0 0 !w.params.followText "set-order") }).push { cls := Value.type "list_iterator", data := Data.fields #[Value.ref l, Value.int 0 0] }).get? s.heap.objs.size = some _ := Heap.get?_push_of_some _ hS
        refine set_update_ints (Walks.toS (Walks.list hh3 _ l ?_ items)) s.heap.objs.size ?_ ns hisz hb ?_ _ 0 _ rfl (Nat.zero_le _) ⟨?_, ?_⟩ ⟨0, Nat.le_refl _, setR_new_at hget⟩ ?_
        · show l ≠ (s.heap.push _).objs.size
          rw [hsz]; exact Nat.ne_of_lt (Nat.lt_succ_of_lt hll)
        · show ¬ s.heap.objs.size ∈ [(s.heap.push _).objs.size, l]
          rw [hsz]
          intro hm
          rcases List.mem_cons.mp hm with e | hm
          · exact absurd e (Nat.ne_of_lt (Nat.lt_succ_self _))
          · exact absurd (List.mem_singleton.mp hm) (Nat.ne_of_gt hll)
        · intro i v hv
          have hv' : items.toList[i]? = some v := by rw [← hv]; simp
          obtain ⟨t, ht⟩ := hit.int_at i v hv'
          have hi := (List.getElem?_eq_some_iff.mp hv').1
          have hi' : i < ns.length := by rw [← hisz]; simpa using hi
          refine ⟨ns[i], t, List.getElem?_eq_getElem hi', ?_⟩
          rw [ht, List.getD_eq_getElem?_getD, List.getElem?_eq_getElem hi']; rfl
        · exact ⟨_, Heap.get?_push_size _ rfl, rfl, rfl⟩
        · exact ⟨_, Heap.get?_push_of_some _ hol', rfl, nl, rfl⟩
        · intro s' c' hm hc' hS'
          obtain ⟨h', g2, d', tk', os'⟩ := s'
          obtain ⟨m1, m2, m3, m4, _⟩ := hm
          have eg : g2 = s.gens := m2
          have ed : d' = s.drawn := m3
          have eo : os' = s.os := m4
          subst eg ed eo
          refine wpAny_pure (wpAny_pure ⟨rfl, h', tk', c', rfl, hS', by rw [← hisz]; exact hc', fun b o e => ?_⟩)
          have hb := Heap.lt_size e
          refine m1 b o ?_ (Heap.get?_push_of_some _ (Heap.get?_push_of_some _ e))
          intro hm
          rcases List.mem_cons.mp hm with e1 | hm
          · exact absurd e1 (Nat.ne_of_lt hb)
          · have e2 := List.mem_singleton.mp hm
            have e3 : b = s.heap.objs.size + 1 := e2.trans (hsz _)
            exact absurd e3 (Nat.ne_of_lt (Nat.lt_succ_of_lt hb))
      · intro r₂ s₂ hr₂
        cases r₂ with
        | error e => exact hr₂
        | ok fl₂ =>
          cases fl₂ with
          | ret r =>
            obtain ⟨rfl, h', tk, c', rfl, hS', hc', hk'⟩ := hr₂
            refine wpAny_pure (wpAny_ite_false rfl (wpAny_pure ?_))
            exact h h' tk c' hS' hc' hk'
          | _ => exact hr₂.elim
    | _ => exact hr.elim
end Pw
set_option Elab.async false
set_option linter.all false
set_option maxRecDepth 100000
set_option maxHeartbeats 2000000
namespace Pw
open PySem PySem.Spec PyProof.Rows L2

theorem intsAre_of : ∀ {ns : List Int} {us : List Value}, Vals (ns.map V.int) us → IntsAre us ns
  | [], _, .nil => .nil
  | n :: _, _, .cons r t => by
    obtain ⟨tk, rfl⟩ := r
    exact .cons n tk (intsAre_of t)
theorem boot_set : bootBuiltins "set" = some (.type "set") := rfl
section
variable {X : Cx} {e : Expr} {te : TE} {p pos : Pos}
def tSetT (K : PySem.W.Frag) (w : World) (te : TE) : TE := fun σ H Q => te σ H fun v H1 => ∃ (a : Addr) (ns : List Int), v = .ref a ∧ (SqT K H1 a (ns.map V.int) ∨ SqL K H1 a (ns.map V.int)) ∧ ns.length ≤ 1000 ∧ ∀ q c, H1 q = none → c ≤ ns.length → Q (.ref q) (upd H1 q (SetO w q (fun j => decide (j ∈ ns)) c))
theorem pe_setT (hc : X.calm = true) (hg : Gl X "set") (hm : X.mg "set" = none) (he : PE X e te) (hs : starEach [e] X.env = (false, eval e X.env) :: starEach [] X.env) :
    PE X (.Call (.Name "set" p) [e] [] pos) (tSetT X.K X.w te) := by
  refine ⟨fun pins s σ H Q I h => ?_⟩
  refine Call_ (ld_blt I hg hm boot_set (PyProof.Rows.callWith_type1 (args_cons (thn (he.run pins s σ H _ I h) fun u s1 ⟨v, H1, I1, r1, q1⟩ => args_nil ?_) hs) hs rfl))
  obtain ⟨a, ns, ev, hq, hl, q⟩ := q1
  subst ev
  obtain rfl : u = Value.ref a := r1
  have fin : ∀ (h' : Heap) (tk c : Nat), SetR X.w h' s1.heap.objs.size (fun j => decide (j ∈ ns)) c → c ≤ ns.length → (∀ (b : Addr) (o : Obj), s1.heap.get? b = some o → h'.get? b = some o) → EP X pins σ Q (Value.ref s1.heap.objs.size) { heap := h', gens := s1.gens, drawn := s1.drawn, toks := tk, os := s1.os } := by
    intro h' tk c hS hcl hk
    exact ⟨.ref s1.heap.objs.size, upd H1 s1.heap.objs.size (SetO X.w s1.heap.objs.size (fun j => decide (j ∈ ns)) c), I1.turnedNew (ch := []) (fun b o _ x => hk b o x) (fun b hb => nomatch hb) (Nat.le_refl _) (setO_new hS), rfl, q _ c (I1.hok.fresh (Nat.le_refl _)) hcl⟩
  rcases hq with hq | hq
  · obtain ⟨us, r, z, _⟩ := I1.tuple hq
    exact call_set_tupI ns (I1.ok.hd hc) (show s1.heap.IsTuple a us.toArray from z) (intsAre_of r) (Nat.lt_of_le_of_lt (Nat.add_le_add_right hl 1) (by decide)) fin
  · obtain ⟨us, r, z, _⟩ := I1.list hq
    exact call_set_lstI ns (I1.ok.hd hc) z.isList (intsAre_of r) (Nat.lt_of_le_of_lt (Nat.add_le_add_right hl 1) (by decide)) fin
end
section
variable {X : Cx} {xk : XD} {W : WX} {G : Gc} {C : Ct} {Γ : String → SpD} {k : Nat} {a : Expr} {wa : St → Mp → DK → Prop} {pos q : Pos}
theorem r_sset (g : GX X G C Γ k W) (m : Bool) {f h : Expr} (hf : nameB C G "sorted" f = true) (hh : nameB C G "set" h = true) (hn : noStar a = true) (ha : PE X a (LE X xk W wa)) :
    PE X (.Call f [.Call h [a] [] q] [] pos) (LE X xk W fun δ M Q => wa δ M fun x M1 => ssetD m x M1 Q) := by
  obtain ⟨p1, rfl, q1, q2, q3, q4⟩ := nameB_of g hf
  obtain ⟨p2, rfl, s1, s2, s3, s4⟩ := nameB_of g hh
  refine pe_imp (pe_callB (cr_sortedSet g.calm) q1 q2 rfl (pa_cons (pe_setT g.calm s1 s2 ha (star_cons hn)) pa_nil)) fun σ H Q hx => ?_
  obtain ⟨δ, M, U, R, r, xo, hx, out⟩ := hx
  refine ⟨δ, M, U, _, r, xo, hx, fun d M1 v U1 H1 e k rm rv hR => ?_⟩
  unfold ssetD at hR
  split at hR
  · rename_i ds
    split at hR
    · rename_i ns hns
      simp only [RV] at rv
      obtain ⟨a, vs, rfl, hq, rr⟩ := rv
      obtain ⟨rfl, rfl⟩ := RVs.ints_of hns rr
      obtain ⟨hl, hR⟩ := hR
      refine ⟨a, ns, rfl, .inl (k.vw.sqT hq), by omega, fun p c hp hc => ?_⟩
      have hUp := k.vw.none hp
      refine ⟨p, _, c, rfl, upd_same, by omega, fun ms z h1 h2 _ hz => ?_⟩
      have start : Go X.K M1 U1 H1 M1 U1 (upd H1 p (SetO X.w p (fun j => decide (j ∈ ns)) c)) := ⟨.refl, ⟨fun a o ha n => by
        rw [upd_ne (ne_of_none ha hp)]
        exact ⟨ha, n⟩, fun a o ha => by
        rw [upd_ne (ne_of_none ha hUp)]
        exact k.vw _ _ ha⟩, rm⟩
      exact ((out.mono e k).mono start.ex start.kp).lst start.kp.vw start.rm RVs.ints (hR ms h1 fun k => by simpa using h2 k) hz
    · exact hR.elim
  · rename_i ds
    split at hR
    · rename_i ns hns
      obtain ⟨a, vs, rfl, hq, rr⟩ := lstOf_at k.vw rm (ds := ds) rfl rv
      obtain ⟨rfl, rfl⟩ := RVs.ints_of hns rr
      obtain ⟨hl, hR⟩ := hR
      refine ⟨a, ns, rfl, .inr hq, by omega, fun p c hp hc => ?_⟩
      have hUp := k.vw.none hp
      refine ⟨p, _, c, rfl, upd_same, by omega, fun ms z h1 h2 _ hz => ?_⟩
      have start : Go X.K M1 U1 H1 M1 U1 (upd H1 p (SetO X.w p (fun j => decide (j ∈ ns)) c)) := ⟨.refl, ⟨fun a o ha n => by
        rw [upd_ne (ne_of_none ha hp)]
        exact ⟨ha, n⟩, fun a o ha => by
        rw [upd_ne (ne_of_none ha hUp)]
        exact k.vw _ _ ha⟩, rm⟩
      exact ((out.mono e k).mono start.ex start.kp).lst start.kp.vw start.rm RVs.ints (hR ms h1 fun k => by simpa using h2 k) hz
    · exact hR.elim
  · exact hR.elim
end
end Pw
set_option Elab.async false
set_option linter.all false
set_option maxRecDepth 100000
set_option maxHeartbeats 2000000
namespace Pw
open PySem PySem.Spec PyProof.Rows L2
section
variable {X : Cx} {xk : XD} {W : WX} {G : Gc} {C : Ct} {Γ : String → SpD} {k : Nat} {pos : Pos}
theorem lc2_read {ρ ρ1 : Rho} {S S1 own own1 : List Nat} {wi wi1 : St → Mp → (List D → (Mp → Prop) → Mp → Prop) → Prop} {wg wg1 : D → St → Mp → (St → Mp → Prop) → Prop} {wt wt1 : St → Mp → (Bool → Mp → Prop) → Prop} {we : St → Mp → DK → Prop} {m : Bool}
    (hS : ∀ i ∈ S, i ∈ own) (hS1 : ∀ i ∈ S1, i ∈ own1) {σ : L2.St} {H : Hp} {Q : VK}
    (h : LE X xk W (fun δ M Q => wi δ M fun ds still M1 => compL wg wt (fun δ1 _ acc M2 K => wi1 δ1 M2 fun ds2 still2 M3 => compL wg1 wt1 (fun δ3 _ acc M' K' => we δ3 M' fun x M'' => acc.length < LIM ∧ K' (acc ++ [x]) M'') still2 (wipeD δ1 own1) K ds2 acc M3) still (wipeD δ own) (fun acc M2 => mkN m acc M2 Q) ds [] M1) σ H Q) :
    tLc2 (LI ρ X xk W wi) (LG ρ X never W0 S wg) (LT X never W0 wt) (LI ρ1 X never W0 wi1) (LG ρ1 X never W0 S1 wg1) (LT X never W0 wt1) (LE X never W0 we) own own1 σ H Q := by
  obtain ⟨δ, M, U, R, r, xo, h, out⟩ := h
  refine ⟨δ, M, U, _, r, xo, h, fun ds still M1 U1 H1 J g1 hC hz jok D hD => ?_⟩
  have hU1 := g1.kp.vw.none hD
  generalize hcL : compL wg wt (fun δ1 _ acc M2 K => wi1 δ1 M2 fun ds2 still2 M3 => compL wg1 wt1 (fun δ3 _ acc M' K' => we δ3 M' fun x M'' => acc.length < LIM ∧ K' (acc ++ [x]) M'') still2 (wipeD δ1 own1) K ds2 acc M3) still (wipeD δ own) (fun acc M2 => mkN m acc M2 R) = cL at hC
  have start : Go X.K M1 U1 H1 M1 U1 (upd H1 D (.lst [])) := ⟨.refl, ⟨fun a o ha n => by
    rw [upd_ne (ne_of_none ha hD)]
    exact ⟨ha, n⟩, fun a o ha => by
    rw [upd_ne (ne_of_none ha hU1)]
    exact g1.kp.vw _ _ ha⟩, g1.rm⟩
  refine ⟨fun i n Hc => n = ds.length - i ∧ i ≤ ds.length ∧ ∃ M' U' acc vs, Go X.K M1 U1 H1 M' U' Hc ∧ U' D = none ∧ Hc D = some (.lst vs) ∧ RVs X.K M' U' acc vs ∧ cL (ds.drop i) acc M', ⟨ds.length, by simp, Nat.zero_le _, M1, U1, [], [], start, hU1, upd_same, by simp only [RVs], by simpa using hC⟩, ?_⟩
  rintro i n Hc ⟨rfl, hi, M', U', acc, vs, g2, hU, hHc, ra, hC⟩
  cases hd : ds.drop i with
  | nil =>
    rw [hd, ← hcL] at hC
    have hi' : i = ds.length := by
      have := List.drop_eq_nil_iff.mp hd
      omega
    obtain ⟨st, hk⟩ := hC
    refine .inl ⟨(jok M' U' Hc g2.ex g2.kp.vw g2.rm st i).1 hi'.symm, ?_⟩
    have g12 := g1.trans g2
    have kp : Kp U H (upd U' D (.lst vs)) Hc := ⟨fun a o ha n => by
      have q := g12.kp.st a o ha n
      have q1 := g1.kp.st a o ha n
      have ne := ne_of_none q1.1 hD
      rw [upd_ne ne]
      exact q, fun a o ha => by
      by_cases e : a = D
      · subst e
        rw [upd_same] at ha
        rw [hHc]; exact ha
      · rw [upd_ne e] at ha
        exact g2.kp.vw _ _ ha⟩
    cases m with
    | false =>
      exact out (.lst acc) M' (.ref D) _ Hc (g12.ex.trans (Ext.new hU)) kp (g2.rm.new hU) (by
        simp only [RV]
        exact ⟨D, vs, rfl, upd_same, g2.rm.none_of hU, RVs.mono (Ext.new hU) g2.rm _ _ ra⟩) hk
    | true =>
      exact out (.ref D) (up M' D (.lst acc)) (.ref D) _ Hc (g12.ex.trans (Ext.newM hU)) kp (g2.rm.newM hU ⟨vs, upd_same, RVs.mono (Ext.newM hU) g2.rm _ _ ra⟩) (by simp only [RV]) (hk D (g2.rm.none_of hU))
  | cons d rest =>
    rw [hd, ← hcL] at hC
    obtain ⟨st, hC⟩ := hC
    have hlt : i < ds.length := by
      have : (ds.drop i).length = ds.length - i := List.length_drop
      rw [hd] at this
      simp at this
      omega
    have hdi : ds[i]? = some d := by
      have := congrArg (fun l : List Pw.D => l[0]?) hd
      simpa using this
    have hrest : ds.drop (i + 1) = rest := by
      have := congrArg List.tail hd
      simpa [List.tail_drop] using this
    obtain ⟨go, yl⟩ := (jok M' U' Hc g2.ex g2.kp.vw g2.rm st i).2 d hdi
    refine .inr ⟨go, fun H' => ∃ M'' U'' acc' vs', Go X.K M1 U1 H1 M'' U'' H' ∧ U'' D = none ∧ H' D = some (.lst vs') ∧ RVs X.K M'' U'' acc' vs' ∧ cL rest acc' M'', ?_, ?_⟩
    · rintro H' ⟨M'', U'', acc', vs', q1, q2, q3, q4, q6⟩
      exact ⟨ds.length - (i + 1), by omega, rfl, hlt, M'', U'', acc', vs', q1, q2, q3, q4, by rw [hrest]; exact q6⟩
    · intro x H' hy
      obtain ⟨U2, g3, rx⟩ := yl x H' hy
      have hD2 := g3.kp.st D _ hHc hU
      have rs2 := (r.mono (g1.trans (g2.trans g3))).rs.wipe2 own
      refine ⟨wipeD δ own, M', U2, _, d, ⟨g3.kp.vw, g3.rm, rs2⟩, XOk.no, rx, hC, fun δ1 M3 σ2 U3 H3 g4 rs4 sm hT => ⟨sm.wipe hS, ?_⟩⟩
      have hD3 := g4.kp.st D _ hD2.1 hD2.2
      refine ⟨δ1, M3, U3, _, ⟨g4.kp.vw, g4.rm, rs4⟩, XOk.no, hT, fun q M4 U4 H4 g5 hb => ?_⟩
      have hD4 := g5.kp.st D _ hD3.1 hD3.2
      have g25 := g2.trans (g3.trans (g4.trans g5))
      have ra4 := RVs.mono (g3.trans (g4.trans g5)).ex g2.rm _ _ ra
      cases q with
      | false =>
        dsimp only
        rw [if_neg Bool.false_ne_true]
        exact ⟨M4, U4, acc, vs, g25, hD4.2, hD4.1, ra4, by rw [← hcL]; exact hb⟩
      | true =>
        dsimp only
        rw [if_pos rfl]
        refine ⟨δ1, M4, U4, _, ⟨g5.kp.vw, g5.rm, rs4.mono g5.ex g4.rm⟩, XOk.no, hb, fun ds2 still2 M5 U5 H5 J1 g6 hC2 hz2 jok2 => ?_⟩
        have hD5 := g6.kp.st D _ hD4.1 hD4.2
        have g26 := g25.trans g6
        have ra5 := RVs.mono g6.ex g5.rm _ _ ra4
        have rs5 := (rs4.mono g5.ex g4.rm).mono g6.ex g5.rm
        generalize hcI : compL wg1 wt1 (fun δ3 _ acc M' K' => we δ3 M' fun x M'' => acc.length < LIM ∧ K' (acc ++ [x]) M'') still2 (wipeD δ1 own1) (fun acc' M3 => compL wg wt (fun δ1 _ acc M2 K => wi1 δ1 M2 fun ds2 still2 M3 => compL wg1 wt1 (fun δ3 _ acc M' K' => we δ3 M' fun x M'' => acc.length < LIM ∧ K' (acc ++ [x]) M'') still2 (wipeD δ1 own1) K ds2 acc M3) still (wipeD δ own) (fun acc M2 => mkN m acc M2 R) rest acc' M3) = cI at hC2
        refine ⟨fun j n Hc => n = ds2.length - j ∧ j ≤ ds2.length ∧ ∃ M' U' acc vs, Go X.K M1 U1 H1 M' U' Hc ∧ Ext M5 U5 M' U' ∧ U' D = none ∧ Hc D = some (.lst vs) ∧ RVs X.K M' U' acc vs ∧ cI (ds2.drop j) acc M', ⟨ds2.length, by simp, Nat.zero_le _, M5, U5, acc, vs, g26, .refl, hD5.2, hD5.1, ra5, by simpa using hC2⟩, ?_⟩
        rintro j n Hc2 ⟨rfl, hj, M7, U7, acc7, vs7, g7, x7, hU7, hHc7, ra7, hC7⟩
        cases hd2 : ds2.drop j with
        | nil =>
          rw [hd2, ← hcI] at hC7
          have hj' : j = ds2.length := by
            have := List.drop_eq_nil_iff.mp hd2
            omega
          obtain ⟨st2, hk2⟩ := hC7
          exact .inl ⟨(jok2 M7 U7 Hc2 x7 g7.kp.vw g7.rm st2 j).1 hj'.symm, M7, U7, acc7, vs7, g7, hU7, hHc7, ra7, by rw [← hcL]; exact hk2⟩
        | cons d2 rest2 =>
          rw [hd2, ← hcI] at hC7
          obtain ⟨st2, hC7⟩ := hC7
          have hlt2 : j < ds2.length := by
            have : (ds2.drop j).length = ds2.length - j := List.length_drop
            rw [hd2] at this
            simp at this
            omega
          have hdj : ds2[j]? = some d2 := by
            have := congrArg (fun l : List Pw.D => l[0]?) hd2
            simpa using this
          have hrest2 : ds2.drop (j + 1) = rest2 := by
            have := congrArg List.tail hd2
            simpa [List.tail_drop] using this
          obtain ⟨go2, yl2⟩ := (jok2 M7 U7 Hc2 x7 g7.kp.vw g7.rm st2 j).2 d2 hdj
          refine .inr ⟨go2, fun H' => ∃ M'' U'' acc' vs', Go X.K M1 U1 H1 M'' U'' H' ∧ Ext M5 U5 M'' U'' ∧ U'' D = none ∧ H' D = some (.lst vs') ∧ RVs X.K M'' U'' acc' vs' ∧ cI rest2 acc' M'', ?_, ?_⟩
          · rintro H' ⟨M'', U'', acc', vs', q1, q2, q3, q4, q5, q6⟩
            exact ⟨ds2.length - (j + 1), by omega, rfl, hlt2, M'', U'', acc', vs', q1, q2, q3, q4, q5, by rw [hrest2]; exact q6⟩
          · intro x2 H2 hy2
            obtain ⟨U8, g8, rx2⟩ := yl2 x2 H2 hy2
            have hD8 := g8.kp.st D _ hHc7 hU7
            have rs8 := ((rs5.mono x7 g6.rm).mono g8.ex g7.rm).wipe2 own1
            refine ⟨wipeD δ1 own1, M7, U8, _, d2, ⟨g8.kp.vw, g8.rm, rs8⟩, XOk.no, rx2, hC7, fun δ3 M9 σ3 U9 H9 g9 rs9 sm9 hT9 => ⟨sm9.wipe hS1, ?_⟩⟩
            have hD9 := g9.kp.st D _ hD8.1 hD8.2
            refine ⟨δ3, M9, U9, _, ⟨g9.kp.vw, g9.rm, rs9⟩, XOk.no, hT9, fun q M10 U10 H10 g10 hb10 => ?_⟩
            have hD10 := g10.kp.st D _ hD9.1 hD9.2
            have g810 := g8.trans (g9.trans g10)
            have ra10 := RVs.mono g810.ex g7.rm _ _ ra7
            cases q with
            | false =>
              dsimp only
              rw [if_neg Bool.false_ne_true]
              exact ⟨M10, U10, acc7, vs7, g7.trans g810, x7.trans g810.ex, hD10.2, hD10.1, ra10, by rw [← hcI]; exact hb10⟩
            | true =>
              dsimp only
              rw [if_pos rfl]
              refine ⟨δ3, M10, U10, _, ⟨g10.kp.vw, g10.rm, rs9.mono g10.ex g9.rm⟩, XOk.no, hb10, fun d11 M11 v11 U11 H11 e11 k11 rm11 rv11 hR11 => ?_⟩
              have hD11 := k11.st D _ hD10.1 hD10.2
              have g11 := (g7.trans g810).trans ⟨e11, k11, rm11⟩
              refine ⟨vs7, hD11.1, by rw [ra7.length, lineLIM]; exact hR11.1, M11, U11, acc7 ++ [d11], vs7 ++ [v11], ⟨g11.ex, ⟨fun a o ha n => ?_, fun a o ha => ?_⟩, rm11⟩, (x7.trans g810.ex).trans e11, hD11.2, upd_same, (RVs.mono e11 g10.rm _ _ ra10).app (.one rv11), by rw [← hcI]; exact hR11.2⟩
              · rw [upd_ne (ne_of_none ha hD)]
                exact g11.kp.st a o ha n
              · rw [upd_ne (ne_of_none ha hD11.2)]
                exact k11.vw _ _ ha
section
variable {ρ ρ1 : Rho} {S S1 own own1 : List Nat} {wi wi1 : St → Mp → (List D → (Mp → Prop) → Mp → Prop) → Prop} {wg wg1 : D → St → Mp → (St → Mp → Prop) → Prop} {wt wt1 : St → Mp → (Bool → Mp → Prop) → Prop} {we : St → Mp → DK → Prop} {m : Bool} {elt tg iter tg1 iter1 : Expr} {ifs ifs1 : List Expr} {sc : Scope}
theorem set_foldE {e : Expr} (h : noSet e = true) : ∀ (env : Env) (x : Value), foldedSetIterable e env x = pure x := fun env => set_fold h
theorem r_comp2 (g : GX X G C Γ k W) (hok : blkC C.N C.sc sc (ownOf C.N own) = true) (hS : ∀ i ∈ S, i ∈ own) (hS1 : ∀ i ∈ S1, i ∈ own1) (ho : ∀ i ∈ own1, i ∈ own) (hs : noSet iter = true) (hs1 : noSet iter1 = true) (hi : PI X tg iter (LI ρ X xk W wi))
    (hg : ∀ (s : Shared) (H : Hp) (Ca : Addr) (cl : List (Str × Addr)) (fp : List Addr), PG (X.blk s H sc (compEnvC sc cl Ca X.env) fp) tg (LG ρ X never W0 S wg)) (ht : ∀ (s : Shared) (H : Hp) (Ca : Addr) (cl : List (Str × Addr)) (fp : List Addr), PTs (X.blk s H sc (compEnvC sc cl Ca X.env) fp) ifs (LT X never W0 wt))
    (hi1 : ∀ (s : Shared) (H : Hp) (Ca : Addr) (cl : List (Str × Addr)) (fp : List Addr), PI (X.blk s H sc (compEnvC sc cl Ca X.env) fp) tg1 iter1 (LI ρ1 X never W0 wi1))
    (hg1 : ∀ (s : Shared) (H : Hp) (Ca : Addr) (cl : List (Str × Addr)) (fp : List Addr), PG (X.blk s H sc (compEnvC sc cl Ca X.env) fp) tg1 (LG ρ1 X never W0 S1 wg1)) (ht1 : ∀ (s : Shared) (H : Hp) (Ca : Addr) (cl : List (Str × Addr)) (fp : List Addr), PTs (X.blk s H sc (compEnvC sc cl Ca X.env) fp) ifs1 (LT X never W0 wt1))
    (he : ∀ (s : Shared) (H : Hp) (Ca : Addr) (cl : List (Str × Addr)) (fp : List Addr), PE (X.blk s H sc (compEnvC sc cl Ca X.env) fp) elt (LE X never W0 we)) :
    PE X (.ListComp elt [⟨tg, iter, ifs, 0⟩, ⟨tg1, iter1, ifs1, 0⟩] sc pos) (LE X xk W fun δ M Q => wi δ M fun ds still M1 => compL wg wt (fun δ1 _ acc M2 K => wi1 δ1 M2 fun ds2 still2 M3 => compL wg1 wt1 (fun δ3 _ acc M' K' => we δ3 M' fun x M'' => acc.length < LIM ∧ K' (acc ++ [x]) M'') still2 (wipeD δ1 own1) K ds2 acc M3) still (wipeD δ own) (fun acc M2 => mkN m acc M2 Q) ds [] M1) := by
  rw [← g.N, ← g.sc] at hok
  refine pe_imp (pe_lc2 (vs1 := own1) g.calm g.nd hi (blkOk_by hok) (by rw [ownOf_map]; exact ho) hg ht hi1 hg1 ht1 he (set_fold hs) (set_foldE hs1)) fun σ H Q h => ?_
  rw [ownOf_map]
  exact lc2_read hS hS1 h
end
end
end Pw
set_option Elab.async false
set_option linter.all false
set_option maxRecDepth 100000
set_option maxHeartbeats 2000000
namespace Pw
open PySem PySem.Spec PyProof.Rows L2

theorem dTurn_out (kx vx t0 i0 t1 i1 : Expr) (cs0 cs1 : List Expr) (scp : Scope) (pos : Pos) (it acc : Value) (ev : Env) :
    compTurn (.DictComp kx vx [⟨t0, i0, cs0, 0⟩, ⟨t1, i1, cs1, 0⟩] scp pos) 0 it acc ev = (do
      standAt i0.pos
      match ← pyNext it with
      | none => pure (.done .next)
      | some v =>
        letOwnedTupleGo t0 it v
        assign t0 ev v
        let mut ok := true
        for c in cs0 do
          if ok then ok ← isTrue c ev (eval c ev)
        if ok then
          let x ← eval i1 ev
          standAt i1.pos
          let x ← foldedSetIterable i1 ev x
          let _ ← runOwn (.compStart (.DictComp kx vx [⟨t0, i0, cs0, 0⟩, ⟨t1, i1, cs1, 0⟩] scp pos) 1 (← holding [x] (pyIter x)) acc ev) ev
        again (.compLoop (.DictComp kx vx [⟨t0, i0, cs0, 0⟩, ⟨t1, i1, cs1, 0⟩] scp pos) 0 it acc ev)) := by rfl
theorem dTurn_in (kx vx t0 i0 t1 i1 : Expr) (cs0 cs1 : List Expr) (scp : Scope) (pos : Pos) (it : Value) (D : Addr) (ev : Env) :
    compTurn (.DictComp kx vx [⟨t0, i0, cs0, 0⟩, ⟨t1, i1, cs1, 0⟩] scp pos) 1 it (.ref D) ev = (do
      standAt i1.pos
      match ← pyNext it with
      | none => pure (.done .next)
      | some v =>
        letOwnedTupleGo t1 it v
        assign t1 ev v
        let mut ok := true
        for c in cs1 do
          if ok then ok ← isTrue c ev (eval c ev)
        if ok then
          (do
            let kv ← eval kx ev
            let vv ← holding [kv] (eval vx ev)
            standAt { kx.pos with endLine := vx.pos.endLine, endCol := vx.pos.endCol }
            holding [kv, vv] (dictSet D kv vv))
        again (.compLoop (.DictComp kx vx [⟨t0, i0, cs0, 0⟩, ⟨t1, i1, cs1, 0⟩] scp pos) 1 it (.ref D) ev)) := by rfl

section
variable {pr : Program} {w : World} {A : Around} {Rr : Result → Shared → Prop} {s : Shared} {kx vx t0 i0 t1 i1 : Expr} {cs0 cs1 : List Expr} {scp : Scope} {pos : Pos} {it acc : Value} {ev : Env}
theorem dLoop_out (hs : ∀ x, foldedSetIterable i1 ev x = pure x) (Iv : Nat → Shared → Prop)
    (trn : ∀ n s, Iv n s → wpAny (model pr w) A (pyNext it) (fun r s₁ => match r with
      | none => Rr (.ok .next) s₁
      | some v => wpAny (model pr w) A (letOwnedTupleGo t0 it v) (fun _ s₁' => wpAny (model pr w) A (assign t0 ev v) (fun _ s₂ =>
          wpAny (model pr w) A (forIn cs0 true fun c r => if r = true then do let ok ← isTrue c ev (eval c ev); pure (ForInStep.yield ok) else pure (ForInStep.yield r)) (fun ok s₃ =>
            if ok = true then wpAny (model pr w) A (eval i1 ev) (fun x s₄ => wpAny (model pr w) A (pyIter x) (fun it1 s₅ =>
              codeAny (model pr w) A (.compStart (.DictComp kx vx [⟨t0, i0, cs0, 0⟩, ⟨t1, i1, cs1, 0⟩] scp pos) 1 it1 acc ev) (fun r s' => match r with
                | .ok _ => ∃ m, m < n ∧ Iv m s'
                | .error _ => False) s₅) (notedBy (model pr w) A ev fun e s' => Rr (.error e) s') s₄) (notedBy (model pr w) A ev fun e s' => Rr (.error e) s') s₃
            else ∃ m, m < n ∧ Iv m s₃) (notedBy (model pr w) A ev fun e s' => Rr (.error e) s') s₂) (notedBy (model pr w) A ev fun e s' => Rr (.error e) s') s₁') (notedBy (model pr w) A ev fun e s' => Rr (.error e) s') s₁) (notedBy (model pr w) A ev fun e s' => Rr (.error e) s') s)
    (n : Nat) (h : Iv n s) :
    codeAny (model pr w) A (.compLoop (.DictComp kx vx [⟨t0, i0, cs0, 0⟩, ⟨t1, i1, cs1, 0⟩] scp pos) 0 it acc ev) Rr s := by
  refine codeAny_loop rfl Iv (fun n s hI => ?_) n h
  show wpAny _ A ((compTurn (.DictComp kx vx [⟨t0, i0, cs0, 0⟩, ⟨t1, i1, cs1, 0⟩] scp pos) 0 it acc ev).onRaise (fun x => do noteFrame x ev; theTreesLotGoes x)) _ _ s
  refine wpAny_noted ?_
  rw [dTurn_out]
  refine wpAny_bind (wpAny_standAt (wpAny_bind (wpAny_mono (trn n s hI) (fun r s₁ h₁ => ?_) fun _ _ h' => h')))
  cases r with
  | none => exact wpAny_pure h₁
  | some v =>
    refine wpAny_bind (wpAny_mono h₁ (fun _ s₁' h₁' => ?_) fun _ _ h' => h')
    refine wpAny_bind (wpAny_mono h₁' (fun _ s₂ h₂ => wpAny_bind (wpAny_mono h₂ (fun ok s₃ h₃ => ?_) fun _ _ h' => h')) fun _ _ h' => h')
    cases ok with
    | false => exact wpAny_pure ⟨rfl, h₃⟩
    | true =>
      refine wpAny_bind (wpAny_mono h₃ (fun x s₄ h₄ => ?_) fun _ _ h' => h')
      refine wpAny_bind (wpAny_standAt (wpAny_bind (wpAny_of_eq (hs x) (wpAny_bind (wpAny_holding (wpAny_mono h₄ (fun it1 s₅ h₅ => ?_) fun _ _ h' => h'))))))
      refine wpAny_bind (wpAny_runOwn ?_)
      rw [Around.mark_none]
      refine codeAny_mono h₅ fun r s' hr => ?_
      cases r with
      | ok f =>
        first
          | exact wpAny_pure ⟨rfl, hr⟩
          | exact wpAny_bind (wpAny_pure (wpAny_pure ⟨rfl, hr⟩))
      | error e => exact hr.elim
theorem dLoop_in {D : Addr} (Iv : Nat → Shared → Prop)
    (trn : ∀ n s, Iv n s → wpAny (model pr w) A (pyNext it) (fun r s₁ => match r with
      | none => Rr (.ok .next) s₁
      | some v => wpAny (model pr w) A (letOwnedTupleGo t1 it v) (fun _ s₁' => wpAny (model pr w) A (assign t1 ev v) (fun _ s₂ =>
          wpAny (model pr w) A (forIn cs1 true fun c r => if r = true then do let ok ← isTrue c ev (eval c ev); pure (ForInStep.yield ok) else pure (ForInStep.yield r)) (fun ok s₃ =>
            if ok = true then wpAny (model pr w) A (eval kx ev) (fun kv s₄ => wpAny (model pr w) A (eval vx ev) (fun vv s₅ =>
              wpAny (model pr w) A (dictSet D kv vv) (fun _ s₆ => ∃ m, m < n ∧ Iv m s₆) (notedBy (model pr w) A ev fun e s' => Rr (.error e) s') s₅) (notedBy (model pr w) A ev fun e s' => Rr (.error e) s') s₄) (notedBy (model pr w) A ev fun e s' => Rr (.error e) s') s₃
            else ∃ m, m < n ∧ Iv m s₃) (notedBy (model pr w) A ev fun e s' => Rr (.error e) s') s₂) (notedBy (model pr w) A ev fun e s' => Rr (.error e) s') s₁') (notedBy (model pr w) A ev fun e s' => Rr (.error e) s') s₁) (notedBy (model pr w) A ev fun e s' => Rr (.error e) s') s)
    (n : Nat) (h : Iv n s) :
    codeAny (model pr w) A (.compLoop (.DictComp kx vx [⟨t0, i0, cs0, 0⟩, ⟨t1, i1, cs1, 0⟩] scp pos) 1 it (.ref D) ev) Rr s := by
  refine codeAny_loop rfl Iv (fun n s hI => ?_) n h
  show wpAny _ A ((compTurn (.DictComp kx vx [⟨t0, i0, cs0, 0⟩, ⟨t1, i1, cs1, 0⟩] scp pos) 1 it (.ref D) ev).onRaise (fun x => do noteFrame x ev; theTreesLotGoes x)) _ _ s
  refine wpAny_noted ?_
  rw [dTurn_in]
  refine wpAny_bind (wpAny_standAt (wpAny_bind (wpAny_mono (trn n s hI) (fun r s₁ h₁ => ?_) fun _ _ h' => h')))
  cases r with
  | none => exact wpAny_pure h₁
  | some v =>
    refine wpAny_bind (wpAny_mono h₁ (fun _ s₁' h₁' => ?_) fun _ _ h' => h')
    refine wpAny_bind (wpAny_mono h₁' (fun _ s₂ h₂ => wpAny_bind (wpAny_mono h₂ (fun ok s₃ h₃ => ?_) fun _ _ h' => h')) fun _ _ h' => h')
    cases ok with
    | false => exact wpAny_pure ⟨rfl, h₃⟩
    | true =>
      exact wpAny_bind (wpAny_bind (wpAny_mono h₃ (fun kv s₄ h₄ => wpAny_bind (wpAny_holding (wpAny_mono h₄ (fun vv s₅ h₅ => wpAny_bind (wpAny_standAt (wpAny_holding (wpAny_mono h₅ (fun _ s₆ h₆ => wpAny_pure ⟨rfl, h₆⟩) fun _ _ h' => h')))) fun _ _ h' => h'))) fun _ _ h' => h'))
theorem dStart_ok (h0 : codeAny (model pr w) A (.compLoop (.DictComp kx vx [⟨t0, i0, cs0, 0⟩, ⟨t1, i1, cs1, 0⟩] scp pos) 1 it acc ev) Rr s)
    (h : wpAny (model pr w) A (pyIter it) (fun it' s' => codeAny (model pr w) A (.compLoop (.DictComp kx vx [⟨t0, i0, cs0, 0⟩, ⟨t1, i1, cs1, 0⟩] scp pos) 1 it' acc ev) Rr s')
      (notedBy (model pr w) A ev fun x s' => Rr (.error x) s') s) :
    codeAny (model pr w) A (.compStart (.DictComp kx vx [⟨t0, i0, cs0, 0⟩, ⟨t1, i1, cs1, 0⟩] scp pos) 1 it acc ev) Rr s := by
  refine codeAny_of_tree ?_
  show wpAny _ _ ((compStart (.DictComp kx vx [⟨t0, i0, cs0, 0⟩, ⟨t1, i1, cs1, 0⟩] scp pos) 1 it acc ev).onRaise (fun x => do noteFrame x ev; standAt theWindowsPlace)) _ _ s
  refine wpAny_notedAt ?_
  unfold compStart
  show wpAny _ _ (ask >>= _) _ _ s
  refine wpAny_bind (wpAny_askSetting (wpAny_ite ?_))
  split
  · first
      | exact wpAny_bind (wpAny_pure (wpAny_pure (And.intro rfl h0)))
      | exact wpAny_pure (And.intro rfl h0)
  · first
      | exact wpAny_bind (wpAny_rule (wpAny_bind (wpAny_standAt (wpAny_bind (wpAny_mono h (fun it' s' h' => wpAny_pure (And.intro rfl h')) fun _ _ x => x)))))
      | (refine wpAny_bind (wpAny_rule ?_); show wpAny _ _ (standAt i1.pos >>= _) _ _ s; exact wpAny_bind (wpAny_standAt (wpAny_bind (wpAny_mono h (fun it' s' h' => wpAny_pure (And.intro rfl h')) fun _ _ x => x))))
end

section
variable {X : Cx}
def tDc2 (wi : TI) (g : TG) (tt : TT) (wi1 : TI) (g1 : TG) (tt1 : TT) (tk tv : TE) (vs vs1 : List Nat) : TE := fun σ H Q => wi σ H fun J H1 => ∀ D, H1 D = none → ∃ W : Nat → Nat → Hp → Prop, (∃ m, W 0 m (upd H1 D (.dK []))) ∧ ∀ i m H, W i m H →
  (J.stop i H ∧ Q (.ref D) H) ∨ (J.go i H ∧ ∃ Nx : Hp → Prop, (∀ H', Nx H' → ∃ m', m' < m ∧ W (i + 1) m' H') ∧ ∀ x H', J.yld i H x H' → g x (wipe σ vs) H' fun σ2 H2 => wipe σ2 vs = wipe σ vs ∧ tt σ2 H2 fun b H3 =>
    if b = true then wi1 σ2 H3 fun J1 H4 => ∃ W1 : Nat → Nat → Hp → Prop, (∃ m, W1 0 m H4) ∧ ∀ j k H, W1 j k H →
      (J1.stop j H ∧ Nx H) ∨ (J1.go j H ∧ ∃ Nx1 : Hp → Prop, (∀ H', Nx1 H' → ∃ k', k' < k ∧ W1 (j + 1) k' H') ∧ ∀ x H', J1.yld j H x H' → g1 x (wipe σ2 vs1) H' fun σ3 H5 => wipe σ3 vs1 = wipe σ2 vs1 ∧ tt1 σ3 H5 fun b H6 =>
        if b = true then tk σ3 H6 fun y H7 => tv σ3 H7 fun z H8 => ∃ kvs k, y = kV k ∧ H8 D = some (.dK kvs) ∧ kvs.length < sizeLine ∧ Nx1 (upd H8 D (.dK (putK kvs k z))) else Nx1 H6)
    else Nx H3)
theorem dc2_core {pn : List (Addr × Obj)} {s : Shared} {σ : L2.St} {H : Hp} {Q : VK} {kx vx tg itr tg1 itr1 : Expr} {cs cs1 : List Expr} {scp : Scope} {ow : List (Str × Nat)} {vs1 : List Nat} {pos pos' : Pos} {wi wi1 : TI} {g g1 : TG} {tt tt1 : TT} {tk tv : TE} {use : Option (Value → Sem Unit)} {Qf : Value → Shared → Prop}
    (hc : X.calm = true) (hN : X.N.Nodup) (Iv : L2.Inv X pn σ H s) (hi : PI X tg itr wi) (ok : BlkOk X.N X.env.scope scp ow) (hv : ∀ i ∈ vs1, i ∈ ow.map (·.2))
    (hg : ∀ (s : Shared) (H : Hp) (C : Addr) (cl : List (Str × Addr)) (fp : List Addr), PG (X.blk s H scp (compEnvC scp cl C X.env) fp) tg g) (ht : ∀ (s : Shared) (H : Hp) (C : Addr) (cl : List (Str × Addr)) (fp : List Addr), PTs (X.blk s H scp (compEnvC scp cl C X.env) fp) cs tt)
    (he : ∀ (s : Shared) (H : Hp) (C : Addr) (cl : List (Str × Addr)) (fp : List Addr), PE (X.blk s H scp (compEnvC scp cl C X.env) fp) kx tk) (hv2 : ∀ (s : Shared) (H : Hp) (C : Addr) (cl : List (Str × Addr)) (fp : List Addr), PE (X.blk s H scp (compEnvC scp cl C X.env) fp) vx tv) (hs : ∀ x, foldedSetIterable itr X.env x = pure x)
    (hi1 : ∀ (s : Shared) (H : Hp) (C : Addr) (cl : List (Str × Addr)) (fp : List Addr), PI (X.blk s H scp (compEnvC scp cl C X.env) fp) tg1 itr1 wi1)
    (hg1 : ∀ (s : Shared) (H : Hp) (C : Addr) (cl : List (Str × Addr)) (fp : List Addr), PG (X.blk s H scp (compEnvC scp cl C X.env) fp) tg1 g1)
    (ht1 : ∀ (s : Shared) (H : Hp) (C : Addr) (cl : List (Str × Addr)) (fp : List Addr), PTs (X.blk s H scp (compEnvC scp cl C X.env) fp) cs1 tt1)
    (hs1 : ∀ ev x, foldedSetIterable itr1 ev x = pure x)
    (h : tDc2 wi g tt wi1 g1 tt1 tk tv (ow.map (·.2)) vs1 σ H Q)
    (hRR : ∀ D C s' m H', L2.Inv X pn σ H' s' → Q (.ref D) H' → s'.heap.Ns C m → FpOk X pn H' C → compPost (model X.prog X.w) X.A X.xe use Qf (.ref D) C (.ok .next) s') :
    wpAny (model X.prog X.w) X.A (comprehension (.DictComp kx vx [⟨tg, itr, cs, 0⟩, ⟨tg1, itr1, cs1, 0⟩] scp pos) scp X.env pos' newDict false (eval itr X.env) use) Qf X.xe s := by
  have hfr : ∀ y ∈ scp.names, y.2 = .free → ∃ c, X.env.cells.lookup y.1 = some c := fun y hy e => by
    rcases ok.free y hy e with k | k
    · exact Iv.ok.has _ (.inl k)
    · exact Iv.ok.has _ (.inr k)
  refine wpAny_comprehension_free (use := use) rfl hs (closure_ok hfr) ok.kind (fun y hy e => by rw [ok.uniq y hy, e])
    (thn (hi.run pn s σ H _ Iv h) fun xv s1 hx => thn hx fun itv s2 h2 => ?_)
  obtain ⟨it, fp, tn, J, H2, e, Iv2, T, st2, f2, q⟩ := h2
  subst e
  refine wpAny_newObj_type (newEnv_comp ?_)
  generalize hD : s2.heap.objs.size = D
  have hDn : H2 D = none := Iv2.hok.fresh (Nat.le_of_eq hD)
  obtain ⟨W, ⟨m0, w0⟩, trn⟩ := q D hDn
  generalize hsh : ({ s2 with heap := s2.heap.push { cls := .type "dict", data := .dict #[] } } : Shared) = s3
  have Iv3 : L2.Inv X pn σ (upd H2 D (.dK [])) s3 := by
    rw [← hsh]
    refine Iv2.laid (t' := s2.toks) (fun b o e => Heap.get?_push_of_some _ e) (Nat.le_of_eq hD) ?_
    rw [← hD]
    exact dk_empty s2.heap Iv2.big
  have h3 : s3.heap = s2.heap.push { cls := .type "dict", data := .dict #[] } := by rw [← hsh]
  have szz : ∀ b ∈ fp, b < s2.heap.objs.size := fun b hb => by
    obtain ⟨o, e, _⟩ := T.obj _ _ st2 b hb
    exact Heap.lt_size e
  have f3 : ∀ b ∈ fp, FpOk X pn (upd H2 D (.dK [])) b ∧ b < s3.heap.objs.size := fun b hb => by
    have hlv := szz b hb
    refine ⟨⟨?_, (f2 b hb).2⟩, by rw [h3, Heap.size_push]; exact Nat.lt_succ_of_lt hlv⟩
    rw [upd_ne (by rw [← hD]; exact Nat.ne_of_lt hlv)]
    exact (f2 b hb).1
  have st3 : tn 0 s3.heap := T.keep _ _ _ st2 fun b _ o e => by rw [h3]; exact Heap.get?_push_of_some _ e
  have Iv4 := block_start Iv3 ok hN f3
  have pg := hg s3 (upd H2 D (.dK [])) s3.heap.objs.size (cellsFrom (s3.heap.objs.size + 1) scp.names (cloFrom X.env.cells scp.names [])) fp
  have pt := ht s3 (upd H2 D (.dK [])) s3.heap.objs.size (cellsFrom (s3.heap.objs.size + 1) scp.names (cloFrom X.env.cells scp.names [])) fp
  have pe := he s3 (upd H2 D (.dK [])) s3.heap.objs.size (cellsFrom (s3.heap.objs.size + 1) scp.names (cloFrom X.env.cells scp.names [])) fp
  have pv := hv2 s3 (upd H2 D (.dK [])) s3.heap.objs.size (cellsFrom (s3.heap.objs.size + 1) scp.names (cloFrom X.env.cells scp.names [])) fp
  have pi1 := hi1 s3 (upd H2 D (.dK [])) s3.heap.objs.size (cellsFrom (s3.heap.objs.size + 1) scp.names (cloFrom X.env.cells scp.names [])) fp
  have pg1 := hg1 s3 (upd H2 D (.dK [])) s3.heap.objs.size (cellsFrom (s3.heap.objs.size + 1) scp.names (cloFrom X.env.cells scp.names [])) fp
  have pt1 := ht1 s3 (upd H2 D (.dK [])) s3.heap.objs.size (cellsFrom (s3.heap.objs.size + 1) scp.names (cloFrom X.env.cells scp.names [])) fp
  show codeAny _ _ (.compStart (.DictComp kx vx [⟨tg, itr, cs, 0⟩, ⟨tg1, itr1, cs1, 0⟩] scp pos) 0 (.ref it) (.ref D) (compEnvC scp (cellsFrom (s3.heap.objs.size + 1) scp.names (cloFrom X.env.cells scp.names [])) s3.heap.objs.size X.env)) (compPost (model X.prog X.w) X.A X.xe use Qf (.ref D) s3.heap.objs.size) { s3 with heap := pushCells (s3.heap.push { cls := .type "dict", data := .dict #[] }) scp.names }
  have nfq : ∀ b ∈ fp, (upd H2 D (.dK [])) b = none := fun b hb => (f3 b hb).1.1
  generalize hce : compEnvC scp (cellsFrom (s3.heap.objs.size + 1) scp.names (cloFrom X.env.cells scp.names [])) s3.heap.objs.size X.env = ce at Iv4 pg pt pe pv pi1 pg1 pt1 ⊢
  have cL : ce.locals = s3.heap.objs.size := by subst hce; rfl
  generalize hH3 : upd H2 D (.dK []) = H3 at Iv3 Iv4 pg pt pe pv pi1 pg1 pt1 w0 nfq f3
  generalize hs4 : ({ s3 with heap := pushCells (s3.heap.push { cls := .type "dict", data := .dict #[] }) scp.names } : Shared) = s4 at Iv4 ⊢
  have st4 : tn 0 s4.heap := T.keep _ _ _ st3 fun b _ o e => by rw [← hs4]; exact pushCells_keeps _ _ _ _ (Heap.get?_push_of_some _ e)
  have stt : ∀ {σ' : L2.St} {H' : Hp} {s' : Shared}, L2.Inv (X.blk s3 H3 scp ce fp) [] σ' H' s' → (∀ b ∈ fp, H' b = none) → ∀ b ∈ fp, FpOk (X.blk s3 H3 scp ce fp) [] H' b := fun {σ' H' s'} I' hn b hb =>
    ⟨hn b hb, (I'.ok.exf b hb).1, I'.ok.exfs b hb, .inl hb, fun x c e => (I'.ok.exf b hb).2 x c e, fun p hp => absurd (show p ∈ ([] : List (Addr × Obj)) ++ [] from hp) (by simp)⟩
  have lop : codeAny (model X.prog X.w) X.A (.compLoop (.DictComp kx vx [⟨tg, itr, cs, 0⟩, ⟨tg1, itr1, cs1, 0⟩] scp pos) 0 (.ref it) (.ref D) ce) (compPost (model X.prog X.w) X.A X.xe use Qf (.ref D) s3.heap.objs.size) s4 := by
    refine dLoop_out (hs1 ce) (fun n s' => ∃ i H', L2.Inv (X.blk s3 H3 scp ce fp) [] (wipe σ (ow.map (·.2))) H' s' ∧ tn i s'.heap ∧ (∀ b ∈ fp, H' b = none) ∧ W i n H') ?_ m0 ⟨0, H3, Iv4, st4, nfq, w0⟩
    rintro n s5 ⟨i, H5, Iv5, st5, n5, w5⟩
    rcases trn i n H5 w5 with ⟨stq, qq⟩ | ⟨go, Nx, hNx, stp⟩
    · have td := T.done (X.blk s3 H3 scp ce fp) rfl rfl rfl hc i [] s5 _ H5 (fun _ _ => False) Iv5 (stt Iv5 n5) st5 stq
      refine thnF td fun r s6 ⟨hr, I6⟩ => ?_
      subst hr
      have I7 : L2.Inv X pn σ H5 s6 := Iv3.call' (ch := fp) I6.os I6.base I6.hok I6.bare fun b hb => ⟨(f3 b hb).1.2.2.2.1, (f3 b hb).1.2.1, (f3 b hb).1.2.2.2.2.1, (f3 b hb).1.2.2.2.2.2⟩
      have nC : H5 s3.heap.objs.size = none := by
        have z : H5 ce.locals = none := I6.free
        rw [cL] at z
        exact z
      obtain ⟨m, hn, _⟩ := I6.loc
      have hn : s6.heap.Ns ce.locals m := hn
      rw [cL] at hn
      exact hRR D s3.heap.objs.size s6 m H5 I7 qq hn (Iv3.fpOk (Nat.le_refl _) nC)
    · have ti := T.item (X.blk s3 H3 scp ce fp) rfl rfl rfl hc i [] s5 _ H5 (fun _ _ => False) Iv5 (stt Iv5 n5) st5 go
      refine thnF ti fun r s6 ⟨u, hr, h6⟩ => ?_
      subst hr
      refine thnF h6 fun _ s7 ⟨x, H7, I7, r7, y7, st7, n7⟩ => ?_
      have I7' := I7.pinned (stt I7 n7) (T.obj _ _ st7)
      refine thnF (pg.run _ s7 _ H7 x u _ I7' r7 (stp x H7 y7)) fun _ s8 ⟨σ8, H8, I8, hw8, q8⟩ => ?_
      refine thnF (pt.run _ s8 σ8 H8 _ I8 q8) fun b s9 ⟨H9, I9, q9⟩ => ?_
      have fne : ∀ {σ9 : L2.St} {s' : Shared} {H' : Hp}, L2.Inv (X.blk s3 H3 scp ce fp) ([] ++ pinsAt fp s7.heap) σ9 H' s' → (wipe σ (ow.map (·.2))).length = σ9.length → (∀ (j : Nat) v, (wipe σ (ow.map (·.2)))[j]? = some (some v) → σ9[j]? = some (some v)) → Nx H' →
          ∃ m, m < n ∧ ∃ i H', L2.Inv (X.blk s3 H3 scp ce fp) [] (wipe σ (ow.map (·.2))) H' s' ∧ tn i s'.heap ∧ (∀ b ∈ fp, H' b = none) ∧ W i m H' := fun {σ9 s' H'} I' hl hk nx => by
        obtain ⟨m', hm, w'⟩ := hNx H' nx
        have pjn : ∀ b ∈ fp, ∀ o, s7.heap.get? b = some o → s'.heap.get? b = some o ∧ H' b = none := fun b hb o e =>
          let z := I'.pin (b, o) (List.mem_append_right _ (List.mem_append_right _ (mem_pinsAt hb e)))
          ⟨z.1, z.2.1⟩
        refine ⟨m', hm, i + 1, H', (I'.unpinned (pins := [])).weak hl hk, T.keep _ _ _ st7 fun b hb o e => (pjn b hb o e).1, fun b hb => ?_, w'⟩
        obtain ⟨o, e, _⟩ := T.obj _ _ st7 b hb
        exact (pjn b hb o e).2
      have hl8 : (wipe σ (ow.map (·.2))).length = σ8.length := by rw [← hw8, wipe_length]
      have hk8 : ∀ (j : Nat) v, (wipe σ (ow.map (·.2)))[j]? = some (some v) → σ8[j]? = some (some v) := fun j v e => by
        rw [← hw8] at e
        exact (wipe_some e).1
      have hk9 : ∀ (j : Nat) v, (wipe σ (ow.map (·.2)))[j]? = some (some v) → (wipe σ8 vs1)[j]? = some (some v) := fun j v e => by
        rw [← hw8] at e
        obtain ⟨e1, e2⟩ := wipe_some e
        rw [wipe_out fun z => e2 (hv j z)]
        exact e1
      cases b with
      | false =>
        simp only [Bool.false_eq_true, if_false] at q9 ⊢
        exact fne I9 hl8 hk8 q9
      | true =>
        simp only [if_true] at q9 ⊢
        refine thnF (pi1.run _ s9 σ8 H9 _ I9 q9) fun xv s10 hx => thnF hx fun itv s11 h11 => ?_
        obtain ⟨it1, fp1, tn1, J1, H11, e1, I11, T1, st11, f11, W1, ⟨m1, w1⟩, trn1⟩ := h11
        subst e1
        have stt1 : ∀ {H' : Hp}, (∀ b ∈ fp1, H' b = none) → ∀ b ∈ fp1, FpOk (X.blk s3 H3 scp ce fp) ([] ++ pinsAt fp s7.heap) H' b := fun hn b hb => ⟨hn b hb, (f11 b hb).2⟩
        have lop1 : codeAny (model X.prog X.w) X.A (.compLoop (.DictComp kx vx [⟨tg, itr, cs, 0⟩, ⟨tg1, itr1, cs1, 0⟩] scp pos) 1 (.ref it1) (.ref D) ce)
            (fun r s' => match r with
              | .ok _ => ∃ m, m < n ∧ ∃ i H', L2.Inv (X.blk s3 H3 scp ce fp) [] (wipe σ (ow.map (·.2))) H' s' ∧ tn i s'.heap ∧ (∀ b ∈ fp, H' b = none) ∧ W i m H'
              | .error _ => False) s11 := by
          refine dLoop_in (fun k s' => ∃ j H', L2.Inv (X.blk s3 H3 scp ce fp) ([] ++ pinsAt fp s7.heap) (wipe σ8 vs1) H' s' ∧ tn1 j s'.heap ∧ (∀ b ∈ fp1, H' b = none) ∧ W1 j k H') ?_ m1 ⟨0, H11, I11.weak (wipe_length _ _) (fun j v e => (wipe_some e).1), st11, fun b hb => (f11 b hb).1, w1⟩
          rintro k s12 ⟨j, H12, I12, st12, n12, w12⟩
          rcases trn1 j k H12 w12 with ⟨stq1, nx1⟩ | ⟨go1, Nx1, hNx1, stp1⟩
          · refine thnF (T1.done (X.blk s3 H3 scp ce fp) rfl rfl rfl hc j _ s12 (wipe σ8 vs1) H12 (fun _ _ => False) I12 (stt1 n12) st12 stq1) fun r s13 ⟨hr, I13⟩ => ?_
            subst hr
            exact fne I13 (hl8.trans (wipe_length σ8 vs1).symm) hk9 nx1
          · refine thnF (T1.item (X.blk s3 H3 scp ce fp) rfl rfl rfl hc j _ s12 (wipe σ8 vs1) H12 (fun _ _ => False) I12 (stt1 n12) st12 go1) fun r s13 ⟨u1, hr, h13⟩ => ?_
            subst hr
            refine thnF h13 fun _ s14 ⟨x1, H14, I14, r14, y14, st14, n14⟩ => ?_
            have I14' := I14.pinned (stt1 n14) (T1.obj _ _ st14)
            refine thnF (pg1.run _ s14 (wipe σ8 vs1) H14 x1 u1 _ I14' r14 (stp1 x1 H14 y14)) fun _ s15 ⟨σ15, H15, I15, hw15, q15⟩ => ?_
            refine thnF (pt1.run _ s15 σ15 H15 _ I15 q15) fun b1 s16 ⟨H16, I16, q16⟩ => ?_
            have fne1 : ∀ {s' : Shared} {H' : Hp}, L2.Inv (X.blk s3 H3 scp ce fp) (([] ++ pinsAt fp s7.heap) ++ pinsAt fp1 s14.heap) σ15 H' s' → Nx1 H' → ∃ m, m < k ∧ ∃ j H', L2.Inv (X.blk s3 H3 scp ce fp) ([] ++ pinsAt fp s7.heap) (wipe σ8 vs1) H' s' ∧ tn1 j s'.heap ∧ (∀ b ∈ fp1, H' b = none) ∧ W1 j m H' := fun {s' H'} I' nx => by
              obtain ⟨m', hm, w'⟩ := hNx1 H' nx
              have pjn : ∀ b ∈ fp1, ∀ o, s14.heap.get? b = some o → s'.heap.get? b = some o ∧ H' b = none := fun b hb o e =>
                let z := I'.pin (b, o) (List.mem_append_right _ (List.mem_append_right _ (mem_pinsAt hb e)))
                ⟨z.1, z.2.1⟩
              refine ⟨m', hm, j + 1, H', I'.unpinned.weak (by rw [← hw15, wipe_length]) (fun j v e => by rw [← hw15] at e; exact (wipe_some e).1), T1.keep _ _ _ st14 fun b hb o e => (pjn b hb o e).1, fun b hb => ?_, w'⟩
              obtain ⟨o, e, _⟩ := T1.obj _ _ st14 b hb
              exact (pjn b hb o e).2
            cases b1 with
            | false =>
              simp only [Bool.false_eq_true, if_false] at q16 ⊢
              exact fne1 I16 q16
            | true =>
              simp only [if_true] at q16 ⊢
              refine thnF (pe.run _ s16 σ15 H16 _ I16 q16) fun zk s17 ⟨yk, H17, I17, r17, q17⟩ => ?_
              refine thnF (pv.run _ s17 σ15 H17 _ I17 q17) fun zv s18 ⟨yv, H18, I18, r18, kvs, ky, ek, hD18, hz18, nx⟩ => ?_
              subst ek
              exact d_dictSet (X := X.blk s3 H3 scp ce fp) I18 hD18 hz18 r17 r18 fun s19 I19 => fne1 I19 nx
        exact dStart_ok lop1 (T1.self X.A 0 _ _ _ st11 lop1)
  exact codeAny_compStart_dict lop (T.self X.A 0 _ _ _ st4 lop)
theorem pe_dc2 {kx vx tg itr tg1 itr1 : Expr} {cs cs1 : List Expr} {scp : Scope} {ow : List (Str × Nat)} {vs1 : List Nat} {pos : Pos} {wi wi1 : TI} {g g1 : TG} {tt tt1 : TT} {tk tv : TE} (hc : X.calm = true) (hN : X.N.Nodup) (hi : PI X tg itr wi) (ok : BlkOk X.N X.env.scope scp ow) (hv : ∀ i ∈ vs1, i ∈ ow.map (·.2))
    (hg : ∀ (s : Shared) (H : Hp) (C : Addr) (cl : List (Str × Addr)) (fp : List Addr), PG (X.blk s H scp (compEnvC scp cl C X.env) fp) tg g) (ht : ∀ (s : Shared) (H : Hp) (C : Addr) (cl : List (Str × Addr)) (fp : List Addr), PTs (X.blk s H scp (compEnvC scp cl C X.env) fp) cs tt)
    (hi1 : ∀ (s : Shared) (H : Hp) (C : Addr) (cl : List (Str × Addr)) (fp : List Addr), PI (X.blk s H scp (compEnvC scp cl C X.env) fp) tg1 itr1 wi1)
    (hg1 : ∀ (s : Shared) (H : Hp) (C : Addr) (cl : List (Str × Addr)) (fp : List Addr), PG (X.blk s H scp (compEnvC scp cl C X.env) fp) tg1 g1) (ht1 : ∀ (s : Shared) (H : Hp) (C : Addr) (cl : List (Str × Addr)) (fp : List Addr), PTs (X.blk s H scp (compEnvC scp cl C X.env) fp) cs1 tt1)
    (he : ∀ (s : Shared) (H : Hp) (C : Addr) (cl : List (Str × Addr)) (fp : List Addr), PE (X.blk s H scp (compEnvC scp cl C X.env) fp) kx tk) (hv2 : ∀ (s : Shared) (H : Hp) (C : Addr) (cl : List (Str × Addr)) (fp : List Addr), PE (X.blk s H scp (compEnvC scp cl C X.env) fp) vx tv) (hs : ∀ x, foldedSetIterable itr X.env x = pure x := by intro _; rfl) (hs1 : ∀ ev x, foldedSetIterable itr1 ev x = pure x := by intro _ _; rfl) :
    PE X (.DictComp kx vx [⟨tg, itr, cs, 0⟩, ⟨tg1, itr1, cs1, 0⟩] scp pos) (tDc2 wi g tt wi1 g1 tt1 tk tv (ow.map (·.2)) vs1) := by
  refine ⟨fun pn s σ H Q Iv h => ?_⟩
  rw [arm_eval_DictComp]
  refine dc2_core hc hN Iv hi ok hv hg ht he hv2 hs hi1 hg1 ht1 hs1 h fun D C s' m H' I' q hn f => ⟨m, hn, fun h'' sb => ?_⟩
  obtain ⟨f0, f1, f2, f3, f4, f5⟩ := f
  exact ⟨.ref D, H', I'.turned (t' := s'.toks) (fun b o hb e => (sb.2 b hb).trans e) f0 f1 f3 f4 f5, rfl, q⟩
theorem ps_setDc2 {i : Nat} {y : Str} {py : Pos} {kx vx tg itr tg1 itr1 : Expr} {cs cs1 : List Expr} {scp : Scope} {ow : List (Str × Nat)} {vs1 : List Nat} {pos spos : Pos} {wi wi1 : TI} {g g1 : TG} {tt tt1 : TT} {tk tv : TE} (hc : X.calm = true) (hN : X.N.Nodup) (hy : X.N[i]? = some y) (hyl : X.env.scope.names.lookup y = some .local)
    (hsw : swapsWith (.DictComp kx vx [⟨tg, itr, cs, 0⟩, ⟨tg1, itr1, cs1, 0⟩] scp pos) (some (.Name y py)) spos.line X.env = pure true) (hi : PI X tg itr wi) (ok : BlkOk X.N X.env.scope scp ow) (hv : ∀ i ∈ vs1, i ∈ ow.map (·.2))
    (hg : ∀ (s : Shared) (H : Hp) (C : Addr) (cl : List (Str × Addr)) (fp : List Addr), PG (X.blk s H scp (compEnvC scp cl C X.env) fp) tg g) (ht : ∀ (s : Shared) (H : Hp) (C : Addr) (cl : List (Str × Addr)) (fp : List Addr), PTs (X.blk s H scp (compEnvC scp cl C X.env) fp) cs tt)
    (hi1 : ∀ (s : Shared) (H : Hp) (C : Addr) (cl : List (Str × Addr)) (fp : List Addr), PI (X.blk s H scp (compEnvC scp cl C X.env) fp) tg1 itr1 wi1)
    (hg1 : ∀ (s : Shared) (H : Hp) (C : Addr) (cl : List (Str × Addr)) (fp : List Addr), PG (X.blk s H scp (compEnvC scp cl C X.env) fp) tg1 g1) (ht1 : ∀ (s : Shared) (H : Hp) (C : Addr) (cl : List (Str × Addr)) (fp : List Addr), PTs (X.blk s H scp (compEnvC scp cl C X.env) fp) cs1 tt1)
    (he : ∀ (s : Shared) (H : Hp) (C : Addr) (cl : List (Str × Addr)) (fp : List Addr), PE (X.blk s H scp (compEnvC scp cl C X.env) fp) kx tk) (hv2 : ∀ (s : Shared) (H : Hp) (C : Addr) (cl : List (Str × Addr)) (fp : List Addr), PE (X.blk s H scp (compEnvC scp cl C X.env) fp) vx tv) (hs : ∀ x, foldedSetIterable itr X.env x = pure x := by intro _; rfl) (hs1 : ∀ ev x, foldedSetIterable itr1 ev x = pure x := by intro _ _; rfl) :
    PS X (.Assign [.Name y py] (.DictComp kx vx [⟨tg, itr, cs, 0⟩, ⟨tg1, itr1, cs1, 0⟩] scp pos) spos) (tAsg (tDc2 wi g tt wi1 g1 tt1 tk tv (ow.map (·.2)) vs1) (gName i)) := by
  refine ⟨fun pn s σ H D Iv h => ?_⟩
  rw [exec_Assign_Name_used _ _ _ _ hsw]
  refine wpAny_bind (wpAny_standAt (wpAny_bind ?_))
  show wpAny _ X.A (do let _ ← comprehension (.DictComp kx vx [⟨tg, itr, cs, 0⟩, ⟨tg1, itr1, cs1, 0⟩] scp pos) scp X.env (firstIterPos [⟨tg, itr, cs, 0⟩, ⟨tg1, itr1, cs1, 0⟩] pos) newDict false (eval itr X.env) (some (assign (.Name y py) X.env))) _ _ s
  have h : tDc2 wi g tt wi1 g1 tt1 tk tv (ow.map (·.2)) vs1 σ H (fun x H1 => gName i x σ H1 D.nx) := h
  refine wpAny_bind (thn (dc2_core (Qf := fun _ s' => SP X pn D .next s') hc hN Iv hi ok hv hg ht he hv2 hs hi1 hg1 ht1 hs1 h fun L C s' m H' I' q hn f => ?_) fun _ s' hq => wpAny_pure (wpAny_pure hq))
  show wpAny _ _ (assign (.Name y py) X.env (.ref L)) _ _ _
  refine wpAny_assign_Name (store_ok2 (v := V.ref L) I' hN hy (.inl hyl) rfl (fun s2 Iv2 ⟨a, sb, ha⟩ => ?_) (.inr hyl))
  obtain ⟨f0, f1, f2, f3, f4, f5⟩ := f
  have haC : C ≠ a := by
    rcases ha with z | z
    · rw [z]; exact f1
    · exact fun e => f4 y a z e.symm
  refine ⟨m, hn.sameBut sb haC, fun h3 sb3 => ?_⟩
  exact ⟨_, H', Iv2.turned (t' := s2.toks) (fun b o hb e => (sb3.2 b hb).trans e) f0 f1 f3 f4 f5, q⟩
theorem ps_setDc {i : Nat} {y : Str} {py : Pos} {kx vx tg itr : Expr} {cs : List Expr} {scp : Scope} {ow : List (Str × Nat)} {pos spos : Pos} {wi : TI} {g : TG} {tt : TT} {tk tv : TE} (hc : X.calm = true) (hN : X.N.Nodup) (hy : X.N[i]? = some y) (hyl : X.env.scope.names.lookup y = some .local)
    (hsw : swapsWith (.DictComp kx vx [⟨tg, itr, cs, 0⟩] scp pos) (some (.Name y py)) spos.line X.env = pure true) (hi : PI X tg itr wi) (ok : BlkOk X.N X.env.scope scp ow)
    (hg : ∀ (s : Shared) (H : Hp) (C : Addr) (cl : List (Str × Addr)) (fp : List Addr), PG (X.blk s H scp (compEnvC scp cl C X.env) fp) tg g) (ht : ∀ (s : Shared) (H : Hp) (C : Addr) (cl : List (Str × Addr)) (fp : List Addr), PTs (X.blk s H scp (compEnvC scp cl C X.env) fp) cs tt)
    (he : ∀ (s : Shared) (H : Hp) (C : Addr) (cl : List (Str × Addr)) (fp : List Addr), PE (X.blk s H scp (compEnvC scp cl C X.env) fp) kx tk) (hv2 : ∀ (s : Shared) (H : Hp) (C : Addr) (cl : List (Str × Addr)) (fp : List Addr), PE (X.blk s H scp (compEnvC scp cl C X.env) fp) vx tv) (hs : ∀ x, foldedSetIterable itr X.env x = pure x := by intro _; rfl) :
    PS X (.Assign [.Name y py] (.DictComp kx vx [⟨tg, itr, cs, 0⟩] scp pos) spos) (tAsg (tDc wi g tt tk tv (ow.map (·.2))) (gName i)) := by
  refine ⟨fun pn s σ H D Iv h => ?_⟩
  rw [exec_Assign_Name_used _ _ _ _ hsw]
  refine wpAny_bind (wpAny_standAt (wpAny_bind ?_))
  show wpAny _ X.A (do let _ ← comprehension (.DictComp kx vx [⟨tg, itr, cs, 0⟩] scp pos) scp X.env (firstIterPos [⟨tg, itr, cs, 0⟩] pos) newDict false (eval itr X.env) (some (assign (.Name y py) X.env))) _ _ s
  have h : tDc wi g tt tk tv (ow.map (·.2)) σ H (fun x H1 => gName i x σ H1 D.nx) := h
  refine wpAny_bind (thn (dc_core (Qf := fun _ s' => SP X pn D .next s') hc hN Iv hi ok hg ht he hv2 hs h fun L C s' m H' I' q hn f => ?_) fun _ s' hq => wpAny_pure (wpAny_pure hq))
  show wpAny _ _ (assign (.Name y py) X.env (.ref L)) _ _ _
  refine wpAny_assign_Name (store_ok2 (v := V.ref L) I' hN hy (.inl hyl) rfl (fun s2 Iv2 ⟨a, sb, ha⟩ => ?_) (.inr hyl))
  obtain ⟨f0, f1, f2, f3, f4, f5⟩ := f
  have haC : C ≠ a := by
    rcases ha with z | z
    · rw [z]; exact f1
    · exact fun e => f4 y a z e.symm
  refine ⟨m, hn.sameBut sb haC, fun h3 sb3 => ?_⟩
  exact ⟨_, H', Iv2.turned (t' := s2.toks) (fun b o hb e => (sb3.2 b hb).trans e) f0 f1 f3 f4 f5, q⟩
end
end Pw
set_option Elab.async false
set_option linter.all false
set_option maxRecDepth 100000
set_option maxHeartbeats 2000000
namespace Pw
open PySem PySem.Spec PyProof.Rows L2
section
variable {X : Cx} {xk : XD} {W : WX} {G : Gc} {C : Ct} {Γ : String → SpD} {k : Nat} {pos : Pos}
theorem dc_read {ρ : Rho} {S own : List Nat} {wi : St → Mp → (List D → (Mp → Prop) → Mp → Prop) → Prop} {wg : D → St → Mp → (St → Mp → Prop) → Prop} {wt : St → Mp → (Bool → Mp → Prop) → Prop} {wk we : St → Mp → DK → Prop} {m : Bool} (hS : ∀ i ∈ S, i ∈ own) {σ : L2.St} {H : Hp} {Q : VK}
    (h : LE X xk W (fun δ M Q => wi δ M fun ds still M1 => compL wg wt (fun δ1 _ acc M' K => wk δ1 M' fun y M2 => we δ1 M2 fun x M3 => match keyOf y with
      | some k => acc.length < LIM ∧ K (setK acc k x) M3
      | none => False) still (wipeD δ own) (fun acc M2 => mkND m acc M2 Q) ds [] M1) σ H Q) :
    tDc (LI ρ X xk W wi) (LG ρ X never W0 S wg) (LT X never W0 wt) (LE X never W0 wk) (LE X never W0 we) own σ H Q := by
  obtain ⟨δ, M, U, R, r, xo, h, out⟩ := h
  refine ⟨δ, M, U, _, r, xo, h, fun ds still M1 U1 H1 J g1 hC hz jok D hD => ?_⟩
  have hU1 := g1.kp.vw.none hD
  generalize hcL : compL wg wt (fun δ1 _ acc M' K => wk δ1 M' fun y M2 => we δ1 M2 fun x M3 => match keyOf y with
      | some k => acc.length < LIM ∧ K (setK acc k x) M3
      | none => False) still (wipeD δ own) (fun acc M2 => mkND m acc M2 R) = cL at hC
  have start : Go X.K M1 U1 H1 M1 U1 (upd H1 D (.dK [])) := ⟨.refl, ⟨fun a o ha n => by
    rw [upd_ne (ne_of_none ha hD)]
    exact ⟨ha, n⟩, fun a o ha => by
    rw [upd_ne (ne_of_none ha hU1)]
    exact g1.kp.vw _ _ ha⟩, g1.rm⟩
  refine ⟨fun i n Hc => n = ds.length - i ∧ i ≤ ds.length ∧ ∃ M' U' acc vs, Go X.K M1 U1 H1 M' U' Hc ∧ U' D = none ∧ Hc D = some (.dK vs) ∧ RKs X.K M' U' acc vs ∧ cL (ds.drop i) acc M', ⟨ds.length, by simp, Nat.zero_le _, M1, U1, [], [], start, hU1, upd_same, by simp only [RKs], by simpa using hC⟩, ?_⟩
  rintro i n Hc ⟨rfl, hi, M', U', acc, vs, g2, hU, hHc, ra, hC⟩
  cases hd : ds.drop i with
  | nil =>
    rw [hd, ← hcL] at hC
    have hi' : i = ds.length := by
      have := List.drop_eq_nil_iff.mp hd
      omega
    obtain ⟨st, hk⟩ := hC
    refine .inl ⟨(jok M' U' Hc g2.ex g2.kp.vw g2.rm st i).1 hi'.symm, ?_⟩
    have g12 := g1.trans g2
    have kp : Kp U H (upd U' D (.dK vs)) Hc := ⟨fun a o ha n => by
      have q := g12.kp.st a o ha n
      have q1 := g1.kp.st a o ha n
      have ne := ne_of_none q1.1 hD
      rw [upd_ne ne]
      exact q, fun a o ha => by
      by_cases e : a = D
      · subst e
        rw [upd_same] at ha
        rw [hHc]; exact ha
      · rw [upd_ne e] at ha
        exact g2.kp.vw _ _ ha⟩
    cases m with
    | false =>
      exact out (.dic acc) M' (.ref D) _ Hc (g12.ex.trans (Ext.new hU)) kp (g2.rm.new hU) (by
        simp only [RV]
        exact ⟨D, vs, rfl, upd_same, g2.rm.none_of hU, RKs.mono (Ext.new hU) g2.rm _ _ ra⟩) hk
    | true =>
      exact out (.ref D) (up M' D (.dic acc)) (.ref D) _ Hc (g12.ex.trans (Ext.newM hU)) kp (g2.rm.newM hU ⟨vs, upd_same, RKs.mono (Ext.newM hU) g2.rm _ _ ra⟩) (by simp only [RV]) (hk D (g2.rm.none_of hU))
  | cons d rest =>
    rw [hd, ← hcL] at hC
    obtain ⟨st, hC⟩ := hC
    have hlt : i < ds.length := by
      have : (ds.drop i).length = ds.length - i := List.length_drop
      rw [hd] at this
      simp at this
      omega
    have hdi : ds[i]? = some d := by
      have := congrArg (fun l : List Pw.D => l[0]?) hd
      simpa using this
    have hrest : ds.drop (i + 1) = rest := by
      have := congrArg List.tail hd
      simpa [List.tail_drop] using this
    obtain ⟨go, yl⟩ := (jok M' U' Hc g2.ex g2.kp.vw g2.rm st i).2 d hdi
    refine .inr ⟨go, fun H' => ∃ M'' U'' acc' vs', Go X.K M1 U1 H1 M'' U'' H' ∧ U'' D = none ∧ H' D = some (.dK vs') ∧ RKs X.K M'' U'' acc' vs' ∧ cL rest acc' M'', ?_, ?_⟩
    · rintro H' ⟨M'', U'', acc', vs', q1, q2, q3, q4, q6⟩
      exact ⟨ds.length - (i + 1), by omega, rfl, hlt, M'', U'', acc', vs', q1, q2, q3, q4, by rw [hrest]; exact q6⟩
    · intro x H' hy
      obtain ⟨U2, g3, rx⟩ := yl x H' hy
      have hD2 := g3.kp.st D _ hHc hU
      have rs2 := (r.mono (g1.trans (g2.trans g3))).rs.wipe2 own
      refine ⟨wipeD δ own, M', U2, _, d, ⟨g3.kp.vw, g3.rm, rs2⟩, XOk.no, rx, hC, fun δ1 M3 σ2 U3 H3 g4 rs4 sm hT => ⟨sm.wipe hS, ?_⟩⟩
      have hD3 := g4.kp.st D _ hD2.1 hD2.2
      refine ⟨δ1, M3, U3, _, ⟨g4.kp.vw, g4.rm, rs4⟩, XOk.no, hT, fun q M4 U4 H4 g5 hb => ?_⟩
      have hD4 := g5.kp.st D _ hD3.1 hD3.2
      have g25 := g2.trans (g3.trans (g4.trans g5))
      have ra4 := RKs.mono (g3.trans (g4.trans g5)).ex g2.rm _ _ ra
      cases q with
      | false =>
        dsimp only
        rw [if_neg Bool.false_ne_true]
        exact ⟨M4, U4, acc, vs, g25, hD4.2, hD4.1, ra4, by rw [← hcL]; exact hb⟩
      | true =>
        dsimp only
        rw [if_pos rfl]
        refine ⟨δ1, M4, U4, _, ⟨g5.kp.vw, g5.rm, rs4.mono g5.ex g4.rm⟩, XOk.no, hb, fun dk Mk vk Uk Hk ek kk rmk rvk hRk => ?_⟩
        have gk : Go X.K M4 U4 H4 Mk Uk Hk := ⟨ek, kk, rmk⟩
        refine ⟨δ1, Mk, Uk, _, ⟨kk.vw, rmk, (rs4.mono g5.ex g4.rm).mono ek g5.rm⟩, XOk.no, hRk, fun d5 M5 v5 U5 H5 e5 k5 rm5 rv5 hR5 => ?_⟩
        split at hR5
        · rename_i key hkey
          have hDk := kk.st D _ hD4.1 hD4.2
          have hD5 := k5.st D _ hDk.1 hDk.2
          have g26 := (g25.trans gk).trans ⟨e5, k5, rm5⟩
          have ra5 := RKs.mono e5 rmk _ _ (RKs.mono ek g5.rm _ _ ra4)
          refine ⟨vs, key, keyOf_kV hkey rvk, hD5.1, by rw [ra.length, lineLIM]; exact hR5.1, M5, U5, setK acc key d5, putK vs key v5, ⟨g26.ex, ⟨fun a o ha n => ?_, fun a o ha => ?_⟩, rm5⟩, hD5.2, upd_same, ra5.put rv5, by rw [← hcL]; exact hR5.2⟩
          · rw [upd_ne (ne_of_none ha hD)]
            exact g26.kp.st a o ha n
          · rw [upd_ne (ne_of_none ha hD5.2)]
            exact k5.vw _ _ ha
        · exact hR5.elim
theorem dc2_read {ρ ρ1 : Rho} {S S1 own own1 : List Nat} {wi wi1 : St → Mp → (List D → (Mp → Prop) → Mp → Prop) → Prop} {wg wg1 : D → St → Mp → (St → Mp → Prop) → Prop} {wt wt1 : St → Mp → (Bool → Mp → Prop) → Prop} {wk we : St → Mp → DK → Prop} {m : Bool}
    (hS : ∀ i ∈ S, i ∈ own) (hS1 : ∀ i ∈ S1, i ∈ own1) {σ : L2.St} {H : Hp} {Q : VK}
    (h : LE X xk W (fun δ M Q => wi δ M fun ds still M1 => compL wg wt (fun δ1 _ acc M2 K => wi1 δ1 M2 fun ds2 still2 M3 => compL wg1 wt1 (fun δ3 _ acc M' K' => wk δ3 M' fun y M4 => we δ3 M4 fun x M5 => match keyOf y with
      | some k => acc.length < LIM ∧ K' (setK acc k x) M5
      | none => False) still2 (wipeD δ1 own1) K ds2 acc M3) still (wipeD δ own) (fun acc M2 => mkND m acc M2 Q) ds [] M1) σ H Q) :
    tDc2 (LI ρ X xk W wi) (LG ρ X never W0 S wg) (LT X never W0 wt) (LI ρ1 X never W0 wi1) (LG ρ1 X never W0 S1 wg1) (LT X never W0 wt1) (LE X never W0 wk) (LE X never W0 we) own own1 σ H Q := by
  obtain ⟨δ, M, U, R, r, xo, h, out⟩ := h
  refine ⟨δ, M, U, _, r, xo, h, fun ds still M1 U1 H1 J g1 hC hz jok D hD => ?_⟩
  have hU1 := g1.kp.vw.none hD
  generalize hcL : compL wg wt (fun δ1 _ acc M2 K => wi1 δ1 M2 fun ds2 still2 M3 => compL wg1 wt1 (fun δ3 _ acc M' K' => wk δ3 M' fun y M4 => we δ3 M4 fun x M5 => match keyOf y with
      | some k => acc.length < LIM ∧ K' (setK acc k x) M5
      | none => False) still2 (wipeD δ1 own1) K ds2 acc M3) still (wipeD δ own) (fun acc M2 => mkND m acc M2 R) = cL at hC
  have start : Go X.K M1 U1 H1 M1 U1 (upd H1 D (.dK [])) := ⟨.refl, ⟨fun a o ha n => by
    rw [upd_ne (ne_of_none ha hD)]
    exact ⟨ha, n⟩, fun a o ha => by
    rw [upd_ne (ne_of_none ha hU1)]
    exact g1.kp.vw _ _ ha⟩, g1.rm⟩
  refine ⟨fun i n Hc => n = ds.length - i ∧ i ≤ ds.length ∧ ∃ M' U' acc vs, Go X.K M1 U1 H1 M' U' Hc ∧ U' D = none ∧ Hc D = some (.dK vs) ∧ RKs X.K M' U' acc vs ∧ cL (ds.drop i) acc M', ⟨ds.length, by simp, Nat.zero_le _, M1, U1, [], [], start, hU1, upd_same, by simp only [RKs], by simpa using hC⟩, ?_⟩
  rintro i n Hc ⟨rfl, hi, M', U', acc, vs, g2, hU, hHc, ra, hC⟩
  cases hd : ds.drop i with
  | nil =>
    rw [hd, ← hcL] at hC
    have hi' : i = ds.length := by
      have := List.drop_eq_nil_iff.mp hd
      omega
    obtain ⟨st, hk⟩ := hC
    refine .inl ⟨(jok M' U' Hc g2.ex g2.kp.vw g2.rm st i).1 hi'.symm, ?_⟩
    have g12 := g1.trans g2
    have kp : Kp U H (upd U' D (.dK vs)) Hc := ⟨fun a o ha n => by
      have q := g12.kp.st a o ha n
      have q1 := g1.kp.st a o ha n
      have ne := ne_of_none q1.1 hD
      rw [upd_ne ne]
      exact q, fun a o ha => by
      by_cases e : a = D
      · subst e
        rw [upd_same] at ha
        rw [hHc]; exact ha
      · rw [upd_ne e] at ha
        exact g2.kp.vw _ _ ha⟩
    cases m with
    | false =>
      exact out (.dic acc) M' (.ref D) _ Hc (g12.ex.trans (Ext.new hU)) kp (g2.rm.new hU) (by
        simp only [RV]
        exact ⟨D, vs, rfl, upd_same, g2.rm.none_of hU, RKs.mono (Ext.new hU) g2.rm _ _ ra⟩) hk
    | true =>
      exact out (.ref D) (up M' D (.dic acc)) (.ref D) _ Hc (g12.ex.trans (Ext.newM hU)) kp (g2.rm.newM hU ⟨vs, upd_same, RKs.mono (Ext.newM hU) g2.rm _ _ ra⟩) (by simp only [RV]) (hk D (g2.rm.none_of hU))
  | cons d rest =>
    rw [hd, ← hcL] at hC
    obtain ⟨st, hC⟩ := hC
    have hlt : i < ds.length := by
      have : (ds.drop i).length = ds.length - i := List.length_drop
      rw [hd] at this
      simp at this
      omega
    have hdi : ds[i]? = some d := by
      have := congrArg (fun l : List Pw.D => l[0]?) hd
      simpa using this
    have hrest : ds.drop (i + 1) = rest := by
      have := congrArg List.tail hd
      simpa [List.tail_drop] using this
    obtain ⟨go, yl⟩ := (jok M' U' Hc g2.ex g2.kp.vw g2.rm st i).2 d hdi
    refine .inr ⟨go, fun H' => ∃ M'' U'' acc' vs', Go X.K M1 U1 H1 M'' U'' H' ∧ U'' D = none ∧ H' D = some (.dK vs') ∧ RKs X.K M'' U'' acc' vs' ∧ cL rest acc' M'', ?_, ?_⟩
    · rintro H' ⟨M'', U'', acc', vs', q1, q2, q3, q4, q6⟩
      exact ⟨ds.length - (i + 1), by omega, rfl, hlt, M'', U'', acc', vs', q1, q2, q3, q4, by rw [hrest]; exact q6⟩
    · intro x H' hy
      obtain ⟨U2, g3, rx⟩ := yl x H' hy
      have hD2 := g3.kp.st D _ hHc hU
      have rs2 := (r.mono (g1.trans (g2.trans g3))).rs.wipe2 own
      refine ⟨wipeD δ own, M', U2, _, d, ⟨g3.kp.vw, g3.rm, rs2⟩, XOk.no, rx, hC, fun δ1 M3 σ2 U3 H3 g4 rs4 sm hT => ⟨sm.wipe hS, ?_⟩⟩
      have hD3 := g4.kp.st D _ hD2.1 hD2.2
      refine ⟨δ1, M3, U3, _, ⟨g4.kp.vw, g4.rm, rs4⟩, XOk.no, hT, fun q M4 U4 H4 g5 hb => ?_⟩
      have hD4 := g5.kp.st D _ hD3.1 hD3.2
      have g25 := g2.trans (g3.trans (g4.trans g5))
      have ra4 := RKs.mono (g3.trans (g4.trans g5)).ex g2.rm _ _ ra
      cases q with
      | false =>
        dsimp only
        rw [if_neg Bool.false_ne_true]
        exact ⟨M4, U4, acc, vs, g25, hD4.2, hD4.1, ra4, by rw [← hcL]; exact hb⟩
      | true =>
        dsimp only
        rw [if_pos rfl]
        refine ⟨δ1, M4, U4, _, ⟨g5.kp.vw, g5.rm, rs4.mono g5.ex g4.rm⟩, XOk.no, hb, fun ds2 still2 M5 U5 H5 J1 g6 hC2 hz2 jok2 => ?_⟩
        have hD5 := g6.kp.st D _ hD4.1 hD4.2
        have g26 := g25.trans g6
        have ra5 := RKs.mono g6.ex g5.rm _ _ ra4
        have rs5 := (rs4.mono g5.ex g4.rm).mono g6.ex g5.rm
        generalize hcI : compL wg1 wt1 (fun δ3 _ acc M' K' => wk δ3 M' fun y M4 => we δ3 M4 fun x M5 => match keyOf y with
      | some k => acc.length < LIM ∧ K' (setK acc k x) M5
      | none => False) still2 (wipeD δ1 own1) (fun acc' M3 => compL wg wt (fun δ1 _ acc M2 K => wi1 δ1 M2 fun ds2 still2 M3 => compL wg1 wt1 (fun δ3 _ acc M' K' => wk δ3 M' fun y M4 => we δ3 M4 fun x M5 => match keyOf y with
      | some k => acc.length < LIM ∧ K' (setK acc k x) M5
      | none => False) still2 (wipeD δ1 own1) K ds2 acc M3) still (wipeD δ own) (fun acc M2 => mkND m acc M2 R) rest acc' M3) = cI at hC2
        refine ⟨fun j n Hc => n = ds2.length - j ∧ j ≤ ds2.length ∧ ∃ M' U' acc vs, Go X.K M1 U1 H1 M' U' Hc ∧ Ext M5 U5 M' U' ∧ U' D = none ∧ Hc D = some (.dK vs) ∧ RKs X.K M' U' acc vs ∧ cI (ds2.drop j) acc M', ⟨ds2.length, by simp, Nat.zero_le _, M5, U5, acc, vs, g26, .refl, hD5.2, hD5.1, ra5, by simpa using hC2⟩, ?_⟩
        rintro j n Hc2 ⟨rfl, hj, M7, U7, acc7, vs7, g7, x7, hU7, hHc7, ra7, hC7⟩
        cases hd2 : ds2.drop j with
        | nil =>
          rw [hd2, ← hcI] at hC7
          have hj' : j = ds2.length := by
            have := List.drop_eq_nil_iff.mp hd2
            omega
          obtain ⟨st2, hk2⟩ := hC7
          exact .inl ⟨(jok2 M7 U7 Hc2 x7 g7.kp.vw g7.rm st2 j).1 hj'.symm, M7, U7, acc7, vs7, g7, hU7, hHc7, ra7, by rw [← hcL]; exact hk2⟩
        | cons d2 rest2 =>
          rw [hd2, ← hcI] at hC7
          obtain ⟨st2, hC7⟩ := hC7
          have hlt2 : j < ds2.length := by
            have : (ds2.drop j).length = ds2.length - j := List.length_drop
            rw [hd2] at this
            simp at this
            omega
          have hdj : ds2[j]? = some d2 := by
            have := congrArg (fun l : List Pw.D => l[0]?) hd2
            simpa using this
          have hrest2 : ds2.drop (j + 1) = rest2 := by
            have := congrArg List.tail hd2
            simpa [List.tail_drop] using this
          obtain ⟨go2, yl2⟩ := (jok2 M7 U7 Hc2 x7 g7.kp.vw g7.rm st2 j).2 d2 hdj
          refine .inr ⟨go2, fun H' => ∃ M'' U'' acc' vs', Go X.K M1 U1 H1 M'' U'' H' ∧ Ext M5 U5 M'' U'' ∧ U'' D = none ∧ H' D = some (.dK vs') ∧ RKs X.K M'' U'' acc' vs' ∧ cI rest2 acc' M'', ?_, ?_⟩
          · rintro H' ⟨M'', U'', acc', vs', q1, q2, q3, q4, q5, q6⟩
            exact ⟨ds2.length - (j + 1), by omega, rfl, hlt2, M'', U'', acc', vs', q1, q2, q3, q4, q5, by rw [hrest2]; exact q6⟩
          · intro x2 H2 hy2
            obtain ⟨U8, g8, rx2⟩ := yl2 x2 H2 hy2
            have hD8 := g8.kp.st D _ hHc7 hU7
            have rs8 := ((rs5.mono x7 g6.rm).mono g8.ex g7.rm).wipe2 own1
            refine ⟨wipeD δ1 own1, M7, U8, _, d2, ⟨g8.kp.vw, g8.rm, rs8⟩, XOk.no, rx2, hC7, fun δ3 M9 σ3 U9 H9 g9 rs9 sm9 hT9 => ⟨sm9.wipe hS1, ?_⟩⟩
            have hD9 := g9.kp.st D _ hD8.1 hD8.2
            refine ⟨δ3, M9, U9, _, ⟨g9.kp.vw, g9.rm, rs9⟩, XOk.no, hT9, fun q M10 U10 H10 g10 hb10 => ?_⟩
            have hD10 := g10.kp.st D _ hD9.1 hD9.2
            have g810 := g8.trans (g9.trans g10)
            have ra10 := RKs.mono g810.ex g7.rm _ _ ra7
            cases q with
            | false =>
              dsimp only
              rw [if_neg Bool.false_ne_true]
              exact ⟨M10, U10, acc7, vs7, g7.trans g810, x7.trans g810.ex, hD10.2, hD10.1, ra10, by rw [← hcI]; exact hb10⟩
            | true =>
              dsimp only
              rw [if_pos rfl]
              refine ⟨δ3, M10, U10, _, ⟨g10.kp.vw, g10.rm, rs9.mono g10.ex g9.rm⟩, XOk.no, hb10, fun dk Mk vk Uk Hk ek kk rmk rvk hRk => ?_⟩
              have gk : Go X.K M10 U10 H10 Mk Uk Hk := ⟨ek, kk, rmk⟩
              refine ⟨δ3, Mk, Uk, _, ⟨kk.vw, rmk, (rs9.mono g10.ex g9.rm).mono ek g10.rm⟩, XOk.no, hRk, fun d11 M11 v11 U11 H11 e11 k11 rm11 rv11 hR11 => ?_⟩
              split at hR11
              · rename_i key hkey
                have hDk := kk.st D _ hD10.1 hD10.2
                have hD11 := k11.st D _ hDk.1 hDk.2
                have g11 := ((g7.trans g810).trans gk).trans ⟨e11, k11, rm11⟩
                have ra11 := RKs.mono e11 rmk _ _ (RKs.mono ek g10.rm _ _ ra10)
                refine ⟨vs7, key, keyOf_kV hkey rvk, hD11.1, by rw [ra7.length, lineLIM]; exact hR11.1, M11, U11, setK acc7 key d11, putK vs7 key v11, ⟨g11.ex, ⟨fun a o ha n => ?_, fun a o ha => ?_⟩, rm11⟩, ((x7.trans g810.ex).trans ek).trans e11, hD11.2, upd_same, ra11.put rv11, by rw [← hcI]; exact hR11.2⟩
                · rw [upd_ne (ne_of_none ha hD)]
                  exact g11.kp.st a o ha n
                · rw [upd_ne (ne_of_none ha hD11.2)]
                  exact k11.vw _ _ ha
              · exact hR11.elim
section
variable {ρ : Rho} {S own : List Nat} {wi : St → Mp → (List D → (Mp → Prop) → Mp → Prop) → Prop} {wg : D → St → Mp → (St → Mp → Prop) → Prop} {wt : St → Mp → (Bool → Mp → Prop) → Prop} {wk we : St → Mp → DK → Prop} {m : Bool} {kx vx tg iter : Expr} {ifs : List Expr} {sc : Scope}
theorem r_dc1 (g : GX X G C Γ k W) (hok : blkC C.N C.sc sc (ownOf C.N own) = true) (hS : ∀ i ∈ S, i ∈ own) (hs : noSet iter = true) (hi : PI X tg iter (LI ρ X xk W wi))
    (hg : ∀ (s : Shared) (H : Hp) (Ca : Addr) (cl : List (Str × Addr)) (fp : List Addr), PG (X.blk s H sc (compEnvC sc cl Ca X.env) fp) tg (LG ρ X never W0 S wg)) (ht : ∀ (s : Shared) (H : Hp) (Ca : Addr) (cl : List (Str × Addr)) (fp : List Addr), PTs (X.blk s H sc (compEnvC sc cl Ca X.env) fp) ifs (LT X never W0 wt))
    (hk : ∀ (s : Shared) (H : Hp) (Ca : Addr) (cl : List (Str × Addr)) (fp : List Addr), PE (X.blk s H sc (compEnvC sc cl Ca X.env) fp) kx (LE X never W0 wk))
    (he : ∀ (s : Shared) (H : Hp) (Ca : Addr) (cl : List (Str × Addr)) (fp : List Addr), PE (X.blk s H sc (compEnvC sc cl Ca X.env) fp) vx (LE X never W0 we)) :
    PE X (.DictComp kx vx [⟨tg, iter, ifs, 0⟩] sc pos) (LE X xk W fun δ M Q => wi δ M fun ds still M1 => compL wg wt (fun δ1 _ acc M' K => wk δ1 M' fun y M2 => we δ1 M2 fun x M3 => match keyOf y with
      | some k => acc.length < LIM ∧ K (setK acc k x) M3
      | none => False) still (wipeD δ own) (fun acc M2 => mkND m acc M2 Q) ds [] M1) := by
  rw [← g.N, ← g.sc] at hok
  refine pe_imp (pe_dc g.calm g.nd hi (blkOk_by hok) hg ht hk he (set_fold hs)) fun σ H Q h => ?_
  rw [ownOf_map]
  exact dc_read hS h
end
section
variable {ρ ρ1 : Rho} {S S1 own own1 : List Nat} {wi wi1 : St → Mp → (List D → (Mp → Prop) → Mp → Prop) → Prop} {wg wg1 : D → St → Mp → (St → Mp → Prop) → Prop} {wt wt1 : St → Mp → (Bool → Mp → Prop) → Prop} {wk we : St → Mp → DK → Prop} {m : Bool} {kx vx tg iter tg1 iter1 : Expr} {ifs ifs1 : List Expr} {sc : Scope}
theorem r_dc2 (g : GX X G C Γ k W) (hok : blkC C.N C.sc sc (ownOf C.N own) = true) (hS : ∀ i ∈ S, i ∈ own) (hS1 : ∀ i ∈ S1, i ∈ own1) (ho : ∀ i ∈ own1, i ∈ own) (hs : noSet iter = true) (hs1 : noSet iter1 = true) (hi : PI X tg iter (LI ρ X xk W wi))
    (hg : ∀ (s : Shared) (H : Hp) (Ca : Addr) (cl : List (Str × Addr)) (fp : List Addr), PG (X.blk s H sc (compEnvC sc cl Ca X.env) fp) tg (LG ρ X never W0 S wg)) (ht : ∀ (s : Shared) (H : Hp) (Ca : Addr) (cl : List (Str × Addr)) (fp : List Addr), PTs (X.blk s H sc (compEnvC sc cl Ca X.env) fp) ifs (LT X never W0 wt))
    (hi1 : ∀ (s : Shared) (H : Hp) (Ca : Addr) (cl : List (Str × Addr)) (fp : List Addr), PI (X.blk s H sc (compEnvC sc cl Ca X.env) fp) tg1 iter1 (LI ρ1 X never W0 wi1))
    (hg1 : ∀ (s : Shared) (H : Hp) (Ca : Addr) (cl : List (Str × Addr)) (fp : List Addr), PG (X.blk s H sc (compEnvC sc cl Ca X.env) fp) tg1 (LG ρ1 X never W0 S1 wg1)) (ht1 : ∀ (s : Shared) (H : Hp) (Ca : Addr) (cl : List (Str × Addr)) (fp : List Addr), PTs (X.blk s H sc (compEnvC sc cl Ca X.env) fp) ifs1 (LT X never W0 wt1))
    (hk : ∀ (s : Shared) (H : Hp) (Ca : Addr) (cl : List (Str × Addr)) (fp : List Addr), PE (X.blk s H sc (compEnvC sc cl Ca X.env) fp) kx (LE X never W0 wk))
    (he : ∀ (s : Shared) (H : Hp) (Ca : Addr) (cl : List (Str × Addr)) (fp : List Addr), PE (X.blk s H sc (compEnvC sc cl Ca X.env) fp) vx (LE X never W0 we)) :
    PE X (.DictComp kx vx [⟨tg, iter, ifs, 0⟩, ⟨tg1, iter1, ifs1, 0⟩] sc pos) (LE X xk W fun δ M Q => wi δ M fun ds still M1 => compL wg wt (fun δ1 _ acc M2 K => wi1 δ1 M2 fun ds2 still2 M3 => compL wg1 wt1 (fun δ3 _ acc M' K' => wk δ3 M' fun y M4 => we δ3 M4 fun x M5 => match keyOf y with
      | some k => acc.length < LIM ∧ K' (setK acc k x) M5
      | none => False) still2 (wipeD δ1 own1) K ds2 acc M3) still (wipeD δ own) (fun acc M2 => mkND m acc M2 Q) ds [] M1) := by
  rw [← g.N, ← g.sc] at hok
  refine pe_imp (pe_dc2 (vs1 := own1) g.calm g.nd hi (blkOk_by hok) (by rw [ownOf_map]; exact ho) hg ht hi1 hg1 ht1 hk he (set_fold hs) (set_foldE hs1)) fun σ H Q h => ?_
  rw [ownOf_map]
  exact dc2_read hS hS1 h
end
section
theorem s_setLc2 {ρ ρ1 : Rho} {T T1 own own1 : List Nat} {wi wi1 : St → Mp → (List D → (Mp → Prop) → Mp → Prop) → Prop} {wh wh1 : D → St → Mp → (St → Mp → Prop) → Prop} {wt wt1 : St → Mp → (Bool → Mp → Prop) → Prop} {we : St → Mp → DK → Prop} {m : Bool} {elt ctg iter ctg1 iter1 : Expr} {ifs ifs1 : List Expr} {sc : Scope} {i : Nat} {y : Str} {py lpos : Pos}
    (g : GS X G C Γ k W) (hok : blkC C.N C.sc sc (ownOf C.N own) = true) (hS : ∀ i ∈ T, i ∈ own) (hS1 : ∀ i ∈ T1, i ∈ own1) (ho : ∀ i ∈ own1, i ∈ own) (hs : noSet iter = true) (hs1 : noSet iter1 = true) (hy : C.N[i]? = some y) (hb : swB C.sc (.Name y py) (.ListComp elt [⟨ctg, iter, ifs, 0⟩, ⟨ctg1, iter1, ifs1, 0⟩] sc lpos) = true) (hi : PI X ctg iter (LI ρ X xk W wi))
    (hg : ∀ (s : Shared) (H : Hp) (Ca : Addr) (cl : List (Str × Addr)) (fp : List Addr), PG (X.blk s H sc (compEnvC sc cl Ca X.env) fp) ctg (LG ρ X never W0 T wh)) (ht : ∀ (s : Shared) (H : Hp) (Ca : Addr) (cl : List (Str × Addr)) (fp : List Addr), PTs (X.blk s H sc (compEnvC sc cl Ca X.env) fp) ifs (LT X never W0 wt))
    (hi1 : ∀ (s : Shared) (H : Hp) (Ca : Addr) (cl : List (Str × Addr)) (fp : List Addr), PI (X.blk s H sc (compEnvC sc cl Ca X.env) fp) ctg1 iter1 (LI ρ1 X never W0 wi1))
    (hg1 : ∀ (s : Shared) (H : Hp) (Ca : Addr) (cl : List (Str × Addr)) (fp : List Addr), PG (X.blk s H sc (compEnvC sc cl Ca X.env) fp) ctg1 (LG ρ1 X never W0 T1 wh1)) (ht1 : ∀ (s : Shared) (H : Hp) (Ca : Addr) (cl : List (Str × Addr)) (fp : List Addr), PTs (X.blk s H sc (compEnvC sc cl Ca X.env) fp) ifs1 (LT X never W0 wt1))
    (he : ∀ (s : Shared) (H : Hp) (Ca : Addr) (cl : List (Str × Addr)) (fp : List Addr), PE (X.blk s H sc (compEnvC sc cl Ca X.env) fp) elt (LE X never W0 we)) :
    PS X (.Assign [.Name y py] (.ListComp elt [⟨ctg, iter, ifs, 0⟩, ⟨ctg1, iter1, ifs1, 0⟩] sc lpos) pos) (LS X xk W fun E δ M => wi δ M fun ds still M1 => compL wh wt (fun δ1 _ acc M2 K => wi1 δ1 M2 fun ds2 still2 M3 => compL wh1 wt1 (fun δ3 _ acc M' K' => we δ3 M' fun x M'' => acc.length < LIM ∧ K' (acc ++ [x]) M'') still2 (wipeD δ1 own1) K ds2 acc M3) still (wipeD δ own) (fun acc M2 => mkN m acc M2 fun x M3 => E.nx (δ.set i (some x)) M3) ds [] M1) := by
  have hsw := sw_of (tg := .Name y py) (e := .ListComp elt [⟨ctg, iter, ifs, 0⟩, ⟨ctg1, iter1, ifs1, 0⟩] sc lpos) (l := pos.line) g.kd rfl
  rw [g.sc, hb] at hsw
  have hl : X.env.scope.names.lookup y = some .local := by
    have : isLoc C.sc y = true := by
      unfold swB at hb
      simp only [Bool.and_eq_true] at hb
      exact hb.1.1
    rw [g.sc]
    unfold isLoc at this
    split at this
    · assumption
    · cases this
  rw [← g.N, ← g.sc] at hok
  refine ps_imp (ps_setLc2 (vs1 := own1) g.calm g.nd (by rw [g.N]; exact hy) hl hsw hi (blkOk_by hok) (by rw [ownOf_map]; exact ho) hg ht hi1 hg1 ht1 he (set_fold hs) (set_foldE hs1)) fun D σ H h => ?_
  rw [ownOf_map]
  obtain ⟨δ, M, U, E, r, xo, h, out⟩ := h
  refine lc2_read (m := m) hS hS1 ⟨δ, M, U, fun x M3 => E.nx (δ.set i (some x)) M3, r, xo, h, fun d M1 v U1 H1 e k rm rv hR => ?_⟩
  have g1 := Go.mk e k rm
  exact out.nx _ M1 _ U1 H1 g1 ((r.mono g1).rs.set i rv) hR
theorem s_setDc1 {ρ : Rho} {T own : List Nat} {wi : St → Mp → (List D → (Mp → Prop) → Mp → Prop) → Prop} {wh : D → St → Mp → (St → Mp → Prop) → Prop} {wt : St → Mp → (Bool → Mp → Prop) → Prop} {wk we : St → Mp → DK → Prop} {m : Bool} {kx vx ctg iter : Expr} {ifs : List Expr} {sc : Scope} {i : Nat} {y : Str} {py lpos : Pos}
    (g : GS X G C Γ k W) (hok : blkC C.N C.sc sc (ownOf C.N own) = true) (hS : ∀ i ∈ T, i ∈ own) (hs : noSet iter = true) (hy : C.N[i]? = some y) (hb : swB C.sc (.Name y py) (.DictComp kx vx [⟨ctg, iter, ifs, 0⟩] sc lpos) = true) (hi : PI X ctg iter (LI ρ X xk W wi))
    (hg : ∀ (s : Shared) (H : Hp) (Ca : Addr) (cl : List (Str × Addr)) (fp : List Addr), PG (X.blk s H sc (compEnvC sc cl Ca X.env) fp) ctg (LG ρ X never W0 T wh)) (ht : ∀ (s : Shared) (H : Hp) (Ca : Addr) (cl : List (Str × Addr)) (fp : List Addr), PTs (X.blk s H sc (compEnvC sc cl Ca X.env) fp) ifs (LT X never W0 wt))
    (hk : ∀ (s : Shared) (H : Hp) (Ca : Addr) (cl : List (Str × Addr)) (fp : List Addr), PE (X.blk s H sc (compEnvC sc cl Ca X.env) fp) kx (LE X never W0 wk))
    (he : ∀ (s : Shared) (H : Hp) (Ca : Addr) (cl : List (Str × Addr)) (fp : List Addr), PE (X.blk s H sc (compEnvC sc cl Ca X.env) fp) vx (LE X never W0 we)) :
    PS X (.Assign [.Name y py] (.DictComp kx vx [⟨ctg, iter, ifs, 0⟩] sc lpos) pos) (LS X xk W fun E δ M => wi δ M fun ds still M1 => compL wh wt (fun δ1 _ acc M' K => wk δ1 M' fun y M2 => we δ1 M2 fun x M3 => match keyOf y with
      | some k => acc.length < LIM ∧ K (setK acc k x) M3
      | none => False) still (wipeD δ own) (fun acc M2 => mkND m acc M2 fun x M3 => E.nx (δ.set i (some x)) M3) ds [] M1) := by
  have hsw := sw_of (tg := .Name y py) (e := .DictComp kx vx [⟨ctg, iter, ifs, 0⟩] sc lpos) (l := pos.line) g.kd rfl
  rw [g.sc, hb] at hsw
  have hl : X.env.scope.names.lookup y = some .local := by
    have : isLoc C.sc y = true := by
      unfold swB at hb
      simp only [Bool.and_eq_true] at hb
      exact hb.1.1
    rw [g.sc]
    unfold isLoc at this
    split at this
    · assumption
    · cases this
  rw [← g.N, ← g.sc] at hok
  refine ps_imp (ps_setDc g.calm g.nd (by rw [g.N]; exact hy) hl hsw hi (blkOk_by hok) hg ht hk he (set_fold hs)) fun D σ H h => ?_
  rw [ownOf_map]
  obtain ⟨δ, M, U, E, r, xo, h, out⟩ := h
  refine dc_read (m := m) hS ⟨δ, M, U, fun x M3 => E.nx (δ.set i (some x)) M3, r, xo, h, fun d M1 v U1 H1 e k rm rv hR => ?_⟩
  have g1 := Go.mk e k rm
  exact out.nx _ M1 _ U1 H1 g1 ((r.mono g1).rs.set i rv) hR
theorem s_setDc2 {ρ ρ1 : Rho} {T T1 own own1 : List Nat} {wi wi1 : St → Mp → (List D → (Mp → Prop) → Mp → Prop) → Prop} {wh wh1 : D → St → Mp → (St → Mp → Prop) → Prop} {wt wt1 : St → Mp → (Bool → Mp → Prop) → Prop} {wk we : St → Mp → DK → Prop} {m : Bool} {kx vx ctg iter ctg1 iter1 : Expr} {ifs ifs1 : List Expr} {sc : Scope} {i : Nat} {y : Str} {py lpos : Pos}
    (g : GS X G C Γ k W) (hok : blkC C.N C.sc sc (ownOf C.N own) = true) (hS : ∀ i ∈ T, i ∈ own) (hS1 : ∀ i ∈ T1, i ∈ own1) (ho : ∀ i ∈ own1, i ∈ own) (hs : noSet iter = true) (hs1 : noSet iter1 = true) (hy : C.N[i]? = some y) (hb : swB C.sc (.Name y py) (.DictComp kx vx [⟨ctg, iter, ifs, 0⟩, ⟨ctg1, iter1, ifs1, 0⟩] sc lpos) = true) (hi : PI X ctg iter (LI ρ X xk W wi))
    (hg : ∀ (s : Shared) (H : Hp) (Ca : Addr) (cl : List (Str × Addr)) (fp : List Addr), PG (X.blk s H sc (compEnvC sc cl Ca X.env) fp) ctg (LG ρ X never W0 T wh)) (ht : ∀ (s : Shared) (H : Hp) (Ca : Addr) (cl : List (Str × Addr)) (fp : List Addr), PTs (X.blk s H sc (compEnvC sc cl Ca X.env) fp) ifs (LT X never W0 wt))
    (hi1 : ∀ (s : Shared) (H : Hp) (Ca : Addr) (cl : List (Str × Addr)) (fp : List Addr), PI (X.blk s H sc (compEnvC sc cl Ca X.env) fp) ctg1 iter1 (LI ρ1 X never W0 wi1))
    (hg1 : ∀ (s : Shared) (H : Hp) (Ca : Addr) (cl : List (Str × Addr)) (fp : List Addr), PG (X.blk s H sc (compEnvC sc cl Ca X.env) fp) ctg1 (LG ρ1 X never W0 T1 wh1)) (ht1 : ∀ (s : Shared) (H : Hp) (Ca : Addr) (cl : List (Str × Addr)) (fp : List Addr), PTs (X.blk s H sc (compEnvC sc cl Ca X.env) fp) ifs1 (LT X never W0 wt1))
    (hk : ∀ (s : Shared) (H : Hp) (Ca : Addr) (cl : List (Str × Addr)) (fp : List Addr), PE (X.blk s H sc (compEnvC sc cl Ca X.env) fp) kx (LE X never W0 wk))
    (he : ∀ (s : Shared) (H : Hp) (Ca : Addr) (cl : List (Str × Addr)) (fp : List Addr), PE (X.blk s H sc (compEnvC sc cl Ca X.env) fp) vx (LE X never W0 we)) :
    PS X (.Assign [.Name y py] (.DictComp kx vx [⟨ctg, iter, ifs, 0⟩, ⟨ctg1, iter1, ifs1, 0⟩] sc lpos) pos) (LS X xk W fun E δ M => wi δ M fun ds still M1 => compL wh wt (fun δ1 _ acc M2 K => wi1 δ1 M2 fun ds2 still2 M3 => compL wh1 wt1 (fun δ3 _ acc M' K' => wk δ3 M' fun y M4 => we δ3 M4 fun x M5 => match keyOf y with
      | some k => acc.length < LIM ∧ K' (setK acc k x) M5
      | none => False) still2 (wipeD δ1 own1) K ds2 acc M3) still (wipeD δ own) (fun acc M2 => mkND m acc M2 fun x M3 => E.nx (δ.set i (some x)) M3) ds [] M1) := by
  have hsw := sw_of (tg := .Name y py) (e := .DictComp kx vx [⟨ctg, iter, ifs, 0⟩, ⟨ctg1, iter1, ifs1, 0⟩] sc lpos) (l := pos.line) g.kd rfl
  rw [g.sc, hb] at hsw
  have hl : X.env.scope.names.lookup y = some .local := by
    have : isLoc C.sc y = true := by
      unfold swB at hb
      simp only [Bool.and_eq_true] at hb
      exact hb.1.1
    rw [g.sc]
    unfold isLoc at this
    split at this
    · assumption
    · cases this
  rw [← g.N, ← g.sc] at hok
  refine ps_imp (ps_setDc2 (vs1 := own1) g.calm g.nd (by rw [g.N]; exact hy) hl hsw hi (blkOk_by hok) (by rw [ownOf_map]; exact ho) hg ht hi1 hg1 ht1 hk he (set_fold hs) (set_foldE hs1)) fun D σ H h => ?_
  rw [ownOf_map]
  obtain ⟨δ, M, U, E, r, xo, h, out⟩ := h
  refine dc2_read (m := m) hS hS1 ⟨δ, M, U, fun x M3 => E.nx (δ.set i (some x)) M3, r, xo, h, fun d M1 v U1 H1 e k rm rv hR => ?_⟩
  have g1 := Go.mk e k rm
  exact out.nx _ M1 _ U1 H1 g1 ((r.mono g1).rs.set i rv) hR
end
end
end Pw
set_option Elab.async false
set_option linter.all false
set_option maxRecDepth 100000
set_option maxHeartbeats 2000000
namespace Pw
open PySem PySem.Spec PyProof.Rows L2

/-! ### exceptions that are kept -/
section
variable {X : Cx} {pins : List (Addr × Obj)} {σ : L2.St} {H : Hp} {sI s' : Shared} {B : Heap} {a : Addr} {oe : Obj} {vs : Array Value} {cls : Value}
theorem excHv_ok {P : Program} {w : World} {h : Heap} (e : h.get? a = some oe) (z : Zc cls none oe) (d : oe.data = .fields vs) : ObjOk P w H h a (ExcHv cls a) :=
  ⟨⟨oe, vs, e, z, d⟩, ⟨oe, e⟩, fun _ _ ⟨o, v, q, r⟩ k => ⟨o, v, k o q, r⟩⟩
/-- the exception has landed, and is known from here on -/
theorem inv_caught (I : L2.Inv X pins σ H sI) (nb : ∀ b o, sI.heap.get? b = some o → b ∉ frs X.stack → B.get? b = some o) (hst : B.StaysIn s'.heap) (hup : sI.heap.UpToSlots s'.heap) (hos : s'.os = sI.os) (hag : AllBare s'.gens)
    (hB : B.get? a = none) (ha : a ∉ frs X.stack) (na : H a = none) (he : s'.heap.get? a = some oe) (hz : Zc cls none oe) (hd : oe.data = .fields vs) : L2.Inv X pins σ (upd H a (ExcHv cls a)) s' := by
  have onFrame : ∀ b ∈ frs X.stack, ∀ o, sI.heap.get? b = some o → ∃ sl, s'.heap.get? b = some { o with slots := sl } := fun b hb o e => by
    obtain ⟨_, o', e', hnf⟩ := I.stack.mem hb
    rw [e] at e'; cases e'
    exact hup b o e hnf
  have nea : ∀ b o, sI.heap.get? b = some o → b ≠ a := fun b o e z => by
    subst z
    have := nb _ o e ha
    rw [hB] at this; cases this
  have J := I.call (ch := []) (h' := s'.heap) (g' := s'.gens) (t' := s'.toks) (d' := s'.drawn) (H' := upd H a (ExcHv cls a))
    ⟨fun b o e _ hb _ => hst b o (nb b o e hb), fun b o e _ hb _ => onFrame b hb o e, fun b o e n _ => by rw [upd_ne (nea b o e)]; exact n, fun b o e _ => by
      by_cases hb : b ∈ frs X.stack
      · obtain ⟨sl, q⟩ := onFrame b hb o e
        exact ⟨_, q⟩
      · exact ⟨o, hst b o (nb b o e hb)⟩, fun b xs e => by rw [upd_ne (ne_of_none e na)]; exact e, fun b o u e => by rw [upd_ne (ne_of_none e na)]; exact e, fun b ps e => ⟨#[], by rw [upd_ne (ne_of_none e na), e]; simp⟩⟩
    (((I.inGround nb).kept hst).laidN (fun _ _ h => h) na (excHv_ok he hz hd)) hag (fun _ z => nomatch z)
  obtain ⟨h1, h2, h3, h4, h5⟩ := s'
  have e5 : h5 = sI.os := hos
  subst e5
  exact J
theorem inv_suite (I : L2.Inv X pins σ H sI) (a : Addr) : L2.Inv (X.suite a (X.pn ++ pins)) [] σ H sI :=
  ⟨I.ok.suite _ _, I.os, I.bare, I.base, I.loc, I.cell, I.free, I.freeC, fun p hp => I.pin p (by rw [List.append_nil] at hp; exact hp), I.hok, I.len⟩
theorem inv_unsuite {pn' : List (Addr × Obj)} (I : L2.Inv (X.suite a (X.pn ++ pins)) pn' σ H sI) (ok : X.Ok) : L2.Inv X pins σ H sI :=
  ⟨ok, I.os, I.bare, I.base, I.loc, I.cell, I.free, I.freeC, fun p hp => I.pin p (List.mem_append_left _ hp), I.hok, I.len⟩
end
/-- what the clause 'except c as n: y = n' wishes; every exception that may come is one of c -/
def wKeep (K : PySem.W.Frag) (c : Value) (i j : Nat) (D : Ends) : WX := fun cls d σ H => d = none ∧ PySem.W.exmOne K cls c = some true ∧ ∀ a, H a = none → D.nx ((σ.set j (some (.ref a))).set i none) (upd H a (ExcHv cls a))
section
variable {X : Cx} {x n y : Str} {c : Value} {i j : Nat} {body : List Stmt} {np yp zp ap hp pos : Pos} {tb : WX → TS}
theorem ps_tryKeep (hs : X.stack = X.env :: X.outer) (hf : X.env.frame = some X.env.locals) (hN : X.N.Nodup) (hi : X.N[i]? = some n) (hln : X.env.kindOf n = some .local) (hd1 : (n == ("__debug__" : Str)) = false) (hd2 : (n == ("__classdict__" : Str)) = false) (hj : X.N[j]? = some y) (hly : X.env.kindOf y = some .local) (hc : Names X x c)
    (hb : ∀ (W : WX) (pn : List (Addr × Obj)) (xe : Value → Shared → Prop), Takes (X.tr pn xe) W → PassesOwn (model X.prog X.w) X.A X.env xe → PSs (X.tr pn xe) body (tb W)) :
    PS X (.Try body [.ExceptHandler (some (.Name x np)) (some n) [.Assign [.Name y yp] (.Name n zp) ap] hp] [] [] pos) (fun D σ H => tb (wKeep X.K c i j D) D σ H) := by
  refine ⟨fun pins s σ H D I h => ?_⟩
  have ok := I.ok
  have hframes : X.A.frames = some (X.env :: X.outer) := by rw [ok.frames, hs]
  have hloc : Loc X.env.scope n := .inl hln
  refine wpAny_Try_except ?_
  refine wpAny_mono ((hb (wKeep X.K c i j D) (X.pn ++ pins) (fun e s₁ => wpAny (model X.prog X.w) X.A (noteFrame e X.env) (fun _ s₂ => wpAny (model X.prog X.w) X.A (setFlight e none) (fun _ s₃ =>
    wpAny (model X.prog X.w) X.A (handleBy e X.env [.ExceptHandler (some (.Name x np)) (some n) [.Assign [.Name y yp] (.Name n zp) ap] hp]) (SP X pins D) X.xe s₃) X.xe s₂) X.xe s₁) (fun u s' air => ?_) PassesOwn.looking).run [] s σ H D (I.toTry _) h) (fun f s1 hsp => ?_) (fun e s1 he => he)
  · obtain ⟨a, B, sI, pins', σ', H', cls, d, rfl, J', nb, up, sky, na, os, ag, dn, hb1, hyes⟩ := air
    subst dn
    have J : L2.Inv X pins σ' H' sI := J'.ofTry ok
    have skyX : Sky B (X.env :: X.outer) a (Zc cls none) X.env.locals s'.heap := by rw [← hs]; exact sky
    show wpAny (model X.prog X.w) X.A (noteFrame (.ref a) X.env) _ _ _
    refine Sky.land Zc.steady hframes hf skyX fun h3 fl3 up3 => ?_
    have J3 : L2.Inv X pins σ' H' { s' with heap := h3 } := J.landed nb fl3.1 (up.trans up3) os ag
    obtain ⟨oe3, vs3, he3, hz3, hd3⟩ := fl3.there
    have nfr : a ∉ frs (X.env :: X.outer) := fun hm => by
      obtain ⟨_, o', e', hnf⟩ := fl3.2.2.1.mem hm
      rw [he3] at e'; cases e'
      exact hnf _ hd3
    have S3 := inv_suite J3 a
    refine wpAny_handleBy_cons (codeAny_handlers_test ?_) (by intro q; cases q)
    have looksT : PySem.W.Looks (model X.prog X.w) h3 (typeOf (.ref a)) cls := fun A Q E s k q => wpAny_typeOf_ref (k _ _ he3) (by rw [hz3.1]; exact q)
    have looksM := PySem.W.exm_one (M := model X.prog X.w) (J3.kIn) looksT hb1
    have named : ∀ {Q : Value → Shared → Prop} {E : Value → Shared → Prop}, Q c { s' with heap := h3 } → wpAny (model X.prog X.w) (X.A.mark (some (.ref a))) (eval (.Name x np) X.env) Q E { s' with heap := h3 } := fun {Q E} q => by
      obtain ⟨hg, hdbg, hm | ⟨hm, hv, hnn⟩⟩ := hc
      · exact ld_glob (X := X.suite a (X.pn ++ pins)) S3 hg hm q hdbg
      · exact ld_blt (X := X.suite a (X.pn ++ pins)) S3 hg hm hv q hnn hdbg
    refine named (looksM.here ?_)
    refine codeAny_handlers_suite_as ?_
    refine HandSPX.lands_againZ fl3 fun h4 fl4 up4 => ?_
    obtain ⟨oe4, vs4, he4, hz4, hd4⟩ := fl4.there
    have J4 : L2.Inv X pins σ' (upd H' a (ExcHv cls a)) { s' with heap := h4 } := inv_caught J nb fl4.1 ((up.trans up3).trans up4) os ag fl4.2.1 (by rw [hs]; exact nfr) na he4 hz4 hd4
    have S4 := inv_suite J4 a
    refine store_ok (X := X.suite a (X.pn ++ pins)) (v := .ref a) S4 hN hi hloc rfl (fun s5 S5 => ?_) (.inr hln)
    have hlen : i < σ'.length := by
      have e1 := S4.len
      have e2 := (List.getElem?_eq_some_iff.mp hi).1
      have e3 : σ'.length = X.N.length := e1
      omega
    have suiteP : PSs (X.suite a (X.pn ++ pins)) [.Assign [.Name y yp] (.Name n zp) ap] (tAsg (tVar i) (gName j)) :=
      pss_one (ps_asg (pe_var (i := i) hi (.inl hln) hd1 hd2) (pg_name hN hj (.inl hly) (.inr hly)) rfl rfl rfl)
    refine wpAny_mono (suiteP.run [] s5 _ _ { nx := fun σ6 H6 => D.nx (σ6.set i none) H6, rt := D.rt, bk := fun σ6 H6 => D.bk (σ6.set i none) H6, ct := fun σ6 H6 => D.ct (σ6.set i none) H6 } S5 ?_) (fun f s6 hsp => ?_) (fun _ _ z => False.elim z)
    · refine ⟨.ref a, List.getElem?_set_self hlen, ?_⟩
      have e := hyes a na
      show D.nx (((σ'.set i (some (V.ref a))).set j (some (V.ref a))).set i none) (upd H' a (ExcHv cls a))
      have e2 : ((σ'.set i (some (V.ref a))).set j (some (V.ref a))).set i none = (σ'.set j (some (V.ref a))).set i none := by
        by_cases hij : j = i
        · subst hij; simp [List.set_set]
        · rw [List.set_comm _ _ (Ne.symm hij), List.set_set]
      rw [e2]
      exact e
    have goneE : ∀ {σ6 : L2.St} {H6 : Hp} {Q : Shared → Prop}, L2.Inv (X.suite a (X.pn ++ pins)) [] σ6 H6 s6 → (∀ s7, L2.Inv X pins (σ6.set i none) H6 s7 → Q s7) →
        wpAny (model X.prog X.w) X.A (do bindName X.env n .none; unbindBehindTheSuite X.env n hp) (fun _ s7 => Q s7) X.xe s6 := fun {σ6 H6 Q} S6 hq => gone_ok (inv_unsuite S6 ok) hN hi hln hq
    cases f with
    | next =>
      obtain ⟨σ6, H6, S6, q6⟩ := hsp
      exact goneE S6 fun s7 J7 => ⟨_, _, J7, q6⟩
    | brk =>
      obtain ⟨σ6, H6, S6, q6⟩ := hsp
      exact goneE S6 fun s7 J7 => ⟨_, _, J7, q6⟩
    | cont =>
      obtain ⟨σ6, H6, S6, q6⟩ := hsp
      exact goneE S6 fun s7 J7 => ⟨_, _, J7, q6⟩
    | ret u =>
      obtain ⟨v6, σ6, H6, S6, r6, q6⟩ := hsp
      exact goneE S6 fun s7 J7 => ⟨_, _, _, J7, r6, q6⟩
  · cases f with
    | next =>
      obtain ⟨σ', H', J', q⟩ := hsp
      exact wpAny_execs_nil ⟨σ', H', J'.ofTry ok, q⟩
    | brk =>
      obtain ⟨σ', H', J', q⟩ := hsp
      exact ⟨σ', H', J'.ofTry ok, q⟩
    | cont =>
      obtain ⟨σ', H', J', q⟩ := hsp
      exact ⟨σ', H', J'.ofTry ok, q⟩
    | ret u =>
      obtain ⟨v, σ', H', J', r, q⟩ := hsp
      exact ⟨v, σ', H', J'.ofTry ok, r, q⟩
end
/-! ### by terms -/
section
variable {X : Cx} {xk : XD} {W : WX} {G : Gc} {C : Ct} {Γ : String → SpD} {k : Nat} {a : Expr} {wa : St → Mp → DK → Prop} {pos : Pos}
theorem isx_facts (g : GX X G C Γ k W) (hne : G.clss.isEmpty = false) {c : Str} (hc : c ∈ G.excs) : ExcC X.K (He.ga X.K c) ∧ ∀ t ∈ ("ValueError" : Str) :: G.clss, PySem.W.kitOne X.K (.ref (He.ga X.K c)) (clsV X.K t) = some (excIs c t) ∧ (t ≠ ("ValueError" : Str) → PySem.W.exmOne X.K (.ref (He.ga X.K c)) (clsV X.K t) = some (excIs c t)) := by
  have h := g.xis
  unfold isxB at h
  rw [hne, Bool.false_or] at h
  have h1 := List.all_eq_true.mp h c hc
  simp only [Bool.and_eq_true] at h1
  obtain ⟨h2, h3⟩ := h1
  refine ⟨?_, fun t ht => ?_⟩
  · unfold excCB at h2
    simp only [Bool.and_eq_true, decide_eq_true_eq] at h2
    obtain ⟨q1, q2, q3, q4, q5, q6, q7, q8⟩ := h2
    exact ⟨q1, q2, q3, q4, q5, q6, q7, q8⟩
  · have h4 := List.all_eq_true.mp h3 t ht
    simp only [Bool.and_eq_true, Bool.or_eq_true, decide_eq_true_eq] at h4
    exact ⟨h4.1, fun n => h4.2.resolve_left n⟩
def clsVv (K : PySem.W.Frag) (t : Str) : V := if t = ("ValueError" : Str) then .ty "ValueError" else .ref (He.ga K t)
theorem cls_clsV {K : PySem.W.Frag} {t : Str} : ClsV (clsVv K t) (clsV K t) := by
  unfold clsVv clsV
  split
  · exact .ty _
  · exact .own _
theorem boot_ve : bootBuiltins ("ValueError" : Str) = some (.type "ValueError") := by decide +kernel
theorem cls_one (g : GX X G C Γ k W) (hv : ("ValueError" : Str) ∉ G.clss) {t : Str} {e : Expr} (h : clsN C G t e = true) : (∃ p, e = .Name t p) ∧ PE X e (tC (clsVv X.K t)) ∧ t ∈ ("ValueError" : Str) :: G.clss := by
  unfold clsN at h
  split at h
  · rename_i x p
    simp only [Bool.and_eq_true, Bool.or_eq_true, decide_eq_true_eq] at h
    obtain ⟨rfl, h2, h3⟩ := h
    rw [← g.sc] at h2
    obtain ⟨q1, q2, q3⟩ := glB_gl h2
    rcases h3 with h3 | ⟨rfl, h3⟩
    · have ne : x ≠ ("ValueError" : Str) := fun z => hv (by rw [← z]; exact h3)
      refine ⟨⟨p, rfl⟩, ?_, List.mem_cons_of_mem _ h3⟩
      unfold clsVv
      rw [if_neg ne]
      exact pe_glob q1 (g.gcl x (List.mem_append_right _ h3)) rfl q2
    · refine ⟨⟨p, rfl⟩, ?_, List.mem_cons_self⟩
      unfold clsVv
      rw [if_pos rfl]
      exact pe_bltn q1 (g.free _ h3) boot_ve rfl q3 q2
  · cases h
theorem cls_all (g : GX X G C Γ k W) (hv : ("ValueError" : Str) ∉ G.clss) : ∀ {ts : List Str} {es : List Expr}, es.length = ts.length → (∀ p ∈ ts.zip es, clsN C G p.1 p.2 = true) → PA X es (fun _ H Q => Q (ts.map (clsVv X.K)) H) ∧ ∀ t ∈ ts, t ∈ ("ValueError" : Str) :: G.clss
  | [], [], _, _ => ⟨pa_imp pa_nil fun _ _ _ h => h, by simp⟩
  | t :: ts, e :: es, hl, h => by
    have h1 : clsN C G t e = true := h (t, e) (by simp)
    obtain ⟨h2, h3⟩ := cls_all g hv (ts := ts) (es := es) (by simpa using hl) fun p hp => h p (by simp [hp])
    obtain ⟨⟨p, e1⟩, h4, h5⟩ := cls_one g hv h1
    refine ⟨pa_imp (pa_cons h4 h2 (star_cons (by rw [e1]; rfl))) fun _ _ _ h => h, fun u hu => ?_⟩
    rcases List.mem_cons.mp hu with rfl | hu
    · exact h5
    · exact h3 u hu
  | [], _ :: _, hl, _ => by simp at hl
  | _ :: _, [], hl, _ => by simp at hl
theorem clsX_map (K : PySem.W.Frag) : ∀ ts : List Str, Paired ClsV (ts.map (clsVv K)) (ts.map (clsV K))
  | [] => .nil
  | t :: ts => .cons cls_clsV (clsX_map K ts)
theorem kit_anyX {K : PySem.W.Frag} {v : Value} {c : Str} : ∀ {ts : List Str}, (∀ t ∈ ts, PySem.W.kitOne K v (clsV K t) = some (excIs c t)) → PySem.W.kitAny K v (ts.map (clsV K)) = some (ts.any fun t => excIs c t)
  | [], _ => rfl
  | t :: ts, h => by
    have h1 := h t (by simp)
    have h2 := kit_anyX (ts := ts) fun t ht => h t (by simp [ht])
    rw [List.map_cons, PySem.W.kitAny, h1, List.any_cons]
    cases excIs c t
    · exact h2
    · rfl
/-- isinstance of an exception that is kept -/
def rIsX (K : PySem.W.Frag) : List V → Hp → VK → Prop := fun xs H Q => ∃ (a D : Addr) (c : V) (u : Value) (b : Bool), xs = [.ref a, c] ∧ H a = some (ExcHv (.ref D) a) ∧ ExcC K D ∧ ClsV c u ∧ PySem.W.kitOne K (.ref D) u = some b ∧ Q (.bl b) H
def rIsXT (K : PySem.W.Frag) : List V → Hp → VK → Prop := fun xs H Q => ∃ (a D tp : Addr) (cs : List V) (us : List Value) (b : Bool), xs = [.ref a, .ref tp] ∧ H tp = some (.tup cs) ∧ Paired ClsV cs us ∧ H a = some (ExcHv (.ref D) a) ∧ ExcC K D ∧ PySem.W.kitAny K (.ref D) us = some b ∧ Q (.bl b) H
theorem exc_at {pins : List (Addr × Obj)} {σ : L2.St} {H : Hp} {s : Shared} {a D : Addr} (I : L2.Inv X pins σ H s) (e : H a = some (ExcHv (.ref D) a)) : ∃ oe, PySem.W.InstAt s.heap a oe D none := by
  obtain ⟨⟨oe, vs, q1, q2, q3⟩, _⟩ := (show ObjOk X.prog X.w H s.heap a (ExcHv (.ref D) a) from I.hok a _ e)
  obtain ⟨oc, od, oda, osl⟩ := oe
  obtain ⟨h1, h2⟩ := q2
  dsimp only at h1 h2 q3
  subst h1 h2 q3
  exact ⟨_, q1, rfl, rfl, trivial⟩
theorem call_isX : CallR X (.builtin "isinstance") (rIsX X.K) := by
  intro pins s σ H xs us Q I r h
  obtain ⟨a, D, c, u, b, rfl, hD, C, k, e, q⟩ := h
  obtain ⟨u1, u2, rfl, r1, r2⟩ := vals2 r
  have e2 := k.eq r2
  subst e2
  cases (show u1 = Value.ref a from r1)
  obtain ⟨oe, J⟩ := exc_at I hD
  exact PySem.W.kia_one (PySem.W.handS_kitx_exc C.hg C.hk C.hs C.hd C.ha C.hn C.ht C.hm) I.kIn J e (fun z => nomatch z) fun tk => ⟨.bl b, H, I.kept (t' := tk) fun _ _ z => z, rfl, q⟩
theorem call_isXT : CallR X (.builtin "isinstance") (rIsXT X.K) := by
  intro pins s σ H xs us Q I r h
  obtain ⟨a, D, tp, cs, ws, b, rfl, hT, k, hD, C, e, q⟩ := h
  obtain ⟨u1, u2, rfl, r1, r2⟩ := vals2 r
  cases (show u2 = Value.ref tp from r2)
  cases (show u1 = Value.ref a from r1)
  obtain ⟨oe, J⟩ := exc_at I hD
  obtain ⟨_, its, rv, o, h1, h2, n, h3⟩ := (show ObjOk X.prog X.w H s.heap tp (.tup cs) from I.hok tp _ hT)
  have e3 := ClsV.all k rv
  subst e3
  obtain ⟨oc, od, dt, sl⟩ := o
  simp only at h2 h3
  subst h2 h3
  exact PySem.W.kia_tup (PySem.W.handS_kitx_exc C.hg C.hk C.hs C.hd C.ha C.hn C.ht C.hm) I.kIn J h1 e (fun z => nomatch z) fun tk => ⟨.bl b, H, I.kept (t' := tk) fun _ _ z => z, rfl, q⟩
theorem r_isx (g : GX X G C Γ k W) (hv : ("ValueError" : Str) ∉ G.clss) (hne : G.clss.isEmpty = false) {xs cs : List Str} {f t : Expr} (hx : (xs.all fun q => decide (q ∈ G.excs)) = true) (hf : nameB C G "isinstance" f = true) (ht : clssB C G cs t = true) (hn : noStar a = true) (ha : PE X a (LE X xk W wa)) :
    PE X (.Call f [a, t] [] pos) (LE X xk W fun δ M Q => wa δ M fun x M1 => match x with
      | .exc c => c ∈ xs ∧ Q (.bl (cs.any fun t => excIs c t)) M1
      | _ => False) := by
  obtain ⟨p, rfl, q1, q2, q3, q4⟩ := nameB_of g hf
  unfold clssB at ht
  split at ht
  · rename_i x p' t'
    obtain ⟨_, pt, hm⟩ := cls_one g hv ht
    refine pe_imp (pe_callB call_isX q1 q2 boot_isi (pa_cons ha (pa_cons pt pa_nil (star_cons rfl)) (star_cons hn)) q4 q3 (star_cons hn) (star_any rfl)) fun σ H Q h => ?_
    obtain ⟨δ, M, U, R, r, xo, h, out⟩ := h
    refine ⟨δ, M, U, _, r, xo, h, fun d M1 v U1 H1 e k rm rv hR => ?_⟩
    split at hR
    · rename_i c
      simp only [RV] at rv
      obtain ⟨ad, rfl, hH, hM⟩ := rv
      have hc : c ∈ G.excs := by
        have := List.all_eq_true.mp hx c hR.1
        simpa using this
      obtain ⟨ec, kf⟩ := isx_facts g hne hc
      exact ⟨ad, _, _, _, _, rfl, k.vw _ _ hH, ec, cls_clsV, (kf _ hm).1, (out.mono e k).bl k.vw rm (by simpa using hR.2)⟩
    · exact hR.elim
  · rename_i es j p'
    simp only [Bool.and_eq_true, decide_eq_true_eq, List.all_eq_true] at ht
    obtain ⟨pt, hm⟩ := cls_all g hv ht.1 ht.2.2
    refine pe_imp (pe_callB call_isXT q1 q2 boot_isi (pa_cons ha (pa_cons (pe_tup pt) pa_nil (star_cons rfl)) (star_cons hn)) q4 q3 (star_cons hn) (star_any rfl)) fun σ H Q h => ?_
    obtain ⟨δ, M, U, R, r, xo, h, out⟩ := h
    refine ⟨δ, M, U, _, r, xo, h, fun d M1 v U1 H1 e k rm rv hR => ?_⟩
    split at hR
    · rename_i c
      simp only [RV] at rv
      obtain ⟨ad, rfl, hH, hM⟩ := rv
      have hc : c ∈ G.excs := by
        have := List.all_eq_true.mp hx c hR.1
        simpa using this
      obtain ⟨ec, kf⟩ := isx_facts g hne hc
      have few : (cs.map (clsVv X.K)).length ≤ sizeLine := by
        rw [List.length_map, lineLIM]
        exact Nat.le_trans ht.2.1 (by decide)
      refine ⟨few, fun p hp => ⟨ad, _, p, _, _, _, rfl, upd_same, clsX_map X.K cs, by rw [upd_ne (ne_of_none (k.vw _ _ hH) hp)]; exact k.vw _ _ hH, ec, kit_anyX fun t ht' => (kf t (hm t ht')).1, ?_⟩⟩
      exact out (.bl _) M1 _ _ _ (e.trans (Ext.new (k.vw.none hp))) (k.trans (Kp.new k.vw hp)) (rm.new (k.vw.none hp)) (by simp only [RV]) hR.2
    · exact hR.elim
  · cases ht
theorem rs_drop {K : PySem.W.Frag} {M : Mp} {H : Hp} {δ : St} {σ : L2.St} (h : RS K M H δ σ) (i : Nat) : RS K M H (δ.set i none) (σ.set i none) := by
  refine ⟨by simp [h.1], fun j d e => ?_⟩
  rw [List.getElem?_set] at e ⊢
  split at e
  · split at e <;> cases e
  · rename_i hi
    rw [if_neg hi]
    exact h.2 j d e
/-- the context of a try's body -/
theorem gs_tr (g : GS X G C Γ k W) {W' : WX} {pn : List (Addr × Obj)} {xe : Value → Shared → Prop} (tk : Takes (X.tr pn xe) W') (own : PassesOwn (model X.prog X.w) X.A X.env xe) : GS (X.tr pn xe) G C Γ k W' :=
  { room := g.room, calm := g.calm, sys := g.sys, isi := g.isi, N := g.N, nd := g.nd, sc := g.sc, fnB := g.fnB, free := g.free, const := g.const, fns := g.fns,
    exc := fun c hc => by
      obtain ⟨A, bmB, B, ni, ii, F, q, gC, kC, rs⟩ := g.exc c hc
      exact ⟨A, bmB, B, ni, ii, F, q, gC, kC, rs⟩,
    xis := g.xis, gcl := g.gcl, nve := g.nve, tk := tk, kd := g.kd, own := own, stk := g.stk, frm := g.frm }
theorem s_try (g : GS X G C Γ k W) (hv : ("ValueError" : Str) ∉ G.clss) {xs : List Str} {c n y : Str} {i j : Nat} {np yp zp ap hp : Pos} {b : List Stmt} {wb : XD → En → St → Mp → Prop}
    (hg : glB C.sc c = true) (hc : c ∈ G.clss) (hi : C.N[i]? = some n) (hn : isLoc C.sc n = true) (hd1 : (n == ("__debug__" : Str)) = false) (hd2 : (n == ("__classdict__" : Str)) = false) (hj : C.N[j]? = some y) (hy : isLoc C.sc y = true)
    (hx : (xs.all fun q => decide (q ∈ G.excs) && excIs q c) = true)
    (hb : ∀ (xk' : XD) (X' : Cx) (W' : WX), GS X' G C Γ k W' → PSs X' b (LS X' xk' W' (wb xk'))) :
    PS X (.Try b [.ExceptHandler (some (.Name c np)) (some n) [.Assign [.Name y yp] (.Name n zp) ap] hp] [] [] pos)
      (LS X xk W fun E δ M => wb (fun q δ' M' => q ∈ xs ∧ E.nx ((δ'.set j (some (.exc q))).set i none) M') E δ M) := by
  have loc : ∀ {z : Str}, isLoc C.sc z = true → X.env.kindOf z = some .local := by
    intro z h
    show X.env.scope.names.lookup z = _
    rw [g.sc]
    unfold isLoc at h
    split at h
    · assumption
    · cases h
  have nev : c ≠ ("ValueError" : Str) := fun z => hv (by rw [← z]; exact hc)
  have hne : G.clss.isEmpty = false := by
    cases e : G.clss with
    | nil => rw [e] at hc; cases hc
    | cons _ _ => rfl
  rw [← g.sc] at hg
  obtain ⟨q1, q2, q3⟩ := glB_gl hg
  have nm : Names X c (clsV X.K c) := by
    refine ⟨q1, q2, .inl ?_⟩
    unfold clsV
    rw [if_neg nev]
    exact g.gcl c (List.mem_append_right _ hc)
  refine ps_imp (ps_tryKeep (tb := fun W' D σ H => ∃ xk', LS X xk' W' (wb xk') D σ H) g.stk g.frm g.nd (by rw [g.N]; exact hi) (loc hn) hd1 hd2 (by rw [g.N]; exact hj) (loc hy) nm fun W' pn xe tk own => ⟨fun pins s σ H D I q => ?_⟩) fun D σ H h => ?_
  · obtain ⟨xk', q⟩ := q
    exact (hb xk' (X.tr pn xe) W' (gs_tr g tk own)).run pins s σ H D I q
  · obtain ⟨δ, M, U, E, r, xo, h, out⟩ := h
    refine ⟨_, δ, M, U, E, r, ?_, h, out⟩
    rintro q δ' M' U' H' σ' g' rs' ⟨hq, hE⟩ A hA
    have hqx := List.all_eq_true.mp hx q hq
    simp only [Bool.and_eq_true, decide_eq_true_eq] at hqx
    have eA := g.gcl q (List.mem_append_left _ hqx.1)
    rw [hA] at eA
    cases eA
    refine ⟨rfl, ?_, fun a ha => ?_⟩
    · have := ((isx_facts g.toGX hne hqx.1).2 c (List.mem_cons_of_mem _ hc)).2 nev
      rw [this, hqx.2]
    · have hU := g'.kp.vw.none ha
      have gn : Go X.K M' U' H' M' (upd U' a (ExcH X.K q a)) (upd H' a (ExcH X.K q a)) := ⟨Ext.new hU, Kp.new g'.kp.vw ha, g'.rm.new hU⟩
      have rs2 := rs'.mono gn.ex g'.rm
      exact out.nx _ M' _ _ _ (g'.trans gn) (rs_drop (rs2.set j (d := .exc q) (v := .ref a) (by simp only [RV]; exact ⟨a, rfl, upd_same, g'.rm.none_of hU⟩)) i) hE
end
end Pw
set_option Elab.async false
set_option linter.all false
set_option maxRecDepth 100000
set_option maxHeartbeats 2000000
namespace Pw
open PySem PySem.Spec PyProof.Rows L2
/-! ### displays with spread items -/
def OutX (K : PySem.W.Frag) (M : Mp) (U H : Hp) (R : List D → Mp → Prop) (Q : List V → Hp → Prop) : Prop := ∀ ds M' vs U' H', Go K M U H M' U' H' → RVs K M' U' ds vs → R ds M' → Q vs H'
def LXs (X : Cx) (xk : XD) (W : WX) (wp : St → Mp → (List D → Mp → Prop) → Prop) : TA := fun σ H Q => ∃ δ M U R, Rel X.K M U H δ σ ∧ XOk X xk W M U H ∧ wp δ M R ∧ OutX X.K M U H R Q
section
variable {X : Cx} {xk : XD} {W : WX} {a : Expr} {wa : St → Mp → DK → Prop} {pos : Pos} {es : List Expr} {wl : St → Mp → (List D → Mp → Prop) → Prop} {j : Nat}
theorem x_nil : PA X [] (LXs X xk W fun _ M Q => Q [] M) := pa_imp pa_nil fun σ H Q h => by
  obtain ⟨δ, M, U, R, r, xo, h, out⟩ := h
  exact out [] M [] U H r.here (by simp only [RVs]) h
theorem x_cons (hn : noStar a = true) (ha : PE X a (LE X xk W wa)) (hl : PA X es (LXs X xk W wl)) : PA X (a :: es) (LXs X xk W fun δ M Q => wa δ M fun x M1 => wl δ M1 fun xs M2 => Q (x :: xs) M2) :=
  pa_imp (pa_cons ha hl (star_cons hn)) fun σ H Q h => by
    obtain ⟨δ, M, U, R, r, xo, h, out⟩ := h
    refine ⟨δ, M, U, _, r, xo, h, fun d M1 v U1 H1 e k rm rv hR => ⟨δ, M1, U1, _, r.mono ⟨e, k, rm⟩, xo.mono ⟨e, k, rm⟩, hR, fun ds M2 vs U2 H2 g2 rvs hR2 => ?_⟩⟩
    refine out (d :: ds) M2 (v :: vs) U2 H2 ((Go.mk e k rm).trans g2) ?_ hR2
    simp only [RVs]
    exact ⟨v, vs, rfl, RV.mono g2.ex rm d v rv, rvs⟩
theorem x_star {p : Pos} (ha : PE X a (LE X xk W wa)) (hl : PA X es (LXs X xk W wl)) : PA X (.Starred a p :: es) (LXs X xk W fun δ M Q => wa δ M fun x M1 => match seqOf M1 x with
    | some ds => wl δ M1 fun xs M2 => Q (ds ++ xs) M2
    | none => False) :=
  pa_imp (StX.pa_star ha hl) fun σ H Q h => by
    obtain ⟨δ, M, U, R, r, xo, h, out⟩ := h
    refine ⟨δ, M, U, _, r, xo, h, fun d M1 v U1 H1 e k rm rv hR => ?_⟩
    split at hR
    · rename_i ds eds
      obtain ⟨a, vs, rfl, hq, rvs⟩ := seqOf_at k.vw rm eds rv
      refine ⟨a, vs, rfl, hq.symm, δ, M1, U1, _, r.mono ⟨e, k, rm⟩, xo.mono ⟨e, k, rm⟩, hR, fun ds2 M2 vs2 U2 H2 g2 rvs2 hR2 => ?_⟩
      exact out (ds ++ ds2) M2 (vs ++ vs2) U2 H2 ((Go.mk e k rm).trans g2) ((RVs.mono g2.ex rm _ _ rvs).app rvs2) hR2
    · exact hR.elim
theorem r_tups (hl : PA X es (LXs X xk W wl)) : PE X (.Tuple es j pos) (LE X xk W fun δ M Q => wl δ M fun ds M1 => ds.length ≤ LIM ∧ Q (.tup ds) M1) :=
  pe_imp (pe_tupF hl) fun σ H Q h => by
    obtain ⟨δ, M, U, R, r, xo, h, out⟩ := h
    refine ⟨δ, M, U, _, r, xo, h, fun ds M1 vs U1 H1 g rv hR => ⟨?_, (out.mono g.ex g.kp).tup g.kp.vw g.rm rv hR.2⟩⟩
    rw [rv.length, lineLIM]
    exact hR.1
end
end Pw
set_option Elab.async false
set_option linter.all false
set_option maxRecDepth 100000
set_option maxHeartbeats 2000000
namespace Pw
open PySem PySem.Spec PyProof.Rows L2
/-! len(dict(pairs)), the keys different tuples of whole numbers -/
def pairT (k : List Int) : D := .tup [.tup (k.map D.int), .bl true]
theorem intsOf_D : ∀ {k : List Int}, intsOf (k.map D.int) = some k
  | [] => rfl
  | i :: k => by rw [List.map_cons, intsOf, intsOf_D]; rfl
theorem itemsAre_ints {prog : Program} {w : World} : ∀ {k : List Int} {us : List Value}, Vals (k.map V.int) us → ItemsAre (intKind prog w) k us
  | [], _, .nil => .nil
  | i :: k, _, .cons r t => by
    obtain ⟨tk, rfl⟩ := r
    exact .cons (intKind_is prog w i tk) (itemsAre_ints t)
section
variable {X : Cx} {pins : List (Addr × Obj)} {σ : L2.St} {s : Shared} {M : Mp} {U H : Hp}
theorem pairs_at (I : L2.Inv X pins σ H s) (vw : Vw U H) : ∀ {ks : List (List Int)} {vs : List V} {us : List Value}, RVs X.K M U (ks.map pairT) vs → Vals vs us →
    ∃ L : List (Addr × Addr), L.length = ks.length ∧ us = L.map (fun x => Value.ref x.1) ∧ ∀ (j : Nat) (x : Addr × Addr) (k : List Int), L[j]? = some x → ks[j]? = some k → s.heap.IsTuple x.1 #[Value.ref x.2, Value.bool true] ∧ IsTupleKey (intKind X.prog X.w) s.heap k x.2
  | [], vs, us, rv, r => by
    simp only [List.map_nil, RVs] at rv
    subst rv
    cases r
    exact ⟨[], rfl, rfl, fun j x k h => by simp at h⟩
  | k :: ks, vs, us, rv, r => by
    simp only [List.map_cons, RVs] at rv
    obtain ⟨v, q, rfl, h1, h2⟩ := rv
    cases r with
    | cons r1 r2 =>
      obtain ⟨L, e1, e2, e3⟩ := pairs_at I vw h2 r2
      simp only [pairT, RV, RVs] at h1
      obtain ⟨a, ws, rfl, hq, v1, q1, rfl, ⟨b, xs, rfl, hb, hx⟩, v2, q2, rfl, rfl, rfl⟩ := h1
      have r1' := r1
      obtain rfl : _ = Value.ref a := r1
      obtain ⟨its, g1, g2, _⟩ := I.tuple (vw.sqT hq)
      obtain ⟨its2, g3, g4, _⟩ := I.tuple (vw.sqT hb)
      obtain ⟨ex, _⟩ := RVs.ints_of (intsOf_D (k := k)) hx
      subst ex
      have gi : its = [Value.ref b, Value.bool true] := by
        cases g1 with
        | cons z1 z2 =>
          cases z2 with
          | cons z3 z4 =>
            cases z4
            have w1 : _ = Value.ref b := z1
            have w2 : _ = Value.bool true := z3
            rw [w1, w2]
      subst gi
      refine ⟨(a, b) :: L, by simp [e1], by simp [e2], fun j x k' hx' hk' => ?_⟩
      cases j with
      | zero =>
        simp at hx' hk'
        subst hx' hk'
        refine ⟨g2, ?_⟩
        obtain ⟨o, o1, o2, n, o3⟩ := g4
        exact ⟨o, its2.toArray, n, o1, o2, o3, by simpa using itemsAre_ints g3⟩
      | succ j => exact e3 j x k' (by simpa using hx') (by simpa using hk')
end
theorem pairsOf_eq : ∀ {ds : List D} {ks : List (List Int)}, pairsOf ds = some ks → ds = ks.map pairT
  | [], ks, h => by
    simp only [pairsOf, Option.some.injEq] at h
    subst h; rfl
  | d :: ds, ks, h => by
    unfold pairsOf at h
    split at h
    · rename_i e; cases e
    · rename_i xs ds' e
      cases e
      split at h
      · rename_i r rs e1 e2
        cases h
        rw [pairsOf_eq e2, intsOf_inv e1]; rfl
      · cases h
    · cases h
theorem merged_nodup {K : Type} [DecidableEq K] : ∀ {more acc : List (K × Value)}, (more.map Prod.fst).Nodup → (∀ x ∈ more, ∀ y ∈ acc, y.1 ≠ x.1) → merged acc more = acc ++ more
  | [], acc, _, _ => by simp [merged]
  | (k, v) :: more, acc, hn, hd => by
    rw [List.map_cons, List.nodup_cons] at hn
    have hs : stored acc k v = acc ++ [(k, v)] := by
      unfold stored
      rw [if_neg]
      intro h2
      obtain ⟨x, hx, e⟩ := List.any_eq_true.mp h2
      exact hd (k, v) (List.mem_cons_self ..) x hx (by simpa using e)
    have ih := merged_nodup (more := more) (acc := acc ++ [(k, v)]) hn.2 fun x hx y hy => by
      rcases List.mem_append.mp hy with hy | hy
      · exact hd x (List.mem_cons_of_mem _ hx) y hy
      · rw [List.mem_singleton.mp hy]
        intro e
        exact hn.1 (by rw [show k = x.1 from e]; exact List.mem_map.mpr ⟨x, hx, rfl⟩)
    show merged (stored acc k v) more = _
    rw [hs, ih]; simp
theorem boot_len : bootBuiltins "len" = some (.builtin "len") := rfl
theorem boot_dict : bootBuiltins "dict" = some (.type "dict") := rfl
theorem size_sys {X : Cx} {pins : List (Addr × Obj)} {σ : L2.St} {s : Shared} {H : Hp} (sd : SysD X.K) (I : L2.Inv X pins σ H s) : (s.heap.objs.size == sysModules) = false := by
  obtain ⟨u, hu, hc⟩ := sd
  have := Heap.lt_size (I.kIn _ _ hu)
  exact beq_eq_false_iff_ne.mpr (Nat.ne_of_gt this)
section
variable {X : Cx} {pins : List (Addr × Obj)} {σ : L2.St} {s : Shared} {M : Mp} {U H : Hp} {Q : VK} {a : Addr} {vs : List V} {u : Value}
theorem call_dict_tups (hc : X.calm = true) (hu : X.A.units + 64 < cLine) (I : L2.Inv X pins σ H s) (vw : Vw U H) (hq : SqL X.K H a vs) {ks : List (List Int)} (rv : RVs X.K M U (ks.map pairT) vs) (ru : RelV (.ref a) u) (hn : ks.Nodup) (hl : ks.length ≤ 1000)
    {Q : Value → Shared → Prop} (q : ∀ (h' : Heap) (tk : Nat) (kvs : List (List Int × Value)), kvs.length = ks.length → h'.DictKeyed (tupleKind (intKind X.prog X.w)) s.heap.objs.size kvs → (∀ (b : Addr) (o : Obj), s.heap.get? b = some o → h'.get? b = some o) →
      Q (.ref s.heap.objs.size) { heap := h', gens := s.gens, drawn := s.drawn, toks := tk, os := s.os }) : wpAny (model X.prog X.w) X.A (call (.type "dict") [u]) Q X.xe s := by
  obtain rfl : u = Value.ref a := ru
  obtain ⟨its, rvs, z, _⟩ := I.list hq
  obtain ⟨L, e1, e2, e3⟩ := pairs_at I vw rv rvs
  have hz1 : ∀ (j : Nat) (x : Addr × Addr), L[j]? = some x → ∃ k, ks[j]? = some k ∧ s.heap.IsTuple x.1 #[Value.ref x.2, Value.bool true] ∧ IsTupleKey (intKind X.prog X.w) s.heap k x.2 := fun j x hx => by
    have hj := (List.getElem?_eq_some_iff.mp hx).1
    have hk : ks[j]? = some ks[j] := List.getElem?_eq_getElem (by omega)
    exact ⟨_, hk, e3 j x _ hx hk⟩
  have hps : (L.map fun x => (Value.ref x.2, Value.bool true)).length = ks.length := by simp [e1]
  refine dict_keyed (knd := tupleKind (intKind X.prog X.w)) (kvs := ks.map fun k => (k, Value.bool true)) tupleKind_stays (PairArg.list a its.toArray (fun j => (L.getD j (0, 0)).1) (L.map fun x => (Value.ref x.2, Value.bool true))) (I.ok.hd hc) ?_ ⟨z, ?_⟩ ?_ (tupleKind_stays.all (h := s.heap)) ?_ ?_
  · show X.A.in1.in1.units < cLine
    show X.A.units + 1 + 1 < cLine
    omega
  · refine ⟨by rw [e2]; simp, fun j k v hj => ?_⟩
    rw [List.getElem?_map] at hj
    obtain ⟨x, hx, e⟩ := Option.map_eq_some_iff.mp hj
    cases e
    obtain ⟨k, hk, h3, h4⟩ := hz1 j x hx
    have hg : L.getD j (0, 0) = x := by rw [List.getD_eq_getElem?_getD, hx]; rfl
    refine ⟨?_, .inl ?_⟩
    · rw [e2]
      simp only [List.getElem?_toArray, List.getElem?_map, hx, Option.map_some, hg]
    · show s.heap.IsTuple (L.getD j (0, 0)).1 #[Value.ref x.2, Value.bool true]
      rw [hg]; exact h3
  · refine ⟨(ks.zip L).map fun p => (p.1, p.2.2, Value.bool true), ?_, ⟨by simp [e1], ?_⟩, ?_⟩
    · unfold pairsH
      rw [List.map_map]
      have : ((fun (x : List Int × Addr × Value) => (x.1, x.2.2)) ∘ fun (p : List Int × Addr × Addr) => (p.1, p.2.2, Value.bool true)) = fun p => (p.1, Value.bool true) := rfl
      rw [this]
      have h2 : (ks.zip L).map (fun p => (p.1, Value.bool true)) = ((ks.zip L).map Prod.fst).map fun k => (k, Value.bool true) := by rw [List.map_map]; rfl
      rw [h2, List.map_fst_zip (by omega)]
    · intro i key v hi
      have hi : (L.map fun x => (Value.ref x.2, Value.bool true))[i]? = some (key, v) := hi
      rw [List.getElem?_map] at hi
      obtain ⟨x, hx, e⟩ := Option.map_eq_some_iff.mp hi
      cases e
      obtain ⟨k, hk, h3, h4⟩ := hz1 i x hx
      refine ⟨k, x.2, ?_, rfl⟩
      rw [List.getElem?_map]
      have : (ks.zip L)[i]? = some (k, x) := by rw [List.getElem?_zip_eq_some]; exact ⟨hk, hx⟩
      rw [this]; rfl
    · intro x hx
      obtain ⟨p, hp, rfl⟩ := List.mem_map.mp hx
      obtain ⟨i, hi⟩ := List.mem_iff_getElem?.mp hp
      obtain ⟨h1, h2⟩ := List.getElem?_zip_eq_some.mp (show (ks.zip L)[i]? = some (p.1, p.2) from hi)
      exact (e3 i p.2 p.1 h2 h1).2
  · have : (1000 : Nat) ≤ sizeLine := by decide
    simp [e1]; omega
  · intro h' tk hm hk
    have hme := merged_nodup (K := List Int) (acc := []) (more := ks.map fun k => (k, Value.bool true)) (by rw [List.map_map]; simpa [Function.comp_def] using hn) (by simp)
    rw [hme] at hm
    exact q h' tk _ (by simp) hm (fun b o h => hk b o (by simp) h)
end
section
variable {X : Cx} {e : Expr} {te : TE} {p pos pos2 q : Pos}
def tLdct (K : PySem.W.Frag) (te : TE) : TE := fun σ H Q => te σ H fun v H1 => ∃ (a : Addr) (vs : List V) (ks : List (List Int)) (M : Mp) (U : Hp), v = .ref a ∧ SqL K H1 a vs ∧ Vw U H1 ∧ RVs K M U (ks.map pairT) vs ∧ ks.Nodup ∧ ks.length ≤ 1000 ∧ Q (.int (ks.length : Nat)) H1
theorem pe_ldct (hc : X.calm = true) (hu : X.A.units + 64 < cLine) (sd : SysD X.K) (hg : Gl X "len") (hm : X.mg "len" = none) (hg2 : Gl X "dict") (hm2 : X.mg "dict" = none) (he : PE X e te) (hs : starEach [e] X.env = (false, eval e X.env) :: starEach [] X.env) :
    PE X (.Call (.Name "len" p) [.Call (.Name "dict" q) [e] [] pos2] [] pos) (tLdct X.K te) := by
  refine ⟨fun pins s σ H Q I h => ?_⟩
  refine Call_ (ld_blt I hg hm boot_len (PyProof.Rows.callWith_builtin1 (args_cons (Call_ (ld_blt I hg2 hm2 boot_dict (PyProof.Rows.callWith_type1 (args_cons (thn (he.run pins s σ H _ I h) fun u s1 ⟨v, H1, I1, r1, q1⟩ => args_nil ?_) hs) hs rfl))) rfl) rfl rfl))
  obtain ⟨a, vs, ks, M, U, ev, hq, vw, rv, hn, hl, qq⟩ := q1
  subst ev
  refine call_dict_tups hc hu I1 vw hq rv r1 hn hl fun h' tk kvs hkl hm hk => args_nil ?_
  have hz : ((kvs.length : Nat) : Int) ≤ 1000 := by rw [hkl]; omega
  refine PyProof.Rows.call_len_slot (n := (kvs.length : Nat)) hm.typeIs F.slot_dict_len (fun Q' hq => len_keyed (size_sys sd I1) hm hq) (by omega) (by omega) ?_
  exact ⟨.int (ks.length : Nat), H1, I1.kept hk, ⟨_, by rw [hkl]⟩, qq⟩
end
section
variable {X : Cx} {xk : XD} {W : WX} {G : Gc} {C : Ct} {Γ : String → SpD} {k : Nat} {a : Expr} {wa : St → Mp → DK → Prop} {pos q : Pos}
theorem r_ldct (g : GX X G C Γ k W) {f h : Expr} (hf : nameB C G "len" f = true) (hh : nameB C G "dict" h = true) (hn : noStar a = true) (ha : PE X a (LE X xk W wa)) :
    PE X (.Call f [.Call h [a] [] q] [] pos) (LE X xk W fun δ M Q => wa δ M fun x M1 => ldctD x M1 Q) := by
  obtain ⟨p1, rfl, q1, q2, q3, q4⟩ := nameB_of g hf
  obtain ⟨p2, rfl, s1, s2, s3, s4⟩ := nameB_of g hh
  refine pe_imp (pe_ldct g.calm g.hu g.sys q1 q2 s1 s2 ha (star_cons hn)) fun σ H Q hx => ?_
  obtain ⟨δ, M, U, R, r, xo, hx, out⟩ := hx
  refine ⟨δ, M, U, _, r, xo, hx, fun d M1 v U1 H1 e k rm rv hR => ?_⟩
  unfold ldctD at hR
  split at hR
  · rename_i ds
    split at hR
    · rename_i ks hks
      obtain ⟨h1, h2, h3⟩ := hR
      obtain ⟨a, vs, rfl, hq, rr⟩ := lstOf_at k.vw rm (ds := ds) rfl rv
      rw [pairsOf_eq hks] at rr
      exact ⟨a, vs, ks, M1, U1, rfl, hq, k.vw, rr, h1, h2, (out.mono e k).int k.vw rm h3⟩
    · exact hR.elim
  · exact hR.elim
end
end Pw
set_option Elab.async false
set_option linter.all false
set_option maxRecDepth 100000
set_option maxHeartbeats 2000000
namespace Pw
open PySem PySem.Spec PyProof.Rows L2
/-! len(set(x)) of whole numbers -/
section
variable {X : Cx} {e : Expr} {te : TE} {p pos pos2 q : Pos}
def tLset (K : PySem.W.Frag) (te : TE) : TE := fun σ H Q => te σ H fun v H1 => ∃ (a : Addr) (ns : List Int), v = .ref a ∧ (SqT K H1 a (ns.map V.int) ∨ SqL K H1 a (ns.map V.int)) ∧ ns.length ≤ 1000 ∧ ∀ ms : List Int, ms.Nodup → (∀ k, k ∈ ms ↔ k ∈ ns) → Q (.int (ms.length : Nat)) H1
theorem pe_lset (hc : X.calm = true) (hg : Gl X "len") (hm : X.mg "len" = none) (hg2 : Gl X "set") (hm2 : X.mg "set" = none) (he : PE X e te) (hs : starEach [e] X.env = (false, eval e X.env) :: starEach [] X.env) :
    PE X (.Call (.Name "len" p) [.Call (.Name "set" q) [e] [] pos2] [] pos) (tLset X.K te) := by
  refine ⟨fun pins s σ H Q I h => ?_⟩
  refine Call_ (ld_blt I hg hm boot_len (PyProof.Rows.callWith_builtin1 (args_cons (Call_ (ld_blt I hg2 hm2 boot_set (PyProof.Rows.callWith_type1 (args_cons (thn (he.run pins s σ H _ I h) fun u s1 ⟨v, H1, I1, r1, q1⟩ => args_nil ?_) hs) hs rfl))) rfl) rfl rfl))
  obtain ⟨a, ns, ev, hq, hl, q⟩ := q1
  subst ev
  obtain rfl : u = Value.ref a := r1
  have fin : ∀ (h' : Heap) (tk c : Nat), SetR X.w h' s1.heap.objs.size (fun j => decide (j ∈ ns)) c → c ≤ ns.length → (∀ (b : Addr) (o : Obj), s1.heap.get? b = some o → h'.get? b = some o) →
      wpAny (model X.prog X.w) X.A (spliced (backTo pos (starEach [] X.env))) (fun vs s₂ => wpAny (model X.prog X.w) X.A (call (.builtin "len") (Value.ref s1.heap.objs.size :: vs)) (EP X pins σ Q) X.xe s₂) X.xe { heap := h', gens := s1.gens, drawn := s1.drawn, toks := tk, os := s1.os } := by
    intro h' tk c hS hcl hk
    refine args_nil ?_
    obtain ⟨o, es, ep, t, ho, hex, hd, _, hnd, hkey, _, hf, hn, _⟩ := hS
    have I2 : L2.Inv X pins σ H1 { heap := h', gens := s1.gens, drawn := s1.drawn, toks := tk, os := s1.os } := I1.kept hk
    have hb : (1000 : Int) < 2 ^ 63 := by decide
    refine call_len_set ho hex hd hf (by rw [hn]; omega) ⟨.int ((es.toList.map L2.keyOf).length : Nat), H1, I2.tok _, ⟨tk + 1, by simp⟩, q _ hnd fun k => ?_⟩
    rw [← hkey k]; simp
  rcases hq with hq | hq
  · obtain ⟨us, r, z, _⟩ := I1.tuple hq
    exact call_set_tupI ns (I1.ok.hd hc) (show s1.heap.IsTuple a us.toArray from z) (intsAre_of r) (Nat.lt_of_le_of_lt (Nat.add_le_add_right hl 1) (by decide)) fin
  · obtain ⟨us, r, z, _⟩ := I1.list hq
    exact call_set_lstI ns (I1.ok.hd hc) z.isList (intsAre_of r) (Nat.lt_of_le_of_lt (Nat.add_le_add_right hl 1) (by decide)) fin
end
section
variable {X : Cx} {xk : XD} {W : WX} {G : Gc} {C : Ct} {Γ : String → SpD} {k : Nat} {a : Expr} {wa : St → Mp → DK → Prop} {pos q : Pos}
theorem r_lset (g : GX X G C Γ k W) {f h : Expr} (hf : nameB C G "len" f = true) (hh : nameB C G "set" h = true) (hn : noStar a = true) (ha : PE X a (LE X xk W wa)) :
    PE X (.Call f [.Call h [a] [] q] [] pos) (LE X xk W fun δ M Q => wa δ M fun x M1 => lsetD x M1 Q) := by
  obtain ⟨p1, rfl, q1, q2, q3, q4⟩ := nameB_of g hf
  obtain ⟨p2, rfl, s1, s2, s3, s4⟩ := nameB_of g hh
  refine pe_imp (pe_lset g.calm q1 q2 s1 s2 ha (star_cons hn)) fun σ H Q hx => ?_
  obtain ⟨δ, M, U, R, r, xo, hx, out⟩ := hx
  refine ⟨δ, M, U, _, r, xo, hx, fun d M1 v U1 H1 e k rm rv hR => ?_⟩
  unfold lsetD at hR
  split at hR
  · rename_i ds
    split at hR
    · rename_i ns hns
      simp only [RV] at rv
      obtain ⟨a, vs, rfl, hq, rr⟩ := rv
      obtain ⟨rfl, rfl⟩ := RVs.ints_of hns rr
      obtain ⟨hl, hR⟩ := hR
      exact ⟨a, ns, rfl, .inl (k.vw.sqT hq), hl, fun ms h1 h2 => (out.mono e k).int k.vw rm (hR ms h1 h2)⟩
    · exact hR.elim
  · rename_i ds
    split at hR
    · rename_i ns hns
      obtain ⟨a, vs, rfl, hq, rr⟩ := lstOf_at k.vw rm (ds := ds) rfl rv
      obtain ⟨rfl, rfl⟩ := RVs.ints_of hns rr
      obtain ⟨hl, hR⟩ := hR
      exact ⟨a, ns, rfl, .inr hq, hl, fun ms h1 h2 => (out.mono e k).int k.vw rm (hR ms h1 h2)⟩
    · exact hR.elim
  · exact hR.elim
end
end Pw
set_option Elab.async false
set_option linter.all false
set_option maxRecDepth 100000
set_option maxHeartbeats 2000000
namespace Pw
open PySem PySem.Spec PyProof.Rows L2

def rhoI : T → Rho
  | .ienum _ => RW
  | .izip _ => RW
  | _ => RV
section
variable {G : Gc} {Γ : String → SpD} {k : Nat}
theorem gx_blk {X : Cx} {C : Ct} {W : WX} (g : GX X G C Γ k W) (s : Shared) (H : Hp) (sc : Scope) (Ca : Addr) (cl : List (Str × Addr)) (fp : List Addr) :
    GX (X.blk s H sc (compEnvC sc cl Ca X.env) fp) G ⟨C.N, relS sc C.sc, fun x => sc.names.lookup x == some .cell⟩ Γ k W0 where
  room := g.room
  calm := g.calm
  sys := g.sys
  isi := g.isi
  N := g.N
  nd := g.nd
  sc := by show relS sc X.env.scope = _; rw [g.sc]
  fnB := fun x h => h
  free := g.free
  const := g.const
  fns := g.fns
  exc := fun c hc => by
    obtain ⟨A, bmB, B, ni, ii, F, q, gC, kC, rs⟩ := g.exc c hc
    exact ⟨A, bmB, B, ni, ii, F, q, gC, kC, rs⟩
  xis := g.xis
  gcl := g.gcl
  nve := g.nve
  tk := fun u s' h => by
    obtain ⟨_, _, _, _, _, _, _, _, _, _, _, _, _, _, _, _, w⟩ := h
    exact w.elim
theorem and_l {a b : Bool} (h : (a && b) = true) : a = true := by simp only [Bool.and_eq_true] at h; exact h.1
theorem and_r {a b : Bool} (h : (a && b) = true) : b = true := by simp only [Bool.and_eq_true] at h; exact h.2
theorem tg_sub {S own : List Nat} (h : (S.all fun i => own.contains i) = true) : ∀ i ∈ S, i ∈ own := fun i hi => by
  have := List.all_eq_true.mp h i hi
  simpa using this
end
theorem rho_pick {G : Gc} {X : Cx} {C2 : Ct} {xk : XD} {W : WX} {S : List Nat} {wp : D → St → Mp → (St → Mp → Prop) → Prop} (it : T) {tg e : Expr} (hi : chI G it C2 tg e = true) (h1 : PG X tg (LG RV X xk W S wp)) (h2 : isTupE tg = true → PG X tg (LG RW X xk W S wp)) : PG X tg (LG (rhoI it) X xk W S wp) := by
  cases it with
  | ienum a =>
    simp only [chI] at hi
    split at hi
    · simp only [Bool.and_eq_true] at hi
      exact h2 hi.1.2
    · cases hi
  | izip a =>
    simp only [chI] at hi
    split at hi
    · simp only [Bool.and_eq_true] at hi
      exact h2 hi.1.2
    · cases hi
  | _ => exact h1
mutual
theorem sE {G : Gc} {Γ : String → SpD} {k : Nat} : ∀ (t : T) {X : Cx} {C : Ct} {xk : XD} {W : WX} (g : GX X G C Γ k W) (e : Expr), chE G t C e = true → PE X e (LE X xk W (wpE Γ xk t))
  | .var i, X, C, xk, W, g, e, h => by
    simp only [chE] at h
    split at h
    · simp only [Bool.and_eq_true, decide_eq_true_eq, Bool.not_eq_true'] at h
      exact r_var g h.1.1.1 h.1.1.2 h.1.2 h.2
    · cases h
  | .lit d, X, C, xk, W, g, e, h => r_lit g h
  | .bin m op a b, X, C, xk, W, g, e, h => by
    simp only [chE] at h
    split at h
    · simp only [Bool.and_eq_true] at h
      rw [binB_eq h.1.1]
      exact r_bin m op (sE a g _ h.1.2) (sE b g _ h.2)
    · cases h
  | .neg a, X, C, xk, W, g, e, h => by
    simp only [chE] at h
    split at h
    · exact r_neg (sE a g _ h)
    · cases h
  | .not a, X, C, xk, W, g, e, h => by
    simp only [chE] at h
    split at h
    · exact r_not (sE a g _ h)
    · cases h
  | .and a b, X, C, xk, W, g, e, h => by
    simp only [chE] at h
    split at h
    · simp only [Bool.and_eq_true] at h
      exact r_and (sE a g _ h.1) (pe_one (sE b g _ h.2))
    · simp only [Bool.and_eq_true] at h
      exact r_and (sE a g _ h.1) (sE b g _ h.2)
    · cases h
  | .or a b, X, C, xk, W, g, e, h => by
    simp only [chE] at h
    split at h
    · simp only [Bool.and_eq_true] at h
      exact r_or (sE a g _ h.1) (pe_one (sE b g _ h.2))
    · simp only [Bool.and_eq_true] at h
      exact r_or (sE a g _ h.1) (sE b g _ h.2)
    · cases h
  | .tst a, X, C, xk, W, g, e, h => by simp [chE] at h
  | .cmp op a b, X, C, xk, W, g, e, h => by
    simp only [chE] at h
    split at h
    · simp only [Bool.and_eq_true] at h
      rw [cmpB_eq h.1.1.1]
      exact r_cmp g op h.2 (sE a g _ h.1.1.2) (sE b g _ h.1.2)
    · cases h
  | .chain o1 o2 a b c, X, C, xk, W, g, e, h => by
    simp only [chE] at h
    split at h
    · simp only [Bool.and_eq_true] at h
      rw [cmpB_eq h.1.1.1.1.1, cmpB_eq h.1.1.1.1.2]
      exact r_chain g o1 o2 h.2 (sE a g _ h.1.1.1.2) (sE b g _ h.1.1.2) (sE c g _ h.1.2)
    · cases h
  | .ite c a b, X, C, xk, W, g, e, h => by
    simp only [chE] at h
    split at h
    · simp only [Bool.and_eq_true] at h
      exact r_ite (sT c g _ h.1.1) (sE a g _ h.1.2) (sE b g _ h.2)
    · cases h
  | .tup es, X, C, xk, W, g, e, h => by
    simp only [chE] at h
    split at h
    · simp only [Bool.and_eq_true, decide_eq_true_eq] at h
      exact r_tup h.2 (sL es g _ h.1).1
    · cases h
  | .tups es, X, C, xk, W, g, e, h => by
    simp only [chE] at h
    split at h
    · exact r_tups (sX es g _ h)
    · cases h
  | .lst m es, X, C, xk, W, g, e, h => by
    simp only [chE] at h
    split at h
    · simp only [Bool.and_eq_true, decide_eq_true_eq] at h
      exact r_lst m h.2 (sL es g _ h.1).1
    · cases h
  | .dct m, X, C, xk, W, g, e, h => by
    simp only [chE] at h
    split at h
    · exact r_dct m
    · cases h
  | .call f es dfl, X, C, xk, W, g, e, h => by
    simp only [chE] at h
    split at h
    · rename_i x p xs pos
      simp only [Bool.and_eq_true, decide_eq_true_eq] at h
      obtain ⟨⟨⟨h1, h2⟩, h3⟩, h4⟩ := h
      split at h4
      · rename_i I hI
        simp only [Bool.and_eq_true, decide_eq_true_eq] at h4
        have ed := eqFlats_eq h4.1.2
        have hw : I.kwn = true → I.dfl ≠ [] := fun z e => by simp [z, e] at h4
        subst ed
        obtain ⟨l1, l2, l3⟩ := sL (xk := xk) (W := W) es g _ h3
        cases xs with
        | nil =>
          cases es with
          | nil => exact r_call0 g hI hw h1 h2
          | _ => simp only [chL] at h3; cases h3
        | cons y ys => exact r_call g hI hw h1 h2 l2 l1
      · cases h4
    · cases h
  | .callk f es y a, X, C, xk, W, g, e, h => by
    simp only [chE] at h
    split at h
    · rename_i x p xs z v q pos
      simp only [Bool.and_eq_true, decide_eq_true_eq] at h
      obtain ⟨⟨⟨⟨⟨h1, h2⟩, h3⟩, h4⟩, h5⟩, h6⟩ := h
      split at h6
      · rename_i I hI
        simp only [Bool.and_eq_true, decide_eq_true_eq] at h6
        obtain ⟨⟨⟨k1, k2⟩, k3⟩, k4⟩ := h6
        obtain ⟨l1, l2, l3⟩ := sL (xk := xk) (W := W) es g _ h4
        cases xs with
        | nil => simp at k4
        | cons w ws => exact r_callk g hI h1 h3 l2 (by rw [← l3]; exact k1) k2 k3 l1 (sE a g _ h5)
      · cases h6
    · cases h
  | .blt m f es, X, C, xk, W, g, e, h => by
    simp only [chE] at h
    split at h
    · simp only [Bool.and_eq_true] at h
      obtain ⟨l1, l2, l3⟩ := sL (xk := xk) (W := W) es g _ h.2
      have hn := h.1
      unfold nameB at hn
      split at hn
      · simp only [Bool.and_eq_true, decide_eq_true_eq] at hn
        exact r_blt g m f hn.1.1 hn.1.2 hn.2 l2 l1
      · cases hn
    · cases h
  | .isi a tys, X, C, xk, W, g, e, h => by
    simp only [chE] at h
    split at h
    · simp only [Bool.and_eq_true] at h
      exact r_isi g h.1.1.1 h.2 h.1.1.2 (sE a g _ h.1.2)
    · cases h
  | .conv m l a, X, C, xk, W, g, e, h => by
    simp only [chE] at h
    split at h
    · simp only [Bool.and_eq_true] at h
      cases l with
      | true => exact r_convL g m (by simpa using h.1.1) h.1.2 (sE a g _ h.2)
      | false => exact r_convT g m (by simpa using h.1.1) h.1.2 (sE a g _ h.2)
    · cases h
  | .convr m l es, X, C, xk, W, g, e, h => by
    simp only [chE] at h
    split at h
    · simp only [Bool.and_eq_true, Bool.or_eq_true, decide_eq_true_eq] at h
      obtain ⟨l1, l2, l3⟩ := sL (xk := xk) (W := W) es g _ h.1.2
      cases l with
      | true => exact r_convLR g m (by simpa using h.1.1.1) h.1.1.2 l2 h.2 l1
      | false => exact r_convTR g (by simpa using h.1.1.1) h.1.1.2 l2 h.2 l1
    · cases h
  | .convv a, X, C, xk, W, g, e, h => by
    simp only [chE] at h
    split at h
    · simp only [Bool.and_eq_true] at h
      exact r_convv g h.1.1.1 h.1.1.2 h.1.2 (sE a g _ h.2)
    · cases h
  | .meth m f o es, X, C, xk, W, g, e, h => by
    simp only [chE] at h
    split at h
    · rename_i x n ap xs cp
      simp only [Bool.and_eq_true, decide_eq_true_eq] at h
      obtain ⟨⟨⟨⟨⟨h1, h2⟩, h3⟩, h4⟩, h5⟩, h6⟩ := h
      subst h1
      obtain ⟨l1, l2, l3⟩ := sL (xk := xk) (W := W) es g _ h3
      cases xs with
      | nil =>
        cases es with
        | nil => exact r_meth0 g m f h4 h5 (sE o g _ h2)
        | _ => simp only [chL] at h3; cases h3
      | cons y ys => exact r_meth g m f h4 h5 l2 h6 l3 (sE o g _ h2) l1
    · cases h
  | .idx a i, X, C, xk, W, g, e, h => by
    simp only [chE] at h
    split at h
    · simp only [Bool.and_eq_true] at h
      exact r_idx g h.2 (sE a g _ h.1.1) (sE i g _ h.1.2)
    · cases h
  | .slc m a lo hi, X, C, xk, W, g, e, h => by
    simp only [chE] at h
    split at h
    · simp only [Bool.and_eq_true] at h
      exact r_slc m (sE a g _ h.1.1) (sO lo g _ h.1.2) (sO hi g _ h.2)
    · cases h
  | .revs m a, X, C, xk, W, g, e, h => by
    simp only [chE] at h
    split at h
    · exact r_revs m (sE a g _ h)
    · cases h
  | .comp m own elt t it ifs, X, C, xk, W, g, e, h => by
    simp only [chE] at h
    split at h
    · rename_i x tg iter cs sc p
      simp only [Bool.and_eq_true] at h
      obtain ⟨⟨⟨⟨⟨⟨h1, h2⟩, h3⟩, h4⟩, h5⟩, h6⟩, h7⟩ := h
      have pg : ∀ (s : Shared) (H : Hp) (Ca : Addr) (cl : List (Str × Addr)) (fp : List Addr), PG (X.blk s H sc (compEnvC sc cl Ca X.env) fp) tg (LG (rhoI it) X never W0 (tgSl t) (wpG Γ never t)) := fun s H Ca cl fp =>
        rho_pick it h1 (sG t (gx_blk g s H sc Ca cl fp) tg h5) (sGw t (gx_blk g s H sc Ca cl fp) tg h5)
      exact r_comp g h2 (tg_sub h3) h4 (sI it g _ _ h1) pg (fun s H Ca cl fp => sTs ifs (gx_blk g s H sc Ca cl fp) _ h6) (fun s H Ca cl fp => sE elt (gx_blk g s H sc Ca cl fp) _ h7)
    · cases h
  | .comp2 m own own2 elt t it ifs t2 it2 ifs2, X, C, xk, W, g, e, h => by
    simp only [chE] at h
    split at h
    · rename_i x tg iter cs tg2 iter2 cs2 sc p
      simp only [Bool.and_eq_true] at h
      obtain ⟨h1, h2, h3, h4, h5, h6, h7, h8, h9, h10, h11, h12, h13⟩ := h
      have pg : ∀ (s : Shared) (H : Hp) (Ca : Addr) (cl : List (Str × Addr)) (fp : List Addr), PG (X.blk s H sc (compEnvC sc cl Ca X.env) fp) tg (LG (rhoI it) X never W0 (tgSl t) (wpG Γ never t)) := fun s H Ca cl fp =>
        rho_pick it h1 (sG t (gx_blk g s H sc Ca cl fp) tg h8) (sGw t (gx_blk g s H sc Ca cl fp) tg h8)
      have pg2 : ∀ (s : Shared) (H : Hp) (Ca : Addr) (cl : List (Str × Addr)) (fp : List Addr), PG (X.blk s H sc (compEnvC sc cl Ca X.env) fp) tg2 (LG (rhoI it2) X never W0 (tgSl t2) (wpG Γ never t2)) := fun s H Ca cl fp =>
        rho_pick it2 h10 (sG t2 (gx_blk g s H sc Ca cl fp) tg2 h11) (sGw t2 (gx_blk g s H sc Ca cl fp) tg2 h11)
      exact r_comp2 g h2 (tg_sub h3) (tg_sub h4) (tg_sub h5) h6 h7 (sI it g _ _ h1) pg (fun s H Ca cl fp => sTs ifs (gx_blk g s H sc Ca cl fp) _ h9) (fun s H Ca cl fp => sI it2 (gx_blk g s H sc Ca cl fp) _ _ h10) pg2 (fun s H Ca cl fp => sTs ifs2 (gx_blk g s H sc Ca cl fp) _ h12) (fun s H Ca cl fp => sE elt (gx_blk g s H sc Ca cl fp) _ h13)
    · cases h
  | .dc1 m own kx vx t it ifs, X, C, xk, W, g, e, h => by
    simp only [chE] at h
    split at h
    · rename_i x y tg iter cs sc p
      simp only [Bool.and_eq_true] at h
      obtain ⟨h1, h2, h3, h4, hG1, h6, h7, h8⟩ := h
      have pg : ∀ (s : Shared) (H : Hp) (Ca : Addr) (cl : List (Str × Addr)) (fp : List Addr), PG (X.blk s H sc (compEnvC sc cl Ca X.env) fp) tg (LG (rhoI it) X never W0 (tgSl t) (wpG Γ never t)) := fun s H Ca cl fp =>
        rho_pick it h1 (sG t (gx_blk g s H sc Ca cl fp) tg hG1) (sGw t (gx_blk g s H sc Ca cl fp) tg hG1)
      exact r_dc1 g h2 (tg_sub h3) h4 (sI it g _ _ h1) pg (fun s H Ca cl fp => sTs ifs (gx_blk g s H sc Ca cl fp) _ h6) (fun s H Ca cl fp => sE kx (gx_blk g s H sc Ca cl fp) _ h7) (fun s H Ca cl fp => sE vx (gx_blk g s H sc Ca cl fp) _ h8)
    · cases h
  | .dc2 m own own2 kx vx t it ifs t2 it2 ifs2, X, C, xk, W, g, e, h => by
    simp only [chE] at h
    split at h
    · rename_i x y tg iter cs tg2 iter2 cs2 sc p
      simp only [Bool.and_eq_true] at h
      obtain ⟨h1, h2, h3, h4, h5, h6, h7, hG1, h9, hI2, hG2, h12, h13, h14⟩ := h
      have pg : ∀ (s : Shared) (H : Hp) (Ca : Addr) (cl : List (Str × Addr)) (fp : List Addr), PG (X.blk s H sc (compEnvC sc cl Ca X.env) fp) tg (LG (rhoI it) X never W0 (tgSl t) (wpG Γ never t)) := fun s H Ca cl fp =>
        rho_pick it h1 (sG t (gx_blk g s H sc Ca cl fp) tg hG1) (sGw t (gx_blk g s H sc Ca cl fp) tg hG1)
      have pg2 : ∀ (s : Shared) (H : Hp) (Ca : Addr) (cl : List (Str × Addr)) (fp : List Addr), PG (X.blk s H sc (compEnvC sc cl Ca X.env) fp) tg2 (LG (rhoI it2) X never W0 (tgSl t2) (wpG Γ never t2)) := fun s H Ca cl fp =>
        rho_pick it2 hI2 (sG t2 (gx_blk g s H sc Ca cl fp) tg2 hG2) (sGw t2 (gx_blk g s H sc Ca cl fp) tg2 hG2)
      exact r_dc2 g h2 (tg_sub h3) (tg_sub h4) (tg_sub h5) h6 h7 (sI it g _ _ h1) pg (fun s H Ca cl fp => sTs ifs (gx_blk g s H sc Ca cl fp) _ h9) (fun s H Ca cl fp => sI it2 (gx_blk g s H sc Ca cl fp) _ _ hI2) pg2 (fun s H Ca cl fp => sTs ifs2 (gx_blk g s H sc Ca cl fp) _ h12) (fun s H Ca cl fp => sE kx (gx_blk g s H sc Ca cl fp) _ h13) (fun s H Ca cl fp => sE vx (gx_blk g s H sc Ca cl fp) _ h14)
    · cases h
  | .isx xs a cs, X, C, xk, W, g, e, h => by
    simp only [chE] at h
    split at h
    · simp only [Bool.and_eq_true] at h
      obtain ⟨h1, h2, h3, h4, h5, h6⟩ := h
      exact r_isx g g.nve (by simpa using h5) h6 h1 h4 h2 (sE a g _ h3)
    · cases h
  | .frz a, X, C, xk, W, g, e, h => by
    simp only [chE] at h
    exact r_frz (sE a g _ h)
  | .sset m a, X, C, xk, W, g, e, h => by
    simp only [chE] at h
    split at h
    · simp only [Bool.and_eq_true] at h
      exact r_sset g m h.1.1.1 h.1.1.2 h.1.2 (sE a g _ h.2)
    · cases h
  | .ldct a, X, C, xk, W, g, e, h => by
    simp only [chE] at h
    split at h
    · simp only [Bool.and_eq_true] at h
      exact r_ldct g h.1.1.1 h.1.1.2 h.1.2 (sE a g _ h.2)
    · cases h
  | .lset a, X, C, xk, W, g, e, h => by
    simp only [chE] at h
    split at h
    · simp only [Bool.and_eq_true] at h
      exact r_lset g h.1.1.1 h.1.1.2 h.1.2 (sE a g _ h.2)
    · cases h
  | .nil, _, _, _, _, _, _, h
  | .cons .., _, _, _, _, _, _, h
  | .star .., _, _, _, _, _, _, h
  | .ival .., _, _, _, _, _, _, h
  | .irng .., _, _, _, _, _, _, h
  | .ienum .., _, _, _, _, _, _, h
  | .izip .., _, _, _, _, _, _, h
  | .irev .., _, _, _, _, _, _, h
  | .gname .., _, _, _, _, _, _, h
  | .gtup .., _, _, _, _, _, _, h
  | .gsub .., _, _, _, _, _, _, h
  | .asg .., _, _, _, _, _, _, h
  | .par .., _, _, _, _, _, _, h
  | .aug .., _, _, _, _, _, _, h
  | .augs .., _, _, _, _, _, _, h
  | .doc, _, _, _, _, _, _, h
  | .expr .., _, _, _, _, _, _, h
  | .ret .., _, _, _, _, _, _, h
  | .retn, _, _, _, _, _, _, h
  | .ifs .., _, _, _, _, _, _, h
  | .for_ .., _, _, _, _, _, _, h
  | .while_ .., _, _, _, _, _, _, h
  | .pass, _, _, _, _, _, _, h
  | .brk, _, _, _, _, _, _, h
  | .cont, _, _, _, _, _, _, h
  | .raise .., _, _, _, _, _, _, h
  | .tryx .., _, _, _, _, _, _, h => by simp [chE] at h
theorem sT {G : Gc} {Γ : String → SpD} {k : Nat} : ∀ (t : T) {X : Cx} {C : Ct} {xk : XD} {W : WX} (g : GX X G C Γ k W) (e : Expr), chT G t C e = true → PT X e (LT X xk W (wpT Γ xk t))
  | .not a, X, C, xk, W, g, e, h => by
    simp only [chT] at h
    split at h
    · exact q_not (sT a g _ h)
    · cases h
  | .and a b, X, C, xk, W, g, e, h => by
    simp only [chT] at h
    split at h
    · simp only [Bool.and_eq_true] at h
      exact q_and (sT a g _ h.1) (pw_and1 (sT b g _ h.2))
    · simp only [Bool.and_eq_true] at h
      exact q_and (sT a g _ h.1) (bool_pw (sT b g _ h.2))
    · cases h
  | .or a b, X, C, xk, W, g, e, h => by
    simp only [chT] at h
    split at h
    · simp only [Bool.and_eq_true] at h
      exact q_or (sT a g _ h.1) (pw_or1 (sT b g _ h.2))
    · simp only [Bool.and_eq_true] at h
      exact q_or (sT a g _ h.1) (bool_pw (sT b g _ h.2))
    · cases h
  | .cmp op a b, X, C, xk, W, g, e, h => by
    simp only [chT] at h
    split at h
    · simp only [Bool.and_eq_true] at h
      rw [cmpB_eq h.1.1.1]
      exact q_cmp g op h.2 (sE a g _ h.1.1.2) (sE b g _ h.1.2)
    · cases h
  | .chain o1 o2 a b c, X, C, xk, W, g, e, h => by
    simp only [chT] at h
    split at h
    · simp only [Bool.and_eq_true] at h
      rw [cmpB_eq h.1.1.1.1.1, cmpB_eq h.1.1.1.1.2]
      exact q_chain g o1 o2 h.2 (sE a g _ h.1.1.1.2) (sE b g _ h.1.1.2) (sE c g _ h.1.2)
    · cases h
  | .tst a, X, C, xk, W, g, e, h => by
    simp only [chT, Bool.and_eq_true] at h
    exact q_tst h.1 (sE a g _ h.2)
  | .nil, _, _, _, _, _, _, h
  | .cons .., _, _, _, _, _, _, h
  | .var .., _, _, _, _, _, _, h
  | .lit .., _, _, _, _, _, _, h
  | .bin .., _, _, _, _, _, _, h
  | .neg .., _, _, _, _, _, _, h
  | .ite .., _, _, _, _, _, _, h
  | .tup .., _, _, _, _, _, _, h
  | .lst .., _, _, _, _, _, _, h
  | .dct .., _, _, _, _, _, _, h
  | .call .., _, _, _, _, _, _, h
  | .callk .., _, _, _, _, _, _, h
  | .blt .., _, _, _, _, _, _, h
  | .isi .., _, _, _, _, _, _, h
  | .conv .., _, _, _, _, _, _, h
  | .convr .., _, _, _, _, _, _, h
  | .convv .., _, _, _, _, _, _, h
  | .meth .., _, _, _, _, _, _, h
  | .idx .., _, _, _, _, _, _, h
  | .slc .., _, _, _, _, _, _, h
  | .revs .., _, _, _, _, _, _, h
  | .sset .., _, _, _, _, _, _, h
  | .ldct .., _, _, _, _, _, _, h
  | .lset .., _, _, _, _, _, _, h
  | .comp .., _, _, _, _, _, _, h
  | .comp2 .., _, _, _, _, _, _, h
  | .tups .., _, _, _, _, _, _, h
  | .star .., _, _, _, _, _, _, h
  | .dc1 .., _, _, _, _, _, _, h
  | .dc2 .., _, _, _, _, _, _, h
  | .isx .., _, _, _, _, _, _, h
  | .frz .., _, _, _, _, _, _, h
  | .ival .., _, _, _, _, _, _, h
  | .irng .., _, _, _, _, _, _, h
  | .ienum .., _, _, _, _, _, _, h
  | .izip .., _, _, _, _, _, _, h
  | .irev .., _, _, _, _, _, _, h
  | .gname .., _, _, _, _, _, _, h
  | .gtup .., _, _, _, _, _, _, h
  | .gsub .., _, _, _, _, _, _, h
  | .asg .., _, _, _, _, _, _, h
  | .par .., _, _, _, _, _, _, h
  | .aug .., _, _, _, _, _, _, h
  | .augs .., _, _, _, _, _, _, h
  | .doc, _, _, _, _, _, _, h
  | .expr .., _, _, _, _, _, _, h
  | .ret .., _, _, _, _, _, _, h
  | .retn, _, _, _, _, _, _, h
  | .ifs .., _, _, _, _, _, _, h
  | .for_ .., _, _, _, _, _, _, h
  | .while_ .., _, _, _, _, _, _, h
  | .pass, _, _, _, _, _, _, h
  | .brk, _, _, _, _, _, _, h
  | .cont, _, _, _, _, _, _, h
  | .raise .., _, _, _, _, _, _, h
  | .tryx .., _, _, _, _, _, _, h => by simp [chT] at h
theorem sTs {G : Gc} {Γ : String → SpD} {k : Nat} : ∀ (t : T) {X : Cx} {C : Ct} {xk : XD} {W : WX} (g : GX X G C Γ k W) (es : List Expr), chTs G t C es = true → PTs X es (LT X xk W (wpTs Γ xk t))
  | .nil, X, C, xk, W, g, es, h => by
    simp only [chTs] at h
    split at h
    · exact q_nilTs
    · cases h
  | .cons a r, X, C, xk, W, g, es, h => by
    simp only [chTs] at h
    split at h
    · exact pts_one (sT a g _ h)
    · cases h
  | .var .., _, _, _, _, _, _, h
  | .lit .., _, _, _, _, _, _, h
  | .bin .., _, _, _, _, _, _, h
  | .neg .., _, _, _, _, _, _, h
  | .not .., _, _, _, _, _, _, h
  | .and .., _, _, _, _, _, _, h
  | .or .., _, _, _, _, _, _, h
  | .tst .., _, _, _, _, _, _, h
  | .cmp .., _, _, _, _, _, _, h
  | .chain .., _, _, _, _, _, _, h
  | .ite .., _, _, _, _, _, _, h
  | .tup .., _, _, _, _, _, _, h
  | .lst .., _, _, _, _, _, _, h
  | .dct .., _, _, _, _, _, _, h
  | .call .., _, _, _, _, _, _, h
  | .callk .., _, _, _, _, _, _, h
  | .blt .., _, _, _, _, _, _, h
  | .isi .., _, _, _, _, _, _, h
  | .conv .., _, _, _, _, _, _, h
  | .convr .., _, _, _, _, _, _, h
  | .convv .., _, _, _, _, _, _, h
  | .meth .., _, _, _, _, _, _, h
  | .idx .., _, _, _, _, _, _, h
  | .slc .., _, _, _, _, _, _, h
  | .revs .., _, _, _, _, _, _, h
  | .sset .., _, _, _, _, _, _, h
  | .ldct .., _, _, _, _, _, _, h
  | .lset .., _, _, _, _, _, _, h
  | .comp .., _, _, _, _, _, _, h
  | .comp2 .., _, _, _, _, _, _, h
  | .tups .., _, _, _, _, _, _, h
  | .star .., _, _, _, _, _, _, h
  | .dc1 .., _, _, _, _, _, _, h
  | .dc2 .., _, _, _, _, _, _, h
  | .isx .., _, _, _, _, _, _, h
  | .frz .., _, _, _, _, _, _, h
  | .ival .., _, _, _, _, _, _, h
  | .irng .., _, _, _, _, _, _, h
  | .ienum .., _, _, _, _, _, _, h
  | .izip .., _, _, _, _, _, _, h
  | .irev .., _, _, _, _, _, _, h
  | .gname .., _, _, _, _, _, _, h
  | .gtup .., _, _, _, _, _, _, h
  | .gsub .., _, _, _, _, _, _, h
  | .asg .., _, _, _, _, _, _, h
  | .par .., _, _, _, _, _, _, h
  | .aug .., _, _, _, _, _, _, h
  | .augs .., _, _, _, _, _, _, h
  | .doc, _, _, _, _, _, _, h
  | .expr .., _, _, _, _, _, _, h
  | .ret .., _, _, _, _, _, _, h
  | .retn, _, _, _, _, _, _, h
  | .ifs .., _, _, _, _, _, _, h
  | .for_ .., _, _, _, _, _, _, h
  | .while_ .., _, _, _, _, _, _, h
  | .pass, _, _, _, _, _, _, h
  | .brk, _, _, _, _, _, _, h
  | .cont, _, _, _, _, _, _, h
  | .raise .., _, _, _, _, _, _, h
  | .tryx .., _, _, _, _, _, _, h => by simp [chTs] at h
theorem sL {G : Gc} {Γ : String → SpD} {k : Nat} : ∀ (t : T) {X : Cx} {C : Ct} {xk : XD} {W : WX} (g : GX X G C Γ k W) (es : List Expr), chL G t C es = true → PA X es (LL X xk W (cntL t) (wpL Γ xk t)) ∧ allPlain es = true ∧ es.length = cntL t
  | .nil, X, C, xk, W, g, es, h => by
    simp only [chL] at h
    split at h
    · exact ⟨r_nil, rfl, rfl⟩
    · cases h
  | .cons a r, X, C, xk, W, g, es, h => by
    simp only [chL] at h
    split at h
    · simp only [Bool.and_eq_true] at h
      obtain ⟨l1, l2, l3⟩ := sL (xk := xk) (W := W) r g _ h.2
      exact ⟨r_cons h.1.2 (sE a g _ h.1.1) l1, by simp only [allPlain, h.1.2, l2, Bool.and_self], by simp [cntL, l3]⟩
    · cases h
  | .var .., _, _, _, _, _, _, h
  | .lit .., _, _, _, _, _, _, h
  | .bin .., _, _, _, _, _, _, h
  | .neg .., _, _, _, _, _, _, h
  | .not .., _, _, _, _, _, _, h
  | .and .., _, _, _, _, _, _, h
  | .or .., _, _, _, _, _, _, h
  | .tst .., _, _, _, _, _, _, h
  | .cmp .., _, _, _, _, _, _, h
  | .chain .., _, _, _, _, _, _, h
  | .ite .., _, _, _, _, _, _, h
  | .tup .., _, _, _, _, _, _, h
  | .lst .., _, _, _, _, _, _, h
  | .dct .., _, _, _, _, _, _, h
  | .call .., _, _, _, _, _, _, h
  | .callk .., _, _, _, _, _, _, h
  | .blt .., _, _, _, _, _, _, h
  | .isi .., _, _, _, _, _, _, h
  | .conv .., _, _, _, _, _, _, h
  | .convr .., _, _, _, _, _, _, h
  | .convv .., _, _, _, _, _, _, h
  | .meth .., _, _, _, _, _, _, h
  | .idx .., _, _, _, _, _, _, h
  | .slc .., _, _, _, _, _, _, h
  | .revs .., _, _, _, _, _, _, h
  | .sset .., _, _, _, _, _, _, h
  | .ldct .., _, _, _, _, _, _, h
  | .lset .., _, _, _, _, _, _, h
  | .comp .., _, _, _, _, _, _, h
  | .comp2 .., _, _, _, _, _, _, h
  | .tups .., _, _, _, _, _, _, h
  | .star .., _, _, _, _, _, _, h
  | .dc1 .., _, _, _, _, _, _, h
  | .dc2 .., _, _, _, _, _, _, h
  | .isx .., _, _, _, _, _, _, h
  | .frz .., _, _, _, _, _, _, h
  | .ival .., _, _, _, _, _, _, h
  | .irng .., _, _, _, _, _, _, h
  | .ienum .., _, _, _, _, _, _, h
  | .izip .., _, _, _, _, _, _, h
  | .irev .., _, _, _, _, _, _, h
  | .gname .., _, _, _, _, _, _, h
  | .gtup .., _, _, _, _, _, _, h
  | .gsub .., _, _, _, _, _, _, h
  | .asg .., _, _, _, _, _, _, h
  | .par .., _, _, _, _, _, _, h
  | .aug .., _, _, _, _, _, _, h
  | .augs .., _, _, _, _, _, _, h
  | .doc, _, _, _, _, _, _, h
  | .expr .., _, _, _, _, _, _, h
  | .ret .., _, _, _, _, _, _, h
  | .retn, _, _, _, _, _, _, h
  | .ifs .., _, _, _, _, _, _, h
  | .for_ .., _, _, _, _, _, _, h
  | .while_ .., _, _, _, _, _, _, h
  | .pass, _, _, _, _, _, _, h
  | .brk, _, _, _, _, _, _, h
  | .cont, _, _, _, _, _, _, h
  | .raise .., _, _, _, _, _, _, h
  | .tryx .., _, _, _, _, _, _, h => by simp [chL] at h
theorem sX {G : Gc} {Γ : String → SpD} {k : Nat} : ∀ (t : T) {X : Cx} {C : Ct} {xk : XD} {W : WX} (g : GX X G C Γ k W) (es : List Expr), chX G t C es = true → PA X es (LXs X xk W (wpX Γ xk t))
  | .nil, X, C, xk, W, g, es, h => by
    simp only [chX] at h
    split at h
    · exact x_nil
    · cases h
  | .star a r, X, C, xk, W, g, es, h => by
    simp only [chX] at h
    split at h
    · simp only [Bool.and_eq_true] at h
      exact x_star (sE a g _ h.1) (sX r g _ h.2)
    · cases h
  | .cons a r, X, C, xk, W, g, es, h => by
    simp only [chX] at h
    split at h
    · simp only [Bool.and_eq_true] at h
      exact x_cons h.2.1 (sE a g _ h.1) (sX r g _ h.2.2)
    · cases h
  | .var .., _, _, _, _, _, _, h
  | .lit .., _, _, _, _, _, _, h
  | .bin .., _, _, _, _, _, _, h
  | .neg .., _, _, _, _, _, _, h
  | .not .., _, _, _, _, _, _, h
  | .and .., _, _, _, _, _, _, h
  | .or .., _, _, _, _, _, _, h
  | .tst .., _, _, _, _, _, _, h
  | .cmp .., _, _, _, _, _, _, h
  | .chain .., _, _, _, _, _, _, h
  | .ite .., _, _, _, _, _, _, h
  | .tup .., _, _, _, _, _, _, h
  | .lst .., _, _, _, _, _, _, h
  | .dct .., _, _, _, _, _, _, h
  | .call .., _, _, _, _, _, _, h
  | .callk .., _, _, _, _, _, _, h
  | .blt .., _, _, _, _, _, _, h
  | .isi .., _, _, _, _, _, _, h
  | .conv .., _, _, _, _, _, _, h
  | .convr .., _, _, _, _, _, _, h
  | .convv .., _, _, _, _, _, _, h
  | .meth .., _, _, _, _, _, _, h
  | .idx .., _, _, _, _, _, _, h
  | .slc .., _, _, _, _, _, _, h
  | .revs .., _, _, _, _, _, _, h
  | .sset .., _, _, _, _, _, _, h
  | .ldct .., _, _, _, _, _, _, h
  | .lset .., _, _, _, _, _, _, h
  | .comp .., _, _, _, _, _, _, h
  | .comp2 .., _, _, _, _, _, _, h
  | .tups .., _, _, _, _, _, _, h
  | .dc1 .., _, _, _, _, _, _, h
  | .dc2 .., _, _, _, _, _, _, h
  | .isx .., _, _, _, _, _, _, h
  | .frz .., _, _, _, _, _, _, h
  | .ival .., _, _, _, _, _, _, h
  | .irng .., _, _, _, _, _, _, h
  | .ienum .., _, _, _, _, _, _, h
  | .izip .., _, _, _, _, _, _, h
  | .irev .., _, _, _, _, _, _, h
  | .gname .., _, _, _, _, _, _, h
  | .gtup .., _, _, _, _, _, _, h
  | .gsub .., _, _, _, _, _, _, h
  | .asg .., _, _, _, _, _, _, h
  | .par .., _, _, _, _, _, _, h
  | .aug .., _, _, _, _, _, _, h
  | .augs .., _, _, _, _, _, _, h
  | .doc, _, _, _, _, _, _, h
  | .expr .., _, _, _, _, _, _, h
  | .ret .., _, _, _, _, _, _, h
  | .retn, _, _, _, _, _, _, h
  | .ifs .., _, _, _, _, _, _, h
  | .for_ .., _, _, _, _, _, _, h
  | .while_ .., _, _, _, _, _, _, h
  | .pass, _, _, _, _, _, _, h
  | .brk, _, _, _, _, _, _, h
  | .cont, _, _, _, _, _, _, h
  | .raise .., _, _, _, _, _, _, h
  | .tryx .., _, _, _, _, _, _, h => by simp [chX] at h
theorem sO {G : Gc} {Γ : String → SpD} {k : Nat} : ∀ (t : T) {X : Cx} {C : Ct} {xk : XD} {W : WX} (g : GX X G C Γ k W) (e : Option Expr), chO G t C e = true → PO X e (LO X xk W (wpO Γ xk t))
  | .nil, X, C, xk, W, g, e, h => by
    simp only [chO] at h
    split at h
    · exact r_onone
    · cases h
  | .cons a r, X, C, xk, W, g, e, h => by
    simp only [chO] at h
    split at h
    · exact r_osome (sE a g _ h)
    · cases h
  | .var .., _, _, _, _, _, _, h
  | .lit .., _, _, _, _, _, _, h
  | .bin .., _, _, _, _, _, _, h
  | .neg .., _, _, _, _, _, _, h
  | .not .., _, _, _, _, _, _, h
  | .and .., _, _, _, _, _, _, h
  | .or .., _, _, _, _, _, _, h
  | .tst .., _, _, _, _, _, _, h
  | .cmp .., _, _, _, _, _, _, h
  | .chain .., _, _, _, _, _, _, h
  | .ite .., _, _, _, _, _, _, h
  | .tup .., _, _, _, _, _, _, h
  | .lst .., _, _, _, _, _, _, h
  | .dct .., _, _, _, _, _, _, h
  | .call .., _, _, _, _, _, _, h
  | .callk .., _, _, _, _, _, _, h
  | .blt .., _, _, _, _, _, _, h
  | .isi .., _, _, _, _, _, _, h
  | .conv .., _, _, _, _, _, _, h
  | .convr .., _, _, _, _, _, _, h
  | .convv .., _, _, _, _, _, _, h
  | .meth .., _, _, _, _, _, _, h
  | .idx .., _, _, _, _, _, _, h
  | .slc .., _, _, _, _, _, _, h
  | .revs .., _, _, _, _, _, _, h
  | .sset .., _, _, _, _, _, _, h
  | .ldct .., _, _, _, _, _, _, h
  | .lset .., _, _, _, _, _, _, h
  | .comp .., _, _, _, _, _, _, h
  | .comp2 .., _, _, _, _, _, _, h
  | .tups .., _, _, _, _, _, _, h
  | .star .., _, _, _, _, _, _, h
  | .dc1 .., _, _, _, _, _, _, h
  | .dc2 .., _, _, _, _, _, _, h
  | .isx .., _, _, _, _, _, _, h
  | .frz .., _, _, _, _, _, _, h
  | .ival .., _, _, _, _, _, _, h
  | .irng .., _, _, _, _, _, _, h
  | .ienum .., _, _, _, _, _, _, h
  | .izip .., _, _, _, _, _, _, h
  | .irev .., _, _, _, _, _, _, h
  | .gname .., _, _, _, _, _, _, h
  | .gtup .., _, _, _, _, _, _, h
  | .gsub .., _, _, _, _, _, _, h
  | .asg .., _, _, _, _, _, _, h
  | .par .., _, _, _, _, _, _, h
  | .aug .., _, _, _, _, _, _, h
  | .augs .., _, _, _, _, _, _, h
  | .doc, _, _, _, _, _, _, h
  | .expr .., _, _, _, _, _, _, h
  | .ret .., _, _, _, _, _, _, h
  | .retn, _, _, _, _, _, _, h
  | .ifs .., _, _, _, _, _, _, h
  | .for_ .., _, _, _, _, _, _, h
  | .while_ .., _, _, _, _, _, _, h
  | .pass, _, _, _, _, _, _, h
  | .brk, _, _, _, _, _, _, h
  | .cont, _, _, _, _, _, _, h
  | .raise .., _, _, _, _, _, _, h
  | .tryx .., _, _, _, _, _, _, h => by simp [chO] at h
theorem sI {G : Gc} {Γ : String → SpD} {k : Nat} : ∀ (t : T) {X : Cx} {C : Ct} {xk : XD} {W : WX} (g : GX X G C Γ k W) (tg e : Expr), chI G t C tg e = true → PI X tg e (LI (rhoI t) X xk W (wpI Γ xk t))
  | .ival a, X, C, xk, W, g, tg, e, h => by
    simp only [chI] at h
    exact w_ival (sE a g _ h)
  | .irng es, X, C, xk, W, g, tg, e, h => by
    simp only [chI] at h
    split at h
    · simp only [Bool.and_eq_true, Bool.or_eq_true, decide_eq_true_eq] at h
      obtain ⟨l1, l2, l3⟩ := sL (xk := xk) (W := W) es g _ h.1.2
      exact w_irng g h.1.1 l2 l3 h.2 l1
    · cases h
  | .irev a, X, C, xk, W, g, tg, e, h => by
    simp only [chI] at h
    split at h
    · simp only [Bool.and_eq_true] at h
      exact w_irev g h.1.1 h.2 (sE a g _ h.1.2)
    · cases h
  | .ienum a, X, C, xk, W, g, tg, e, h => by
    simp only [chI] at h
    split at h
    · simp only [Bool.and_eq_true] at h
      exact w_ienum g h.1.1.1 h.1.2 h.2 (sE a g _ h.1.1.2)
    · cases h
  | .izip es, X, C, xk, W, g, tg, e, h => by
    simp only [chI] at h
    split at h
    · simp only [Bool.and_eq_true, decide_eq_true_eq] at h
      obtain ⟨l1, l2, l3⟩ := sL (xk := xk) (W := W) es g _ h.1.1.2
      exact w_izip g h.1.1.1 h.1.2 l2 l3 h.2 l1
    · cases h
  | .nil, _, _, _, _, _, _, _, h
  | .cons .., _, _, _, _, _, _, _, h
  | .var .., _, _, _, _, _, _, _, h
  | .lit .., _, _, _, _, _, _, _, h
  | .bin .., _, _, _, _, _, _, _, h
  | .neg .., _, _, _, _, _, _, _, h
  | .not .., _, _, _, _, _, _, _, h
  | .and .., _, _, _, _, _, _, _, h
  | .or .., _, _, _, _, _, _, _, h
  | .tst .., _, _, _, _, _, _, _, h
  | .cmp .., _, _, _, _, _, _, _, h
  | .chain .., _, _, _, _, _, _, _, h
  | .ite .., _, _, _, _, _, _, _, h
  | .tup .., _, _, _, _, _, _, _, h
  | .lst .., _, _, _, _, _, _, _, h
  | .dct .., _, _, _, _, _, _, _, h
  | .call .., _, _, _, _, _, _, _, h
  | .callk .., _, _, _, _, _, _, _, h
  | .blt .., _, _, _, _, _, _, _, h
  | .isi .., _, _, _, _, _, _, _, h
  | .conv .., _, _, _, _, _, _, _, h
  | .convr .., _, _, _, _, _, _, _, h
  | .convv .., _, _, _, _, _, _, _, h
  | .meth .., _, _, _, _, _, _, _, h
  | .idx .., _, _, _, _, _, _, _, h
  | .slc .., _, _, _, _, _, _, _, h
  | .revs .., _, _, _, _, _, _, _, h
  | .sset .., _, _, _, _, _, _, _, h
  | .ldct .., _, _, _, _, _, _, _, h
  | .lset .., _, _, _, _, _, _, _, h
  | .comp .., _, _, _, _, _, _, _, h
  | .comp2 .., _, _, _, _, _, _, _, h
  | .tups .., _, _, _, _, _, _, _, h
  | .star .., _, _, _, _, _, _, _, h
  | .dc1 .., _, _, _, _, _, _, _, h
  | .dc2 .., _, _, _, _, _, _, _, h
  | .isx .., _, _, _, _, _, _, _, h
  | .frz .., _, _, _, _, _, _, _, h
  | .gname .., _, _, _, _, _, _, _, h
  | .gtup .., _, _, _, _, _, _, _, h
  | .gsub .., _, _, _, _, _, _, _, h
  | .asg .., _, _, _, _, _, _, _, h
  | .par .., _, _, _, _, _, _, _, h
  | .aug .., _, _, _, _, _, _, _, h
  | .augs .., _, _, _, _, _, _, _, h
  | .doc, _, _, _, _, _, _, _, h
  | .expr .., _, _, _, _, _, _, _, h
  | .ret .., _, _, _, _, _, _, _, h
  | .retn, _, _, _, _, _, _, _, h
  | .ifs .., _, _, _, _, _, _, _, h
  | .for_ .., _, _, _, _, _, _, _, h
  | .while_ .., _, _, _, _, _, _, _, h
  | .pass, _, _, _, _, _, _, _, h
  | .brk, _, _, _, _, _, _, _, h
  | .cont, _, _, _, _, _, _, _, h
  | .raise .., _, _, _, _, _, _, _, h
  | .tryx .., _, _, _, _, _, _, _, h => by simp [chI] at h
theorem sG {G : Gc} {Γ : String → SpD} {k : Nat} : ∀ (t : T) {X : Cx} {C : Ct} {xk : XD} {W : WX} (g : GX X G C Γ k W) (e : Expr), chG G t C e = true → PG X e (LG RV X xk W (tgSl t) (wpG Γ xk t))
  | .gname i, X, C, xk, W, g, e, h => by
    simp only [chG] at h
    split at h
    · simp only [Bool.and_eq_true, decide_eq_true_eq] at h
      exact t_name g h.1 h.2
    · cases h
  | .gtup gs, X, C, xk, W, g, e, h => by
    simp only [chG] at h
    split at h
    · obtain ⟨l1, l2, l3⟩ := sGs (xk := xk) (W := W) gs g _ h
      exact LG.of (t_tup g l2 l3 l1)
    · cases h
  | .gsub o i, X, C, xk, W, g, e, h => by
    simp only [chG] at h
    split at h
    · simp only [Bool.and_eq_true] at h
      exact t_sub g h.2 (sE o g _ h.1.1) (sE i g _ h.1.2)
    · cases h
  | .nil, _, _, _, _, _, _, h
  | .cons .., _, _, _, _, _, _, h
  | .var .., _, _, _, _, _, _, h
  | .lit .., _, _, _, _, _, _, h
  | .bin .., _, _, _, _, _, _, h
  | .neg .., _, _, _, _, _, _, h
  | .not .., _, _, _, _, _, _, h
  | .and .., _, _, _, _, _, _, h
  | .or .., _, _, _, _, _, _, h
  | .tst .., _, _, _, _, _, _, h
  | .cmp .., _, _, _, _, _, _, h
  | .chain .., _, _, _, _, _, _, h
  | .ite .., _, _, _, _, _, _, h
  | .tup .., _, _, _, _, _, _, h
  | .lst .., _, _, _, _, _, _, h
  | .dct .., _, _, _, _, _, _, h
  | .call .., _, _, _, _, _, _, h
  | .callk .., _, _, _, _, _, _, h
  | .blt .., _, _, _, _, _, _, h
  | .isi .., _, _, _, _, _, _, h
  | .conv .., _, _, _, _, _, _, h
  | .convr .., _, _, _, _, _, _, h
  | .convv .., _, _, _, _, _, _, h
  | .meth .., _, _, _, _, _, _, h
  | .idx .., _, _, _, _, _, _, h
  | .slc .., _, _, _, _, _, _, h
  | .revs .., _, _, _, _, _, _, h
  | .sset .., _, _, _, _, _, _, h
  | .ldct .., _, _, _, _, _, _, h
  | .lset .., _, _, _, _, _, _, h
  | .comp .., _, _, _, _, _, _, h
  | .comp2 .., _, _, _, _, _, _, h
  | .tups .., _, _, _, _, _, _, h
  | .star .., _, _, _, _, _, _, h
  | .dc1 .., _, _, _, _, _, _, h
  | .dc2 .., _, _, _, _, _, _, h
  | .isx .., _, _, _, _, _, _, h
  | .frz .., _, _, _, _, _, _, h
  | .ival .., _, _, _, _, _, _, h
  | .irng .., _, _, _, _, _, _, h
  | .ienum .., _, _, _, _, _, _, h
  | .izip .., _, _, _, _, _, _, h
  | .irev .., _, _, _, _, _, _, h
  | .asg .., _, _, _, _, _, _, h
  | .par .., _, _, _, _, _, _, h
  | .aug .., _, _, _, _, _, _, h
  | .augs .., _, _, _, _, _, _, h
  | .doc, _, _, _, _, _, _, h
  | .expr .., _, _, _, _, _, _, h
  | .ret .., _, _, _, _, _, _, h
  | .retn, _, _, _, _, _, _, h
  | .ifs .., _, _, _, _, _, _, h
  | .for_ .., _, _, _, _, _, _, h
  | .while_ .., _, _, _, _, _, _, h
  | .pass, _, _, _, _, _, _, h
  | .brk, _, _, _, _, _, _, h
  | .cont, _, _, _, _, _, _, h
  | .raise .., _, _, _, _, _, _, h
  | .tryx .., _, _, _, _, _, _, h => by simp [chG] at h
theorem sGw {G : Gc} {Γ : String → SpD} {k : Nat} : ∀ (t : T) {X : Cx} {C : Ct} {xk : XD} {W : WX} (g : GX X G C Γ k W) (e : Expr), chG G t C e = true → isTupE e = true → PG X e (LG RW X xk W (tgSl t) (wpG Γ xk t))
  | .gname i, X, C, xk, W, g, e, h, hw => by
    simp only [chG] at h
    split at h
    · cases hw
    · cases h
  | .gtup gs, X, C, xk, W, g, e, h, hw => by
    simp only [chG] at h
    split at h
    · obtain ⟨l1, l2, l3⟩ := sGs (xk := xk) (W := W) gs g _ h
      exact t_tup g l2 l3 l1
    · cases h
  | .gsub o i, X, C, xk, W, g, e, h, hw => by
    simp only [chG] at h
    split at h
    · cases hw
    · cases h
  | .nil, _, _, _, _, _, _, h, _
  | .cons .., _, _, _, _, _, _, h, _
  | .var .., _, _, _, _, _, _, h, _
  | .lit .., _, _, _, _, _, _, h, _
  | .bin .., _, _, _, _, _, _, h, _
  | .neg .., _, _, _, _, _, _, h, _
  | .not .., _, _, _, _, _, _, h, _
  | .and .., _, _, _, _, _, _, h, _
  | .or .., _, _, _, _, _, _, h, _
  | .tst .., _, _, _, _, _, _, h, _
  | .cmp .., _, _, _, _, _, _, h, _
  | .chain .., _, _, _, _, _, _, h, _
  | .ite .., _, _, _, _, _, _, h, _
  | .tup .., _, _, _, _, _, _, h, _
  | .lst .., _, _, _, _, _, _, h, _
  | .dct .., _, _, _, _, _, _, h, _
  | .call .., _, _, _, _, _, _, h, _
  | .callk .., _, _, _, _, _, _, h, _
  | .blt .., _, _, _, _, _, _, h, _
  | .isi .., _, _, _, _, _, _, h, _
  | .conv .., _, _, _, _, _, _, h, _
  | .convr .., _, _, _, _, _, _, h, _
  | .convv .., _, _, _, _, _, _, h, _
  | .meth .., _, _, _, _, _, _, h, _
  | .idx .., _, _, _, _, _, _, h, _
  | .slc .., _, _, _, _, _, _, h, _
  | .revs .., _, _, _, _, _, _, h, _
  | .sset .., _, _, _, _, _, _, h, _
  | .ldct .., _, _, _, _, _, _, h, _
  | .lset .., _, _, _, _, _, _, h, _
  | .comp .., _, _, _, _, _, _, h, _
  | .comp2 .., _, _, _, _, _, _, h, _
  | .tups .., _, _, _, _, _, _, h, _
  | .star .., _, _, _, _, _, _, h, _
  | .dc1 .., _, _, _, _, _, _, h, _
  | .dc2 .., _, _, _, _, _, _, h, _
  | .isx .., _, _, _, _, _, _, h, _
  | .frz .., _, _, _, _, _, _, h, _
  | .ival .., _, _, _, _, _, _, h, _
  | .irng .., _, _, _, _, _, _, h, _
  | .ienum .., _, _, _, _, _, _, h, _
  | .izip .., _, _, _, _, _, _, h, _
  | .irev .., _, _, _, _, _, _, h, _
  | .asg .., _, _, _, _, _, _, h, _
  | .par .., _, _, _, _, _, _, h, _
  | .aug .., _, _, _, _, _, _, h, _
  | .augs .., _, _, _, _, _, _, h, _
  | .doc, _, _, _, _, _, _, h, _
  | .expr .., _, _, _, _, _, _, h, _
  | .ret .., _, _, _, _, _, _, h, _
  | .retn, _, _, _, _, _, _, h, _
  | .ifs .., _, _, _, _, _, _, h, _
  | .for_ .., _, _, _, _, _, _, h, _
  | .while_ .., _, _, _, _, _, _, h, _
  | .pass, _, _, _, _, _, _, h, _
  | .brk, _, _, _, _, _, _, h, _
  | .cont, _, _, _, _, _, _, h, _
  | .raise .., _, _, _, _, _, _, h, _
  | .tryx .., _, _, _, _, _, _, h, _ => by simp [chG] at h
theorem sGs {G : Gc} {Γ : String → SpD} {k : Nat} : ∀ (t : T) {X : Cx} {C : Ct} {xk : XD} {W : WX} (g : GX X G C Γ k W) (es : List Expr), chGs G t C es = true → PGs X es (LGs X xk W (tgSl t) (wpGs Γ xk t)) ∧ allPlain es = true ∧ es.length = cntL t
  | .nil, X, C, xk, W, g, es, h => by
    simp only [chGs] at h
    split at h
    · exact ⟨t_nil, rfl, rfl⟩
    · cases h
  | .cons a r, X, C, xk, W, g, es, h => by
    simp only [chGs] at h
    split at h
    · simp only [Bool.and_eq_true] at h
      obtain ⟨l1, l2, l3⟩ := sGs (xk := xk) (W := W) r g _ h.2
      exact ⟨t_cons h.1.2 (sG a g _ h.1.1) l1, by simp only [allPlain, h.1.2, l2, Bool.and_self], by simp [cntL, l3]⟩
    · cases h
  | .var .., _, _, _, _, _, _, h
  | .lit .., _, _, _, _, _, _, h
  | .bin .., _, _, _, _, _, _, h
  | .neg .., _, _, _, _, _, _, h
  | .not .., _, _, _, _, _, _, h
  | .and .., _, _, _, _, _, _, h
  | .or .., _, _, _, _, _, _, h
  | .tst .., _, _, _, _, _, _, h
  | .cmp .., _, _, _, _, _, _, h
  | .chain .., _, _, _, _, _, _, h
  | .ite .., _, _, _, _, _, _, h
  | .tup .., _, _, _, _, _, _, h
  | .lst .., _, _, _, _, _, _, h
  | .dct .., _, _, _, _, _, _, h
  | .call .., _, _, _, _, _, _, h
  | .callk .., _, _, _, _, _, _, h
  | .blt .., _, _, _, _, _, _, h
  | .isi .., _, _, _, _, _, _, h
  | .conv .., _, _, _, _, _, _, h
  | .convr .., _, _, _, _, _, _, h
  | .convv .., _, _, _, _, _, _, h
  | .meth .., _, _, _, _, _, _, h
  | .idx .., _, _, _, _, _, _, h
  | .slc .., _, _, _, _, _, _, h
  | .revs .., _, _, _, _, _, _, h
  | .sset .., _, _, _, _, _, _, h
  | .ldct .., _, _, _, _, _, _, h
  | .lset .., _, _, _, _, _, _, h
  | .comp .., _, _, _, _, _, _, h
  | .comp2 .., _, _, _, _, _, _, h
  | .tups .., _, _, _, _, _, _, h
  | .star .., _, _, _, _, _, _, h
  | .dc1 .., _, _, _, _, _, _, h
  | .dc2 .., _, _, _, _, _, _, h
  | .isx .., _, _, _, _, _, _, h
  | .frz .., _, _, _, _, _, _, h
  | .ival .., _, _, _, _, _, _, h
  | .irng .., _, _, _, _, _, _, h
  | .ienum .., _, _, _, _, _, _, h
  | .izip .., _, _, _, _, _, _, h
  | .irev .., _, _, _, _, _, _, h
  | .gname .., _, _, _, _, _, _, h
  | .gtup .., _, _, _, _, _, _, h
  | .gsub .., _, _, _, _, _, _, h
  | .asg .., _, _, _, _, _, _, h
  | .par .., _, _, _, _, _, _, h
  | .aug .., _, _, _, _, _, _, h
  | .augs .., _, _, _, _, _, _, h
  | .doc, _, _, _, _, _, _, h
  | .expr .., _, _, _, _, _, _, h
  | .ret .., _, _, _, _, _, _, h
  | .retn, _, _, _, _, _, _, h
  | .ifs .., _, _, _, _, _, _, h
  | .for_ .., _, _, _, _, _, _, h
  | .while_ .., _, _, _, _, _, _, h
  | .pass, _, _, _, _, _, _, h
  | .brk, _, _, _, _, _, _, h
  | .cont, _, _, _, _, _, _, h
  | .raise .., _, _, _, _, _, _, h
  | .tryx .., _, _, _, _, _, _, h => by simp [chGs] at h
end
end Pw
set_option Elab.async false
set_option linter.all false
set_option maxRecDepth 100000
set_option maxHeartbeats 2000000
namespace Pw
open PySem PySem.Spec PyProof.Rows L2

theorem swB_name {sc : Scope} {tg e : Expr} (hb : swB sc tg e = true) : ∃ y py, tg = .Name y py := by
  unfold swB at hb
  split at hb
  · split at hb
    · exact ⟨_, _, rfl⟩
    · cases hb
  · split at hb
    · exact ⟨_, _, rfl⟩
    · cases hb
  · cases hb
mutual
theorem sS {G : Gc} {Γ : String → SpD} {k : Nat} : ∀ (t : T) {X : Cx} {C : Ct} {xk : XD} {W : WX} (g : GS X G C Γ k W) (s : Stmt), chS G t C s = true → PS X s (LS X xk W (wpS Γ xk t))
  | .asg tg a, X, C, xk, W, g, s, h => by
    simp only [chS] at h
    split at h
    · rename_i e1 e pos
      simp only [Bool.and_eq_true] at h
      obtain ⟨⟨⟨⟨⟨h1, h2⟩, h3⟩, h4⟩, h5⟩, h6⟩ := h
      have hw : swappedStores [e1] e X.env = pure none := by
        split at h5
        · rename_i q
          exact swp_ok g.kd (by rw [g.sc]; exact q)
        · cases h5
      cases hb : swB C.sc e1 e with
      | false => exact s_asg g h3 hb hw h4 (sE a g.toGX _ h2) (sG tg g.toGX _ h1)
      | true =>
        rw [hb] at h6
        cases a with
        | comp m own elt t it ifs =>
          obtain ⟨y, py, rfl⟩ := swB_name hb
          cases tg with
          | gname i =>
            simp only [chE] at h2
            split at h2
            · rename_i x ctg iter cs sc p
              simp only [Bool.and_eq_true] at h2
              obtain ⟨⟨⟨⟨⟨⟨k1, k2⟩, k3⟩, k4⟩, k5⟩, k6⟩, k7⟩ := h2
              simp only [chG, Bool.and_eq_true, decide_eq_true_eq] at h1
              have pg : ∀ (s : Shared) (H : Hp) (Ca : Addr) (cl : List (Str × Addr)) (fp : List Addr), PG (X.blk s H sc (compEnvC sc cl Ca X.env) fp) ctg (LG (rhoI it) X never W0 (tgSl t) (wpG Γ never t)) := fun s H Ca cl fp =>
                rho_pick it k1 (sG t (gx_blk g.toGX s H sc Ca cl fp) ctg k5) (sGw t (gx_blk g.toGX s H sc Ca cl fp) ctg k5)
              exact s_setLc g k2 (tg_sub k3) k4 h1.1 hb (sI it g.toGX _ _ k1) pg (fun s H Ca cl fp => sTs ifs (gx_blk g.toGX s H sc Ca cl fp) _ k6) (fun s H Ca cl fp => sE elt (gx_blk g.toGX s H sc Ca cl fp) _ k7)
            · cases h2
          | _ => simp [chG] at h1
        | comp2 m own own2 elt t it ifs t2 it2 ifs2 =>
          obtain ⟨y, py, rfl⟩ := swB_name hb
          cases tg with
          | gname i =>
            simp only [chE] at h2
            split at h2
            · rename_i x ctg iter cs ctg2 iter2 cs2 sc p
              simp only [Bool.and_eq_true] at h2
              obtain ⟨k1, k2, k3, k4, k5, k6, k7, kG1, k9, kI2, kG2, k12, k13⟩ := h2
              simp only [chG, Bool.and_eq_true, decide_eq_true_eq] at h1
              have pg : ∀ (s : Shared) (H : Hp) (Ca : Addr) (cl : List (Str × Addr)) (fp : List Addr), PG (X.blk s H sc (compEnvC sc cl Ca X.env) fp) ctg (LG (rhoI it) X never W0 (tgSl t) (wpG Γ never t)) := fun s H Ca cl fp =>
                rho_pick it k1 (sG t (gx_blk g.toGX s H sc Ca cl fp) ctg kG1) (sGw t (gx_blk g.toGX s H sc Ca cl fp) ctg kG1)
              have pg2 : ∀ (s : Shared) (H : Hp) (Ca : Addr) (cl : List (Str × Addr)) (fp : List Addr), PG (X.blk s H sc (compEnvC sc cl Ca X.env) fp) ctg2 (LG (rhoI it2) X never W0 (tgSl t2) (wpG Γ never t2)) := fun s H Ca cl fp =>
                rho_pick it2 kI2 (sG t2 (gx_blk g.toGX s H sc Ca cl fp) ctg2 kG2) (sGw t2 (gx_blk g.toGX s H sc Ca cl fp) ctg2 kG2)
              exact s_setLc2 g k2 (tg_sub k3) (tg_sub k4) (tg_sub k5) k6 k7 h1.1 hb (sI it g.toGX _ _ k1) pg (fun s H Ca cl fp => sTs ifs (gx_blk g.toGX s H sc Ca cl fp) _ k9) (fun s H Ca cl fp => sI it2 (gx_blk g.toGX s H sc Ca cl fp) _ _ kI2) pg2 (fun s H Ca cl fp => sTs ifs2 (gx_blk g.toGX s H sc Ca cl fp) _ k12) (fun s H Ca cl fp => sE elt (gx_blk g.toGX s H sc Ca cl fp) _ k13)
            · cases h2
          | _ => simp [chG] at h1
        | dc1 m own kx vx t it ifs =>
          obtain ⟨y, py, rfl⟩ := swB_name hb
          cases tg with
          | gname i =>
            simp only [chE] at h2
            split at h2
            · rename_i x y2 ctg iter cs sc p
              simp only [Bool.and_eq_true] at h2
              obtain ⟨k1, k2, k3, k4, kG1, k6, k7, k8⟩ := h2
              simp only [chG, Bool.and_eq_true, decide_eq_true_eq] at h1
              have pg : ∀ (s : Shared) (H : Hp) (Ca : Addr) (cl : List (Str × Addr)) (fp : List Addr), PG (X.blk s H sc (compEnvC sc cl Ca X.env) fp) ctg (LG (rhoI it) X never W0 (tgSl t) (wpG Γ never t)) := fun s H Ca cl fp =>
                rho_pick it k1 (sG t (gx_blk g.toGX s H sc Ca cl fp) ctg kG1) (sGw t (gx_blk g.toGX s H sc Ca cl fp) ctg kG1)
              exact s_setDc1 g k2 (tg_sub k3) k4 h1.1 hb (sI it g.toGX _ _ k1) pg (fun s H Ca cl fp => sTs ifs (gx_blk g.toGX s H sc Ca cl fp) _ k6) (fun s H Ca cl fp => sE kx (gx_blk g.toGX s H sc Ca cl fp) _ k7) (fun s H Ca cl fp => sE vx (gx_blk g.toGX s H sc Ca cl fp) _ k8)
            · cases h2
          | _ => simp [chG] at h1
        | dc2 m own own2 kx vx t it ifs t2 it2 ifs2 =>
          obtain ⟨y, py, rfl⟩ := swB_name hb
          cases tg with
          | gname i =>
            simp only [chE] at h2
            split at h2
            · rename_i x y2 ctg iter cs ctg2 iter2 cs2 sc p
              simp only [Bool.and_eq_true] at h2
              obtain ⟨k1, k2, k3, k4, k5, k6, k7, kG1, k9, kI2, kG2, k12, k13, k14⟩ := h2
              simp only [chG, Bool.and_eq_true, decide_eq_true_eq] at h1
              have pg : ∀ (s : Shared) (H : Hp) (Ca : Addr) (cl : List (Str × Addr)) (fp : List Addr), PG (X.blk s H sc (compEnvC sc cl Ca X.env) fp) ctg (LG (rhoI it) X never W0 (tgSl t) (wpG Γ never t)) := fun s H Ca cl fp =>
                rho_pick it k1 (sG t (gx_blk g.toGX s H sc Ca cl fp) ctg kG1) (sGw t (gx_blk g.toGX s H sc Ca cl fp) ctg kG1)
              have pg2 : ∀ (s : Shared) (H : Hp) (Ca : Addr) (cl : List (Str × Addr)) (fp : List Addr), PG (X.blk s H sc (compEnvC sc cl Ca X.env) fp) ctg2 (LG (rhoI it2) X never W0 (tgSl t2) (wpG Γ never t2)) := fun s H Ca cl fp =>
                rho_pick it2 kI2 (sG t2 (gx_blk g.toGX s H sc Ca cl fp) ctg2 kG2) (sGw t2 (gx_blk g.toGX s H sc Ca cl fp) ctg2 kG2)
              exact s_setDc2 g k2 (tg_sub k3) (tg_sub k4) (tg_sub k5) k6 k7 h1.1 hb (sI it g.toGX _ _ k1) pg (fun s H Ca cl fp => sTs ifs (gx_blk g.toGX s H sc Ca cl fp) _ k9) (fun s H Ca cl fp => sI it2 (gx_blk g.toGX s H sc Ca cl fp) _ _ kI2) pg2 (fun s H Ca cl fp => sTs ifs2 (gx_blk g.toGX s H sc Ca cl fp) _ k12) (fun s H Ca cl fp => sE kx (gx_blk g.toGX s H sc Ca cl fp) _ k13) (fun s H Ca cl fp => sE vx (gx_blk g.toGX s H sc Ca cl fp) _ k14)
            · cases h2
          | _ => simp [chG] at h1
        | _ => simp [isCompT] at h6
    · cases h
  | .par is es, X, C, xk, W, g, s, h => by
    simp only [chS] at h
    split at h
    · rename_i x px y py kt pt a b k2 p2 pos
      simp only [Bool.and_eq_true] at h
      obtain ⟨h1, h2⟩ := h
      split at h2
      · rename_i i j
        simp only [Bool.and_eq_true, decide_eq_true_eq] at h2
        obtain ⟨⟨⟨⟨⟨k1, k2⟩, k3⟩, k4⟩, k5⟩, k6⟩ := h2
        split at k6
        · rename_i ns q
          simp only [decide_eq_true_eq] at k6
          subst k6
          exact s_par g k1 k2 k3 k4 k5 (swp_ok g.kd (by rw [g.sc]; exact q)) (sL es g.toGX _ h1).1
        · cases k6
      · cases h2
    · cases h
  | .aug op i a, X, C, xk, W, g, s, h => by
    simp only [chS] at h
    split at h
    · simp only [Bool.and_eq_true, decide_eq_true_eq] at h
      rw [binB_eq h.1.1.1.1]
      exact s_aug g op h.1.1.1.2 h.1.1.2 (sE a g.toGX _ h.2)
    · cases h
  | .augs op o i a, X, C, xk, W, g, s, h => by
    simp only [chS] at h
    split at h
    · simp only [Bool.and_eq_true] at h
      rw [binB_eq h.1.1.1.1]
      exact s_augs g op h.2 (sE o g.toGX _ h.1.1.1.2) (sE i g.toGX _ h.1.1.2) (sE a g.toGX _ h.1.2)
    · cases h
  | .doc, X, C, xk, W, g, s, h => by
    simp only [chS] at h
    split at h
    · exact s_doc
    · cases h
  | .expr a, X, C, xk, W, g, s, h => by
    simp only [chS] at h
    split at h
    · simp only [Bool.and_eq_true] at h
      exact s_expr (noSw h.1.2 h.2) (sE a g.toGX _ h.1.1)
    · cases h
  | .ret a, X, C, xk, W, g, s, h => by
    simp only [chS] at h
    split at h
    · exact s_ret (sE a g.toGX _ h)
    · cases h
  | .retn, X, C, xk, W, g, s, h => by
    simp only [chS] at h
    split at h
    · exact s_retn
    · cases h
  | .ifs c a b, X, C, xk, W, g, s, h => by
    simp only [chS] at h
    split at h
    · simp only [Bool.and_eq_true] at h
      exact s_if (sT c g.toGX _ h.1.1) (sSs a g _ h.1.2) (sSs b g _ h.2)
    · cases h
  | .for_ clr t it body, X, C, xk, W, g, s, h => by
    simp only [chS] at h
    split at h
    · simp only [Bool.and_eq_true] at h
      exact s_for g h.2 (sI it g.toGX _ _ h.1.1.2) (rho_pick it h.1.1.2 (sG t g.toGX _ h.1.1.1) (sGw t g.toGX _ h.1.1.1)) (sSs body g _ h.1.2)
    · cases h
  | .while_ clr c body, X, C, xk, W, g, s, h => by
    simp only [chS] at h
    split at h
    · simp only [Bool.and_eq_true] at h
      exact s_while g (sT c g.toGX _ h.1) (sSs body g _ h.2)
    · cases h
  | .pass, X, C, xk, W, g, s, h => by
    simp only [chS] at h
    split at h
    · exact s_pass
    · cases h
  | .brk, X, C, xk, W, g, s, h => by
    simp only [chS] at h
    split at h
    · exact s_brk
    · cases h
  | .cont, X, C, xk, W, g, s, h => by
    simp only [chS] at h
    split at h
    · exact s_cont
    · cases h
  | .raise c m, X, C, xk, W, g, s, h => by
    simp only [chS] at h
    split at h
    · simp only [Bool.and_eq_true, decide_eq_true_eq] at h
      obtain ⟨⟨⟨h1, h2⟩, h3⟩, h4⟩ := h
      subst h1
      exact s_raise g h4 h3
    · cases h
  | .tryx xs c i j body, X, C, xk, W, g, s, h => by
    simp only [chS] at h
    split at h
    · rename_i b x np n y yp z zp ap hp pos
      simp only [Bool.and_eq_true, decide_eq_true_eq, Bool.not_eq_true'] at h
      obtain ⟨rfl, h2, h3, h4, h5, rfl, h7, h8, h9, h10, h11, h12, h13⟩ := h
      exact s_try (wb := fun xk' => wpSs Γ xk' body) g g.nve h2 h3 h4 h5 h7 h8 h9 h10 (by simpa using h12) fun xk' X' W' g' => sSs body g' _ h13
    · cases h
  | .nil, _, _, _, _, _, _, h
  | .cons .., _, _, _, _, _, _, h
  | .var .., _, _, _, _, _, _, h
  | .lit .., _, _, _, _, _, _, h
  | .bin .., _, _, _, _, _, _, h
  | .neg .., _, _, _, _, _, _, h
  | .not .., _, _, _, _, _, _, h
  | .and .., _, _, _, _, _, _, h
  | .or .., _, _, _, _, _, _, h
  | .tst .., _, _, _, _, _, _, h
  | .cmp .., _, _, _, _, _, _, h
  | .chain .., _, _, _, _, _, _, h
  | .ite .., _, _, _, _, _, _, h
  | .tup .., _, _, _, _, _, _, h
  | .lst .., _, _, _, _, _, _, h
  | .dct .., _, _, _, _, _, _, h
  | .call .., _, _, _, _, _, _, h
  | .callk .., _, _, _, _, _, _, h
  | .blt .., _, _, _, _, _, _, h
  | .isi .., _, _, _, _, _, _, h
  | .conv .., _, _, _, _, _, _, h
  | .convr .., _, _, _, _, _, _, h
  | .convv .., _, _, _, _, _, _, h
  | .meth .., _, _, _, _, _, _, h
  | .idx .., _, _, _, _, _, _, h
  | .slc .., _, _, _, _, _, _, h
  | .revs .., _, _, _, _, _, _, h
  | .sset .., _, _, _, _, _, _, h
  | .ldct .., _, _, _, _, _, _, h
  | .lset .., _, _, _, _, _, _, h
  | .comp .., _, _, _, _, _, _, h
  | .comp2 .., _, _, _, _, _, _, h
  | .tups .., _, _, _, _, _, _, h
  | .star .., _, _, _, _, _, _, h
  | .dc1 .., _, _, _, _, _, _, h
  | .dc2 .., _, _, _, _, _, _, h
  | .isx .., _, _, _, _, _, _, h
  | .frz .., _, _, _, _, _, _, h
  | .ival .., _, _, _, _, _, _, h
  | .irng .., _, _, _, _, _, _, h
  | .ienum .., _, _, _, _, _, _, h
  | .izip .., _, _, _, _, _, _, h
  | .irev .., _, _, _, _, _, _, h
  | .gname .., _, _, _, _, _, _, h
  | .gtup .., _, _, _, _, _, _, h
  | .gsub .., _, _, _, _, _, _, h => by simp [chS] at h
theorem sSs {G : Gc} {Γ : String → SpD} {k : Nat} : ∀ (t : T) {X : Cx} {C : Ct} {xk : XD} {W : WX} (g : GS X G C Γ k W) (ss : List Stmt), chSs G t C ss = true → PSs X ss (LS X xk W (wpSs Γ xk t))
  | .nil, X, C, xk, W, g, ss, h => by
    simp only [chSs] at h
    split at h
    · exact s_nil
    · cases h
  | .cons a r, X, C, xk, W, g, ss, h => by
    simp only [chSs] at h
    split at h
    · simp only [Bool.and_eq_true] at h
      exact s_cons (w1 := wpS Γ xk a) (w2 := wpSs Γ xk r) (sS a g _ h.1) (sSs r g _ h.2)
    · cases h
  | .var .., _, _, _, _, _, _, h
  | .lit .., _, _, _, _, _, _, h
  | .bin .., _, _, _, _, _, _, h
  | .neg .., _, _, _, _, _, _, h
  | .not .., _, _, _, _, _, _, h
  | .and .., _, _, _, _, _, _, h
  | .or .., _, _, _, _, _, _, h
  | .tst .., _, _, _, _, _, _, h
  | .cmp .., _, _, _, _, _, _, h
  | .chain .., _, _, _, _, _, _, h
  | .ite .., _, _, _, _, _, _, h
  | .tup .., _, _, _, _, _, _, h
  | .lst .., _, _, _, _, _, _, h
  | .dct .., _, _, _, _, _, _, h
  | .call .., _, _, _, _, _, _, h
  | .callk .., _, _, _, _, _, _, h
  | .blt .., _, _, _, _, _, _, h
  | .isi .., _, _, _, _, _, _, h
  | .conv .., _, _, _, _, _, _, h
  | .convr .., _, _, _, _, _, _, h
  | .convv .., _, _, _, _, _, _, h
  | .meth .., _, _, _, _, _, _, h
  | .idx .., _, _, _, _, _, _, h
  | .slc .., _, _, _, _, _, _, h
  | .revs .., _, _, _, _, _, _, h
  | .sset .., _, _, _, _, _, _, h
  | .ldct .., _, _, _, _, _, _, h
  | .lset .., _, _, _, _, _, _, h
  | .comp .., _, _, _, _, _, _, h
  | .comp2 .., _, _, _, _, _, _, h
  | .tups .., _, _, _, _, _, _, h
  | .star .., _, _, _, _, _, _, h
  | .dc1 .., _, _, _, _, _, _, h
  | .dc2 .., _, _, _, _, _, _, h
  | .isx .., _, _, _, _, _, _, h
  | .frz .., _, _, _, _, _, _, h
  | .ival .., _, _, _, _, _, _, h
  | .irng .., _, _, _, _, _, _, h
  | .ienum .., _, _, _, _, _, _, h
  | .izip .., _, _, _, _, _, _, h
  | .irev .., _, _, _, _, _, _, h
  | .gname .., _, _, _, _, _, _, h
  | .gtup .., _, _, _, _, _, _, h
  | .gsub .., _, _, _, _, _, _, h
  | .asg .., _, _, _, _, _, _, h
  | .par .., _, _, _, _, _, _, h
  | .aug .., _, _, _, _, _, _, h
  | .augs .., _, _, _, _, _, _, h
  | .doc, _, _, _, _, _, _, h
  | .expr .., _, _, _, _, _, _, h
  | .ret .., _, _, _, _, _, _, h
  | .retn, _, _, _, _, _, _, h
  | .ifs .., _, _, _, _, _, _, h
  | .for_ .., _, _, _, _, _, _, h
  | .while_ .., _, _, _, _, _, _, h
  | .pass, _, _, _, _, _, _, h
  | .brk, _, _, _, _, _, _, h
  | .cont, _, _, _, _, _, _, h
  | .raise .., _, _, _, _, _, _, h
  | .tryx .., _, _, _, _, _, _, h => by simp [chSs] at h
end
/-! ### a def of the text, by its term -/
structure EnvX (P : Program) (w : World) (K : PySem.W.Frag) (mg : Str → Option Value) (base : Heap) (G : Gc) (Γ : String → SpD) (k : Nat) : Prop where
  sys : SysD K
  isi : isiB K = true
  free : ∀ x ∈ G.free, mg x = none
  const : ∀ x d, G.consts.lookup x = some d → ∃ v u, mg x = some u ∧ RelV v u ∧ flatDV d v = true
  fns : ∀ f I, G.fns.lookup f = some I → FnX P w K mg base k f I (Γ f)
  exc : ∀ c ∈ G.excs, ∃ (A : Addr) (bmB : List Value) (B newId initId : String), ExcBaseFacts B newId initId bmB ∧ PySem.W.excIn K A bmB newId = true ∧ mg c = some (.ref A) ∧ PySem.W.keepIn K (.ref A) = true ∧
    PySem.W.subIn K (.ref A) (.type "BaseException") = some true ∧ PySem.W.typeIn K (.ref A) = some (.type "type")
  xis : isxB G K = true
  gcl : ∀ c ∈ G.excs ++ G.clss, mg c = some (.ref (He.ga K c))
  nve : ("ValueError" : Str) ∉ G.clss
theorem fn_sound {P : Program} {w : World} {K : PySem.W.Frag} {mg : Str → Option Value} {base : Heap} {G : Gc} {Γ : String → SpD} {k : Nat} {fa : Addr} {x qual : Str} {params : Arguments} {body : List Stmt} {scope : Scope} {dvs : List V} {kws : List (Str × V)} {fd : FuncData} {N ps : List Str} {f : Fn}
    (Ev : EnvX P w K mg base G Γ k) (F : FunD K x qual params body scope dvs kws fa fd) (S : FnScope N ps scope) (h1 : f.ar = ps.length) (h2 : f.sl = N.length) (hb : chSs G f.body ⟨N, scope, fun _ => true⟩ body = true) :
    FnG P w K mg base (k + 1) fa fd ps (spOf K mg (wpF Γ f)) := by
  refine fnG_of F S (fun vs H Q E h => ?_) fun cdv A outer s H vs Q E room h => ?_
  · obtain ⟨U, M, ds, R, Xc, vw, rm, rv, hw, _⟩ := h
    rw [rv.length, hw.1, h1]
  · obtain ⟨U, M, ds, R, Xc, vw, rm, rv, ⟨hl, hw⟩, out, xout⟩ := h
    have g : GS (cxOf (L2.CX P w) P w K mg base N qual scope fa cdv A outer s H E) G ⟨N, scope, fun _ => true⟩ Γ k (fun cls d _ H => E cls d H) :=
      { room := room, calm := rfl, sys := Ev.sys, isi := Ev.isi, N := rfl, nd := S.nd, sc := rfl, fnB := fun _ _ => rfl, free := Ev.free, const := Ev.const, fns := Ev.fns,
        exc := fun c hc => by
          obtain ⟨A, bmB, B, ni, ii, F, q, gC, kC, r1, r2⟩ := Ev.exc c hc
          exact ⟨A, bmB, B, ni, ii, F, q, gC, kC, raises_own r1 r2⟩,
        xis := Ev.xis, gcl := Ev.gcl, nve := Ev.nve, tk := takes_of rfl rfl rfl rfl, kd := S.kind, own := passes_of rfl, stk := rfl, frm := rfl }
    refine ⟨_, sSs (xk := fun c _ M' => Lv (Xc c) M') f.body g body hb, ds.map some ++ List.replicate (f.sl - f.ar) none, M, U, _, ⟨vw, rm, ?_⟩, ?_, hw, ⟨?_, ?_, ?_, ?_⟩⟩
    · refine ⟨by simp [L2.start, rv.length, h2, hl], fun i d e => ?_⟩
      have hi : i < ds.length := by
        by_cases hi : i < ds.length
        · exact hi
        · rw [List.getElem?_append_right (by simpa using hi)] at e
          rw [List.getElem?_replicate] at e
          split at e <;> cases e
      rw [List.getElem?_append_left (by simpa using hi), List.getElem?_map] at e
      obtain ⟨d', e1, e2⟩ := Option.map_eq_some_iff.mp e
      cases e2
      obtain ⟨v, e3, q⟩ := rv.get e1
      refine ⟨v, ?_, q⟩
      unfold L2.start
      rw [List.getElem?_append_left (by rw [List.length_map, rv.length]; exact hi), List.getElem?_map, e3]
      rfl
    · rintro c δ' M' U' H' σ' g' rs ⟨M'', s, hx⟩ A hA
      exact xout c M'' U' H' ⟨g'.ex.trans (Ext.sub s), g'.kp, g'.rm.sub s⟩ hx A hA
    · rintro δ' M' σ' U' H' g' rs ⟨M'', s, hx⟩
      exact out .non M'' V.non U' H' (g'.ex.trans (Ext.sub s)) g'.kp (g'.rm.sub s) rvNon hx
    · rintro d M' v U' H' e k rm' rv' ⟨M'', s, hx⟩
      exact out d M'' v U' H' (e.trans (Ext.sub s)) k (rm'.sub s) (RV.mono (Ext.sub s) rm' d v rv') hx
    · rintro δ' M' σ' U' H' g' rs h
      exact h.elim
    · rintro δ' M' σ' U' H' g' rs h
      exact h.elim
end Pw
set_option Elab.async false
set_option linter.all false
set_option maxRecDepth 100000
set_option maxHeartbeats 2000000
namespace Pw
open PySem PySem.Spec PyProof.Rows L2

/-! ### the defs of a text, as data -/
structure Df where
  name : String
  d : He.DefD
  N : List Str
  ps : List Str
  fn : Fn
  dfl : List D
  kwn : Bool
structure Prg where
  dfs : List Df
  consts : List (Str × D)
  free : List Str
  excs : List Str
  clss : List Str
def Prg.gc (p : Prg) : Gc := ⟨p.dfs.map fun f => (f.name, ⟨f.ps, f.dfl, f.kwn⟩), p.consts, p.free, p.excs, p.clss⟩
def Prg.fns (p : Prg) : List (String × Fn) := p.dfs.map fun f => (f.name, f.fn)
def cFa : Str × D → List He.Fa
  | (x, .int i) => [.int x i]
  | (x, .str z) => [.str x z]
  | _ => []
def cOk : D → Bool
  | .int _ => true
  | .str _ => true
  | _ => false
def Prg.fa (p : Prg) : List He.Fa := (p.dfs.map fun f => .glo (Str.ofString f.name)) ++ p.free.map .free ++ p.consts.flatMap cFa ++ p.excs.map .exc ++ (p.excs ++ p.clss).map .glo
def Prg.fnD (p : Prg) : List He.DefD := p.dfs.map (·.d)
/-- what a def's text must be -/
def scopeB (f : Df) : Bool := decide (f.d.scope.kind = .function) && (!f.d.scope.isCoroutine && (!f.d.scope.isGenerator && (decide f.N.Nodup && (decide (f.N.take f.ps.length = f.ps) &&
  (f.ps.all (fun x => match f.d.scope.names.lookup x with | some .local => true | some .cell => true | _ => false) && f.d.scope.names.all fun y => decide (y.2 ≠ .free))))))
def dfB (G : Gc) (f : Df) : Bool := decide (f.d.at_ = (Str.ofString f.name, none)) && (scopeB f && (decide (f.fn.ar = f.ps.length) && (decide (f.fn.sl = f.N.length) && chSs G f.fn.body ⟨f.N, f.d.scope, fun _ => true⟩ f.d.body)))
def Prg.okB (p : Prg) : Bool := ((p.consts.all fun c => cOk c.2) && decide (p.clss.contains ("ValueError" : Str) = false)) && p.dfs.all (dfB p.gc)
theorem scope_of {f : Df} (h : scopeB f = true) : FnScope f.N f.ps f.d.scope := by
  unfold scopeB at h
  simp only [Bool.and_eq_true, decide_eq_true_eq, Bool.not_eq_true', List.all_eq_true] at h
  obtain ⟨h1, h2, h3, h4, h5, h6, h7⟩ := h
  refine ⟨h1, h2, h3, h4, h5, fun x hx => ?_, fun y hy => h7 y hy⟩
  have := h6 x hx
  split at this
  · left; assumption
  · right; assumption
  · cases this
/-- how a def is called -/
structure BindOk (K : PySem.W.Frag) (f : Df) (fd : FuncData) : Prop where
  pos : (f.kwn = true → f.dfl ≠ []) → ∃ (dvs : List V) (ds : List Value), flatDVs f.dfl dvs = true ∧ Vals dvs ds ∧ Binds K fd f.ps ds
  kw : ∀ z, f.kwn = true → f.ps.getLast? = some z → KBn K fd f.ps (f.ps.length - 1) [z] (fun us ws => us ++ ws) (fun vs zs => vs ++ zs)
theorem bind_plain {K : PySem.W.Frag} {f : Df} {fd : FuncData} (hd : f.dfl = []) (hk : f.kwn = false) (h : Binds K fd f.ps []) : BindOk K f fd :=
  ⟨fun _ => ⟨[], [], by rw [hd]; rfl, .nil, h⟩, fun z h1 _ => by rw [hk] at h1; cases h1⟩
/-- a def called with its last parameter by name -/
theorem kbn_of {K : PySem.W.Frag} {x qual : Str} {params : Arguments} {body : List Stmt} {scope : Scope} {kws : List (Str × V)} {f : Addr} {fd : FuncData} {ps : List Str} {n : Nat} {z : Str} (F : FunD K x qual params body scope [] kws f fd)
    (h : ∀ (kV doc pm : Value) (an : Option Addr) (cdv ct : Value) (us : List Value) (w : Value), us.length = n → bindArgs (PySem.W.fnOf x qual params body scope .none kV doc pm an cdv ct) { pos := us, kw := [(z, w)] } = pure (ps.zip (us ++ [w]))) :
    KBn K fd ps n [z] (fun us ws => us ++ ws) (fun vs zs => vs ++ zs) := by
  obtain ⟨oc, od, dV, kV, doc, pm, an, cdv, ct, osl, rfl, lk, hcd, hd, _⟩ := F.ex
  have e : dV = .none := by
    rcases hd with ⟨_, h⟩ | ⟨h, _⟩
    · exact h
    · exact absurd rfl h
  subst e
  refine ⟨fun s us ws X hl hk => ?_, fun a b => a.append b⟩
  match ws, hk with
  | [w], _ =>
    intro M A E Q hQ
    show wpAny M A (bindArgs _ { pos := us, kw := [(z, w)] }) Q E s
    rw [h _ _ _ _ _ _ us w hl]
    exact wpAny_pure hQ
theorem look_fns {f : String} : ∀ {dfs : List Df} {I : FnI}, (dfs.map fun f => (f.name, (⟨f.ps, f.dfl, f.kwn⟩ : FnI))).lookup f = some I → ∃ df ∈ dfs, df.name = f ∧ I = ⟨df.ps, df.dfl, df.kwn⟩ ∧ (dfs.map fun f => (f.name, f.fn)).lookup f = some df.fn
  | [], I, h => by simp at h
  | df :: r, I, h => by
    simp only [List.map_cons, List.lookup_cons] at h ⊢
    by_cases e : f = df.name
    · subst e
      simp only [beq_self_eq_true] at h ⊢
      cases h
      exact ⟨df, by simp, rfl, rfl, rfl⟩
    · have e' : (f == df.name) = false := by simpa using e
      simp only [e'] at h ⊢
      obtain ⟨d, h1, h2, h3, h4⟩ := look_fns h
      exact ⟨d, by simp [h1], h2, h3, h4⟩
theorem look_mem {α β : Type} [BEq α] [LawfulBEq α] {x : α} {y : β} : ∀ {l : List (α × β)}, l.lookup x = some y → (x, y) ∈ l
  | [], h => by simp at h
  | (a, b) :: r, h => by
    simp only [List.lookup_cons] at h
    by_cases e : x = a
    · subst e
      simp only [beq_self_eq_true] at h
      cases h; simp
    · have e' : (x == a) = false := by simpa using e
      simp only [e'] at h
      simp [look_mem h]
section
variable {P : Program} {w : World} {K : PySem.W.Frag} {mg : Str → Option Value} {base h : Heap}
/-- everything of the text, at any depth -/
theorem run_sound (p : Prg) (X : K.In h) (Gm : h.Ns mainGlobals mg) (c : He.SaysD p.fa p.fnD K) (sys : SysD K) (isi : isiB K = true) (xis : isxB p.gc K = true) (ok : p.okB = true) (bi : ∀ f ∈ p.dfs, ∀ fd, FunD K f.d.name f.d.qual f.d.params f.d.body f.d.scope (f.d.dvs K) (f.d.kws K) (He.fAd K f.d.at_) fd → BindOk K f fd) :
    ∀ n, EnvX P w K mg base p.gc (run p.fns n) n := by
  unfold Prg.okB at ok
  simp only [Bool.and_eq_true, List.all_eq_true, decide_eq_true_eq] at ok
  have mem : ∀ {f : He.Fa}, f ∈ p.fa → f.ok K = true := fun h => c.facts h
  have rest : ∀ n, (∀ f I, p.gc.fns.lookup f = some I → FnX P w K mg base n f I (run p.fns n f)) → EnvX P w K mg base p.gc (run p.fns n) n := by
    intro n hf
    refine ⟨sys, isi, fun x hx => He.free_ok X Gm (mem (f := .free x) ?_), fun x d hx => ?_, hf, fun x hx => ?_, xis, fun x hx => He.glo_ok X Gm (mem (f := .glo x) ?_), fun z => ?_⟩
    · unfold Prg.fa
      simp only [List.mem_append, List.mem_map]
      exact .inl (.inl (.inl (.inr ⟨x, hx, rfl⟩)))
    · have hm := look_mem hx
      have hc := ok.1.1 _ hm
      have inn : ∀ f ∈ cFa (x, d), f ∈ p.fa := fun f hf => by
        unfold Prg.fa
        simp only [List.mem_append, List.mem_flatMap]
        exact .inl (.inl (.inr ⟨_, hm, hf⟩))
      cases d <;> simp only [cOk] at hc <;> try cases hc
      · rename_i i
        obtain ⟨t, e⟩ := He.int_ok X Gm (mem (inn _ (by simp [cFa])) : (He.Fa.int x i).ok K = true)
        exact ⟨.int i, _, e, ⟨t, rfl⟩, by simp [flatDV]⟩
      · rename_i i
        obtain ⟨t, e⟩ := He.str_ok X Gm (mem (inn _ (by simp [cFa])) : (He.Fa.str x i).ok K = true)
        exact ⟨.str i, _, e, ⟨t, rfl⟩, by simp [flatDV]⟩
    · have h1 : He.Fa.exc x ∈ p.fa := by
        unfold Prg.fa
        simp only [List.mem_append, List.mem_map]
        exact .inl (.inr ⟨x, hx, rfl⟩)
      have h2 : He.Fa.glo x ∈ p.fa := by
        unfold Prg.fa
        simp only [List.mem_append, List.mem_map]
        exact .inr ⟨x, .inl hx, rfl⟩
      obtain ⟨e1, e2, e3, e4⟩ := He.exc_ok (mem h1)
      exact ⟨He.ga K x, He.veBase, _, _, _, PySem.F.excBase_ValueError, e1, He.glo_ok X Gm (mem h2), e2, e3, e4⟩
    · have hx' : x ∈ p.excs ++ p.clss := hx
      unfold Prg.fa
      simp only [List.mem_append, List.mem_map] at hx' ⊢
      exact .inr ⟨x, hx', rfl⟩
    · have := ok.1.2
      have z' : ("ValueError" : Str) ∈ p.clss := z
      simp [z'] at this
  have each : ∀ f I, p.gc.fns.lookup f = some I → ∃ df ∈ p.dfs, df.name = f ∧ I = ⟨df.ps, df.dfl, df.kwn⟩ ∧ p.fns.lookup f = some df.fn ∧ ∃ fd, FunD K df.d.name df.d.qual df.d.params df.d.body df.d.scope (df.d.dvs K) (df.d.kws K) (He.ga K (Str.ofString f)) fd ∧ mg (Str.ofString f) = some (.ref (He.ga K (Str.ofString f))) ∧ BindOk K df fd ∧ dfB p.gc df = true := by
    intro f I hI
    obtain ⟨df, hm, hn, hi, hl⟩ := look_fns hI
    obtain ⟨fd, F⟩ := c.defs (d := df.d) (by unfold Prg.fnD; exact List.mem_map.mpr ⟨df, hm, rfl⟩)
    have hb := bi df hm fd F
    have hd := ok.2 df hm
    have ha : df.d.at_ = (Str.ofString df.name, none) := by
      unfold dfB at hd
      simp only [Bool.and_eq_true, decide_eq_true_eq] at hd
      exact hd.1
    have ea : He.fAd K df.d.at_ = He.ga K (Str.ofString f) := by rw [ha, hn]; rfl
    rw [ea] at F
    refine ⟨df, hm, hn, hi, hl, fd, F, He.glo_ok X Gm (mem (f := .glo (Str.ofString f)) ?_), hb, hd⟩
    unfold Prg.fa
    simp only [List.mem_append, List.mem_map]
    exact .inl (.inl (.inl (.inl ⟨df, hm, by rw [hn]⟩)))
  intro n
  induction n with
  | zero =>
    refine rest 0 fun f I hI => ?_
    obtain ⟨df, hm, hn, rfl, hl, fd, F, hg, hb, hd⟩ := each f I hI
    refine ⟨⟨_, fd, hg, F.kp, ⟨fun vs H Q E h => ?_, fun A outer s H args us vs Q E room env bind rel h => ?_⟩, hb.pos, hb.kw⟩, fun ds M R Xc h => False.elim h⟩
    · obtain ⟨_, _, _, _, _, _, _, _, h, _⟩ := h
      exact False.elim h
    · obtain ⟨_, _, _, _, _, _, _, _, h, _⟩ := h
      exact False.elim h
  | succ n ih =>
    refine rest (n + 1) fun f I hI => ?_
    obtain ⟨df, hm, hn, rfl, hl, fd, F, hg, hb, hd⟩ := each f I hI
    unfold dfB at hd
    simp only [Bool.and_eq_true, decide_eq_true_eq] at hd
    obtain ⟨_, h2, h3, h4, h5⟩ := hd
    have er : run p.fns (n + 1) f = wpF (run p.fns n) df.fn := by
      funext ds M Q Xc
      simp only [run, hl]
    rw [er]
    exact ⟨⟨_, fd, hg, F.kp, fn_sound ih F (scope_of h2) h3 h4 h5, hb.pos, hb.kw⟩, fun ds M R Xc h => h.1.trans h3⟩
end

/-! ### the law's call, with no repr under way -/
theorem law_go {P : Program} {w : World} {K : PySem.W.Frag} {mg mb : Str → Option Value} {k : Nat} {fa a : Addr} {fd : FuncData} {x : Str} {sp : Sp} {st : Shared} {us : List Value} {ns : List Int}
    (hK : K.In st.heap) (hG : st.heap.Ns mainGlobals mg) (hB : st.heap.Ns builtinsNs mb) (hBb : ∀ x : Str, x ≠ "__name__" → mb x = bootBuiltins x) (hL : st.heap.NoLimit) (hgen : st.gens = #[])
    (hobj : st.heap.get? a = some { cls := .type "list", data := .seq us.toArray }) (hints : IntsAre us ns) (hlen : ns.length ≤ sizeLine) (room : RoomG k callerA)
    (F : ∀ base : Heap, K.In base → base.Ns mainGlobals mg → FnG P w K mg base k fa fd [x] sp) (bind : ∀ u : Value, BindsTo st fd ⟨[u], []⟩ [(x, u)])
    (want : ∀ H : Hp, Only H → SqL K H a (ns.map V.int) → sp [.ref a] H (fun v _ => v = .bl true) fun _ _ _ => False) :
    codeAny (model P w) callerA (.call (.ref fa) ⟨[.ref a], []⟩) (fun r s' => r = .ok (.ret (.bool true)) ∧ OldK st.heap s'.heap ∧ s'.os = st.os ∧ AllBare s'.gens) st := by
  have rel := vals_ints hints
  have lenV := hints.length
  have main : ∀ T : Hp, Only T → SqL K T a (ns.map V.int) → HOk P w T st.heap → (∀ b, T b ≠ none → b = a) → (T a ≠ none → K.lookup a = none) →
      codeAny (model P w) callerA (.call (.ref fa) ⟨[.ref a], []⟩) (fun r s' => r = .ok (.ret (.bool true)) ∧ OldK st.heap s'.heap ∧ s'.os = st.os ∧ AllBare s'.gens) st := by
    intro T only hS hT one apart
    have isA : ∀ {b : Addr} {u : HO}, T b = some u → b = a := fun q => one _ (by rw [q]; exact fun z => by cases z)
    have noDict : ∀ {b : Addr} {o : Obj} {es : Array DictEntry} {ep : Nat}, st.heap.get? b = some o → o.data = .dict es ep → T b = none := by
      intro b o es ep e d
      cases q : T b with
      | none => rfl
      | some u =>
        have eb := isA q
        subst eb
        rw [hobj] at e
        cases e
        cases (show Data.seq us.toArray _ = Data.dict es ep from d)
    have ns' : ∀ {b : Addr} {m : Str → Option Value}, st.heap.Ns b m → (hidT st.heap T).Ns b m := by
      rintro b m ⟨o, es, ep, e, d, r⟩
      exact ⟨o, es, ep, hidT_get e (noDict e d), d, r⟩
    have baseK : K.In (hidT st.heap T) := by
      intro b o e
      refine hidT_get (hK b o e) ?_
      cases q : T b with
      | none => rfl
      | some u =>
        have eb := isA q
        subst eb
        rw [apart (by rw [q]; exact fun z => by cases z)] at e
        cases e
    obtain ⟨mc, l1, l2⟩ := hL
    have md : Mod K mg (hidT st.heap T) := ⟨baseK, ns' hG, ⟨mb, ns' hB, hBb⟩, mc, ns' l1, l2⟩
    have env : Env0 P w K mg (hidT st.heap T) callerA [] st T :=
      ⟨rfl, md, fun b o e => of_hidT e, Nat.le_of_eq (hidT_size _ _), trivial, fun b hb => absurd (show b ∈ ([] : List Addr) from hb) (by simp), hT, .of_eq hgen⟩
    refine codeAny_mono ((F _ baseK (ns' hG)).go callerA [] st T ⟨[.ref a], []⟩ [.ref a] [.ref a] _ _ room env (bind (.ref a)) (.cons rfl .nil) (want T only hS)) fun r s' out => ?_
    match r, out with
    | .error e, out =>
      obtain ⟨_, _, _, _, _, _, _, _, _, _, _, _, z⟩ := out
      exact z.elim
    | .ok .next, out => exact False.elim out
    | .ok .brk, out => exact False.elim out
    | .ok .cont, out => exact False.elim out
    | .ok (.ret u), ⟨v, T', hos, hbare, un, hT', rv, hv⟩ =>
      have hv' : v = .bl true := hv
      subst hv'
      cases (show u = Value.bool true from rv)
      refine ⟨rfl, OldK.of_keep fun b o e => ?_, hos, hbare⟩
      cases q : T b with
      | none => exact un.keep b o e q (fun z => by cases (show b ∈ ([] : List Addr) from z)) (by simp)
      | some u =>
        rcases only b with z | ⟨ob, xs, z⟩
        · rw [q] at z
          cases z
        · obtain ⟨g1, _⟩ := hT b _ z
          obtain ⟨g2, _⟩ := hT' b _ (un.frzs b ob _ z)
          rw [e] at g1
          cases g1
          exact g2
  cases hk : K.lookup a with
  | some o =>
    have e := hK a o hk
    rw [hobj] at e
    cases e
    refine main (fun _ => none) (fun _ => .inl rfl) (.inr ⟨_, us.toArray, _, hk, rfl, rfl, rfl, ?_, ?_⟩) ?_ (fun b z => absurd rfl z) fun z => absurd rfl z
    · rw [List.size_toArray, lenV]
      exact hlen
    · simpa using rel
    · intro b u z
      cases (show (none : Option HO) = some u from z)
  | none =>
    refine main (fun b => if b = a then some (.frz { cls := .type "list", data := .seq us.toArray } (.lst (ns.map V.int))) else none) ?_ (.inl (.inr ⟨{ cls := .type "list", data := .seq us.toArray }, if_pos rfl⟩)) ?_ ?_ fun _ => hk
    · intro b
      by_cases eb : b = a
      · exact .inr ⟨_, _, if_pos eb⟩
      · exact .inl (if_neg eb)
    · intro b u z
      by_cases eb : b = a
      · cases (if_pos eb).symm.trans z
        subst eb
        exact ⟨hobj, by rw [List.length_map]; exact hlen, us, _, rel, hobj⟩
      · cases (if_neg eb).symm.trans z
    · intro b z
      by_cases eb : b = a
      · exact eb
      · exact absurd (if_neg eb) z

/-! ### the hook: with the table of modules -/
def sysB (G : Gc) (K : PySem.W.Frag) : Bool := (match K.lookup sysModules with
  | some o => o.cls == .type "dict"
  | none => false) && isiB K && isxB G K
def asP (g : Addr → Option Obj) (n : Nat) : List Addr := sysModules :: He.asD g n
abbrev AlP : Type := He.AlD × Bool
def obsP (fa : List He.Fa) (fn : List He.DefD) (G : Gc) (K : PySem.W.Frag) : AlP := (He.obsD fa fn K, sysB G K)
def obsPG (n : Nat) (fa : List He.Fa) (fn : List He.DefD) (G : Gc) (g : Addr → Option Obj) : AlP := obsP fa fn G (He.frG g (asP g n))
def hookP (n : Nat) (fa : List He.Fa) (fn : List He.DefD) (G : Gc) : PySem.W.Hook where
  α := AlP
  obs := fun s => obsPG n fa fn G s.heap.get?
  val := fun _ => (He.valD fn, true)
  says := fun _ h => ∃ K : PySem.W.Frag, K.In h ∧ He.SaysD fa fn K ∧ sysB G K = true
  of := fun _ _ e => ⟨_, He.frG_in, congrArg Prod.fst e, congrArg Prod.snd e⟩
  keeps := fun _ _ _ ⟨K, hK, c⟩ k => ⟨K, PySem.W.Frag.In.keeps hK k, c⟩
theorem obsPG_eq {n : Nat} {fa : List He.Fa} {fn : List He.DefD} {G : Gc} {g : Addr → Option Obj} {s : Shared} (h : ∀ a, g a = s.heap.get? a) : obsPG n fa fn G g = (hookP n fa fn G).obs s := by
  have e : g = s.heap.get? := funext h
  rw [e]
  rfl
theorem sysB_of {G : Gc} {K : PySem.W.Frag} (h : sysB G K = true) : SysD K ∧ isiB K = true ∧ isxB G K = true := by
  unfold sysB at h
  simp only [Bool.and_eq_true] at h
  obtain ⟨⟨h1, h2⟩, h3⟩ := h
  refine ⟨?_, h2, h3⟩
  split at h1
  · rename_i o e
    exact ⟨o, e, eq_of_beq h1⟩
  · cases h1

/-! ### the end -/
theorem law_end {l : PySem.W.OpenLaw} {n k : Nat} {q : Program} {loose : List Str} {XP : (Str → Option Value) → Heap → Prop} {d : DefRec} {m : Nat} (p : Prg) (x : Str)
    (hn : l.most = some n) (hn2 : n ≤ sizeLine) (hdf : d.params.defaults = []) (hr : RoomG (k + 1) callerA) (hlaw : d.name = Str.ofString "law") (ok : p.okB = true)
    (bi : ∀ (K : PySem.W.Frag), ∀ f ∈ p.dfs, ∀ fd, FunD K f.d.name f.d.qual f.d.params f.d.body f.d.scope (f.d.dvs K) (f.d.kws K) (He.fAd K f.d.at_) fd → BindOk K f fd)
    (hlk : p.gc.fns.lookup "law" = some ⟨[x], [], false⟩)
    (goal : ∀ ns : List Int, ns.length ≤ n → run p.fns (k + 1) "law" [.scr (ns.map D.int)] (fun _ => none) (fun d _ => d = .bl true) fun _ _ => False) :
    PySem.W.WalkO q loose XP (fun _ h => ∃ K : PySem.W.Frag, K.In h ∧ He.SaysD p.fa p.fnD K ∧ sysB p.gc K = true) l.row.toRowW d [] (fun f vs => PySem.call f vs) := by
  refine Att.attach_call hn hdf fun w s₀ s₁ mg mb fa o pm cd doc a vs ns G Y ho hd hcd hmg hobj hints hlen hg => ?_
  obtain ⟨K, KX, c, sb⟩ := Y
  obtain ⟨sys, isi, xis⟩ := sysB_of sb
  have E := fun base => run_sound (P := l.prog) (w := w) (base := base) p KX G.T.g c sys isi xis ok (bi K) k
  obtain ⟨df, hm, hnm, hI, hl⟩ := look_fns (dfs := p.dfs) hlk
  obtain ⟨fd, F⟩ := c.defs (d := df.d) (by unfold Prg.fnD; exact List.mem_map.mpr ⟨df, hm, rfl⟩)
  have hps : df.ps = [x] := (congrArg FnI.ps hI).symm
  have hdl : df.dfl = [] := (congrArg FnI.dfl hI).symm
  have ok' := ok
  unfold Prg.okB at ok'
  simp only [Bool.and_eq_true, List.all_eq_true] at ok'
  have hd' := ok'.2 df hm
  unfold dfB at hd'
  simp only [Bool.and_eq_true, decide_eq_true_eq] at hd'
  obtain ⟨h1, h2, h3, h4, h5⟩ := hd'
  obtain ⟨dvs, ds, f1, f2, f3⟩ := (bi K df hm fd F).pos fun z => by
    have hkn : df.kwn = false := (congrArg FnI.kwn hI).symm
    rw [hkn] at z; cases z
  rw [hdl] at f1
  have ed : dvs = [] := by
    cases dvs with
    | nil => rfl
    | cons _ _ => simp [flatDVs] at f1
  subst ed
  cases f2
  have ea : He.fAd K df.d.at_ = fa := by
    rw [h1, hnm]
    have g0 : (He.Fa.glo (Str.ofString "law")).ok K = true := c.facts (by
      unfold Prg.fa
      simp only [List.mem_append, List.mem_map]
      exact .inl (.inl (.inl (.inl ⟨df, hm, by rw [hnm]⟩))))
    have g1 := He.glo_ok KX G.T.g g0
    rw [← hlaw] at g1
    rw [hmg] at g1
    have g2 : fa = He.ga K d.name := by
      cases g1; rfl
    rw [g2, hlaw]
    rfl
  rw [ea] at F
  have er : run p.fns (k + 1) "law" = wpF (run p.fns k) df.fn := by
    funext ds M Q Xc
    have hl' : p.fns.lookup "law" = some df.fn := hl
    simp only [run, hl']
  have hF : ∀ base, FnG l.prog w K mg base (k + 1) fa fd [x] (spOf K mg (run p.fns (k + 1) "law")) := by
    intro base
    rw [er, ← hps]
    exact fn_sound (E base) F (scope_of h2) h3 h4 h5
  have hb : ∀ u : Value, BindsTo s₁ fd ⟨[u], []⟩ [(x, u)] := by
    intro u
    have := f3 s₁ [u] KX (by rw [hps]; rfl)
    rw [hps] at this
    exact this
  refine law_go KX G.T.g G.T.b G.T.builtins G.T.nolimit hg hobj hints (Nat.le_trans hlen hn2) hr (fun base _ _ => hF base) hb fun H hO hS => ?_
  refine ⟨H, fun _ => none, [.scr (ns.map D.int)], fun d _ => d = .bl true, fun _ _ => False, .refl, ?_, ?_, goal ns hlen, ?_, fun c M' U' H' _ hx => hx.elim⟩
  · intro a o e
    cases (show (none : Option DO) = some o from e)
  · simp only [RVs]
    refine ⟨.ref a, [], rfl, ?_, rfl⟩
    simp only [RV]
    refine ⟨a, ns.map V.int, rfl, ?_, RVs.ints⟩
    rcases hS with (h | ⟨o, h⟩) | h
    · rcases hO a with z | ⟨o, xs, z⟩
      · rw [h] at z; cases z
      · rw [h] at z; cases z
    · exact .inl ⟨o, h⟩
    · exact .inr h
  · intro d M' v U' H' _ _ _ rv hd
    subst hd
    simpa only [RV] using rv
end Pw
set_option Elab.async false
set_option linter.all false
set_option maxRecDepth 100000
set_option maxHeartbeats 0
namespace Pw
open PySem PySem.Spec PyProof.Rows L2

/- is_int: 0=value -/
def t_is_int : T := .cons (.ret (.and (.isi (.var 0) ["int"]) (.not (.isi (.var 0) ["bool"])))) .nil
def f_is_int : Fn := ⟨1, 1, t_is_int⟩
/- in_range: 0=value 1=low 2=high -/
def t_in_range : T := .cons (.ret (.and (.call "is_int" (.cons (.var 0) .nil) []) (.chain .le .le (.var 1) (.var 0) (.var 2)))) .nil
def f_in_range : Fn := ⟨3, 3, t_in_range⟩
/- is_involution: 0=value 1=item 2=place -/
def t_is_involution : T := .cons (.ifs (.or (.not (.tst (.isi (.var 0) ["tuple"]))) (.not (.chain .le .le (.lit (.int 1)) (.blt false .len (.cons (.var 0) .nil)) (.lit (.int 60))))) (.cons (.ret (.lit (.bl false))) .nil) .nil) (.cons (.ifs (.not (.tst (.blt false .all (.cons (.comp false [1] (.call "in_range" (.cons (.var 1) (.cons (.lit (.int 0)) (.cons (.bin false .sub (.blt false .len (.cons (.var 0) .nil)) (.lit (.int 1))) .nil))) []) (.gname 1) (.ival (.var 0)) .nil) .nil)))) (.cons (.ret (.lit (.bl false))) .nil) .nil) (.cons (.ret (.blt false .all (.cons (.comp false [2, 1] (.cmp .eq (.idx (.var 0) (.var 1)) (.var 2)) (.gtup (.cons (.gname 2) (.cons (.gname 1) .nil))) (.ienum (.var 0)) .nil) .nil))) .nil))
def f_is_involution : Fn := ⟨1, 3, t_is_involution⟩
/- require_involution: 0=value -/
def t_require_involution : T := .cons (.ifs (.not (.tst (.call "is_involution" (.cons (.var 0) .nil) []))) (.cons (.raise "InvalidInvolution" "not an involution") .nil) .nil) .nil
def f_require_involution : Fn := ⟨1, 1, t_require_involution⟩
/- insert: 0=rows 1=item 2=row 3=greater 4=place 5=other -/
def t_insert : T := .cons (.for_ [2, 3] (.gname 2) (.ival (.var 0)) (.cons (.asg (.gname 3) (.comp false [4, 5] (.var 4) (.gtup (.cons (.gname 4) (.cons (.gname 5) .nil))) (.ienum (.var 2)) (.cons (.cmp .gt (.var 5) (.var 1)) .nil))) (.cons (.ifs (.cmp .eq (.var 3) (.lst false .nil)) (.cons (.expr (.meth false .append (.var 2) (.cons (.var 1) .nil))) (.cons .retn .nil)) .nil) (.cons (.asg (.gtup (.cons (.gsub (.var 2) (.idx (.var 3) (.lit (.int 0)))) (.cons (.gname 1) .nil))) (.tup (.cons (.var 1) (.cons (.idx (.var 2) (.idx (.var 3) (.lit (.int 0)))) .nil)))) .nil)))) (.cons (.expr (.meth false .append (.var 0) (.cons (.lst true (.cons (.var 1) .nil)) .nil))) .nil)
def f_insert : Fn := ⟨2, 6, t_insert⟩
/- stair_by: 0=rows 1=size 2=found 3=entry 4=row 5=place -/
def t_stair_by : T := .cons (.asg (.gname 2) (.bin true .mul (.lst false (.cons (.lit (.int 0)) .nil)) (.var 1))) (.cons (.for_ [3, 4, 5] (.gtup (.cons (.gname 3) (.cons (.gname 4) .nil))) (.ienum (.var 0)) (.cons (.for_ [5] (.gname 5) (.ival (.var 4)) (.cons (.asg (.gsub (.var 2) (.var 5)) (.var 3)) .nil)) .nil)) (.cons (.ret (.conv false false (.var 2))) .nil))
def f_stair_by : Fn := ⟨2, 6, t_stair_by⟩
/- stair_in: 0=involution 1=rows 2=item -/
def t_stair_in : T := .cons (.asg (.gname 1) (.lst true .nil)) (.cons (.for_ [2] (.gname 2) (.ival (.var 0)) (.cons (.expr (.call "insert" (.cons (.var 1) (.cons (.var 2) .nil)) [])) .nil)) (.cons (.ret (.call "stair_by" (.cons (.var 1) (.cons (.blt false .len (.cons (.var 0) .nil)) .nil)) [])) .nil))
def f_stair_in : Fn := ⟨1, 3, t_stair_in⟩
/- stair_of_involution: 0=involution -/
def t_stair_of_involution : T := .cons (.expr (.call "require_involution" (.cons (.var 0) .nil) [])) (.cons (.ret (.call "stair_in" (.cons (.var 0) .nil) [])) .nil)
def f_stair_of_involution : Fn := ⟨1, 1, t_stair_of_involution⟩
/- _law_stock: 0=_law_script 1=_law_k 2=_law_cell -/
def t__law_stock : T := .cons (.asg (.gname 2) (.lit (.int 0))) (.cons (.ifs (.cmp .lt (.var 1) (.blt false .len (.cons (.var 0) .nil))) (.cons (.asg (.gname 2) (.idx (.var 0) (.var 1))) .nil) .nil) (.cons (.ret (.lst true (.cons (.blt false .max (.cons (.lit (.int 0)) (.cons (.bin false .sub (.var 2) (.bin false .pow (.lit (.int 10)) (.lit (.int 18)))) .nil))) (.cons (.bin false .add (.bin false .add (.bin false .mod (.var 2) (.bin false .add (.bin false .pow (.lit (.int 10)) (.lit (.int 38))) (.lit (.int 133)))) (.bin false .mul (.lit (.int 50021)) (.var 1))) (.lit (.int 29))) (.cons (.lit (.int 0)) .nil))))) .nil))
def f__law_stock : Fn := ⟨2, 3, t__law_stock⟩
/- _law_get: 0=_law_stock_here 1=_law_bound 2=_law_found 3=_law_mixed -/
def t__law_get : T := .cons (.ifs (.cmp .gt (.idx (.var 0) (.lit (.int 0))) (.lit (.int 0))) (.cons (.asg (.gname 2) (.bin false .mod (.idx (.var 0) (.lit (.int 0))) (.var 1))) (.cons (.asg (.gsub (.var 0) (.lit (.int 0))) (.bin false .fdiv (.idx (.var 0) (.lit (.int 0))) (.var 1))) (.cons (.ret (.var 2)) .nil))) .nil) (.cons (.asg (.gsub (.var 0) (.lit (.int 2))) (.bin false .add (.idx (.var 0) (.lit (.int 2))) (.lit (.int 1)))) (.cons (.asg (.gname 3) (.bin false .mod (.bin false .pow (.bin false .add (.idx (.var 0) (.lit (.int 1))) (.bin false .mul (.lit (.int 49979687)) (.idx (.var 0) (.lit (.int 2))))) (.lit (.int 3))) (.bin false .add (.bin false .pow (.lit (.int 10)) (.lit (.int 41))) (.lit (.int 37))))) (.cons (.asg (.gname 3) (.bin false .mod (.bin false .pow (.bin false .add (.var 3) (.bin false .mul (.lit (.int 86028157)) (.idx (.var 0) (.lit (.int 2))))) (.lit (.int 3))) (.bin false .add (.bin false .pow (.lit (.int 10)) (.lit (.int 40))) (.lit (.int 121))))) (.cons (.ret (.bin false .mod (.bin false .fdiv (.var 3) (.lit (.int 524309))) (.var 1))) .nil))))
def f__law_get : Fn := ⟨2, 4, t__law_get⟩
/- _law_size: 0=_law_stock_here 1=_law_most -/
def t__law_size : T := .cons (.ret (.blt false .min (.cons (.var 1) (.cons (.idx (.lst false (.cons (.bin false .add (.lit (.int 1)) (.call "_law_get" (.cons (.var 0) (.cons (.lit (.int 6)) .nil)) [])) (.cons (.bin false .add (.lit (.int 1)) (.call "_law_get" (.cons (.var 0) (.cons (.var 1) .nil)) [])) (.cons (.var 1) .nil)))) (.call "_law_get" (.cons (.var 0) (.cons (.lit (.int 3)) .nil)) [])) .nil)))) .nil
def f__law_size : Fn := ⟨2, 2, t__law_size⟩
/- _law_paired: 0=_law_stock_here 1=_law_most 2=_law_size_here 3=_law_way 4=_law_found 5=_law_left 6=_law_place 7=_law_other -/
def t__law_paired : T := .cons (.par [2, 3] (.cons (.call "_law_size" (.cons (.var 0) (.cons (.var 1) .nil)) []) (.cons (.call "_law_get" (.cons (.var 0) (.cons (.lit (.int 5)) .nil)) []) .nil))) (.cons (.par [4, 5] (.cons (.convr true true (.cons (.var 2) .nil)) (.cons (.convr true true (.cons (.var 2) .nil)) .nil))) (.cons (.while_ [6, 7] (.cmp .gt (.blt false .len (.cons (.var 5) .nil)) (.lit (.int 1))) (.cons (.asg (.gname 6) (.meth false .pop (.var 5) (.cons (.lit (.int 0)) .nil))) (.cons (.asg (.gname 7) (.idx (.lst false (.cons (.var 6) (.cons (.idx (.var 5) (.neg (.lit (.int 1)))) (.cons (.idx (.var 5) (.lit (.int 0))) (.cons (.idx (.var 5) (.call "_law_get" (.cons (.var 0) (.cons (.blt false .len (.cons (.var 5) .nil)) .nil)) [])) (.cons (.idx (.var 5) (.call "_law_get" (.cons (.var 0) (.cons (.blt false .len (.cons (.var 5) .nil)) .nil)) [])) .nil)))))) (.var 3))) (.cons (.ifs (.or (.and (.cmp .eq (.var 3) (.lit (.int 4))) (.cmp .gt (.call "_law_get" (.cons (.var 0) (.cons (.lit (.int 4)) .nil)) []) (.lit (.int 0)))) (.and (.cmp .eq (.var 3) (.lit (.int 3))) (.cmp .eq (.call "_law_get" (.cons (.var 0) (.cons (.lit (.int 3)) .nil)) []) (.lit (.int 0))))) (.cons (.asg (.gname 7) (.var 6)) .nil) .nil) (.cons (.ifs (.cmp .ne (.var 7) (.var 6)) (.cons (.expr (.meth false .remove (.var 5) (.cons (.var 7) .nil))) (.cons (.asg (.gsub (.var 4) (.var 6)) (.var 7)) (.cons (.asg (.gsub (.var 4) (.var 7)) (.var 6)) .nil))) .nil) .nil))))) (.cons (.ret (.conv false false (.var 4))) .nil)))
def f__law_paired : Fn := ⟨2, 8, t__law_paired⟩
/- _law_insertion: 0=_law_involution_here 1=_law_rows 2=_law_found 3=_law_item 4=_law_row 5=_law_moved 6=_law_cells 7=_law_spot 8=_law_other 9=_law_pushed -/
def t__law_insertion : T := .cons (.par [1, 2] (.cons (.lst true .nil) (.cons (.lst true .nil) .nil))) (.cons (.for_ [3, 4, 5, 6, 7, 9] (.gname 3) (.ival (.var 0)) (.cons (.asg (.gtup (.cons (.gname 4) (.cons (.gname 5) .nil))) (.tup (.cons (.lit (.int 0)) (.cons (.var 3) .nil)))) (.cons (.while_ [6, 7, 9] (.and (.cmp .lt (.var 4) (.blt false .len (.cons (.var 1) .nil))) (.cmp .gt (.blt false .max (.cons (.idx (.var 1) (.var 4)) .nil)) (.var 5))) (.cons (.asg (.gname 6) (.idx (.var 1) (.var 4))) (.cons (.asg (.gname 7) (.blt false .len (.cons (.comp false [8] (.lit (.int 1)) (.gname 8) (.ival (.var 6)) (.cons (.cmp .lt (.var 8) (.var 5)) .nil)) .nil))) (.cons (.asg (.gname 9) (.idx (.var 6) (.var 7))) (.cons (.asg (.gsub (.var 6) (.var 7)) (.var 5)) (.cons (.asg (.gtup (.cons (.gname 4) (.cons (.gname 5) .nil))) (.tup (.cons (.bin false .add (.var 4) (.lit (.int 1))) (.cons (.var 9) .nil)))) .nil)))))) (.cons (.ifs (.cmp .eq (.var 4) (.blt false .len (.cons (.var 1) .nil))) (.cons (.expr (.meth false .append (.var 1) (.cons (.lst true .nil) .nil))) .nil) .nil) (.cons (.asg (.gname 6) (.idx (.var 1) (.var 4))) (.cons (.expr (.meth false .append (.var 6) (.cons (.var 5) .nil))) (.cons (.expr (.meth false .append (.var 2) (.cons (.var 4) .nil))) .nil))))))) (.cons (.ret (.conv false false (.var 2))) .nil))
def f__law_insertion : Fn := ⟨1, 10, t__law_insertion⟩
/- _law_all_paired: 0=_law_size_here 1=_law_found 2=_law_rest 3=_law_one 4=_law_other 5=_law_others 6=_law_place 7=_law_row -/
def t__law_all_paired : T := .cons (.ifs (.cmp .lt (.var 0) (.lit (.int 2))) (.cons (.ret (.lst false (.cons (.convr false false (.cons (.var 0) .nil)) .nil))) .nil) .nil) (.cons (.asg (.gname 1) (.lst true .nil)) (.cons (.for_ [2] (.gname 2) (.ival (.call "_law_all_paired" (.cons (.bin false .sub (.var 0) (.lit (.int 1))) .nil) [])) (.cons (.expr (.meth false .append (.var 1) (.cons (.bin false .add (.tup (.cons (.lit (.int 0)) .nil)) (.conv false false (.comp false [3] (.bin false .add (.var 3) (.lit (.int 1))) (.gname 3) (.ival (.var 2)) .nil))) .nil))) .nil)) (.cons (.for_ [2, 3, 4, 5, 7] (.gname 4) (.irng (.cons (.lit (.int 1)) (.cons (.var 0) .nil))) (.cons (.asg (.gname 5) (.comp false [6] (.var 6) (.gname 6) (.irng (.cons (.lit (.int 1)) (.cons (.var 0) .nil))) (.cons (.cmp .ne (.var 6) (.var 4)) .nil))) (.cons (.for_ [2, 3, 7] (.gname 2) (.ival (.call "_law_all_paired" (.cons (.bin false .sub (.var 0) (.lit (.int 2))) .nil) [])) (.cons (.asg (.gname 7) (.bin true .add (.lst false (.cons (.var 4) .nil)) (.bin false .mul (.lst false (.cons (.lit (.int 0)) .nil)) (.bin false .sub (.var 0) (.lit (.int 1)))))) (.cons (.for_ [3] (.gtup (.cons (.gname 6) (.cons (.gname 3) .nil))) (.izip (.cons (.var 5) (.cons (.var 2) .nil))) (.cons (.asg (.gsub (.var 7) (.var 6)) (.idx (.var 5) (.var 3))) .nil)) (.cons (.expr (.meth false .append (.var 1) (.cons (.conv false false (.var 7)) .nil))) .nil)))) .nil))) (.cons (.ret (.frz (.var 1))) .nil))))
def f__law_all_paired : Fn := ⟨1, 8, t__law_all_paired⟩
/- _law_longest: 0=_law_row 1=_law_sign 2=_law_found 3=_law_place 4=_law_item 5=_law_at -/
def t__law_longest : T := .cons (.asg (.gname 2) (.lst true .nil)) (.cons (.for_ [3, 4] (.gtup (.cons (.gname 3) (.cons (.gname 4) .nil))) (.ienum (.var 0)) (.cons (.expr (.meth false .append (.var 2) (.cons (.bin false .add (.lit (.int 1)) (.blt false .max (.cons (.bin false .add (.lst false (.cons (.lit (.int 0)) .nil)) (.comp false [5] (.idx (.var 2) (.var 5)) (.gname 5) (.irng (.cons (.var 3) .nil)) (.cons (.cmp .gt (.bin false .mul (.bin false .sub (.var 4) (.idx (.var 0) (.var 5))) (.var 1)) (.lit (.int 0))) .nil))) .nil))) .nil))) .nil)) (.cons (.ret (.frz (.var 2))) .nil))
def f__law_longest : Fn := ⟨2, 6, t__law_longest⟩
/- _law_right: 0=_law_involution_here 1=_law_kept 2=_law_due 3=_law_again 4=_law_up 5=_law_down 6=_law_place -/
def t__law_right : T := .cons (.par [1, 2] (.cons (.blt false .repr (.cons (.var 0) .nil)) (.cons (.call "_law_insertion" (.cons (.var 0) .nil) []) .nil))) (.cons (.for_ [3] (.gname 3) (.irng (.cons (.lit (.int 2)) .nil)) (.cons (.ifs (.or (.cmp .ne (.blt false .repr (.cons (.call "stair_of_involution" (.cons (.var 0) .nil) []) .nil)) (.blt false .repr (.cons (.var 2) .nil))) (.cmp .ne (.blt false .repr (.cons (.var 0) .nil)) (.var 1))) (.cons (.ret (.lit (.bl false))) .nil) .nil) .nil)) (.cons (.par [4, 5] (.cons (.call "_law_longest" (.cons (.var 0) (.cons (.lit (.int 1)) .nil)) []) (.cons (.call "_law_longest" (.cons (.var 0) (.cons (.neg (.lit (.int 1))) .nil)) []) .nil))) (.cons (.for_ [6] (.gname 6) (.irng (.cons (.lit (.int 1)) (.cons (.bin false .add (.blt false .len (.cons (.var 2) .nil)) (.lit (.int 1))) .nil))) (.cons (.ifs (.or (.cmp .ne (.meth false .count (.slc false (.var 2) .nil (.cons (.var 6) .nil)) (.cons (.lit (.int 0)) .nil)) (.blt false .max (.cons (.slc false (.var 4) .nil (.cons (.var 6) .nil)) .nil))) (.cmp .ne (.lset (.slc false (.var 2) .nil (.cons (.var 6) .nil))) (.blt false .max (.cons (.slc false (.var 5) .nil (.cons (.var 6) .nil)) .nil)))) (.cons (.ret (.lit (.bl false))) .nil) .nil) .nil)) (.cons (.ret (.lit (.bl true))) .nil))))
def f__law_right : Fn := ⟨1, 7, t__law_right⟩
/- law: 0=_law_script 1=_law_size_here 2=_law_every 3=_law_one 4=_law_k 5=_law_stock_here 6=_law_most -/
def t_law : T := .cons (.for_ [1, 2] (.gname 1) (.irng (.cons (.lit (.int 1)) (.cons (.lit (.int 8)) .nil))) (.cons (.asg (.gname 2) (.call "_law_all_paired" (.cons (.var 1) .nil) [])) (.cons (.ifs (.cmp .ne (.comp false [3] (.var 3) (.gname 3) (.ival (.var 2)) (.cons (.not (.tst (.call "_law_right" (.cons (.var 3) .nil) []))) .nil)) (.lst false .nil)) (.cons (.ret (.lit (.bl false))) .nil) .nil) (.cons (.ifs (.cmp .ne (.ldct (.comp false [3] (.tup (.cons (.call "stair_of_involution" (.cons (.var 3) .nil) []) (.cons (.lit (.bl true)) .nil))) (.gname 3) (.ival (.var 2)) .nil)) (.blt false .len (.cons (.var 2) .nil))) (.cons (.ret (.lit (.bl false))) .nil) .nil) .nil)))) (.cons (.for_ [4, 5, 6] (.gname 4) (.irng (.cons (.blt false .max (.cons (.lit (.int 1)) (.cons (.blt false .min (.cons (.lit (.int 4)) (.cons (.blt false .len (.cons (.var 0) .nil)) .nil))) .nil))) .nil)) (.cons (.asg (.gname 5) (.call "_law_stock" (.cons (.var 0) (.cons (.var 4) .nil)) [])) (.cons (.for_ [6] (.gname 6) (.ival (.lst false (.cons (.lit (.int 60)) (.cons (.lit (.int 60)) (.cons (.lit (.int 12)) .nil))))) (.cons (.ifs (.not (.tst (.call "_law_right" (.cons (.call "_law_paired" (.cons (.var 5) (.cons (.var 6) .nil)) []) .nil) []))) (.cons (.ret (.lit (.bl false))) .nil) .nil) .nil)) .nil))) (.cons (.ret (.and (.cmp .eq (.call "stair_of_involution" (.cons (.tup (.cons (.lit (.int 3)) (.cons (.lit (.int 1)) (.cons (.lit (.int 4)) (.cons (.lit (.int 0)) (.cons (.lit (.int 2)) .nil)))))) .nil) []) (.tup (.cons (.lit (.int 0)) (.cons (.lit (.int 1)) (.cons (.lit (.int 0)) (.cons (.lit (.int 2)) (.cons (.lit (.int 1)) .nil))))))) (.cmp .eq (.call "stair_of_involution" (.cons (.tup (.cons (.lit (.int 0)) .nil)) .nil) []) (.tup (.cons (.lit (.int 0)) .nil))))) .nil))
def f_law : Fn := ⟨1, 7, t_law⟩
def PG : List (String × Fn) := [("is_int", f_is_int), ("in_range", f_in_range), ("is_involution", f_is_involution), ("require_involution", f_require_involution), ("insert", f_insert), ("stair_by", f_stair_by), ("stair_in", f_stair_in), ("stair_of_involution", f_stair_of_involution), ("_law_stock", f__law_stock), ("_law_get", f__law_get), ("_law_size", f__law_size), ("_law_paired", f__law_paired), ("_law_insertion", f__law_insertion), ("_law_all_paired", f__law_all_paired), ("_law_longest", f__law_longest), ("_law_right", f__law_right), ("law", f_law)]
theorem run_is_int (n : Nat) : run PG (n + 1) "is_int" = wpF (run PG n) f_is_int := rfl
theorem run_in_range (n : Nat) : run PG (n + 1) "in_range" = wpF (run PG n) f_in_range := rfl
theorem run_is_involution (n : Nat) : run PG (n + 1) "is_involution" = wpF (run PG n) f_is_involution := rfl
theorem run_require_involution (n : Nat) : run PG (n + 1) "require_involution" = wpF (run PG n) f_require_involution := rfl
theorem run_insert (n : Nat) : run PG (n + 1) "insert" = wpF (run PG n) f_insert := rfl
theorem run_stair_by (n : Nat) : run PG (n + 1) "stair_by" = wpF (run PG n) f_stair_by := rfl
theorem run_stair_in (n : Nat) : run PG (n + 1) "stair_in" = wpF (run PG n) f_stair_in := rfl
theorem run_stair_of_involution (n : Nat) : run PG (n + 1) "stair_of_involution" = wpF (run PG n) f_stair_of_involution := rfl
theorem run__law_stock (n : Nat) : run PG (n + 1) "_law_stock" = wpF (run PG n) f__law_stock := rfl
theorem run__law_get (n : Nat) : run PG (n + 1) "_law_get" = wpF (run PG n) f__law_get := rfl
theorem run__law_size (n : Nat) : run PG (n + 1) "_law_size" = wpF (run PG n) f__law_size := rfl
theorem run__law_paired (n : Nat) : run PG (n + 1) "_law_paired" = wpF (run PG n) f__law_paired := rfl
theorem run__law_insertion (n : Nat) : run PG (n + 1) "_law_insertion" = wpF (run PG n) f__law_insertion := rfl
theorem run__law_all_paired (n : Nat) : run PG (n + 1) "_law_all_paired" = wpF (run PG n) f__law_all_paired := rfl
theorem run__law_longest (n : Nat) : run PG (n + 1) "_law_longest" = wpF (run PG n) f__law_longest := rfl
theorem run__law_right (n : Nat) : run PG (n + 1) "_law_right" = wpF (run PG n) f__law_right := rfl
theorem run_law (n : Nat) : run PG (n + 1) "law" = wpF (run PG n) f_law := rfl
end Pw
set_option Elab.async false
set_option linter.all false
set_option maxRecDepth 100000
set_option maxHeartbeats 0
namespace Pw
open PySem PySem.Spec PyProof.Rows L2
def top (i : Nat) : Stmt := PySem.Challenge.pw_runningcount_k13_stairs_of_involutions.main.body.getD i (.Pass ⟨0, 0, 0, 0⟩)
def d_is_int : He.DefD := ⟨(Str.ofString "is_int", none), "is_int", "is_int", defArgs (top 4), defBody (top 4), defScope (top 4), [], []⟩
def df_is_int : Df := ⟨"is_int", d_is_int, ["value"], ["value"], f_is_int, [], false⟩
def d_in_range : He.DefD := ⟨(Str.ofString "in_range", none), "in_range", "in_range", defArgs (top 5), defBody (top 5), defScope (top 5), [], []⟩
def df_in_range : Df := ⟨"in_range", d_in_range, ["value", "low", "high"], ["value", "low", "high"], f_in_range, [], false⟩
def d_is_involution : He.DefD := ⟨(Str.ofString "is_involution", none), "is_involution", "is_involution", defArgs (top 8), defBody (top 8), defScope (top 8), [], []⟩
def df_is_involution : Df := ⟨"is_involution", d_is_involution, ["value", "item", "place"], ["value"], f_is_involution, [], false⟩
def d_require_involution : He.DefD := ⟨(Str.ofString "require_involution", none), "require_involution", "require_involution", defArgs (top 9), defBody (top 9), defScope (top 9), [], []⟩
def df_require_involution : Df := ⟨"require_involution", d_require_involution, ["value"], ["value"], f_require_involution, [], false⟩
def d_insert : He.DefD := ⟨(Str.ofString "insert", none), "insert", "insert", defArgs (top 10), defBody (top 10), defScope (top 10), [], []⟩
def df_insert : Df := ⟨"insert", d_insert, ["rows", "item", "row", "greater", "place", "other"], ["rows", "item"], f_insert, [], false⟩
def d_stair_by : He.DefD := ⟨(Str.ofString "stair_by", none), "stair_by", "stair_by", defArgs (top 11), defBody (top 11), defScope (top 11), [], []⟩
def df_stair_by : Df := ⟨"stair_by", d_stair_by, ["rows", "size", "found", "entry", "row", "place"], ["rows", "size"], f_stair_by, [], false⟩
def d_stair_in : He.DefD := ⟨(Str.ofString "stair_in", none), "stair_in", "stair_in", defArgs (top 12), defBody (top 12), defScope (top 12), [], []⟩
def df_stair_in : Df := ⟨"stair_in", d_stair_in, ["involution", "rows", "item"], ["involution"], f_stair_in, [], false⟩
def d_stair_of_involution : He.DefD := ⟨(Str.ofString "stair_of_involution", none), "stair_of_involution", "stair_of_involution", defArgs (top 13), defBody (top 13), defScope (top 13), [], []⟩
def df_stair_of_involution : Df := ⟨"stair_of_involution", d_stair_of_involution, ["involution"], ["involution"], f_stair_of_involution, [], false⟩
def d__law_stock : He.DefD := ⟨(Str.ofString "_law_stock", none), "_law_stock", "_law_stock", defArgs (top 15), defBody (top 15), defScope (top 15), [], []⟩
def df__law_stock : Df := ⟨"_law_stock", d__law_stock, ["_law_script", "_law_k", "_law_cell"], ["_law_script", "_law_k"], f__law_stock, [], false⟩
def d__law_get : He.DefD := ⟨(Str.ofString "_law_get", none), "_law_get", "_law_get", defArgs (top 16), defBody (top 16), defScope (top 16), [], []⟩
def df__law_get : Df := ⟨"_law_get", d__law_get, ["_law_stock_here", "_law_bound", "_law_found", "_law_mixed"], ["_law_stock_here", "_law_bound"], f__law_get, [], false⟩
def d__law_size : He.DefD := ⟨(Str.ofString "_law_size", none), "_law_size", "_law_size", defArgs (top 17), defBody (top 17), defScope (top 17), [], []⟩
def df__law_size : Df := ⟨"_law_size", d__law_size, ["_law_stock_here", "_law_most"], ["_law_stock_here", "_law_most"], f__law_size, [], false⟩
def d__law_paired : He.DefD := ⟨(Str.ofString "_law_paired", none), "_law_paired", "_law_paired", defArgs (top 18), defBody (top 18), defScope (top 18), [], []⟩
def df__law_paired : Df := ⟨"_law_paired", d__law_paired, ["_law_stock_here", "_law_most", "_law_size_here", "_law_way", "_law_found", "_law_left", "_law_place", "_law_other"], ["_law_stock_here", "_law_most"], f__law_paired, [], false⟩
def d__law_insertion : He.DefD := ⟨(Str.ofString "_law_insertion", none), "_law_insertion", "_law_insertion", defArgs (top 19), defBody (top 19), defScope (top 19), [], []⟩
def df__law_insertion : Df := ⟨"_law_insertion", d__law_insertion, ["_law_involution_here", "_law_rows", "_law_found", "_law_item", "_law_row", "_law_moved", "_law_cells", "_law_spot", "_law_other", "_law_pushed"], ["_law_involution_here"], f__law_insertion, [], false⟩
def d__law_all_paired : He.DefD := ⟨(Str.ofString "_law_all_paired", none), "_law_all_paired", "_law_all_paired", defArgs (top 20), defBody (top 20), defScope (top 20), [], []⟩
def df__law_all_paired : Df := ⟨"_law_all_paired", d__law_all_paired, ["_law_size_here", "_law_found", "_law_rest", "_law_one", "_law_other", "_law_others", "_law_place", "_law_row"], ["_law_size_here"], f__law_all_paired, [], false⟩
def d__law_longest : He.DefD := ⟨(Str.ofString "_law_longest", none), "_law_longest", "_law_longest", defArgs (top 21), defBody (top 21), defScope (top 21), [], []⟩
def df__law_longest : Df := ⟨"_law_longest", d__law_longest, ["_law_row", "_law_sign", "_law_found", "_law_place", "_law_item", "_law_at"], ["_law_row", "_law_sign"], f__law_longest, [], false⟩
def d__law_right : He.DefD := ⟨(Str.ofString "_law_right", none), "_law_right", "_law_right", defArgs (top 22), defBody (top 22), defScope (top 22), [], []⟩
def df__law_right : Df := ⟨"_law_right", d__law_right, ["_law_involution_here", "_law_kept", "_law_due", "_law_again", "_law_up", "_law_down", "_law_place"], ["_law_involution_here"], f__law_right, [], false⟩
def d_law : He.DefD := ⟨(Str.ofString "law", none), "law", "law", defArgs (top 23), defBody (top 23), defScope (top 23), [], []⟩
def df_law : Df := ⟨"law", d_law, ["_law_script", "_law_size_here", "_law_every", "_law_one", "_law_k", "_law_stock_here", "_law_most"], ["_law_script"], f_law, [], false⟩
def prg : Prg := ⟨[df_is_int, df_in_range, df_is_involution, df_require_involution, df_insert, df_stair_by, df_stair_in, df_stair_of_involution, df__law_stock, df__law_get, df__law_size, df__law_paired, df__law_insertion, df__law_all_paired, df__law_longest, df__law_right, df_law], [("MOST_ENTRIES", .int 60)], ["all", "bool", "dict", "enumerate", "int", "isinstance", "len", "list", "max", "min", "range", "repr", "set", "tuple", "zip"], ["InvalidInvolution"], []⟩
theorem prg_fns : prg.fns = PG := rfl
theorem bi_is_int {K : PySem.W.Frag} {fa : Addr} {fd : FuncData} (F : FunD K d_is_int.name d_is_int.qual d_is_int.params d_is_int.body d_is_int.scope (d_is_int.dvs K) (d_is_int.kws K) fa fd) : BindOk K df_is_int fd := bind_plain rfl rfl (FunD.bindsN (ps := ["value"]) F fun _ _ _ _ _ _ us hl => match us, hl with | [_], _ => rfl)
theorem bi_in_range {K : PySem.W.Frag} {fa : Addr} {fd : FuncData} (F : FunD K d_in_range.name d_in_range.qual d_in_range.params d_in_range.body d_in_range.scope (d_in_range.dvs K) (d_in_range.kws K) fa fd) : BindOk K df_in_range fd := bind_plain rfl rfl (FunD.bindsN (ps := ["value", "low", "high"]) F fun _ _ _ _ _ _ us hl => match us, hl with | [_, _, _], _ => rfl)
theorem bi_is_involution {K : PySem.W.Frag} {fa : Addr} {fd : FuncData} (F : FunD K d_is_involution.name d_is_involution.qual d_is_involution.params d_is_involution.body d_is_involution.scope (d_is_involution.dvs K) (d_is_involution.kws K) fa fd) : BindOk K df_is_involution fd := bind_plain rfl rfl (FunD.bindsN (ps := ["value"]) F fun _ _ _ _ _ _ us hl => match us, hl with | [_], _ => rfl)
theorem bi_require_involution {K : PySem.W.Frag} {fa : Addr} {fd : FuncData} (F : FunD K d_require_involution.name d_require_involution.qual d_require_involution.params d_require_involution.body d_require_involution.scope (d_require_involution.dvs K) (d_require_involution.kws K) fa fd) : BindOk K df_require_involution fd := bind_plain rfl rfl (FunD.bindsN (ps := ["value"]) F fun _ _ _ _ _ _ us hl => match us, hl with | [_], _ => rfl)
theorem bi_insert {K : PySem.W.Frag} {fa : Addr} {fd : FuncData} (F : FunD K d_insert.name d_insert.qual d_insert.params d_insert.body d_insert.scope (d_insert.dvs K) (d_insert.kws K) fa fd) : BindOk K df_insert fd := bind_plain rfl rfl (FunD.bindsN (ps := ["rows", "item"]) F fun _ _ _ _ _ _ us hl => match us, hl with | [_, _], _ => rfl)
theorem bi_stair_by {K : PySem.W.Frag} {fa : Addr} {fd : FuncData} (F : FunD K d_stair_by.name d_stair_by.qual d_stair_by.params d_stair_by.body d_stair_by.scope (d_stair_by.dvs K) (d_stair_by.kws K) fa fd) : BindOk K df_stair_by fd := bind_plain rfl rfl (FunD.bindsN (ps := ["rows", "size"]) F fun _ _ _ _ _ _ us hl => match us, hl with | [_, _], _ => rfl)
theorem bi_stair_in {K : PySem.W.Frag} {fa : Addr} {fd : FuncData} (F : FunD K d_stair_in.name d_stair_in.qual d_stair_in.params d_stair_in.body d_stair_in.scope (d_stair_in.dvs K) (d_stair_in.kws K) fa fd) : BindOk K df_stair_in fd := bind_plain rfl rfl (FunD.bindsN (ps := ["involution"]) F fun _ _ _ _ _ _ us hl => match us, hl with | [_], _ => rfl)
theorem bi_stair_of_involution {K : PySem.W.Frag} {fa : Addr} {fd : FuncData} (F : FunD K d_stair_of_involution.name d_stair_of_involution.qual d_stair_of_involution.params d_stair_of_involution.body d_stair_of_involution.scope (d_stair_of_involution.dvs K) (d_stair_of_involution.kws K) fa fd) : BindOk K df_stair_of_involution fd := bind_plain rfl rfl (FunD.bindsN (ps := ["involution"]) F fun _ _ _ _ _ _ us hl => match us, hl with | [_], _ => rfl)
theorem bi__law_stock {K : PySem.W.Frag} {fa : Addr} {fd : FuncData} (F : FunD K d__law_stock.name d__law_stock.qual d__law_stock.params d__law_stock.body d__law_stock.scope (d__law_stock.dvs K) (d__law_stock.kws K) fa fd) : BindOk K df__law_stock fd := bind_plain rfl rfl (FunD.bindsN (ps := ["_law_script", "_law_k"]) F fun _ _ _ _ _ _ us hl => match us, hl with | [_, _], _ => rfl)
theorem bi__law_get {K : PySem.W.Frag} {fa : Addr} {fd : FuncData} (F : FunD K d__law_get.name d__law_get.qual d__law_get.params d__law_get.body d__law_get.scope (d__law_get.dvs K) (d__law_get.kws K) fa fd) : BindOk K df__law_get fd := bind_plain rfl rfl (FunD.bindsN (ps := ["_law_stock_here", "_law_bound"]) F fun _ _ _ _ _ _ us hl => match us, hl with | [_, _], _ => rfl)
theorem bi__law_size {K : PySem.W.Frag} {fa : Addr} {fd : FuncData} (F : FunD K d__law_size.name d__law_size.qual d__law_size.params d__law_size.body d__law_size.scope (d__law_size.dvs K) (d__law_size.kws K) fa fd) : BindOk K df__law_size fd := bind_plain rfl rfl (FunD.bindsN (ps := ["_law_stock_here", "_law_most"]) F fun _ _ _ _ _ _ us hl => match us, hl with | [_, _], _ => rfl)
theorem bi__law_paired {K : PySem.W.Frag} {fa : Addr} {fd : FuncData} (F : FunD K d__law_paired.name d__law_paired.qual d__law_paired.params d__law_paired.body d__law_paired.scope (d__law_paired.dvs K) (d__law_paired.kws K) fa fd) : BindOk K df__law_paired fd := bind_plain rfl rfl (FunD.bindsN (ps := ["_law_stock_here", "_law_most"]) F fun _ _ _ _ _ _ us hl => match us, hl with | [_, _], _ => rfl)
theorem bi__law_insertion {K : PySem.W.Frag} {fa : Addr} {fd : FuncData} (F : FunD K d__law_insertion.name d__law_insertion.qual d__law_insertion.params d__law_insertion.body d__law_insertion.scope (d__law_insertion.dvs K) (d__law_insertion.kws K) fa fd) : BindOk K df__law_insertion fd := bind_plain rfl rfl (FunD.bindsN (ps := ["_law_involution_here"]) F fun _ _ _ _ _ _ us hl => match us, hl with | [_], _ => rfl)
theorem bi__law_all_paired {K : PySem.W.Frag} {fa : Addr} {fd : FuncData} (F : FunD K d__law_all_paired.name d__law_all_paired.qual d__law_all_paired.params d__law_all_paired.body d__law_all_paired.scope (d__law_all_paired.dvs K) (d__law_all_paired.kws K) fa fd) : BindOk K df__law_all_paired fd := bind_plain rfl rfl (FunD.bindsN (ps := ["_law_size_here"]) F fun _ _ _ _ _ _ us hl => match us, hl with | [_], _ => rfl)
theorem bi__law_longest {K : PySem.W.Frag} {fa : Addr} {fd : FuncData} (F : FunD K d__law_longest.name d__law_longest.qual d__law_longest.params d__law_longest.body d__law_longest.scope (d__law_longest.dvs K) (d__law_longest.kws K) fa fd) : BindOk K df__law_longest fd := bind_plain rfl rfl (FunD.bindsN (ps := ["_law_row", "_law_sign"]) F fun _ _ _ _ _ _ us hl => match us, hl with | [_, _], _ => rfl)
theorem bi__law_right {K : PySem.W.Frag} {fa : Addr} {fd : FuncData} (F : FunD K d__law_right.name d__law_right.qual d__law_right.params d__law_right.body d__law_right.scope (d__law_right.dvs K) (d__law_right.kws K) fa fd) : BindOk K df__law_right fd := bind_plain rfl rfl (FunD.bindsN (ps := ["_law_involution_here"]) F fun _ _ _ _ _ _ us hl => match us, hl with | [_], _ => rfl)
theorem bi_law {K : PySem.W.Frag} {fa : Addr} {fd : FuncData} (F : FunD K d_law.name d_law.qual d_law.params d_law.body d_law.scope (d_law.dvs K) (d_law.kws K) fa fd) : BindOk K df_law fd := bind_plain rfl rfl (FunD.bindsN (ps := ["_law_script"]) F fun _ _ _ _ _ _ us hl => match us, hl with | [_], _ => rfl)
end Pw
set_option Elab.async false
set_option linter.all false
set_option maxRecDepth 100000
/-! plain laws for the maths side: what is shown, what is equal, loops by an invariant. -/
namespace Pw
open PySem PySem.Spec PyProof.Rows L2

/-! ### what is shown -/
theorem textFrom_le : ∀ (ts : List Str) (k : Nat) (acc : Str), (textFrom k acc ts).length ≤ acc.length + piled ts
  | [], k, acc => by show acc.length ≤ _; omega
  | t :: r, k, acc => by
    have ih := textFrom_le r (k + 1) (acc ++ (if k > 0 then ", " else "" : String) ++ t)
    have e : (acc ++ (if k > 0 then ", " else "" : String) ++ t).length = acc.length + (if k > 0 then 2 else 0) + t.length := by
      rw [strLen_append, strLen_append]
      split <;> rfl
    rw [e] at ih
    show (textFrom (k + 1) _ r).length ≤ _
    rw [piled_cons]
    have e2 : (if k > 0 then 2 else 0 : Nat) ≤ 2 := by split <;> decide
    omega
def Sm (b : Nat) (d : D) : Prop := (toP d).showable = true ∧ (toP d).shown.length ≤ b
abbrev rp (d : D) : Str := (toP d).shown
theorem Sm.mono {b c : Nat} {d : D} (h : Sm b d) (hb : b ≤ c) : Sm c d := ⟨h.1, Nat.le_trans h.2 hb⟩
theorem sm_non : Sm 4 .non := ⟨rfl, by decide⟩
theorem sm_bl : ∀ b : Bool, Sm 5 (.bl b)
  | true => ⟨rfl, by decide⟩
  | false => ⟨rfl, by decide⟩
theorem sm_int {i : Int} (k : Nat) (hk : 0 < k) (h2 : k ≤ 500) (h : i.natAbs < 10 ^ k) : Sm (k + 1) (.int i) := by
  refine ⟨?_, ?_⟩
  · show decide (i.natAbs.log2 < 1920) = true
    refine decide_eq_true ?_
    by_cases h0 : i.natAbs = 0
    · rw [h0]; decide
    · refine (Nat.log2_lt h0).mpr (Nat.lt_of_lt_of_le h (Nat.le_trans (Nat.pow_le_pow_right (by decide) h2) ?_))
      decide +kernel
  · show (Str.ofString (toString i)).length ≤ _
    rw [PySem.ofString_length]
    exact int_text_length_le10 hk h
theorem toPs_len : ∀ xs : List D, (toPs xs).length = xs.length
  | [] => rfl
  | x :: xs => by simp [toPs, toPs_len xs]
theorem shownAll_len : ∀ xs : List PyData, (PyData.shownAll xs).length = xs.length
  | [] => rfl
  | x :: xs => by simp [PyData.shownAll, shownAll_len xs]
theorem piled_toPs {b : Nat} : ∀ xs : List D, (∀ x ∈ xs, Sm b x) → PyData.showableAll (toPs xs) = true ∧ piled (PyData.shownAll (toPs xs)) ≤ xs.length * (b + 2)
  | [], _ => ⟨rfl, by simp [toPs, PyData.shownAll, piled_nil]⟩
  | x :: xs, h => by
    obtain ⟨h1, h2⟩ := piled_toPs xs fun y hy => h y (List.mem_cons_of_mem _ hy)
    obtain ⟨h3, h4⟩ := h x (List.mem_cons_self ..)
    refine ⟨by simp [toPs, PyData.showableAll, h1, h3], ?_⟩
    simp only [toPs, PyData.shownAll, piled_cons, List.length_cons, Nat.add_mul, Nat.one_mul]
    omega
theorem listText_le (ts : List Str) : (listText ts).length ≤ 2 + piled ts := by
  unfold listText
  rw [strLen_append]
  have := textFrom_le ts 0 "["
  have e1 : (("[" : String) : Str).length = 1 := rfl
  have e2 : (("]" : String) : Str).length = 1 := rfl
  omega
theorem join_le (ts : List Str) : (Str.join ", " ts).length ≤ piled ts := by
  by_cases h : ts = []
  · subst h; simp [Str.join]; decide
  · have := join_length_add ts h; omega
theorem tupleText_le (ts : List Str) : (tupleText ts).length ≤ 3 + piled ts := by
  unfold tupleText
  rw [strLen_append, strLen_append]
  have := join_le ts
  have e1 : (("(" : String) : Str).length = 1 := rfl
  have e2 : ((if ts.length == 1 then ",)" else ")" : String) : Str).length ≤ 2 := by split <;> decide
  omega
theorem sm_lst {xs : List D} {n b : Nat} (h : ∀ x ∈ xs, Sm b x) (hn : xs.length ≤ n) : Sm (2 + n * (b + 2)) (.lst xs) := by
  obtain ⟨h1, h2⟩ := piled_toPs xs h
  refine ⟨h1, Nat.le_trans (listText_le _) (Nat.add_le_add_left (Nat.le_trans h2 (Nat.mul_le_mul_right _ hn)) _)⟩
theorem sm_tup {xs : List D} {n b : Nat} (h : ∀ x ∈ xs, Sm b x) (hn : xs.length ≤ n) : Sm (3 + n * (b + 2)) (.tup xs) := by
  obtain ⟨h1, h2⟩ := piled_toPs xs h
  refine ⟨h1, Nat.le_trans (tupleText_le _) (Nat.add_le_add_left (Nat.le_trans h2 (Nat.mul_le_mul_right _ hn)) _)⟩
theorem sm_ints {ns : List Int} {k : Nat} (hk : 0 < k) (h2 : k ≤ 500) (h : ∀ n ∈ ns, n.natAbs < 10 ^ k) : ∀ x ∈ ns.map D.int, Sm (k + 1) x := fun x hx => by
  obtain ⟨i, hi, rfl⟩ := List.mem_map.mp hx
  exact sm_int k hk h2 (h i hi)
theorem bfn_repr {m : Bool} {d : D} {M : Mp} {Q : DK} {b : Nat} (h0 : isD true (see M d) 30 = true) (hs : Sm b (see M d)) (hb : b ≤ LIM) (h : Q (.str (rp (see M d))) M) : bfn m .repr [d] M Q :=
  ⟨_, .inl rfl, h0, hs.1, Nat.le_trans hs.2 hb, h⟩
theorem bfn_reprD {m : Bool} {d y : D} {l : List Addr} {M : Mp} {Q : DK} {b : Nat} (he : settle M 8 d = some (y, l)) (h0 : isD true y 30 = true) (hs : Sm b y) (hb : b ≤ LIM) (h : Q (.str (rp y)) M) : bfn m .repr [d] M Q :=
  ⟨_, .inr ⟨l, he⟩, h0, hs.1, Nat.le_trans hs.2 hb, h⟩

/-! ### data -/
theorem isDs_of {w : Bool} {n : Nat} : ∀ {xs : List D}, (∀ x ∈ xs, isD w x n = true) → isDs w xs n = true
  | [], _ => rfl
  | x :: xs, h => by
    simp only [isDs, Bool.and_eq_true]
    exact ⟨h x (List.mem_cons_self ..), isDs_of fun y hy => h y (List.mem_cons_of_mem _ hy)⟩
@[simp] theorem isD_int {w : Bool} {n : Nat} {i : Int} : isD w (.int i) n = true := by unfold isD; rfl
@[simp] theorem isD_bl {w : Bool} {n : Nat} {i : Bool} : isD w (.bl i) n = true := by unfold isD; rfl
@[simp] theorem isD_str {w : Bool} {n : Nat} {i : Str} : isD w (.str i) n = true := by unfold isD; rfl
@[simp] theorem isD_non {w : Bool} {n : Nat} : isD w .non n = true := by unfold isD; rfl
@[simp] theorem isD_tup {w : Bool} {n : Nat} {xs : List D} : isD w (.tup xs) (n + 1) = isDs w xs n := by simp only [isD]
@[simp] theorem isD_lst {w : Bool} {n : Nat} {xs : List D} : isD w (.lst xs) (n + 1) = isDs w xs n := by simp only [isD]
@[simp] theorem isDs_nil {w : Bool} {n : Nat} : isDs w [] n = true := rfl
@[simp] theorem isDs_cons {w : Bool} {n : Nat} {x : D} {xs : List D} : isDs w (x :: xs) n = (isD w x n && isDs w xs n) := by simp only [isDs]
@[simp] theorem isDs_ints {w : Bool} {n : Nat} {ns : List Int} : isDs w (ns.map D.int) n = true := isDs_of fun x hx => by
  obtain ⟨i, _, rfl⟩ := List.mem_map.mp hx
  exact isD_int
@[simp] theorem isDs_app {w : Bool} {n : Nat} {ys : List D} : ∀ {xs : List D}, isDs w (xs ++ ys) n = (isDs w xs n && isDs w ys n)
  | [] => by simp
  | x :: xs => by simp [isDs_app (xs := xs), Bool.and_assoc]

/-! ### equal -/
@[simp] theorem eqD_int {i j : Int} : eqD (.int i) (.int j) = decide (i = j) := by
  simp only [eqD, toP, PyData.eqv]; exact Bool.eq_iff_iff.mpr (by simp)
@[simp] theorem eqD_bl {i j : Bool} : eqD (.bl i) (.bl j) = decide (i = j) := by
  simp only [eqD, toP, PyData.eqv]; exact Bool.eq_iff_iff.mpr (by simp)
theorem str_beq {a b : Str} : (a == b) = decide (a = b) := Bool.eq_iff_iff.mpr (by simp)
@[simp] theorem eqD_str {i j : Str} : eqD (.str i) (.str j) = decide (i = j) := by
  simp only [eqD, toP, PyData.eqv]; exact str_beq
theorem eqvAll_ints : ∀ {ns ms : List Int}, PyData.eqvAll (toPs (ns.map D.int)) (toPs (ms.map D.int)) = decide (ns = ms)
  | [], [] => by simp [toPs, PyData.eqvAll]
  | [], _ :: _ => by simp [toPs, PyData.eqvAll]
  | _ :: _, [] => by simp [toPs, PyData.eqvAll]
  | n :: ns, m :: ms => by
    have e : PyData.eqv (toP (.int n)) (toP (.int m)) = decide (n = m) := eqD_int
    show (PyData.eqv (toP (.int n)) (toP (.int m)) && PyData.eqvAll (toPs (ns.map D.int)) (toPs (ms.map D.int))) = _
    rw [eqvAll_ints, e]
    exact Bool.eq_iff_iff.mpr (by simp only [Bool.and_eq_true, decide_eq_true_eq, List.cons.injEq])
@[simp] theorem eqD_lst_ints {ns ms : List Int} : eqD (.lst (ns.map D.int)) (.lst (ms.map D.int)) = decide (ns = ms) := by
  simp only [eqD, toP, PyData.eqv]; exact eqvAll_ints
@[simp] theorem eqD_tup_ints {ns ms : List Int} : eqD (.tup (ns.map D.int)) (.tup (ms.map D.int)) = decide (ns = ms) := by
  simp only [eqD, toP, PyData.eqv]; exact eqvAll_ints

/-! ### numbers that may be reckoned -/
theorem mulOk_of {i j : Int} (a b : Nat) (h1 : i.natAbs < 2 ^ a) (h2 : j.natAbs < 2 ^ b) (ha : 0 < a) (hb : 0 < b) (h : a + b ≤ 1000000) : MulOk i j := ⟨a, b, h1, h2, ha, hb, h⟩
theorem divOk_of {j : Int} (a : Nat) (h0 : 0 < j) (h1 : j.natAbs < 2 ^ a) (ha : 0 < a) (h : a ≤ 9000) : DivOk j := ⟨h0, a, h1, ha, h⟩
@[simp] theorem mulOk_lit {i j : Int} (h1 : i.natAbs < 1606938044258990275541962092341162602522202993782792835301376) (h2 : j.natAbs < 1606938044258990275541962092341162602522202993782792835301376) : MulOk i j = True :=
  eq_true (mulOk_of 200 200 h1 h2 (by decide) (by decide) (by decide))
@[simp] theorem divOk_lit {j : Int} (h0 : 0 < j) (h1 : j.natAbs < 1606938044258990275541962092341162602522202993782792835301376) : DivOk j = True :=
  eq_true (divOk_of 200 h0 h1 (by decide) (by decide))
@[simp] theorem powOk_lit {i j : Int} (h0 : 0 ≤ j) (h1 : i.natAbs < 1048576) (h2 : j ≤ 10000) : PowOk i j = True :=
  eq_true ⟨h0, 20, h1, by decide, by omega⟩
/-! ### what is left -/
theorem Lv.here {Q : Mp → Prop} {M : Mp} (h : Q M) : Lv Q M := ⟨M, Sub.refl, h⟩
theorem Lv.new {Q : Mp → Prop} {M : Mp} {p : Addr} {o : DO} (hp : M p = none) (h : Q M) : Lv Q (up M p o) := ⟨M, Sub.up hp, h⟩
theorem Sub.upup {M' M : Mp} {a : Addr} {o : DO} (s : Sub M' M) : Sub (Pw.up M' a o) (Pw.up M a o) := fun b x e => by
  by_cases h : b = a
  · subst h; rw [up_same] at e ⊢; exact e
  · rw [up_ne h] at e ⊢; exact s b x e
theorem up_comm {M : Mp} {a b : Addr} {o o' : DO} (h : a ≠ b) : up (up M a o) b o' = up (up M b o') a o := by
  funext c; unfold up; split <;> rename_i h1 <;> split <;> rename_i h2 <;> first | rfl | (exact absurd (h2.symm.trans h1) h)
@[simp] theorem up_same' {M : Mp} {a : Addr} {o : DO} : up M a o a = some o := up_same
@[simp] theorem up_up' {M : Mp} {a : Addr} {o o' : DO} : up (up M a o) a o' = up M a o' := up_up

theorem up_id {M : Mp} {a : Addr} {o : DO} (h : M a = some o) : up M a o = M := by
  funext b; unfold up; split
  · rename_i e; rw [e, h]
  · rfl
theorem mapP_id {f : D → Option (D × List Addr)} : ∀ {ds : List D}, (∀ d ∈ ds, f d = some (d, [])) → mapP f ds = some (ds, [])
  | [], _ => rfl
  | d :: ds, h => by
    simp only [mapP, h d (List.mem_cons_self ..), mapP_id fun x hx => h x (List.mem_cons_of_mem _ hx)]; rfl
theorem settle_data {M : Mp} {n : Nat} {d : D} (h : isD true d 30 = true) : settle M (n + 1) d = some (d, []) := by
  unfold settle; rw [h]
theorem settle_ref {M : Mp} {n : Nat} {a : Addr} {ds : List D} (h : M a = some (.lst ds)) (hd : ∀ d ∈ ds, isD true d 30 = true) : settle M (n + 2) (.ref a) = some (.lst ds, [a]) := by
  have e : isD true (.ref a) 30 = false := by simp [isD]
  unfold settle
  rw [e]
  simp only [h, mapP_id fun d hm => settle_data (M := M) (n := n) (hd d hm)]
  rfl
/-! ### loops -/
theorem flatMap_one {α β : Type} (f : α → β) : ∀ xs : List α, (xs.flatMap fun d => [f d]) = xs.map f
  | [] => rfl
  | x :: xs => by rw [List.flatMap_cons, flatMap_one f xs]; rfl
theorem forL_inv {step : D → (St → Mp → Prop) → St → Mp → Prop} {clr : List Nat} {still : Mp → Prop} {nx : St → Mp → Prop} (I : List D → St → Mp → Prop)
    (h1 : ∀ d ds δ M, I (d :: ds) δ M → still M ∧ ∀ k : St → Mp → Prop, (∀ δ' M', I ds (wipeD δ' clr) M' → k δ' M') → step d k δ M)
    (h2 : ∀ δ M, I [] δ M → still M ∧ nx δ M) : ∀ ds δ M, I ds δ M → forL step clr still nx ds δ M
  | [], δ, M, h => h2 δ M h
  | d :: ds, δ, M, h => ⟨(h1 d ds δ M h).1, (h1 d ds δ M h).2 _ fun δ' M' h' => forL_inv I h1 h2 ds (wipeD δ' clr) M' h'⟩
theorem compL_inv {α : Type} {g : D → St → Mp → (St → Mp → Prop) → Prop} {tt : St → Mp → (Bool → Mp → Prop) → Prop} {te : St → Mp → (α → Mp → (α → Mp → Prop) → Prop)} {still : Mp → Prop} {δ : St} {K : α → Mp → Prop}
    (I : List D → α → Mp → Prop)
    (h1 : ∀ d ds acc M, I (d :: ds) acc M → still M ∧ ∀ k : α → Mp → Prop, (∀ acc' M', I ds acc' M' → k acc' M') → g d δ M fun δ1 M1 => tt δ1 M1 fun b M2 => match b with
      | true => te δ1 M2 acc M2 k
      | false => k acc M2)
    (h2 : ∀ acc M, I [] acc M → still M ∧ K acc M) : ∀ ds acc M, I ds acc M → compL g tt te still δ K ds acc M
  | [], acc, M, h => h2 acc M h
  | d :: ds, acc, M, h => by
    refine ⟨(h1 d ds acc M h).1, ?_⟩
    have z := (h1 d ds acc M h).2 (fun acc' M' => compL g tt te still δ K ds acc' M') fun acc' M' h' => compL_inv I h1 h2 ds acc' M' h'
    exact z
/-- a comprehension that changes nothing -/
theorem compL_pure {g : D → St → Mp → (St → Mp → Prop) → Prop} {tt : St → Mp → (Bool → Mp → Prop) → Prop} {te : St → Mp → (List D → Mp → (List D → Mp → Prop) → Prop)} {still : Mp → Prop} {δ : St} {K : List D → Mp → Prop} {M : Mp} {ds : List D}
    (f : D → List D) (hs : still M)
    (h1 : ∀ d ∈ ds, ∀ acc, ∀ k : List D → Mp → Prop, k (acc ++ f d) M → g d δ M fun δ1 M1 => tt δ1 M1 fun b M2 => match b with
      | true => te δ1 M2 acc M2 k
      | false => k acc M2)
    (h2 : K (ds.flatMap f) M) : compL g tt te still δ K ds [] M := by
  refine compL_inv (I := fun ds' acc M' => M' = M ∧ (∀ d ∈ ds', d ∈ ds) ∧ acc ++ ds'.flatMap f = ds.flatMap f) ?_ ?_ ds [] M ⟨rfl, fun _ h => h, rfl⟩
  · intro d ds' acc M' ⟨e, hm, ha⟩
    subst e
    refine ⟨hs, fun k hk => h1 d (hm d (List.mem_cons_self ..)) acc k (hk _ _ ⟨rfl, fun x hx => hm x (List.mem_cons_of_mem _ hx), ?_⟩)⟩
    rw [← ha]; simp
  · intro acc M' ⟨e, _, ha⟩
    subst e
    refine ⟨hs, ?_⟩
    have : acc = ds.flatMap f := by simpa using ha
    rw [this]; exact h2

@[simp] theorem rep_one {xs : List D} : rep 1 xs = xs := by simp [rep]
@[simp] theorem rep_zero {xs : List D} : rep 0 xs = [] := by simp [rep]
@[simp ↓] theorem mkN_false {ds : List D} {M : Mp} {Q : DK} : mkN false ds M Q = Q (.lst ds) M := rfl
@[simp ↓] theorem mkN_true {ds : List D} {M : Mp} {Q : DK} : mkN true ds M Q = ∀ p, M p = none → Q (.ref p) (up M p (.lst ds)) := rfl
end Pw
set_option Elab.async false
set_option linter.all false
set_option maxRecDepth 100000
/-! the equations of the wp functions, for simp (printed by gen_eq.py) -/
namespace Pw
open PySem PySem.Spec PyProof.Rows L2
variable {Γ : String → SpD} {xk : XD}
/-- what simp shall not look into -/
inductive Hid {α : Type} (q : α) : Type where
  | mk
/-- the wp functions, locked: nothing can unfold them but the equations below (else the kernel runs through them) -/
structure Funs where
  E : (String → SpD) → XD → T → St → Mp → DK → Prop
  T' : (String → SpD) → XD → T → St → Mp → (Bool → Mp → Prop) → Prop
  Ts : (String → SpD) → XD → T → St → Mp → (Bool → Mp → Prop) → Prop
  L : (String → SpD) → XD → T → St → Mp → (List D → Mp → Prop) → Prop
  O : (String → SpD) → XD → T → St → Mp → (Option Int → Mp → Prop) → Prop
  X : (String → SpD) → XD → T → St → Mp → (List D → Mp → Prop) → Prop
  I : (String → SpD) → XD → T → St → Mp → (List D → (Mp → Prop) → Mp → Prop) → Prop
  G : (String → SpD) → XD → T → D → St → Mp → (St → Mp → Prop) → Prop
  Gs : (String → SpD) → XD → T → List D → St → Mp → (St → Mp → Prop) → Prop
  S : (String → SpD) → XD → T → En → St → Mp → Prop
  Ss : (String → SpD) → XD → T → En → St → Mp → Prop
def funs0 : Funs := ⟨wpE, wpT, wpTs, wpL, wpO, wpX, wpI, wpG, wpGs, wpS, wpSs⟩
theorem funs_ex : ∃ f : Funs, f = funs0 := ⟨_, rfl⟩
noncomputable def zf : Funs := Classical.choose funs_ex
theorem zf_eq : zf = funs0 := Classical.choose_spec funs_ex
noncomputable def zE := zf.E
theorem zE_eq : zE = wpE := by unfold zE; rw [zf_eq]; rfl
noncomputable def zT := zf.T'
theorem zT_eq : zT = wpT := by unfold zT; rw [zf_eq]; rfl
noncomputable def zTs := zf.Ts
theorem zTs_eq : zTs = wpTs := by unfold zTs; rw [zf_eq]; rfl
noncomputable def zL := zf.L
theorem zL_eq : zL = wpL := by unfold zL; rw [zf_eq]; rfl
noncomputable def zO := zf.O
theorem zO_eq : zO = wpO := by unfold zO; rw [zf_eq]; rfl
noncomputable def zX := zf.X
theorem zX_eq : zX = wpX := by unfold zX; rw [zf_eq]; rfl
noncomputable def zI := zf.I
theorem zI_eq : zI = wpI := by unfold zI; rw [zf_eq]; rfl
noncomputable def zG := zf.G
theorem zG_eq : zG = wpG := by unfold zG; rw [zf_eq]; rfl
noncomputable def zGs := zf.Gs
theorem zGs_eq : zGs = wpGs := by unfold zGs; rw [zf_eq]; rfl
noncomputable def zS := zf.S
theorem zS_eq : zS = wpS := by unfold zS; rw [zf_eq]; rfl
noncomputable def zSs := zf.Ss
theorem zSs_eq : zSs = wpSs := by unfold zSs; rw [zf_eq]; rfl

def runH (Γ : String → SpD) (f : String) (ds : List D) (M : Mp) (Q : DK) (X : Str → Mp → Prop) (_ : Hid Q) (_ : Hid X) : Prop := Γ f ds M Q X
def forH (step : D → (St → Mp → Prop) → St → Mp → Prop) (clr : List Nat) (still : Mp → Prop) (nx : St → Mp → Prop) (ds : List D) (δ : St) (M : Mp) (_ : Hid step) (_ : Hid nx) : Prop := forL step clr still nx ds δ M
def compH {α : Type} (g : D → St → Mp → (St → Mp → Prop) → Prop) (tt : St → Mp → (Bool → Mp → Prop) → Prop) (te : St → Mp → (α → Mp → (α → Mp → Prop) → Prop)) (still : Mp → Prop) (δ : St) (K : α → Mp → Prop) (ds : List D) (acc : α) (M : Mp) (_ : Hid g) (_ : Hid tt) (_ : Hid te) (_ : Hid K) : Prop := compL g tt te still δ K ds acc M

@[simp ↓] theorem wpE_var {i : Nat} {δ : St} {M : Mp} {Q : DK} : zE Γ xk (.var i) δ M Q = ((match δ[i]? with
    | some (some d) => Q d M
    | _ => False)) := by dsimp only [zE, zT, zTs, zL, zO, zX, zI, zG, zGs, zS, zSs]; generalize hz : zf = f; (have e := hz.symm.trans zf_eq); subst e; rfl
@[simp ↓] theorem wpE_lit {d : D} {u0 : St} {M : Mp} {Q : DK} : zE Γ xk (.lit d) u0 M Q = (Q d M) := by dsimp only [zE, zT, zTs, zL, zO, zX, zI, zG, zGs, zS, zSs]; generalize hz : zf = f; (have e := hz.symm.trans zf_eq); subst e; rfl
@[simp ↓] theorem wpE_bin {m : Bool} {op : BinO} {a : T} {b : T} {δ : St} {M : Mp} {Q : DK} : zE Γ xk (.bin m op a b) δ M Q = (zE Γ xk a δ M fun x M1 => zE Γ xk b δ M1 fun y M2 => bop m op x y M2 Q) := by dsimp only [zE, zT, zTs, zL, zO, zX, zI, zG, zGs, zS, zSs]; generalize hz : zf = f; (have e := hz.symm.trans zf_eq); subst e; rfl
@[simp ↓] theorem wpE_neg {a : T} {δ : St} {M : Mp} {Q : DK} : zE Γ xk (.neg a) δ M Q = (zE Γ xk a δ M fun x M1 => (match x with
    | .int i => Q (.int (-i)) M1
    | _ => False)) := by dsimp only [zE, zT, zTs, zL, zO, zX, zI, zG, zGs, zS, zSs]; generalize hz : zf = f; (have e := hz.symm.trans zf_eq); subst e; rfl
@[simp ↓] theorem wpE_not {a : T} {δ : St} {M : Mp} {Q : DK} : zE Γ xk (.not a) δ M Q = (zE Γ xk a δ M fun x M1 => (match x with
    | .bl b => Q (.bl (!b)) M1
    | _ => False)) := by dsimp only [zE, zT, zTs, zL, zO, zX, zI, zG, zGs, zS, zSs]; generalize hz : zf = f; (have e := hz.symm.trans zf_eq); subst e; rfl
@[simp ↓] theorem wpE_and {a : T} {b : T} {δ : St} {M : Mp} {Q : DK} : zE Γ xk (.and a b) δ M Q = (zE Γ xk a δ M fun x M1 => (match x with
    | .bl true => zE Γ xk b δ M1 Q
    | .bl false => Q (.bl false) M1
    | _ => False)) := by dsimp only [zE, zT, zTs, zL, zO, zX, zI, zG, zGs, zS, zSs]; generalize hz : zf = f; (have e := hz.symm.trans zf_eq); subst e; rfl
@[simp ↓] theorem wpE_or {a : T} {b : T} {δ : St} {M : Mp} {Q : DK} : zE Γ xk (.or a b) δ M Q = (zE Γ xk a δ M fun x M1 => (match x with
    | .bl true => Q (.bl true) M1
    | .bl false => zE Γ xk b δ M1 Q
    | _ => False)) := by dsimp only [zE, zT, zTs, zL, zO, zX, zI, zG, zGs, zS, zSs]; generalize hz : zf = f; (have e := hz.symm.trans zf_eq); subst e; rfl
@[simp ↓] theorem wpE_cmp {op : CmpO} {a : T} {b : T} {δ : St} {M : Mp} {Q : DK} : zE Γ xk (.cmp op a b) δ M Q = (zE Γ xk a δ M fun x M1 => zE Γ xk b δ M1 fun y M2 => cop op x y M2 fun k => Q (.bl k) M2) := by dsimp only [zE, zT, zTs, zL, zO, zX, zI, zG, zGs, zS, zSs]; generalize hz : zf = f; (have e := hz.symm.trans zf_eq); subst e; rfl
@[simp ↓] theorem wpE_chain {o1 : CmpO} {o2 : CmpO} {a : T} {b : T} {c : T} {δ : St} {M : Mp} {Q : DK} : zE Γ xk (.chain o1 o2 a b c) δ M Q = (zE Γ xk a δ M fun x M1 => zE Γ xk b δ M1 fun y M2 => cop o1 x y M2 fun k => (match k with
    | true => zE Γ xk c δ M2 fun z M3 => cop o2 y z M3 fun k => Q (.bl k) M3
    | false => Q (.bl false) M2)) := by dsimp only [zE, zT, zTs, zL, zO, zX, zI, zG, zGs, zS, zSs]; generalize hz : zf = f; (have e := hz.symm.trans zf_eq); subst e; rfl
@[simp ↓] theorem wpE_ite {c : T} {a : T} {b : T} {δ : St} {M : Mp} {Q : DK} : zE Γ xk (.ite c a b) δ M Q = (zT Γ xk c δ M fun k M1 => (match k with
    | true => zE Γ xk a δ M1 Q
    | false => zE Γ xk b δ M1 Q)) := by dsimp only [zE, zT, zTs, zL, zO, zX, zI, zG, zGs, zS, zSs]; generalize hz : zf = f; (have e := hz.symm.trans zf_eq); subst e; rfl
@[simp ↓] theorem wpE_tup {es : T} {δ : St} {M : Mp} {Q : DK} : zE Γ xk (.tup es) δ M Q = (zL Γ xk es δ M fun ds M1 => Q (.tup ds) M1) := by dsimp only [zE, zT, zTs, zL, zO, zX, zI, zG, zGs, zS, zSs]; generalize hz : zf = f; (have e := hz.symm.trans zf_eq); subst e; rfl
@[simp ↓] theorem wpE_tups {es : T} {δ : St} {M : Mp} {Q : DK} : zE Γ xk (.tups es) δ M Q = (zX Γ xk es δ M fun ds M1 => ds.length ≤ LIM ∧ Q (.tup ds) M1) := by dsimp only [zE, zT, zTs, zL, zO, zX, zI, zG, zGs, zS, zSs]; generalize hz : zf = f; (have e := hz.symm.trans zf_eq); subst e; rfl
@[simp ↓] theorem wpE_lst {m : Bool} {es : T} {δ : St} {M : Mp} {Q : DK} : zE Γ xk (.lst m es) δ M Q = (zL Γ xk es δ M fun ds M1 => mkN m ds M1 Q) := by dsimp only [zE, zT, zTs, zL, zO, zX, zI, zG, zGs, zS, zSs]; generalize hz : zf = f; (have e := hz.symm.trans zf_eq); subst e; rfl
@[simp ↓] theorem wpE_dct {m : Bool} {u0 : St} {M : Mp} {Q : DK} : zE Γ xk (.dct m) u0 M Q = ((match m with
    | true => ∀ p, M p = none → Q (.ref p) (up M p (.dic []))
    | false => Q (.dic []) M)) := by dsimp only [zE, zT, zTs, zL, zO, zX, zI, zG, zGs, zS, zSs]; generalize hz : zf = f; (have e := hz.symm.trans zf_eq); subst e; rfl
@[simp ↓] theorem wpE_call {f : String} {es : T} {dfl : List D} {δ : St} {M : Mp} {Q : DK} : zE Γ xk (.call f es dfl) δ M Q = (zL Γ xk es δ M fun ds M1 => runH Γ f (ds ++ dfl) M1 Q (fun c M' => xk c δ M') .mk .mk) := by dsimp only [zE, zT, zTs, zL, zO, zX, zI, zG, zGs, zS, zSs]; generalize hz : zf = f; (have e := hz.symm.trans zf_eq); subst e; rfl
@[simp ↓] theorem wpE_callk {f : String} {es : T} {u0 : Str} {e : T} {δ : St} {M : Mp} {Q : DK} : zE Γ xk (.callk f es u0 e) δ M Q = (zL Γ xk es δ M fun ds M1 => zE Γ xk e δ M1 fun d M2 => runH Γ f (ds ++ [d]) M2 Q (fun c M' => xk c δ M') .mk .mk) := by dsimp only [zE, zT, zTs, zL, zO, zX, zI, zG, zGs, zS, zSs]; generalize hz : zf = f; (have e := hz.symm.trans zf_eq); subst e; rfl
@[simp ↓] theorem wpE_blt {m : Bool} {f : BF} {es : T} {δ : St} {M : Mp} {Q : DK} : zE Γ xk (.blt m f es) δ M Q = (zL Γ xk es δ M fun ds M1 => bfn m f ds M1 Q) := by dsimp only [zE, zT, zTs, zL, zO, zX, zI, zG, zGs, zS, zSs]; generalize hz : zf = f; (have e := hz.symm.trans zf_eq); subst e; rfl
@[simp ↓] theorem wpE_isi {e : T} {tys : List String} {δ : St} {M : Mp} {Q : DK} : zE Γ xk (.isi e tys) δ M Q = (zE Γ xk e δ M fun x M1 => (match nm (see M1 x) with
    | some n => Q (.bl (tys.any fun t => isI1 n t)) M1
    | none => False)) := by dsimp only [zE, zT, zTs, zL, zO, zX, zI, zG, zGs, zS, zSs]; generalize hz : zf = f; (have e := hz.symm.trans zf_eq); subst e; rfl
@[simp ↓] theorem wpE_conv {m : Bool} {l : Bool} {e : T} {δ : St} {M : Mp} {Q : DK} : zE Γ xk (.conv m l e) δ M Q = (zE Γ xk e δ M fun x M1 => convD m l x M1 Q) := by dsimp only [zE, zT, zTs, zL, zO, zX, zI, zG, zGs, zS, zSs]; generalize hz : zf = f; (have e := hz.symm.trans zf_eq); subst e; rfl
@[simp ↓] theorem wpE_convr {m : Bool} {l : Bool} {es : T} {δ : St} {M : Mp} {Q : DK} : zE Γ xk (.convr m l es) δ M Q = (zL Γ xk es δ M fun ds M1 => rngV (fun ds M2 => match l with
    | true => mkN m ds M2 Q
    | false => Q (.tup ds) M2) ds M1) := by dsimp only [zE, zT, zTs, zL, zO, zX, zI, zG, zGs, zS, zSs]; generalize hz : zf = f; (have e := hz.symm.trans zf_eq); subst e; rfl
@[simp ↓] theorem wpE_convv {e : T} {δ : St} {M : Mp} {Q : DK} : zE Γ xk (.convv e) δ M Q = (zE Γ xk e δ M fun x M1 => (match lstOf M1 x with
    | some ds => Q (.tup ds.reverse) M1
    | none => False)) := by dsimp only [zE, zT, zTs, zL, zO, zX, zI, zG, zGs, zS, zSs]; generalize hz : zf = f; (have e := hz.symm.trans zf_eq); subst e; rfl
@[simp ↓] theorem wpE_meth {m : Bool} {f : MF} {o : T} {es : T} {δ : St} {M : Mp} {Q : DK} : zE Γ xk (.meth m f o es) δ M Q = (zE Γ xk o δ M fun x M1 => (match rcv M1 f x with
    | some k => zL Γ xk es δ M1 fun ds M2 => mth m k f x ds M2 Q
    | none => False)) := by dsimp only [zE, zT, zTs, zL, zO, zX, zI, zG, zGs, zS, zSs]; generalize hz : zf = f; (have e := hz.symm.trans zf_eq); subst e; rfl
@[simp ↓] theorem wpE_idx {a : T} {i : T} {δ : St} {M : Mp} {Q : DK} : zE Γ xk (.idx a i) δ M Q = (zE Γ xk a δ M fun x M1 => zE Γ xk i δ M1 fun y M2 => ixD x y M2 Q) := by dsimp only [zE, zT, zTs, zL, zO, zX, zI, zG, zGs, zS, zSs]; generalize hz : zf = f; (have e := hz.symm.trans zf_eq); subst e; rfl
@[simp ↓] theorem wpE_slc {m : Bool} {a : T} {lo : T} {hi : T} {δ : St} {M : Mp} {Q : DK} : zE Γ xk (.slc m a lo hi) δ M Q = (zE Γ xk a δ M fun x M1 => zO Γ xk lo δ M1 fun l M2 => zO Γ xk hi δ M2 fun h M3 => slD m x l h M3 Q) := by dsimp only [zE, zT, zTs, zL, zO, zX, zI, zG, zGs, zS, zSs]; generalize hz : zf = f; (have e := hz.symm.trans zf_eq); subst e; rfl
@[simp ↓] theorem wpE_revs {m : Bool} {a : T} {δ : St} {M : Mp} {Q : DK} : zE Γ xk (.revs m a) δ M Q = (zE Γ xk a δ M fun x M1 => (match see M1 x with
    | .tup ds => Q (.tup ds.reverse) M1
    | .lst ds => mkN m ds.reverse M1 Q
    | _ => False)) := by dsimp only [zE, zT, zTs, zL, zO, zX, zI, zG, zGs, zS, zSs]; generalize hz : zf = f; (have e := hz.symm.trans zf_eq); subst e; rfl
@[simp ↓] theorem wpE_sset {m : Bool} {a : T} {δ : St} {M : Mp} {Q : DK} : zE Γ xk (.sset m a) δ M Q = (zE Γ xk a δ M fun x M1 => ssetD m x M1 Q) := by dsimp only [zE, zT, zTs, zL, zO, zX, zI, zG, zGs, zS, zSs]; generalize hz : zf = f; (have e := hz.symm.trans zf_eq); subst e; rfl
@[simp ↓] theorem wpE_ldct {a : T} {δ : St} {M : Mp} {Q : DK} : zE Γ xk (.ldct a) δ M Q = (zE Γ xk a δ M fun x M1 => ldctD x M1 Q) := by dsimp only [zE, zT, zTs, zL, zO, zX, zI, zG, zGs, zS, zSs]; generalize hz : zf = f; (have e := hz.symm.trans zf_eq); subst e; rfl
@[simp ↓] theorem wpE_lset {a : T} {δ : St} {M : Mp} {Q : DK} : zE Γ xk (.lset a) δ M Q = (zE Γ xk a δ M fun x M1 => lsetD x M1 Q) := by dsimp only [zE, zT, zTs, zL, zO, zX, zI, zG, zGs, zS, zSs]; generalize hz : zf = f; (have e := hz.symm.trans zf_eq); subst e; rfl
@[simp ↓] theorem wpE_comp {m : Bool} {own : List Nat} {elt : T} {t : T} {it : T} {ifs : T} {δ : St} {M : Mp} {Q : DK} : zE Γ xk (.comp m own elt t it ifs) δ M Q = (zI Γ xk it δ M fun ds still M1 => compH (zG Γ never t) (zTs Γ never ifs) (fun δ1 M acc M' K => zE Γ never elt δ1 M' fun x M'' => K (acc ++ [x]) M'') still (wipeD δ own)
      (fun acc M2 => mkN m acc M2 Q) ds [] M1 .mk .mk .mk .mk) := by dsimp only [zE, zT, zTs, zL, zO, zX, zI, zG, zGs, zS, zSs]; generalize hz : zf = f; (have e := hz.symm.trans zf_eq); subst e; rfl
@[simp ↓] theorem wpE_comp2 {m : Bool} {own : List Nat} {own2 : List Nat} {elt : T} {t : T} {it : T} {ifs : T} {t2 : T} {it2 : T} {ifs2 : T} {δ : St} {M : Mp} {Q : DK} : zE Γ xk (.comp2 m own own2 elt t it ifs t2 it2 ifs2) δ M Q = (zI Γ xk it δ M fun ds still M1 => compH (zG Γ never t) (zTs Γ never ifs)
      (fun δ1 _ acc M2 K => zI Γ never it2 δ1 M2 fun ds2 still2 M3 => compH (zG Γ never t2) (zTs Γ never ifs2) (fun δ3 _ acc M' K' => zE Γ never elt δ3 M' fun x M'' => acc.length < LIM ∧ K' (acc ++ [x]) M'') still2 (wipeD δ1 own2) K ds2 acc M3 .mk .mk .mk .mk) still (wipeD δ own)
      (fun acc M2 => mkN m acc M2 Q) ds [] M1 .mk .mk .mk .mk) := by dsimp only [zE, zT, zTs, zL, zO, zX, zI, zG, zGs, zS, zSs]; generalize hz : zf = f; (have e := hz.symm.trans zf_eq); subst e; rfl
@[simp ↓] theorem wpE_dc1 {m : Bool} {own : List Nat} {kx : T} {vx : T} {t : T} {it : T} {ifs : T} {δ : St} {M : Mp} {Q : DK} : zE Γ xk (.dc1 m own kx vx t it ifs) δ M Q = (zI Γ xk it δ M fun ds still M1 => compH (zG Γ never t) (zTs Γ never ifs)
      (fun δ1 _ acc M' K => zE Γ never kx δ1 M' fun y M2 => zE Γ never vx δ1 M2 fun x M3 => (match keyOf y with
        | some k => acc.length < LIM ∧ K (setK acc k x) M3
        | none => False)) still (wipeD δ own) (fun acc M2 => mkND m acc M2 Q) ds [] M1 .mk .mk .mk .mk) := by dsimp only [zE, zT, zTs, zL, zO, zX, zI, zG, zGs, zS, zSs]; generalize hz : zf = f; (have e := hz.symm.trans zf_eq); subst e; rfl
@[simp ↓] theorem wpE_dc2 {m : Bool} {own : List Nat} {own2 : List Nat} {kx : T} {vx : T} {t : T} {it : T} {ifs : T} {t2 : T} {it2 : T} {ifs2 : T} {δ : St} {M : Mp} {Q : DK} : zE Γ xk (.dc2 m own own2 kx vx t it ifs t2 it2 ifs2) δ M Q = (zI Γ xk it δ M fun ds still M1 => compH (zG Γ never t) (zTs Γ never ifs)
      (fun δ1 _ acc M2 K => zI Γ never it2 δ1 M2 fun ds2 still2 M3 => compH (zG Γ never t2) (zTs Γ never ifs2)
        (fun δ3 _ acc M' K' => zE Γ never kx δ3 M' fun y M4 => zE Γ never vx δ3 M4 fun x M5 => (match keyOf y with
          | some k => acc.length < LIM ∧ K' (setK acc k x) M5
          | none => False)) still2 (wipeD δ1 own2) K ds2 acc M3 .mk .mk .mk .mk) still (wipeD δ own) (fun acc M2 => mkND m acc M2 Q) ds [] M1 .mk .mk .mk .mk) := by dsimp only [zE, zT, zTs, zL, zO, zX, zI, zG, zGs, zS, zSs]; generalize hz : zf = f; (have e := hz.symm.trans zf_eq); subst e; rfl
@[simp ↓] theorem wpE_isx {xs : List Str} {e : T} {cs : List Str} {δ : St} {M : Mp} {Q : DK} : zE Γ xk (.isx xs e cs) δ M Q = (zE Γ xk e δ M fun x M1 => (match x with
    | .exc c => c ∈ xs ∧ Q (.bl (cs.any fun t => excIs c t)) M1
    | _ => False)) := by dsimp only [zE, zT, zTs, zL, zO, zX, zI, zG, zGs, zS, zSs]; generalize hz : zf = f; (have e := hz.symm.trans zf_eq); subst e; rfl
@[simp ↓] theorem wpE_frz {e : T} {δ : St} {M : Mp} {Q : DK} : zE Γ xk (.frz e) δ M Q = (zE Γ xk e δ M fun x M1 => (match settle M1 8 x with
    | some d => ∃ M2, Sub M2 M1 ∧ (∀ a ∈ d.2, M2 a = none) ∧ Q d.1 M2
    | none => False)) := by dsimp only [zE, zT, zTs, zL, zO, zX, zI, zG, zGs, zS, zSs]; generalize hz : zf = f; (have e := hz.symm.trans zf_eq); subst e; rfl
@[simp ↓] theorem wpT_not {a : T} {δ : St} {M : Mp} {Q : Bool → Mp → Prop} : zT Γ xk (.not a) δ M Q = (zT Γ xk a δ M fun k M1 => Q (!k) M1) := by dsimp only [zE, zT, zTs, zL, zO, zX, zI, zG, zGs, zS, zSs]; generalize hz : zf = f; (have e := hz.symm.trans zf_eq); subst e; rfl
@[simp ↓] theorem wpT_and {a : T} {b : T} {δ : St} {M : Mp} {Q : Bool → Mp → Prop} : zT Γ xk (.and a b) δ M Q = (zT Γ xk a δ M fun k M1 => (match k with
    | true => zT Γ xk b δ M1 Q
    | false => Q false M1)) := by dsimp only [zE, zT, zTs, zL, zO, zX, zI, zG, zGs, zS, zSs]; generalize hz : zf = f; (have e := hz.symm.trans zf_eq); subst e; rfl
@[simp ↓] theorem wpT_or {a : T} {b : T} {δ : St} {M : Mp} {Q : Bool → Mp → Prop} : zT Γ xk (.or a b) δ M Q = (zT Γ xk a δ M fun k M1 => (match k with
    | true => Q true M1
    | false => zT Γ xk b δ M1 Q)) := by dsimp only [zE, zT, zTs, zL, zO, zX, zI, zG, zGs, zS, zSs]; generalize hz : zf = f; (have e := hz.symm.trans zf_eq); subst e; rfl
@[simp ↓] theorem wpT_ite {c : T} {a : T} {b : T} {δ : St} {M : Mp} {Q : Bool → Mp → Prop} : zT Γ xk (.ite c a b) δ M Q = (zT Γ xk c δ M fun k M1 => (match k with
    | true => zT Γ xk a δ M1 Q
    | false => zT Γ xk b δ M1 Q)) := by dsimp only [zE, zT, zTs, zL, zO, zX, zI, zG, zGs, zS, zSs]; generalize hz : zf = f; (have e := hz.symm.trans zf_eq); subst e; rfl
@[simp ↓] theorem wpT_cmp {op : CmpO} {a : T} {b : T} {δ : St} {M : Mp} {Q : Bool → Mp → Prop} : zT Γ xk (.cmp op a b) δ M Q = (zE Γ xk a δ M fun x M1 => zE Γ xk b δ M1 fun y M2 => cop op x y M2 fun k => Q k M2) := by dsimp only [zE, zT, zTs, zL, zO, zX, zI, zG, zGs, zS, zSs]; generalize hz : zf = f; (have e := hz.symm.trans zf_eq); subst e; rfl
@[simp ↓] theorem wpT_chain {o1 : CmpO} {o2 : CmpO} {a : T} {b : T} {c : T} {δ : St} {M : Mp} {Q : Bool → Mp → Prop} : zT Γ xk (.chain o1 o2 a b c) δ M Q = (zE Γ xk a δ M fun x M1 => zE Γ xk b δ M1 fun y M2 => cop o1 x y M2 fun k => (match k with
    | true => zE Γ xk c δ M2 fun z M3 => cop o2 y z M3 fun k => Q k M3
    | false => Q false M2)) := by dsimp only [zE, zT, zTs, zL, zO, zX, zI, zG, zGs, zS, zSs]; generalize hz : zf = f; (have e := hz.symm.trans zf_eq); subst e; rfl
@[simp ↓] theorem wpT_tst {e : T} {δ : St} {M : Mp} {Q : Bool → Mp → Prop} : zT Γ xk (.tst e) δ M Q = (zE Γ xk e δ M fun x M1 => (match tru M1 x with
    | some k => Q k M1
    | none => False)) := by dsimp only [zE, zT, zTs, zL, zO, zX, zI, zG, zGs, zS, zSs]; generalize hz : zf = f; (have e := hz.symm.trans zf_eq); subst e; rfl
@[simp ↓] theorem wpTs_nil {u0 : St} {M : Mp} {Q : Bool → Mp → Prop} : zTs Γ xk (.nil) u0 M Q = (Q true M) := by dsimp only [zE, zT, zTs, zL, zO, zX, zI, zG, zGs, zS, zSs]; generalize hz : zf = f; (have e := hz.symm.trans zf_eq); subst e; rfl
@[simp ↓] theorem wpTs_cons {a : T} {u0 : T} {δ : St} {M : Mp} {Q : Bool → Mp → Prop} : zTs Γ xk (.cons a u0) δ M Q = (zT Γ xk a δ M Q) := by dsimp only [zE, zT, zTs, zL, zO, zX, zI, zG, zGs, zS, zSs]; generalize hz : zf = f; (have e := hz.symm.trans zf_eq); subst e; rfl
@[simp ↓] theorem wpL_nil {u0 : St} {M : Mp} {Q : List D → Mp → Prop} : zL Γ xk (.nil) u0 M Q = (Q [] M) := by dsimp only [zE, zT, zTs, zL, zO, zX, zI, zG, zGs, zS, zSs]; generalize hz : zf = f; (have e := hz.symm.trans zf_eq); subst e; rfl
@[simp ↓] theorem wpL_cons {a : T} {r : T} {δ : St} {M : Mp} {Q : List D → Mp → Prop} : zL Γ xk (.cons a r) δ M Q = (zE Γ xk a δ M fun x M1 => zL Γ xk r δ M1 fun xs M2 => Q (x :: xs) M2) := by dsimp only [zE, zT, zTs, zL, zO, zX, zI, zG, zGs, zS, zSs]; generalize hz : zf = f; (have e := hz.symm.trans zf_eq); subst e; rfl
@[simp ↓] theorem wpX_nil {u0 : St} {M : Mp} {Q : List D → Mp → Prop} : zX Γ xk (.nil) u0 M Q = (Q [] M) := by dsimp only [zE, zT, zTs, zL, zO, zX, zI, zG, zGs, zS, zSs]; generalize hz : zf = f; (have e := hz.symm.trans zf_eq); subst e; rfl
@[simp ↓] theorem wpX_star {a : T} {r : T} {δ : St} {M : Mp} {Q : List D → Mp → Prop} : zX Γ xk (.star a r) δ M Q = (zE Γ xk a δ M fun x M1 => (match seqOf M1 x with
    | some ds => zX Γ xk r δ M1 fun xs M2 => Q (ds ++ xs) M2
    | none => False)) := by dsimp only [zE, zT, zTs, zL, zO, zX, zI, zG, zGs, zS, zSs]; generalize hz : zf = f; (have e := hz.symm.trans zf_eq); subst e; rfl
@[simp ↓] theorem wpX_cons {a : T} {r : T} {δ : St} {M : Mp} {Q : List D → Mp → Prop} : zX Γ xk (.cons a r) δ M Q = (zE Γ xk a δ M fun x M1 => zX Γ xk r δ M1 fun xs M2 => Q (x :: xs) M2) := by dsimp only [zE, zT, zTs, zL, zO, zX, zI, zG, zGs, zS, zSs]; generalize hz : zf = f; (have e := hz.symm.trans zf_eq); subst e; rfl
@[simp ↓] theorem wpO_nil {u0 : St} {M : Mp} {Q : Option Int → Mp → Prop} : zO Γ xk (.nil) u0 M Q = (Q none M) := by dsimp only [zE, zT, zTs, zL, zO, zX, zI, zG, zGs, zS, zSs]; generalize hz : zf = f; (have e := hz.symm.trans zf_eq); subst e; rfl
@[simp ↓] theorem wpO_cons {a : T} {u0 : T} {δ : St} {M : Mp} {Q : Option Int → Mp → Prop} : zO Γ xk (.cons a u0) δ M Q = (zE Γ xk a δ M fun x M1 => (match x with
    | .int i => Q (some i) M1
    | _ => False)) := by dsimp only [zE, zT, zTs, zL, zO, zX, zI, zG, zGs, zS, zSs]; generalize hz : zf = f; (have e := hz.symm.trans zf_eq); subst e; rfl
@[simp ↓] theorem wpI_ival {e : T} {δ : St} {M : Mp} {Q : List D → (Mp → Prop) → Mp → Prop} : zI Γ xk (.ival e) δ M Q = (zE Γ xk e δ M fun x M1 => (match x with
    | .tup ds => Q ds (fun _ => True) M1
    | .lst ds => Q ds (fun _ => True) M1
    | .scr ds => Q ds (fun _ => True) M1
    | .str z => z.length ≤ LIM ∧ Q (chars z) (fun _ => True) M1
    | .ref a => (match M1 a with
      | some (.lst ds) => Q ds (fun M => M a = some (.lst ds)) M1
      | _ => False)
    | _ => False)) := by dsimp only [zE, zT, zTs, zL, zO, zX, zI, zG, zGs, zS, zSs]; generalize hz : zf = f; (have e := hz.symm.trans zf_eq); subst e; rfl
@[simp ↓] theorem wpI_irng {es : T} {δ : St} {M : Mp} {Q : List D → (Mp → Prop) → Mp → Prop} : zI Γ xk (.irng es) δ M Q = (zL Γ xk es δ M fun ds M1 => rngD Q ds M1) := by dsimp only [zE, zT, zTs, zL, zO, zX, zI, zG, zGs, zS, zSs]; generalize hz : zf = f; (have e := hz.symm.trans zf_eq); subst e; rfl
@[simp ↓] theorem wpI_izip {es : T} {δ : St} {M : Mp} {Q : List D → (Mp → Prop) → Mp → Prop} : zI Γ xk (.izip es) δ M Q = (zL Γ xk es δ M fun ds M1 => zipD Q ds M1) := by dsimp only [zE, zT, zTs, zL, zO, zX, zI, zG, zGs, zS, zSs]; generalize hz : zf = f; (have e := hz.symm.trans zf_eq); subst e; rfl
@[simp ↓] theorem wpI_ienum {e : T} {δ : St} {M : Mp} {Q : List D → (Mp → Prop) → Mp → Prop} : zI Γ xk (.ienum e) δ M Q = (zE Γ xk e δ M fun x M1 => (match x with
    | .tup ds => Q (ds.zipIdx.map fun p => .tup [.int (p.2 : Nat), p.1]) (fun _ => True) M1
    | .lst ds => Q (ds.zipIdx.map fun p => .tup [.int (p.2 : Nat), p.1]) (fun _ => True) M1
    | .ref a => (match M1 a with
      | some (.lst ds) => Q (ds.zipIdx.map fun p => .tup [.int (p.2 : Nat), p.1]) (fun M => M a = some (.lst ds)) M1
      | _ => False)
    | _ => False)) := by dsimp only [zE, zT, zTs, zL, zO, zX, zI, zG, zGs, zS, zSs]; generalize hz : zf = f; (have e := hz.symm.trans zf_eq); subst e; rfl
@[simp ↓] theorem wpI_irev {e : T} {δ : St} {M : Mp} {Q : List D → (Mp → Prop) → Mp → Prop} : zI Γ xk (.irev e) δ M Q = (zE Γ xk e δ M fun x M1 => (match x with
    | .tup ds => Q ds.reverse (fun _ => True) M1
    | .lst ds => Q ds.reverse (fun _ => True) M1
    | .ref a => (match M1 a with
      | some (.lst ds) => Q ds.reverse (fun M => M a = some (.lst ds)) M1
      | _ => False)
    | _ => False)) := by dsimp only [zE, zT, zTs, zL, zO, zX, zI, zG, zGs, zS, zSs]; generalize hz : zf = f; (have e := hz.symm.trans zf_eq); subst e; rfl
@[simp ↓] theorem wpG_gname {i : Nat} {d : D} {δ : St} {M : Mp} {Q : St → Mp → Prop} : zG Γ xk (.gname i) d δ M Q = (Q (δ.set i (some d)) M) := by dsimp only [zE, zT, zTs, zL, zO, zX, zI, zG, zGs, zS, zSs]; generalize hz : zf = f; (have e := hz.symm.trans zf_eq); subst e; rfl
@[simp ↓] theorem wpG_gtup {gs : T} {d : D} {δ : St} {M : Mp} {Q : St → Mp → Prop} : zG Γ xk (.gtup gs) d δ M Q = ((match d with
    | .tup ds => ds.length = cntL gs ∧ zGs Γ xk gs ds δ M Q
    | _ => False)) := by dsimp only [zE, zT, zTs, zL, zO, zX, zI, zG, zGs, zS, zSs]; generalize hz : zf = f; (have e := hz.symm.trans zf_eq); subst e; rfl
@[simp ↓] theorem wpG_gsub {o : T} {i : T} {d : D} {δ : St} {M : Mp} {Q : St → Mp → Prop} : zG Γ xk (.gsub o i) d δ M Q = (zE Γ xk o δ M fun x M1 => zE Γ xk i δ M1 fun y M2 => stD x y d M2 fun M3 => Q δ M3) := by dsimp only [zE, zT, zTs, zL, zO, zX, zI, zG, zGs, zS, zSs]; generalize hz : zf = f; (have e := hz.symm.trans zf_eq); subst e; rfl
@[simp ↓] theorem wpGs_nil {ds : List D} {δ : St} {M : Mp} {Q : St → Mp → Prop} : zGs Γ xk (.nil) ds δ M Q = ((match ds with
    | [] => Q δ M
    | _ => False)) := by dsimp only [zE, zT, zTs, zL, zO, zX, zI, zG, zGs, zS, zSs]; generalize hz : zf = f; (have e := hz.symm.trans zf_eq); subst e; rfl
@[simp ↓] theorem wpGs_cons {g : T} {r : T} {ds : List D} {δ : St} {M : Mp} {Q : St → Mp → Prop} : zGs Γ xk (.cons g r) ds δ M Q = ((match ds with
    | d :: ds => zG Γ xk g d δ M fun δ1 M1 => zGs Γ xk r ds δ1 M1 Q
    | _ => False)) := by dsimp only [zE, zT, zTs, zL, zO, zX, zI, zG, zGs, zS, zSs]; generalize hz : zf = f; (have e := hz.symm.trans zf_eq); subst e; rfl
@[simp ↓] theorem wpS_asg {g : T} {e : T} {E : En} {δ : St} {M : Mp} : zS Γ xk (.asg g e) E δ M = (zE Γ xk e δ M fun x M1 => zG Γ xk g x δ M1 E.nx) := by dsimp only [zE, zT, zTs, zL, zO, zX, zI, zG, zGs, zS, zSs]; generalize hz : zf = f; (have e := hz.symm.trans zf_eq); subst e; rfl
@[simp ↓] theorem wpS_par {is : List Nat} {es : T} {E : En} {δ : St} {M : Mp} : zS Γ xk (.par is es) E δ M = (zL Γ xk es δ M fun ds M1 => ds.length = is.length ∧ E.nx ((is.zip ds).foldl (fun δ p => δ.set p.1 (some p.2)) δ) M1) := by dsimp only [zE, zT, zTs, zL, zO, zX, zI, zG, zGs, zS, zSs]; generalize hz : zf = f; (have e := hz.symm.trans zf_eq); subst e; rfl
@[simp ↓] theorem wpS_aug {op : BinO} {i : Nat} {e : T} {E : En} {δ : St} {M : Mp} : zS Γ xk (.aug op i e) E δ M = ((match δ[i]? with
    | some (some x) => zE Γ xk e δ M fun y M1 => iopD op x y M1 fun z M2 => E.nx (δ.set i (some z)) M2
    | _ => False)) := by dsimp only [zE, zT, zTs, zL, zO, zX, zI, zG, zGs, zS, zSs]; generalize hz : zf = f; (have e := hz.symm.trans zf_eq); subst e; rfl
@[simp ↓] theorem wpS_augs {op : BinO} {o : T} {i : T} {e : T} {E : En} {δ : St} {M : Mp} : zS Γ xk (.augs op o i e) E δ M = (zE Γ xk o δ M fun x M1 => zE Γ xk i δ M1 fun y M2 => ixD x y M2 fun z M3 => zE Γ xk e δ M3 fun u M4 => iopD op z u M4 fun v M5 => stD x y v M5 fun M6 => E.nx δ M6) := by dsimp only [zE, zT, zTs, zL, zO, zX, zI, zG, zGs, zS, zSs]; generalize hz : zf = f; (have e := hz.symm.trans zf_eq); subst e; rfl
@[simp ↓] theorem wpS_doc {E : En} {δ : St} {M : Mp} : zS Γ xk (.doc) E δ M = (E.nx δ M) := by dsimp only [zE, zT, zTs, zL, zO, zX, zI, zG, zGs, zS, zSs]; generalize hz : zf = f; (have e := hz.symm.trans zf_eq); subst e; rfl
@[simp ↓] theorem wpS_expr {e : T} {E : En} {δ : St} {M : Mp} : zS Γ xk (.expr e) E δ M = (zE Γ xk e δ M fun _ M1 => E.nx δ M1) := by dsimp only [zE, zT, zTs, zL, zO, zX, zI, zG, zGs, zS, zSs]; generalize hz : zf = f; (have e := hz.symm.trans zf_eq); subst e; rfl
@[simp ↓] theorem wpS_ret {e : T} {E : En} {δ : St} {M : Mp} : zS Γ xk (.ret e) E δ M = (zE Γ xk e δ M E.rt) := by dsimp only [zE, zT, zTs, zL, zO, zX, zI, zG, zGs, zS, zSs]; generalize hz : zf = f; (have e := hz.symm.trans zf_eq); subst e; rfl
@[simp ↓] theorem wpS_retn {E : En} {u0 : St} {M : Mp} : zS Γ xk (.retn) E u0 M = (E.rt .non M) := by dsimp only [zE, zT, zTs, zL, zO, zX, zI, zG, zGs, zS, zSs]; generalize hz : zf = f; (have e := hz.symm.trans zf_eq); subst e; rfl
@[simp ↓] theorem wpS_ifs {c : T} {a : T} {b : T} {E : En} {δ : St} {M : Mp} : zS Γ xk (.ifs c a b) E δ M = (zT Γ xk c δ M fun k M1 => (match k with
    | true => zSs Γ xk a E δ M1
    | false => zSs Γ xk b E δ M1)) := by dsimp only [zE, zT, zTs, zL, zO, zX, zI, zG, zGs, zS, zSs]; generalize hz : zf = f; (have e := hz.symm.trans zf_eq); subst e; rfl
@[simp ↓] theorem wpS_for_ {clr : List Nat} {g : T} {it : T} {body : T} {E : En} {δ : St} {M : Mp} : zS Γ xk (.for_ clr g it body) E δ M = (zI Γ xk it δ M fun ds still M1 => forH (fun d k δ M => zG Γ xk g d δ M fun δ' M' => zSs Γ xk body { nx := k, ct := k, bk := fun δ'' M'' => E.nx δ'' M'', rt := E.rt } δ' M') clr still E.nx ds (wipeD δ clr) M1 .mk .mk) := by dsimp only [zE, zT, zTs, zL, zO, zX, zI, zG, zGs, zS, zSs]; generalize hz : zf = f; (have e := hz.symm.trans zf_eq); subst e; rfl
def whileW (Γ : String → SpD) (xk : XD) (clr : List Nat) (c body : T) (E : En) (δ : St) (M : Mp) (_ : Hid E) (_ : Hid xk) : Prop := ∃ W : Nat → St → Mp → Prop, (∃ n, W n (wipeD δ clr) M) ∧ ∀ n δ M, W n δ M → zT Γ xk c δ M fun k M1 => (match k with
    | true => zSs Γ xk body { nx := fun δ' M' => ∃ n', n' < n ∧ W n' (wipeD δ' clr) M', ct := fun δ' M' => ∃ n', n' < n ∧ W n' (wipeD δ' clr) M', bk := E.nx, rt := E.rt } δ M1
    | false => E.nx δ M1)
@[simp ↓] theorem wpS_while_ {clr : List Nat} {c body : T} {E : En} {δ : St} {M : Mp} : zS Γ xk (.while_ clr c body) E δ M = whileW Γ xk clr c body E δ M .mk .mk := by unfold whileW; dsimp only [zE, zT, zTs, zL, zO, zX, zI, zG, zGs, zS, zSs]; generalize hz : zf = f; (have e := hz.symm.trans zf_eq); subst e; rfl
theorem while_inv {clr : List Nat} {c body : T} {E : En} (W : Nat → St → Mp → Prop) (h : ∀ n δ M, W n δ M → zT Γ xk c δ M fun k M1 => (match k with
    | true => zSs Γ xk body { nx := fun δ' M' => ∃ n', n' < n ∧ W n' (wipeD δ' clr) M', ct := fun δ' M' => ∃ n', n' < n ∧ W n' (wipeD δ' clr) M', bk := E.nx, rt := E.rt } δ M1
    | false => E.nx δ M1)) {δ : St} {M : Mp} (n : Nat) (h0 : W n (wipeD δ clr) M) : whileW Γ xk clr c body E δ M .mk .mk := ⟨W, ⟨n, h0⟩, h⟩
@[simp ↓] theorem wpS_pass {E : En} {δ : St} {M : Mp} : zS Γ xk (.pass) E δ M = (E.nx δ M) := by dsimp only [zE, zT, zTs, zL, zO, zX, zI, zG, zGs, zS, zSs]; generalize hz : zf = f; (have e := hz.symm.trans zf_eq); subst e; rfl
@[simp ↓] theorem wpS_brk {E : En} {δ : St} {M : Mp} : zS Γ xk (.brk) E δ M = (E.bk δ M) := by dsimp only [zE, zT, zTs, zL, zO, zX, zI, zG, zGs, zS, zSs]; generalize hz : zf = f; (have e := hz.symm.trans zf_eq); subst e; rfl
@[simp ↓] theorem wpS_cont {E : En} {δ : St} {M : Mp} : zS Γ xk (.cont) E δ M = (E.ct δ M) := by dsimp only [zE, zT, zTs, zL, zO, zX, zI, zG, zGs, zS, zSs]; generalize hz : zf = f; (have e := hz.symm.trans zf_eq); subst e; rfl
@[simp ↓] theorem wpS_raise {c : Str} {u0 : Str} {u1 : En} {δ : St} {M : Mp} : zS Γ xk (.raise c u0) u1 δ M = (xk c δ M) := by dsimp only [zE, zT, zTs, zL, zO, zX, zI, zG, zGs, zS, zSs]; generalize hz : zf = f; (have e := hz.symm.trans zf_eq); subst e; rfl
@[simp ↓] theorem wpS_tryx {xs : List Str} {u0 : Str} {i : Nat} {j : Nat} {body : T} {E : En} {δ : St} {M : Mp} : zS Γ xk (.tryx xs u0 i j body) E δ M = (zSs Γ (fun q δ' M' => q ∈ xs ∧ E.nx ((δ'.set j (some (.exc q))).set i none) M') body E δ M) := by dsimp only [zE, zT, zTs, zL, zO, zX, zI, zG, zGs, zS, zSs]; generalize hz : zf = f; (have e := hz.symm.trans zf_eq); subst e; rfl
@[simp ↓] theorem wpSs_nil {E : En} {δ : St} {M : Mp} : zSs Γ xk (.nil) E δ M = (E.nx δ M) := by dsimp only [zE, zT, zTs, zL, zO, zX, zI, zG, zGs, zS, zSs]; generalize hz : zf = f; (have e := hz.symm.trans zf_eq); subst e; rfl
@[simp ↓] theorem wpSs_cons {s : T} {r : T} {E : En} {δ : St} {M : Mp} : zSs Γ xk (.cons s r) E δ M = (zS Γ xk s { E with nx := fun δ' M' => zSs Γ xk r E δ' M' } δ M) := by dsimp only [zE, zT, zTs, zL, zO, zX, zI, zG, zGs, zS, zSs]; generalize hz : zf = f; (have e := hz.symm.trans zf_eq); subst e; rfl
end Pw
set_option Elab.async false
set_option linter.all false
set_option maxRecDepth 100000
/-! the equations of the helpers, for simp (printed by gen_eq.py) -/
namespace Pw
open PySem PySem.Spec PyProof.Rows L2

@[simp ↓] theorem ixD_eq {x y : D} {M : Mp} {Q : DK} : ixD x y M Q = (match see M x with
  | .scr ds => (match y with
    | .int i => (match atD ds i with
      | some d => Q d M
      | none => False)
    | _ => False)
  | .tup ds => (match y with
    | .int i => (match atD ds i with
      | some d => Q d M
      | none => False)
    | _ => False)
  | .lst ds => (match y with
    | .int i => (match atD ds i with
      | some d => Q d M
      | none => False)
    | _ => False)
  | .str z => (match y with
    | .int i => z.length ≤ LIM ∧ (match (ixAt z.cps.toList.length i).bind fun j => z.cps.toList[j]? with
      | some c => Q (.str ⟨#[c]⟩) M
      | none => False)
    | _ => False)
  | .dic kvs => (match keyOf y with
    | some k => (match getK kvs k with
      | some d => Q d M
      | none => False)
    | none => False)
  | _ => False) := rfl
@[simp ↓] theorem stD_eq {o i v : D} {M : Mp} {Q : Mp → Prop} : stD o i v M Q = (match o with
  | .ref a => (match M a with
    | some (.lst ds) => (match i with
      | .int i => (match ixAt ds.length i with
        | some j => Q (up M a (.lst (ds.set j v)))
        | none => False)
      | _ => False)
    | some (.dic kvs) => (match keyOf i with
      | some k => kvs.length < LIM ∧ Q (up M a (.dic (setK kvs k v)))
      | none => False)
    | _ => False)
  | _ => False) := rfl
@[simp ↓] theorem slD_eq {m : Bool} {x : D} {lo hi : Option Int} {M : Mp} {Q : DK} : slD m x lo hi M Q = (match see M x with
  | .tup ds => Q (.tup (cutD ds lo hi)) M
  | .lst ds => mkN m (cutD ds lo hi) M Q
  | .scr ds => mkN m (cutD ds lo hi) M Q
  | .str z => z.length ≤ LIM ∧ Q (.str (cutStr z lo hi)) M
  | _ => False) := rfl
@[simp ↓] theorem tru_eq {M : Mp} {d : D} : tru M d = (match see M d with
  | .non => some false
  | .bl b => some b
  | .int i => some (i != 0)
  | .tup ds => some (!ds.isEmpty)
  | .lst ds => some (!ds.isEmpty)
  | .scr ds => some (!ds.isEmpty)
  | .dic ds => some (!ds.isEmpty)
  | _ => none) := rfl
@[simp ↓] theorem memC_eq {x y : D} {M : Mp} {Q : Bool → Prop} : memC x y M Q = (match see M y with
  | .tup ys => memOk (see M x) ys = true ∧ Q (memD (see M x) ys)
  | .lst ys => memOk (see M x) ys = true ∧ Q (memD (see M x) ys)
  | .str b => (match x with
    | .str a => Q (!(Builtin.Str.occurrences b a 0 b.length 1).isEmpty)
    | _ => False)
  | _ => False) := rfl
@[simp ↓] theorem onL_eq {o : D} {M : Mp} {g : Addr → List D → Prop} : onL o M g = (match o with
  | .ref a => (match M a with
    | some (.lst ds) => g a ds
    | _ => False)
  | _ => False) := rfl
@[simp ↓] theorem onD_eq {o : D} {M : Mp} {g : List (Key × D) → Prop} : onD o M g = (match see M o with
  | .dic kvs => g kvs
  | _ => False) := rfl
@[simp ↓] theorem onDW_eq {o : D} {M : Mp} {g : Addr → List (Key × D) → Prop} : onDW o M g = (match o with
  | .ref a => (match M a with
    | some (.dic kvs) => g a kvs
    | _ => False)
  | _ => False) := rfl
@[simp ↓] theorem mkL_eq {m : Bool} {ds : List D} {M : Mp} {Q : DK} : mkL m ds M Q = (ds.length ≤ LIM ∧ mkN m ds M Q) := rfl
@[simp ↓] theorem rcv_eq {M : Mp} {f : MF} {d : D} : rcv M f d = (match see M d with
  | .lst _ => if okM .lst f then some .lst else none
  | .scr _ => if okM .lst f then some .lst else none
  | .tup _ => if okM .tup f then some .tup else none
  | .dic _ => if okM .dic f then some .dic else none
  | .str _ => if okM .str f then some .str else none
  | _ => none) := rfl
@[simp ↓] theorem bop_add {m : Bool} {x y : D} {M : Mp} {Q : DK} : bop m .add x y M Q = ((match x, y with
    | .int i, .int j => Q (.int (i + j)) M
    | .str a, .str b => a.length + b.length ≤ LIM ∧ Q (.str (a ++ b)) M
    | .tup a, .tup b => a.length + b.length ≤ LIM ∧ Q (.tup (a ++ b)) M
    | x, y => (match lstM M x, lstM M y with
      | some a, some b => mkL m (a ++ b) M Q
      | _, _ => False))) := rfl
@[simp ↓] theorem bop_sub {m : Bool} {x y : D} {M : Mp} {Q : DK} : bop m .sub x y M Q = ((match x, y with
    | .int i, .int j => Q (.int (i - j)) M
    | _, _ => False)) := rfl
@[simp ↓] theorem bop_mul {m : Bool} {x y : D} {M : Mp} {Q : DK} : bop m .mul x y M Q = ((match x, y with
    | .int i, .int j => MulOk i j ∧ Q (.int (i * j)) M
    | .tup a, .int j => a ≠ [] ∧ 1 ≤ j ∧ j ≤ 1000 ∧ a.length ≤ 1000 ∧ Q (.tup (rep j a)) M
    | .str a, .int j => 2 ≤ j ∧ j ≤ 10000 ∧ a.length ≤ 1000 ∧ Q (.str (Txt.mul a j)) M
    | x, .int j => (match lstM M x with
      | some a => -(2 ^ 62) ≤ j ∧ j < 2 ^ 62 ∧ a.length * j.toNat ≤ LIM ∧ mkN m (rep j a) M Q
      | _ => False)
    | _, _ => False)) := rfl
@[simp ↓] theorem bop_fdiv {m : Bool} {x y : D} {M : Mp} {Q : DK} : bop m .fdiv x y M Q = ((match x, y with
    | .int i, .int j => DivOk j ∧ Q (.int (i / j)) M
    | _, _ => False)) := rfl
@[simp ↓] theorem bop_mod {m : Bool} {x y : D} {M : Mp} {Q : DK} : bop m .mod x y M Q = ((match x, y with
    | .int i, .int j => 0 < j ∧ Q (.int (i % j)) M
    | _, _ => False)) := rfl
@[simp ↓] theorem bop_pow {m : Bool} {x y : D} {M : Mp} {Q : DK} : bop m .pow x y M Q = ((match x, y with
    | .int i, .int j => PowOk i j ∧ Q (.int (i ^ j.toNat)) M
    | _, _ => False)) := rfl
@[simp ↓] theorem cop_eq {x y : D} {M : Mp} {Q : Bool → Prop} : cop .eq x y M Q = (eqOkE (see M x) (see M y) = true ∧ Q (eqD (see M x) (see M y))) := rfl
@[simp ↓] theorem cop_ne {x y : D} {M : Mp} {Q : Bool → Prop} : cop .ne x y M Q = (eqOk (see M x) (see M y) = true ∧ Q (!eqD (see M x) (see M y))) := rfl
@[simp ↓] theorem cop_lt {x y : D} {M : Mp} {Q : Bool → Prop} : cop .lt x y M Q = ((match x, y with
    | .int i, .int j => Q (decide (i < j))
    | _, _ => False)) := rfl
@[simp ↓] theorem cop_le {x y : D} {M : Mp} {Q : Bool → Prop} : cop .le x y M Q = ((match x, y with
    | .int i, .int j => Q (decide (i ≤ j))
    | _, _ => False)) := rfl
@[simp ↓] theorem cop_gt {x y : D} {M : Mp} {Q : Bool → Prop} : cop .gt x y M Q = ((match x, y with
    | .int i, .int j => Q (decide (j < i))
    | _, _ => False)) := rfl
@[simp ↓] theorem cop_ge {x y : D} {M : Mp} {Q : Bool → Prop} : cop .ge x y M Q = ((match x, y with
    | .int i, .int j => Q (decide (j ≤ i))
    | _, _ => False)) := rfl
@[simp ↓] theorem cop_is_ {x y : D} {M : Mp} {Q : Bool → Prop} : cop .is_ x y M Q = ((match y with
    | .non => Q (isN x)
    | .bl b => (match x with
      | .bl a => Q (decide (a = b))
      | _ => False)
    | _ => False)) := rfl
@[simp ↓] theorem cop_isnot {x y : D} {M : Mp} {Q : Bool → Prop} : cop .isnot x y M Q = ((match y with
    | .non => Q (!isN x)
    | .bl b => (match x with
      | .bl a => Q (!decide (a = b))
      | _ => False)
    | _ => False)) := rfl
@[simp ↓] theorem cop_in_ {x y : D} {M : Mp} {Q : Bool → Prop} : cop .in_ x y M Q = (memC x y M Q) := rfl
@[simp ↓] theorem cop_notin {x y : D} {M : Mp} {Q : Bool → Prop} : cop .notin x y M Q = (memC x y M fun k => Q (!k)) := rfl
@[simp ↓] theorem bfn_e1 {m : Bool} {M : Mp} {Q : DK} {x : D} : bfn m .len [x] M Q = ((match see M x with
    | .tup ds => Q (.int ds.length) M
    | .lst ds => Q (.int ds.length) M
    | .scr ds => Q (.int ds.length) M
    | .str z => z.length ≤ LIM ∧ Q (.int z.length) M
    | .dic kvs => Q (.int kvs.length) M
    | _ => False)) := by first | rfl | (cases x <;> rfl)
@[simp ↓] theorem bfn_e2 {m : Bool} {M : Mp} {Q : DK} {i : Int} {j : Int} : bfn m .max [.int i, .int j] M Q = (Q (.int (if j > i then j else i)) M) := by first | rfl | (cases x <;> rfl)
@[simp ↓] theorem bfn_e3 {m : Bool} {M : Mp} {Q : DK} {i : Int} {j : Int} : bfn m .min [.int i, .int j] M Q = (Q (.int (if j < i then j else i)) M) := by first | rfl | (cases x <;> rfl)
@[simp ↓] theorem bfn_e4 {m : Bool} {M : Mp} {Q : DK} {x : D} : bfn m .max [x] M Q = ((match (seqOf M x).bind intsOf with
    | some ns => ns ≠ [] ∧ Q (.int (maxI ns)) M
    | none => False)) := by first | rfl | (cases x <;> rfl)
@[simp ↓] theorem bfn_e5 {m : Bool} {M : Mp} {Q : DK} {x : D} : bfn m .min [x] M Q = ((match (seqOf M x).bind intsOf with
    | some ns => ns ≠ [] ∧ Q (.int (minI ns)) M
    | none => False)) := by first | rfl | (cases x <;> rfl)
@[simp ↓] theorem bfn_e6 {m : Bool} {M : Mp} {Q : DK} {x : D} : bfn m .sum [x] M Q = ((match (seqOf M x).bind intsOf with
    | some ns => Q (.int ns.sum) M
    | none => False)) := by first | rfl | (cases x <;> rfl)
@[simp ↓] theorem bfn_e7 {m : Bool} {M : Mp} {Q : DK} {x : D} : bfn m .all [x] M Q = ((match (lstOf M x).bind blsOf with
    | some bs => Q (.bl (bs.all id)) M
    | none => False)) := by first | rfl | (cases x <;> rfl)
@[simp ↓] theorem bfn_e8 {m : Bool} {M : Mp} {Q : DK} {x : D} : bfn m .any [x] M Q = ((match (lstOf M x).bind blsOf with
    | some bs => Q (.bl (bs.any id)) M
    | none => False)) := by first | rfl | (cases x <;> rfl)
@[simp ↓] theorem bfn_e9 {m : Bool} {M : Mp} {Q : DK} {i : Int} : bfn m .abs [.int i] M Q = (Q (.int (if i < 0 then -i else i)) M) := by first | rfl | (cases x <;> rfl)
@[simp ↓] theorem bfn_e10 {m : Bool} {M : Mp} {Q : DK} {i : Int} : bfn m .int [.int i] M Q = (Q (.int i) M) := by first | rfl | (cases x <;> rfl)
@[simp ↓] theorem bfn_e11 {m : Bool} {M : Mp} {Q : DK} {b : Bool} : bfn m .int [.bl b] M Q = (Q (.int (if b then 1 else 0)) M) := by first | rfl | (cases x <;> rfl)
@[simp ↓] theorem bfn_e12 {m : Bool} {M : Mp} {Q : DK} {i : Int} : bfn m .str [.int i] M Q = (i.natAbs.log2 < 1920 ∧ Q (.str (toString i)) M) := by first | rfl | (cases x <;> rfl)
theorem bfn_e13 {m : Bool} {M : Mp} {Q : DK} {x : D} : bfn m .repr [x] M Q = (∃ y, deepV M x y ∧ isD true y 30 = true ∧ (toP y).showable = true ∧ (toP y).shown.length ≤ LIM ∧ Q (.str (toP y).shown) M) := by first | rfl | (cases x <;> rfl)
@[simp ↓] theorem bfn_e14 {m : Bool} {M : Mp} {Q : DK} {x : D} : bfn m .sorted [x] M Q = ((match (lstOf M x).bind intsOf with
    | some ns => mkN m ((sortI ns).map D.int) M Q
    | none => sortT m ((lstOf M x).bind tupsOf) x M Q)) := by first | rfl | (cases x <;> rfl)
@[simp ↓] theorem bfn_e15 {m : Bool} {M : Mp} {Q : DK} {i : Int} {j : Int} : bfn m .divmod [.int i, .int j] M Q = (DivOk j ∧ Q (.tup [.int (i / j), .int (i % j)]) M) := by first | rfl | (cases x <;> rfl)
@[simp ↓] theorem mth_e16 {m : Bool} {M : Mp} {Q : DK} {o : D} {x : D} : mth m .lst .append o [x] M Q = (onL o M fun a ds => ds.length < LIM ∧ Q .non (up M a (.lst (ds ++ [x])))) := by first | rfl | (cases x <;> rfl)
@[simp ↓] theorem mth_e17 {m : Bool} {M : Mp} {Q : DK} {o : D} : mth m .lst .pop o [] M Q = (onL o M fun a ds => (match ds[ds.length - 1]? with
    | some y => Q y (up M a (.lst ds.dropLast))
    | none => False)) := by first | rfl | (cases x <;> rfl)
@[simp ↓] theorem mth_e18 {m : Bool} {M : Mp} {Q : DK} {o : D} {i : Int} : mth m .lst .pop o [.int i] M Q = (onL o M fun a ds => (match ixAt ds.length i with
    | some k => (match ds[k]? with
      | some y => -(2 ^ 62) ≤ i ∧ i < 2 ^ 62 ∧ Q y (up M a (.lst (ds.eraseIdx k)))
      | none => False)
    | none => False)) := by first | rfl | (cases x <;> rfl)
@[simp ↓] theorem mth_e19 {m : Bool} {M : Mp} {Q : DK} {o : D} {i : Int} {x : D} : mth m .lst .insert o [.int i, x] M Q = (onL o M fun a ds => 0 ≤ i ∧ i < 2 ^ 62 ∧ ds.length < LIM ∧ Q .non (up M a (.lst (ds.take i.toNat ++ [x] ++ ds.drop i.toNat)))) := by first | rfl | (cases x <;> rfl)
@[simp ↓] theorem mth_e20 {m : Bool} {M : Mp} {Q : DK} {o : D} {x : D} : mth m .lst .extend o [x] M Q = (onL o M fun a ds => (match lstM M x with
    | some es => ds.length + es.length ≤ LIM ∧ Q .non (up M a (.lst (ds ++ es)))
    | none => False)) := by first | rfl | (cases x <;> rfl)
@[simp ↓] theorem mth_e21 {m : Bool} {M : Mp} {Q : DK} {o : D} : mth m .lst .clear o [] M Q = (onL o M fun a ds => Q .non (up M a (.lst []))) := by first | rfl | (cases x <;> rfl)
@[simp ↓] theorem mth_e22 {m : Bool} {M : Mp} {Q : DK} {o : D} : mth m .lst .reverse o [] M Q = (onL o M fun a ds => Q .non (up M a (.lst ds.reverse))) := by first | rfl | (cases x <;> rfl)
@[simp ↓] theorem mth_e23 {m : Bool} {M : Mp} {Q : DK} {o : D} {x : D} : mth m .lst .remove o [x] M Q = (onL o M fun a ds => memOk (see M x) ds = true ∧ (match placeD (see M x) ds with
    | some j => Q .non (up M a (.lst (ds.eraseIdx j)))
    | none => False)) := by first | rfl | (cases x <;> rfl)
@[simp ↓] theorem mth_e24 {m : Bool} {M : Mp} {Q : DK} {o : D} {x : D} : mth m .lst .count o [x] M Q = ((match lstM M o with
    | some ds => memOk (see M x) ds = true ∧ Q (.int (countD (see M x) ds : Nat)) M
    | none => False)) := by first | rfl | (cases x <;> rfl)
@[simp ↓] theorem mth_e25 {m : Bool} {M : Mp} {Q : DK} {o : D} {x : D} : mth m .tup .count o [x] M Q = ((match o with
    | .tup ds => memOk (see M x) ds = true ∧ Q (.int (countD (see M x) ds : Nat)) M
    | _ => False)) := by first | rfl | (cases x <;> rfl)
@[simp ↓] theorem mth_e26 {m : Bool} {M : Mp} {Q : DK} {o : D} {x : Int} : mth m .lst .index o [.int x] M Q = ((match (lstOf M o).bind intsOf with
    | some ns => x ∈ ns ∧ Q (.int (ns.idxOf x : Nat)) M
    | none => False)) := by first | rfl | (cases x <;> rfl)
@[simp ↓] theorem mth_e27 {m : Bool} {M : Mp} {Q : DK} {o : D} {b : Bool} : mth m .lst .index o [.bl b] M Q = ((match lstM M o with
    | some ds => memOk (.bl b) ds = true ∧ (match placeD (.bl b) ds with
      | some j => Q (.int (j : Nat)) M
      | none => False)
    | none => False)) := by first | rfl | (cases x <;> rfl)
@[simp ↓] theorem mth_e28 {m : Bool} {M : Mp} {Q : DK} {o : D} {x : Int} : mth m .tup .index o [.int x] M Q = ((match (match o with
    | .tup ds => intsOf ds
    | _ => none) with
    | some ns => x ∈ ns ∧ Q (.int (ns.idxOf x : Nat)) M
    | none => False)) := by first | rfl | (cases x <;> rfl)
@[simp ↓] theorem mth_e29 {m : Bool} {M : Mp} {Q : DK} {o : D} {y : D} {x : D} : mth m .dic .get o [y, x] M Q = (onD o M fun kvs => (match keyOf y with
    | some k => Q ((getK kvs k).getD x) M
    | none => False)) := by first | rfl | (cases x <;> rfl)
@[simp ↓] theorem mth_e30 {m : Bool} {M : Mp} {Q : DK} {o : D} {y : D} : mth m .dic .get o [y] M Q = (onD o M fun kvs => (match keyOf y with
    | some k => Q ((getK kvs k).getD .non) M
    | none => False)) := by first | rfl | (cases x <;> rfl)
@[simp ↓] theorem mth_e31 {m : Bool} {M : Mp} {Q : DK} {o : D} {y : D} {x : D} : mth m .dic .setdefault o [y, x] M Q = (onDW o M fun a kvs => (match keyOf y with
    | some k => kvs.length < LIM ∧ (match getK kvs k with
      | some d => Q d M
      | none => Q x (up M a (.dic (setK kvs k x))))
    | none => False)) := by first | rfl | (cases x <;> rfl)
@[simp ↓] theorem mth_e32 {m : Bool} {M : Mp} {Q : DK} {o : D} {x : D} : mth m .str .join o [x] M Q = ((match o, (seqOf M x).bind strsOf with
    | .str a, some ys => (ys.map (·.length)).sum + ys.length * a.length ≤ LIM ∧ Q (.str (Txt.join a ys)) M
    | _, _ => False)) := by first | rfl | (cases x <;> rfl)
@[simp ↓] theorem mth_e33 {m : Bool} {M : Mp} {Q : DK} {o : D} {b : Str} : mth m .str .split o [.str b] M Q = ((match o with
    | .str a => (b.length == 0) = false ∧ a.length + 2 ≤ LIM ∧ mkN m ((Txt.split a b).map D.str) M Q
    | _ => False)) := by first | rfl | (cases x <;> rfl)
@[simp ↓] theorem mth_e34 {m : Bool} {M : Mp} {Q : DK} {o : D} {b : Str} : mth m .str .strip o [.str b] M Q = ((match o with
    | .str a => a.length ≤ LIM ∧ Q (.str (Txt.stripChars a b)) M
    | _ => False)) := by first | rfl | (cases x <;> rfl)
@[simp ↓] theorem mth_e35 {m : Bool} {M : Mp} {Q : DK} {o : D} : mth m .str .upper o [] M Q = ((match o with
    | .str a => a.length ≤ 5592405 ∧ Q (.str (Txt.upper a)) M
    | _ => False)) := by first | rfl | (cases x <;> rfl)
@[simp ↓] theorem iopD_add {i j : Int} {M : Mp} {Q : DK} : iopD .add (.int i) (.int j) M Q = (Q (.int (i + j)) M) := rfl
@[simp ↓] theorem iopD_sub {i j : Int} {M : Mp} {Q : DK} : iopD .sub (.int i) (.int j) M Q = (Q (.int (i - j)) M) := rfl
@[simp ↓] theorem iopD_mul {i j : Int} {M : Mp} {Q : DK} : iopD .mul (.int i) (.int j) M Q = (MulOk i j ∧ Q (.int (i * j)) M) := rfl
@[simp ↓] theorem iopD_fdiv {i j : Int} {M : Mp} {Q : DK} : iopD .fdiv (.int i) (.int j) M Q = (DivOk j ∧ Q (.int (i / j)) M) := rfl
@[simp ↓] theorem iopD_mod {i j : Int} {M : Mp} {Q : DK} : iopD .mod (.int i) (.int j) M Q = (0 < j ∧ Q (.int (i % j)) M) := rfl
@[simp ↓] theorem seeS_ref {M : Mp} {a : Addr} : see M (.ref a) = (match M a with
    | some (.lst ds) => .lst ds
    | some (.dic kvs) => .dic kvs
    | _ => .ref a) := rfl
@[simp ↓] theorem seeS_non {M : Mp} : see M (.non) = .non := rfl
@[simp ↓] theorem seeS_bl {M : Mp} {x : Bool} : see M (.bl x) = .bl x := rfl
@[simp ↓] theorem seeS_int {M : Mp} {x : Int} : see M (.int x) = .int x := rfl
@[simp ↓] theorem seeS_str {M : Mp} {x : Str} : see M (.str x) = .str x := rfl
@[simp ↓] theorem seeS_tup {M : Mp} {x : List D} : see M (.tup x) = .tup x := rfl
@[simp ↓] theorem seeS_lst {M : Mp} {x : List D} : see M (.lst x) = .lst x := rfl
@[simp ↓] theorem seeS_dic {M : Mp} {x : List (Key × D)} : see M (.dic x) = .dic x := rfl
@[simp ↓] theorem seeS_ty {M : Mp} {x : String} : see M (.ty x) = .ty x := rfl
@[simp ↓] theorem seeS_scr {M : Mp} {x : List D} : see M (.scr x) = .scr x := rfl
@[simp ↓] theorem convD_t {m : Bool} {x : D} {M : Mp} {Q : DK} : convD m true x M Q = (match x with
  | .tup ds => mkN m ds M Q
  | .lst ds => mkN m ds M Q
  | .scr ds => mkN m ds M Q
  | .ref a => (match M a with
    | some (.lst ds) => mkN m ds M Q
    | _ => False)
  | _ => False) := rfl
@[simp ↓] theorem convD_f {m : Bool} {x : D} {M : Mp} {Q : DK} : convD m false x M Q = (match x with
  | .tup ds => Q (.tup ds) M
  | .lst ds => Q (.tup ds) M
  | .scr ds => Q (.tup ds) M
  | .ref a => (match M a with
    | some (.lst ds) => Q (.tup ds) M
    | _ => False)
  | _ => False) := rfl
@[simp ↓] theorem rngD_1 {j : Int} {M : Mp} {Q : List D → (Mp → Prop) → Mp → Prop} : rngD Q [.int j] M = (-(2 ^ 62) ≤ j ∧ j ≤ LIM ∧ Q ((List.range j.toNat).map fun k => .int (k : Nat)) (fun _ => True) M) := rfl
@[simp ↓] theorem rngD_2 {i j : Int} {M : Mp} {Q : List D → (Mp → Prop) → Mp → Prop} : rngD Q [.int i, .int j] M = (-(2 ^ 62) ≤ i ∧ i < 2 ^ 62 ∧ -(2 ^ 62) ≤ j ∧ j < 2 ^ 62 ∧ j - i ≤ LIM ∧ Q ((List.range (j - i).toNat).map fun k => .int (i + (k : Nat))) (fun _ => True) M) := rfl
@[simp ↓] theorem zipD_tt {a b : List D} {M : Mp} {Q : List D → (Mp → Prop) → Mp → Prop} : zipD Q [.tup a, .tup b] M = Q ((a.zip b).map fun p => .tup [p.1, p.2]) (fun _ => True) M := rfl
@[simp ↓] theorem zipD_lt {a b : List D} {M : Mp} {Q : List D → (Mp → Prop) → Mp → Prop} : zipD Q [.lst a, .tup b] M = Q ((a.zip b).map fun p => .tup [p.1, p.2]) (fun M => lstOf M (.lst a) = some a) M := rfl
@[simp ↓] theorem zipD_tl {a b : List D} {M : Mp} {Q : List D → (Mp → Prop) → Mp → Prop} : zipD Q [.tup a, .lst b] M = Q ((a.zip b).map fun p => .tup [p.1, p.2]) (fun M => lstOf M (.lst b) = some b) M := rfl
@[simp ↓] theorem zipD_ll {a b : List D} {M : Mp} {Q : List D → (Mp → Prop) → Mp → Prop} : zipD Q [.lst a, .lst b] M = Q ((a.zip b).map fun p => .tup [p.1, p.2]) (fun M => lstOf M (.lst a) = some a ∧ lstOf M (.lst b) = some b) M := rfl
@[simp ↓] theorem rngV_eq {ds : List D} {M : Mp} {Q : List D → Mp → Prop} : rngV Q ds M = rngD (fun ds _ M => Q ds M) ds M := rfl
@[simp ↓] theorem cntL_cons {a r : T} : cntL (.cons a r) = cntL r + 1 := rfl
@[simp ↓] theorem cntL_nil : cntL .nil = 0 := rfl
@[simp ↓] theorem wipeD_nil {δ : St} : wipeD δ [] = δ := rfl
@[simp ↓] theorem wipeD_cons {δ : St} {v : Nat} {vs : List Nat} : wipeD δ (v :: vs) = (wipeD δ vs).set v none := rfl
theorem up_app {M : Mp} {a b : Addr} {o : DO} : up M a o b = if b = a then some o else M b := rfl
@[simp ↓] theorem wpF_eq {Γ : String → SpD} {f : Fn} {ds : List D} {M : Mp} {Q : DK} {X : Str → Mp → Prop} : wpF Γ f ds M Q X = (ds.length = f.ar ∧
  zSs Γ (fun c _ M' => Lv (X c) M') f.body { nx := fun _ M' => Lv (Q .non) M', rt := fun d M' => Lv (Q d) M', bk := fun _ _ => False, ct := fun _ _ => False } (ds.map some ++ List.replicate (f.sl - f.ar) none) M) := by rw [zSs_eq]; rfl
theorem ixAt_eq {n : Nat} {i : Int} : ixAt n i = if 0 ≤ i then (if i < n then some i.toNat else none) else if -(n : Int) ≤ i then some (i + n).toNat else none := rfl
@[simp] theorem ixAt_nat {n k : Nat} : ixAt n (k : Int) = if k < n then some k else none := by
  unfold ixAt
  rw [if_pos (by omega)]
  by_cases h : k < n
  · rw [if_pos h, if_pos (by omega)]; rfl
  · rw [if_neg h, if_neg (by omega)]
@[simp] theorem atD_nat {xs : List D} {k : Nat} : atD xs (k : Int) = xs[k]? := by
  unfold atD
  rw [ixAt_nat]
  by_cases h : k < xs.length
  · rw [if_pos h]; rfl
  · rw [if_neg h]; exact (List.getElem?_eq_none (by omega)).symm
@[simp] theorem atD_succ {xs : List D} {k : Nat} : atD xs ((k : Int) + 1) = xs[k + 1]? := atD_nat (k := k + 1)
@[simp] theorem atD_onep {xs : List D} {k : Nat} : atD xs (1 + (k : Int)) = xs[k + 1]? := by rw [Int.add_comm]; exact atD_succ
@[simp] theorem ixAt_succ {n k : Nat} : ixAt n ((k : Int) + 1) = if k + 1 < n then some (k + 1) else none := ixAt_nat (k := k + 1)
@[simp] theorem LIM_eq : LIM = 16777216 := rfl
theorem atD_pos {xs : List D} {i : Int} (h : 0 ≤ i) : atD xs i = xs[i.toNat]? := by
  have := atD_nat (xs := xs) (k := i.toNat)
  rwa [Int.toNat_of_nonneg h] at this
theorem ixAt_pos {n : Nat} {i : Int} (h : 0 ≤ i) (h2 : i < n) : ixAt n i = some i.toNat := by
  unfold ixAt
  rw [if_pos h, if_pos h2]
theorem ixAt_neg {n : Nat} {i : Int} (h : i < 0) (h2 : -(n : Int) ≤ i) : ixAt n i = some (i + n).toNat := by
  unfold ixAt
  rw [if_neg (by omega), if_pos h2]
theorem atD_neg {xs : List D} {i : Int} (h : i < 0) (h2 : -(xs.length : Int) ≤ i) : atD xs i = xs[(i + xs.length).toNat]? := by
  unfold atD
  rw [ixAt_neg h h2]; rfl
@[simp] theorem okM_lst_append : okM .lst .append = true := rfl
@[simp] theorem okM_lst_pop : okM .lst .pop = true := rfl
@[simp] theorem okM_lst_insert : okM .lst .insert = true := rfl
@[simp] theorem okM_lst_remove : okM .lst .remove = true := rfl
@[simp] theorem okM_lst_index : okM .lst .index = true := rfl
@[simp] theorem okM_lst_count : okM .lst .count = true := rfl
@[simp] theorem okM_lst_extend : okM .lst .extend = true := rfl
@[simp] theorem okM_lst_clear : okM .lst .clear = true := rfl
@[simp] theorem okM_lst_reverse : okM .lst .reverse = true := rfl
@[simp] theorem okM_tup_count : okM .tup .count = true := rfl
@[simp] theorem okM_tup_index : okM .tup .index = true := rfl
@[simp] theorem okM_dic_get : okM .dic .get = true := rfl
@[simp] theorem okM_dic_setdefault : okM .dic .setdefault = true := rfl
@[simp] theorem okM_str_join : okM .str .join = true := rfl
@[simp] theorem okM_str_split : okM .str .split = true := rfl
@[simp] theorem okM_str_strip : okM .str .strip = true := rfl
@[simp] theorem okM_str_upper : okM .str .upper = true := rfl
@[simp] theorem eqOkE_eq {x y : D} : eqOkE x y = (isD false x 30 && isD false y 30 || eq0 x y) := rfl
@[simp] theorem eqOk_eq {x y : D} : eqOk x y = (isD false x 30 && isD false y 30) := rfl
@[simp] theorem memOk_eq {x : D} {ys : List D} : memOk x ys = (isD false x 30 && isDs false ys 30) := rfl
@[simp] theorem atD_0 {xs : List D} : atD xs 0 = xs[0]? := atD_nat (k := 0)
@[simp] theorem ixAt_0 {n : Nat} : ixAt n 0 = if 0 < n then some 0 else none := ixAt_nat (k := 0)
@[simp] theorem atD_1 {xs : List D} : atD xs 1 = xs[1]? := atD_nat (k := 1)
@[simp] theorem ixAt_1 {n : Nat} : ixAt n 1 = if 1 < n then some 1 else none := ixAt_nat (k := 1)
@[simp] theorem atD_2 {xs : List D} : atD xs 2 = xs[2]? := atD_nat (k := 2)
@[simp] theorem ixAt_2 {n : Nat} : ixAt n 2 = if 2 < n then some 2 else none := ixAt_nat (k := 2)
@[simp] theorem atD_3 {xs : List D} : atD xs 3 = xs[3]? := atD_nat (k := 3)
@[simp] theorem ixAt_3 {n : Nat} : ixAt n 3 = if 3 < n then some 3 else none := ixAt_nat (k := 3)
@[simp] theorem atD_4 {xs : List D} : atD xs 4 = xs[4]? := atD_nat (k := 4)
@[simp] theorem ixAt_4 {n : Nat} : ixAt n 4 = if 4 < n then some 4 else none := ixAt_nat (k := 4)
@[simp] theorem atD_5 {xs : List D} : atD xs 5 = xs[5]? := atD_nat (k := 5)
@[simp] theorem ixAt_5 {n : Nat} : ixAt n 5 = if 5 < n then some 5 else none := ixAt_nat (k := 5)
@[simp] theorem atD_6 {xs : List D} : atD xs 6 = xs[6]? := atD_nat (k := 6)
@[simp] theorem ixAt_6 {n : Nat} : ixAt n 6 = if 6 < n then some 6 else none := ixAt_nat (k := 6)
@[simp] theorem atD_7 {xs : List D} : atD xs 7 = xs[7]? := atD_nat (k := 7)
@[simp] theorem ixAt_7 {n : Nat} : ixAt n 7 = if 7 < n then some 7 else none := ixAt_nat (k := 7)
@[simp] theorem atD_8 {xs : List D} : atD xs 8 = xs[8]? := atD_nat (k := 8)
@[simp] theorem ixAt_8 {n : Nat} : ixAt n 8 = if 8 < n then some 8 else none := ixAt_nat (k := 8)
@[simp] theorem atD_9 {xs : List D} : atD xs 9 = xs[9]? := atD_nat (k := 9)
@[simp] theorem ixAt_9 {n : Nat} : ixAt n 9 = if 9 < n then some 9 else none := ixAt_nat (k := 9)
@[simp] theorem atD_10 {xs : List D} : atD xs 10 = xs[10]? := atD_nat (k := 10)
@[simp] theorem ixAt_10 {n : Nat} : ixAt n 10 = if 10 < n then some 10 else none := ixAt_nat (k := 10)
@[simp] theorem atD_11 {xs : List D} : atD xs 11 = xs[11]? := atD_nat (k := 11)
@[simp] theorem ixAt_11 {n : Nat} : ixAt n 11 = if 11 < n then some 11 else none := ixAt_nat (k := 11)
@[simp] theorem atD_12 {xs : List D} : atD xs 12 = xs[12]? := atD_nat (k := 12)
@[simp] theorem ixAt_12 {n : Nat} : ixAt n 12 = if 12 < n then some 12 else none := ixAt_nat (k := 12)
end Pw
set_option Elab.async false
set_option linter.all false
set_option maxRecDepth 100000
/-! texts: how long they are when shown -/
namespace Pw
open PySem PySem.Spec PyProof.Rows L2
def OkC (x : Str) : Prop := ∀ c ∈ x.cps.toList, c < 16 ^ 8
theorem okC_of (s : String) : OkC (Str.ofString s) := fun c hc => by
  rw [Str.ofString_eq_toList] at hc
  simp only [List.mem_map] at hc
  obtain ⟨d, _, rfl⟩ := hc
  have h := d.valid
  have e : d.toNat < 1114112 := by
    unfold Char.toNat
    unfold UInt32.isValidChar Nat.isValidChar at h
    omega
  omega
theorem okC_int (i : Int) : OkC (toString i) := okC_of _
theorem okC_app {a b : Str} (ha : OkC a) (hb : OkC b) : OkC (a ++ b) := fun c hc => by
  have e : (a ++ b).cps = a.cps ++ b.cps := rfl
  rw [e] at hc
  simp only [Array.toList_append, List.mem_append] at hc
  exact hc.elim (ha c) (hb c)
theorem okC_sjoin {sep : Str} (hs : OkC sep) : ∀ l : List Str, (∀ a ∈ l, OkC a) → OkC (Str.join sep l)
  | [], _ => by intro c hc; exact absurd hc (by simp [Str.join, Str.empty])
  | [x], h => h x (List.mem_cons_self ..)
  | x :: y :: r, h => by
    show OkC (x ++ sep ++ Str.join sep (y :: r))
    exact okC_app (okC_app (h x (List.mem_cons_self ..)) hs) (okC_sjoin hs (y :: r) fun a ha => h a (List.mem_cons_of_mem _ ha))
theorem txt_join_eq {sep : Str} {l : List Str} : Txt.join sep l = Str.join sep l := by
  show Builtin.Str.glued sep l = _
  rw [StrLaws.glued_eq_join]
theorem okC_join {sep : Str} {l : List Str} (hs : OkC sep) (h : ∀ a ∈ l, OkC a) : OkC (Txt.join sep l) := by
  rw [txt_join_eq]; exact okC_sjoin hs l h
theorem sjoin_len {sep : Str} : ∀ l : List Str, (Str.join sep l).length ≤ (l.map (·.length)).sum + l.length * sep.length
  | [] => by show (0 : Nat) ≤ _; omega
  | [x] => by show x.length ≤ _; simp
  | x :: y :: r => by
    have ih := sjoin_len (sep := sep) (y :: r)
    show (x ++ sep ++ Str.join sep (y :: r)).length ≤ _
    rw [strLen_append, strLen_append]
    simp only [List.map_cons, List.sum_cons, List.length_cons, Nat.add_mul, Nat.one_mul] at ih ⊢
    omega
theorem join_len {sep : Str} {l : List Str} : (Txt.join sep l).length ≤ (l.map (·.length)).sum + l.length * sep.length := by
  rw [txt_join_eq]; exact sjoin_len l
theorem sm_str {x : Str} (h : OkC x) : Sm (10 * x.length + 2) (.str x) := ⟨rfl, StrLaws.reprText_len x h⟩
theorem sum_len_le {b : Nat} : ∀ {l : List Str}, (∀ a ∈ l, a.length ≤ b) → (l.map (·.length)).sum ≤ l.length * b
  | [], _ => by simp
  | x :: l, h => by
    have ih := sum_len_le (l := l) fun a ha => h a (List.mem_cons_of_mem _ ha)
    have := h x (List.mem_cons_self ..)
    simp only [List.map_cons, List.sum_cons, List.length_cons, Nat.add_mul, Nat.one_mul]
    omega
theorem int_len {i : Int} (k : Nat) (hk : 0 < k) (h : i.natAbs < 10 ^ k) : (toString i : Str).length ≤ k + 1 := by
  show (Str.ofString (toString i)).length ≤ _
  rw [PySem.ofString_length]
  exact int_text_length_le10 hk h
theorem strsOf_map : ∀ {l : List Str}, strsOf (l.map D.str) = some l
  | [] => rfl
  | x :: l => by simp [strsOf, strsOf_map (l := l)]
end Pw
set_option Elab.async false
set_option linter.all false
set_option maxRecDepth 100000
/-! more small laws for simp -/
namespace Pw
open PySem PySem.Spec PyProof.Rows L2
@[simp] theorem intsOf_nil : intsOf [] = some [] := rfl
@[simp] theorem intsOf_icons {i : Int} {ds : List D} : intsOf (.int i :: ds) = (intsOf ds).map (i :: ·) := by
  simp only [intsOf, intOf]
  cases intsOf ds <;> rfl
@[simp] theorem intsOf_maps {ns : List Int} : intsOf (ns.map D.int) = some ns := by
  induction ns with
  | nil => rfl
  | cons a r ih => simp [ih]
@[simp] theorem intsOf_mapf {α : Type} {f : α → Int} {ns : List α} : intsOf (ns.map fun x => D.int (f x)) = some (ns.map f) := by
  have : (ns.map fun x => D.int (f x)) = (ns.map f).map D.int := by simp
  rw [this, intsOf_maps]
@[simp] theorem intsOf_append {xs ys : List D} : intsOf (xs ++ ys) = (intsOf xs).bind fun a => (intsOf ys).map (a ++ ·) := by
  induction xs with
  | nil => simp
  | cons x xs ih =>
    cases x with
    | int i =>
      rw [List.cons_append, intsOf_icons, intsOf_icons, ih]
      cases intsOf xs <;> simp
      cases intsOf ys <;> simp
    | _ => simp [intsOf, intOf]
@[simp] theorem seqOf_tup {M : Mp} {ds : List D} : seqOf M (.tup ds) = some ds := rfl
@[simp] theorem seqOf_lst {M : Mp} {ds : List D} : seqOf M (.lst ds) = some ds := rfl
@[simp] theorem seqOf_ref {M : Mp} {a : Addr} : seqOf M (.ref a) = lstOf M (.ref a) := rfl
@[simp] theorem lstOf_lst {M : Mp} {ds : List D} : lstOf M (.lst ds) = some ds := rfl
@[simp] theorem lstOf_scr {M : Mp} {ds : List D} : lstOf M (.scr ds) = some ds := rfl
@[simp] theorem lstM_lst {M : Mp} {ds : List D} : lstM M (.lst ds) = some ds := rfl
theorem lstOf_ref {M : Mp} {a : Addr} {ds : List D} (h : M a = some (.lst ds)) : lstOf M (.ref a) = some ds := by simp [lstOf, h]
theorem lstM_ref {M : Mp} {a : Addr} {ds : List D} (h : M a = some (.lst ds)) : lstM M (.ref a) = some ds := by simp [lstM, h]
@[simp] theorem blsOf_nil : blsOf [] = some [] := rfl
@[simp] theorem blsOf_icons {b : Bool} {ds : List D} : blsOf (.bl b :: ds) = (blsOf ds).map (b :: ·) := by
  simp only [blsOf]
  cases blsOf ds <;> rfl
@[simp] theorem blsOf_maps {α : Type} {f : α → Bool} : ∀ {xs : List α}, blsOf (xs.map fun x => .bl (f x)) = some (xs.map f)
  | [] => rfl
  | x :: xs => by simp [blsOf_maps (xs := xs)]
@[simp] theorem strsOf_nil : strsOf [] = some [] := rfl
@[simp] theorem strsOf_icons {b : Str} {ds : List D} : strsOf (.str b :: ds) = (strsOf ds).map (b :: ·) := by
  simp only [strsOf]
  cases strsOf ds <;> rfl
@[simp] theorem strsOf_maps {α : Type} {f : α → Str} : ∀ {xs : List α}, strsOf (xs.map fun x => .str (f x)) = some (xs.map f)
  | [] => rfl
  | x :: xs => by simp [strsOf_maps (xs := xs)]
@[simp] theorem maxI_cons {a : Int} {r : List Int} : maxI (a :: r) = r.foldl max a := rfl
theorem eqD_lnil {xs : List D} : eqD (.lst xs) (.lst []) = decide (xs = []) := by
  simp only [eqD, toP, PyData.eqv]
  cases xs <;> simp [toPs, PyData.eqvAll]
theorem eqD_tnil {xs : List D} : eqD (.tup xs) (.tup []) = decide (xs = []) := by
  simp only [eqD, toP, PyData.eqv]
  cases xs <;> simp [toPs, PyData.eqvAll]
/-! slices as take and drop -/
theorem cutD_to {ds : List D} {i : Int} (h : 0 ≤ i) : cutD ds none (some i) = ds.take i.toNat := by
  have h1 : ¬ i < 0 := by omega
  simp only [cutD, cutIx, h1, if_false]
  rw [List.drop_zero, Nat.sub_zero]
  by_cases h2 : i.toNat ≤ ds.length
  · rw [Nat.min_eq_left h2]
  · rw [Nat.min_eq_right (by omega), List.take_of_length_le (Nat.le_refl _), List.take_of_length_le (by omega)]
theorem cutD_from {ds : List D} {i : Int} (h : 0 ≤ i) : cutD ds (some i) none = ds.drop i.toNat := by
  have h1 : ¬ i < 0 := by omega
  simp only [cutD, cutIx, h1, if_false]
  by_cases h2 : i.toNat ≤ ds.length
  · rw [Nat.min_eq_left h2, List.take_of_length_le (by rw [List.length_drop]; omega)]
  · rw [Nat.min_eq_right (by omega), List.drop_of_length_le (by omega : ds.length ≤ i.toNat), List.drop_of_length_le (Nat.le_refl _)]; simp
@[simp] theorem cutD_to_nat {ds : List D} {k : Nat} : cutD ds none (some (k : Int)) = ds.take k := cutD_to (by omega)
@[simp] theorem cutD_to_succ {ds : List D} {k : Nat} : cutD ds none (some ((k : Int) + 1)) = ds.take (k + 1) := by rw [cutD_to (by omega)]; congr 1
@[simp] theorem cutD_to_lit {ds : List D} {k : Nat} : cutD ds none (some (no_index (OfNat.ofNat k))) = ds.take k := cutD_to (i := (k : Int)) (by omega)
@[simp] theorem cutD_to_one {ds : List D} : cutD ds none (some 1) = ds.take 1 := cutD_to (by omega)
@[simp] theorem cutD_to_zero {ds : List D} : cutD ds none (some 0) = [] := by rw [cutD_to (by omega)]; rfl
@[simp] theorem cutD_from_nat {ds : List D} {k : Nat} : cutD ds (some (k : Int)) none = ds.drop k := cutD_from (by omega)
@[simp] theorem cutD_from_succ {ds : List D} {k : Nat} : cutD ds (some ((k : Int) + 1)) none = ds.drop (k + 1) := by rw [cutD_from (by omega)]; congr 1
@[simp] theorem cutD_from_lit {ds : List D} {k : Nat} : cutD ds (some (no_index (OfNat.ofNat k))) none = ds.drop k := cutD_from (i := (k : Int)) (by omega)
@[simp] theorem cutD_from_one {ds : List D} : cutD ds (some 1) none = ds.drop 1 := cutD_from (by omega)
theorem cutD_back {ds : List D} {i : Int} (h : i < 0) : cutD ds none (some i) = ds.take (i + ds.length).toNat := by
  simp only [cutD, cutIx, h, if_true]
  rw [List.drop_zero, Nat.sub_zero]
@[simp] theorem cutD_m1 {ds : List D} : cutD ds none (some (-1)) = ds.take (ds.length - 1) := by
  rw [cutD_back (by omega)]; congr 1; omega
theorem cutD_last {ds : List D} : cutD ds (some (-1)) none = ds.drop (ds.length - 1) := by
  simp only [cutD, cutIx]
  rw [if_pos (by omega)]
  have : ((-1 : Int) + ds.length).toNat = ds.length - 1 := by omega
  rw [this, List.take_of_length_le (by rw [List.length_drop]; omega)]
@[simp] theorem atD_m1 {ds : List D} (h : ds ≠ []) : atD ds (-1) = some (ds.getLast h) := by
  have h1 : 0 < ds.length := List.length_pos_iff.mpr h
  rw [atD_neg (by omega) (by omega)]
  have : ((-1 : Int) + ds.length).toNat = ds.length - 1 := by omega
  rw [this, List.getLast_eq_getElem, List.getElem?_eq_getElem (by omega)]
end Pw
set_option Elab.async false
set_option linter.all false
set_option maxRecDepth 100000
/-! values that may be shown and compared: atoms (V0), rows of atoms (V1), rows of these (V2) -/
namespace Pw
open PySem PySem.Spec PyProof.Rows L2
theorem isD_le {w : Bool} {d : D} {n m : Nat} (h : isD w d n = true) (hm : n ≤ m) : isD w d m = true := by
  induction m with
  | zero => cases n with
    | zero => exact h
    | succ n => omega
  | succ m ih =>
    by_cases e : n = m + 1
    · subst e; exact h
    · exact isD_upw _ _ (ih (by omega))
where
  isD_upw : ∀ (d : D) (n : Nat), isD w d n = true → isD w d (n + 1) = true
  | .tup ds, n, h => by
    cases n with
    | zero => simp [isD] at h
    | succ n => simp only [isD] at h ⊢; exact isDs_upw ds n h
  | .lst ds, n, h => by
    cases n with
    | zero => simp [isD] at h
    | succ n => simp only [isD] at h ⊢; exact isDs_upw ds n h
  | .dic ds, n, h => by
    cases n with
    | zero => simp [isD] at h
    | succ n => simp only [isD, Bool.and_eq_true] at h ⊢; exact ⟨h.1, isDk_upw ds n h.2⟩
  | .non, n, h => by simp [isD]
  | .bl _, n, h => by simp [isD]
  | .int _, n, h => by simp [isD]
  | .str _, n, h => by simp [isD]
  | .ref _, n, h => by simp [isD] at h
  | .ty _, n, h => by simp [isD] at h
  | .exc _, n, h => by simp [isD] at h
  | .scr _, n, h => by simp [isD] at h
  isDs_upw : ∀ (ds : List D) (n : Nat), isDs w ds n = true → isDs w ds (n + 1) = true
  | [], n, h => rfl
  | d :: ds, n, h => by
    simp only [isDs, Bool.and_eq_true] at h ⊢; exact ⟨isD_upw d n h.1, isDs_upw ds n h.2⟩
  isDk_upw : ∀ (ds : List (Key × D)) (n : Nat), isDk w ds n = true → isDk w ds (n + 1) = true
  | [], n, h => rfl
  | (k, d) :: ds, n, h => by
    simp only [isDk, Bool.and_eq_true] at h ⊢; exact ⟨isD_upw d n h.1, isDk_upw ds n h.2⟩
structure V0 (d : D) : Prop where
  isd : isD true d 10 = true
  sm : Sm 100 d
structure V1 (d : D) : Prop where
  isd : isD true d 12 = true
  sm : Sm 31000 d
structure V2 (d : D) : Prop where
  isd : isD true d 14 = true
  sm : Sm 6000000 d
theorem V0.v1 {d : D} (h : V0 d) : V1 d := ⟨isD_le h.1 (by decide), h.2.mono (by decide)⟩
theorem V1.v2 {d : D} (h : V1 d) : V2 d := ⟨isD_le h.1 (by decide), h.2.mono (by decide)⟩
theorem V0.v2 {d : D} (h : V0 d) : V2 d := h.v1.v2
theorem V0.d {d : D} (h : V0 d) : isD true d 30 = true := isD_le h.1 (by decide)
theorem V1.d {d : D} (h : V1 d) : isD true d 30 = true := isD_le h.1 (by decide)
theorem V2.d {d : D} (h : V2 d) : isD true d 30 = true := isD_le h.1 (by decide)
@[simp] theorem V0_non : V0 .non := ⟨by simp, sm_non.mono (by decide)⟩
@[simp] theorem V0_bl {b : Bool} : V0 (.bl b) := ⟨by simp, (sm_bl b).mono (by decide)⟩
theorem V0_int {i : Int} (h : i.natAbs < 10 ^ 90) : V0 (.int i) := ⟨by simp, (sm_int 90 (by decide) (by decide) h).mono (by decide)⟩
theorem V0_intR {i : Int} (h1 : -(10 ^ 80) < i) (h2 : i < 10 ^ 80) : V0 (.int i) := V0_int (by omega)
@[simp] theorem V0_ints {i : Int} (h1 : -1000000000000000000000000000000000000000000000000000000000000000000000000000000000 < i) (h2 : i < 1000000000000000000000000000000000000000000000000000000000000000000000000000000000) : V0 (.int i) := V0_int (by omega)
@[simp] theorem V0_nil : V0 (.tup []) := ⟨by simp, ⟨rfl, by decide⟩⟩
@[simp] theorem V0_lnil : V0 (.lst []) := ⟨by simp, ⟨rfl, by decide⟩⟩
@[simp] theorem V0_dnil : V0 (.dic []) := ⟨by simp [isD, isDk], ⟨rfl, by decide⟩⟩
theorem V0_str {x : Str} (h : OkC x) (hl : x.length ≤ 9) : V0 (.str x) := ⟨by simp, (sm_str h).mono (by omega)⟩
@[simp] theorem V0_strS {s : String} (h : (Str.ofString s).length ≤ 9) : V0 (.str (Str.ofString s)) := V0_str (okC_of s) h
theorem V1_str {x : Str} (h : OkC x) (hl : x.length ≤ 3000) : V1 (.str x) := ⟨by simp, (sm_str h).mono (by omega)⟩
theorem V2_str {x : Str} (h : OkC x) (hl : x.length ≤ 500000) : V2 (.str x) := ⟨by simp, (sm_str h).mono (by omega)⟩
theorem V1_tup {xs : List D} (h : ∀ x ∈ xs, V0 x) (hl : xs.length ≤ 300) : V1 (.tup xs) := ⟨by
  rw [show (12 : Nat) = 11 + 1 from rfl, isD_tup]; exact isDs_of fun x hx => isD_le (h x hx).1 (by decide), (sm_tup (fun x hx => (h x hx).2) hl).mono (by decide)⟩
theorem V1_lst {xs : List D} (h : ∀ x ∈ xs, V0 x) (hl : xs.length ≤ 300) : V1 (.lst xs) := ⟨by
  rw [show (12 : Nat) = 11 + 1 from rfl, isD_lst]; exact isDs_of fun x hx => isD_le (h x hx).1 (by decide), (sm_lst (fun x hx => (h x hx).2) hl).mono (by decide)⟩
theorem V2_tup {xs : List D} (h : ∀ x ∈ xs, V1 x) (hl : xs.length ≤ 190) : V2 (.tup xs) := ⟨by
  rw [show (14 : Nat) = 13 + 1 from rfl, isD_tup]; exact isDs_of fun x hx => isD_le (h x hx).1 (by decide), (sm_tup (fun x hx => (h x hx).2) hl).mono (by decide)⟩
theorem V2_lst {xs : List D} (h : ∀ x ∈ xs, V1 x) (hl : xs.length ≤ 190) : V2 (.lst xs) := ⟨by
  rw [show (14 : Nat) = 13 + 1 from rfl, isD_lst]; exact isDs_of fun x hx => isD_le (h x hx).1 (by decide), (sm_lst (fun x hx => (h x hx).2) hl).mono (by decide)⟩
theorem V0_t1 {d : D} (h : isD true d 9 = true ∧ Sm 90 d) : V0 (.tup [d]) := ⟨by
  rw [show (10 : Nat) = 9 + 1 from rfl, isD_tup]; simp [h.1], (sm_tup (n := 1) (b := 90) (by simpa using h.2) (by simp)).mono (by decide)⟩
theorem V0_l1 {d : D} (h : isD true d 9 = true ∧ Sm 90 d) : V0 (.lst [d]) := ⟨by
  rw [show (10 : Nat) = 9 + 1 from rfl, isD_lst]; simp [h.1], (sm_lst (n := 1) (b := 90) (by simpa using h.2) (by simp)).mono (by decide)⟩
theorem V0_map {ns : List Int} (h : ∀ i ∈ ns, -(10 ^ 80) < i ∧ i < 10 ^ 80) : ∀ d ∈ ns.map D.int, V0 d := fun d hd => by
  obtain ⟨i, hi, rfl⟩ := List.mem_map.mp hd
  exact V0_intR (h i hi).1 (h i hi).2
theorem all_take {p : D → Prop} {xs : List D} {k : Nat} (h : ∀ x ∈ xs, p x) : ∀ x ∈ xs.take k, p x := fun x hx => h x (List.mem_of_mem_take hx)
theorem all_drop {p : D → Prop} {xs : List D} {k : Nat} (h : ∀ x ∈ xs, p x) : ∀ x ∈ xs.drop k, p x := fun x hx => h x (List.mem_of_mem_drop hx)
theorem all_rev {p : D → Prop} {xs : List D} (h : ∀ x ∈ xs, p x) : ∀ x ∈ xs.reverse, p x := fun x hx => h x (List.mem_reverse.mp hx)
theorem all_app {p : D → Prop} {xs ys : List D} (h : ∀ x ∈ xs, p x) (h' : ∀ x ∈ ys, p x) : ∀ x ∈ xs ++ ys, p x := fun x hx => (List.mem_append.mp hx).elim (h x) (h' x)
theorem all_cons {p : D → Prop} {x : D} {ys : List D} (h : p x) (h' : ∀ x ∈ ys, p x) : ∀ y ∈ x :: ys, p y := fun y hy => (List.mem_cons.mp hy).elim (fun e => e ▸ h) (h' y)
theorem all_nil {p : D → Prop} : ∀ x ∈ ([] : List D), p x := fun x hx => by cases hx
theorem all_rep {p : D → Prop} {xs : List D} {i : Int} (h : ∀ x ∈ xs, p x) : ∀ x ∈ rep i xs, p x := fun x hx => by
  obtain ⟨l, hl, hx⟩ := List.mem_flatten.mp hx
  rw [List.mem_replicate] at hl
  exact h x (hl.2 ▸ hx)
theorem rep_length {xs : List D} {i : Int} : (rep i xs).length = i.toNat * xs.length := by
  unfold rep
  rw [List.length_flatten, List.map_replicate, List.sum_replicate_nat]
theorem bfn_repr2 {m : Bool} {d : D} {M : Mp} {Q : DK} (h : V2 (see M d)) (hq : Q (.str (rp (see M d))) M) : bfn m .repr [d] M Q :=
  bfn_repr h.d h.2 (by decide) hq
theorem atD_ex {ds : List D} {i : Int} (h0 : 0 ≤ i) (h1 : i < ds.length) : ∃ d ∈ ds, atD ds i = some d := by
  rw [atD_pos h0]
  have : i.toNat < ds.length := by omega
  exact ⟨ds[i.toNat], List.getElem_mem this, List.getElem?_eq_getElem this⟩
theorem fmax_mem : ∀ (r : List Int) (a : Int), r.foldl max a ∈ a :: r
  | [], a => by simp
  | b :: r, a => by
    rw [List.foldl_cons]
    have := fmax_mem r (max a b)
    rcases List.mem_cons.mp this with h | h
    · rw [h]
      rcases Int.le_total a b with g | g
      · rw [Int.max_eq_right g]; simp
      · rw [Int.max_eq_left g]; simp
    · simp [h]
theorem fmax_ge : ∀ (r : List Int) (a : Int), ∀ x ∈ a :: r, x ≤ r.foldl max a
  | [], a, x, h => by simp at h; subst h; exact Int.le_refl _
  | b :: r, a, x, h => by
    rw [List.foldl_cons]
    have ih := fmax_ge r (max a b)
    rcases List.mem_cons.mp h with h | h
    · subst h
      have := ih _ (List.mem_cons_self ..)
      exact Int.le_trans (Int.le_max_left ..) this
    · rcases List.mem_cons.mp h with h | h
      · subst h
        have := ih _ (List.mem_cons_self ..)
        exact Int.le_trans (Int.le_max_right ..) this
      · exact ih x (List.mem_cons_of_mem _ h)
/-- small atoms -/
structure Va (d : D) : Prop where
  isd : isD true d 5 = true
  sm : Sm 80 d
theorem Va.v0 {d : D} (h : Va d) : V0 d := ⟨isD_le h.1 (by decide), h.2.mono (by decide)⟩
theorem Va_non : Va .non := ⟨by simp, sm_non.mono (by decide)⟩
theorem Va_bl {b : Bool} : Va (.bl b) := ⟨by simp, (sm_bl b).mono (by decide)⟩
theorem Va_intR {i : Int} (h1 : -(10 ^ 70) < i) (h2 : i < 10 ^ 70) : Va (.int i) := ⟨by simp, (sm_int 71 (by decide) (by decide) (by omega)).mono (by decide)⟩
theorem Va_ints {i : Int} (h1 : -10000000000000000000000000000000000000000000000000000000000000000000000 < i) (h2 : i < 10000000000000000000000000000000000000000000000000000000000000000000000) : Va (.int i) := Va_intR (by omega) (by omega)
theorem Va_nil : Va (.tup []) := ⟨by simp, ⟨rfl, by decide⟩⟩
theorem Va_lnil : Va (.lst []) := ⟨by simp, ⟨rfl, by decide⟩⟩
theorem Va_dnil : Va (.dic []) := ⟨by simp [isD, isDk], ⟨rfl, by decide⟩⟩
theorem Va_strS {s : String} (h : (Str.ofString s).length ≤ 7) : Va (.str (Str.ofString s)) := ⟨by simp, (sm_str (okC_of s)).mono (by omega)⟩
theorem V0_ta {d : D} (h : Va d) : V0 (.tup [d]) := V0_t1 ⟨isD_le h.1 (by decide), h.2.mono (by decide)⟩
theorem V0_la {d : D} (h : Va d) : V0 (.lst [d]) := V0_l1 ⟨isD_le h.1 (by decide), h.2.mono (by decide)⟩
theorem all_map {α : Type} {p : D → Prop} {f : α → D} {l : List α} (h : ∀ a ∈ l, p (f a)) : ∀ x ∈ l.map f, p x := fun x hx => by
  obtain ⟨a, ha, rfl⟩ := List.mem_map.mp hx
  exact h a ha
theorem all_range {k : Nat} (h : k ≤ 1000000) : ∀ x ∈ (List.range k).map (fun (k : Nat) => D.int (k : Int)), V0 x := all_map fun a ha => by
  have := List.mem_range.mp ha
  exact V0_intR (by omega) (by omega)
theorem all_ints {p : D → Prop} {ns : List Int} (h : ∀ i ∈ ns, p (.int i)) : ∀ x ∈ ns.map D.int, p x := all_map h
/-! a text, many times -/
theorem foldl_app_toList {α : Type} : ∀ (l : List (Array α)) (a : Array α), (l.foldl (· ++ ·) a).toList = a.toList ++ (l.map Array.toList).flatten
  | [], a => by simp
  | x :: l, a => by
    rw [List.foldl_cons, foldl_app_toList l (a ++ x)]
    simp
theorem txt_mul_cps {x : Str} {j : Int} (hj : 2 ≤ j) : (Txt.mul x j).cps.toList = (List.replicate j.toNat x.cps.toList).flatten ∨ Txt.mul x j = x := by
  unfold Txt.mul
  rw [if_neg (by omega)]
  split
  · exact .inr rfl
  · left
    show ((List.replicate j.toNat x.cps).foldl (· ++ ·) #[]).toList = _
    rw [foldl_app_toList]
    simp
theorem txt_mul_okC {x : Str} {j : Int} (hj : 2 ≤ j) (h : OkC x) : OkC (Txt.mul x j) := fun c hc => by
  rcases txt_mul_cps (x := x) hj with e | e
  · rw [e] at hc
    obtain ⟨l, hl, hx⟩ := List.mem_flatten.mp hc
    rw [List.mem_replicate] at hl
    rw [hl.2] at hx
    exact h c hx
  · rw [e] at hc; exact h c hc
theorem txt_mul_len {x : Str} {j : Int} (hj : 2 ≤ j) : (Txt.mul x j).length ≤ j.toNat * x.length := by
  rcases txt_mul_cps (x := x) hj with e | e
  · have : (Txt.mul x j).length = (Txt.mul x j).cps.toList.length := by simp [Str.length]
    rw [this, e]
    simp [Str.length]
  · rw [e]
    have : 1 * x.length ≤ j.toNat * x.length := Nat.mul_le_mul_right _ (by omega)
    omega
theorem V2_mulS {s : String} {j : Int} (hj : 2 ≤ j) (hl : j.toNat * (Str.ofString s).length ≤ 500000) : V2 (.str (Txt.mul (Str.ofString s) j)) :=
  V2_str (txt_mul_okC hj (okC_of s)) (Nat.le_trans (txt_mul_len hj) hl)
theorem bfn_repr3 {m : Bool} {d y : D} {l : List Addr} {M : Mp} {Q : DK} (he : settle M 8 d = some (y, l)) (h : V2 y) (hq : Q (.str (rp y)) M) : bfn m .repr [d] M Q :=
  bfn_reprD he h.d h.2 (by decide) hq
theorem all_tail {p : D → Prop} {xs : List D} (h : ∀ x ∈ xs, p x) : ∀ x ∈ xs.tail, p x := fun x hx => h x (List.mem_of_mem_tail hx)
end Pw
set_option Elab.async false
set_option linter.all false
set_option maxRecDepth 100000
/-! loops by places; comprehensions over typed lists -/
namespace Pw
open PySem PySem.Spec PyProof.Rows L2
section
variable {step : D → (St → Mp → Prop) → St → Mp → Prop} {clr : List Nat} {still : Mp → Prop} {nx : St → Mp → Prop}
/-- a loop over the list that enc makes of l: I j holds ahead of item j -/
theorem forL_map {α : Type} {enc : α → D} {l : List α} {δ : St} {M : Mp} (I : Nat → St → Mp → Prop)
    (h1 : ∀ j a δ M, l[j]? = some a → j < l.length → I j δ M → still M ∧ ∀ k : St → Mp → Prop, (∀ δ' M', I (j + 1) (wipeD δ' clr) M' → k δ' M') → step (enc a) k δ M)
    (h2 : ∀ δ M, I l.length δ M → still M ∧ nx δ M) (h0 : I 0 δ M) : forL step clr still nx (l.map enc) δ M := by
  refine forL_inv (I := fun ds δ M => ∃ a, a ≤ l.length ∧ ds = (l.drop a).map enc ∧ I a δ M) ?_ ?_ _ _ _ ⟨0, by omega, by simp, h0⟩
  · rintro d ds δ M ⟨a, ha, e, hI⟩
    by_cases h : a < l.length
    · rw [List.drop_eq_getElem_cons h, List.map_cons] at e
      obtain ⟨rfl, rfl⟩ := List.cons.inj e
      have := h1 a _ δ M (List.getElem?_eq_getElem h) h hI
      exact ⟨this.1, fun k hk => this.2 k fun δ' M' h' => hk δ' M' ⟨a + 1, h, rfl, h'⟩⟩
    · rw [List.drop_of_length_le (by omega)] at e
      simp at e
  · rintro δ M ⟨a, ha, e, hI⟩
    have : a = l.length := by
      have := congrArg List.length e
      simp at this; omega
    subst this
    exact h2 δ M hI
theorem forL_ints {ns : List Int} {δ : St} {M : Mp} (I : Nat → St → Mp → Prop)
    (h1 : ∀ j i δ M, ns[j]? = some i → j < ns.length → I j δ M → still M ∧ ∀ k : St → Mp → Prop, (∀ δ' M', I (j + 1) (wipeD δ' clr) M' → k δ' M') → step (.int i) k δ M)
    (h2 : ∀ δ M, I ns.length δ M → still M ∧ nx δ M) (h0 : I 0 δ M) : forL step clr still nx (ns.map D.int) δ M := forL_map I h1 h2 h0
theorem forL_rng {n : Nat} {δ : St} {M : Mp} (I : Nat → St → Mp → Prop)
    (h1 : ∀ j δ M, j < n → I j δ M → still M ∧ ∀ k : St → Mp → Prop, (∀ δ' M', I (j + 1) (wipeD δ' clr) M' → k δ' M') → step (.int (j : Nat)) k δ M)
    (h2 : ∀ δ M, I n δ M → still M ∧ nx δ M) (h0 : I 0 δ M) : forL step clr still nx ((List.range n).map fun (k : Nat) => D.int (k : Int)) δ M := by
  refine forL_map I (fun j a δ M e hj hI => ?_) (fun δ M hI => h2 δ M (by simpa using hI)) h0
  rw [List.length_range] at hj
  rw [List.getElem?_range hj] at e
  obtain rfl := Option.some.inj e
  exact h1 j δ M hj hI
/-- range(a, b) -/
theorem forL_rng2 {a : Int} {n : Nat} {δ : St} {M : Mp} (I : Nat → St → Mp → Prop)
    (h1 : ∀ j δ M, j < n → I j δ M → still M ∧ ∀ k : St → Mp → Prop, (∀ δ' M', I (j + 1) (wipeD δ' clr) M' → k δ' M') → step (.int (a + (j : Nat))) k δ M)
    (h2 : ∀ δ M, I n δ M → still M ∧ nx δ M) (h0 : I 0 δ M) : forL step clr still nx ((List.range n).map fun (k : Nat) => D.int (a + (k : Int))) δ M := by
  refine forL_map I (fun j b δ M e hj hI => ?_) (fun δ M hI => h2 δ M (by simpa using hI)) h0
  rw [List.length_range] at hj
  rw [List.getElem?_range hj] at e
  obtain rfl := Option.some.inj e
  exact h1 j δ M hj hI
theorem forL_enum {xs : List D} {δ : St} {M : Mp} (I : Nat → St → Mp → Prop)
    (h1 : ∀ j x δ M, xs[j]? = some x → j < xs.length → I j δ M → still M ∧ ∀ k : St → Mp → Prop, (∀ δ' M', I (j + 1) (wipeD δ' clr) M' → k δ' M') → step (.tup [.int (j : Nat), x]) k δ M)
    (h2 : ∀ δ M, I xs.length δ M → still M ∧ nx δ M) (h0 : I 0 δ M) : forL step clr still nx (xs.zipIdx.map fun p => D.tup [.int (p.2 : Nat), p.1]) δ M := by
  refine forL_map I (fun j a δ M e hj hI => ?_) (fun δ M hI => h2 δ M (by simpa using hI)) h0
  rw [List.length_zipIdx] at hj
  rw [List.getElem?_zipIdx] at e
  obtain ⟨x, hx, rfl⟩ := Option.map_eq_some_iff.mp e
  have := h1 j x δ M hx hj hI
  simpa using this
theorem forL_list {xs : List D} {δ : St} {M : Mp} (I : Nat → St → Mp → Prop)
    (h1 : ∀ j x δ M, xs[j]? = some x → j < xs.length → I j δ M → still M ∧ ∀ k : St → Mp → Prop, (∀ δ' M', I (j + 1) (wipeD δ' clr) M' → k δ' M') → step x k δ M)
    (h2 : ∀ δ M, I xs.length δ M → still M ∧ nx δ M) (h0 : I 0 δ M) : forL step clr still nx xs δ M := by
  have := forL_map (enc := id) (l := xs) (step := step) (clr := clr) (still := still) (nx := nx) (δ := δ) (M := M) I h1 h2 h0
  simpa using this
/-- a loop that keeps I, whatever the item is -/
theorem forL_all {xs : List D} {δ : St} {M : Mp} (I : St → Mp → Prop)
    (h1 : ∀ x δ M, x ∈ xs → I δ M → still M ∧ ∀ k : St → Mp → Prop, (∀ δ' M', I (wipeD δ' clr) M' → k δ' M') → step x k δ M)
    (h2 : ∀ δ M, I δ M → still M ∧ nx δ M) (h0 : I δ M) : forL step clr still nx xs δ M :=
  forL_list (fun _ => I) (fun j x δ M e _ hI => h1 x δ M (List.mem_of_getElem? e) hI) h2 h0
end
section
variable {g : D → St → Mp → (St → Mp → Prop) → Prop} {tt : St → Mp → (Bool → Mp → Prop) → Prop} {te : St → Mp → (List D → Mp → (List D → Mp → Prop) → Prop)} {still : Mp → Prop} {δ : St} {K : List D → Mp → Prop} {M : Mp}
theorem filter_map_flat {α : Type} {p : α → Bool} {f : α → D} : ∀ {l : List α}, (l.flatMap fun a => if p a then [f a] else []) = (l.filter p).map f
  | [] => rfl
  | a :: l => by
    rw [List.flatMap_cons, filter_map_flat (l := l), List.filter_cons]
    cases p a <;> simp
/-- a comprehension that changes nothing: the items that pass, mapped -/
theorem compL_filter {α : Type} (l : List α) (enc : α → D) (p : α → Bool) (f : α → D) (hs : still M)
    (h1 : ∀ a ∈ l, ∀ acc, ∀ k : List D → Mp → Prop, (p a = true → k (acc ++ [f a]) M) → (p a = false → k acc M) → g (enc a) δ M fun δ1 M1 => tt δ1 M1 fun b M2 => match b with
      | true => te δ1 M2 acc M2 k
      | false => k acc M2)
    (h2 : K ((l.filter p).map f) M) : compL g tt te still δ K (l.map enc) [] M := by
  refine compL_inv (I := fun ds' acc M' => M' = M ∧ ∃ a, ds' = (l.drop a).map enc ∧ acc ++ ((l.drop a).filter p).map f = (l.filter p).map f) ?_ ?_ _ [] M ⟨rfl, 0, by simp, by simp⟩
  · rintro d ds' acc M' ⟨rfl, a, e, ha⟩
    by_cases h : a < l.length
    · rw [List.drop_eq_getElem_cons h] at e ha
      rw [List.map_cons] at e
      obtain ⟨rfl, rfl⟩ := List.cons.inj e
      refine ⟨hs, fun k hk => h1 _ (List.getElem_mem h) acc k (fun hp => hk _ _ ⟨rfl, a + 1, rfl, ?_⟩) fun hp => hk _ _ ⟨rfl, a + 1, rfl, ?_⟩⟩
      · rw [← ha, List.filter_cons, hp]; simp
      · rw [← ha, List.filter_cons, hp]; simp
    · rw [List.drop_of_length_le (by omega)] at e
      simp at e
  · rintro acc M' ⟨rfl, a, e, ha⟩
    refine ⟨hs, ?_⟩
    have : l.drop a = [] := List.map_eq_nil_iff.mp e.symm
    rw [this] at ha
    simp at ha
    rw [ha]; exact h2
theorem compL_map {α : Type} (l : List α) (enc : α → D) (f : α → D) (hs : still M)
    (h1 : ∀ a ∈ l, ∀ acc, ∀ k : List D → Mp → Prop, k (acc ++ [f a]) M → g (enc a) δ M fun δ1 M1 => tt δ1 M1 fun b M2 => match b with
      | true => te δ1 M2 acc M2 k
      | false => k acc M2)
    (h2 : K (l.map f) M) : compL g tt te still δ K (l.map enc) [] M :=
  compL_filter l enc (fun _ => true) f hs (fun a ha acc k hk _ => h1 a ha acc k (hk rfl)) (by rw [List.filter_eq_self.mpr (fun _ _ => rfl)]; exact h2)
theorem compL_filterD (xs : List D) (p : D → Bool) (f : D → D) (hs : still M)
    (h1 : ∀ a ∈ xs, ∀ acc, ∀ k : List D → Mp → Prop, (p a = true → k (acc ++ [f a]) M) → (p a = false → k acc M) → g a δ M fun δ1 M1 => tt δ1 M1 fun b M2 => match b with
      | true => te δ1 M2 acc M2 k
      | false => k acc M2)
    (h2 : K ((xs.filter p).map f) M) : compL g tt te still δ K xs [] M := by
  have := compL_filter (g := g) (tt := tt) (te := te) (δ := δ) (K := K) xs id p f hs h1 h2
  rwa [List.map_id] at this
theorem compL_mapD (xs : List D) (f : D → D) (hs : still M)
    (h1 : ∀ a ∈ xs, ∀ acc, ∀ k : List D → Mp → Prop, k (acc ++ [f a]) M → g a δ M fun δ1 M1 => tt δ1 M1 fun b M2 => match b with
      | true => te δ1 M2 acc M2 k
      | false => k acc M2)
    (h2 : K (xs.map f) M) : compL g tt te still δ K xs [] M := by
  have := compL_map (g := g) (tt := tt) (te := te) (δ := δ) (K := K) xs id f hs h1 h2
  rwa [List.map_id] at this
/-- enumerate -/
theorem compL_enum (xs : List D) (p : Nat → D → Bool) (f : Nat → D → D) (hs : still M)
    (h1 : ∀ j x, xs[j]? = some x → j < xs.length → ∀ acc, ∀ k : List D → Mp → Prop, (p j x = true → k (acc ++ [f j x]) M) → (p j x = false → k acc M) → g (.tup [.int (j : Nat), x]) δ M fun δ1 M1 => tt δ1 M1 fun b M2 => match b with
      | true => te δ1 M2 acc M2 k
      | false => k acc M2)
    (h2 : K ((xs.zipIdx.filter fun q => p q.2 q.1).map fun q => f q.2 q.1) M) : compL g tt te still δ K (xs.zipIdx.map fun p => D.tup [.int (p.2 : Nat), p.1]) [] M := by
  refine compL_filter xs.zipIdx _ (fun q => p q.2 q.1) (fun q => f q.2 q.1) hs (fun a ha acc k hk1 hk0 => ?_) h2
  obtain ⟨x, j⟩ := a
  have e := List.mem_zipIdx_iff_getElem?.mp ha
  have hj : j < xs.length := (List.getElem?_eq_some_iff.mp e).1
  exact h1 j x e hj acc k hk1 hk0
theorem compL_rng (n : Nat) (p : Nat → Bool) (f : Nat → D) (hs : still M)
    (h1 : ∀ j, j < n → ∀ acc, ∀ k : List D → Mp → Prop, (p j = true → k (acc ++ [f j]) M) → (p j = false → k acc M) → g (.int (j : Nat)) δ M fun δ1 M1 => tt δ1 M1 fun b M2 => match b with
      | true => te δ1 M2 acc M2 k
      | false => k acc M2)
    (h2 : K (((List.range n).filter p).map f) M) : compL g tt te still δ K ((List.range n).map fun (k : Nat) => D.int (k : Int)) [] M :=
  compL_filter (List.range n) _ p f hs (fun a ha => h1 a (List.mem_range.mp ha)) h2
theorem compL_rng2 (a : Int) (n : Nat) (p : Nat → Bool) (f : Nat → D) (hs : still M)
    (h1 : ∀ j, j < n → ∀ acc, ∀ k : List D → Mp → Prop, (p j = true → k (acc ++ [f j]) M) → (p j = false → k acc M) → g (.int (a + (j : Nat))) δ M fun δ1 M1 => tt δ1 M1 fun b M2 => match b with
      | true => te δ1 M2 acc M2 k
      | false => k acc M2)
    (h2 : K (((List.range n).filter p).map f) M) : compL g tt te still δ K ((List.range n).map fun (k : Nat) => D.int (a + (k : Int))) [] M :=
  compL_filter (List.range n) _ p f hs (fun a ha => h1 a (List.mem_range.mp ha)) h2
end
/-! what gathers anything (lists, dicts) -/
section
variable {α : Type} {g : D → St → Mp → (St → Mp → Prop) → Prop} {tt : St → Mp → (Bool → Mp → Prop) → Prop} {te : St → Mp → (α → Mp → (α → Mp → Prop) → Prop)} {still : Mp → Prop} {δ : St} {K : α → Mp → Prop} {M : Mp}
/-- by places, nothing changes but what is gathered: A j is what stands ahead of item j -/
theorem compL_at (xs : List D) (A : Nat → α) {a0 : α} (h0 : a0 = A 0) (hs : still M)
    (h1 : ∀ j x, xs[j]? = some x → j < xs.length → ∀ k : α → Mp → Prop, k (A (j + 1)) M → g x δ M fun δ1 M1 => tt δ1 M1 fun b M2 => match b with
      | true => te δ1 M2 (A j) M2 k
      | false => k (A j) M2)
    (h2 : K (A xs.length) M) : compL g tt te still δ K xs a0 M := by
  refine compL_inv (I := fun ds acc M' => M' = M ∧ ∃ a, a ≤ xs.length ∧ ds = xs.drop a ∧ acc = A a) ?_ ?_ _ _ _ ⟨rfl, 0, by omega, by simp, h0⟩
  · rintro d ds acc M' ⟨rfl, a, ha, e, rfl⟩
    by_cases h : a < xs.length
    · rw [List.drop_eq_getElem_cons h] at e
      obtain ⟨rfl, rfl⟩ := List.cons.inj e
      exact ⟨hs, fun k hk => h1 a _ (List.getElem?_eq_getElem h) h k (hk _ _ ⟨rfl, a + 1, h, rfl, rfl⟩)⟩
    · rw [List.drop_of_length_le (by omega)] at e; cases e
  · rintro acc M' ⟨rfl, a, ha, e, rfl⟩
    have : a = xs.length := by
      have := congrArg List.length e
      simp at this; omega
    subst this
    exact ⟨hs, h2⟩
end
section
variable {g : D → St → Mp → (St → Mp → Prop) → Prop} {tt : St → Mp → (Bool → Mp → Prop) → Prop} {te : St → Mp → (List D → Mp → (List D → Mp → Prop) → Prop)} {still : Mp → Prop} {δ : St} {K : List D → Mp → Prop} {M : Mp}
/-- mapped, behind what stands already -/
theorem compL_mapA {α : Type} (l : List α) (enc : α → D) (f : α → D) (acc0 : List D) (hs : still M)
    (h1 : ∀ a ∈ l, ∀ acc : List D, acc.length < acc0.length + l.length → ∀ k : List D → Mp → Prop, k (acc ++ [f a]) M → g (enc a) δ M fun δ1 M1 => tt δ1 M1 fun b M2 => match b with
      | true => te δ1 M2 acc M2 k
      | false => k acc M2)
    (h2 : K (acc0 ++ l.map f) M) : compL g tt te still δ K (l.map enc) acc0 M := by
  refine compL_inv (I := fun ds acc M' => M' = M ∧ ∃ a, a ≤ l.length ∧ ds = (l.drop a).map enc ∧ acc = acc0 ++ (l.take a).map f) ?_ ?_ _ _ _ ⟨rfl, 0, by omega, by simp, by simp⟩
  · rintro d ds acc M' ⟨rfl, a, ha, e, hacc⟩
    by_cases h : a < l.length
    · rw [List.drop_eq_getElem_cons h, List.map_cons] at e
      obtain ⟨rfl, rfl⟩ := List.cons.inj e
      refine ⟨hs, fun k hk => h1 _ (List.getElem_mem h) acc ?_ k (hk _ _ ⟨rfl, a + 1, h, rfl, ?_⟩)⟩
      · rw [hacc]; simp; omega
      · have e9 : l.take (a + 1) = l.take a ++ [l[a]] := by rw [List.take_succ, List.getElem?_eq_getElem h]; rfl
        rw [e9, hacc, List.map_append, List.append_assoc]; rfl
    · rw [List.drop_of_length_le (by omega)] at e; cases e
  · rintro acc M' ⟨rfl, a, ha, e, hacc⟩
    have : a = l.length := by
      have := congrArg List.length e
      simp at this; omega
    subst this
    rw [List.take_length] at hacc
    exact ⟨hs, by rw [hacc]; exact h2⟩
theorem compL_mapAD (xs : List D) (f : D → D) (acc0 : List D) (hs : still M)
    (h1 : ∀ a ∈ xs, ∀ acc : List D, acc.length < acc0.length + xs.length → ∀ k : List D → Mp → Prop, k (acc ++ [f a]) M → g a δ M fun δ1 M1 => tt δ1 M1 fun b M2 => match b with
      | true => te δ1 M2 acc M2 k
      | false => k acc M2)
    (h2 : K (acc0 ++ xs.map f) M) : compL g tt te still δ K xs acc0 M := by
  have := compL_mapA (g := g) (tt := tt) (te := te) (δ := δ) (K := K) xs id f acc0 hs h1 h2
  rwa [List.map_id] at this
/-- each item gives some -/
theorem compL_flat {α : Type} (l : List α) (enc : α → D) (f : α → List D) (hs : still M)
    (h1 : ∀ j a, l[j]? = some a → j < l.length → ∀ acc : List D, acc = (l.take j).flatMap f → ∀ k : List D → Mp → Prop, k (acc ++ f a) M → g (enc a) δ M fun δ1 M1 => tt δ1 M1 fun b M2 => match b with
      | true => te δ1 M2 acc M2 k
      | false => k acc M2)
    (h2 : K (l.flatMap f) M) : compL g tt te still δ K (l.map enc) [] M := by
  refine compL_inv (I := fun ds acc M' => M' = M ∧ ∃ a, a ≤ l.length ∧ ds = (l.drop a).map enc ∧ acc = (l.take a).flatMap f) ?_ ?_ _ _ _ ⟨rfl, 0, by omega, by simp, by simp⟩
  · rintro d ds acc M' ⟨rfl, a, ha, e, hacc⟩
    by_cases h : a < l.length
    · rw [List.drop_eq_getElem_cons h, List.map_cons] at e
      obtain ⟨rfl, rfl⟩ := List.cons.inj e
      refine ⟨hs, fun k hk => h1 a _ (List.getElem?_eq_getElem h) h acc hacc k (hk _ _ ⟨rfl, a + 1, h, rfl, ?_⟩)⟩
      have e9 : l.take (a + 1) = l.take a ++ [l[a]] := by rw [List.take_succ, List.getElem?_eq_getElem h]; rfl
      rw [e9, hacc, List.flatMap_append]
      simp only [List.flatMap_cons, List.flatMap_nil, List.append_nil]
    · rw [List.drop_of_length_le (by omega)] at e; cases e
  · rintro acc M' ⟨rfl, a, ha, e, hacc⟩
    have : a = l.length := by
      have := congrArg List.length e
      simp at this; omega
    subst this
    rw [List.take_length] at hacc
    exact ⟨hs, by rw [hacc]; exact h2⟩
theorem flatMap_len {α : Type} {f : α → List D} {b : Nat} : ∀ {l : List α}, (∀ a ∈ l, (f a).length ≤ b) → (l.flatMap f).length ≤ l.length * b
  | [], _ => by simp
  | a :: l, h => by
    have ih := flatMap_len (l := l) fun x hx => h x (List.mem_cons_of_mem _ hx)
    have := h a (List.mem_cons_self ..)
    rw [List.flatMap_cons, List.length_append, List.length_cons, Nat.add_mul, Nat.one_mul]
    omega
end
end Pw
set_option Elab.async false
set_option linter.all false
set_option maxRecDepth 100000
set_option maxHeartbeats 1000000
/-! changeable rows (of any data) in a changeable list -/
namespace Pw
open PySem PySem.Spec PyProof.Rows L2
structure RowsP (M M' : Mp) (qs : List Addr) (rows : List (List D)) : Prop where
  hl : qs.length = rows.length
  nd : qs.Nodup
  at_ : ∀ (i : Nat) (q : Addr) (r : List D), qs[i]? = some q → rows[i]? = some r → M' q = some (.lst r)
  nw : ∀ q ∈ qs, M q = none
  sub : Sub M M'
structure RowsG (M M' : Mp) (p : Addr) (qs : List Addr) (rows : List (List D)) : Prop extends RowsP M M' qs rows where
  hp : M' p = some (.lst (qs.map D.ref))
  hn : M p = none
  np : p ∉ qs
theorem RowsP.free {M M' : Mp} {qs : List Addr} {rows : List (List D)} (h : RowsP M M' qs rows) {q : Addr} (hq : M' q = none) : M q = none ∧ q ∉ qs := by
  refine ⟨?_, fun hm => ?_⟩
  · cases z : M q with
    | none => rfl
    | some x => rw [h.sub _ _ z] at hq; cases hq
  · obtain ⟨i, hi, e⟩ := List.mem_iff_getElem.mp hm
    have hi' : i < rows.length := by rw [← h.hl]; exact hi
    have := h.at_ i q _ (by rw [List.getElem?_eq_getElem hi, e]) (List.getElem?_eq_getElem hi')
    rw [hq] at this; cases this
theorem RowsP.lay {M M' : Mp} {qs : List Addr} {rows : List (List D)} (h : RowsP M M' qs rows) {p : Addr} (hp : M' p = none) : RowsG M (up M' p (.lst (qs.map D.ref))) p qs rows where
  hl := h.hl
  nd := h.nd
  at_ := fun i q r h1 h2 => by
    have : q ≠ p := fun z => (h.free hp).2 (z ▸ List.mem_of_getElem? h1)
    rw [up_ne this]; exact h.at_ i q r h1 h2
  nw := h.nw
  sub := h.sub.up2 (h.free hp).1
  hp := up_same
  hn := (h.free hp).1
  np := (h.free hp).2
theorem mapP_rowsG {M : Mp} {n : Nat} : ∀ {qs : List Addr} {rows : List (List D)}, qs.length = rows.length → (∀ (i : Nat) (q : Addr) (r : List D), qs[i]? = some q → rows[i]? = some r → M q = some (.lst r)) → (∀ r ∈ rows, ∀ d ∈ r, isD true d 30 = true) →
    mapP (settle M (n + 2)) (qs.map D.ref) = some (rows.map D.lst, qs)
  | [], [], _, _, _ => rfl
  | q :: qs, r :: rows, hl, h, hd => by
    have h0 := h 0 q r rfl rfl
    have ih := mapP_rowsG (M := M) (n := n) (qs := qs) (rows := rows) (by simpa using hl) (fun i q' r' h1 h2 => h (i + 1) q' r' (by simpa using h1) (by simpa using h2)) fun r hr => hd r (List.mem_cons_of_mem _ hr)
    rw [List.map_cons, mapP, settle_ref h0 (hd r (List.mem_cons_self ..)), ih]
    rfl
  | [], _ :: _, h, _, _ => by simp at h
  | _ :: _, [], h, _, _ => by simp at h
theorem RowsG.settle {M M' : Mp} {p : Addr} {qs : List Addr} {rows : List (List D)} (h : RowsG M M' p qs rows) (hd : ∀ r ∈ rows, ∀ d ∈ r, isD true d 30 = true) : settle M' 8 (.ref p) = some (.lst (rows.map D.lst), p :: qs) := by
  show Pw.settle M' (7 + 1) (.ref p) = _
  unfold Pw.settle
  have : isD true (.ref p) 30 = false := by simp [isD]
  rw [this]
  simp only [h.hp, mapP_rowsG (M := M') (n := 5) h.hl h.at_ hd]
  rfl
/-- one row is changed -/
theorem RowsG.put {M M' : Mp} {p : Addr} {qs : List Addr} {rows : List (List D)} (h : RowsG M M' p qs rows) {i : Nat} {q : Addr} {r : List D} (hq : qs[i]? = some q) : RowsG M (up M' q (.lst r)) p qs (rows.set i r) where
  hp := by
    have : p ≠ q := fun z => h.np (z ▸ List.mem_of_getElem? hq)
    rw [up_ne this]; exact h.hp
  hn := h.hn
  hl := by rw [List.length_set]; exact h.hl
  nd := h.nd
  np := h.np
  at_ := fun j q' r' h1 h2 => by
    rw [List.getElem?_set] at h2
    by_cases c : i = j
    · subst c
      rw [hq] at h1
      obtain rfl := Option.some.inj h1
      rw [if_pos rfl] at h2
      split at h2
      · obtain rfl := Option.some.inj h2
        exact up_same
      · cases h2
    · rw [if_neg c] at h2
      have hne : q' ≠ q := fun z => by
        subst z
        exact c ((List.getElem?_inj (List.getElem?_eq_some_iff.mp hq).1 h.nd).mp (hq.trans h1.symm))
      rw [up_ne hne]
      exact h.at_ j q' r' h1 h2
  nw := h.nw
  sub := h.sub.up2 (h.nw q (List.mem_of_getElem? hq))
theorem RowsG.get {M M' : Mp} {p : Addr} {qs : List Addr} {rows : List (List D)} (h : RowsG M M' p qs rows) {i : Nat} {r : List D} (hr : rows[i]? = some r) : ∃ q, qs[i]? = some q ∧ M' q = some (.lst r) := by
  have hi : i < qs.length := by rw [h.hl]; exact (List.getElem?_eq_some_iff.mp hr).1
  exact ⟨qs[i], List.getElem?_eq_getElem hi, h.at_ i _ r (List.getElem?_eq_getElem hi) hr⟩
/-- what may change nothing more, told and let go: M stands as before -/
theorem RowsG.gone {M M' : Mp} {p : Addr} {qs : List Addr} {rows : List (List D)} (h : RowsG M M' p qs rows) : ∀ a ∈ p :: qs, M a = none := fun a ha => by
  rcases List.mem_cons.mp ha with rfl | ha
  · exact h.hn
  · exact h.nw a ha
section
variable {g : D → St → Mp → (St → Mp → Prop) → Prop} {tt : St → Mp → (Bool → Mp → Prop) → Prop} {te : St → Mp → (List D → Mp → (List D → Mp → Prop) → Prop)} {δ : St} {K : List D → Mp → Prop} {M : Mp}
/-- a list of new changeable rows -/
theorem compL_rowsG (rows : List (List D)) (enc : List D → D)
    (h1 : ∀ r ∈ rows, ∀ (M' : Mp) (acc : List D) (k : List D → Mp → Prop), (∀ q, M' q = none → k (acc ++ [.ref q]) (up M' q (.lst r))) → g (enc r) δ M' fun δ1 M1 => tt δ1 M1 fun b M2 => match b with
      | true => te δ1 M2 acc M2 k
      | false => k acc M2)
    (h2 : ∀ qs M', RowsP M M' qs rows → K (qs.map D.ref) M') : compL g tt te (fun _ => True) δ K (rows.map enc) [] M := by
  refine compL_inv (I := fun ds acc M' => ∃ a qs, a ≤ rows.length ∧ ds = (rows.drop a).map enc ∧ acc = qs.map D.ref ∧ RowsP M M' qs (rows.take a)) ?_ ?_ _ _ _ ⟨0, [], by omega, by simp, rfl, ⟨rfl, by simp, fun i q r h => by simp at h, by simp, Sub.refl⟩⟩
  · rintro d ds acc M' ⟨a, qs, ha, e, rfl, hP⟩
    by_cases h : a < rows.length
    · rw [List.drop_eq_getElem_cons h, List.map_cons] at e
      obtain ⟨rfl, rfl⟩ := List.cons.inj e
      refine ⟨trivial, fun k hk => h1 _ (List.getElem_mem h) M' _ k fun q hq => hk _ _ ⟨a + 1, qs ++ [q], h, rfl, by simp, ?_⟩⟩
      obtain ⟨n1, n2⟩ := hP.free hq
      have e9 : rows.take (a + 1) = rows.take a ++ [rows[a]] := by rw [List.take_succ, List.getElem?_eq_getElem h]; rfl
      have hql : qs.length = (rows.take a).length := hP.hl
      refine ⟨by rw [e9, List.length_append, List.length_append, hql]; rfl, ?_, fun i q' r h3 h4 => ?_, fun q' hq' => ?_, hP.sub.up2 n1⟩
      · rw [List.nodup_append]
        refine ⟨hP.nd, by simp, fun x hx y hy => ?_⟩
        rw [List.mem_singleton.mp hy]
        exact fun z => n2 (z ▸ hx)
      · rw [e9] at h4
        by_cases c : i < qs.length
        · rw [List.getElem?_append_left c] at h3
          rw [List.getElem?_append_left (by omega)] at h4
          have : q' ≠ q := fun z => n2 (z ▸ List.mem_of_getElem? h3)
          rw [up_ne this]
          exact hP.at_ i q' r h3 h4
        · rw [List.getElem?_append_right (by omega)] at h3 h4
          have hi : i - qs.length = 0 := by
            have := (List.getElem?_eq_some_iff.mp h3).1
            simp at this; omega
          rw [hi] at h3
          rw [← hql, hi] at h4
          simp at h3 h4
          subst h3 h4
          exact up_same
      · rcases List.mem_append.mp hq' with hq' | hq'
        · exact hP.nw q' hq'
        · rw [List.mem_singleton.mp hq']; exact n1
    · rw [List.drop_of_length_le (by omega)] at e; cases e
  · rintro acc M' ⟨a, qs, ha, e, rfl, hP⟩
    have : a = rows.length := by
      have := congrArg List.length e
      simp at this; omega
    subst this
    rw [List.take_length] at hP
    exact ⟨trivial, h2 qs M' hP⟩
/-- a list of new changeable rows, by places -/
theorem compL_rowsJ (xs : List D) (rows : List (List D)) (hxl : xs.length = rows.length)
     (h1 : ∀ (i : Nat) (d : D) (r : List D), xs[i]? = some d → rows[i]? = some r → ∀ (M' : Mp) (acc : List D) (k : List D → Mp → Prop), (∀ q, M' q = none → k (acc ++ [.ref q]) (up M' q (.lst r))) → g d δ M' fun δ1 M1 => tt δ1 M1 fun b M2 => match b with
      | true => te δ1 M2 acc M2 k
      | false => k acc M2)
    (h2 : ∀ qs M', RowsP M M' qs rows → K (qs.map D.ref) M') : compL g tt te (fun _ => True) δ K xs [] M := by
  refine compL_inv (I := fun ds acc M' => ∃ a qs, a ≤ rows.length ∧ ds = xs.drop a ∧ acc = qs.map D.ref ∧ RowsP M M' qs (rows.take a)) ?_ ?_ _ _ _ ⟨0, [], by omega, by simp, rfl, ⟨rfl, by simp, fun i q r h => by simp at h, by simp, Sub.refl⟩⟩
  · rintro d ds acc M' ⟨a, qs, ha, e, rfl, hP⟩
    by_cases h : a < rows.length
    · have hx : a < xs.length := by omega
      rw [List.drop_eq_getElem_cons hx] at e
      obtain ⟨rfl, rfl⟩ := List.cons.inj e
      refine ⟨trivial, fun k hk => h1 a _ _ (List.getElem?_eq_getElem hx) (List.getElem?_eq_getElem h) M' _ k fun q hq => hk _ _ ⟨a + 1, qs ++ [q], h, rfl, by simp, ?_⟩⟩
      obtain ⟨n1, n2⟩ := hP.free hq
      have e9 : rows.take (a + 1) = rows.take a ++ [rows[a]] := by rw [List.take_succ, List.getElem?_eq_getElem h]; rfl
      have hql : qs.length = (rows.take a).length := hP.hl
      refine ⟨by rw [e9, List.length_append, List.length_append, hql]; rfl, ?_, fun i q' r h3 h4 => ?_, fun q' hq' => ?_, hP.sub.up2 n1⟩
      · rw [List.nodup_append]
        refine ⟨hP.nd, by simp, fun x hx y hy => ?_⟩
        rw [List.mem_singleton.mp hy]
        exact fun z => n2 (z ▸ hx)
      · rw [e9] at h4
        by_cases c : i < qs.length
        · rw [List.getElem?_append_left c] at h3
          rw [List.getElem?_append_left (by omega)] at h4
          have : q' ≠ q := fun z => n2 (z ▸ List.mem_of_getElem? h3)
          rw [up_ne this]
          exact hP.at_ i q' r h3 h4
        · rw [List.getElem?_append_right (by omega)] at h3 h4
          have hi : i - qs.length = 0 := by
            have := (List.getElem?_eq_some_iff.mp h3).1
            simp at this; omega
          rw [hi] at h3
          rw [← hql, hi] at h4
          simp at h3 h4
          subst h3 h4
          exact up_same
      · rcases List.mem_append.mp hq' with hq' | hq'
        · exact hP.nw q' hq'
        · rw [List.mem_singleton.mp hq']; exact n1
    · rw [List.drop_of_length_le (by omega)] at e; cases e
  · rintro acc M' ⟨a, qs, ha, e, rfl, hP⟩
    have : a = rows.length := by
      have := congrArg List.length e
      simp at this; omega
    subst this
    rw [List.take_length] at hP
    exact ⟨trivial, h2 qs M' hP⟩
end
/-- the base changes at a place that stood before -/
theorem RowsG.base {M M' : Mp} {p : Addr} {qs : List Addr} {rows : List (List D)} (h : RowsG M M' p qs rows) {b : Addr} {o o' : DO} (hb : M b = some o) : RowsG (up M b o') (up M' b o') p qs rows where
  hl := h.hl
  nd := h.nd
  np := h.np
  at_ := fun i q r h1 h2 => by
    have : q ≠ b := fun z => by
      have := h.nw q (List.mem_of_getElem? h1)
      rw [z, hb] at this; cases this
    rw [up_ne this]; exact h.at_ i q r h1 h2
  nw := fun q hq => by
    have : q ≠ b := fun z => by
      have := h.nw q hq
      rw [z, hb] at this; cases this
    rw [up_ne this]; exact h.nw q hq
  sub := h.sub.upup
  hp := by
    have : p ≠ b := fun z => by have := h.hn; rw [z, hb] at this; cases this
    rw [up_ne this]; exact h.hp
  hn := by
    have : p ≠ b := fun z => by have := h.hn; rw [z, hb] at this; cases this
    rw [up_ne this]; exact h.hn
/-- a new row at the end -/
theorem RowsG.push {M M' : Mp} {p : Addr} {qs : List Addr} {rows : List (List D)} (h : RowsG M M' p qs rows) {q : Addr} {r : List D} (hq : M' q = none) : RowsG M (up (up M' q (.lst r)) p (.lst ((qs ++ [q]).map D.ref))) p (qs ++ [q]) (rows ++ [r]) := by
  obtain ⟨n1, n2⟩ := h.toRowsP.free hq
  have hqp : q ≠ p := fun z => by rw [z, h.hp] at hq; cases hq
  refine { hl := by simp [h.hl], nd := ?_, at_ := fun i q' r' h1 h2 => ?_, nw := fun q' hq' => ?_, sub := (h.sub.up2 n1).up2 h.hn, hp := up_same, hn := h.hn, np := fun hm => ?_ }
  · rw [List.nodup_append]
    refine ⟨h.nd, by simp, fun x hx y hy => ?_⟩
    rw [List.mem_singleton.mp hy]
    exact fun z => n2 (z ▸ hx)
  · by_cases c : i < qs.length
    · rw [List.getElem?_append_left c] at h1
      rw [List.getElem?_append_left (by rw [← h.hl]; exact c)] at h2
      have hm := List.mem_of_getElem? h1
      have e1 : q' ≠ p := fun z => h.np (z ▸ hm)
      have e2 : q' ≠ q := fun z => n2 (z ▸ hm)
      rw [up_ne e1, up_ne e2]
      exact h.at_ i q' r' h1 h2
    · rw [List.getElem?_append_right (by omega)] at h1
      rw [List.getElem?_append_right (by rw [← h.hl]; omega)] at h2
      have hi : i - qs.length = 0 := by
        have := (List.getElem?_eq_some_iff.mp h1).1
        simp at this; omega
      rw [hi] at h1
      rw [← h.hl, hi] at h2
      simp at h1 h2
      subst h1 h2
      rw [up_ne hqp]; exact up_same
  · rcases List.mem_append.mp hq' with hq' | hq'
    · exact h.nw q' hq'
    · rw [List.mem_singleton.mp hq']; exact n1
  · rcases List.mem_append.mp hm with hm | hm
    · exact h.np hm
    · exact hqp (List.mem_singleton.mp hm).symm
end Pw
set_option Elab.async false
set_option linter.all false
set_option maxRecDepth 100000
set_option maxHeartbeats 1000000
namespace Pw
open PySem PySem.Spec PyProof.Rows L2
/-! ### entries, columns -/
def isInt : D → Bool
  | .int _ => true
  | _ => false
def inR (d : D) (lo hi : Int) : Bool := match d with
  | .int i => decide (lo ≤ i) && decide (i ≤ hi)
  | _ => false
abbrev TOP : Int := 1000000000000000000000000000000
def isEnt (d : D) : Bool := inR d (-TOP) TOP
def isCol (d : D) : Bool := match d with
  | .tup xs => decide (1 ≤ xs.length) && decide (xs.length ≤ 60) && xs.all isEnt
  | _ => false
theorem isD_of_mem {w : Bool} {n : Nat} : ∀ {xs : List D}, isDs w xs n = true → ∀ x ∈ xs, isD w x n = true
  | [], _, x, h => by cases h
  | y :: ys, e, x, h => by
    simp only [isDs, Bool.and_eq_true] at e
    rcases List.mem_cons.mp h with rfl | h
    · exact e.1
    · exact isD_of_mem e.2 x h
mutual
theorem isD_up {w : Bool} : ∀ (d : D) (n : Nat), isD w d n = true → isD w d (n + 1) = true
  | .tup ds, n, h => by
    cases n with
    | zero => simp [isD] at h
    | succ n => simp only [isD] at h ⊢; exact isDs_up ds n h
  | .lst ds, n, h => by
    cases n with
    | zero => simp [isD] at h
    | succ n => simp only [isD] at h ⊢; exact isDs_up ds n h
  | .dic ds, n, h => by
    cases n with
    | zero => simp [isD] at h
    | succ n =>
      simp only [isD, Bool.and_eq_true] at h ⊢; exact ⟨h.1, isDk_up ds n h.2⟩
  | .non, n, h => by simp [isD]
  | .bl _, n, h => by simp [isD]
  | .int _, n, h => by simp [isD]
  | .str _, n, h => by simp [isD]
  | .ref _, n, h => by simp [isD] at h
  | .ty _, n, h => by simp [isD] at h
  | .exc _, n, h => by simp [isD] at h
  | .scr _, n, h => by simp [isD] at h
theorem isDs_up {w : Bool} : ∀ (ds : List D) (n : Nat), isDs w ds n = true → isDs w ds (n + 1) = true
  | [], n, h => rfl
  | d :: ds, n, h => by
    simp only [isDs, Bool.and_eq_true] at h ⊢; exact ⟨isD_up d n h.1, isDs_up ds n h.2⟩
theorem isDk_up {w : Bool} : ∀ (ds : List (Key × D)) (n : Nat), isDk w ds n = true → isDk w ds (n + 1) = true
  | [], n, h => rfl
  | (k, d) :: ds, n, h => by
    simp only [isDk, Bool.and_eq_true] at h ⊢; exact ⟨isD_up d n h.1, isDk_up ds n h.2⟩
end
theorem isD_see {w : Bool} {n : Nat} {d : D} {M : Mp} (h : isD w d n = true) : see M d = d := by
  cases d <;> simp [isD] at h <;> rfl
theorem blsOf_map {α : Type} {f : α → Bool} : ∀ {xs : List α}, blsOf (xs.map fun x => .bl (f x)) = some (xs.map f)
  | [] => rfl
  | x :: xs => by simp [blsOf, blsOf_map (xs := xs)]
theorem isCol_ints {d : D} (h : isCol d = true) : ∃ ns : List Int, d = .tup (ns.map D.int) ∧ 1 ≤ ns.length ∧ ns.length ≤ 60 ∧ ∀ i ∈ ns, -TOP ≤ i ∧ i ≤ TOP := by
  cases d <;> simp [isCol] at h
  rename_i xs
  obtain ⟨⟨h1, h2⟩, h3⟩ := h
  have key : ∀ xs : List D, (∀ x ∈ xs, isEnt x = true) → ∃ ns : List Int, xs = ns.map D.int ∧ ∀ i ∈ ns, -TOP ≤ i ∧ i ≤ TOP := by
    intro xs
    induction xs with
    | nil => intro _; exact ⟨[], rfl, by simp⟩
    | cons x xs ih =>
      intro h
      obtain ⟨ns, e, hn⟩ := ih fun y hy => h y (List.mem_cons_of_mem _ hy)
      have hx := h x (List.mem_cons_self ..)
      cases x <;> simp [isEnt, inR] at hx
      rename_i i
      exact ⟨i :: ns, by simp [e], by simp; exact ⟨hx, hn⟩⟩
  obtain ⟨ns, rfl, hn⟩ := key xs h3
  exact ⟨ns, rfl, by simpa using h1, by simpa using h2, hn⟩
/-! ### stairs -/
def okAt (pre : List Int) (e : Int) : Bool := decide (0 ≤ e) && (decide (e ≤ 0) || decide (pre.count e + 1 ≤ pre.count (e - 1)))
def stairFrom (pre : List Int) : List Int → Bool
  | [] => true
  | e :: r => okAt pre e && stairFrom (pre ++ [e]) r
def isStairI (ns : List Int) : Bool := stairFrom [] ns
def isStairD (d : D) : Bool := isCol d && (match d with
  | .tup xs => (match intsOf xs with
    | some ns => isStairI ns
    | none => false)
  | _ => false)
theorem intsOf_map : ∀ {ns : List Int}, intsOf (ns.map D.int) = some ns
  | [] => rfl
  | n :: ns => by simp [intsOf, intOf, intsOf_map (ns := ns)]
def tots (pre : List Int) (L : Nat) : List D := (List.range L).map fun (v : Nat) => .int ((pre.count (v : Int) : Nat) : Int)
def AntiC (pre : List Int) (L : Nat) : Prop := (∀ v : Nat, L ≤ v → pre.count (v : Int) = 0) ∧ ∀ v : Nat, pre.count ((v : Int) + 1) ≤ pre.count (v : Int)
theorem tots_length {pre : List Int} {L : Nat} : (tots pre L).length = L := by simp [tots]
theorem tots_get {pre : List Int} {L k : Nat} (h : k < L) : (tots pre L)[k]? = some (.int ((pre.count (k : Int) : Nat) : Int)) := by simp [tots, h]
@[simp] theorem tots_getE {pre : List Int} {L k : Nat} (h : k < (tots pre L).length) : (tots pre L)[k] = .int ((pre.count (k : Int) : Nat) : Int) := by simp [tots]
theorem tots_snoc {pre : List Int} {L : Nat} (h : AntiC pre L) : tots pre L ++ [.int 0] = tots pre (L + 1) := by
  unfold tots
  rw [List.range_succ, List.map_append]
  simp [h.1 L (Nat.le_refl _)]
theorem tots_set {pre : List Int} {L k : Nat} (h : k < L) : (tots pre L).set k (.int (((pre.count (k : Int) : Nat) : Int) + 1)) = tots (pre ++ [(k : Int)]) L := by
  apply List.ext_getElem?
  intro i
  rw [List.getElem?_set]
  by_cases hi : i < L
  · rw [tots_get hi, tots_get hi, tots_length]
    by_cases hk : k = i
    · subst hk
      simp [h, List.count_append]
    · have : ¬ (k : Int) = (i : Int) := by omega
      simp [hk, List.count_append, List.count_cons, this]
  · have e1 : (tots pre L)[i]? = none := List.getElem?_eq_none (by rw [tots_length]; omega)
    have e2 : (tots (pre ++ [(k : Int)]) L)[i]? = none := List.getElem?_eq_none (by rw [tots_length]; omega)
    rw [e1, e2]
    split
    · rename_i hk
      subst hk; omega
    · rfl
theorem antiC_snoc {pre : List Int} {L' j : Nat} (hj : j < L') (hA' : AntiC pre L') (ho : okAt pre j = true) : AntiC (pre ++ [(j : Int)]) L' := by
  refine ⟨fun v hv => ?_, fun v => ?_⟩
  · have := hA'.1 v hv
    have e3 : ¬ (j : Int) = v := by omega
    simp [List.count_append, List.count_cons, this, e3]
  · have h3 := hA'.2 v
    simp only [List.count_append, List.count_cons, List.count_nil]
    by_cases hv : (j : Int) = (v : Int) + 1
    · unfold okAt at ho
      have e4 : ¬ (j : Int) ≤ 0 := by omega
      have e5 : (v : Int) + 1 - 1 = v := by omega
      simp [hv, e4, e5] at ho
      have h5 : ¬ (v : Int) + 1 ≤ 0 := by omega
      have := ho.2.resolve_left h5
      simp [hv]
      omega
    · simp [hv]
      omega
theorem stairFrom_snoc {e : Int} : ∀ {r pre : List Int}, stairFrom pre (r ++ [e]) = (stairFrom pre r && okAt (pre ++ r) e)
  | [], pre => by simp [stairFrom]
  | x :: r, pre => by simp [stairFrom, stairFrom_snoc (r := r), Bool.and_assoc]
theorem stairFrom_bound : ∀ {r pre : List Int}, stairFrom pre r = true → (∀ i ∈ pre, 0 ≤ i ∧ i < pre.length) → ∀ i ∈ pre ++ r, 0 ≤ i ∧ i < (pre ++ r).length
  | [], pre, _, h => by simpa using h
  | e :: r, pre, h, hp => by
    simp only [stairFrom, Bool.and_eq_true] at h
    obtain ⟨ho, hr⟩ := h
    have e1 : pre ++ e :: r = (pre ++ [e]) ++ r := by simp
    rw [e1]
    refine stairFrom_bound hr fun i hi => ?_
    rw [List.length_append]
    rcases List.mem_append.mp hi with hi | hi
    · have := hp i hi
      simp; omega
    · have := List.mem_singleton.mp hi
      subst this
      unfold okAt at ho
      simp only [Bool.and_eq_true, Bool.or_eq_true, decide_eq_true_eq] at ho
      rcases ho.2 with h0 | h0
      · simp; omega
      · have hm : i - 1 ∈ pre := List.count_pos_iff.mp (by omega)
        have := hp _ hm
        simp; omega
theorem stair_bound {ns : List Int} (h : isStairI ns = true) : ∀ i ∈ ns, 0 ≤ i ∧ i < ns.length := by
  have := stairFrom_bound (pre := []) h (by simp)
  simpa using this
end Pw
set_option Elab.async false
set_option linter.all false
set_option maxRecDepth 100000
set_option maxHeartbeats 1000000
namespace Pw
open PySem PySem.Spec PyProof.Rows L2
def ColI (ns : List Int) : Prop := 1 ≤ ns.length ∧ ns.length ≤ 60 ∧ ∀ i ∈ ns, -TOP ≤ i ∧ i ≤ TOP
theorem isCol_ints_of {ns : List Int} (h : ColI ns) : isCol (.tup (ns.map D.int)) = true := by
  obtain ⟨h1, h2, h3⟩ := h
  simp [isCol, h1, h2]
  intro i hi
  have := h3 i hi
  simp [isEnt, inR, this]
theorem isD_tup_ints {w : Bool} {ns : List Int} : isD w (.tup (ns.map D.int)) 30 = true := by simp
theorem V0_of_top {ns : List Int} (h : ∀ i ∈ ns, -TOP ≤ i ∧ i ≤ TOP) : ∀ d ∈ ns.map D.int, V0 d := V0_map fun i hi => by
  have := h i hi
  unfold TOP at this
  omega
theorem ColI.v1 {ns : List Int} (h : ColI ns) : V1 (.tup (ns.map D.int)) := V1_tup (V0_of_top h.2.2) (by simp; have := h.2.1; omega)
end Pw
set_option Elab.async false
set_option linter.all false
set_option maxRecDepth 100000
set_option maxHeartbeats 1000000
/-! running counts -/
namespace Pw
open PySem PySem.Spec PyProof.Rows L2
def rcF (pre : List Int) : List Int → List Int
  | [] => []
  | e :: r => ((pre.count e : Nat) : Int) :: rcF (pre ++ [e]) r
def rc (ns : List Int) : List Int := rcF [] ns
theorem rcF_length : ∀ {ns pre : List Int}, (rcF pre ns).length = ns.length
  | [], _ => rfl
  | e :: r, pre => by simp [rcF, rcF_length (ns := r)]
@[simp] theorem rc_length {ns : List Int} : (rc ns).length = ns.length := rcF_length
theorem rcF_app {b : List Int} : ∀ {a pre : List Int}, rcF pre (a ++ b) = rcF pre a ++ rcF (pre ++ a) b
  | [], pre => by simp [rcF]
  | e :: a, pre => by simp [rcF, rcF_app (a := a)]
theorem rc_snoc {pre : List Int} {e : Int} : rc (pre ++ [e]) = rc pre ++ [((pre.count e : Nat) : Int)] := by
  unfold rc; rw [rcF_app]; simp [rcF]
theorem rc_app {a b : List Int} : rc (a ++ b) = rc a ++ rcF a b := by
  unfold rc; rw [rcF_app]; simp
theorem count_map_inj {f : Int → Int} {e : Int} : ∀ {l : List Int}, (∀ x ∈ l, f x = f e → x = e) → (l.map f).count (f e) = l.count e
  | [], _ => rfl
  | a :: l, h => by
    have ih := count_map_inj (f := f) (e := e) (l := l) fun x hx => h x (List.mem_cons_of_mem _ hx)
    rw [List.map_cons, List.count_cons, List.count_cons, ih]
    by_cases c : a = e
    · subst c; simp
    · have : ¬ f a = f e := fun z => c (h a (List.mem_cons_self ..) z)
      simp [c, this]
theorem rcF_map {f : Int → Int} : ∀ {ns pre : List Int}, (∀ x ∈ pre ++ ns, ∀ y ∈ pre ++ ns, f x = f y → x = y) → rcF (pre.map f) (ns.map f) = rcF pre ns
  | [], _, _ => rfl
  | e :: r, pre, h => by
    rw [List.map_cons, rcF, rcF, count_map_inj fun x hx => h x (by simp [hx]) e (by simp)]
    have := rcF_map (f := f) (ns := r) (pre := pre ++ [e]) (by simpa using h)
    rw [List.map_append] at this
    rw [show pre.map f ++ [f e] = pre.map f ++ [e].map f from rfl, this]
theorem rc_map {f : Int → Int} {ns : List Int} (h : ∀ x ∈ ns, ∀ y ∈ ns, f x = f y → x = y) : rc (ns.map f) = rc ns := rcF_map (pre := []) (by simpa using h)
theorem rc_take {ns : List Int} {k : Nat} : rc (ns.take k) = (rc ns).take k := by
  have h : rc ns = rc (ns.take k) ++ rcF (ns.take k) (ns.drop k) := by rw [← rc_app, List.take_append_drop]
  have hl : (rc (ns.take k)).length = min k ns.length := by simp
  by_cases c : k ≤ ns.length
  · rw [h, List.take_append_of_le_length (by rw [hl]; omega)]
    exact (List.take_of_length_le (by rw [hl]; omega)).symm
  · rw [List.take_of_length_le (l := ns) (by omega), List.take_of_length_le (l := rc ns) (by simp; omega)]
theorem rc_get {ns : List Int} {k : Nat} {e : Int} (h : ns[k]? = some e) : (rc ns)[k]? = some (((ns.take k).count e : Nat) : Int) := by
  have hk := (List.getElem?_eq_some_iff.mp h).1
  have e1 : ns = ns.take k ++ e :: ns.drop (k + 1) := by
    have := List.getElem?_eq_some_iff.mp h
    obtain ⟨_, rfl⟩ := this
    simp
  have e2 : rc ns = rc (ns.take k) ++ rcF (ns.take k) (e :: ns.drop (k + 1)) := by rw [← rc_app, ← e1]
  have hl : (rc (ns.take k)).length = k := by simp; omega
  rw [e2, List.getElem?_append_right (by omega), hl]
  simp [rcF]
theorem rc_mem {ns : List Int} {i : Int} (h : i ∈ rc ns) : 0 ≤ i ∧ i < ns.length := by
  obtain ⟨k, hk, rfl⟩ := List.getElem_of_mem h
  have hk' : k < ns.length := by simpa using hk
  have := rc_get (List.getElem?_eq_getElem hk')
  rw [List.getElem?_eq_getElem hk] at this
  rw [Option.some.inj this]
  have h1 : (ns.take k).count ns[k] ≤ k := by
    have := List.count_le_length (a := ns[k]) (l := ns.take k)
    simp at this; omega
  omega
theorem rc_colI {ns : List Int} (h : ColI ns) : ColI (rc ns) := ⟨by simpa using h.1, by simpa using h.2.1, fun i hi => by
  have h1 := rc_mem hi
  have h2 := h.2.1
  unfold TOP
  omega⟩
/-- the numbers of different entries that occur more than v times -/
theorem countP_upd {p q : Int → Bool} {e : Int} : ∀ {U : List Int}, U.Nodup → (∀ x ∈ U, x ≠ e → p x = q x) → U.countP q + (if e ∈ U ∧ p e = true then 1 else 0) = U.countP p + (if e ∈ U ∧ q e = true then 1 else 0)
  | [], _, _ => by simp
  | a :: U, hn, h => by
    rw [List.nodup_cons] at hn
    have ih := countP_upd (p := p) (q := q) (e := e) (U := U) hn.2 fun x hx => h x (List.mem_cons_of_mem _ hx)
    rw [List.countP_cons, List.countP_cons]
    by_cases c : a = e
    · subst c
      have : ¬ a ∈ U := hn.1
      simp [this] at ih
      simp [ih]
      cases p a <;> cases q a <;> simp
    · have hp := h a (List.mem_cons_self ..) c
      have c' : ¬ e = a := fun z => c z.symm
      simp [hp, c'] at ih ⊢
      omega
theorem nodup_cover : ∀ ns : List Int, ∃ U : List Int, U.Nodup ∧ ∀ x ∈ ns, x ∈ U
  | [] => ⟨[], by simp, by simp⟩
  | a :: ns => by
    obtain ⟨U, h1, h2⟩ := nodup_cover ns
    by_cases c : a ∈ U
    · exact ⟨U, h1, fun x hx => (List.mem_cons.mp hx).elim (fun e => e ▸ c) (h2 x)⟩
    · exact ⟨a :: U, List.nodup_cons.mpr ⟨c, h1⟩, fun x hx => (List.mem_cons.mp hx).elim (fun e => by simp [e]) fun h => List.mem_cons_of_mem _ (h2 x h)⟩
theorem rev_ind {P : List Int → Prop} (h0 : P []) (h1 : ∀ l e, P l → P (l ++ [e])) (l : List Int) : P l := by
  have : ∀ m : List Int, P m.reverse := by
    intro m
    induction m with
    | nil => exact h0
    | cons a m ih => rw [List.reverse_cons]; exact h1 _ _ ih
  simpa using this l.reverse
theorem rc_count {U : List Int} (hU : U.Nodup) (v : Nat) (ns : List Int) : (∀ x ∈ ns, x ∈ U) → (rc ns).count (v : Int) = U.countP fun x => decide (v < ns.count x) := by
  induction ns using rev_ind with
  | h0 => intro _; simp [rc, rcF]
  | h1 l e ih =>
    intro h
    have he : e ∈ U := h e (by simp)
    have ih := ih fun x hx => h x (by simp [hx])
    have := countP_upd (p := fun x => decide (v < l.count x)) (q := fun x => decide (v < (l ++ [e]).count x)) (e := e) hU fun x _ hx => by
      have : ¬ e = x := fun z => hx z.symm
      simp [List.count_append, List.count_cons, this]
    rw [rc_snoc, List.count_append, ih]
    have e1 : List.count (v : Int) [((l.count e : Nat) : Int)] = if l.count e = v then 1 else 0 := by
      rw [List.count_cons, List.count_nil]
      by_cases c : l.count e = v
      · simp [c]
      · have : ¬ ((l.count e : Nat) : Int) = v := by omega
        simp [c, this]
    rw [e1]
    have e2 : (l ++ [e]).count e = l.count e + 1 := by simp
    simp only [he, e2, true_and, decide_eq_true_eq] at this
    by_cases c1 : v < l.count e
    · have c2 : v < l.count e + 1 := by omega
      have c3 : ¬ l.count e = v := by omega
      simp only [c1, c2, c3, if_true, if_false] at this ⊢
      omega
    · by_cases c3 : l.count e = v
      · have c2 : v < l.count e + 1 := by omega
        rw [if_neg c1, if_pos c2] at this
        rw [if_pos c3]
        omega
      · have c2 : ¬ v < l.count e + 1 := by omega
        simp only [c1, c2, c3, if_false] at this ⊢
        omega
theorem rc_anti {ns : List Int} (v : Nat) : (rc ns).count ((v : Int) + 1) ≤ (rc ns).count (v : Int) := by
  obtain ⟨U, h1, h2⟩ := nodup_cover ns
  have e : (v : Int) + 1 = ((v + 1 : Nat) : Int) := by omega
  rw [e, rc_count h1 _ _ h2, rc_count h1 _ _ h2]
  refine List.countP_mono_left fun x _ h => ?_
  simp at h ⊢; omega
theorem rc_okAt {l : List Int} {e : Int} : okAt (rc l) ((l.count e : Nat) : Int) = true := by
  obtain ⟨U, h1, h2⟩ := nodup_cover (l ++ [e])
  have h3 : ∀ x ∈ l, x ∈ U := fun x hx => h2 x (by simp [hx])
  unfold okAt
  by_cases c : l.count e = 0
  · simp [c]
  · have e1 : ((l.count e : Nat) : Int) - 1 = ((l.count e - 1 : Nat) : Int) := by omega
    have e2 : (0 : Int) ≤ ((l.count e : Nat) : Int) := by omega
    rw [e1, rc_count h1 _ _ h3, rc_count h1 _ _ h3]
    simp only [e2, decide_true, Bool.true_and, Bool.or_eq_true, decide_eq_true_eq]
    right
    have he : e ∈ U := h2 e (by simp)
    have := countP_upd (p := fun x => decide (l.count e < l.count x)) (q := fun x => decide (l.count e < l.count x) || decide (x = e)) (e := e) h1 fun x _ hx => by simp [hx]
    simp [he] at this
    have h4 : U.countP (fun x => decide (l.count e < l.count x) || decide (x = e)) ≤ U.countP fun x => decide (l.count e - 1 < l.count x) := List.countP_mono_left fun x _ h => by
      simp at h ⊢
      rcases h with h | rfl <;> omega
    omega
theorem stairFrom_app : ∀ {r s pre : List Int}, stairFrom pre (r ++ s) = (stairFrom pre r && stairFrom (pre ++ r) s)
  | [], s, pre => by simp [stairFrom]
  | x :: r, s, pre => by simp [stairFrom, stairFrom_app (r := r), Bool.and_assoc]
theorem rc_stair (ns : List Int) : isStairI (rc ns) = true := by
  induction ns using rev_ind with
  | h0 => rfl
  | h1 l e ih =>
    rw [rc_snoc]
    unfold isStairI at ih ⊢
    rw [stairFrom_app, ih]
    simp [stairFrom, rc_okAt]
/-- replaced again and again -/
def rcN : Nat → List Int → List Int
  | 0, ns => ns
  | n + 1, ns => rcN n (rc ns)
theorem rcN_take {k : Nat} : ∀ {n : Nat} {ns : List Int}, rcN n (ns.take k) = (rcN n ns).take k
  | 0, _ => rfl
  | n + 1, ns => by rw [rcN, rcN, rc_take, rcN_take]
theorem rcN_snoc : ∀ {n : Nat} {ns : List Int}, rcN (n + 1) ns = rc (rcN n ns)
  | 0, _ => rfl
  | n + 1, ns => by rw [rcN, rcN_snoc, rcN]
theorem rcN_colI : ∀ {n : Nat} {ns : List Int}, ColI ns → ColI (rcN n ns)
  | 0, _, h => h
  | n + 1, ns, h => rcN_colI (n := n) (rc_colI h)
@[simp] theorem rcN_length : ∀ {n : Nat} {ns : List Int}, (rcN n ns).length = ns.length
  | 0, _ => rfl
  | n + 1, ns => by rw [rcN, rcN_length, rc_length]
theorem rcF_skip : ∀ {r pre pre' : List Int}, (∀ e ∈ r, pre.count e = pre'.count e) → rcF pre r = rcF pre' r
  | [], _, _, _ => rfl
  | e :: r, pre, pre', h => by
    rw [rcF, rcF, h e (List.mem_cons_self ..), rcF_skip (r := r) (pre := pre ++ [e]) (pre' := pre' ++ [e]) fun x hx => by
      rw [List.count_append, List.count_append, h x (List.mem_cons_of_mem _ hx)]]
theorem rc_odd {ns : List Int} {odd : Int} {a : Nat} (h : odd ∉ ns) (ha : a ≤ ns.length) : rc (ns.take a ++ odd :: ns.drop a) = (rc ns).take a ++ 0 :: (rc ns).drop a := by
  have e1 : rc ns = rc (ns.take a) ++ rcF (ns.take a) (ns.drop a) := by rw [← rc_app, List.take_append_drop]
  have hl : (rc (ns.take a)).length = a := by simp; omega
  have e2 : (rc ns).take a = rc (ns.take a) := rc_take.symm
  have e3 : (rc ns).drop a = rcF (ns.take a) (ns.drop a) := by
    rw [e1, List.drop_append_of_le_length (by omega), List.drop_of_length_le (by omega), List.nil_append]
  rw [rc_app, e2, e3, rcF]
  have h0 : (ns.take a).count odd = 0 := List.count_eq_zero.mpr fun z => h (List.mem_of_mem_take z)
  rw [h0]
  congr 2
  refine rcF_skip fun e he => ?_
  have : ¬ odd = e := fun z => h (z ▸ List.mem_of_mem_drop he)
  simp [List.count_append, List.count_cons, this]
end Pw
set_option Elab.async false
set_option linter.all false
set_option maxRecDepth 100000
set_option maxHeartbeats 1000000
/-! places by entries -/
namespace Pw
open PySem PySem.Spec PyProof.Rows L2
def rowF (l : List Int) (v : Int) : List Int := (l.zipIdx.filter fun p => decide (p.1 = v)).map fun p => ((p.2 : Nat) : Int)
theorem rowF_snoc {l : List Int} {e v : Int} : rowF (l ++ [e]) v = rowF l v ++ if e = v then [(l.length : Int)] else [] := by
  unfold rowF
  rw [List.zipIdx_append, List.filter_append, List.map_append]
  congr 1
  by_cases c : e = v <;> simp [c]
theorem rowF_app {b : List Int} {v : Int} : ∀ {a : List Int}, ∃ r : List Int, rowF (a ++ b) v = rowF a v ++ r ∧ ∀ i ∈ r, (a.length : Int) ≤ i := by
  intro a
  induction b using rev_ind with
  | h0 => exact ⟨[], by simp, by simp⟩
  | h1 l e ih =>
    obtain ⟨r, h1, h2⟩ := ih
    refine ⟨r ++ if e = v then [((a ++ l).length : Int)] else [], by rw [← List.append_assoc, rowF_snoc, h1, List.append_assoc], fun i hi => ?_⟩
    rcases List.mem_append.mp hi with hi | hi
    · exact h2 i hi
    · split at hi
      · rw [List.mem_singleton.mp hi]; simp; try omega
      · cases hi
theorem rowF_lt {v : Int} {l : List Int} : ∀ i ∈ rowF l v, 0 ≤ i ∧ i < l.length := by
  induction l using rev_ind with
  | h0 => simp [rowF]
  | h1 l e ih =>
    intro i hi
    rw [rowF_snoc] at hi
    rcases List.mem_append.mp hi with hi | hi
    · have := ih i hi
      simp; omega
    · split at hi
      · rw [List.mem_singleton.mp hi]; simp; try omega
      · cases hi
theorem rowF_nil {v : Int} {l : List Int} : rowF l v = [] ↔ v ∉ l := by
  induction l using rev_ind with
  | h0 => simp [rowF]
  | h1 l e ih =>
    rw [rowF_snoc]
    by_cases c : e = v
    · simp [c]
    · have : ¬ v = e := fun z => c z.symm
      simp [c, ih, this]
theorem rowF_cut {l : List Int} {v : Int} {k : Nat} : (rowF l v).filter (fun i => decide (i < (k : Int))) = rowF (l.take k) v := by
  obtain ⟨r, h1, h2⟩ := rowF_app (a := l.take k) (b := l.drop k) (v := v)
  rw [List.take_append_drop] at h1
  rw [h1, List.filter_append]
  have e1 : (rowF (l.take k) v).filter (fun i => decide (i < (k : Int))) = rowF (l.take k) v := List.filter_eq_self.mpr fun i hi => by
    have := (rowF_lt i hi).2
    simp at this ⊢; omega
  have e2 : r.filter (fun i => decide (i < (k : Int))) = [] := List.filter_eq_nil_iff.mpr fun i hi => by
    by_cases c : k ≤ l.length
    · have := h2 i hi
      simp at this ⊢; omega
    · have hd : l.drop k = [] := List.drop_eq_nil_of_le (by omega)
      have ht : l.take k = l := List.take_of_length_le (by omega)
      rw [ht] at h1
      have := List.self_eq_append_right.mp h1
      subst this
      cases hi
  rw [e1, e2, List.append_nil]
/-! the values of a stair column have no gap -/
theorem stair_anti {ns : List Int} (h : isStairI ns = true) : ∀ v : Nat, ns.count ((v : Int) + 1) ≤ ns.count (v : Int) := by
  induction ns using rev_ind with
  | h0 => simp
  | h1 l e ih =>
    unfold isStairI at h ih
    rw [stairFrom_app, Bool.and_eq_true] at h
    obtain ⟨h1, h2⟩ := h
    have ih := ih h1
    simp only [List.nil_append, stairFrom, Bool.and_true, okAt, Bool.and_eq_true, Bool.or_eq_true, decide_eq_true_eq] at h2
    intro v
    have := ih v
    simp only [List.count_append, List.count_cons, List.count_nil]
    by_cases c : e = (v : Int) + 1
    · subst c
      have h3 := h2.2.resolve_left (by omega)
      have e1 : (v : Int) + 1 - 1 = v := by omega
      rw [e1] at h3
      simp
      omega
    · simp [c]
      omega
theorem stair_below {ns : List Int} (h : isStairI ns = true) {m : Nat} (hm : (m : Int) ∈ ns) : ∀ d : Nat, d ≤ m → ((m - d : Nat) : Int) ∈ ns := by
  intro d
  induction d with
  | zero => intro _; simpa using hm
  | succ d ih =>
    intro hd
    have h1 := ih (by omega)
    have h2 := stair_anti h (m - (d + 1))
    have e : ((m - (d + 1) : Nat) : Int) + 1 = ((m - d : Nat) : Int) := by omega
    rw [e] at h2
    have h3 := List.count_pos_iff.mpr h1
    exact List.count_pos_iff.mp (by omega)
theorem stair_nn {ns : List Int} (h : isStairI ns = true) : ∀ i ∈ ns, 0 ≤ i := by
  induction ns using rev_ind with
  | h0 => simp
  | h1 l e ih =>
    unfold isStairI at h ih
    rw [stairFrom_app, Bool.and_eq_true] at h
    obtain ⟨h1, h2⟩ := h
    intro i hi
    rcases List.mem_append.mp hi with hi | hi
    · exact ih h1 i hi
    · rw [List.mem_singleton.mp hi]
      simp only [List.nil_append, stairFrom, Bool.and_true, okAt, Bool.and_eq_true, decide_eq_true_eq] at h2
      exact h2.1
theorem maxI_mem {ns : List Int} (h : ns ≠ []) : maxI ns ∈ ns := by
  cases ns with
  | nil => exact absurd rfl h
  | cons a r => exact fmax_mem r a
theorem maxI_ge {ns : List Int} : ∀ x ∈ ns, x ≤ maxI ns := by
  cases ns with
  | nil => simp
  | cons a r => exact fmax_ge r a
/-- the rows of a stair column -/
def mxN (ns : List Int) : Nat := (maxI ns).toNat
def rowsF (ns : List Int) : List (List Int) := (List.range (mxN ns + 1)).map fun (v : Nat) => rowF ns (v : Int)
theorem stair_mem {ns : List Int} (h : isStairI ns = true) (h0 : ns ≠ []) (v : Nat) : (v : Int) ∈ ns ↔ v ≤ mxN ns := by
  have hm := maxI_mem h0
  have hn := stair_nn h _ hm
  have e : ((mxN ns : Nat) : Int) = maxI ns := by unfold mxN; omega
  constructor
  · intro hv
    have := maxI_ge _ hv
    omega
  · intro hv
    rw [← e] at hm
    have := stair_below h hm (mxN ns - v) (by omega)
    have e2 : mxN ns - (mxN ns - v) = v := by omega
    rwa [e2] at this
theorem stair_take {ns : List Int} (h : isStairI ns = true) (k : Nat) : isStairI (ns.take k) = true := by
  have : isStairI (ns.take k ++ ns.drop k) = true := by rw [List.take_append_drop]; exact h
  unfold isStairI at this ⊢
  rw [stairFrom_app, Bool.and_eq_true] at this
  exact this.1
/-- the rows, cut off at a place: those of the beginning -/
theorem rowsF_cut {ns : List Int} (h : isStairI ns = true) {k : Nat} (hk : k < ns.length) :
    ((rowsF ns).map fun r => r.filter fun i => decide (i < ((k + 1 : Nat) : Int))).filter (fun r => decide (r ≠ [])) = rowsF (ns.take (k + 1)) := by
  have h0 : ns ≠ [] := fun z => by rw [z] at hk; simp at hk
  have ht0 : ns.take (k + 1) ≠ [] := fun z => by
    have := congrArg List.length z
    rw [List.length_take, List.length_nil] at this; omega
  have hst := stair_take h (k + 1)
  have hle : mxN (ns.take (k + 1)) ≤ mxN ns := by
    have h1 := (stair_mem hst ht0 _).mpr (Nat.le_refl _)
    exact (stair_mem h h0 _).mp (List.mem_of_mem_take h1)
  unfold rowsF
  rw [List.map_map]
  have e1 : ((fun r : List Int => r.filter fun i => decide (i < ((k + 1 : Nat) : Int))) ∘ fun (v : Nat) => rowF ns (v : Int)) = fun (v : Nat) => rowF (ns.take (k + 1)) (v : Int) := by
    funext v
    exact rowF_cut
  rw [e1, List.filter_map]
  have e2 : ((fun r : List Int => decide (r ≠ [])) ∘ fun (v : Nat) => rowF (ns.take (k + 1)) (v : Int)) = fun v => decide (v < mxN (ns.take (k + 1)) + 1) := by
    funext v
    have := rowF_nil (l := ns.take (k + 1)) (v := (v : Int))
    have h2 := stair_mem hst ht0 v
    show decide (rowF (ns.take (k + 1)) (v : Int) ≠ []) = _
    by_cases c : v ≤ mxN (ns.take (k + 1))
    · have h3 : ¬ rowF (ns.take (k + 1)) (v : Int) = [] := fun z => this.mp z (h2.mpr c)
      have c' : v < mxN (ns.take (k + 1)) + 1 := by omega
      simp [h3, c']
    · have h3 : rowF (ns.take (k + 1)) (v : Int) = [] := this.mpr fun z => c (h2.mp z)
      have c' : ¬ v < mxN (ns.take (k + 1)) + 1 := by omega
      simp [h3, c']
  rw [e2]
  congr 1
  have key : ∀ (b a : Nat), a ≤ b → (List.range b).filter (fun v => decide (v < a)) = List.range a := by
    intro b
    induction b with
    | zero =>
      intro a ha
      obtain rfl : a = 0 := by omega
      rfl
    | succ b ih =>
      intro a ha
      rw [List.range_succ, List.filter_append]
      by_cases c : a ≤ b
      · rw [ih a c]
        have : ¬ b < a := by omega
        simp [this]
      · obtain rfl : a = b + 1 := by omega
        have : (List.range b).filter (fun v => decide (v < b + 1)) = List.range b := List.filter_eq_self.mpr fun v hv => by
          have := List.mem_range.mp hv
          simp; omega
        rw [this, List.range_succ]
        simp
  exact key _ _ (by omega)
end Pw
set_option Elab.async false
set_option linter.all false
set_option maxRecDepth 100000
set_option maxHeartbeats 1000000
/-! the running counts of the running counts of a stair column are this column -/
namespace Pw
open PySem PySem.Spec PyProof.Rows L2
theorem filter_lt_range : ∀ (b a : Nat), a ≤ b → (List.range b).filter (fun v => decide (v < a)) = List.range a := by
  intro b
  induction b with
  | zero =>
    intro a ha
    obtain rfl : a = 0 := by omega
    rfl
  | succ b ih =>
    intro a ha
    rw [List.range_succ, List.filter_append]
    by_cases c : a ≤ b
    · rw [ih a c]
      have : ¬ b < a := by omega
      simp [this]
    · obtain rfl : a = b + 1 := by omega
      have : (List.range b).filter (fun v => decide (v < b + 1)) = List.range b := List.filter_eq_self.mpr fun v hv => by
        have := List.mem_range.mp hv
        simp; omega
      rw [this, List.range_succ]
      simp
theorem anti_le {ns : List Int} (h : isStairI ns = true) (u : Nat) : ∀ d : Nat, ns.count ((u + d : Nat) : Int) ≤ ns.count (u : Int)
  | 0 => Nat.le_refl _
  | d + 1 => by
    have h1 := anti_le h u d
    have h2 := stair_anti h (u + d)
    have e : ((u + d : Nat) : Int) + 1 = ((u + (d + 1) : Nat) : Int) := by omega
    rw [e] at h2
    omega
theorem rc_place {l : List Int} {v : Nat} (hl : isStairI l = true) (ho : okAt l (v : Int) = true) : (rc l).count ((l.count (v : Int) : Nat) : Int) = v := by
  have hb := stair_bound hl
  have hvl : v ≤ l.length := by
    by_cases c : v = 0
    · omega
    · unfold okAt at ho
      simp only [Bool.and_eq_true, Bool.or_eq_true, decide_eq_true_eq] at ho
      have h1 := ho.2.resolve_left (by omega)
      have hm : (v : Int) - 1 ∈ l := List.count_pos_iff.mp (by omega)
      have := hb _ hm
      omega
  have hU : ((List.range (l.length + 1)).map fun (k : Nat) => (k : Int)).Nodup := by
    unfold List.Nodup
    rw [List.pairwise_map]
    exact List.Pairwise.imp (fun {a b} h z => h (by omega)) (List.nodup_range (n := l.length + 1))
  rw [rc_count hU _ l fun x hx => by
    have := hb x hx
    obtain ⟨k, rfl⟩ := Int.eq_ofNat_of_zero_le this.1
    exact List.mem_map.mpr ⟨k, List.mem_range.mpr (by omega), rfl⟩]
  rw [List.countP_map, List.countP_eq_length_filter]
  have e : (List.range (l.length + 1)).filter ((fun x : Int => decide (l.count (v : Int) < l.count x)) ∘ fun (k : Nat) => (k : Int)) = (List.range (l.length + 1)).filter fun k => decide (k < v) := by
    refine List.filter_congr fun k _ => ?_
    show decide (l.count (v : Int) < l.count (k : Int)) = decide (k < v)
    by_cases c : k < v
    · unfold okAt at ho
      simp only [Bool.and_eq_true, Bool.or_eq_true, decide_eq_true_eq] at ho
      have h1 := ho.2.resolve_left (by omega)
      have h2 := anti_le hl k (v - 1 - k)
      have e1 : ((k + (v - 1 - k) : Nat) : Int) = (v : Int) - 1 := by omega
      rw [e1] at h2
      have : l.count (v : Int) < l.count (k : Int) := by omega
      rw [decide_eq_true this, decide_eq_true c]
    · have h2 := anti_le hl v (k - v)
      have e1 : ((v + (k - v) : Nat) : Int) = (k : Int) := by omega
      rw [e1] at h2
      have : ¬ l.count (v : Int) < l.count (k : Int) := by omega
      rw [decide_eq_false this, decide_eq_false c]
  rw [e, filter_lt_range _ _ (by omega), List.length_range]
theorem rc_rc {ns : List Int} : isStairI ns = true → rc (rc ns) = ns := by
  induction ns using rev_ind with
  | h0 => intro _; rfl
  | h1 l e ih =>
    intro h
    have h' := h
    unfold isStairI at h'
    rw [stairFrom_app, Bool.and_eq_true] at h'
    obtain ⟨h1, h2⟩ := h'
    simp only [List.nil_append, stairFrom, Bool.and_true] at h2
    have h0 : 0 ≤ e := by
      unfold okAt at h2
      simp only [Bool.and_eq_true, decide_eq_true_eq] at h2
      exact h2.1
    obtain ⟨v, rfl⟩ := Int.eq_ofNat_of_zero_le h0
    rw [rc_snoc, rc_snoc, ih h1, rc_place h1 h2]
/-! a tableau, turned -/
theorem rowF_len {l : List Int} {v : Int} : (rowF l v).length = l.count v := by
  induction l using rev_ind with
  | h0 => simp [rowF]
  | h1 l e ih =>
    rw [rowF_snoc, List.length_append, ih, List.count_append, List.count_cons]
    by_cases c : e = v <;> simp [c]
def turnI (s : List Int) (N k : Nat) : List Int := (List.range N).filterMap fun (v : Nat) => (rowF s (v : Int))[k]?
theorem fmap_upd {f f' : Nat → Option Int} {v : Nat} {x : Int} (h1 : ∀ u, v ≤ u → f u = none) (h2 : ∀ u, u ≠ v → f' u = f u) (h3 : f' v = some x) : ∀ N, (List.range N).filterMap f' = (List.range N).filterMap f ++ if v < N then [x] else []
  | 0 => by simp
  | N + 1 => by
    rw [List.range_succ, List.filterMap_append, List.filterMap_append, fmap_upd h1 h2 h3 N]
    by_cases c : v < N
    · have c2 : v < N + 1 := by omega
      have e1 := h2 N (by omega)
      have e2 := h1 N (by omega)
      simp [c, c2, e1, e2]
    · by_cases c3 : v = N
      · subst c3
        have e2 := h1 v (by omega)
        simp [h3, e2]
      · have c2 : ¬ v < N + 1 := by omega
        have e1 := h2 N (by omega)
        simp [c, c2, e1, List.filterMap_cons]
theorem turnI_eq {N k : Nat} {s : List Int} : isStairI s = true → (∀ i ∈ s, i < N) → turnI s N k = rowF (rc s) (k : Int) := by
  induction s using rev_ind with
  | h0 => intro _ _; simp [turnI, rowF, rc, rcF]
  | h1 l e ih =>
    intro h hN
    have h' := h
    unfold isStairI at h'
    rw [stairFrom_app, Bool.and_eq_true] at h'
    obtain ⟨h1, h2⟩ := h'
    simp only [List.nil_append, stairFrom, Bool.and_true] at h2
    have h0 : 0 ≤ e := by
      unfold okAt at h2
      simp only [Bool.and_eq_true, decide_eq_true_eq] at h2
      exact h2.1
    obtain ⟨v, rfl⟩ := Int.eq_ofNat_of_zero_le h0
    have hv : v < N := by
      have := hN v (by simp)
      omega
    have ih := ih h1 fun i hi => hN i (by simp [hi])
    rw [rc_snoc, rowF_snoc, ← ih, rc_length]
    by_cases c : l.count (v : Int) = k
    · subst c
      rw [if_pos rfl]
      unfold turnI
      have := fmap_upd (f := fun (u : Nat) => (rowF l (u : Int))[l.count (v : Int)]?) (f' := fun (u : Nat) => (rowF (l ++ [(v : Int)]) (u : Int))[l.count (v : Int)]?) (v := v) (x := (l.length : Int)) (fun u hu => ?_) (fun u hu => ?_) ?_ N
      · rw [this, if_pos hv]
      · refine List.getElem?_eq_none ?_
        rw [rowF_len]
        have h2 := anti_le h1 v (u - v)
        have e1 : ((v + (u - v) : Nat) : Int) = (u : Int) := by omega
        rwa [e1] at h2
      · have : ¬ (v : Int) = (u : Int) := by omega
        simp [rowF_snoc, this]
      · have : (rowF l (v : Int)).length = l.count (v : Int) := rowF_len
        simp only [rowF_snoc, if_true]
        rw [List.getElem?_append_right (by omega), this]
        simp
    · have c' : ¬ ((l.count (v : Int) : Nat) : Int) = (k : Int) := by omega
      rw [if_neg c', List.append_nil]
      unfold turnI
      congr 1
      funext u
      rw [rowF_snoc]
      by_cases cu : (v : Int) = (u : Int)
      · rw [if_pos cu, ← cu]
        have hl : (rowF l (v : Int)).length = l.count (v : Int) := rowF_len
        by_cases ck : k < l.count (v : Int)
        · rw [List.getElem?_append_left (by omega)]
        · rw [List.getElem?_append_right (by omega), List.getElem?_eq_none (l := rowF l (v : Int)) (by omega), List.getElem?_eq_none (by simp; omega)]
      · rw [if_neg cu, List.append_nil]
/-- three times is once -/
theorem rc_three (ns : List Int) : rc (rc (rc ns)) = rc ns := rc_rc (rc_stair ns)
theorem rcN_even {s : List Int} (h : isStairI s = true) : ∀ k : Nat, rcN (2 * k) s = s
  | 0 => rfl
  | k + 1 => by
    rw [show 2 * (k + 1) = (2 * k + 1) + 1 from by omega, rcN, rcN, rc_rc h]
    exact rcN_even h k
end Pw
set_option Elab.async false
set_option linter.all false
set_option maxRecDepth 100000
set_option maxHeartbeats 1000000
/-! == of a thing and itself; rows of whole numbers -/
namespace Pw
open PySem PySem.Spec PyProof.Rows L2
mutual
theorem eqv_self : ∀ (d : D) (n : Nat), isD false d n = true → PyData.eqv (toP d) (toP d) = true
  | .non, n, h => by simp [toP, PyData.eqv]
  | .bl b, n, h => by have := eqD_bl (i := b) (j := b); simpa [eqD] using this
  | .int i, n, h => by have := eqD_int (i := i) (j := i); simpa [eqD] using this
  | .str s, n, h => by have := eqD_str (i := s) (j := s); simpa [eqD] using this
  | .tup ds, n, h => by
    cases n with
    | zero => simp [isD] at h
    | succ n =>
      simp only [isD] at h
      simp only [toP, PyData.eqv]
      exact eqvs_self ds n h
  | .lst ds, n, h => by
    cases n with
    | zero => simp [isD] at h
    | succ n =>
      simp only [isD] at h
      simp only [toP, PyData.eqv]
      exact eqvs_self ds n h
  | .dic ds, n, h => by simp [isD] at h
  | .ref _, n, h => by simp [isD] at h
  | .ty _, n, h => by simp [isD] at h
  | .exc _, n, h => by simp [isD] at h
  | .scr _, n, h => by simp [isD] at h
theorem eqvs_self : ∀ (ds : List D) (n : Nat), isDs false ds n = true → PyData.eqvAll (toPs ds) (toPs ds) = true
  | [], n, h => by simp [toPs, PyData.eqvAll]
  | d :: ds, n, h => by
    simp only [isDs, Bool.and_eq_true] at h
    simp only [toPs, PyData.eqvAll, eqv_self d n h.1, eqvs_self ds n h.2, Bool.and_self]
end
theorem eqD_self {d : D} (h : isD false d 30 = true) : eqD d d = true := eqv_self d 30 h
theorem memD_int {i : Int} {row : List Int} : memD (.int i) (row.map D.int) = decide (i ∈ row) := by
  unfold memD
  rw [List.any_map, Bool.eq_iff_iff]
  simp [Function.comp_def]
theorem isD_rowsD {rows : List (List Int)} : isD false (.lst (rows.map fun r => .lst (r.map D.int))) 30 = true := by
  rw [show (30 : Nat) = 29 + 1 from rfl, isD_lst]
  refine isDs_of fun x hx => ?_
  obtain ⟨r, _, rfl⟩ := List.mem_map.mp hx
  simp
end Pw
set_option Elab.async false
set_option linter.all false
set_option maxRecDepth 100000
set_option maxHeartbeats 1000000
/-! tableaux: rows of places -/
namespace Pw
open PySem PySem.Spec PyProof.Rows L2
def rangeI (n : Nat) : List Int := (List.range n).map fun (k : Nat) => (k : Int)
def riseI (r : List Int) : Bool := (r.zip r.tail).all fun p => decide (p.1 < p.2)
def ltsI (a b : List Int) : Bool := (a.zip b).all fun p => decide (p.1 < p.2)
def chainI (rows : List (List Int)) : Bool := (rows.zip rows.tail).all fun p => decide (p.2.length ≤ p.1.length) && ltsI p.1 p.2
def isRowD : D → Bool
  | .lst r => decide (1 ≤ r.length) && decide (r.length ≤ 60)
  | _ => false
def rowsOf : List D → Option (List (List Int))
  | [] => some []
  | .lst r :: ds => (match intsOf r, rowsOf ds with
    | some a, some b => some (a :: b)
    | _, _ => none)
  | _ :: _ => none
def tabI (rows : List (List Int)) : Bool := decide (sortI rows.flatten = rangeI rows.flatten.length) && (decide (rows.flatten.length ≤ 60) && (rows.all riseI && chainI rows))
def isTabD : D → Bool
  | .lst rs => decide (1 ≤ rs.length) && (decide (rs.length ≤ 60) && (rs.all isRowD && (match rowsOf rs with
    | some rows => tabI rows
    | none => false)))
  | _ => false
def rowD (r : List Int) : D := .lst (r.map D.int)
theorem rowsOf_map : ∀ {rows : List (List Int)}, rowsOf (rows.map rowD) = some rows
  | [] => rfl
  | r :: rows => by
    have := rowsOf_map (rows := rows)
    simp [rowD, rowsOf, this]
theorem rowsOf_eq : ∀ {rs : List D} {rows : List (List Int)}, rowsOf rs = some rows → rs = rows.map rowD
  | [], rows, h => by simp [rowsOf] at h; subst h; rfl
  | d :: ds, rows, h => by
    cases d <;> simp only [rowsOf] at h <;> try cases h
    split at h
    · rename_i a b ea eb
      cases h
      have h1 := rowsOf_eq eb
      have h2 : ∀ {ds : List D} {ns : List Int}, intsOf ds = some ns → ds = ns.map D.int := by
        intro ds
        induction ds with
        | nil => intro ns e; simp [intsOf] at e; subst e; rfl
        | cons d ds ih =>
          intro ns e
          simp only [intsOf] at e
          split at e
          · rename_i i is e1 e2
            cases e
            cases d <;> simp only [intOf] at e1 <;> cases e1
            rw [ih e2]; rfl
          · cases e
      rw [h1, h2 ea]; rfl
    · cases h
/-! rows of a stair column -/
theorem mem_rowF {l : List Int} {v i : Int} : i ∈ rowF l v ↔ 0 ≤ i ∧ l[i.toNat]? = some v := by
  unfold rowF
  simp only [List.mem_map, List.mem_filter, decide_eq_true_eq]
  constructor
  · rintro ⟨⟨x, k⟩, ⟨h1, h2⟩, rfl⟩
    have := List.mem_zipIdx_iff_getElem?.mp h1
    dsimp only at h2 this ⊢
    subst h2
    exact ⟨by omega, by simpa using this⟩
  · rintro ⟨h0, h⟩
    refine ⟨(v, i.toNat), ⟨List.mem_zipIdx_iff_getElem?.mpr h, rfl⟩, by simp; omega⟩
theorem rowF_rise {l : List Int} {v : Int} : (rowF l v).Pairwise (· < ·) := by
  refine rev_ind (P := fun l => (rowF l v).Pairwise (· < ·)) (by simp [rowF]) (fun l e ih => ?_) l
  rw [rowF_snoc, List.pairwise_append]
  refine ⟨ih, by split <;> simp, fun a ha b hb => ?_⟩
  split at hb
  · have := (rowF_lt a ha).2
    simp at hb; omega
  · cases hb
theorem riseI_of {r : List Int} (h : r.Pairwise (· < ·)) : riseI r = true := by
  unfold riseI
  rw [List.all_eq_true]
  induction r with
  | nil => simp
  | cons a r ih =>
    cases r with
    | nil => simp
    | cons b r =>
      intro p hp
      simp only [List.tail_cons, List.zip_cons_cons, List.mem_cons] at hp
      rcases hp with rfl | hp
      · have := (List.pairwise_cons.mp h).1 b (by simp)
        simpa using this
      · exact ih (List.pairwise_cons.mp h).2 p (by simpa using hp)
theorem flat_upd {f : Nat → List Int} {e : Nat} {x : Int} : ∀ N, ((List.range N).map fun v => f v ++ if e = v then [x] else []).flatten.Perm (((List.range N).map f).flatten ++ if e < N then [x] else [])
  | 0 => by simp
  | N + 1 => by
    have ih := flat_upd (f := f) (e := e) (x := x) N
    rw [List.range_succ, List.map_append, List.map_append, List.flatten_append, List.flatten_append]
    simp only [List.map_cons, List.map_nil, List.flatten_cons, List.flatten_nil, List.append_nil]
    refine (ih.append_right _).trans ?_
    by_cases c : e = N
    · subst c
      simp
    · by_cases c2 : e < N
      · have : e < N + 1 := by omega
        simp only [c, c2, this, if_true, if_false, List.append_nil, List.append_assoc]
        exact (List.perm_append_comm (l₁ := [x])).append_left _
      · have : ¬ e < N + 1 := by omega
        simp [c, c2, this]
theorem rowsN_perm {N : Nat} {s : List Int} : (∀ i ∈ s, 0 ≤ i ∧ i < N) → ((List.range N).map fun (v : Nat) => rowF s (v : Int)).flatten.Perm (rangeI s.length) := by
  refine rev_ind (P := fun s => (∀ i ∈ s, 0 ≤ i ∧ i < N) → ((List.range N).map fun (v : Nat) => rowF s (v : Int)).flatten.Perm (rangeI s.length)) (fun _ => ?_) (fun l e ih h => ?_) s
  · have : ∀ n, ((List.range n).map fun (v : Nat) => rowF [] (v : Int)).flatten = [] := by
      intro n
      simp [rowF]
    rw [this]; simp [rangeI]
  · have he := h e (by simp)
    have ih := ih fun i hi => h i (by simp [hi])
    obtain ⟨k, rfl⟩ := Int.eq_ofNat_of_zero_le he.1
    have hk : k < N := by omega
    have e1 : ((List.range N).map fun (v : Nat) => rowF (l ++ [(k : Int)]) (v : Int)) = (List.range N).map fun v => (fun (v : Nat) => rowF l (v : Int)) v ++ if k = v then [(l.length : Int)] else [] := by
      refine List.map_congr_left fun v _ => ?_
      rw [rowF_snoc]
      by_cases c : k = v
      · subst c; simp
      · have : ¬ (k : Int) = (v : Int) := by omega
        simp [c, this]
    rw [e1]
    refine (flat_upd N).trans ?_
    rw [if_pos hk]
    refine (ih.append_right _).trans ?_
    simp [rangeI, List.range_succ]
theorem rangeI_sorted (n : Nat) : (rangeI n).Pairwise (· ≤ ·) := by
  unfold rangeI
  rw [List.pairwise_map]
  exact List.pairwise_lt_range.imp fun h => by omega
theorem stair_lt {s : List Int} (h : isStairI s = true) (h0 : s ≠ []) : ∀ i ∈ s, 0 ≤ i ∧ i < (mxN s + 1 : Nat) := fun i hi => by
  have h1 := stair_nn h i hi
  have h2 := maxI_ge i hi
  have h3 := stair_nn h _ (maxI_mem h0)
  unfold mxN
  omega
theorem rowsF_perm {s : List Int} (h : isStairI s = true) (h0 : s ≠ []) : (rowsF s).flatten.Perm (rangeI s.length) := rowsN_perm (stair_lt h h0)
theorem rowsF_len {s : List Int} (h : isStairI s = true) (h0 : s ≠ []) : (rowsF s).flatten.length = s.length := by
  rw [(rowsF_perm h h0).length_eq]; simp [rangeI]
theorem rowsF_ne {s : List Int} (h : isStairI s = true) (h0 : s ≠ []) : ∀ r ∈ rowsF s, r ≠ [] := by
  intro r hr
  unfold rowsF at hr
  obtain ⟨v, hv, rfl⟩ := List.mem_map.mp hr
  have hv := List.mem_range.mp hv
  have : (v : Int) ∈ s := (stair_mem h h0 v).mpr (by omega)
  intro z
  exact (rowF_nil.mp z) this
/-- each place in a row stands behind the place above it -/
theorem rowF_lts {s : List Int} (h : isStairI s = true) (v : Nat) : ∀ (j : Nat) (a b : Int), (rowF s (v : Int))[j]? = some a → (rowF s ((v : Int) + 1))[j]? = some b → a < b := by
  have key : ∀ s : List Int, isStairI s = true → ∀ (j : Nat) (b : Int), (rowF s ((v : Int) + 1))[j]? = some b → ∃ a, (rowF s (v : Int))[j]? = some a ∧ a < b := by
    refine rev_ind (P := fun s => isStairI s = true → ∀ (j : Nat) (b : Int), (rowF s ((v : Int) + 1))[j]? = some b → ∃ a, (rowF s (v : Int))[j]? = some a ∧ a < b) (by simp [rowF]) fun l e ih hs j b hb => ?_
    have hl : isStairI l = true := by
      have := stair_take hs l.length
      simpa using this
    have ho : okAt l e = true := by
      unfold isStairI at hs
      rw [stairFrom_app] at hs
      simp [stairFrom] at hs
      exact hs.2
    rw [rowF_snoc] at hb ⊢
    have ext : ∀ {a : Int}, (rowF l (v : Int))[j]? = some a → (rowF l (v : Int) ++ if e = (v : Int) then [(l.length : Int)] else [])[j]? = some a := fun {a} ha => by
      rw [List.getElem?_append_left (List.getElem?_eq_some_iff.mp ha).1]; exact ha
    by_cases c : j < (rowF l ((v : Int) + 1)).length
    · rw [List.getElem?_append_left c] at hb
      obtain ⟨a, ha, hab⟩ := ih hl j b hb
      exact ⟨a, ext ha, hab⟩
    · rw [List.getElem?_append_right (by omega)] at hb
      split at hb
      · rename_i he
        have hj : j - (rowF l ((v : Int) + 1)).length = 0 := by
          have := (List.getElem?_eq_some_iff.mp hb).1
          simp at this; omega
        rw [hj] at hb
        simp at hb
        have hjl : j = l.count ((v : Int) + 1) := by
          rw [rowF_len] at c hj; omega
        subst he
        have hlt : j < (rowF l (v : Int)).length := by
          rw [rowF_len]
          unfold okAt at ho
          simp only [Bool.and_eq_true, Bool.or_eq_true, decide_eq_true_eq] at ho
          have h2 := ho.2
          rcases h2 with h2 | h2
          · omega
          · have e2 : (v : Int) + 1 - 1 = v := by omega
            rw [e2] at h2; omega
        refine ⟨_, ext (List.getElem?_eq_getElem hlt), ?_⟩
        have := (rowF_lt _ (List.getElem_mem hlt)).2
        omega
      · simp at hb
  intro j a b ha hb
  obtain ⟨a', ha', hlt⟩ := key s h j b hb
  rw [ha] at ha'
  cases ha'
  exact hlt
theorem chainI_stair {s : List Int} (h : isStairI s = true) : chainI (rowsF s) = true := by
  unfold chainI
  rw [List.all_eq_true]
  intro p hp
  obtain ⟨i, hi, rfl⟩ := List.mem_iff_getElem.mp hp
  simp only [List.getElem_zip, List.getElem_tail, Bool.and_eq_true, decide_eq_true_eq]
  simp only [rowsF, List.getElem_map, List.getElem_range]
  have e1 : ((i + 1 : Nat) : Int) = (i : Int) + 1 := by omega
  rw [e1]
  refine ⟨?_, ?_⟩
  · rw [rowF_len, rowF_len]
    exact stair_anti h i
  · unfold ltsI
    rw [List.all_eq_true]
    intro q hq
    obtain ⟨j, hj, rfl⟩ := List.mem_iff_getElem.mp hq
    simp only [List.getElem_zip, decide_eq_true_eq]
    have hj' := hj
    simp only [List.length_zip] at hj'
    exact rowF_lts h i j _ _ (List.getElem?_eq_getElem (by omega)) (List.getElem?_eq_getElem (by omega))
theorem tabI_stair {s : List Int} (h : isStairI s = true) (h0 : s ≠ []) (hl : s.length ≤ 60) : tabI (rowsF s) = true := by
  unfold tabI
  have hp := rowsF_perm h h0
  have hlen := rowsF_len h h0
  rw [hlen, ← sortI_of hp.symm (rangeI_sorted _)]
  simp only [decide_true, Bool.true_and, Bool.and_eq_true, decide_eq_true_eq, hl, chainI_stair h, and_true, true_and]
  rw [List.all_eq_true]
  intro r hr
  unfold rowsF at hr
  obtain ⟨v, _, rfl⟩ := List.mem_map.mp hr
  exact riseI_of rowF_rise
theorem isTabD_stair {s : List Int} (h : isStairI s = true) (h0 : s ≠ []) (hl : s.length ≤ 60) : isTabD (.lst ((rowsF s).map rowD)) = true := by
  have hb := stair_lt h h0
  have hm : mxN s + 1 ≤ s.length := by
    have h1 := (rc_stair s)
    have h2 := stair_bound h _ (maxI_mem h0)
    have h3 := stair_nn h _ (maxI_mem h0)
    unfold mxN
    omega
  have e1 : (rowsF s).length = mxN s + 1 := by simp [rowsF]
  simp only [isTabD, List.length_map, e1, rowsOf_map, tabI_stair h h0 hl, Bool.and_true, Bool.and_eq_true, decide_eq_true_eq]
  refine ⟨by omega, by omega, ?_⟩
  rw [List.all_map, List.all_eq_true]
  intro r hr
  have hne := rowsF_ne h h0 r hr
  have h1 : 1 ≤ r.length := List.length_pos_iff.mpr hne
  have h2 : r.length ≤ 60 := by
    unfold rowsF at hr
    obtain ⟨v, _, rfl⟩ := List.mem_map.mp hr
    rw [rowF_len]
    have := List.count_le_length (a := (v : Int)) (l := s)
    omega
  simp [isRowD, rowD, h1, h2]
/-- the number of rows of the turned tableau -/
theorem mxN_rc {s : List Int} (h : isStairI s = true) (h0 : s ≠ []) : mxN (rc s) + 1 = s.count 0 := by
  have hr0 : rc s ≠ [] := fun z => h0 (List.length_eq_zero_iff.mp (by have := congrArg List.length z; simpa [rc, rcF_length] using this))
  have key : ∀ v : Nat, v ≤ mxN (rc s) ↔ v < s.count 0 := by
    intro v
    rw [← stair_mem (rc_stair s) hr0 v]
    constructor
    · intro hm
      obtain ⟨k, hk, e⟩ := List.mem_iff_getElem.mp hm
      have hk' : k < s.length := by simpa [rc, rcF_length] using hk
      have h1 := rc_get (List.getElem?_eq_getElem hk')
      rw [List.getElem?_eq_getElem hk, e] at h1
      have h2 := Option.some.inj h1
      have h3 : (s.take k).count s[k] < s.count s[k] := by
        have e2 : s = s.take k ++ s[k] :: s.drop (k + 1) := by
          rw [← List.drop_eq_getElem_cons hk', List.take_append_drop]
        have : s.count s[k] = (s.take k).count s[k] + (s[k] :: s.drop (k + 1)).count s[k] := by
          rw [← List.count_append, ← e2]
        rw [this, List.count_cons_self]; omega
      have h4 := stair_nn h s[k] (List.getElem_mem hk')
      obtain ⟨u, hu⟩ := Int.eq_ofNat_of_zero_le h4
      have h5 := anti_le h 0 u
      rw [hu] at h3 h2
      simp at h5
      omega
    · intro hv
      obtain ⟨U, hU, hc⟩ := nodup_cover s
      have h1 := rc_count hU v s hc
      have h2 : (0 : Int) ∈ s := List.count_pos_iff.mp (by omega)
      have h3 : 0 < U.countP fun x => decide (v < s.count x) := List.countP_pos_iff.mpr ⟨0, hc 0 h2, by simpa using hv⟩
      exact List.count_pos_iff.mp (by omega)
  have h1 := (key (mxN (rc s))).mp (Nat.le_refl _)
  have h2 := key (s.count 0 - 1)
  have h3 := h2.mpr (by omega)
  omega
end Pw
set_option Elab.async false
set_option linter.all false
set_option maxRecDepth 100000
set_option maxHeartbeats 1000000
/-! what is no tableau -/
namespace Pw
open PySem PySem.Spec PyProof.Rows L2
theorem isTabD_elim {rs : List D} (h : isTabD (.lst rs) = true) : ∃ rows : List (List Int), rs = rows.map rowD ∧ tabI rows = true ∧ (∀ r ∈ rs, isRowD r = true) ∧ 1 ≤ rs.length ∧ rs.length ≤ 60 := by
  simp only [isTabD, Bool.and_eq_true, decide_eq_true_eq] at h
  obtain ⟨h1, h2, h3, h4⟩ := h
  split at h4
  · rename_i rows e
    exact ⟨rows, rowsOf_eq e, h4, List.all_eq_true.mp h3, h1, h2⟩
  · cases h4
theorem tabI_mem {rows : List (List Int)} (h : tabI rows = true) : (∀ i ∈ rows.flatten, 0 ≤ i ∧ i < rows.flatten.length) ∧ rows.flatten.Nodup := by
  simp only [tabI, Bool.and_eq_true, decide_eq_true_eq] at h
  have hp := sortI_perm rows.flatten
  rw [h.1] at hp
  refine ⟨fun i hi => ?_, hp.nodup_iff.mp ?_⟩
  · have := hp.mem_iff.mpr hi
    unfold rangeI at this
    obtain ⟨k, hk, rfl⟩ := List.mem_map.mp this
    have := List.mem_range.mp hk
    omega
  · unfold rangeI
    unfold List.Nodup
    rw [List.pairwise_map]
    exact List.nodup_range.imp fun h e => h (by omega)
theorem chainI_app {xs : List (List Int)} {a b : List Int} {ys : List (List Int)} (h : chainI (xs ++ a :: b :: ys) = true) : b.length ≤ a.length ∧ ltsI a b = true := by
  unfold chainI at h
  rw [List.all_eq_true] at h
  have hm : (a, b) ∈ (xs ++ a :: b :: ys).zip (xs ++ a :: b :: ys).tail := by
    rw [List.mem_iff_getElem?]
    refine ⟨xs.length, ?_⟩
    rw [List.getElem?_zip_eq_some]
    refine ⟨by simp, ?_⟩
    rw [List.getElem?_tail]
    simp
  have := h _ hm
  simpa using this
theorem flat_set_len {α : Type} {r' : List α} : ∀ {l : List (List α)} {a : Nat} {r : List α}, l[a]? = some r → r'.length = r.length → (l.set a r').flatten.length = l.flatten.length
  | [], a, r, h, _ => by simp at h
  | x :: l, 0, r, h, e => by
    simp at h; subst h
    simp [e]
  | x :: l, a + 1, r, h, e => by
    have := flat_set_len (l := l) (a := a) (r := r) (by simpa using h) e
    simp only [List.set_cons_succ, List.flatten_cons, List.length_append, this]
theorem flat_map_int {rows : List (List Int)} : (rows.map fun r => r.map D.int).flatten = rows.flatten.map D.int := by rw [List.map_flatten]
theorem map_lst_inj {xss : List (List D)} {rows : List (List Int)} (h : xss.map D.lst = rows.map rowD) : xss = rows.map fun r => r.map D.int := by
  have : xss.map D.lst = (rows.map fun r => r.map D.int).map D.lst := by rw [h, List.map_map]; rfl
  exact (List.map_inj_right (fun x y h => D.lst.inj h)).mp this
/-- an item of no row, or out of range -/
theorem tab_item {xss : List (List D)} {x : D} (hx : x ∈ xss.flatten) (h : ∀ i, x = .int i → i < 0 ∨ (xss.flatten.length : Int) ≤ i) : isTabD (.lst (xss.map D.lst)) = false := by
  cases hc : isTabD (.lst (xss.map D.lst)) with
  | false => rfl
  | true =>
    exfalso
    obtain ⟨rows, e, ht, _⟩ := isTabD_elim hc
    have e2 := map_lst_inj e
    have ef : xss.flatten = rows.flatten.map D.int := by rw [e2, flat_map_int]
    rw [ef] at hx
    obtain ⟨i, hi, rfl⟩ := List.mem_map.mp hx
    have h1 := (tabI_mem ht).1 i hi
    rw [ef, List.length_map] at h
    have := h i rfl
    omega
theorem tab_row {rs : List D} {r : D} (hr : r ∈ rs) (h : isRowD r = false) : isTabD (.lst rs) = false := by
  cases hc : isTabD (.lst rs) with
  | false => rfl
  | true =>
    obtain ⟨_, _, _, h3, _⟩ := isTabD_elim hc
    rw [h3 r hr] at h; cases h
theorem tab_long {rs : List D} (h : 60 < rs.length) : isTabD (.lst rs) = false := by
  cases hc : isTabD (.lst rs) with
  | false => rfl
  | true =>
    obtain ⟨_, _, _, _, _, h5⟩ := isTabD_elim hc
    omega
theorem tab_nest {rs : List D} {x : D} {r : List D} (hr : .lst r ∈ rs) (hx : x ∈ r) (h : isInt x = false) : isTabD (.lst rs) = false := by
  cases hc : isTabD (.lst rs) with
  | false => rfl
  | true =>
    obtain ⟨rows, e, _⟩ := isTabD_elim hc
    rw [e] at hr
    obtain ⟨r', _, e2⟩ := List.mem_map.mp hr
    have := D.lst.inj e2
    subst this
    obtain ⟨i, _, rfl⟩ := List.mem_map.mp hx
    cases h
end Pw
set_option Elab.async false
set_option linter.all false
set_option maxRecDepth 100000
set_option maxHeartbeats 1000000
/-! from a tableau to its stair column -/
namespace Pw
open PySem PySem.Spec PyProof.Rows L2
theorem rise_pw {r : List Int} (h : riseI r = true) : r.Pairwise (· < ·) := by
  unfold riseI at h
  rw [List.all_eq_true] at h
  induction r with
  | nil => simp
  | cons a r ih =>
    cases r with
    | nil => simp
    | cons b r =>
      have h1 : a < b := by simpa using h (a, b) (by simp)
      have h2 := ih fun p hp => h p (by simp only [List.tail_cons, List.zip_cons_cons, List.mem_cons]; exact Or.inr (by simpa using hp))
      rw [List.pairwise_cons]
      refine ⟨fun x hx => ?_, h2⟩
      rcases List.mem_cons.mp hx with rfl | hx
      · exact h1
      · have := (List.pairwise_cons.mp h2).1 x hx
        omega
theorem rise_ext : ∀ {a b : List Int}, a.Pairwise (· < ·) → b.Pairwise (· < ·) → (∀ x, x ∈ a ↔ x ∈ b) → a = b
  | [], [], _, _, _ => rfl
  | [], y :: b, _, _, h => by have := (h y).mpr (by simp); cases this
  | x :: a, [], _, _, h => by have := (h x).mp (by simp); cases this
  | x :: a, y :: b, h1, h2, h => by
    rw [List.pairwise_cons] at h1 h2
    have e : x = y := by
      have a1 := (h x).mp (by simp)
      have a2 := (h y).mpr (by simp)
      rcases List.mem_cons.mp a1 with e | a1
      · exact e
      · rcases List.mem_cons.mp a2 with e | a2
        · exact e.symm
        · have := h1.1 y a2
          have := h2.1 x a1
          omega
    subst e
    rw [rise_ext h1.2 h2.2 fun z => ?_]
    constructor
    · intro hz
      have := h1.1 z hz
      rcases List.mem_cons.mp ((h z).mp (List.mem_cons_of_mem _ hz)) with e | e
      · omega
      · exact e
    · intro hz
      have := h2.1 z hz
      rcases List.mem_cons.mp ((h z).mpr (List.mem_cons_of_mem _ hz)) with e | e
      · omega
      · exact e
def stF (rows : List (List Int)) : List Int := (List.range rows.flatten.length).map fun (k : Nat) => ((rows.findIdx fun r => decide ((k : Int) ∈ r) : Nat) : Int)
@[simp] theorem stF_len {rows : List (List Int)} : (stF rows).length = rows.flatten.length := by simp [stF]
theorem flat_uniq {x : Int} : ∀ {rows : List (List Int)} {v w : Nat} {r r' : List Int}, rows.flatten.Nodup → rows[v]? = some r → x ∈ r → rows[w]? = some r' → x ∈ r' → v = w
  | [], v, _, _, _, _, h, _, _, _ => by simp at h
  | a :: rows, v, w, r, r', hn, h1, h2, h3, h4 => by
    rw [List.flatten_cons, List.nodup_append] at hn
    have hin : ∀ {u : Nat} {q : List Int}, rows[u]? = some q → x ∈ q → x ∈ rows.flatten := fun hu hq => List.mem_flatten.mpr ⟨_, List.mem_of_getElem? hu, hq⟩
    cases v with
    | zero =>
      cases w with
      | zero => rfl
      | succ w =>
        simp at h1 h3; subst h1
        exact absurd rfl (hn.2.2 x h2 x (hin h3 h4))
    | succ v =>
      cases w with
      | zero =>
        simp at h1 h3; subst h3
        exact absurd rfl (hn.2.2 x h4 x (hin h1 h2))
      | succ w =>
        simp at h1 h3
        rw [flat_uniq hn.2.1 h1 h2 h3 h4]
theorem stF_get {rows : List (List Int)} (hp : ∀ i ∈ rows.flatten, 0 ≤ i ∧ i < rows.flatten.length) (hn : rows.flatten.Nodup) {v : Nat} {r : List Int} (hr : rows[v]? = some r) {i : Int} (hi : i ∈ r) : 0 ≤ i ∧ i.toNat < rows.flatten.length ∧ (stF rows)[i.toNat]? = some (v : Int) := by
  have hf : i ∈ rows.flatten := List.mem_flatten.mpr ⟨_, List.mem_of_getElem? hr, hi⟩
  have ⟨h0, h1⟩ := hp i hf
  have h2 : i.toNat < rows.flatten.length := by omega
  refine ⟨h0, h2, ?_⟩
  unfold stF
  rw [List.getElem?_map, List.getElem?_range h2]
  have ei : ((i.toNat : Nat) : Int) = i := by omega
  simp only [Option.map_some, ei]
  have hex : ∃ q ∈ rows, (decide (i ∈ q)) = true := ⟨r, List.mem_of_getElem? hr, by simpa using hi⟩
  have hlt := List.findIdx_lt_length_of_exists (p := fun q : List Int => decide (i ∈ q)) hex
  have hg := List.findIdx_getElem (p := fun q : List Int => decide (i ∈ q)) (xs := rows) (w := hlt)
  have := flat_uniq hn hr hi (List.getElem?_eq_getElem hlt) (by simpa using hg)
  rw [← this]
theorem stF_row {rows : List (List Int)} (ht : tabI rows = true) {v : Nat} {r : List Int} (hr : rows[v]? = some r) : rowF (stF rows) (v : Int) = r := by
  obtain ⟨hp, hn⟩ := tabI_mem ht
  have ht2 := ht
  simp only [tabI, Bool.and_eq_true, decide_eq_true_eq] at ht2
  obtain ⟨hsrt, hl, hrise, hch⟩ := ht2
  have hrr := rise_pw (List.all_eq_true.mp hrise r (List.mem_of_getElem? hr))
  refine rise_ext rowF_rise hrr fun i => ?_
  rw [mem_rowF]
  constructor
  · rintro ⟨h0, h1⟩
    have hlt : i.toNat < rows.flatten.length := by
      have := (List.getElem?_eq_some_iff.mp h1).1
      simpa using this
    have hmem : i ∈ rows.flatten := by
      have hperm := sortI_perm rows.flatten
      rw [hsrt] at hperm
      exact hperm.mem_iff.mp (by unfold rangeI; exact List.mem_map.mpr ⟨i.toNat, by simpa using hlt, by omega⟩)
    obtain ⟨q, hq, hiq⟩ := List.mem_flatten.mp hmem
    obtain ⟨w, hw⟩ := List.mem_iff_getElem?.mp hq
    have := (stF_get hp hn hw hiq).2.2
    rw [h1] at this
    have e : v = w := by have := Option.some.inj this; omega
    subst e
    rw [hr] at hw
    rw [Option.some.inj hw]; exact hiq
  · intro hi
    have := stF_get hp hn hr hi
    exact ⟨this.1, this.2.2⟩
theorem stair_by {ns : List Int} : (∀ k e, ns[k]? = some e → okAt (ns.take k) e = true) → isStairI ns = true := by
  induction ns using rev_ind with
  | h0 => intro _; rfl
  | h1 l e ih =>
    intro h
    have h1 := ih fun k x hx => by
      have hk : k < l.length := (List.getElem?_eq_some_iff.mp hx).1
      have := h k x (by rw [List.getElem?_append_left hk]; exact hx)
      rwa [List.take_append_of_le_length (by omega)] at this
    have h2 := h l.length e (by simp)
    rw [List.take_left] at h2
    unfold isStairI at h1 ⊢
    rw [stairFrom_app, h1]
    simp [stairFrom, h2]
theorem filter_take {r : List Int} (hr : r.Pairwise (· < ·)) {j : Nat} {x : Int} (hx : r[j]? = some x) : r.filter (fun i => decide (i < x)) = r.take j := by
  obtain ⟨hj, ex⟩ := List.getElem?_eq_some_iff.mp hx
  have e : r = r.take j ++ x :: r.drop (j + 1) := by
    rw [← ex, ← List.drop_eq_getElem_cons hj, List.take_append_drop]
  have hp := hr
  rw [e, List.pairwise_append] at hp
  conv => lhs; rw [e]
  rw [List.filter_append]
  have e1 : (r.take j).filter (fun i => decide (i < x)) = r.take j := List.filter_eq_self.mpr fun i hi => by
    have := hp.2.2 i hi x (by simp)
    simpa using this
  have e2 : (x :: r.drop (j + 1)).filter (fun i => decide (i < x)) = [] := List.filter_eq_nil_iff.mpr fun i hi => by
    rcases List.mem_cons.mp hi with rfl | hi
    · simp
    · have := (List.pairwise_cons.mp hp.2.1).1 i hi
      simp; omega
  rw [e1, e2, List.append_nil]
theorem filter_more {r : List Int} (hr : r.Pairwise (· < ·)) {j : Nat} {a x : Int} (ha : r[j]? = some a) (hx : a < x) : j + 1 ≤ (r.filter (fun i => decide (i < x))).length := by
  obtain ⟨hj, ea⟩ := List.getElem?_eq_some_iff.mp ha
  have e : r = r.take (j + 1) ++ r.drop (j + 1) := (List.take_append_drop _ _).symm
  have e1 : (r.take (j + 1)).filter (fun i => decide (i < x)) = r.take (j + 1) := List.filter_eq_self.mpr fun i hi => by
    obtain ⟨k, hk, ei⟩ := List.mem_iff_getElem.mp hi
    have hk1 : k < j + 1 := by simp at hk; omega
    rw [List.getElem_take] at ei
    have : i ≤ a := by
      by_cases c : k = j
      · subst c; rw [← ei, ← ea]; exact Int.le_refl _
      · have := List.pairwise_iff_getElem.mp hr k j (by omega) hj (by omega)
        rw [← ei, ← ea]; omega
    simp; omega
  conv => rhs; rw [e]
  rw [List.filter_append, List.length_append, e1, List.length_take]
  omega
theorem chainI_at {rows : List (List Int)} (h : chainI rows = true) {v : Nat} {a b : List Int} (ha : rows[v]? = some a) (hb : rows[v + 1]? = some b) : b.length ≤ a.length ∧ ltsI a b = true := by
  unfold chainI at h
  rw [List.all_eq_true] at h
  have := h (a, b) (List.mem_iff_getElem?.mpr ⟨v, by rw [List.getElem?_zip_eq_some]; exact ⟨ha, by simpa using hb⟩⟩)
  simpa using this
theorem ltsI_at {a b : List Int} (h : ltsI a b = true) {j : Nat} {x y : Int} (hx : a[j]? = some x) (hy : b[j]? = some y) : x < y := by
  unfold ltsI at h
  rw [List.all_eq_true] at h
  have := h (x, y) (List.mem_iff_getElem?.mpr ⟨j, by rw [List.getElem?_zip_eq_some]; exact ⟨hx, hy⟩⟩)
  simpa using this
theorem stF_stair {rows : List (List Int)} (ht : tabI rows = true) : isStairI (stF rows) = true := by
  obtain ⟨hp, hn⟩ := tabI_mem ht
  have ht2 := ht
  simp only [tabI, Bool.and_eq_true, decide_eq_true_eq] at ht2
  obtain ⟨hsrt, hl, hrise, hch⟩ := ht2
  refine stair_by fun k e hk => ?_
  have hkl : k < rows.flatten.length := by
    have := (List.getElem?_eq_some_iff.mp hk).1
    simpa using this
  have hmem : (k : Int) ∈ rows.flatten := by
    have hperm := sortI_perm rows.flatten
    rw [hsrt] at hperm
    exact hperm.mem_iff.mp (by unfold rangeI; exact List.mem_map.mpr ⟨k, by simpa using hkl, rfl⟩)
  obtain ⟨q, hq, hiq⟩ := List.mem_flatten.mp hmem
  obtain ⟨w, hw⟩ := List.mem_iff_getElem?.mp hq
  have hg := (stF_get hp hn hw hiq).2.2
  have ek : ((k : Int).toNat) = k := by omega
  rw [ek, hk] at hg
  obtain rfl := Option.some.inj hg
  unfold okAt
  cases w with
  | zero => simp
  | succ v =>
    have hvl : v < rows.length := by have := (List.getElem?_eq_some_iff.mp hw).1; omega
    have hv : rows[v]? = some rows[v] := List.getElem?_eq_getElem hvl
    generalize rows[v] = p at hv
    obtain ⟨c1, c2⟩ := chainI_at hch hv hw
    obtain ⟨j, hj⟩ := List.mem_iff_getElem?.mp hiq
    have hjl : j < p.length := by have := (List.getElem?_eq_some_iff.mp hj).1; omega
    have hpj : p[j]? = some p[j] := List.getElem?_eq_getElem hjl
    have hlt := ltsI_at c2 hpj hj
    have r1 := rise_pw (List.all_eq_true.mp hrise q hq)
    have r2 := rise_pw (List.all_eq_true.mp hrise p (List.mem_of_getElem? hv))
    have n1 : ((stF rows).take k).count (((v + 1 : Nat) : Nat) : Int) = j := by
      rw [← rowF_len, ← rowF_cut, stF_row ht hw, filter_take r1 hj, List.length_take]
      have := (List.getElem?_eq_some_iff.mp hj).1
      omega
    have n2 : j + 1 ≤ ((stF rows).take k).count ((v : Nat) : Int) := by
      rw [← rowF_len, ← rowF_cut, stF_row ht hv]
      exact filter_more r2 hpj hlt
    have e1 : (((v + 1 : Nat) : Int) - 1) = ((v : Nat) : Int) := by omega
    rw [e1, n1]
    simp
    exact ⟨by omega, Or.inr n2⟩
theorem stF_rows {rows : List (List Int)} (ht : tabI rows = true) (h0 : rows ≠ []) (hne : ∀ r ∈ rows, r ≠ []) : rowsF (stF rows) = rows := by
  obtain ⟨hp, hn⟩ := tabI_mem ht
  have hst := stF_stair ht
  have hlast : rows.length - 1 < rows.length := by have := List.length_pos_iff.mpr h0; omega
  have hr : rows[rows.length - 1]? = some rows[rows.length - 1] := List.getElem?_eq_getElem hlast
  generalize rows[rows.length - 1] = r at hr
  have hrn := hne r (List.mem_of_getElem? hr)
  obtain ⟨i, hi⟩ := List.exists_mem_of_ne_nil r hrn
  have hg := (stF_get hp hn hr hi).2.2
  have hm := List.mem_of_getElem? hg
  have s0 : stF rows ≠ [] := fun z => by rw [z] at hm; cases hm
  have hge := maxI_ge _ hm
  have hmx := maxI_mem s0
  obtain ⟨k, hk⟩ := List.mem_iff_getElem?.mp hmx
  have hkl : k < rows.flatten.length := by
    have := (List.getElem?_eq_some_iff.mp hk).1
    simpa using this
  have hlt : maxI (stF rows) < rows.length := by
    by_cases c : mxN (stF rows) < rows.length
    · unfold mxN at c; omega
    · exfalso
      unfold stF at hk
      rw [List.getElem?_map, List.getElem?_range hkl] at hk
      simp only [Option.map_some, Option.some.injEq] at hk
      have ht2 := ht
      simp only [tabI, Bool.and_eq_true, decide_eq_true_eq] at ht2
      have hmem : (k : Int) ∈ rows.flatten := by
        have hperm := sortI_perm rows.flatten
        rw [ht2.1] at hperm
        exact hperm.mem_iff.mp (by unfold rangeI; exact List.mem_map.mpr ⟨k, by simpa using hkl, rfl⟩)
      obtain ⟨q, hq, hiq⟩ := List.mem_flatten.mp hmem
      have hex : ∃ q ∈ rows, (decide ((k : Int) ∈ q)) = true := ⟨q, hq, by simpa using hiq⟩
      have := List.findIdx_lt_length_of_exists (p := fun q : List Int => decide ((k : Int) ∈ q)) hex
      unfold mxN at c
      unfold stF at c
      rw [← hk] at c
      omega
  have hmn : mxN (stF rows) + 1 = rows.length := by unfold mxN; omega
  unfold rowsF
  rw [hmn]
  refine List.ext_getElem? fun v => ?_
  rw [List.getElem?_map]
  by_cases c : v < rows.length
  · rw [List.getElem?_range c]
    have hv : rows[v]? = some rows[v] := List.getElem?_eq_getElem c
    rw [hv]
    simp only [Option.map_some]
    rw [stF_row ht hv]
  · rw [List.getElem?_eq_none (by simpa using c), List.getElem?_eq_none (by omega)]; rfl
/-- the law's own test -/
theorem tab_iff {rows : List (List Int)} (h0 : rows ≠ []) (hne : ∀ r ∈ rows, r ≠ []) (hl : rows.flatten.length ≤ 60) : tabI rows = (isStairI (stF rows) && decide (rowsF (stF rows) = rows)) := by
  cases hc : tabI rows with
  | true => rw [stF_stair hc, stF_rows hc h0 hne]; simp
  | false =>
    symm
    rw [Bool.and_eq_false_iff]
    cases hs : isStairI (stF rows) with
    | false => exact Or.inl rfl
    | true =>
      refine Or.inr (decide_eq_false fun e => ?_)
      have : tabI (rowsF (stF rows)) = true := tabI_stair hs (fun z => ?_) (by simpa using hl)
      · rw [e, hc] at this; cases this
      · have hz := congrArg List.length z
        rw [stF_len] at hz
        obtain ⟨r, hr⟩ := List.exists_mem_of_ne_nil rows h0
        obtain ⟨i, hi⟩ := List.exists_mem_of_ne_nil r (hne r hr)
        have := List.mem_flatten.mpr ⟨r, hr, hi⟩
        rw [List.length_eq_zero_iff.mp hz] at this
        cases this
end Pw
set_option Elab.async false
set_option linter.all false
set_option maxRecDepth 100000
set_option maxHeartbeats 1000000
/-! insertion, row by row -/
namespace Pw
open PySem PySem.Spec PyProof.Rows L2
/-- row insertion: the rows, and the row that grows -/
def insR : List (List Int) → Int → List (List Int) × Nat
  | [], x => ([[x]], 0)
  | r :: rs, x => if x < maxI r then
      ((r.set (r.filter fun y => decide (y < x)).length x) :: (insR rs (r.getD (r.filter fun y => decide (y < x)).length 0)).1, (insR rs (r.getD (r.filter fun y => decide (y < x)).length 0)).2 + 1)
    else ((r ++ [x]) :: rs, 0)
/-- the row where the part below t grows -/
def posR (t : Int) : List (List Int) → Int → Nat
  | [], _ => 0
  | r :: rs, x => if x < maxI r then
      (if r.getD (r.filter fun y => decide (y < x)).length 0 < t then posR t rs (r.getD (r.filter fun y => decide (y < x)).length 0) + 1 else 0)
    else 0
def cntR (t : Int) (rows : List (List Int)) (v : Nat) : Nat := (rows.getD v []).countP fun y => decide (y < t)
/-- rising rows of different entries, none of them empty -/
structure Tab (rows : List (List Int)) : Prop where
  rise : ∀ r ∈ rows, r.Pairwise (· < ·)
  nd : rows.flatten.Nodup
  ne : ∀ r ∈ rows, r ≠ []
theorem rise_split : ∀ {r : List Int} {x : Int}, r.Pairwise (· < ·) → x ∉ r → ∃ a b, r = a ++ b ∧ (r.filter fun y => decide (y < x)) = a ∧ (∀ y ∈ a, y < x) ∧ ∀ y ∈ b, x < y
  | [], x, _, _ => ⟨[], [], rfl, rfl, by simp, by simp⟩
  | c :: r, x, h, hx => by
    rw [List.pairwise_cons] at h
    by_cases hc : c < x
    · obtain ⟨a, b, e, e2, h1, h2⟩ := rise_split (x := x) h.2 fun z => hx (List.mem_cons_of_mem _ z)
      refine ⟨c :: a, b, by rw [e]; rfl, by rw [List.filter_cons_of_pos (by simpa using hc), e2], fun y hy => ?_, h2⟩
      rcases List.mem_cons.mp hy with rfl | hy
      · exact hc
      · exact h1 y hy
    · have hcx : x < c := by
        have : x ≠ c := fun z => hx (z ▸ List.mem_cons_self ..)
        omega
      refine ⟨[], c :: r, rfl, List.filter_eq_nil_iff.mpr fun y hy => ?_, by simp, fun y hy => ?_⟩
      · rcases List.mem_cons.mp hy with rfl | hy
        · simp; omega
        · have := h.1 y hy
          simp; omega
      · rcases List.mem_cons.mp hy with rfl | hy
        · exact hcx
        · have := h.1 y hy
          omega
/-- what is pushed out -/
theorem bump {r : List Int} {x : Int} (h : r.Pairwise (· < ·)) (hx : x ∉ r) (hm : x < maxI r) (h0 : r ≠ []) : ∃ a y b, r = a ++ y :: b ∧ (r.filter fun y => decide (y < x)).length = a.length ∧ (∀ z ∈ a, z < x) ∧ x < y ∧ (∀ z ∈ b, y < z) ∧
    r.set (r.filter fun y => decide (y < x)).length x = a ++ x :: b ∧ r.getD (r.filter fun y => decide (y < x)).length 0 = y := by
  obtain ⟨a, b, e, e2, h1, h2⟩ := rise_split h hx
  cases b with
  | nil =>
    exfalso
    have := maxI_mem h0
    rw [e, List.append_nil] at this
    have := h1 _ this
    rw [← List.append_nil a, ← e] at this
    omega
  | cons y b =>
    refine ⟨a, y, b, e, by rw [e2], h1, h2 y (by simp), ?_, ?_, ?_⟩
    · rw [e, List.pairwise_append] at h
      exact (List.pairwise_cons.mp h.2.1).1
    · rw [e2, e, List.set_append_right _ _ (Nat.le_refl _)]
      simp
    · rw [e2, e, List.getD_eq_getElem?_getD, List.getElem?_append_right (Nat.le_refl _)]
      simp
theorem Tab.tail {r : List Int} {rs : List (List Int)} (h : Tab (r :: rs)) : Tab rs where
  rise := fun q hq => h.rise q (List.mem_cons_of_mem _ hq)
  nd := by have := h.nd; rw [List.flatten_cons, List.nodup_append] at this; exact this.2.1
  ne := fun q hq => h.ne q (List.mem_cons_of_mem _ hq)
theorem Tab.out {r : List Int} {rs : List (List Int)} (h : Tab (r :: rs)) {y : Int} (hy : y ∈ r) : y ∉ rs.flatten := fun hm => by
  have := h.nd
  rw [List.flatten_cons, List.nodup_append] at this
  exact this.2.2 y hy y hm rfl
theorem last_lt {r : List Int} {x : Int} (hx : x ∉ r) (hm : ¬ x < maxI r) : ∀ y ∈ r, y < x := fun y hy => by
  have h1 := maxI_ge y hy
  have : y ≠ x := fun z => hx (z ▸ hy)
  omega
theorem ins_perm : ∀ {rows : List (List Int)} {x : Int}, Tab rows → x ∉ rows.flatten → (insR rows x).1.flatten.Perm (x :: rows.flatten)
  | [], x, _, _ => by simp [insR]
  | r :: rs, x, hT, hx => by
    have hxr : x ∉ r := fun z => hx (by simp [z])
    unfold insR
    by_cases hm : x < maxI r
    · rw [if_pos hm]
      obtain ⟨a, y, b, e, ek, h1, h2, h3, e4, e5⟩ := bump (hT.rise r (List.mem_cons_self ..)) hxr hm (hT.ne r (List.mem_cons_self ..))
      rw [e4, e5]
      have ih := ins_perm (x := y) hT.tail (hT.out (by rw [e]; simp))
      simp only [List.flatten_cons]
      refine (List.Perm.append_left _ ih).trans ?_
      rw [e]
      simp only [List.append_assoc, List.cons_append]
      refine List.perm_middle.trans (List.Perm.cons _ ?_)
      refine List.Perm.append_left _ ?_
      exact List.perm_middle
    · rw [if_neg hm]
      simp only [List.flatten_cons, List.append_assoc, List.cons_append, List.nil_append]
      exact List.perm_middle
theorem ins_tab : ∀ {rows : List (List Int)} {x : Int}, Tab rows → x ∉ rows.flatten → Tab (insR rows x).1 := by
  intro rows x hT hx
  refine ⟨?_, ((ins_perm hT hx).nodup_iff).mpr (List.nodup_cons.mpr ⟨hx, hT.nd⟩), ?_⟩
  · revert x
    induction rows with
    | nil => intro x _ r hr; simp [insR] at hr; subst hr; simp
    | cons r rs ih =>
      intro x hx q hq
      have hxr : x ∉ r := fun z => hx (by simp [z])
      unfold insR at hq
      by_cases hm : x < maxI r
      · rw [if_pos hm] at hq
        obtain ⟨a, y, b, e, ek, h1, h2, h3, e4, e5⟩ := bump (hT.rise r (List.mem_cons_self ..)) hxr hm (hT.ne r (List.mem_cons_self ..))
        rw [e4, e5] at hq
        rcases List.mem_cons.mp hq with rfl | hq
        · have hr := hT.rise r (List.mem_cons_self ..)
          rw [e, List.pairwise_append] at hr
          rw [List.pairwise_append]
          refine ⟨hr.1, List.pairwise_cons.mpr ⟨fun z hz => ?_, (List.pairwise_cons.mp hr.2.1).2⟩, fun u hu z hz => ?_⟩
          · have := h3 z hz; omega
          · rcases List.mem_cons.mp hz with rfl | hz
            · exact h1 u hu
            · have := h1 u hu; have := h3 z hz; omega
        · exact ih hT.tail (hT.out (y := y) (by rw [e]; simp)) q hq
      · rw [if_neg hm] at hq
        rcases List.mem_cons.mp hq with rfl | hq
        · rw [List.pairwise_append]
          refine ⟨hT.rise r (List.mem_cons_self ..), by simp, fun u hu z hz => ?_⟩
          rw [List.mem_singleton.mp hz]
          exact last_lt hxr hm u hu
        · exact hT.rise q (List.mem_cons_of_mem _ hq)
  · revert x
    induction rows with
    | nil => intro x _ r hr; simp [insR] at hr; subst hr; simp
    | cons r rs ih =>
      intro x hx q hq
      have hxr : x ∉ r := fun z => hx (by simp [z])
      unfold insR at hq
      by_cases hm : x < maxI r
      · rw [if_pos hm] at hq
        obtain ⟨a, y, b, e, ek, h1, h2, h3, e4, e5⟩ := bump (hT.rise r (List.mem_cons_self ..)) hxr hm (hT.ne r (List.mem_cons_self ..))
        rw [e4, e5] at hq
        rcases List.mem_cons.mp hq with rfl | hq
        · simp
        · exact ih hT.tail (hT.out (y := y) (by rw [e]; simp)) q hq
      · rw [if_neg hm] at hq
        rcases List.mem_cons.mp hq with rfl | hq
        · simp
        · exact hT.ne q (List.mem_cons_of_mem _ hq)
@[simp] theorem cntR_zero {t : Int} {r : List Int} {rs : List (List Int)} : cntR t (r :: rs) 0 = r.countP fun y => decide (y < t) := rfl
@[simp] theorem cntR_succ {t : Int} {r : List Int} {rs : List (List Int)} {v : Nat} : cntR t (r :: rs) (v + 1) = cntR t rs v := rfl
@[simp] theorem cntR_nil {t : Int} {v : Nat} : cntR t [] v = 0 := by simp [cntR]
theorem countP_lt_all {t : Int} {l : List Int} (h : ∀ z ∈ l, z < t) : l.countP (fun y => decide (y < t)) = l.length := List.countP_eq_length.mpr fun z hz => by simpa using h z hz
theorem countP_ge_all {t : Int} {l : List Int} (h : ∀ z ∈ l, t ≤ z) : l.countP (fun y => decide (y < t)) = 0 := List.countP_eq_zero.mpr fun z hz => by have := h z hz; simp; omega
theorem cnt_ins {t : Int} : ∀ {rows : List (List Int)} {x : Int} {v : Nat}, Tab rows → x ∉ rows.flatten → cntR t (insR rows x).1 v = cntR t rows v + if x < t ∧ v = posR t rows x then 1 else 0
  | [], x, v, _, _ => by
    simp only [insR, posR, cntR_nil]
    cases v with
    | zero => by_cases c : x < t <;> simp [c, List.countP_cons]
    | succ v => simp
  | r :: rs, x, v, hT, hx => by
    have hxr : x ∉ r := fun z => hx (by simp [z])
    unfold insR posR
    by_cases hm : x < maxI r
    · rw [if_pos hm, if_pos hm]
      obtain ⟨a, y, b, e, ek, h1, h2, h3, e4, e5⟩ := bump (hT.rise r (List.mem_cons_self ..)) hxr hm (hT.ne r (List.mem_cons_self ..))
      rw [e4, e5]
      have ih := fun v => cnt_ins (t := t) (v := v) (x := y) hT.tail (hT.out (by rw [e]; simp))
      cases v with
      | zero =>
        simp only [cntR_zero]
        rw [e, List.countP_append, List.countP_append, List.countP_cons, List.countP_cons]
        by_cases c1 : x < t
        · by_cases c2 : y < t
          · simp [c1, c2]
          · simp [c1, c2]; omega
        · have c2 : ¬ y < t := by omega
          simp [c1, c2]
      | succ v =>
        simp only [cntR_succ]
        rw [ih v]
        by_cases c2 : y < t
        · have c1 : x < t := by omega
          simp [c1, c2]
        · simp [c2]
    · rw [if_neg hm, if_neg hm]
      cases v with
      | zero =>
        simp only [cntR_zero]
        rw [List.countP_append]
        by_cases c1 : x < t <;> simp [c1, List.countP_cons]
      | succ v => simp
/-- the path does not change its mind, unless the new bound lies on it -/
theorem pos_step {j : Int} : ∀ {rows : List (List Int)} {x : Int}, Tab rows → x ∉ rows.flatten → x < j → (j ∉ rows.flatten → posR (j + 1) rows x = posR j rows x) ∧
    ∀ (a : Nat) (q : List Int), rows[a]? = some q → j ∈ q → (posR j rows x = a ∧ posR (j + 1) rows x = a + 1) ∨ (posR j rows x ≠ a ∧ posR (j + 1) rows x = posR j rows x)
  | [], x, _, _, _ => ⟨fun _ => rfl, fun a q h => by simp at h⟩
  | r :: rs, x, hT, hx, hj => by
    have hxr : x ∉ r := fun z => hx (by simp [z])
    unfold posR
    by_cases hm : x < maxI r
    · rw [if_pos hm, if_pos hm]
      obtain ⟨a, y, b, e, ek, h1, h2, h3, e4, e5⟩ := bump (hT.rise r (List.mem_cons_self ..)) hxr hm (hT.ne r (List.mem_cons_self ..))
      rw [e5]
      have hyr : y ∈ r := by rw [e]; simp
      have hyo := hT.out hyr
      refine ⟨fun hn => ?_, fun c q hq hjq => ?_⟩
      · have hyj : y ≠ j := fun z => hn (by rw [← z]; simp [hyr])
        by_cases c2 : y < j
        · have c3 : y < j + 1 := by omega
          rw [if_pos c2, if_pos c3]
          rw [(pos_step hT.tail hyo c2).1 fun z => hn (by rw [List.flatten_cons]; exact List.mem_append_right _ z)]
        · have c3 : ¬ y < j + 1 := by omega
          rw [if_neg c2, if_neg c3]
      · cases c with
        | zero =>
          simp at hq; subst hq
          have hge : y ≤ j := by
            rw [e] at hjq
            rcases List.mem_append.mp hjq with z | z
            · have := h1 j z; omega
            · rcases List.mem_cons.mp z with z | z
              · omega
              · have := h3 j z; omega
          by_cases c2 : y < j
          · right
            have c3 : y < j + 1 := by omega
            rw [if_pos c2, if_pos c3]
            have hjn : j ∉ rs.flatten := hT.out hjq
            exact ⟨by omega, by rw [(pos_step hT.tail hyo c2).1 hjn]⟩
          · left
            have hyj : y = j := by omega
            have c3 : y < j + 1 := by omega
            rw [if_neg c2, if_pos c3]
            refine ⟨rfl, ?_⟩
            have : posR (j + 1) rs y = 0 := by
              cases rs with
              | nil => rfl
              | cons r2 rs =>
                have hyr2 : y ∉ r2 := fun z => hyo (by simp [z])
                unfold posR
                by_cases hm2 : y < maxI r2
                · rw [if_pos hm2]
                  obtain ⟨_, y2, _, _, _, _, g2, _, _, g5⟩ := bump (hT.tail.rise r2 (List.mem_cons_self ..)) hyr2 hm2 (hT.tail.ne r2 (List.mem_cons_self ..))
                  rw [g5, if_neg (by omega)]
                · rw [if_neg hm2]
            rw [this]
        | succ c =>
          simp at hq
          have hjf : j ∈ rs.flatten := List.mem_flatten.mpr ⟨q, List.mem_of_getElem? hq, hjq⟩
          have hyj : y ≠ j := fun z => hyo (z ▸ hjf)
          by_cases c2 : y < j
          · have c3 : y < j + 1 := by omega
            rw [if_pos c2, if_pos c3]
            rcases (pos_step hT.tail hyo c2).2 c q hq hjq with ⟨g1, g2⟩ | ⟨g1, g2⟩
            · left; exact ⟨by omega, by omega⟩
            · right; exact ⟨by omega, by omega⟩
          · have c3 : ¬ y < j + 1 := by omega
            rw [if_neg c2, if_neg c3]
            right; exact ⟨by omega, rfl⟩
    · rw [if_neg hm, if_neg hm]
      refine ⟨fun _ => rfl, fun c q hq hjq => ?_⟩
      cases c with
      | zero =>
        simp at hq; subst hq
        have := last_lt hxr hm j hjq
        omega
      | succ c => right; exact ⟨by omega, rfl⟩
end Pw
set_option Elab.async false
set_option linter.all false
set_option maxRecDepth 100000
set_option maxHeartbeats 1000000
/-! insertion: the shape stays one, the law of growth -/
namespace Pw
open PySem PySem.Spec PyProof.Rows L2
/-- no lower row has more below any bound -/
def ColC (rows : List (List Int)) : Prop := ∀ (t : Int) (v : Nat), cntR t rows (v + 1) ≤ cntR t rows v
theorem ColC.tail {r : List Int} {rs : List (List Int)} (h : ColC (r :: rs)) : ColC rs := fun t v => by simpa using h t (v + 1)
theorem countP_mono {a b : Int} (h : a ≤ b) (l : List Int) : l.countP (fun y => decide (y < a)) ≤ l.countP fun y => decide (y < b) :=
  List.countP_mono_left fun x _ hx => by simp at hx ⊢; omega
theorem countP_mem {a b : Int} : ∀ {l : List Int}, (∃ z ∈ l, a ≤ z ∧ z < b) → a ≤ b → l.countP (fun y => decide (y < a)) + 1 ≤ l.countP fun y => decide (y < b)
  | [], h, _ => by obtain ⟨z, hz, _⟩ := h; cases hz
  | c :: l, h, hab => by
    obtain ⟨z, hz, h1, h2⟩ := h
    rw [List.countP_cons, List.countP_cons]
    rcases List.mem_cons.mp hz with rfl | hz
    · have := countP_mono hab l
      have c1 : ¬ z < a := by omega
      simp [c1, h2]; omega
    · have ih := countP_mem (l := l) ⟨z, hz, h1, h2⟩ hab
      by_cases c1 : c < a
      · have c2 : c < b := by omega
        simp [c1, c2]; omega
      · simp [c1]; omega
/-- where the part below t grows, there is room -/
theorem pos_room {t : Int} : ∀ {rows : List (List Int)} {x : Int} {p : Nat}, Tab rows → ColC rows → x ∉ rows.flatten → x < t → posR t rows x = p + 1 → cntR t rows (p + 1) + 1 ≤ cntR t rows p
  | [], x, p, _, _, _, _, h => by simp [posR] at h
  | r :: rs, x, p, hT, hC, hx, hxt, h => by
    have hxr : x ∉ r := fun z => hx (by simp [z])
    unfold posR at h
    by_cases hm : x < maxI r
    · rw [if_pos hm] at h
      obtain ⟨a, y, b, e, ek, h1, h2, h3, e4, e5⟩ := bump (hT.rise r (List.mem_cons_self ..)) hxr hm (hT.ne r (List.mem_cons_self ..))
      rw [e5] at h
      have hyr : y ∈ r := by rw [e]; simp
      have hyo := hT.out hyr
      by_cases c2 : y < t
      · rw [if_pos c2] at h
        have h : posR t rs y = p := by omega
        cases p with
        | zero =>
          simp only [cntR_succ, cntR_zero]
          have hk : r.countP (fun z => decide (z < y)) + 1 ≤ r.countP fun z => decide (z < t) := countP_mem ⟨y, hyr, Int.le_refl _, c2⟩ (by omega)
          have hcol := hC y 0
          simp only [cntR_succ, cntR_zero] at hcol
          have : cntR t rs 0 ≤ cntR y rs 0 := by
            cases rs with
            | nil => simp
            | cons r2 rs =>
              have hyr2 : y ∉ r2 := fun z => hyo (by simp [z])
              simp only [cntR_zero]
              unfold posR at h
              by_cases hm2 : y < maxI r2
              · rw [if_pos hm2] at h
                obtain ⟨a2, y2, b2, g0, _, g1, g2, g3, _, g5⟩ := bump (hT.tail.rise r2 (List.mem_cons_self ..)) hyr2 hm2 (hT.tail.ne r2 (List.mem_cons_self ..))
                rw [g5] at h
                have c3 : ¬ y2 < t := fun z => by rw [if_pos z] at h; omega
                refine List.countP_mono_left fun z hz hzt => ?_
                simp at hzt ⊢
                rw [g0] at hz
                rcases List.mem_append.mp hz with hz | hz
                · exact g1 z hz
                · rcases List.mem_cons.mp hz with rfl | hz
                  · omega
                  · have := g3 z hz; omega
              · have := last_lt hyr2 hm2
                refine List.countP_mono_left fun z hz hzt => ?_
                have := this z hz
                simpa using this
          omega
        | succ p =>
          have := pos_room hT.tail hC.tail hyo c2 h
          simpa using this
      · rw [if_neg c2] at h; omega
    · rw [if_neg hm] at h; omega
theorem ins_col {rows : List (List Int)} {x : Int} (hT : Tab rows) (hC : ColC rows) (hx : x ∉ rows.flatten) : ColC (insR rows x).1 := fun t v => by
  rw [cnt_ins hT hx, cnt_ins hT hx]
  have h1 := hC t v
  by_cases c : x < t
  · by_cases c2 : v + 1 = posR t rows x
    · have := pos_room hT hC hx c c2.symm
      have c3 : ¬ v = posR t rows x := by omega
      simp [c, c2, c3]
      rw [← c2]; omega
    · simp [c2]; omega
  · simp [c]; omega
/-- the row that grows is where all of it grows -/
theorem pos_all {t : Int} : ∀ {rows : List (List Int)} {x : Int}, Tab rows → x ∉ rows.flatten → (∀ y ∈ rows.flatten, y < t) → posR t rows x = (insR rows x).2
  | [], x, _, _, _ => rfl
  | r :: rs, x, hT, hx, h => by
    have hxr : x ∉ r := fun z => hx (by simp [z])
    unfold posR insR
    by_cases hm : x < maxI r
    · rw [if_pos hm, if_pos hm]
      obtain ⟨a, y, b, e, ek, h1, h2, h3, e4, e5⟩ := bump (hT.rise r (List.mem_cons_self ..)) hxr hm (hT.ne r (List.mem_cons_self ..))
      rw [e5]
      have hyr : y ∈ r := by rw [e]; simp
      rw [if_pos (h y (by simp [hyr])), pos_all hT.tail (hT.out hyr) fun z hz => h z (by rw [List.flatten_cons]; exact List.mem_append_right _ hz)]
    · rw [if_neg hm, if_neg hm]
theorem ins_le : ∀ {rows : List (List Int)} {x : Int}, (insR rows x).2 ≤ rows.length ∧ (insR rows x).1.length ≤ rows.length + 1
  | [], x => by simp [insR]
  | r :: rs, x => by
    unfold insR
    by_cases hm : x < maxI r
    · rw [if_pos hm]
      generalize r.getD (r.filter fun y => decide (y < x)).length 0 = z
      have := ins_le (rows := rs) (x := z)
      simp; omega
    · rw [if_neg hm]; simp
theorem pos_le {t : Int} : ∀ {rows : List (List Int)} {x : Int}, posR t rows x ≤ rows.length
  | [], x => by simp [posR]
  | r :: rs, x => by
    unfold posR
    by_cases hm : x < maxI r
    · rw [if_pos hm]
      generalize r.getD (r.filter fun y => decide (y < x)).length 0 = z
      have := pos_le (t := t) (rows := rs) (x := z)
      split
      · simp; omega
      · simp
    · rw [if_neg hm]; simp
/-! the whole insertion -/
def insAll (w : List Int) : List (List Int) × List Int := w.foldl (fun st x => ((insR st.1 x).1, st.2 ++ [((insR st.1 x).2 : Int)])) ([], [])
theorem insAll_snoc {w : List Int} {x : Int} : insAll (w ++ [x]) = ((insR (insAll w).1 x).1, (insAll w).2 ++ [((insR (insAll w).1 x).2 : Int)]) := by
  unfold insAll
  rw [List.foldl_append]; rfl
@[simp] theorem insAll_nil : insAll [] = ([], []) := rfl
structure InsG (w : List Int) : Prop where
  tab : Tab (insAll w).1
  col : ColC (insAll w).1
  perm : (insAll w).1.flatten.Perm w
  len : (insAll w).2.length = w.length
  rows : (insAll w).1.length ≤ w.length
  cnt : ∀ v : Nat, (insAll w).2.count (v : Int) = ((insAll w).1.getD v []).length
  stair : isStairI (insAll w).2 = true
theorem ins_len : ∀ {rows : List (List Int)} {x : Int} {v : Nat}, ((insR rows x).1.getD v []).length = (rows.getD v []).length + if v = (insR rows x).2 then 1 else 0
  | [], x, v => by
    unfold insR
    cases v <;> simp
  | r :: rs, x, v => by
    unfold insR
    by_cases hm : x < maxI r
    · rw [if_pos hm]
      cases v with
      | zero => simp
      | succ v =>
        have := ins_len (rows := rs) (x := r.getD (r.filter fun y => decide (y < x)).length 0) (v := v)
        simp at this ⊢
        exact this
    · rw [if_neg hm]
      cases v <;> simp
theorem insAll_G {w : List Int} : w.Nodup → InsG w := by
  induction w using rev_ind with
  | h0 => intro _; exact ⟨⟨by simp, by simp, by simp⟩, fun t v => by simp, by simp, rfl, by simp, fun v => by simp, rfl⟩
  | h1 l x ih =>
    intro hn
    rw [List.nodup_append] at hn
    have hxl : x ∉ l := fun z => hn.2.2 x z x (by simp) rfl
    have h := ih hn.1
    have hx : x ∉ (insAll l).1.flatten := fun z => hxl (h.perm.mem_iff.mp z)
    have hcnt : ∀ v : Nat, ((insAll l).2 ++ [((insR (insAll l).1 x).2 : Int)]).count (v : Int) = ((insR (insAll l).1 x).1.getD v []).length := fun v => by
      rw [List.count_append, h.cnt, ins_len]
      by_cases c : v = (insR (insAll l).1 x).2
      · simp [c]
      · have c' : ¬ ((insR (insAll l).1 x).2 : Int) = (v : Int) := by omega
        simp [c, c', List.count_cons]
    rw [show InsG (l ++ [x]) ↔ InsG (l ++ [x]) from Iff.rfl]
    refine ⟨?_, ?_, ?_, ?_, ?_, ?_, ?_⟩ <;> rw [insAll_snoc]
    · exact ins_tab h.tab hx
    · exact ins_col h.tab h.col hx
    · exact (ins_perm h.tab hx).trans ((List.Perm.cons _ h.perm).trans (List.perm_append_comm (l₁ := [x]) (l₂ := l)))
    · simp [h.len]
    · have := (ins_le (rows := (insAll l).1) (x := x)).2
      have := h.rows
      simp; omega
    · exact hcnt
    · show isStairI ((insAll l).2 ++ [((insR (insAll l).1 x).2 : Int)]) = true
      unfold isStairI
      rw [stairFrom_app]
      have hs := h.stair
      unfold isStairI at hs
      rw [hs, Bool.true_and, List.nil_append]
      show (okAt (insAll l).2 ((insR (insAll l).1 x).2 : Int) && stairFrom _ []) = true
      simp only [stairFrom, Bool.and_true]
      unfold okAt
      obtain ⟨e, he⟩ : ∃ e, (insR (insAll l).1 x).2 = e := ⟨_, rfl⟩
      rw [he]
      cases e with
      | zero => simp
      | succ p =>
        obtain ⟨T, hT⟩ : ∃ T : Int, (∀ y ∈ (insAll l).1.flatten, y < T) ∧ x < T := by
          refine ⟨(x :: (insAll l).1.flatten).foldl max 0 + 1, ?_, ?_⟩
          · intro y hy
            have := fmax_ge (x :: (insAll l).1.flatten) 0 y (List.mem_cons_of_mem _ (List.mem_cons_of_mem _ hy))
            omega
          · have := fmax_ge (x :: (insAll l).1.flatten) 0 x (List.mem_cons_of_mem _ (List.mem_cons_self ..))
            omega
        have hp := pos_all (t := T) h.tab hx hT.1
        rw [he] at hp
        have hr := pos_room h.tab h.col hx hT.2 hp
        have hall : ∀ v, cntR T (insAll l).1 v = ((insAll l).1.getD v []).length := fun v => by
          unfold cntR
          refine countP_lt_all fun z hz => hT.1 z ?_
          rw [List.getD_eq_getElem?_getD] at hz
          cases hg : (insAll l).1[v]? with
          | none => rw [hg] at hz; cases hz
          | some q => rw [hg] at hz; exact List.mem_flatten.mpr ⟨q, List.mem_of_getElem? hg, hz⟩
        rw [hall, hall, ← h.cnt, ← h.cnt] at hr
        have e1 : (((p + 1 : Nat) : Int) - 1) = (p : Int) := by omega
        rw [e1]
        simp only [Bool.and_eq_true, Bool.or_eq_true, decide_eq_true_eq]
        exact ⟨by omega, Or.inr hr⟩
end Pw
set_option Elab.async false
set_option linter.all false
set_option maxRecDepth 100000
set_option maxHeartbeats 1000000
/-! fixed points of an involution by the shape of its insertion -/
namespace Pw
open PySem PySem.Spec PyProof.Rows L2
theorem pos_self : ∀ {rows : List (List Int)} {y : Int}, Tab rows → y ∉ rows.flatten → posR (y + 1) rows y = 0
  | [], y, _, _ => rfl
  | r :: rs, y, hT, hx => by
    have hyr : y ∉ r := fun z => hx (by simp [z])
    unfold posR
    by_cases hm : y < maxI r
    · rw [if_pos hm]
      obtain ⟨_, y2, _, _, _, _, g2, _, _, g5⟩ := bump (hT.rise r (List.mem_cons_self ..)) hyr hm (hT.ne r (List.mem_cons_self ..))
      rw [g5, if_neg (by omega)]
    · rw [if_neg hm]
theorem countP_step {j : Int} : ∀ {l : List Int}, l.Nodup → l.countP (fun y => decide (y < j + 1)) = l.countP (fun y => decide (y < j)) + if j ∈ l then 1 else 0
  | [], _ => by simp
  | c :: l, h => by
    rw [List.nodup_cons] at h
    have ih := countP_step (j := j) h.2
    rw [List.countP_cons, List.countP_cons, ih]
    by_cases c1 : c = j
    · subst c1
      have c2 : ¬ c < c := by omega
      have c3 : c < c + 1 := by omega
      simp [h.1, c2, c3]
    · have c3 : ¬ j = c := fun z => c1 z.symm
      by_cases c2 : c < j
      · have c4 : c < j + 1 := by omega
        simp [c2, c4, c3]; omega
      · have c4 : ¬ c < j + 1 := by omega
        simp [c2, c4, c3]
theorem rise_nodup {r : List Int} (h : r.Pairwise (· < ·)) : r.Nodup := h.imp fun {a b} hab => by omega
theorem cnt_step {j : Int} {rows : List (List Int)} (hT : Tab rows) (v : Nat) : cntR (j + 1) rows v = cntR j rows v + if j ∈ rows.getD v [] then 1 else 0 := by
  unfold cntR
  refine countP_step ?_
  rw [List.getD_eq_getElem?_getD]
  cases hg : rows[v]? with
  | none => simp
  | some q => exact rise_nodup (hT.rise q (List.mem_of_getElem? hg))
open Classical in
/-- the law of growth -/
noncomputable def nextF (κ ρ μ : Nat → Nat) (b : Prop) : Nat → Nat := fun v =>
  if b then κ v + (if v = 0 then 1 else 0) else if ρ = μ then μ v + (if v = 0 then 0 else μ (v - 1) - κ (v - 1)) else μ v + (ρ v - κ v)
theorem nextF_sym {κ ρ μ : Nat → Nat} {b : Prop} (h1 : ∀ v, κ v ≤ ρ v) (h2 : ∀ v, κ v ≤ μ v) (v : Nat) : nextF κ ρ μ b v = nextF κ μ ρ b v := by
  unfold nextF
  by_cases hb : b
  · simp only [hb, if_true]
  · simp only [hb, if_false]
    by_cases e : ρ = μ
    · subst e; rfl
    · have e' : ¬ μ = ρ := fun z => e z.symm
      rw [if_neg e, if_neg e']
      have := h1 v
      have := h2 v
      omega
theorem grow {rows : List (List Int)} {x j : Int} (hT : Tab rows) (hx : x ∉ rows.flatten) (v : Nat) :
    cntR (j + 1) (insR rows x).1 v = nextF (cntR j rows) (cntR j (insR rows x).1) (cntR (j + 1) rows) (x = j) v := by
  rw [cnt_ins hT hx]
  have hρ : ∀ v, cntR j (insR rows x).1 v = cntR j rows v + if x < j ∧ v = posR j rows x then 1 else 0 := fun v => cnt_ins hT hx
  have hμ := fun v => cnt_step (j := j) hT v
  unfold nextF
  by_cases hb : x = j
  · subst hb
    have hno : ∀ v, x ∉ rows.getD v [] := fun v hm => by
      rw [List.getD_eq_getElem?_getD] at hm
      cases hg : rows[v]? with
      | none => rw [hg] at hm; cases hm
      | some q => rw [hg] at hm; exact hx (List.mem_flatten.mpr ⟨q, List.mem_of_getElem? hg, hm⟩)
    rw [if_pos rfl, hμ v, if_neg (hno v), pos_self hT hx]
    have : x < x + 1 := by omega
    simp [this]
  · rw [if_neg hb]
    by_cases c : x < j
    · have c1 : x < j + 1 := by omega
      obtain ⟨s1, s2⟩ := pos_step hT hx c
      by_cases hj : j ∈ rows.flatten
      · obtain ⟨q, hq, hjq⟩ := List.mem_flatten.mp hj
        obtain ⟨a, ha⟩ := List.mem_iff_getElem?.mp hq
        have hja : ∀ v, j ∈ rows.getD v [] ↔ v = a := fun v => by
          constructor
          · intro hm
            rw [List.getD_eq_getElem?_getD] at hm
            cases hg : rows[v]? with
            | none => rw [hg] at hm; cases hm
            | some q' => rw [hg] at hm; exact flat_uniq hT.nd hg hm ha hjq
          · rintro rfl
            rw [List.getD_eq_getElem?_getD, ha]; exact hjq
        rcases s2 a q ha hjq with ⟨g1, g2⟩ | ⟨g1, g2⟩
        · have e : (cntR j (insR rows x).1) = cntR (j + 1) rows := by
            funext u
            rw [hρ, hμ, g1]
            by_cases cu : u = a
            · have := (hja u).mpr cu
              rw [if_pos ⟨c, cu⟩, if_pos this]
            · have : ¬ j ∈ rows.getD u [] := fun z => cu ((hja u).mp z)
              rw [if_neg (fun z => cu z.2), if_neg this]
          rw [if_pos e, g2]
          congr 1
          cases v with
          | zero => simp
          | succ v =>
            have e9 : cntR (j + 1) rows (v + 1 - 1) - cntR j rows (v + 1 - 1) = if j ∈ rows.getD v [] then 1 else 0 := by
              show cntR (j + 1) rows v - cntR j rows v = _
              rw [hμ v]; omega
            rw [if_neg (show ¬ v + 1 = 0 by omega), e9]
            by_cases cv : v = a
            · have := (hja v).mpr cv
              rw [if_pos this, if_pos ⟨c1, by omega⟩]
            · have : ¬ j ∈ rows.getD v [] := fun z => cv ((hja v).mp z)
              rw [if_neg this, if_neg (fun z => cv (by omega))]
        · have e : ¬ (cntR j (insR rows x).1) = cntR (j + 1) rows := fun z => by
            have := congrFun z (posR j rows x)
            rw [hρ, hμ, if_pos ⟨c, rfl⟩, if_neg (fun z => g1 ((hja _).mp z))] at this
            omega
          rw [if_neg e, hρ v, g2]
          by_cases cv : v = posR j rows x
          · rw [if_pos ⟨c1, cv⟩, if_pos ⟨c, cv⟩]; omega
          · rw [if_neg (fun z => cv z.2), if_neg (fun z => cv z.2)]; omega
      · have hno : ∀ v, j ∉ rows.getD v [] := fun v hm => by
          rw [List.getD_eq_getElem?_getD] at hm
          cases hg : rows[v]? with
          | none => rw [hg] at hm; cases hm
          | some q => rw [hg] at hm; exact hj (List.mem_flatten.mpr ⟨q, List.mem_of_getElem? hg, hm⟩)
        have g2 := s1 hj
        have e : ¬ (cntR j (insR rows x).1) = cntR (j + 1) rows := fun z => by
          have := congrFun z (posR j rows x)
          rw [hρ, hμ, if_pos ⟨c, rfl⟩, if_neg (hno _)] at this
          omega
        rw [if_neg e, hρ v, g2]
        by_cases cv : v = posR j rows x
        · rw [if_pos ⟨c1, cv⟩, if_pos ⟨c, cv⟩]; omega
        · rw [if_neg (fun z => cv z.2), if_neg (fun z => cv z.2)]; omega
    · have c1 : ¬ x < j + 1 := by omega
      have e1 : ∀ v, cntR j (insR rows x).1 v = cntR j rows v := fun v => by rw [hρ, if_neg (fun z => c z.1)]; rfl
      rw [if_neg (fun z => c1 z.1)]
      by_cases e : (cntR j (insR rows x).1) = cntR (j + 1) rows
      · rw [if_pos e]
        have e2 : ∀ u, cntR (j + 1) rows u = cntR j rows u := fun u => by rw [← e, e1]
        rw [e2 (v - 1)]
        simp
      · rw [if_neg e, e1]; omega
/-- an involution -/
structure InvI (w : List Int) : Prop where
  rng : ∀ i ∈ w, 0 ≤ i ∧ i < w.length
  inv : ∀ i j : Nat, w[i]? = some (j : Int) → w[j]? = some (i : Int)
theorem InvI.nodup {w : List Int} (h : InvI w) : w.Nodup := by
  rw [List.nodup_iff_pairwise_ne, List.pairwise_iff_getElem]
  intro i j hi hj hij e
  have h1 := h.rng _ (List.getElem_mem hi)
  obtain ⟨k, hk⟩ := Int.eq_ofNat_of_zero_le h1.1
  have a1 := h.inv i k (by rw [List.getElem?_eq_getElem hi, hk])
  have a2 := h.inv j k (by rw [List.getElem?_eq_getElem hj, ← e, hk])
  rw [a1] at a2
  have := Option.some.inj a2
  omega
theorem insAll_take {w : List Int} {i : Nat} {x : Int} (hx : w[i]? = some x) : insAll (w.take (i + 1)) = ((insR (insAll (w.take i)).1 x).1, (insAll (w.take i)).2 ++ [((insR (insAll (w.take i)).1 x).2 : Int)]) := by
  have : w.take (i + 1) = w.take i ++ [x] := by rw [List.take_succ, hx]; rfl
  rw [this, insAll_snoc]
theorem take_out {w : List Int} (hn : w.Nodup) {i : Nat} {x : Int} (hx : w[i]? = some x) : x ∉ w.take i := fun hm => by
  obtain ⟨k, hk, e⟩ := List.mem_iff_getElem.mp hm
  have hkl : k < i := by simp at hk; omega
  rw [List.getElem_take] at e
  have hi := (List.getElem?_eq_some_iff.mp hx)
  obtain ⟨hi1, hi2⟩ := hi
  rw [List.nodup_iff_pairwise_ne, List.pairwise_iff_getElem] at hn
  exact hn k i (by omega) hi1 hkl (by rw [e, hi2])
theorem take_nodup {w : List Int} (hn : w.Nodup) (i : Nat) : (w.take i).Nodup := hn.sublist (List.take_sublist i w)
/-- the shapes of an involution are those of its mirror -/
theorem lam_sym {w : List Int} (hw : InvI w) : ∀ (i : Nat), i ≤ w.length → ∀ (j : Nat), j ≤ w.length → ∀ v, cntR (j : Int) (insAll (w.take i)).1 v = cntR (i : Int) (insAll (w.take j)).1 v
  | 0, _, j, hj, v => by
    have hG := insAll_G (take_nodup hw.nodup j)
    simp only [List.take_zero, insAll_nil, cntR_nil]
    unfold cntR
    rw [countP_ge_all]
    intro z hz
    rw [List.getD_eq_getElem?_getD] at hz
    cases hg : (insAll (w.take j)).1[v]? with
    | none => rw [hg] at hz; cases hz
    | some q =>
      rw [hg] at hz
      have := hG.perm.mem_iff.mp (List.mem_flatten.mpr ⟨q, List.mem_of_getElem? hg, hz⟩)
      exact (hw.rng z (List.mem_of_mem_take this)).1
  | i + 1, hi, 0, hj, v => by
    have hG := insAll_G (take_nodup hw.nodup (i + 1))
    simp only [List.take_zero, insAll_nil, cntR_nil]
    unfold cntR
    rw [show ((0 : Nat) : Int) = 0 from rfl, countP_ge_all]
    intro z hz
    rw [List.getD_eq_getElem?_getD] at hz
    cases hg : (insAll (w.take (i + 1))).1[v]? with
    | none => rw [hg] at hz; cases hz
    | some q =>
      rw [hg] at hz
      have := hG.perm.mem_iff.mp (List.mem_flatten.mpr ⟨q, List.mem_of_getElem? hg, hz⟩)
      exact (hw.rng z (List.mem_of_mem_take this)).1
  | i + 1, hi, j + 1, hj, v => by
    have hxi : w[i]? = some w[i] := List.getElem?_eq_getElem (by omega)
    have hxj : w[j]? = some w[j] := List.getElem?_eq_getElem (by omega)
    have hGi := insAll_G (take_nodup hw.nodup i)
    have hGj := insAll_G (take_nodup hw.nodup j)
    have oi : w[i] ∉ (insAll (w.take i)).1.flatten := fun z => take_out hw.nodup hxi (hGi.perm.mem_iff.mp z)
    have oj : w[j] ∉ (insAll (w.take j)).1.flatten := fun z => take_out hw.nodup hxj (hGj.perm.mem_iff.mp z)
    have a1 : ∀ v, cntR (j : Int) (insAll (w.take i)).1 v = cntR (i : Int) (insAll (w.take j)).1 v := lam_sym hw i (by omega) j (by omega)
    have a2 : ∀ v, cntR ((j + 1 : Nat) : Int) (insAll (w.take i)).1 v = cntR (i : Int) (insAll (w.take (j + 1))).1 v := lam_sym hw i (by omega) (j + 1) (by omega)
    have a3 : ∀ v, cntR (j : Int) (insAll (w.take (i + 1))).1 v = cntR ((i + 1 : Nat) : Int) (insAll (w.take j)).1 v := lam_sym hw (i + 1) hi j (by omega)
    have ei := insAll_take hxi
    have ej := insAll_take hxj
    have gi := grow (j := (j : Int)) hGi.tab oi v
    have gj := grow (j := (i : Int)) hGj.tab oj v
    have b1 : (w[i] = (j : Int)) = (w[j] = (i : Int)) := by
      refine propext ⟨fun e => ?_, fun e => ?_⟩
      · have := hw.inv i j (by rw [hxi, e])
        rw [hxj] at this; exact Option.some.inj this
      · have := hw.inv j i (by rw [hxj, e])
        rw [hxi] at this; exact Option.some.inj this
    have ei1 : (insAll (w.take (i + 1))).1 = (insR (insAll (w.take i)).1 w[i]).1 := by rw [ei]
    have ej1 : (insAll (w.take (j + 1))).1 = (insR (insAll (w.take j)).1 w[j]).1 := by rw [ej]
    rw [← ei1] at gi
    rw [← ej1] at gj
    have cj : ((j + 1 : Nat) : Int) = (j : Int) + 1 := by omega
    have ci : ((i + 1 : Nat) : Int) = (i : Int) + 1 := by omega
    rw [cj] at a2 ⊢
    rw [ci] at a3 ⊢
    rw [gi, gj, funext a1, funext a2, funext a3, b1]
    refine nextF_sym (fun u => ?_) (fun u => ?_) v
    · unfold cntR; exact countP_mono (by omega) _
    · rw [ej1, cnt_ins hGj.tab oj]; omega
/-! alternating sums -/
def sgn (v : Nat) : Int := if v % 2 = 0 then 1 else -1
def altF : Nat → (Nat → Nat) → Int
  | 0, _ => 0
  | N + 1, f => altF N f + sgn N * (f N : Nat)
theorem altF_add {f : Nat → Nat} {a : Nat} : ∀ N, altF N (fun v => f v + if v = a then 1 else 0) = altF N f + if a < N then sgn a else 0
  | 0 => by simp [altF]
  | N + 1 => by
    unfold altF
    rw [altF_add N]
    by_cases c : N = a
    · subst c
      have c1 : ¬ N < N := by omega
      have c2 : N < N + 1 := by omega
      simp [c1, c2, Int.mul_add]
      omega
    · by_cases c1 : a < N
      · have c2 : a < N + 1 := by omega
        simp [c, c1, c2]; omega
      · have c2 : ¬ a < N + 1 := by omega
        simp [c, c1, c2]
theorem altF_zero : ∀ N, altF N (fun _ => 0) = 0
  | 0 => rfl
  | N + 1 => by unfold altF; rw [altF_zero N]; simp
theorem sgn_succ (v : Nat) : sgn (v + 1) = - sgn v := by
  unfold sgn
  by_cases c : v % 2 = 0
  · have : (v + 1) % 2 = 1 := by omega
    simp [c, this]
  · have : (v + 1) % 2 = 0 := by omega
    simp [c, this]
/-- one step along the diagonal -/
theorem diag_step {w : List Int} (hw : InvI w) {i : Nat} (hi : i < w.length) {N : Nat} (hN : w.length + 2 ≤ N) :
    altF N (cntR ((i + 1 : Nat) : Int) (insAll (w.take (i + 1))).1) = altF N (cntR (i : Int) (insAll (w.take i)).1) + if w[i]? = some (i : Int) then 1 else 0 := by
  have hxi : w[i]? = some w[i] := List.getElem?_eq_getElem hi
  have hG := insAll_G (take_nodup hw.nodup i)
  have oi : w[i] ∉ (insAll (w.take i)).1.flatten := fun z => take_out hw.nodup hxi (hG.perm.mem_iff.mp z)
  have ei1 : (insAll (w.take (i + 1))).1 = (insR (insAll (w.take i)).1 w[i]).1 := by rw [insAll_take hxi]
  have gi := fun v => grow (j := (i : Int)) hG.tab oi v
  have hs : cntR (i : Int) (insAll (w.take (i + 1))).1 = cntR ((i : Int) + 1) (insAll (w.take i)).1 := by
    funext v
    have := lam_sym hw (i + 1) hi i (by omega) v
    rw [this]; rfl
  rw [ei1] at hs
  rw [ei1, show ((i + 1 : Nat) : Int) = (i : Int) + 1 by omega, funext gi, hs]
  have hρ : ∀ v, cntR ((i : Int) + 1) (insAll (w.take i)).1 v = cntR (i : Int) (insAll (w.take i)).1 v + if w[i] < (i : Int) ∧ v = posR (i : Int) (insAll (w.take i)).1 w[i] then 1 else 0 := fun v => by
    rw [← congrFun hs v]; exact cnt_ins hG.tab oi
  have hpl : posR (i : Int) (insAll (w.take i)).1 w[i] ≤ i := by
    refine Nat.le_trans pos_le (Nat.le_trans hG.rows ?_)
    simp; omega
  generalize posR (i : Int) (insAll (w.take i)).1 w[i] = p at hρ hpl
  by_cases hb : w[i] = (i : Int)
  · have e : (nextF (cntR (i : Int) (insAll (w.take i)).1) (cntR ((i : Int) + 1) (insAll (w.take i)).1) (cntR ((i : Int) + 1) (insAll (w.take i)).1) (w[i] = (i : Int))) = fun v => cntR (i : Int) (insAll (w.take i)).1 v + if v = 0 then 1 else 0 := by
      funext v; unfold nextF; rw [if_pos hb]
    rw [e, altF_add, if_pos (by omega), if_pos (by rw [hxi, hb])]
    rfl
  · rw [if_neg (by rw [hxi]; exact fun z => hb (Option.some.inj z))]
    by_cases c : w[i] < (i : Int)
    · have e : (nextF (cntR (i : Int) (insAll (w.take i)).1) (cntR ((i : Int) + 1) (insAll (w.take i)).1) (cntR ((i : Int) + 1) (insAll (w.take i)).1) (w[i] = (i : Int))) = fun v => (cntR (i : Int) (insAll (w.take i)).1 v + if v = p then 1 else 0) + if v = p + 1 then 1 else 0 := by
        funext v; unfold nextF; rw [if_neg hb, if_pos rfl, hρ v]
        have c1 : ∀ u, (if w[i] < (i : Int) ∧ u = p then 1 else 0) = (if u = p then 1 else 0) := fun u => by simp [c]
        rw [c1]
        cases v with
        | zero => simp
        | succ v =>
          rw [if_neg (show ¬ v + 1 = 0 by omega)]
          show _ + (cntR ((i : Int) + 1) (insAll (w.take i)).1 v - cntR (i : Int) (insAll (w.take i)).1 v) = _
          rw [hρ v, c1]
          by_cases cv : v = p
          · simp [cv]
          · simp [cv]
      rw [e, altF_add, altF_add, if_pos (by omega), if_pos (by omega), sgn_succ]
      omega
    · have e : (nextF (cntR (i : Int) (insAll (w.take i)).1) (cntR ((i : Int) + 1) (insAll (w.take i)).1) (cntR ((i : Int) + 1) (insAll (w.take i)).1) (w[i] = (i : Int))) = cntR (i : Int) (insAll (w.take i)).1 := by
        have h0 : ∀ u, cntR ((i : Int) + 1) (insAll (w.take i)).1 u = cntR (i : Int) (insAll (w.take i)).1 u := fun u => by rw [hρ u]; simp [c]
        funext v; unfold nextF; rw [if_neg hb, if_pos rfl, h0 v, h0 (v - 1)]
        simp
      rw [e]; omega
/-- the fixed points among the first k -/
def fixN (w : List Int) : Nat → Nat
  | 0 => 0
  | k + 1 => fixN w k + if w[k]? = some (k : Int) then 1 else 0
theorem diag {w : List Int} (hw : InvI w) {N : Nat} (hN : w.length + 2 ≤ N) : ∀ i, i ≤ w.length → altF N (cntR (i : Int) (insAll (w.take i)).1) = (fixN w i : Nat)
  | 0, _ => by
    simp only [List.take_zero, insAll_nil, fixN]
    have : cntR ((0 : Nat) : Int) [] = fun _ => 0 := by funext v; simp
    rw [this, altF_zero]; rfl
  | i + 1, hi => by
    rw [diag_step hw (by omega) hN, diag hw hN i (by omega), fixN]
    split <;> simp
def altS (s : List Int) : Int := (s.map fun e => sgn e.toNat).sum
theorem altS_F {N : Nat} {s : List Int} : (∀ e ∈ s, 0 ≤ e ∧ e < N) → altS s = altF N fun v => s.count (v : Int) := by
  induction s using rev_ind with
  | h0 => intro _; simp [altS, altF_zero]
  | h1 l e ih =>
    intro h
    have he := h e (by simp)
    have ih := ih fun x hx => h x (by simp [hx])
    have : (fun v : Nat => (l ++ [e]).count (v : Int)) = fun v : Nat => l.count (v : Int) + if v = e.toNat then 1 else 0 := by
      funext v
      rw [List.count_append]
      by_cases c : v = e.toNat
      · have : e = (v : Int) := by omega
        rw [if_pos c, this]; simp
      · have : ¬ e = (v : Int) := by omega
        rw [if_neg c, List.count_cons, List.count_nil, if_neg (by simpa using this)]
    rw [this, altF_add, if_pos (by omega), ← ih]
    simp [altS]
theorem altS_fix {w : List Int} (hw : InvI w) : altS (insAll w).2 = (fixN w w.length : Nat) := by
  have hG := insAll_G hw.nodup
  have hd := diag hw (N := w.length + 2) (Nat.le_refl _) w.length (Nat.le_refl _)
  rw [List.take_length] at hd
  rw [← hd, altS_F (N := w.length + 2)]
  · congr 1
    funext v
    rw [hG.cnt]
    unfold cntR
    symm
    refine countP_lt_all fun z hz => ?_
    rw [List.getD_eq_getElem?_getD] at hz
    cases hg : (insAll w).1[v]? with
    | none => rw [hg] at hz; cases hz
    | some q =>
      rw [hg] at hz
      exact (hw.rng z (hG.perm.mem_iff.mp (List.mem_flatten.mpr ⟨q, List.mem_of_getElem? hg, hz⟩))).2
  · intro e he
    have h1 := stair_nn hG.stair e he
    have h2 := stair_bound hG.stair e he
    rw [hG.len] at h2
    omega
/-! odd numbers -/
def oddN : Nat → (Nat → Nat) → Nat
  | 0, _ => 0
  | M + 1, f => oddN M f + f M % 2
theorem oddN_add {f : Nat → Nat} {a : Nat} : ∀ M, ((oddN M (fun v => f v + if v = a then 1 else 0) : Nat) : Int) = (oddN M f : Nat) + if a < M then sgn (f a) else 0
  | 0 => by simp [oddN]
  | M + 1 => by
    have ih := oddN_add (f := f) (a := a) M
    unfold oddN
    rw [Int.natCast_add, ih]
    by_cases c : M = a
    · subst c
      have c1 : ¬ M < M := by omega
      have c2 : M < M + 1 := by omega
      simp only [c1, c2, if_true, if_false]
      unfold sgn
      by_cases c3 : f M % 2 = 0
      · rw [if_pos c3]; omega
      · rw [if_neg c3]; omega
    · by_cases c1 : a < M
      · have c2 : a < M + 1 := by omega
        simp [c, c1, c2]; omega
      · have c2 : ¬ a < M + 1 := by omega
        simp [c, c1, c2]
theorem oddN_filter {f : Nat → Nat} : ∀ M, ((List.range M).filter fun v => decide (f v % 2 = 1)).length = oddN M f
  | 0 => rfl
  | M + 1 => by
    rw [List.range_succ, List.filter_append, List.length_append, oddN_filter M, show oddN (M + 1) f = oddN M f + f M % 2 from rfl]
    by_cases c : f M % 2 = 1
    · simp [c]
    · have : f M % 2 = 0 := by omega
      simp [this]
theorem odd_alt {s : List Int} {M : Nat} : isStairI s = true → (∀ i ∈ rc s, i < M) → ((oddN M (fun v => (rc s).count (v : Int)) : Nat) : Int) = altS s := by
  induction s using rev_ind with
  | h0 =>
    intro _ _
    have : ∀ M, oddN M (fun v => (rc []).count ((v : Nat) : Int)) = 0 := by
      intro M
      induction M with
      | zero => rfl
      | succ M ih => unfold oddN; rw [ih]; simp [rc, rcF]
    rw [this]; rfl
  | h1 l e ih =>
    intro hs hM
    have hs2 := hs
    unfold isStairI at hs
    rw [stairFrom_app, Bool.and_eq_true] at hs
    have ho : okAt l e = true := by
      have := hs.2
      simpa [stairFrom] using this
    have he0 : 0 ≤ e := stair_nn hs2 e (by simp)
    obtain ⟨v, rfl⟩ := Int.eq_ofNat_of_zero_le he0
    have ih := ih hs.1 fun i hi => hM i (by rw [rc_snoc]; simp [hi])
    have hc : ((l.count (v : Int) : Nat) : Int) < M := hM _ (by rw [rc_snoc]; simp)
    have : (fun u : Nat => (rc (l ++ [(v : Int)])).count (u : Int)) = fun u : Nat => (rc l).count (u : Int) + if u = l.count (v : Int) then 1 else 0 := by
      funext u
      rw [rc_snoc, List.count_append]
      by_cases c : u = l.count (v : Int)
      · simp [c]
      · have : ¬ ((l.count (v : Int) : Nat) : Int) = (u : Int) := by omega
        rw [if_neg c, List.count_cons, List.count_nil, if_neg (by simpa using this)]
    rw [this, oddN_add, if_pos (by omega), ih, rc_place hs.1 ho]
    simp [altS]
end Pw
set_option Elab.async false
set_option linter.all false
set_option maxRecDepth 100000
set_option maxHeartbeats 1000000
namespace Pw
open PySem PySem.Spec PyProof.Rows L2
def dRowsP (rows : List (List Int)) : List (List D) := rows.map fun r => r.map D.int
def gtD (y : Int) : D → Bool
  | .int i => decide (y < i)
  | _ => false
/-- the places of greater items -/
def grL (y : Int) (r : List Int) : List D := ((r.map D.int).zipIdx.filter fun q => gtD y q.1).map fun q => D.int ((q.2 : Nat) : Int)
theorem grL_eq {y : Int} {r : List Int} : grL y r = ((r.zipIdx.filter fun q => decide (y < q.1)).map fun q => D.int ((q.2 : Nat) : Int)) := by
  unfold grL
  rw [List.zipIdx_map, List.filter_map, List.map_map]
  rfl
theorem grL_nil {y : Int} {r : List Int} (h : ∀ z ∈ r, z < y) : grL y r = [] := by
  rw [grL_eq, List.map_eq_nil_iff, List.filter_eq_nil_iff]
  rintro ⟨z, i⟩ hz
  have := h z (List.mem_of_getElem? (List.mem_zipIdx_iff_getElem?.mp hz))
  simp; omega
theorem grL_cons {y z : Int} {a b : List Int} (h1 : ∀ u ∈ a, u < y) (h2 : y < z) : ∃ t, grL y (a ++ z :: b) = D.int ((a.length : Nat) : Int) :: t := by
  rw [grL_eq, List.zipIdx_append, List.filter_append]
  have e : (a.zipIdx.filter fun q => decide (y < q.1)) = [] := List.filter_eq_nil_iff.mpr fun ⟨u, i⟩ hu => by
    have := h1 u (List.mem_of_getElem? (List.mem_zipIdx_iff_getElem?.mp hu))
    simp; omega
  rw [e, List.nil_append, List.zipIdx_cons, List.filter_cons_of_pos (by simpa using h2)]
  exact ⟨_, by simp; rfl⟩
theorem sp_insert {n : Nat} {p : Addr} {qs : List Addr} {rows : List (List Int)} {x : Int} {B M : Mp} {Q : DK} {X : Str → Mp → Prop} (hG : RowsG B M p qs (dRowsP rows)) (hT : Tab rows) (hx : x ∉ rows.flatten) (hl : rows.length ≤ 60) (hr : ∀ r ∈ rows, r.length ≤ 60)
    (h : ∀ qs' M', RowsG B M' p qs' (dRowsP (insR rows x).1) → Q .non M') (hn : 1 ≤ n := by omega) : run PG n "insert" [.ref p, .int x] M Q X := by
  obtain ⟨n, rfl⟩ := Nat.exists_eq_add_of_le' hn
  rw [run_insert]
  simp [f_insert, t_insert, hG.hp]
  refine forL_inv (I := fun ds δ M' => ∃ (pre rs : List (List Int)) (y : Int), ds = (qs.drop pre.length).map D.ref ∧ Tab rs ∧ y ∉ rs.flatten ∧ pre ++ (insR rs y).1 = (insR rows x).1 ∧ RowsG B M' p qs (dRowsP (pre ++ rs)) ∧ (pre ++ rs).length ≤ 60 ∧ (∀ r ∈ pre ++ rs, r.length ≤ 60) ∧
    δ = [some (.ref p), some (.int y), none, none, none, none]) ?_ ?_ _ _ _ ⟨[], rows, x, by simp, hT, hx, rfl, hG, hl, hr, rfl⟩
  · rintro d ds δ M' ⟨pre, rs, y, e, hT, hy, hfin, hG2, hle, hlr, rfl⟩
    have hql : qs.length = pre.length + rs.length := by rw [hG2.hl]; simp [dRowsP]
    have hlt : pre.length < qs.length := by
      by_cases c : pre.length < qs.length
      · exact c
      · rw [List.drop_eq_nil_of_le (by omega)] at e; cases e
    cases rs with
    | nil => simp at hql; omega
    | cons r rs =>
      rw [List.drop_eq_getElem_cons hlt, List.map_cons] at e
      obtain ⟨rfl, rfl⟩ := List.cons.inj e
      have hr : (dRowsP (pre ++ r :: rs))[pre.length]? = some (r.map D.int) := by simp [dRowsP]
      have hq : qs[pre.length]? = some qs[pre.length] := List.getElem?_eq_getElem hlt
      generalize hqq : qs[pre.length] = q at hq
      have hMq := hG2.at_ _ _ _ hq hr
      refine ⟨hG2.hp, fun k hk => ?_⟩
      have hyr : y ∉ r := fun z => hy (by simp [z])
      have hr0 := hT.ne r (List.mem_cons_self ..)
      simp [hMq]
      refine compL_enum (r.map D.int) (fun _ d => gtD y d) (fun j _ => .int (j : Int)) hMq ?_ ?_
      · intro j d hd hj acc k2 j1 j0
        rw [List.getElem?_map] at hd
        obtain ⟨i, hi, rfl⟩ := Option.map_eq_some_iff.mp hd
        simp
        by_cases c : y < i
        · simp [gtD, c] at j1 ⊢; exact j1
        · simp [gtD, c] at j0 ⊢; exact j0
      have hfold : (((r.map D.int).zipIdx.filter fun q => gtD y q.1).map fun q => D.int ((q.2 : Nat) : Int)) = grL y r := rfl
      rw [hfold]
      have hrl := hlr r (by simp)
      by_cases hm : y < maxI r
      · obtain ⟨a, z, b, er, ek, g1, g2, g3, e6, e7⟩ := bump (hT.rise r (List.mem_cons_self ..)) hyr hm hr0
        obtain ⟨t, ht⟩ := grL_cons (b := b) g1 g2
        rw [← er] at ht
        rw [ht]
        have hal : a.length < r.length := by rw [er]; simp
        have hza : r[a.length]? = some z := by rw [er, List.getElem?_append_right (Nat.le_refl _)]; simp
        have htd : isDs false t 29 = true := isDs_of fun d hd => by
          have : d ∈ grL y r := by rw [ht]; exact List.mem_cons_of_mem _ hd
          unfold grL at this
          obtain ⟨q9, _, rfl⟩ := List.mem_map.mp this
          rfl
        have hne : eqD (.lst (D.int ((a.length : Nat) : Int) :: t)) (.lst []) = false := by rw [eqD_lnil]; simp
        have hz2 : r[a.length] = z := by
          have := List.getElem?_eq_getElem hal
          rw [hza] at this
          exact (Option.some.inj this).symm
        simp [hMq, hza, hal, htd, hne]
        have hG4 := hG2.put (i := pre.length) (q := q) (r := (r.map D.int).set a.length (D.int y)) hq
        rw [hz2]
        rw [insR, if_pos hm, ek] at hfin
        have e7' : r.getD a.length 0 = z := by rw [← ek]; exact e7
        rw [e7'] at hfin
        refine hk _ _ ⟨pre ++ [r.set a.length y], rs, z, by rw [List.length_append]; rfl, hT.tail, hT.out (by rw [er]; simp), by rw [← hfin]; simp, ?_, by simp at hle ⊢; omega, fun r' hr' => ?_, rfl⟩
        · have e1 : dRowsP ((pre ++ [r.set a.length y]) ++ rs) = (dRowsP (pre ++ r :: rs)).set pre.length ((r.map D.int).set a.length (D.int y)) := by
            have : pre.length = (dRowsP pre).length := by simp [dRowsP]
            rw [this]
            unfold dRowsP
            rw [List.map_append, List.map_append, List.map_append, List.set_append_right _ _ (Nat.le_refl _)]
            simp
          rw [e1]
          exact hG4
        · simp only [List.append_assoc, List.mem_append, List.mem_cons, List.not_mem_nil, or_false] at hr'
          rcases hr' with hr' | hr' | hr'
          · exact hlr r' (by simp [hr'])
          · subst hr'; rw [List.length_set]; exact hrl
          · exact hlr r' (by simp [hr'])
      · have hg := grL_nil (last_lt hyr hm)
        rw [hg]
        have hee : eqD (.lst []) (.lst []) = true := by rw [eqD_lnil]; rfl
        simp [hMq, hee]
        have hG4 := hG2.put (i := pre.length) (q := q) (r := r.map D.int ++ [D.int y]) hq
        refine ⟨by omega, Lv.here (h qs _ ?_)⟩
        rw [insR, if_neg hm] at hfin
        have e1 : dRowsP (insR rows x).1 = (dRowsP (pre ++ r :: rs)).set pre.length (r.map D.int ++ [D.int y]) := by
          rw [← hfin]
          have : pre.length = (dRowsP pre).length := by simp [dRowsP]
          rw [this]
          unfold dRowsP
          rw [List.map_append, List.map_append, List.set_append_right _ _ (Nat.le_refl _)]
          simp
        rw [e1]
        exact hG4
  · rintro δ M' ⟨pre, rs, y, e, hT, hy, hfin, hG2, hle, hlr, rfl⟩
    refine ⟨hG2.hp, ?_⟩
    have hrs : rs = [] := by
      have hql : qs.length = pre.length + rs.length := by rw [hG2.hl]; simp [dRowsP]
      have := congrArg List.length e
      simp at this
      exact List.length_eq_zero_iff.mp (by omega)
    subst hrs
    simp [hG2.hp]
    intro q hq
    have hqp : p ≠ q := fun z => by rw [← z, hG2.hp] at hq; cases hq
    rw [up_ne hqp, hG2.hp]
    have hG3 := hG2.push (r := [D.int y]) hq
    have hql : qs.length ≤ 60 := by rw [hG2.hl]; simpa [dRowsP] using hle
    simp
    refine ⟨by omega, Lv.here (h (qs ++ [q]) _ ?_)⟩
    have e1 : dRowsP (insR rows x).1 = dRowsP (pre ++ []) ++ [[D.int y]] := by
      rw [← hfin]; simp [insR, dRowsP]
    rw [e1]
    simpa using hG3
end Pw
set_option Elab.async false
set_option linter.all false
set_option maxRecDepth 100000
set_option maxHeartbeats 1000000
namespace Pw
open PySem PySem.Spec PyProof.Rows L2
theorem RowsG.side {M M' : Mp} {p : Addr} {qs : List Addr} {rows : List (List D)} (h : RowsG M M' p qs rows) {f : Addr} {o : DO} (hf : M' f = none) : RowsG M (up M' f o) p qs rows where
  hl := h.hl
  nd := h.nd
  np := h.np
  nw := h.nw
  hn := h.hn
  sub := h.sub.up2 (h.toRowsP.free hf).1
  at_ := fun i q r h1 h2 => by
    have : q ≠ f := fun z => (h.toRowsP.free hf).2 (z ▸ List.mem_of_getElem? h1)
    rw [up_ne this]; exact h.at_ i q r h1 h2
  hp := by
    have : p ≠ f := fun z => by rw [← z, h.hp] at hf; cases hf
    rw [up_ne this]; exact h.hp
/-- each place has the row where it stands -/
def StBy (rows : List (List Int)) (f : List Int) : Prop := ∀ (v : Nat) (r : List Int), rows[v]? = some r → ∀ i ∈ r, f[i.toNat]? = some (v : Int)
theorem sp_stair_by {n : Nat} {p : Addr} {qs : List Addr} {rows : List (List Int)} {size : Nat} {B M : Mp} {Q : DK} {X : Str → Mp → Prop} (hG : RowsG B M p qs (dRowsP rows)) (hnd : rows.flatten.Nodup) (hrng : ∀ i ∈ rows.flatten, 0 ≤ i ∧ i < size) (hs : size ≤ 60) (hl : rows.length ≤ 60)
    (h : ∀ f : List Int, f.length = size → StBy rows f → (∀ i ∈ f, 0 ≤ i ∧ i < 60) → Q (.tup (f.map D.int)) M) (hn : 1 ≤ n := by omega) : run PG n "stair_by" [.ref p, .int size] M Q X := by
  obtain ⟨n, rfl⟩ := Nat.exists_eq_add_of_le' hn
  rw [run_stair_by]
  simp [f_stair_by, t_stair_by]
  have erep : rep (size : Int) [D.int 0] = (List.replicate size (0 : Int)).map D.int := by
    unfold rep
    simp
  rw [erep]
  refine ⟨by omega, by omega, ?_⟩
  intro fq hfq
  have hpf : p ≠ fq := fun z => by rw [← z, hG.hp] at hfq; cases hfq
  simp [up_ne hpf, hG.hp]
  refine forL_enum (I := fun j δ M' => ∃ f : List Int, f.length = size ∧ StBy (rows.take j) f ∧ (∀ i ∈ f, 0 ≤ i ∧ i < 60) ∧ M' = up M fq (.lst (f.map D.int)) ∧ δ = [some (.ref p), some (.int size), some (.ref fq), none, none, none]) ?_ ?_ ⟨List.replicate size 0, by simp, fun v r hv => by simp at hv, fun i hi => by rw [List.mem_replicate] at hi; omega, by simp, rfl⟩
  · rintro j d δ M' hd hj ⟨f, hf, hst, hfr, rfl, rfl⟩
    have hG1 := hG.side (o := .lst (f.map D.int)) hfq
    rw [List.getElem?_map] at hd
    obtain ⟨q, hq, rfl⟩ := Option.map_eq_some_iff.mp hd
    have hjl : j < rows.length := by
      have h1 := (List.getElem?_eq_some_iff.mp hq).1
      rw [hG.hl] at h1; simpa [dRowsP] using h1
    have hrr : rows[j]? = some rows[j] := List.getElem?_eq_getElem hjl
    generalize rows[j] = r at hrr
    have hMq := hG.at_ j q (r.map D.int) hq (by simp [dRowsP, hrr])
    have hqf : q ≠ fq := fun z => by rw [z, hfq] at hMq; cases hMq
    refine ⟨by rw [up_ne hpf]; exact hG.hp, fun k hk => ?_⟩
    simp [up_ne hqf, hMq]
    have hin : ∀ i ∈ r, i ∈ rows.flatten := fun i hi => List.mem_flatten.mpr ⟨r, List.mem_of_getElem? hrr, hi⟩
    refine forL_ints (I := fun u δ M' => ∃ f : List Int, f.length = size ∧ StBy (rows.take j) f ∧ (∀ i ∈ r.take u, f[i.toNat]? = some (j : Int)) ∧ (∀ i ∈ f, 0 ≤ i ∧ i < 60) ∧ M' = up M fq (.lst (f.map D.int)) ∧ δ = [some (.ref p), some (.int size), some (.ref fq), some (.int j), some (.ref q), none]) ?_ ?_ ⟨f, hf, hst, by simp, hfr, rfl, rfl⟩
    · rintro u i δ M' hi hu ⟨f, hf, hst, hsu, hfr, rfl, rfl⟩
      have him := List.mem_of_getElem? hi
      have hir := hrng i (hin i him)
      obtain ⟨i, rfl⟩ := Int.eq_ofNat_of_zero_le hir.1
      have hil : i < f.length := by omega
      refine ⟨by rw [up_ne hqf]; exact hMq, fun k2 hk2 => ?_⟩
      simp [hil]
      refine hk2 _ _ ⟨f.set i (j : Int), by simp [hf], fun v r' hv z hz => ?_, fun z hz => ?_, fun z hz => ?_, by rw [List.map_set], rfl⟩
      · have hvj : v < j := by
          have := (List.getElem?_eq_some_iff.mp hv).1
          simp at this; omega
        have hv2 : rows[v]? = some r' := by rw [List.getElem?_take, if_pos hvj] at hv; exact hv
        have hz0 := hrng z (List.mem_flatten.mpr ⟨r', List.mem_of_getElem? hv2, hz⟩)
        have hne : i ≠ z.toNat := fun e => by
          have e2 : z = (i : Int) := by omega
          have := flat_uniq hnd hv2 hz hrr (e2 ▸ him)
          omega
        rw [List.getElem?_set_ne hne]
        exact hst v r' hv z hz
      · rw [List.take_succ, hi] at hz
        rcases List.mem_append.mp hz with hz | hz
        · by_cases e : i = z.toNat
          · rw [← e, List.getElem?_set_self hil]
          · rw [List.getElem?_set_ne e]; exact hsu z hz
        · simp at hz
          subst hz
          rw [show ((i : Int)).toNat = i by omega, List.getElem?_set_self hil]
      · rcases List.mem_or_eq_of_mem_set hz with hz | rfl
        · exact hfr z hz
        · omega
    · rintro δ M' ⟨f, hf, hst, hsu, hfr, rfl, rfl⟩
      refine ⟨by rw [up_ne hqf]; exact hMq, ?_⟩
      rw [List.take_length] at hsu
      simp
      refine hk _ _ ⟨f, hf, fun v r' hv z hz => ?_, hfr, rfl, rfl⟩
      rw [List.take_succ, hrr] at hv
      by_cases c : v < (rows.take j).length
      · rw [List.getElem?_append_left c] at hv
        exact hst v r' hv z hz
      · have hlen : (rows.take j).length = j := by simp; omega
        rw [List.getElem?_append_right (by omega), hlen] at hv
        have hvj : v - j = 0 := by
          have := (List.getElem?_eq_some_iff.mp hv).1
          simp at this; omega
        rw [hvj] at hv
        simp at hv
        subst hv
        have : v = j := by omega
        subst this
        exact hsu z hz
  · rintro δ M' ⟨f, hf, hst, hfr, rfl, rfl⟩
    have hlen : (qs.map D.ref).length = rows.length := by simp [hG.hl, dRowsP]
    rw [hlen, List.take_length] at hst
    refine ⟨by rw [up_ne hpf]; exact hG.hp, ?_⟩
    simp
    exact Lv.new hfq (h f hf hst hfr)
theorem sp_stair_in {n : Nat} {w : List Int} {M : Mp} {Q : DK} {X : Str → Mp → Prop} (hw : w.Nodup) (hr : ∀ i ∈ w, 0 ≤ i ∧ i < w.length) (hl : w.length ≤ 60)
    (h : ∀ f : List Int, f.length = w.length → StBy (insAll w).1 f → (∀ i ∈ f, 0 ≤ i ∧ i < 60) → Q (.tup (f.map D.int)) M) (hn : 2 ≤ n := by omega) : run PG n "stair_in" [.tup (w.map D.int)] M Q X := by
  obtain ⟨n, rfl⟩ := Nat.exists_eq_add_of_le' hn
  rw [run_stair_in]
  simp [f_stair_in, t_stair_in]
  intro p hp
  refine forL_ints (I := fun i δ M' => ∃ qs, RowsG M M' p qs (dRowsP (insAll (w.take i)).1) ∧ δ = [some (.tup (w.map D.int)), some (.ref p), none]) ?_ ?_ ⟨[], ?_, rfl⟩
  · rintro i x δ M' hx hi ⟨qs, hG, rfl⟩
    refine ⟨trivial, fun k hk => ?_⟩
    have hI := insAll_G (take_nodup hw i)
    have hxo : x ∉ (insAll (w.take i)).1.flatten := fun z => take_out hw hx (hI.perm.mem_iff.mp z)
    simp
    refine sp_insert hG hI.tab hxo (Nat.le_trans hI.rows (by simp; omega)) (fun r hr => ?_) fun qs' M2 hG2 => ?_
    · have h1 := (List.sublist_flatten_of_mem hr).length_le
      have h2 := hI.perm.length_eq
      rw [List.length_take] at h2
      omega
    · simp
      refine hk _ _ ⟨qs', ?_, rfl⟩
      rw [insAll_take hx]
      exact hG2
  · rintro δ M' ⟨qs, hG, rfl⟩
    refine ⟨trivial, ?_⟩
    rw [List.take_length] at hG
    have hI := insAll_G hw
    simp
    refine sp_stair_by hG hI.tab.nd (fun i hi => hr i (hI.perm.mem_iff.mp hi)) (by omega) (Nat.le_trans hI.rows hl) fun f h1 h2 h3 => ?_
    exact ⟨M, hG.sub, h f h1 h2 h3⟩
  · have hP : RowsP M M [] [] := ⟨rfl, by simp, fun i q r h => by simp at h, by simp, Sub.refl⟩
    exact hP.lay hp
end Pw
set_option Elab.async false
set_option linter.all false
set_option maxRecDepth 100000
set_option maxHeartbeats 1000000
/-! lists of naturals as data -/
namespace Pw
open PySem PySem.Spec PyProof.Rows L2
/-- three ints: the digits, a number to mix, a counter -/
def MillO (o : DO) (t : Nat) : Prop := ∃ a b c : Int, o = .lst [.int a, .int b, .int c] ∧ b.natAbs < 2 ^ 200 ∧ c.natAbs ≤ t
theorem MillO.mono {o : DO} {t t' : Nat} (h : MillO o t) (ht : t ≤ t') : MillO o t' := by
  obtain ⟨a, b, c, e, h1, h2⟩ := h
  exact ⟨a, b, c, e, h1, by omega⟩
theorem powOk3 {i : Int} (h : i.natAbs < 2 ^ 300) : PowOk i 3 := ⟨by decide, 300, h, by decide, by decide⟩
abbrev nD (k : Nat) : D := .int (k : Int)
def natsD (f : List Nat) : List D := f.map nD
@[simp] theorem natsD_len {f : List Nat} : (natsD f).length = f.length := by simp [natsD]
@[simp] theorem natsD_get {f : List Nat} {i : Nat} : (natsD f)[i]? = (f[i]?).map nD := by simp [natsD]
@[simp] theorem natsD_nil : natsD [] = [] := rfl
@[simp] theorem natsD_cons {a : Nat} {f : List Nat} : natsD (a :: f) = .int (a : Int) :: natsD f := rfl
@[simp] theorem natsD_app {a f : List Nat} : natsD (a ++ f) = natsD a ++ natsD f := by simp [natsD]
theorem natsD_ints {f : List Nat} : natsD f = (f.map fun (k : Nat) => (k : Int)).map D.int := by simp [natsD]
@[simp] theorem intsOf_natsD {f : List Nat} : intsOf (natsD f) = some (f.map fun (k : Nat) => (k : Int)) := by rw [natsD_ints, intsOf_maps]
@[simp] theorem isDs_natsD {w : Bool} {n : Nat} {f : List Nat} : isDs w (natsD f) n = true := by rw [natsD_ints]; exact isDs_ints
theorem natsD_range {n : Nat} : ((List.range n).map fun (k : Nat) => D.int (k : Int)) = natsD (List.range n) := rfl
theorem natsD_set {f : List Nat} {i k : Nat} : (natsD f).set i (.int (k : Int)) = natsD (f.set i k) := by
  unfold natsD
  rw [List.map_set]
theorem natsD_erase {f : List Nat} {i : Nat} : (natsD f).eraseIdx i = natsD (f.eraseIdx i) := by
  unfold natsD
  induction f generalizing i with
  | nil => rfl
  | cons a f ih => cases i <;> simp [ih]
theorem natsD_getLast {f : List Nat} (h : natsD f ≠ []) : ∃ k, k ∈ f ∧ (natsD f).getLast h = nD k := by
  have hm := List.getLast_mem h
  obtain ⟨k, hk, e⟩ := List.mem_map.mp (show (natsD f).getLast h ∈ f.map nD from hm)
  exact ⟨k, hk, e.symm⟩
theorem natsD_ne {f : List Nat} : natsD f = [] ↔ f = [] := by simp [natsD]
theorem placeD_natsD {x : Nat} : ∀ {f : List Nat}, placeD (.int (x : Int)) (natsD f) = f.findIdx? (fun y => y == x)
  | [] => rfl
  | a :: f => by
    have ih := placeD_natsD (x := x) (f := f)
    unfold placeD at ih ⊢
    rw [natsD_cons, List.findIdx?_cons, List.findIdx?_cons, ih]
    have : eqD (.int (a : Int)) (.int (x : Int)) = (a == x) := by
      rw [eqD_int, Bool.eq_iff_iff]; simp; omega
    rw [this]
theorem natsD_inj {f g : List Nat} : natsD f = natsD g ↔ f = g := by
  unfold natsD
  refine ⟨fun h => ?_, fun h => h ▸ rfl⟩
  exact (List.map_inj_right (f := nD) (fun a b e => by
    have := D.int.inj e; omega)).mp h
theorem eqD_tup_nats {f g : List Nat} : eqD (.tup (natsD f)) (.tup (natsD g)) = decide (f = g) := by
  rw [natsD_ints, natsD_ints, eqD_tup_ints, Bool.eq_iff_iff]
  simp only [decide_eq_true_eq]
  rw [← natsD_inj, natsD_ints, natsD_ints]
  constructor
  · intro h; rw [h]
  · intro h
    have := congrArg intsOf h
    rw [intsOf_maps, intsOf_maps] at this
    exact Option.some.inj this
theorem V0_nats {f : List Nat} (h : ∀ k ∈ f, k < 10 ^ 60) : ∀ d ∈ natsD f, V0 d := all_map fun k hk => by
  have := h k hk
  exact V0_intR (by omega) (by omega)
/-- own inverse -/
def InvN (f : List Nat) : Prop := ∀ i, i < f.length → ∃ j, f[i]? = some j ∧ f[j]? = some i
theorem InvN.lt {f : List Nat} (h : InvN f) : ∀ k ∈ f, k < f.length := fun k hk => by
  obtain ⟨i, hi⟩ := List.mem_iff_getElem?.mp hk
  have hl := (List.getElem?_eq_some_iff.mp hi).1
  obtain ⟨j, h1, h2⟩ := h i hl
  rw [hi] at h1
  obtain rfl := Option.some.inj h1
  exact (List.getElem?_eq_some_iff.mp h2).1
theorem InvN.range (n : Nat) : InvN (List.range n) := fun i hi => by
  rw [List.length_range] at hi
  exact ⟨i, List.getElem?_range hi, List.getElem?_range hi⟩
theorem InvN.swap {f : List Nat} (h : InvN f) {a b : Nat} (ha : f[a]? = some a) (hb : f[b]? = some b) (hab : a ≠ b) : InvN ((f.set a b).set b a) := fun i hi => by
  simp only [List.length_set] at hi
  have la := (List.getElem?_eq_some_iff.mp ha).1
  have lb := (List.getElem?_eq_some_iff.mp hb).1
  have val : ∀ k, ((f.set a b).set b a)[k]? = if k = b then (if k < f.length then some a else none) else if k = a then (if k < f.length then some b else none) else f[k]? := by
    intro k
    rw [List.getElem?_set, List.getElem?_set, List.length_set]
    by_cases h1 : b = k
    · subst h1; simp
    · have h1' : ¬ k = b := fun z => h1 z.symm
      by_cases h2 : a = k
      · subst h2; simp [h1, h1']
      · have h2' : ¬ k = a := fun z => h2 z.symm
        simp [h1, h1', h2, h2']
  by_cases h1 : i = b
  · subst h1
    exact ⟨a, by rw [val]; simp [lb], by rw [val]; simp [hab, la]⟩
  · by_cases h2 : i = a
    · subst h2
      exact ⟨b, by rw [val]; simp [h1, la], by rw [val]; simp [lb]⟩
    · obtain ⟨j, hj1, hj2⟩ := h i hi
      have e1 : j ≠ b := fun z => by
        subst z; rw [hb] at hj2; exact h1 (Option.some.inj hj2).symm
      have e2 : j ≠ a := fun z => by
        subst z; rw [ha] at hj2; exact h2 (Option.some.inj hj2).symm
      exact ⟨j, by rw [val]; simp [h1, h2, hj1], by rw [val]; simp [e1, e2, hj2]⟩
theorem remove_at {l : List Nat} {z : Nat} (hz : z ∈ l) (hn : l.Nodup) : ∃ j, l.findIdx? (fun y => y == z) = some j ∧ (l.eraseIdx j).Nodup ∧ (l.eraseIdx j).length + 1 = l.length ∧ ∀ x ∈ l.eraseIdx j, x ∈ l ∧ x ≠ z := by
  cases h : l.findIdx? (fun y => y == z) with
  | none =>
    have := List.findIdx?_eq_none_iff.mp h z hz
    simp at this
  | some j =>
    have e : l.eraseIdx j = l.erase z := by
      rw [List.erase_eq_eraseIdx]
      have : l.idxOf? z = some j := h
      rw [this]
    refine ⟨j, rfl, ?_, ?_, ?_⟩
    · rw [e]; exact hn.erase z
    · rw [e, List.length_erase_of_mem hz]
      have := List.length_pos_of_mem hz
      omega
    · rw [e]
      intro x hx
      exact ⟨List.mem_of_mem_erase hx, fun c => by subst c; exact (hn.not_mem_erase) hx⟩
end Pw
namespace Pw
@[simp] theorem natsD_getE {f : List Nat} {i : Nat} (h : i < (natsD f).length) : (natsD f)[i] = nD (f[i]'(by simpa using h)) := by
  simp [natsD]
end Pw
namespace Pw
@[simp] theorem natsD_drop {f : List Nat} {i : Nat} : (natsD f).drop i = natsD (f.drop i) := by unfold natsD; rw [List.map_drop]
@[simp] theorem natsD_take {f : List Nat} {i : Nat} : (natsD f).take i = natsD (f.take i) := by unfold natsD; rw [List.map_take]
end Pw
set_option Elab.async false
set_option linter.all false
set_option maxRecDepth 100000
set_option maxHeartbeats 1000000
namespace Pw
open PySem PySem.Spec PyProof.Rows L2
theorem invI_of' {f : List Nat} (h : InvN f) : InvI (f.map fun (k : Nat) => (k : Int)) where
  rng := fun i hi => by
    obtain ⟨k, hk, rfl⟩ := List.mem_map.mp hi
    have := h.lt k hk
    simp; omega
  inv := fun i j hi => by
    rw [List.getElem?_map] at hi
    obtain ⟨k, hk, e⟩ := Option.map_eq_some_iff.mp hi
    have : k = j := by omega
    subst this
    obtain ⟨j, h1, h2⟩ := h i (List.getElem?_eq_some_iff.mp hk).1
    rw [hk] at h1
    obtain rfl := Option.some.inj h1
    rw [List.getElem?_map, h2]; rfl
theorem invN_of' {w : List Int} (h : InvI w) : InvN (w.map Int.toNat) ∧ natsD (w.map Int.toNat) = w.map D.int := by
  refine ⟨fun i hi => ?_, ?_⟩
  · have hil : i < w.length := by simpa using hi
    have hx : w[i]? = some w[i] := List.getElem?_eq_getElem hil
    have hr := h.rng _ (List.getElem_mem hil)
    obtain ⟨j, hj⟩ := Int.eq_ofNat_of_zero_le hr.1
    have h2 := h.inv i j (by rw [hx, hj])
    exact ⟨j, by rw [List.getElem?_map, hx, hj]; rfl, by rw [List.getElem?_map, h2]; rfl⟩
  · unfold natsD
    rw [List.map_map]
    refine List.map_congr_left fun i hi => ?_
    have := (h.rng i hi).1
    show D.int ((i.toNat : Nat) : Int) = D.int i
    congr 1; omega
end Pw
set_option Elab.async false
set_option linter.all false
set_option maxRecDepth 100000
set_option maxHeartbeats 1000000
/-! insertion, backwards -/
namespace Pw
open PySem PySem.Spec PyProof.Rows L2
/-- rising rows of different entries -/
structure TabE (rows : List (List Int)) : Prop where
  rise : ∀ r ∈ rows, r.Pairwise (· < ·)
  nd : rows.flatten.Nodup
theorem TabE.tail {r : List Int} {rs : List (List Int)} (h : TabE (r :: rs)) : TabE rs where
  rise := fun q hq => h.rise q (List.mem_cons_of_mem _ hq)
  nd := by have := h.nd; rw [List.flatten_cons, List.nodup_append] at this; exact this.2.1
theorem TabE.out {r : List Int} {rs : List (List Int)} (h : TabE (r :: rs)) {y : Int} (hy : y ∈ r) : y ∉ rs.flatten := fun hm => by
  have := h.nd
  rw [List.flatten_cons, List.nodup_append] at this
  exact this.2.2 y hy y hm rfl
/-- the last item of a row is taken out, and pushed up -/
def upR : List (List Int) → Nat → List (List Int) × Int
  | [], _ => ([], 0)
  | r :: rs, 0 => (r.dropLast :: rs, r.getD (r.length - 1) 0)
  | r :: rs, e + 1 => ((r.set ((r.filter fun y => decide (y < (upR rs e).2)).length - 1) (upR rs e).2) :: (upR rs e).1, r.getD ((r.filter fun y => decide (y < (upR rs e).2)).length - 1) 0)
/-- the items on the way -/
def pathU : List (List Int) → Nat → List Int
  | [], _ => []
  | r :: _, 0 => [r.getD (r.length - 1) 0]
  | r :: rs, e + 1 => r.getD ((r.filter fun y => decide (y < (upR rs e).2)).length - 1) 0 :: pathU rs e
/-- a row that may lose its last item -/
structure Cor (rows : List (List Int)) (e : Nat) : Prop where
  col : ColC rows
  lt : e < rows.length
  len : (rows.getD (e + 1) []).length < (rows.getD e []).length
theorem Cor.tail {r : List Int} {rs : List (List Int)} {e : Nat} (h : Cor (r :: rs) (e + 1)) : Cor rs e where
  col := h.col.tail
  lt := by have := h.lt; simp at this; omega
  len := by have := h.len; simpa using this
theorem last_split {r : List Int} (h : r ≠ []) : ∃ a y, r = a ++ [y] ∧ r.dropLast = a ∧ r.getD (r.length - 1) 0 = y := by
  refine ⟨r.dropLast, r.getLast h, (List.dropLast_concat_getLast h).symm, rfl, ?_⟩
  rw [List.getD_eq_getElem?_getD, ← List.getLast?_eq_getElem?, List.getLast?_eq_some_getLast h]; rfl
theorem Cor.ne {r : List Int} {rs : List (List Int)} (h : Cor (r :: rs) 0) : r ≠ [] := fun z => by
  have := h.len
  rw [z] at this
  simp at this
/-- what steps up -/
theorem lift {r : List Int} {x : Int} (h : r.Pairwise (· < ·)) (hx : x ∉ r) (hm : ∃ y ∈ r, y < x) : ∃ a y b, r = a ++ y :: b ∧ (∀ z ∈ a, z < y) ∧ y < x ∧ (∀ z ∈ b, x < z) ∧
    r.set ((r.filter fun y => decide (y < x)).length - 1) x = a ++ x :: b ∧ r.getD ((r.filter fun y => decide (y < x)).length - 1) 0 = y := by
  obtain ⟨c, b, e, e2, h1, h2⟩ := rise_split h hx
  have hc : c ≠ [] := fun z => by
    obtain ⟨y, hy, hyx⟩ := hm
    rw [e, z, List.nil_append] at hy
    have := h2 y hy
    omega
  obtain ⟨a, y, e3, _, _⟩ := last_split hc
  have ek : (r.filter fun y => decide (y < x)).length - 1 = a.length := by rw [e2, e3]; simp
  refine ⟨a, y, b, by rw [e, e3]; simp, ?_, h1 y (by rw [e3]; simp), h2, ?_, ?_⟩
  · intro z hz
    rw [e, e3, List.append_assoc, List.pairwise_append] at h
    exact h.2.2 z hz y (by simp)
  · rw [ek, e, e3, List.append_assoc, List.set_append_right _ _ (Nat.le_refl _)]
    simp
  · rw [ek, e, e3, List.append_assoc, List.getD_eq_getElem?_getD, List.getElem?_append_right (Nat.le_refl _)]
    simp
/-- the facts of one step backwards -/
structure UpG (rows : List (List Int)) (e : Nat) : Prop where
  mem : (upR rows e).2 ∈ rows.flatten
  perm : ((upR rows e).2 :: (upR rows e).1.flatten).Perm rows.flatten
  head : ∃ l, pathU rows e = (upR rows e).2 :: l
  up : (pathU rows e).Pairwise (· < ·)
  at_ : ∀ (v : Nat) (y : Int), (pathU rows e)[v]? = some y → y ∈ rows.getD v []
  len : (pathU rows e).length = e + 1
  rl : (upR rows e).1.length = rows.length
  rise : ∀ r ∈ (upR rows e).1, r.Pairwise (· < ·)
theorem up_item_row0 {r : List Int} {rs : List (List Int)} {e : Nat} (hT : TabE (r :: rs)) (hC : Cor (r :: rs) (e + 1)) (ih : UpG rs e) : ∃ y ∈ r, y < (upR rs e).2 := by
  obtain ⟨l, hl⟩ := ih.head
  have hx := ih.at_ 0 (upR rs e).2 (by rw [hl]; rfl)
  have hno : (upR rs e).2 ∉ r := fun z => hT.out z ih.mem
  generalize (upR rs e).2 = x at hx hno
  have hc := hC.col (x + 1) 0
  simp only [cntR_succ, cntR_zero] at hc
  have h1 : 1 ≤ cntR (x + 1) rs 0 := by
    unfold cntR
    exact List.countP_pos_iff.mpr ⟨x, hx, by simp; omega⟩
  have h2 : 0 < r.countP fun y => decide (y < x + 1) := by omega
  obtain ⟨y, hy, hyx⟩ := List.countP_pos_iff.mp h2
  have hne : y ≠ x := fun z => hno (z ▸ hy)
  simp at hyx
  exact ⟨y, hy, by omega⟩
theorem up_G : ∀ {rows : List (List Int)} {e : Nat}, TabE rows → Cor rows e → UpG rows e
  | [], e, _, hC => by have := hC.lt; simp at this
  | r :: rs, 0, hT, hC => by
    obtain ⟨a, y, er, ed, eg⟩ := last_split hC.ne
    have e1 : upR (r :: rs) 0 = (a :: rs, y) := by unfold upR; rw [ed, eg]
    have e2 : pathU (r :: rs) 0 = [y] := by unfold pathU; rw [eg]
    refine ⟨?_, ?_, ⟨[], by rw [e2, e1]⟩, by rw [e2]; simp, ?_, by rw [e2]; rfl, by rw [e1]; rfl, ?_⟩
    · rw [e1, er]; simp
    · rw [e1, er]
      simp only [List.flatten_cons, List.append_assoc]
      exact List.perm_middle.symm
    · intro v z hz
      rw [e2] at hz
      cases v with
      | zero => simp at hz; subst hz; rw [er]; simp
      | succ v => simp at hz
    · rw [e1]
      intro q hq
      rcases List.mem_cons.mp hq with rfl | hq
      · have := hT.rise r (List.mem_cons_self ..)
        rw [er, List.pairwise_append] at this
        exact this.1
      · exact hT.rise q (List.mem_cons_of_mem _ hq)
  | r :: rs, e + 1, hT, hC => by
    have ih := up_G hT.tail hC.tail
    have hex := up_item_row0 hT hC ih
    have hno : (upR rs e).2 ∉ r := fun z => hT.out z ih.mem
    obtain ⟨a, y, b, er, h1, h2, h3, es, eg⟩ := lift (hT.rise r (List.mem_cons_self ..)) hno hex
    have e1 : upR (r :: rs) (e + 1) = ((a ++ (upR rs e).2 :: b) :: (upR rs e).1, y) := by
      show (_, _) = _
      rw [es, eg]
    have e2 : pathU (r :: rs) (e + 1) = y :: pathU rs e := by
      show _ :: _ = _
      rw [eg]
    obtain ⟨l, hl⟩ := ih.head
    refine ⟨by rw [e1, er]; simp, ?_, ⟨_, by rw [e2, e1]⟩, ?_, ?_, by rw [e2]; simp [ih.len], by rw [e1]; simp [ih.rl], ?_⟩
    · rw [e1, er]
      simp only [List.flatten_cons, List.append_assoc, List.cons_append]
      have hp := ih.perm
      refine (List.Perm.cons y List.perm_middle).trans ?_
      refine List.Perm.trans ?_ (List.perm_middle).symm
      refine List.Perm.cons y ?_
      refine List.Perm.trans (List.perm_middle.symm) ?_
      refine List.Perm.append_left a ?_
      refine List.Perm.trans (List.perm_middle.symm) ?_
      exact List.Perm.append_left b hp
    · rw [e2, List.pairwise_cons]
      refine ⟨fun z hz => ?_, ih.up⟩
      have hup := ih.up
      rw [hl] at hz hup
      rcases List.mem_cons.mp hz with rfl | hz
      · exact h2
      · have := (List.pairwise_cons.mp hup).1 z hz
        omega
    · intro v z hz
      rw [e2] at hz
      cases v with
      | zero => simp at hz; subst hz; rw [er]; simp
      | succ v =>
        have := ih.at_ v z (by simpa using hz)
        simpa using this
    · rw [e1]
      intro q hq
      rcases List.mem_cons.mp hq with rfl | hq
      · have hr := hT.rise r (List.mem_cons_self ..)
        rw [er, List.pairwise_append] at hr
        rw [List.pairwise_append]
        refine ⟨hr.1, List.pairwise_cons.mpr ⟨h3, (List.pairwise_cons.mp hr.2.1).2⟩, fun u hu z hz => ?_⟩
        have := h1 u hu
        rcases List.mem_cons.mp hz with rfl | hz
        · omega
        · have := h3 z hz; omega
      · exact ih.rise q hq
def pU (t : Int) (rows : List (List Int)) (e : Nat) : Nat := (pathU rows e).countP fun y => decide (y < t)
/-- what lies below a bound, one step backwards -/
theorem cnt_up {t : Int} : ∀ {rows : List (List Int)} {e : Nat} {v : Nat}, TabE rows → Cor rows e → cntR t (upR rows e).1 v + (if v + 1 = pU t rows e then 1 else 0) = cntR t rows v
  | [], e, v, _, hC => by have := hC.lt; simp at this
  | r :: rs, 0, v, hT, hC => by
    obtain ⟨a, y, er, ed, eg⟩ := last_split hC.ne
    have e1 : upR (r :: rs) 0 = (a :: rs, y) := by unfold upR; rw [ed, eg]
    have e2 : pU t (r :: rs) 0 = if y < t then 1 else 0 := by
      unfold pU pathU; rw [eg]
      by_cases c : y < t <;> simp [c, List.countP_cons]
    rw [e1, e2]
    cases v with
    | zero =>
      simp only [cntR_zero]
      rw [er, List.countP_append]
      by_cases c : y < t <;> simp [c, List.countP_cons]
    | succ v =>
      have : ¬ v + 1 + 1 = if y < t then 1 else 0 := by split <;> omega
      simp [this]
  | r :: rs, e + 1, v, hT, hC => by
    have ihG := up_G hT.tail hC.tail
    have hex := up_item_row0 hT hC ihG
    have hno : (upR rs e).2 ∉ r := fun z => hT.out z ihG.mem
    obtain ⟨a, y, b, er, h1, h2, h3, es, eg⟩ := lift (hT.rise r (List.mem_cons_self ..)) hno hex
    have e1 : upR (r :: rs) (e + 1) = ((a ++ (upR rs e).2 :: b) :: (upR rs e).1, y) := by
      show (_, _) = _
      rw [es, eg]
    have e2 : pU t (r :: rs) (e + 1) = pU t rs e + if y < t then 1 else 0 := by
      unfold pU
      rw [show pathU (r :: rs) (e + 1) = y :: pathU rs e by show _ :: _ = _; rw [eg], List.countP_cons]
      by_cases c : y < t <;> simp [c]
    have hp0 : ¬ (upR rs e).2 < t → pU t rs e = 0 := fun c => by
      unfold pU
      refine countP_ge_all fun z hz => ?_
      obtain ⟨l, hl⟩ := ihG.head
      have hup := ihG.up
      rw [hl] at hz hup
      rcases List.mem_cons.mp hz with rfl | hz
      · omega
      · have := (List.pairwise_cons.mp hup).1 z hz; omega
    have hp1 : (upR rs e).2 < t → 1 ≤ pU t rs e := fun c => by
      unfold pU
      obtain ⟨l, hl⟩ := ihG.head
      exact List.countP_pos_iff.mpr ⟨(upR rs e).2, by rw [hl]; simp, by simpa using c⟩
    rw [e1, e2]
    cases v with
    | zero =>
      simp only [cntR_zero]
      rw [er, List.countP_append, List.countP_append, List.countP_cons, List.countP_cons]
      by_cases c1 : (upR rs e).2 < t
      · have c2 : y < t := by omega
        have := hp1 c1
        have c3 : ¬ 0 + 1 = pU t rs e + 1 := by omega
        simp [c1, c2]; omega
      · have := hp0 c1
        by_cases c2 : y < t
        · simp [c1, c2, this]; omega
        · simp [c1, c2, this]
    | succ v =>
      simp only [cntR_succ]
      have ih := cnt_up (t := t) (v := v) hT.tail hC.tail
      rw [← ih]
      by_cases c1 : (upR rs e).2 < t
      · have c2 : y < t := by omega
        simp [c2]
      · have := hp0 c1
        rw [this]
        by_cases c2 : y < t
        · simp [c2]
        · simp [c2]
end Pw
set_option Elab.async false
set_option linter.all false
set_option maxRecDepth 100000
set_option maxHeartbeats 1000000
/-! insertion backwards: the law of growth -/
namespace Pw
open PySem PySem.Spec PyProof.Rows L2
theorem asc_idx {t : Int} : ∀ {l : List Int} {i : Nat} {y : Int}, l.Pairwise (· < ·) → l[i]? = some y → (y < t ↔ i < l.countP fun z => decide (z < t))
  | [], i, y, _, h => by simp at h
  | c :: l, i, y, hp, h => by
    rw [List.pairwise_cons] at hp
    rw [List.countP_cons]
    by_cases c1 : c < t
    · cases i with
      | zero => simp at h; subst h; simp [c1]
      | succ i =>
        have := asc_idx (t := t) hp.2 (by simpa using h)
        simp [c1]; exact this
    · have h0 : l.countP (fun z => decide (z < t)) = 0 := countP_ge_all fun z hz => by have := hp.1 z hz; omega
      rw [h0]
      cases i with
      | zero => simp at h; subst h; simp [c1]
      | succ i =>
        have := hp.1 y (List.mem_of_getElem? (by simpa using h))
        simp [c1]; omega
theorem getD_mem {rows : List (List Int)} {v : Nat} {y : Int} (h : y ∈ rows.getD v []) : ∃ q, rows[v]? = some q ∧ y ∈ q := by
  rw [List.getD_eq_getElem?_getD] at h
  cases hg : rows[v]? with
  | none => rw [hg] at h; cases h
  | some q => rw [hg] at h; exact ⟨q, rfl, h⟩
theorem TabE.same {rows : List (List Int)} (hT : TabE rows) {v w : Nat} {y : Int} (h : y ∈ rows.getD v []) (h' : y ∈ rows.getD w []) : v = w := by
  obtain ⟨q, g1, g2⟩ := getD_mem h
  obtain ⟨q', g3, g4⟩ := getD_mem h'
  exact flat_uniq hT.nd g1 g2 g3 g4
theorem TabE.rowD {rows : List (List Int)} (hT : TabE rows) (v : Nat) : (rows.getD v []).Pairwise (· < ·) := by
  rw [List.getD_eq_getElem?_getD]
  cases hg : rows[v]? with
  | none => simp
  | some q => exact hT.rise q (List.mem_of_getElem? hg)
theorem cnt_stepE {j : Int} {rows : List (List Int)} (hT : TabE rows) (v : Nat) : cntR (j + 1) rows v = cntR j rows v + if j ∈ rows.getD v [] then 1 else 0 := countP_step (rise_nodup (hT.rowD v))
/-- no other item lies between -/
theorem path_max : ∀ {rows : List (List Int)} {e : Nat}, TabE rows → Cor rows e → ∀ (v : Nat) (u y : Int), u ∈ rows.getD v [] → (pathU rows e)[v]? = some y → (∀ z, (pathU rows e)[v + 1]? = some z → u < z) → u ≤ y
  | [], e, _, hC => by have := hC.lt; simp at this
  | r :: rs, 0, hT, hC => by
    intro v u y hu hy hz
    obtain ⟨a, y0, er, ed, eg⟩ := last_split hC.ne
    have e2 : pathU (r :: rs) 0 = [y0] := by unfold pathU; rw [eg]
    rw [e2] at hy
    cases v with
    | zero =>
      simp at hy hu; subst hy
      have hr := hT.rise r (List.mem_cons_self ..)
      rw [er] at hu hr
      rw [List.pairwise_append] at hr
      rcases List.mem_append.mp hu with h | h
      · have := hr.2.2 u h y0 (by simp); omega
      · rw [List.mem_singleton.mp h]; exact Int.le_refl _
    | succ v => simp at hy
  | r :: rs, e + 1, hT, hC => by
    intro v u y hu hy hz
    have ihG := up_G hT.tail hC.tail
    have hex := up_item_row0 hT hC ihG
    have hno : (upR rs e).2 ∉ r := fun z => hT.out z ihG.mem
    obtain ⟨a, y0, b, er, h1, h2, h3, es, eg⟩ := lift (hT.rise r (List.mem_cons_self ..)) hno hex
    have e2 : pathU (r :: rs) (e + 1) = y0 :: pathU rs e := by show _ :: _ = _; rw [eg]
    obtain ⟨l, hl⟩ := ihG.head
    rw [e2] at hy hz
    cases v with
    | zero =>
      simp at hy hu; subst hy
      have hux := hz (upR rs e).2 (by rw [hl]; rfl)
      rw [er] at hu
      rcases List.mem_append.mp hu with h | h
      · have := h1 u h; omega
      · rcases List.mem_cons.mp h with h | h
        · omega
        · have := h3 u h; omega
    | succ v => exact path_max hT.tail hC.tail v u y (by simpa using hu) (by simpa using hy) fun z hz' => hz z (by simpa using hz')
/-- where the part below t shrinks there is room -/
theorem up_room {t : Int} {rows : List (List Int)} {e p : Nat} (hT : TabE rows) (hC : Cor rows e) (hp : pU t rows e = p + 1) : cntR t rows (p + 1) + 1 ≤ cntR t rows p := by
  have hG := up_G hT hC
  have hpl : p < (pathU rows e).length := by
    have : pU t rows e ≤ (pathU rows e).length := List.countP_le_length
    omega
  have hy : (pathU rows e)[p]? = some (pathU rows e)[p] := List.getElem?_eq_getElem hpl
  generalize (pathU rows e)[p] = y at hy
  have hyt : y < t := (asc_idx hG.up hy).mpr (by unfold pU at hp; omega)
  have hyr := hG.at_ p y hy
  by_cases c : p + 1 < (pathU rows e).length
  · have hz : (pathU rows e)[p + 1]? = some (pathU rows e)[p + 1] := List.getElem?_eq_getElem c
    generalize (pathU rows e)[p + 1] = z at hz
    have hzt : ¬ z < t := fun h => by
      have := (asc_idx hG.up hz).mp h
      unfold pU at hp; omega
    have hzr := hG.at_ (p + 1) z hz
    have h1 := hC.col (z + 1) p
    have h2 := cnt_stepE (j := z) hT (p + 1)
    rw [if_pos hzr] at h2
    have h3 := cnt_stepE (j := z) hT p
    rw [if_neg (fun h => by have := hT.same h hzr; omega)] at h3
    have h4 : cntR z rows p ≤ cntR t rows p := by
      unfold cntR
      refine List.countP_mono_left fun u hu huz => ?_
      simp at huz ⊢
      have := path_max hT hC p u y hu hy fun z' hz' => by rw [hz] at hz'; cases hz'; exact huz
      omega
    have h5 : cntR t rows (p + 1) ≤ cntR z rows (p + 1) := countP_mono (by omega) _
    omega
  · have hpe : p = e := by have := hG.len; omega
    subst hpe
    have h1 : cntR t rows p = (rows.getD p []).length := by
      unfold cntR
      refine countP_lt_all fun u hu => ?_
      have := path_max hT hC p u y hu hy fun z hz => by rw [List.getElem?_eq_none (by omega)] at hz; cases hz
      omega
    have h2 : cntR t rows (p + 1) ≤ (rows.getD (p + 1) []).length := List.countP_le_length
    have := hC.len
    omega
theorem up_col {rows : List (List Int)} {e : Nat} (hT : TabE rows) (hC : Cor rows e) : ColC (upR rows e).1 := fun t v => by
  have h1 := cnt_up (t := t) (v := v) hT hC
  have h2 := cnt_up (t := t) (v := v + 1) hT hC
  have h3 := hC.col t v
  by_cases c : v + 1 = pU t rows e
  · have := up_room hT hC c.symm
    rw [if_pos c] at h1
    omega
  · rw [if_neg c] at h1
    omega
theorem up_tab {rows : List (List Int)} {e : Nat} (hT : TabE rows) (hC : Cor rows e) : TabE (upR rows e).1 where
  rise := (up_G hT hC).rise
  nd := (List.nodup_cons.mp ((up_G hT hC).perm.nodup_iff.mpr hT.nd)).2
open Classical in
noncomputable def prevF (ν μ ρ : Nat → Nat) : Nat → Nat := fun v => if μ = ρ then ρ v - (ν (v + 1) - μ (v + 1)) else μ v + ρ v - ν v
theorem prevF_sym {ν μ ρ : Nat → Nat} : prevF ν μ ρ = prevF ν ρ μ := by
  funext v
  unfold prevF
  by_cases e : μ = ρ
  · subst e; rfl
  · rw [if_neg e, if_neg (fun z => e z.symm), Nat.add_comm]
/-- the law of growth, backwards -/
theorem growB {rows : List (List Int)} {e : Nat} {j : Int} (hT : TabE rows) (hC : Cor rows e) :
    (∀ v, cntR j (upR rows e).1 v = prevF (cntR (j + 1) rows) (cntR (j + 1) (upR rows e).1) (cntR j rows) v) ∧
    ((upR rows e).2 = j ↔ (cntR (j + 1) (upR rows e).1 = cntR j rows ∧ cntR (j + 1) rows 0 = cntR (j + 1) (upR rows e).1 0 + 1)) := by
  have hG := up_G hT hC
  obtain ⟨l, hl⟩ := hG.head
  have hν := fun v => cnt_stepE (j := j) hT v
  have hμ := fun v => cnt_up (t := j + 1) (v := v) hT hC
  have hκ := fun v => cnt_up (t := j) (v := v) hT hC
  have hpp : pU (j + 1) rows e = pU j rows e + if j ∈ pathU rows e then 1 else 0 := countP_step (rise_nodup hG.up)
  have hx0 : (upR rows e).2 ∈ pathU rows e := by rw [hl]; simp
  generalize hx : (upR rows e).2 = x at hx0 hl
  generalize cntR (j + 1) rows = ν at hν hμ ⊢
  generalize cntR (j + 1) (upR rows e).1 = μ at hμ ⊢
  generalize hρe : cntR j rows = ρ at hν hκ ⊢
  generalize cntR j (upR rows e).1 = κ at hκ ⊢
  by_cases hj : ∃ r, j ∈ rows.getD r []
  · obtain ⟨r, hr⟩ := hj
    have hjr : ∀ v, (j ∈ rows.getD v []) ↔ v = r := fun v => ⟨fun h => hT.same h hr, fun h => h ▸ hr⟩
    have hν' : ∀ v, ν v = ρ v + if v = r then 1 else 0 := fun v => by
      rw [hν v]
      by_cases c : v = r
      · rw [if_pos c, if_pos ((hjr v).mpr c)]
      · rw [if_neg c, if_neg (fun z => c ((hjr v).mp z))]
    by_cases hp : j ∈ pathU rows e
    · obtain ⟨v0, hv0⟩ := List.mem_iff_getElem?.mp hp
      have : v0 = r := hT.same (hG.at_ v0 j hv0) hr
      subst this
      have hpj : pU j rows e = v0 := by
        have h1 : ¬ v0 < pU j rows e := fun h => by
          have := (asc_idx (t := j) hG.up hv0).mpr h
          omega
        have h2 : v0 < pU (j + 1) rows e := (asc_idx (t := j + 1) hG.up hv0).mp (by omega)
        rw [hpp, if_pos hp] at h2
        omega
      rw [if_pos hp, hpj] at hpp
      have hμρ : μ = ρ := by
        funext v
        have h1 := hμ v
        rw [hpp, hν' v] at h1
        by_cases c : v = v0
        · rw [if_pos (by omega), if_pos c] at h1; omega
        · rw [if_neg (by omega), if_neg c] at h1; omega
      refine ⟨fun v => ?_, ?_⟩
      · unfold prevF
        rw [if_pos hμρ, hμρ, hν' (v + 1)]
        have h1 := hκ v
        rw [hpj] at h1
        by_cases c : v + 1 = v0
        · rw [if_pos c] at h1 ⊢; omega
        · rw [if_neg c] at h1 ⊢; omega
      · have h0 := hν' 0
        constructor
        · intro e1
          have : v0 = 0 := by
            refine hT.same (hG.at_ v0 j hv0) (hG.at_ 0 j ?_)
            rw [hl, e1]; rfl
          refine ⟨hμρ, ?_⟩
          rw [hμρ, h0, if_pos this.symm]
        · rintro ⟨_, h1⟩
          rw [hμρ, h0] at h1
          have : (0 : Nat) = v0 := by
            by_cases c : 0 = v0
            · exact c
            · rw [if_neg c] at h1; omega
          rw [← this, hl] at hv0
          simpa using hv0
    · rw [if_neg hp, Nat.add_zero] at hpp
      have hxj : x ≠ j := fun z => hp (z ▸ hx0)
      have hne : μ ≠ ρ ∧ ∀ v, κ v = μ v + ρ v - ν v := by
        by_cases c0 : pU j rows e = 0
        · rw [c0] at hpp
          have hμν : ∀ v, μ v = ν v := fun v => by
            have h1 := hμ v
            rw [hpp, if_neg (by omega)] at h1; omega
          have hκρ : ∀ v, κ v = ρ v := fun v => by
            have h1 := hκ v
            rw [c0, if_neg (by omega)] at h1; omega
          refine ⟨fun z => ?_, fun v => by rw [hμν, hκρ]; omega⟩
          have h1 := hμν r
          rw [z, hν' r, if_pos rfl] at h1
          omega
        · obtain ⟨q, hq⟩ : ∃ q, pU j rows e = q + 1 := ⟨pU j rows e - 1, by omega⟩
          have hqr : q ≠ r := fun z => by
            subst z
            have hql : q < (pathU rows e).length := by
              have : pU j rows e ≤ (pathU rows e).length := List.countP_le_length
              omega
            have hy : (pathU rows e)[q]? = some (pathU rows e)[q] := List.getElem?_eq_getElem hql
            generalize (pathU rows e)[q] = y at hy
            have hyj : y < j := (asc_idx hG.up hy).mpr (by unfold pU at hq; omega)
            have := path_max hT hC q j y hr hy fun z hz => by
              have h1 : ¬ z < j := fun h => by
                have := (asc_idx hG.up hz).mp h
                unfold pU at hq; omega
              have h2 : z ≠ j := fun h => hp (h ▸ List.mem_of_getElem? hz)
              omega
            omega
          rw [hq] at hpp
          have hμν : ∀ v, μ v + (if v = q then 1 else 0) = ν v := fun v => by
            have h1 := hμ v
            rw [hpp] at h1
            by_cases c : v = q
            · rw [if_pos (by omega)] at h1; rw [if_pos c]; exact h1
            · rw [if_neg (by omega)] at h1; rw [if_neg c]; exact h1
          have hκρ : ∀ v, κ v + (if v = q then 1 else 0) = ρ v := fun v => by
            have h1 := hκ v
            rw [hq] at h1
            by_cases c : v = q
            · rw [if_pos (by omega)] at h1; rw [if_pos c]; exact h1
            · rw [if_neg (by omega)] at h1; rw [if_neg c]; exact h1
          refine ⟨fun z => ?_, fun v => ?_⟩
          · have h1 := hμν r
            rw [z, hν' r, if_pos rfl, if_neg (fun z => hqr z.symm)] at h1
            omega
          · have := hμν v
            have := hκρ v
            omega
      refine ⟨fun v => ?_, ?_⟩
      · unfold prevF
        rw [if_neg hne.1]; exact hne.2 v
      · exact ⟨fun z => absurd z hxj, fun z => absurd z.1 hne.1⟩
  · have hjn : ∀ v, ¬ j ∈ rows.getD v [] := fun v h => hj ⟨v, h⟩
    have hν' : ∀ v, ν v = ρ v := fun v => by rw [hν v, if_neg (hjn v)]; rfl
    have hp : ¬ j ∈ pathU rows e := fun h => by
      obtain ⟨v0, hv0⟩ := List.mem_iff_getElem?.mp h
      exact hjn _ (hG.at_ v0 j hv0)
    rw [if_neg hp, Nat.add_zero] at hpp
    have hxj : x ≠ j := fun z => hp (z ▸ hx0)
    have hκμ : ∀ v, κ v = μ v := fun v => by
      have h1 := hμ v
      have h2 := hκ v
      rw [hpp, hν' v] at h1
      omega
    refine ⟨fun v => ?_, ⟨fun z => absurd z hxj, fun z => ?_⟩⟩
    · unfold prevF
      by_cases c : μ = ρ
      · rw [if_pos c, hκμ, c, hν' (v + 1)]; omega
      · rw [if_neg c, hκμ, hν' v]; omega
    · have := z.2
      rw [hν' 0, z.1] at this
      omega
end Pw
set_option Elab.async false
set_option linter.all false
set_option maxRecDepth 100000
set_option maxHeartbeats 1000000
/-! a stair column, inserted backwards from its own rows, gives an involution -/
namespace Pw
open PySem PySem.Spec PyProof.Rows L2
def backS (s : List Int) : Nat → List (List Int)
  | 0 => rowsF s
  | k + 1 => (upR (backS s k) (s.getD (s.length - 1 - k) 0).toNat).1
def backI (s : List Int) (k : Nat) : Int := (upR (backS s k) (s.getD (s.length - 1 - k) 0).toNat).2
/-- the item of each place -/
def backW (s : List Int) : List Int := (List.range s.length).map fun i => backI s (s.length - 1 - i)
theorem rowsF_getD {s : List Int} (hs : isStairI s = true) (h0 : s ≠ []) (v : Nat) : (rowsF s).getD v [] = rowF s (v : Int) := by
  rw [List.getD_eq_getElem?_getD]
  unfold rowsF
  by_cases c : v < mxN s + 1
  · simp [c]
  · rw [List.getElem?_eq_none (by simp; omega)]
    symm
    refine rowF_nil.mpr fun hm => ?_
    have := (stair_mem hs h0 v).mp hm
    omega
theorem rowF_cntP {s : List Int} {v : Int} {k : Nat} : (rowF s v).countP (fun y => decide (y < (k : Int))) = (s.take k).count v := by
  rw [List.countP_eq_length_filter, rowF_cut, rowF_len]
structure BackG (s : List Int) (k : Nat) : Prop where
  tab : TabE (backS s k)
  col : ColC (backS s k)
  len : (backS s k).length = mxN s + 1
  shape : ∀ v : Nat, ((backS s k).getD v []).length = (s.take (s.length - k)).count (v : Int)
  mem : ∀ y ∈ (backS s k).flatten, 0 ≤ y ∧ y < s.length
theorem back_base {s : List Int} (hs : isStairI s = true) (h0 : s ≠ []) : BackG s 0 := by
  have hp := rowsF_perm hs h0
  have hnr : (rangeI s.length).Nodup := by
    unfold rangeI
    rw [List.nodup_iff_pairwise_ne, List.pairwise_map]
    exact List.nodup_range.imp fun {a b} h => by omega
  refine ⟨⟨fun r hr => ?_, hp.nodup_iff.mpr hnr⟩, fun t v => ?_, by simp [backS, rowsF], fun v => ?_, fun y hy => ?_⟩
  · have hr : r ∈ rowsF s := hr
    unfold rowsF at hr
    obtain ⟨v, _, rfl⟩ := List.mem_map.mp hr
    exact rowF_rise
  · unfold cntR
    show ((rowsF s).getD (v + 1) []).countP _ ≤ ((rowsF s).getD v []).countP _
    rw [rowsF_getD hs h0, rowsF_getD hs h0]
    by_cases c : 0 ≤ t
    · obtain ⟨k, rfl⟩ := Int.eq_ofNat_of_zero_le c
      rw [rowF_cntP, rowF_cntP]
      exact stair_anti (stair_take hs k) v
    · rw [countP_ge_all fun z hz => by have := rowF_lt z hz; omega]
      exact Nat.zero_le _
  · show ((rowsF s).getD v []).length = _
    rw [rowsF_getD hs h0, rowF_len, Nat.sub_zero, List.take_length]
  · have hy : y ∈ (rowsF s).flatten := hy
    have := hp.mem_iff.mp hy
    unfold rangeI at this
    obtain ⟨k, hk, rfl⟩ := List.mem_map.mp this
    have := List.mem_range.mp hk
    omega
theorem back_at {s : List Int} {k : Nat} (hk : k < s.length) : s[s.length - 1 - k]? = some (s.getD (s.length - 1 - k) 0) := by
  rw [List.getD_eq_getElem?_getD, List.getElem?_eq_getElem (by omega)]; rfl
theorem back_take {s : List Int} {k : Nat} (hk : k < s.length) : s.take (s.length - k) = s.take (s.length - (k + 1)) ++ [s.getD (s.length - 1 - k) 0] := by
  have e : s.length - k = (s.length - 1 - k) + 1 := by omega
  have e2 : s.length - (k + 1) = s.length - 1 - k := by omega
  rw [e, e2, List.take_succ, back_at hk]; rfl
theorem back_cor {s : List Int} (hs : isStairI s = true) (h0 : s ≠ []) {k : Nat} (hk : k < s.length) (hG : BackG s k) : Cor (backS s k) (s.getD (s.length - 1 - k) 0).toNat := by
  have hm : s.getD (s.length - 1 - k) 0 ∈ s := List.mem_of_getElem? (back_at hk)
  have hlt := stair_lt hs h0 _ hm
  obtain ⟨e, he⟩ := Int.eq_ofNat_of_zero_le hlt.1
  have het : (s.getD (s.length - 1 - k) 0).toNat = e := by omega
  rw [het]
  refine ⟨hG.col, by rw [hG.len]; omega, ?_⟩
  rw [hG.shape, hG.shape, back_take hk, he]
  have := stair_anti (stair_take hs (s.length - (k + 1))) e
  have c : ¬ (e : Int) = ((e + 1 : Nat) : Int) := by omega
  rw [List.count_append, List.count_append, List.count_cons, List.count_cons, List.count_nil]
  have c1 : ((e : Int) == ((e + 1 : Nat) : Int)) = false := by simpa using c
  rw [if_neg (by rw [c1]; simp), if_pos (by simp)]
  have e9 : ((e + 1 : Nat) : Int) = (e : Int) + 1 := by omega
  rw [e9]
  omega
theorem up_len {rows : List (List Int)} {e : Nat} : ∀ {v : Nat}, TabE rows → Cor rows e → ((upR rows e).1.getD v []).length + (if v = e then 1 else 0) = (rows.getD v []).length := by
  intro v hT hC
  obtain ⟨T, h1⟩ : ∃ T : Int, ∀ y ∈ rows.flatten, y < T := by
    refine ⟨rows.flatten.foldl max 0 + 1, fun y hy => ?_⟩
    have := fmax_ge rows.flatten 0 y (List.mem_cons_of_mem _ hy)
    omega
  have hG := up_G hT hC
  have h2 : ∀ y ∈ (upR rows e).1.flatten, y < T := fun y hy => h1 y (hG.perm.mem_iff.mp (List.mem_cons_of_mem _ hy))
  have hp : pU T rows e = e + 1 := by
    unfold pU
    rw [countP_lt_all fun z hz => ?_, hG.len]
    obtain ⟨v, hv⟩ := List.mem_iff_getElem?.mp hz
    obtain ⟨q, g1, g2⟩ := getD_mem (hG.at_ v z hv)
    exact h1 z (List.mem_flatten.mpr ⟨q, List.mem_of_getElem? g1, g2⟩)
  have hall : ∀ (R : List (List Int)), (∀ y ∈ R.flatten, y < T) → cntR T R v = (R.getD v []).length := fun R hR => by
    unfold cntR
    refine countP_lt_all fun z hz => ?_
    obtain ⟨q, g1, g2⟩ := getD_mem hz
    exact hR z (List.mem_flatten.mpr ⟨q, List.mem_of_getElem? g1, g2⟩)
  have := cnt_up (t := T) (v := v) hT hC
  rw [hp, hall _ h1, hall _ h2] at this
  by_cases c : v = e
  · rw [if_pos (by omega)] at this; rw [if_pos c]; exact this
  · rw [if_neg (by omega)] at this; rw [if_neg c]; exact this
theorem back_G {s : List Int} (hs : isStairI s = true) (h0 : s ≠ []) : ∀ k, k ≤ s.length → BackG s k
  | 0, _ => back_base hs h0
  | k + 1, hk => by
    have hG := back_G hs h0 k (by omega)
    have hC := back_cor hs h0 (by omega) hG
    have hU := up_G hG.tab hC
    refine ⟨up_tab hG.tab hC, up_col hG.tab hC, ?_, fun v => ?_, fun y hy => hG.mem y (hU.perm.mem_iff.mp (List.mem_cons_of_mem _ hy))⟩
    · show (upR _ _).1.length = _
      rw [hU.rl, hG.len]
    · have h1 := up_len (v := v) hG.tab hC
      have h2 := hG.shape v
      rw [back_take (by omega), List.count_append, List.count_cons, List.count_nil] at h2
      have hm : s.getD (s.length - 1 - k) 0 ∈ s := List.mem_of_getElem? (back_at (by omega))
      have hnn := stair_nn hs _ hm
      show ((upR _ _).1.getD v []).length = _
      by_cases c : v = (s.getD (s.length - 1 - k) 0).toNat
      · have e1 : s.getD (s.length - 1 - k) 0 = (v : Int) := by omega
        rw [if_pos c] at h1
        rw [if_pos (by simpa using e1)] at h2
        omega
      · have e1 : ¬ s.getD (s.length - 1 - k) 0 = (v : Int) := by omega
        rw [if_neg c] at h1
        rw [if_neg (by simpa using e1)] at h2
        omega
def lamB (s : List Int) (a b v : Nat) : Nat := cntR ((s.length - b : Nat) : Int) (backS s a) v
theorem lamB_zero {s : List Int} (hs : isStairI s = true) (h0 : s ≠ []) (b v : Nat) : lamB s 0 b v = (s.take (s.length - b)).count (v : Int) := by
  unfold lamB cntR
  show ((rowsF s).getD v []).countP _ = _
  rw [rowsF_getD hs h0, rowF_cntP]
theorem lamB_zero' {s : List Int} (hs : isStairI s = true) (h0 : s ≠ []) {a : Nat} (ha : a ≤ s.length) (v : Nat) : lamB s a 0 v = (s.take (s.length - a)).count (v : Int) := by
  have hG := back_G hs h0 a ha
  unfold lamB cntR
  rw [countP_lt_all fun z hz => ?_, hG.shape]
  obtain ⟨q, g1, g2⟩ := getD_mem hz
  have := (hG.mem z (List.mem_flatten.mpr ⟨q, List.mem_of_getElem? g1, g2⟩)).2
  omega
/-- one step -/
theorem lamB_step {s : List Int} (hs : isStairI s = true) (h0 : s ≠ []) {a b : Nat} (ha : a < s.length) (hb : b < s.length) :
    (∀ v, lamB s (a + 1) (b + 1) v = prevF (lamB s a b) (lamB s (a + 1) b) (lamB s a (b + 1)) v) ∧
    (backI s a = ((s.length - 1 - b : Nat) : Int) ↔ (lamB s (a + 1) b = lamB s a (b + 1) ∧ lamB s a b 0 = lamB s (a + 1) b 0 + 1)) := by
  have hG := back_G hs h0 a (by omega)
  have hC := back_cor hs h0 ha hG
  have hg := growB (j := ((s.length - 1 - b : Nat) : Int)) hG.tab hC
  have e1 : ((s.length - 1 - b : Nat) : Int) + 1 = ((s.length - b : Nat) : Int) := by omega
  have e2 : s.length - 1 - b = s.length - (b + 1) := by omega
  rw [e1] at hg
  have f1 : cntR ((s.length - b : Nat) : Int) (backS s a) = lamB s a b := rfl
  have f2 : cntR ((s.length - b : Nat) : Int) (upR (backS s a) (s.getD (s.length - 1 - a) 0).toNat).1 = lamB s (a + 1) b := rfl
  have f3 : cntR ((s.length - 1 - b : Nat) : Int) (backS s a) = lamB s a (b + 1) := by rw [e2]; rfl
  have f4 : cntR ((s.length - 1 - b : Nat) : Int) (upR (backS s a) (s.getD (s.length - 1 - a) 0).toNat).1 = lamB s (a + 1) (b + 1) := by rw [e2]; rfl
  rw [f1, f2, f3, f4] at hg
  exact hg
theorem lamB_sym {s : List Int} (hs : isStairI s = true) (h0 : s ≠ []) : ∀ (a : Nat), a ≤ s.length → ∀ (b : Nat), b ≤ s.length → lamB s a b = lamB s b a
  | 0, _, b, hb => by funext v; rw [lamB_zero hs h0, lamB_zero' hs h0 hb]
  | a + 1, ha, 0, _ => by funext v; rw [lamB_zero hs h0, lamB_zero' hs h0 ha]
  | a + 1, ha, b + 1, hb => by
    have i1 := lamB_sym hs h0 a (by omega) b (by omega)
    have i2 := lamB_sym hs h0 a (by omega) (b + 1) hb
    have i3 := lamB_sym hs h0 (a + 1) ha b (by omega)
    have g1 := (lamB_step hs h0 (a := a) (b := b) (by omega) (by omega)).1
    have g2 := (lamB_step hs h0 (a := b) (b := a) (by omega) (by omega)).1
    funext v
    rw [g1 v, g2 v, ← i1, ← i2, ← i3, prevF_sym]
theorem backI_sym {s : List Int} (hs : isStairI s = true) (h0 : s ≠ []) {a b : Nat} (ha : a < s.length) (hb : b < s.length) (h : backI s a = ((s.length - 1 - b : Nat) : Int)) : backI s b = ((s.length - 1 - a : Nat) : Int) := by
  have g1 := (lamB_step hs h0 ha hb).2.mp h
  refine (lamB_step hs h0 hb ha).2.mpr ?_
  rw [← lamB_sym hs h0 a (by omega) (b + 1) (by omega), ← lamB_sym hs h0 (a + 1) (by omega) b (by omega), ← lamB_sym hs h0 a (by omega) b (by omega)]
  exact ⟨g1.1.symm, by rw [← g1.1]; exact g1.2⟩
theorem backI_rng {s : List Int} (hs : isStairI s = true) (h0 : s ≠ []) {a : Nat} (ha : a < s.length) : 0 ≤ backI s a ∧ backI s a < s.length := by
  have hG := back_G hs h0 a (by omega)
  have hC := back_cor hs h0 ha hG
  exact hG.mem _ (up_G hG.tab hC).mem
/-- an involution -/
theorem backW_inv {s : List Int} (hs : isStairI s = true) (h0 : s ≠ []) : InvI (backW s) where
  rng := fun i hi => by
    unfold backW at hi ⊢
    obtain ⟨k, hk, rfl⟩ := List.mem_map.mp hi
    have hk := List.mem_range.mp hk
    have := backI_rng hs h0 (a := s.length - 1 - k) (by omega)
    simpa using this
  inv := fun i j h => by
    unfold backW at h ⊢
    rw [List.getElem?_map] at h
    obtain ⟨k, hk, e⟩ := Option.map_eq_some_iff.mp h
    have hil : i < s.length := by
      have := (List.getElem?_eq_some_iff.mp hk).1
      simpa using this
    rw [List.getElem?_range hil] at hk
    obtain rfl := Option.some.inj hk
    have hr := backI_rng hs h0 (a := s.length - 1 - i) (by omega)
    rw [e] at hr
    have hjl : j < s.length := by omega
    rw [List.getElem?_map, List.getElem?_range hjl]
    have := backI_sym hs h0 (a := s.length - 1 - i) (b := s.length - 1 - j) (by omega) (by omega) (by rw [e]; omega)
    simp only [Option.map_some]
    rw [this]
    congr 1
    omega
end Pw
set_option Elab.async false
set_option linter.all false
set_option maxRecDepth 100000
set_option maxHeartbeats 1000000
/-! the step forward and the step backwards undo one another -/
namespace Pw
open PySem PySem.Spec PyProof.Rows L2
theorem getD_nn {r : List Int} {i : Nat} (h : ∀ y ∈ r, 0 ≤ y) : 0 ≤ r.getD i 0 := by
  rw [List.getD_eq_getElem?_getD]
  cases e : r[i]? with
  | none => exact Int.le_refl 0
  | some y => exact h y (List.mem_of_getElem? e)
theorem ins_emp : ∀ {A : List (List Int)} {k : Nat} {x : Int}, 0 ≤ x → (∀ y ∈ A.flatten, 0 ≤ y) →
    (insR (A ++ List.replicate k []) x).2 = (insR A x).2 ∧ ∃ k', (insR (A ++ List.replicate k []) x).1 = (insR A x).1 ++ List.replicate k' []
  | [], 0, x, _, _ => ⟨rfl, 0, by simp⟩
  | [], k + 1, x, hx, _ => by
    have hm : ¬ x < maxI [] := by
      have : maxI [] = 0 := rfl
      omega
    have e : insR (([] : List (List Int)) ++ List.replicate (k + 1) []) x = ([x] :: List.replicate k [], 0) := by
      rw [List.nil_append, List.replicate_succ, insR, if_neg hm]; rfl
    rw [e]
    exact ⟨rfl, k, rfl⟩
  | r :: rs, k, x, hx, h => by
    have hr : ∀ y ∈ r, 0 ≤ y := fun y hy => h y (by simp [hy])
    have hrs : ∀ y ∈ rs.flatten, 0 ≤ y := fun y hy => h y (by rw [List.flatten_cons]; exact List.mem_append_right _ hy)
    rw [List.cons_append]
    by_cases hm : x < maxI r
    · obtain ⟨i1, k', i2⟩ := ins_emp (A := rs) (k := k) (x := r.getD (r.filter fun y => decide (y < x)).length 0) (getD_nn hr) hrs
      simp only [insR, if_pos hm]
      refine ⟨by rw [i1], k', by rw [i2]; rfl⟩
    · simp only [insR, if_neg hm]
      exact ⟨trivial, k, rfl⟩
theorem filter_split {a b : List Int} {z : Int} (h1 : ∀ y ∈ a, y < z) (h2 : ∀ y ∈ b, ¬ y < z) : ((a ++ b).filter fun y => decide (y < z)) = a := by
  rw [List.filter_append, List.filter_eq_self.mpr fun y hy => by simpa using h1 y hy, List.filter_eq_nil_iff.mpr fun y hy => by simpa using h2 y hy, List.append_nil]
theorem set_mid {a b : List Int} {x y : Int} : (a ++ x :: b).set a.length y = a ++ y :: b := by
  rw [List.set_append_right _ _ (Nat.le_refl _)]; simp
theorem getD_mid {a b : List Int} {x : Int} : (a ++ x :: b).getD a.length 0 = x := by
  rw [List.getD_eq_getElem?_getD, List.getElem?_append_right (Nat.le_refl _)]; simp
/-- forward after backwards -/
theorem ins_of_up : ∀ {rows : List (List Int)} {e : Nat}, TabE rows → Cor rows e → (∀ y ∈ rows.flatten, 0 ≤ y) → insR (upR rows e).1 (upR rows e).2 = (rows, e)
  | [], e, _, hC, _ => by have := hC.lt; simp at this
  | r :: rs, 0, hT, hC, hn => by
    obtain ⟨a, y, e1, e2, e3⟩ := last_split hC.ne
    have hy : 0 ≤ y := hn y (by rw [e1]; simp)
    have hasc := hT.rise r (List.mem_cons_self ..)
    rw [e1, List.pairwise_append] at hasc
    have hm : ¬ y < maxI a := by
      by_cases c : a = []
      · subst c
        have : maxI [] = 0 := rfl
        omega
      · have := hasc.2.2 _ (maxI_mem c) y (by simp)
        omega
    rw [upR, e2, e3, insR, if_neg hm, ← e1]
  | r :: rs, e + 1, hT, hC, hn => by
    have hrs : ∀ y ∈ rs.flatten, 0 ≤ y := fun y hy => hn y (by rw [List.flatten_cons]; exact List.mem_append_right _ hy)
    have ih := ins_of_up hT.tail hC.tail hrs
    have hG := up_G hT.tail hC.tail
    have hout : (upR rs e).2 ∉ r := fun hm => hT.out hm hG.mem
    have hrow := up_item_row0 hT hC hG
    have hasc := hT.rise r (List.mem_cons_self ..)
    obtain ⟨a, z, b, e1, g1, g2, g3, g4, g5⟩ := lift hasc hout hrow
    rw [upR, g4, g5]
    generalize hy : (upR rs e).2 = y at *
    have hm : z < maxI (a ++ y :: b) := by
      have := maxI_ge (ns := a ++ y :: b) y (by simp)
      omega
    have hf : ((a ++ y :: b).filter fun u => decide (u < z)) = a := filter_split g1 fun u hu => by
      rcases List.mem_cons.mp hu with rfl | hu
      · omega
      · have := g3 u hu; omega
    rw [insR, if_pos hm, hf, set_mid, getD_mid, ih, ← e1]
/-- backwards after forward -/
theorem up_of_ins : ∀ {rows : List (List Int)} {x : Int}, Tab rows → x ∉ rows.flatten → ∃ k, upR (insR rows x).1 (insR rows x).2 = (rows ++ List.replicate k [], x)
  | [], x, _, _ => ⟨1, by simp [insR, upR]⟩
  | r :: rs, x, hT, hx => by
    have hxr : x ∉ r := fun z => hx (by simp [z])
    by_cases hm : x < maxI r
    · obtain ⟨a, y, b, e1, e2, g1, g2, g3, g4, g5⟩ := bump (hT.rise r (List.mem_cons_self ..)) hxr hm (hT.ne r (List.mem_cons_self ..))
      have hy : y ∉ rs.flatten := hT.out (by rw [e1]; simp)
      obtain ⟨k, ih⟩ := up_of_ins hT.tail hy
      refine ⟨k, ?_⟩
      rw [insR, if_pos hm, g4, g5, upR, ih]
      have hf : ((a ++ x :: b).filter fun u => decide (u < y)) = a ++ [x] := by
        have := filter_split (a := a ++ [x]) (b := b) (z := y) (fun u hu => by
          rcases List.mem_append.mp hu with hu | hu
          · have := g1 u hu; omega
          · rw [List.mem_singleton.mp hu]; exact g2) (fun u hu => by have := g3 u hu; omega)
        simpa using this
      have hl : (a ++ [x]).length - 1 = a.length := by simp
      rw [hf, hl, set_mid, getD_mid, ← e1]
      rfl
    · refine ⟨0, ?_⟩
      rw [insR, if_neg hm, upR]
      simp [List.getD_eq_getElem?_getD]
theorem up_emp : ∀ {A : List (List Int)} {k e : Nat}, e < A.length → upR (A ++ List.replicate k []) e = ((upR A e).1 ++ List.replicate k [], (upR A e).2)
  | [], k, e, h => by simp at h
  | r :: rs, k, 0, _ => rfl
  | r :: rs, k, e + 1, h => by
    have ih := up_emp (A := rs) (k := k) (e := e) (by simpa using h)
    rw [List.cons_append, upR, ih, upR]
    rfl
theorem ins_idx : ∀ {rows : List (List Int)} {x : Int}, (insR rows x).2 < (insR rows x).1.length
  | [], x => by simp [insR]
  | r :: rs, x => by
    by_cases hm : x < maxI r
    · have ih := ins_idx (rows := rs) (x := r.getD (r.filter fun y => decide (y < x)).length 0)
      rw [insR, if_pos hm]
      simp only [List.length_cons]
      omega
    · rw [insR, if_neg hm]; simp
/-- where the box of a place stands -/
theorem insAll_pre {w : List Int} : ∀ {i : Nat}, i ≤ w.length → (insAll w).2.take i = (insAll (w.take i)).2 := by
  induction w using rev_ind with
  | h0 => intro i hi; simp at hi; subst hi; rfl
  | h1 l x ih =>
    intro i hi
    have hl : (insAll l).2.length = l.length := by
      clear ih hi
      induction l using rev_ind with
      | h0 => rfl
      | h1 l y ih => rw [insAll_snoc]; simp [ih]
    by_cases c : i ≤ l.length
    · rw [insAll_snoc, List.take_append_of_le_length (by omega), List.take_append_of_le_length c]
      exact ih c
    · have : i = l.length + 1 := by simp at hi; omega
      subst this
      rw [List.take_of_length_le (by rw [insAll_snoc]; simp [hl]), List.take_of_length_le (by simp)]
end Pw
set_option Elab.async false
set_option linter.all false
set_option maxRecDepth 100000
set_option maxHeartbeats 1000000
/-! stair columns and involutions: there and back -/
namespace Pw
open PySem PySem.Spec PyProof.Rows L2
theorem asc_ext {a b : List Int} (ha : a.Pairwise (· < ·)) (hb : b.Pairwise (· < ·)) (h : ∀ y, y ∈ a ↔ y ∈ b) : a = b := by
  have na := rise_nodup ha
  have nb := rise_nodup hb
  have hp : a.Perm b := (List.perm_ext_iff_of_nodup na nb).mpr h
  exact List.Perm.eq_of_pairwise (fun x y _ _ h1 h2 => by omega) ha hb hp
theorem mem_of_cnt {n : Nat} {a b : List Int} (ha : a.Pairwise (· < ·)) (hb : b.Pairwise (· < ·)) (h1 : ∀ y ∈ a, 0 ≤ y ∧ y < n) (h2 : ∀ y ∈ b, 0 ≤ y ∧ y < n)
    (h : ∀ j : Nat, j ≤ n → a.countP (fun y => decide (y < (j : Int))) = b.countP (fun y => decide (y < (j : Int)))) : a = b := by
  have key : ∀ l : List Int, l.Pairwise (· < ·) → ∀ j : Nat, ((j : Int) ∈ l ↔ l.countP (fun y => decide (y < ((j + 1 : Nat) : Int))) ≠ l.countP (fun y => decide (y < (j : Int)))) := by
    intro l hl j
    have := countP_step (j := (j : Int)) (rise_nodup hl)
    rw [show ((j + 1 : Nat) : Int) = (j : Int) + 1 by omega, this]
    by_cases c : (j : Int) ∈ l
    · simp [c]
    · simp [c]
  refine asc_ext ha hb fun y => ?_
  by_cases hy : 0 ≤ y ∧ y < n
  · obtain ⟨j, rfl⟩ := Int.eq_ofNat_of_zero_le hy.1
    rw [key a ha j, key b hb j, h j (by omega), h (j + 1) (by omega)]
  · exact ⟨fun z => absurd (h1 y z) hy, fun z => absurd (h2 y z) hy⟩
theorem rows_ext : ∀ {A B : List (List Int)}, (∀ r ∈ A, r ≠ []) → (∀ r ∈ B, r ≠ []) → (∀ v, A.getD v [] = B.getD v []) → A = B
  | [], [], _, _, _ => rfl
  | [], b :: B, _, hB, h => by
    have := h 0
    simp at this
    exact absurd this.symm (fun z => hB b (List.mem_cons_self ..) z.symm)
  | a :: A, [], hA, _, h => by
    have := h 0
    simp at this
    exact absurd this (hA a (List.mem_cons_self ..))
  | a :: A, b :: B, hA, hB, h => by
    have h0 := h 0
    simp at h0
    rw [h0, rows_ext (A := A) (B := B) (fun r hr => hA r (List.mem_cons_of_mem _ hr)) (fun r hr => hB r (List.mem_cons_of_mem _ hr)) fun v => by simpa using h (v + 1)]
/-- the tableau of an involution is that of its stair column -/
theorem rowsF_ins {w : List Int} (hw : InvI w) (h0 : w ≠ []) : rowsF (insAll w).2 = (insAll w).1 := by
  have hG := insAll_G hw.nodup
  have hs := hG.stair
  have hl : (insAll w).2.length = w.length := hG.len
  have hs0 : (insAll w).2 ≠ [] := fun z => by rw [z] at hl; exact h0 (List.length_eq_zero_iff.mp hl.symm)
  have hmem : ∀ y ∈ (insAll w).1.flatten, 0 ≤ y ∧ y < w.length := fun y hy => hw.rng y (hG.perm.mem_iff.mp hy)
  refine rows_ext ?_ hG.tab.ne ?_
  · intro r hr
    unfold rowsF at hr
    obtain ⟨v, hv, rfl⟩ := List.mem_map.mp hr
    have hv' := List.mem_range.mp hv
    intro z
    exact rowF_nil.mp z ((stair_mem hs hs0 v).mpr (by omega))
  · intro v
    rw [rowsF_getD hs hs0]
    refine mem_of_cnt (n := w.length) ?_ ?_ ?_ ?_ ?_
    · have := (back_base hs hs0).tab.rowD v
      rw [show backS (insAll w).2 0 = rowsF (insAll w).2 from rfl, rowsF_getD hs hs0] at this
      exact this
    · have hE : TabE (insAll w).1 := ⟨hG.tab.rise, hG.tab.nd⟩
      exact hE.rowD v
    · intro y hy
      have := rowF_lt y hy
      rw [hl] at this
      exact this
    · intro y hy
      obtain ⟨q, g1, g2⟩ := getD_mem hy
      exact hmem y (List.mem_flatten.mpr ⟨q, List.mem_of_getElem? g1, g2⟩)
    · intro j hj
      rw [rowF_cntP]
      have h1 := lam_sym hw w.length (Nat.le_refl _) j hj v
      rw [List.take_length] at h1
      have h2 : cntR (j : Int) (insAll w).1 v = ((insAll w).1.getD v []).countP fun y => decide (y < (j : Int)) := rfl
      rw [← h2, h1]
      have hGj := insAll_G (take_nodup hw.nodup j)
      have h3 : cntR (w.length : Int) (insAll (w.take j)).1 v = ((insAll (w.take j)).1.getD v []).length := by
        refine countP_lt_all fun z hz => ?_
        obtain ⟨q, g1, g2⟩ := getD_mem hz
        have := hGj.perm.mem_iff.mp (List.mem_flatten.mpr ⟨q, List.mem_of_getElem? g1, g2⟩)
        exact (hw.rng z (List.mem_of_mem_take this)).2
      rw [h3, ← hGj.cnt v, insAll_pre hj]
/-- forward, then backwards -/
theorem back_of_ins {w : List Int} (hw : InvI w) (h0 : w ≠ []) : ∀ k, k ≤ w.length → ∃ m, backS (insAll w).2 k = (insAll (w.take (w.length - k))).1 ++ List.replicate m []
  | 0, _ => ⟨0, by simp [backS, rowsF_ins hw h0]⟩
  | k + 1, hk => by
    have hl : (insAll w).2.length = w.length := (insAll_G hw.nodup).len
    obtain ⟨m, ih⟩ := back_of_ins hw h0 k (by omega)
    have hil : w.length - 1 - k < w.length := by omega
    have hx : w[w.length - 1 - k]? = some w[w.length - 1 - k] := List.getElem?_eq_getElem hil
    generalize hxe : w[w.length - 1 - k] = x at hx
    have e1 : w.length - k = (w.length - 1 - k) + 1 := by omega
    have e2 : w.length - (k + 1) = w.length - 1 - k := by omega
    have hT := insAll_take hx
    have hGi := insAll_G (take_nodup hw.nodup (w.length - 1 - k))
    have hout : x ∉ (insAll (w.take (w.length - 1 - k))).1.flatten := fun z => take_out hw.nodup hx (hGi.perm.mem_iff.mp z)
    have hidx : (insAll w).2.getD ((insAll w).2.length - 1 - k) 0 = ((insR (insAll (w.take (w.length - 1 - k))).1 x).2 : Int) := by
      have hp := insAll_pre (w := w) (i := w.length - 1 - k + 1) (by omega)
      rw [hT] at hp
      have hg := congrArg (fun l => l[w.length - 1 - k]?) hp
      simp only at hg
      rw [List.getElem?_take_of_lt (by omega), List.getElem?_append_right (by rw [hGi.len]; simp; omega)] at hg
      rw [hl, List.getD_eq_getElem?_getD, hg, hGi.len]
      simp [Nat.min_eq_left (show w.length - 1 - k ≤ w.length by omega)]
    obtain ⟨k2, hup⟩ := up_of_ins hGi.tab hout
    refine ⟨k2 + m, ?_⟩
    rw [backS, hidx, ih, e1, hT, Int.toNat_natCast, up_emp ins_idx, hup, e2, List.append_assoc, List.replicate_append_replicate]
theorem backW_ins {w : List Int} (hw : InvI w) (h0 : w ≠ []) : backW (insAll w).2 = w := by
  have hl : (insAll w).2.length = w.length := (insAll_G hw.nodup).len
  unfold backW
  rw [hl]
  refine List.ext_getElem (by simp) fun i h1 h2 => ?_
  simp only [List.getElem_map, List.getElem_range]
  have hi : i < w.length := h2
  obtain ⟨m, hb⟩ := back_of_ins hw h0 (w.length - 1 - i) (by omega)
  have hx : w[i]? = some w[i] := List.getElem?_eq_getElem hi
  generalize hxe : w[i] = x at hx ⊢
  have hT := insAll_take hx
  have hGi := insAll_G (take_nodup hw.nodup i)
  have hout : x ∉ (insAll (w.take i)).1.flatten := fun z => take_out hw.nodup hx (hGi.perm.mem_iff.mp z)
  have hidx : (insAll w).2.getD ((insAll w).2.length - 1 - (w.length - 1 - i)) 0 = ((insR (insAll (w.take i)).1 x).2 : Int) := by
    have hp := insAll_pre (w := w) (i := i + 1) (by omega)
    rw [hT] at hp
    have hg := congrArg (fun l => l[i]?) hp
    simp only at hg
    rw [List.getElem?_take_of_lt (by omega), List.getElem?_append_right (by rw [hGi.len]; simp; omega)] at hg
    rw [hl, List.getD_eq_getElem?_getD, show w.length - 1 - (w.length - 1 - i) = i by omega, hg, hGi.len]
    simp [Nat.min_eq_left (show i ≤ w.length by omega)]
  obtain ⟨k2, hup⟩ := up_of_ins hGi.tab hout
  unfold backI
  rw [hidx, hb, show w.length - (w.length - 1 - i) = i + 1 by omega, hT, Int.toNat_natCast, up_emp ins_idx, hup]
/-- backwards, then forward -/
theorem ins_of_back {s : List Int} (hs : isStairI s = true) (h0 : s ≠ []) : ∀ i, i ≤ s.length → (insAll ((backW s).take i)).2 = s.take i ∧ ∃ m, backS s (s.length - i) = (insAll ((backW s).take i)).1 ++ List.replicate m []
  | 0, _ => by
    refine ⟨by simp, (backS s s.length).length, ?_⟩
    have hG := back_G hs h0 s.length (Nat.le_refl _)
    simp only [Nat.sub_zero, List.take_zero, insAll_nil, List.nil_append]
    refine List.eq_replicate_iff.mpr ⟨rfl, fun r hr => ?_⟩
    obtain ⟨v, hv⟩ := List.mem_iff_getElem?.mp hr
    have := hG.shape v
    rw [List.getD_eq_getElem?_getD, hv, Nat.sub_self] at this
    simpa using this
  | i + 1, hi => by
    obtain ⟨ih1, m, ih2⟩ := ins_of_back hs h0 i (by omega)
    have hil : i < s.length := by omega
    have hwl : (backW s).length = s.length := by simp [backW]
    have hx : (backW s)[i]? = some (backI s (s.length - 1 - i)) := by
      unfold backW
      rw [List.getElem?_map, List.getElem?_range hil]; rfl
    have hT := insAll_take hx
    have e1 : s.length - i = (s.length - 1 - i) + 1 := by omega
    have e2 : s.length - (i + 1) = s.length - 1 - i := by omega
    have hk : s.length - 1 - i < s.length := by omega
    have hG := back_G hs h0 (s.length - 1 - i) (by omega)
    have hC := back_cor hs h0 hk hG
    have hgi : s.getD (s.length - 1 - (s.length - 1 - i)) 0 = s[i] := by
      rw [show s.length - 1 - (s.length - 1 - i) = i by omega, List.getD_eq_getElem?_getD, List.getElem?_eq_getElem hil]; rfl
    have hF := ins_of_up hG.tab hC fun y hy => (hG.mem y hy).1
    have hsn : 0 ≤ s[i] := stair_nn hs _ (List.getElem_mem hil)
    have hst : backS s (s.length - i) = (upR (backS s (s.length - 1 - i)) (s.getD (s.length - 1 - (s.length - 1 - i)) 0).toNat).1 := by rw [e1]; rfl
    have hbI : backI s (s.length - 1 - i) = (upR (backS s (s.length - 1 - i)) (s.getD (s.length - 1 - (s.length - 1 - i)) 0).toNat).2 := rfl
    rw [← hst, ← hbI, ih2] at hF
    have hGi := back_G hs h0 (s.length - i) (by omega)
    obtain ⟨i1, k', i2⟩ := ins_emp (A := (insAll ((backW s).take i)).1) (k := m) (x := backI s (s.length - 1 - i)) (backI_rng hs h0 hk).1 fun y hy => by
      refine (hGi.mem y ?_).1
      rw [ih2, List.flatten_append]
      exact List.mem_append_left _ hy
    rw [hF] at i1 i2
    refine ⟨?_, k', ?_⟩
    · rw [hT, ih1, ← i1, List.take_succ, List.getElem?_eq_getElem hil, hgi]
      simp
      rw [List.take_succ, List.getElem?_eq_getElem hil, Int.max_eq_left hsn]; rfl
    · rw [e2, hT]; exact i2
theorem ins_backW {s : List Int} (hs : isStairI s = true) (h0 : s ≠ []) : (insAll (backW s)).2 = s := by
  have hwl : (backW s).length = s.length := by simp [backW]
  have := (ins_of_back hs h0 s.length (Nat.le_refl _)).1
  rwa [List.take_of_length_le (by omega), List.take_of_length_le (Nat.le_refl _)] at this
theorem rowF_place {s : List Int} {i : Nat} {v : Int} (h : s[i]? = some v) : ((i : Nat) : Int) ∈ rowF s v := by
  unfold rowF
  refine List.mem_map.mpr ⟨(v, i), List.mem_filter.mpr ⟨?_, by simp⟩, rfl⟩
  exact List.mem_zipIdx_iff_getElem?.mpr h
/-- the stair column by the tableau is the one by the boxes -/
theorem stBy_ins {w g : List Int} (hw : InvI w) (h0 : w ≠ []) (hl : g.length = w.length) (h : ∀ (v : Nat) (r : List Int), (insAll w).1[v]? = some r → ∀ i ∈ r, g[i.toNat]? = some (v : Int)) : g = (insAll w).2 := by
  have hG := insAll_G hw.nodup
  have hs := hG.stair
  have hsl : (insAll w).2.length = w.length := hG.len
  have hs0 : (insAll w).2 ≠ [] := fun z => by rw [z] at hsl; exact h0 (List.length_eq_zero_iff.mp hsl.symm)
  apply List.ext_getElem?
  intro i
  by_cases c : i < w.length
  · have hi : (insAll w).2[i]? = some (insAll w).2[i] := List.getElem?_eq_getElem (by omega)
    have hn := stair_nn hs _ (List.mem_of_getElem? hi)
    obtain ⟨v, hv⟩ := Int.eq_ofNat_of_zero_le hn
    rw [hv] at hi
    have hp := rowF_place hi
    have e := rowsF_getD hs hs0 v
    rw [rowsF_ins hw h0] at e
    rw [← e] at hp
    obtain ⟨q, g1, g2⟩ := getD_mem hp
    have := h v q g1 _ g2
    rw [Int.toNat_natCast] at this
    rw [hi, this]
  · rw [List.getElem?_eq_none (by omega), List.getElem?_eq_none (by omega)]
end Pw
set_option Elab.async false
set_option linter.all false
set_option maxRecDepth 100000
set_option maxHeartbeats 1000000
namespace Pw
open PySem PySem.Spec PyProof.Rows L2
/-! the doors, with the values that they answer -/
abbrev ntI (f : List Nat) : List Int := f.map fun (k : Nat) => (k : Int)
/-- the stair column of an involution -/
def stI (f : List Nat) : List Int := (insAll (ntI f)).2
theorem ntI_ne {f : List Nat} (h1 : 1 ≤ f.length) : ntI f ≠ [] := fun e => by
  cases f with
  | nil => simp at h1
  | cons a f => cases e
theorem stI_G {f : List Nat} (hf : InvN f) : isStairI (stI f) = true ∧ (stI f).length = f.length := by
  have hG := insAll_G (invI_of' hf).nodup
  exact ⟨hG.stair, by rw [stI, hG.len]; simp⟩
theorem stI_col {f : List Nat} (hf : InvN f) (h1 : 1 ≤ f.length) (h2 : f.length ≤ 60) : ColI (stI f) ∧ stI f ≠ [] := by
  obtain ⟨hs, hl⟩ := stI_G hf
  refine ⟨⟨by omega, by omega, fun i hi => ?_⟩, fun e => ?_⟩
  · have q1 := stair_nn hs i hi
    have q2 := stair_bound hs i hi
    unfold TOP; omega
  · rw [e] at hl; simp at hl; omega
theorem back_stI {f : List Nat} (hf : InvN f) (h1 : 1 ≤ f.length) : backW (stI f) = ntI f := backW_ins (invI_of' hf) (ntI_ne h1)
theorem toNat_ntI {f : List Nat} : (ntI f).map Int.toNat = f := by
  simp [ntI, Function.comp_def]
theorem sp_stair_inI {n : Nat} {f : List Nat} {M : Mp} {Q : DK} {X : Str → Mp → Prop} (hf : InvN f) (h1 : 1 ≤ f.length) (h2 : f.length ≤ 60) (h : Q (.tup ((stI f).map D.int)) M) (hn : 2 ≤ n := by omega) : run PG n "stair_in" [.tup (natsD f)] M Q X := by
  have hI := invI_of' hf
  rw [natsD_ints]
  refine sp_stair_in hI.nodup (fun i hi => hI.rng i hi) (by simpa using h2) fun g g1 g2 _ => ?_
  have := stBy_ins hI (ntI_ne h1) (by simpa using g1) g2
  rw [this]; exact h
/-- a stair column is that of its involution -/
theorem stair_is {s : List Int} (hs : isStairI s = true) (h0 : s ≠ []) : ∃ f : List Nat, InvN f ∧ f.length = s.length ∧ stI f = s := by
  obtain ⟨g1, g2⟩ := invN_of' (backW_inv hs h0)
  refine ⟨(backW s).map Int.toNat, g1, by simp [backW], ?_⟩
  have e : ntI ((backW s).map Int.toNat) = backW s := by
    rw [natsD_ints] at g2
    exact (List.map_inj_right (fun x y h => D.int.inj h)).mp g2
  rw [stI, e]
  exact ins_backW hs h0
end Pw
set_option Elab.async false
set_option linter.all false
set_option maxRecDepth 100000
set_option maxHeartbeats 1000000
namespace Pw
open PySem PySem.Spec PyProof.Rows L2
def dRows (rows : List (List Int)) : List (List D) := rows.map fun r => r.map D.int
/-- the state of the inner loop: what is above stays, what is below is to be done -/
def InsW (w : List Int) (B : Mp) (p f : Addr) (it : Int) (fin : List (List Int)) (e : Nat) (k : Nat) (δ : St) (M' : Mp) : Prop :=
  ∃ (pre rs : List (List Int)) (x : Int) (qs : List Addr), k = rs.length ∧ Tab rs ∧ x ∉ rs.flatten ∧ pre ++ (insR rs x).1 = fin ∧ pre.length + (insR rs x).2 = e ∧ RowsG B M' p qs (dRows (pre ++ rs)) ∧ (pre ++ rs).length ≤ 60 ∧ (∀ r ∈ pre ++ rs, r.length ≤ 60) ∧
    δ = [some (.tup (w.map D.int)), some (.ref p), some (.ref f), some (.int it), some (.int (pre.length : Nat)), some (.int x), none, none, none, none]
theorem sp_law_insertion {n : Nat} {w : List Int} {M : Mp} {Q : DK} {X : Str → Mp → Prop} (hw : w.Nodup) (hl : w.length ≤ 60) (h : Q (.tup ((insAll w).2.map D.int)) M) (hn : 1 ≤ n := by omega) : run PG n "_law_insertion" [.tup (w.map D.int)] M Q X := by
  obtain ⟨n, rfl⟩ := Nat.exists_eq_add_of_le' hn
  rw [run__law_insertion]
  simp [f__law_insertion, t__law_insertion]
  intro p hp f hf
  have hfp : f ≠ p := fun z => by rw [z] at hf; simp at hf
  have hfM : M f = none := by rwa [up_ne hfp] at hf
  refine forL_ints (I := fun i δ M' => ∃ qs, RowsG (up M f (.lst ((insAll (w.take i)).2.map D.int))) M' p qs (dRows (insAll (w.take i)).1) ∧ δ = [some (.tup (w.map D.int)), some (.ref p), some (.ref f), none, none, none, none, none, none, none]) ?_ ?_ ⟨[], ?_, rfl⟩
  · rintro i x δ M' hx hi ⟨qs, hG, rfl⟩
    refine ⟨trivial, fun k hk => ?_⟩
    simp
    have hI := insAll_G (take_nodup hw i)
    have hxo : x ∉ (insAll (w.take i)).1.flatten := fun z => take_out hw hx (hI.perm.mem_iff.mp z)
    have hr60 : (insAll (w.take i)).1.length ≤ 60 := Nat.le_trans hI.rows (by simp; omega)
    have hi60 : i < 60 := by omega
    have hrow : ∀ r ∈ (insAll (w.take i)).1, r.length ≤ i := fun r hr => by
      have h1 := (List.sublist_flatten_of_mem hr).length_le
      have h2 := hI.perm.length_eq
      rw [List.length_take] at h2
      omega
    refine while_inv (W := InsW w (up M f (.lst ((insAll (w.take i)).2.map D.int))) p f x (insR (insAll (w.take i)).1 x).1 (insR (insAll (w.take i)).1 x).2) ?_ _ ⟨[], (insAll (w.take i)).1, x, qs, rfl, hI.tab, hxo, rfl, by simp, hG, hr60, fun r hr => Nat.le_trans (hrow r hr) (by omega), rfl⟩
    rintro m δ M2 ⟨pre, rs, y, qs2, rfl, hT, hyo, hfin, he, hG2, hle, hlr, rfl⟩
    have hql : qs2.length = pre.length + rs.length := by rw [hG2.hl]; simp [dRows]
    have hpre60 : pre.length ≤ 60 := by simp at hle; omega
    have hMf : M2 f = some (.lst ((insAll (w.take i)).2.map D.int)) := hG2.sub _ _ up_same
    have hnf : ∀ z, (up M f (.lst ((insAll (w.take i)).2.map D.int))) z = none → f ≠ z := fun z hz e => by rw [← e, up_same] at hz; cases hz
    have hfl : (insAll (w.take i)).2.length = i := by rw [hI.len]; simp; omega
    cases rs with
    | nil =>
      have h1 : ¬ pre.length < qs2.length := by simp at hql; omega
      have h2 : (pre.length : Int) = qs2.length := by simp at hql; omega
      simp [hG2.hp, h1, h2]
      intro q hq
      have hqp : p ≠ q := fun z => by rw [← z, hG2.hp] at hq; cases hq
      have hqf : f ≠ q := fun z => by rw [← z, hMf] at hq; cases hq
      have hG3 := hG2.push (r := []) hq
      have hG4 := hG3.put (i := qs2.length) (q := q) (r := [D.int y]) (by simp)
      rw [up_ne hqp, hG2.hp]
      have e4 : (qs2.map D.ref ++ [D.ref q])[qs2.length]? = some (.ref q) := by
        rw [List.getElem?_append_right (by simp)]; simp
      simp only [e4]
      have hqp' : q ≠ p := fun z => hqp z.symm
      simp [up_ne hqp', up_ne hqf, up_ne (hnf p hG2.hn), hMf]
      refine ⟨by omega, by omega, hk _ _ ⟨qs2 ++ [q], ?_, rfl⟩⟩
      have hG5 := hG4.base (o' := .lst ((insAll (w.take i)).2.map D.int ++ [D.int qs2.length])) (b := f) up_same
      rw [up_up] at hG5
      simp [insR] at hfin he
      have ea : (insAll (w.take (i + 1))) = ((insR (insAll (w.take i)).1 x).1, (insAll (w.take i)).2 ++ [((insR (insAll (w.take i)).1 x).2 : Int)]) := insAll_take hx
      have e2 : (insAll (w.take (i + 1))).2.map D.int = (insAll (w.take i)).2.map D.int ++ [D.int qs2.length] := by
        rw [ea, ← he, ← h2]; simp
      have e1 : dRows (insAll (w.take (i + 1))).1 = (dRows (pre ++ []) ++ [[]]).set qs2.length [D.int y] := by
        rw [ea, ← hfin, List.append_nil]
        have : qs2.length = (dRows pre).length := by simp [dRows]; simp at hql; omega
        rw [this, List.set_append_right _ _ (Nat.le_refl _)]
        simp [dRows]
      rw [e1, e2]
      simpa using hG5
    | cons r rs =>
      have h1 : pre.length < qs2.length := by simp at hql; omega
      have hr : (dRows (pre ++ r :: rs))[pre.length]? = some (r.map D.int) := by simp [dRows]
      obtain ⟨q, hq, hMq⟩ := hG2.get hr
      have hq2 : qs2[pre.length] = q := (List.getElem?_eq_some_iff.mp hq).2
      have hlo : lstOf M2 (.ref q) = some (r.map D.int) := by simp [lstOf, hMq]
      have hne : ¬ (pre.length : Int) = qs2.length := by omega
      have hqm := List.mem_of_getElem? hq
      have hqf : f ≠ q := hnf q (hG2.nw q hqm)
      have hyr : y ∉ r := fun z => hyo (by simp [z])
      have hr0 := hT.ne r (List.mem_cons_self ..)
      have hrl := hlr r (by simp)
      by_cases hm : y < maxI r
      · obtain ⟨a, z, b, e5, ek, g1, g2, g3, e6, e7⟩ := bump (hT.rise r (List.mem_cons_self ..)) hyr hm hr0
        simp [hG2.hp, h1, hq2, hlo, hMq, hr0, hm]
        refine compL_filter r D.int (fun u => decide (u < y)) (fun _ => .int 1) hMq ?_ ?_
        · intro u hu acc k2 j1 j0
          simp
          by_cases cu : u < y
          · simp [cu] at j1 ⊢; exact j1
          · simp [cu] at j0 ⊢; exact j0
        have ekl : (List.filter (fun u => decide (u < y)) r).length < r.length := by rw [ek, e5]; simp
        have e7' : r[(List.filter (fun u => decide (u < y)) r).length]? = some z := by
          rw [ek, e5, List.getElem?_append_right (Nat.le_refl _)]; simp
        simp [hMq, e7', ekl]
        have hG4 := hG2.put (i := pre.length) (q := q) (r := (r.map D.int).set (List.filter (fun u => decide (u < y)) r).length (D.int y)) hq
        have e8 : r[(List.filter (fun u => decide (u < y)) r).length] = z := by
          have := List.getElem?_eq_getElem ekl
          rw [e7'] at this
          exact (Option.some.inj this).symm
        rw [e8]
        rw [insR, if_pos hm, e7] at hfin he
        refine ⟨rs.length, by omega, pre ++ [r.set (List.filter (fun u => decide (u < y)) r).length y], rs, z, qs2, rfl, hT.tail, hT.out (by rw [e5]; simp), by rw [← hfin]; simp, by rw [← he]; simp; omega, ?_, by simp at hle ⊢; omega, fun r' hr' => ?_, by simp⟩
        · have e1 : dRows ((pre ++ [r.set (List.filter (fun u => decide (u < y)) r).length y]) ++ rs) = (dRows (pre ++ r :: rs)).set pre.length ((r.map D.int).set (List.filter (fun u => decide (u < y)) r).length (D.int y)) := by
            have : pre.length = (dRows pre).length := by simp [dRows]
            rw [this]
            unfold dRows
            rw [List.map_append, List.map_append, List.map_append, List.set_append_right _ _ (Nat.le_refl _)]
            simp
          rw [e1]
          exact hG4
        · simp only [List.append_assoc, List.mem_append, List.mem_cons, List.not_mem_nil, or_false] at hr'
          rcases hr' with hr' | hr' | hr'
          · exact hlr r' (by simp [hr'])
          · subst hr'; rw [List.length_set]; exact hrl
          · exact hlr r' (by simp [hr'])
      · simp [hG2.hp, h1, hq2, hlo, hMq, hr0, hm, hne, hMf, up_ne hqf]
        have hG4 := hG2.put (i := pre.length) (q := q) (r := r.map D.int ++ [D.int y]) hq
        have hG5 := hG4.base (o' := .lst ((insAll (w.take i)).2.map D.int ++ [D.int pre.length])) (b := f) up_same
        rw [up_up] at hG5
        refine ⟨by omega, by omega, hk _ _ ⟨qs2, ?_, rfl⟩⟩
        simp [insR, hm] at hfin he
        have ea : (insAll (w.take (i + 1))) = ((insR (insAll (w.take i)).1 x).1, (insAll (w.take i)).2 ++ [((insR (insAll (w.take i)).1 x).2 : Int)]) := insAll_take hx
        have e2 : (insAll (w.take (i + 1))).2.map D.int = (insAll (w.take i)).2.map D.int ++ [D.int pre.length] := by
          rw [ea, ← he]; simp
        have e1 : dRows (insAll (w.take (i + 1))).1 = (dRows (pre ++ r :: rs)).set pre.length (r.map D.int ++ [D.int y]) := by
          rw [ea, ← hfin]
          have : pre.length = (dRows pre).length := by simp [dRows]
          rw [this]
          unfold dRows
          rw [List.map_append, List.map_append, List.set_append_right _ _ (Nat.le_refl _)]
          simp
        rw [e1, e2]
        exact hG5
  · rintro δ M' ⟨qs, hG, rfl⟩
    refine ⟨trivial, ?_⟩
    have hMf : M' f = some (.lst ((insAll (w.take w.length)).2.map D.int)) := hG.sub _ _ up_same
    rw [List.take_length] at hMf
    simp [hMf]
    exact ⟨M, (Sub.up hfM).trans hG.sub, h⟩
  · rw [up_comm (Ne.symm hfp)]
    have hP : RowsP (up M f (.lst [])) (up M f (.lst [])) [] [] := ⟨rfl, by simp, fun i q r h => by simp at h, by simp, Sub.refl⟩
    have hpf : (up M f (.lst [])) p = none := by rw [up_ne (Ne.symm hfp)]; exact hp
    exact hP.lay hpf
end Pw
set_option Elab.async false
set_option linter.all false
set_option maxRecDepth 100000
set_option maxHeartbeats 1000000
namespace Pw
open PySem PySem.Spec PyProof.Rows L2
def toN : D → Nat
  | .int i => i.toNat
  | _ => 0
def invF (f : List Nat) : Bool := (List.range f.length).all fun j => decide (((f[j]?).bind fun i => f[i]?) = some j)
def isInvD (d : D) : Bool := match d with
  | .tup xs => decide (1 ≤ xs.length) && decide (xs.length ≤ 60) && xs.all (fun x => inR x 0 ((xs.length : Int) - 1)) && invF (xs.map toN)
  | _ => false
theorem natsD_toN {f : List Nat} : (natsD f).map toN = f := by
  unfold natsD
  rw [List.map_map]
  exact (List.map_congr_left fun a _ => by simp [toN]).trans (List.map_id f)
theorem nats_of_all {m : Int} : ∀ {xs : List D}, (∀ x ∈ xs, inR x 0 m = true) → ∃ f, xs = natsD f ∧ ∀ k ∈ f, (k : Int) ≤ m
  | [], _ => ⟨[], rfl, by simp⟩
  | x :: xs, h => by
    obtain ⟨f, rfl, hf⟩ := nats_of_all (xs := xs) fun y hy => h y (List.mem_cons_of_mem _ hy)
    have hx := h x (List.mem_cons_self ..)
    cases x <;> simp [inR] at hx
    rename_i i
    obtain ⟨k, rfl⟩ := Int.eq_ofNat_of_zero_le hx.1
    exact ⟨k :: f, rfl, fun j hj => (List.mem_cons.mp hj).elim (fun e => e ▸ hx.2) (hf j)⟩
theorem inR_d {x : D} {a b : Int} (h : inR x a b = true) : isInt x = true := by
  cases x <;> simp [inR] at h <;> rfl
theorem invF_iff {f : List Nat} : invF f = true ↔ InvN f := by
  unfold invF InvN
  rw [List.all_eq_true]
  constructor
  · intro h i hi
    have := h i (List.mem_range.mpr hi)
    rw [decide_eq_true_eq] at this
    obtain ⟨j, h1, h2⟩ := Option.bind_eq_some_iff.mp this
    exact ⟨j, h1, h2⟩
  · intro h i hi
    obtain ⟨j, h1, h2⟩ := h i (List.mem_range.mp hi)
    rw [decide_eq_true_eq, h1]
    exact h2
end Pw
set_option Elab.async false
set_option linter.all false
set_option maxRecDepth 100000
set_option maxHeartbeats 1000000
namespace Pw
open PySem PySem.Spec PyProof.Rows L2
theorem spi_is_int {n : Nat} {d : D} {M : Mp} {Q : DK} {X : Str → Mp → Prop} (hd : isD true d 30 = true) (h : Q (.bl (isInt d)) M) (hn : 1 ≤ n := by omega) : run PG n "is_int" [d] M Q X := by
  obtain ⟨n, rfl⟩ := Nat.exists_eq_add_of_le' hn
  rw [run_is_int]
  cases d <;> simp [isD] at hd <;> simp [f_is_int, t_is_int, nm, isI1] <;> exact Lv.here h
theorem spi_in_range {n : Nat} {d : D} {lo hi : Int} {M : Mp} {Q : DK} {X : Str → Mp → Prop} (hd : isD true d 30 = true) (h : Q (.bl (inR d lo hi)) M) (hn : 2 ≤ n := by omega) : run PG n "in_range" [d, .int lo, .int hi] M Q X := by
  obtain ⟨n, rfl⟩ := Nat.exists_eq_add_of_le' hn
  rw [run_in_range]
  simp [f_in_range, t_in_range]
  refine spi_is_int hd ?_
  cases d <;> simp [isInt] <;> try exact Lv.here h
  rename_i i
  simp only [inR] at h
  by_cases h1 : lo ≤ i
  · by_cases h2 : i ≤ hi <;> simp [h1, h2] at h ⊢ <;> exact Lv.here h
  · simp [h1] at h ⊢; exact Lv.here h
end Pw
set_option Elab.async false
set_option linter.all false
set_option maxRecDepth 100000
set_option maxHeartbeats 1000000
namespace Pw
open PySem PySem.Spec PyProof.Rows L2
theorem sp_is_involution {n : Nat} {d : D} {M : Mp} {Q : DK} {X : Str → Mp → Prop} (hd : isD true d 30 = true) (h : Q (.bl (isInvD d)) M) (hn : 3 ≤ n := by omega) : run PG n "is_involution" [d] M Q X := by
  obtain ⟨n, rfl⟩ := Nat.exists_eq_add_of_le' hn
  rw [run_is_involution]
  cases d <;> simp [isD] at hd <;> simp [f_is_involution, t_is_involution, nm, isI1] <;> try exact Lv.here h
  rename_i xs
  by_cases h1 : 1 ≤ xs.length
  · by_cases h2 : xs.length ≤ 60
    · have e1 : (1 : Int) ≤ xs.length := by omega
      have e2 : (xs.length : Int) ≤ 60 := by omega
      simp [e1, e2]
      refine compL_mapD xs (fun x => .bl (inR x 0 ((xs.length : Int) - 1))) trivial ?_ ?_
      · intro x hx acc k hk
        simp
        refine spi_in_range (isD_up _ _ (isD_of_mem hd x hx)) ?_
        try simp
        exact hk
      · by_cases hall : ∀ x ∈ xs, inR x 0 ((xs.length : Int) - 1) = true
        · obtain ⟨f, rfl, hf⟩ := nats_of_all hall
          have ha : ((natsD f).all fun x => inR x 0 (((natsD f).length : Int) - 1)) = true := List.all_eq_true.mpr hall
          rw [natsD_len] at ha h1 h2 hf
          simp [List.all_map, Function.comp_def]
          rw [ha]
          simp
          have hfl : ∀ k ∈ f, k < f.length := fun k hk => by have := hf k hk; omega
          refine compL_enum (natsD f) (fun _ _ => true) (fun j _ => .bl (decide (((f[j]?).bind fun i => f[i]?) = some j))) trivial ?_ ?_
          · intro j x hx hj acc k hk _
            rw [natsD_len] at hj
            rw [natsD_get] at hx
            obtain ⟨i, hi, rfl⟩ := Option.map_eq_some_iff.mp hx
            have hil := hfl i (List.mem_of_getElem? hi)
            have hk' := hk rfl
            simp [hi, List.getElem?_eq_getElem hil] at hk' ⊢
            have e : decide (((f[i] : Nat) : Int) = (j : Int)) = decide (f[i] = j) := decide_eq_decide.mpr (by omega)
            rw [e]
            exact hk'
          · rw [List.filter_eq_self.mpr (fun _ _ => rfl)]
            simp
            have hI : isInvD (.tup (natsD f)) = invF f := by
              simp only [isInvD, natsD_len, ha, natsD_toN]
              simp [h1, h2]
            have e3 : ((natsD f).zipIdx.all fun q => decide (((f[q.2]?).bind fun i => f[i]?) = some q.2)) = invF f := by
              unfold invF
              have : (natsD f).zipIdx.map Prod.snd = List.range f.length := by
                rw [List.zipIdx_map_snd, List.range_eq_range', natsD_len]
              rw [← this, List.all_map]; rfl
            rw [hI] at h
            rw [e3]
            exact Lv.here h
        · have ha : (xs.all fun x => inR x 0 ((xs.length : Int) - 1)) = false := by
            cases hb : xs.all fun x => inR x 0 ((xs.length : Int) - 1) with
            | false => rfl
            | true => exact absurd (List.all_eq_true.mp hb) hall
          have : isInvD (.tup xs) = false := by simp only [isInvD, ha]; simp
          rw [this] at h
          simp [List.all_map, Function.comp_def, ha]
          exact Lv.here h
    · have e1 : (1 : Int) ≤ xs.length := by omega
      have e2 : ¬ (xs.length : Int) ≤ 60 := by omega
      simp [e1, e2]
      simp [isInvD, h2] at h
      exact Lv.here h
  · have e1 : ¬ (1 : Int) ≤ xs.length := by omega
    simp [e1]
    simp [isInvD, h1] at h
    exact Lv.here h
end Pw
set_option Elab.async false
set_option linter.all false
set_option maxRecDepth 100000
set_option maxHeartbeats 1000000
namespace Pw
open PySem PySem.Spec PyProof.Rows L2
theorem sp_get {n : Nat} {p : Addr} {o : DO} {m : Int} {t : Nat} {M : Mp} {Q : DK} {X : Str → Mp → Prop} (hp : M p = some o) (hb : MillO o t) (ht : t < 2 ^ 64) (hm : 0 < m) (hm2 : m < 2 ^ 300)
    (h : ∀ r o', 0 ≤ r → r < m → MillO o' (t + 1) → Q (.int r) (up M p o')) (hn : 1 ≤ n := by omega) : run PG n "_law_get" [.ref p, .int m] M Q X := by
  obtain ⟨n, rfl⟩ := Nat.exists_eq_add_of_le' hn
  obtain ⟨a, b, c, rfl, hb, hc⟩ := hb
  rw [run__law_get]
  simp [f__law_get, t__law_get, hp]
  have hc' : (c + 1).natAbs ≤ t + 1 := by omega
  by_cases h0 : 0 < a
  · simp only [h0, decide_true]
    exact ⟨hm, divOk_of 300 hm (by omega) (by decide) (by decide), Lv.here (h _ _ (Int.emod_nonneg _ (by omega)) (Int.emod_lt_of_pos _ hm) ⟨_, _, _, rfl, hb, by omega⟩)⟩
  · simp only [h0, decide_false]
    refine ⟨mulOk_of 32 66 (by decide) (by omega) (by decide) (by decide) (by decide), powOk3 (by omega), mulOk_of 32 66 (by decide) (by omega) (by decide) (by decide) (by decide), powOk3 ?_, hm, Lv.here (h _ _ (Int.emod_nonneg _ (by omega)) (Int.emod_lt_of_pos _ hm) ⟨_, _, _, rfl, hb, hc'⟩)⟩
    have e1 := Int.emod_nonneg ((b + 49979687 * (c + 1)) ^ 3) (show (100000000000000000000000000000000000000037 : Int) ≠ 0 by decide)
    have e2 := Int.emod_lt_of_pos ((b + 49979687 * (c + 1)) ^ 3) (show (0 : Int) < 100000000000000000000000000000000000000037 by decide)
    omega
theorem sp_stock {n : Nat} {ns : List Int} {k : Nat} {M : Mp} {Q : DK} {X : Str → Mp → Prop} (hk : k < 1000) (hns : ns.length ≤ 1000) (h : ∀ p o, M p = none → MillO o 0 → Q (.ref p) (up M p o)) (hn : 1 ≤ n := by omega) : run PG n "_law_stock" [.scr (ns.map D.int), .int k] M Q X := by
  obtain ⟨n, rfl⟩ := Nat.exists_eq_add_of_le' hn
  rw [run__law_stock]
  simp [f__law_stock, t__law_stock]
  have key : ∀ c : Int, (c % 100000000000000000000000000000000000133 + 50021 * (k : Int) + 29).natAbs < 2 ^ 200 := fun c => by
    have e1 := Int.emod_nonneg c (show (100000000000000000000000000000000000133 : Int) ≠ 0 by decide)
    have e2 := Int.emod_lt_of_pos c (show (0 : Int) < 100000000000000000000000000000000000133 by decide)
    omega
  have hm : MulOk 50021 (k : Int) := mulOk_of 20 20 (by decide) (by omega) (by decide) (by decide) (by decide)
  by_cases hk2 : k < ns.length
  · simp [hk2]
    exact ⟨hm, fun p hp => Lv.here (h p _ hp ⟨_, _, _, rfl, key _, by decide⟩)⟩
  · simp [hk2]
    exact ⟨hm, fun p hp => Lv.here (h p _ hp ⟨_, _, _, rfl, by omega, by decide⟩)⟩
end Pw
set_option Elab.async false
set_option linter.all false
set_option maxRecDepth 100000
set_option maxHeartbeats 1000000
namespace Pw
open PySem PySem.Spec PyProof.Rows L2
theorem sp_size {n : Nat} {p : Addr} {o : DO} {m : Int} {t : Nat} {M : Mp} {Q : DK} {X : Str → Mp → Prop} (hp : M p = some o) (hb : MillO o t) (ht : t < 2 ^ 60) (hm : 0 < m) (hm2 : m ≤ 60)
    (h : ∀ (r : Nat) o', 1 ≤ r → r ≤ m → MillO o' (t + 3) → Q (.int r) (up M p o')) (hn : 2 ≤ n := by omega) : run PG n "_law_size" [.ref p, .int m] M Q X := by
  obtain ⟨n, rfl⟩ := Nat.exists_eq_add_of_le' hn
  rw [run__law_size]
  simp [f__law_size, t__law_size]
  refine sp_get hp hb (by omega) (by omega) (by omega) fun r1 o1 h1 h2 hb1 => ?_
  simp
  refine sp_get (o := o1) (by simp) hb1 (by omega) (by omega) (by omega) fun r2 o2 h3 h4 hb2 => ?_
  simp
  refine sp_get (o := o2) (by simp) hb2 (by omega) (by omega) (by omega) fun r3 o3 h5 h6 hb3 => ?_
  have hsz : ∃ sz, atD [D.int (1 + r1), D.int (1 + r2), D.int m] r3 = some (.int sz) ∧ 1 ≤ sz := by
    have : r3 = 0 ∨ r3 = 1 ∨ r3 = 2 := by omega
    rcases this with rfl | rfl | rfl
    · exact ⟨1 + r1, by simp, by omega⟩
    · exact ⟨1 + r2, by simp, by omega⟩
    · exact ⟨m, by simp, by omega⟩
  obtain ⟨sz, hsz, hs1⟩ := hsz
  simp [hsz]
  by_cases c : sz < m
  · obtain ⟨z, rfl⟩ := Int.eq_ofNat_of_zero_le (show 0 ≤ sz by omega)
    simp [c]
    exact Lv.here (h z o3 (by omega) (by omega) hb3)
  · obtain ⟨z, rfl⟩ := Int.eq_ofNat_of_zero_le (show 0 ≤ m by omega)
    simp [c]
    exact Lv.here (h z o3 (by omega) (by omega) hb3)
end Pw
set_option Elab.async false
set_option linter.all false
set_option maxRecDepth 100000
set_option maxHeartbeats 1000000
/-! the longest descending choice of the items is the number of the rows (for k13) -/
namespace Pw
open PySem PySem.Spec PyProof.Rows L2
/-- there is a descending choice of k items -/
def Desc (k : Nat) (w : List Int) : Prop := ∃ l : List Int, l.Sublist w ∧ l.Pairwise (· > ·) ∧ l.length = k
theorem sub3 {a b c : Int} {m : List Int} (h : m.Sublist [a, b, c]) : m = [] ∨ m = [a] ∨ m = [b] ∨ m = [c] ∨ m = [a, b] ∨ m = [a, c] ∨ m = [b, c] ∨ m = [a, b, c] := by
  cases h with
  | cons _ h =>
    cases h with
    | cons _ h =>
      cases h with
      | cons _ h => rw [List.sublist_nil.mp h]; simp
      | cons_cons _ h => rw [List.sublist_nil.mp h]; simp
    | cons_cons _ h =>
      cases h with
      | cons _ h => rw [List.sublist_nil.mp h]; simp
      | cons_cons _ h => rw [List.sublist_nil.mp h]; simp
  | cons_cons _ h =>
    cases h with
    | cons _ h =>
      cases h with
      | cons _ h => rw [List.sublist_nil.mp h]; simp
      | cons_cons _ h => rw [List.sublist_nil.mp h]; simp
    | cons_cons _ h =>
      cases h with
      | cons _ h => rw [List.sublist_nil.mp h]; simp
      | cons_cons _ h => rw [List.sublist_nil.mp h]; simp
/-- one piece for another -/
def DEq (u v : List Int) : Prop := ∀ (A B : List Int) (k : Nat), Desc k (A ++ u ++ B) ↔ Desc k (A ++ v ++ B)
theorem DEq.refl {u : List Int} : DEq u u := fun _ _ _ => Iff.rfl
theorem DEq.trans {u v w : List Int} (h : DEq u v) (h' : DEq v w) : DEq u w := fun A B k => (h A B k).trans (h' A B k)
theorem DEq.in {u v : List Int} (h : DEq u v) (a b : List Int) : DEq (a ++ u ++ b) (a ++ v ++ b) := fun A B k => by
  have := h (A ++ a) (b ++ B) k
  simpa [List.append_assoc] using this
/-- if each choice of the one piece has one of the other that may stand for it -/
theorem deq_half {u v : List Int} (h : ∀ m : List Int, m.Sublist u → m.Pairwise (· > ·) → ∃ m' : List Int, m'.Sublist v ∧ m'.Pairwise (· > ·) ∧ m'.length = m.length ∧ (∀ p, (∀ i ∈ m, p > i) → ∀ i ∈ m', p > i) ∧ (∀ q, (∀ i ∈ m, i > q) → ∀ i ∈ m', i > q)) (A B : List Int) (k : Nat) : Desc k (A ++ u ++ B) → Desc k (A ++ v ++ B) := by
  rintro ⟨l, hs, hp, hl⟩
  obtain ⟨l12, l3, rfl, h12, h3⟩ := List.sublist_append_iff.mp hs
  obtain ⟨l1, m, rfl, h1, hm⟩ := List.sublist_append_iff.mp h12
  rw [List.pairwise_append, List.pairwise_append] at hp
  obtain ⟨⟨p1, pm, p1m⟩, p3, p123⟩ := hp
  obtain ⟨m', g1, g2, g3, g4, g5⟩ := h m hm pm
  refine ⟨l1 ++ m' ++ l3, (h1.append g1).append h3, ?_, ?_⟩
  · rw [List.pairwise_append, List.pairwise_append]
    refine ⟨⟨p1, g2, fun a ha b hb => g4 a (fun i hi => p1m a ha i hi) b hb⟩, p3, fun a ha b hb => ?_⟩
    rcases List.mem_append.mp ha with ha | ha
    · exact p123 a (List.mem_append_left _ ha) b hb
    · exact g5 b (fun i hi => p123 i (List.mem_append_right _ hi) b hb) a ha
  · simp only [List.length_append] at hl ⊢
    omega
theorem same_half {m v : List Int} (h : m.Sublist v) (hp : m.Pairwise (· > ·)) : ∃ m' : List Int, m'.Sublist v ∧ m'.Pairwise (· > ·) ∧ m'.length = m.length ∧ (∀ p, (∀ i ∈ m, p > i) → ∀ i ∈ m', p > i) ∧ (∀ q, (∀ i ∈ m, i > q) → ∀ i ∈ m', i > q) :=
  ⟨m, h, hp, rfl, fun _ h => h, fun _ h => h⟩
theorem knuth1 {x y z : Int} (h1 : x < y) (h2 : y < z) : DEq [y, z, x] [y, x, z] := fun A B k => by
  constructor
  · refine deq_half (fun m hm hp => ?_) A B k
    rcases sub3 hm with rfl | rfl | rfl | rfl | rfl | rfl | rfl | rfl
    · exact same_half (by simp) hp
    · exact same_half (by simp) hp
    · exact same_half (by simp) hp
    · exact same_half (by simp) hp
    · simp at hp; omega
    · exact same_half (.cons_cons _ (.cons_cons _ (.cons _ .slnil))) hp
    · refine ⟨[y, x], .cons_cons _ (.cons_cons _ (.cons _ .slnil)), by simp; omega, rfl, fun p hq i hi => ?_, fun q hq i hi => ?_⟩
      · have e1 := hq z (by simp)
        have e2 := hq x (by simp)
        simp at hi
        rcases hi with rfl | rfl <;> omega
      · have e1 := hq z (by simp)
        have e2 := hq x (by simp)
        simp at hi
        rcases hi with rfl | rfl <;> omega
    · simp at hp; omega
  · refine deq_half (fun m hm hp => ?_) A B k
    rcases sub3 hm with rfl | rfl | rfl | rfl | rfl | rfl | rfl | rfl
    · exact same_half (by simp) hp
    · exact same_half (by simp) hp
    · exact same_half (by simp) hp
    · exact same_half (by simp) hp
    · exact same_half (.cons_cons _ (.cons _ (.cons_cons _ .slnil))) hp
    · simp at hp; omega
    · simp at hp; omega
    · simp at hp; omega
theorem knuth2 {x y z : Int} (h1 : x < y) (h2 : y < z) : DEq [x, z, y] [z, x, y] := fun A B k => by
  constructor
  · refine deq_half (fun m hm hp => ?_) A B k
    rcases sub3 hm with rfl | rfl | rfl | rfl | rfl | rfl | rfl | rfl
    · exact same_half (by simp) hp
    · exact same_half (by simp) hp
    · exact same_half (by simp) hp
    · exact same_half (by simp) hp
    · simp at hp; omega
    · simp at hp; omega
    · exact same_half (.cons_cons _ (.cons _ (.cons_cons _ .slnil))) hp
    · simp at hp; omega
  · refine deq_half (fun m hm hp => ?_) A B k
    rcases sub3 hm with rfl | rfl | rfl | rfl | rfl | rfl | rfl | rfl
    · exact same_half (by simp) hp
    · exact same_half (by simp) hp
    · exact same_half (by simp) hp
    · exact same_half (by simp) hp
    · refine ⟨[z, y], .cons _ (.cons_cons _ (.cons_cons _ .slnil)), by simp; omega, rfl, fun p hq i hi => ?_, fun q hq i hi => ?_⟩
      · have e1 := hq z (by simp)
        have e2 := hq x (by simp)
        simp at hi
        rcases hi with rfl | rfl <;> omega
      · have e1 := hq z (by simp)
        have e2 := hq x (by simp)
        simp at hi
        rcases hi with rfl | rfl <;> omega
    · exact same_half (.cons _ (.cons_cons _ (.cons_cons _ .slnil))) hp
    · simp at hp; omega
    · simp at hp; omega
/-- a lesser item steps to the left past greater ones -/
theorem past_right {x : Int} : ∀ {b : List Int} {y : Int}, x < y → (y :: b).Pairwise (· < ·) → DEq (y :: b ++ [x]) (y :: x :: b) := by
  intro b
  induction b using rev_ind with
  | h0 => intro y _ _; exact DEq.refl
  | h1 b z ih =>
    intro y hxy hp
    have hp' : (y :: b).Pairwise (· < ·) := hp.sublist (by simp)
    -- the item ahead of z
    obtain ⟨c, u, hc⟩ : ∃ c u, y :: b = c ++ [u] := ⟨(y :: b).dropLast, (y :: b).getLast (by simp), (List.dropLast_concat_getLast (by simp)).symm⟩
    have hu : u ∈ y :: b := by rw [hc]; simp
    have hxu : x < u := by
      rcases List.mem_cons.mp hu with rfl | hu
      · exact hxy
      · rw [List.pairwise_cons] at hp'
        have := hp'.1 u hu
        omega
    have huz : u < z := by
      have : (y :: b ++ [z]).Pairwise (· < ·) := hp
      rw [List.pairwise_append] at this
      exact this.2.2 u hu z (by simp)
    have s1 : DEq (c ++ [u, z, x] ++ []) (c ++ [u, x, z] ++ []) := (knuth1 hxu huz).in c []
    have s2 : DEq ([] ++ (y :: b ++ [x]) ++ [z]) ([] ++ (y :: x :: b) ++ [z]) := (ih hxy hp').in [] [z]
    have e1 : y :: (b ++ [z]) ++ [x] = c ++ [u, z, x] ++ [] := by
      rw [show y :: (b ++ [z]) ++ [x] = (y :: b) ++ [z, x] by simp, hc]; simp
    have e2 : c ++ [u, x, z] ++ [] = [] ++ (y :: b ++ [x]) ++ [z] := by
      rw [show [] ++ (y :: b ++ [x]) ++ [z] = (y :: b) ++ [x, z] by simp, hc]; simp
    have e3 : [] ++ (y :: x :: b) ++ [z] = y :: x :: (b ++ [z]) := by simp
    rw [e1, ← e3]
    rw [e2] at s1
    exact s1.trans s2
/-- a greater item steps to the left past lesser ones -/
theorem past_left {y : Int} : ∀ {a : List Int} {x : Int}, x < y → (a ++ [x]).Pairwise (· < ·) → DEq (a ++ [y, x]) (y :: a ++ [x]) := by
  intro a
  induction a using rev_ind with
  | h0 => intro x _ _; exact DEq.refl
  | h1 a u ih =>
    intro x hxy hp
    have hp' : (a ++ [u]).Pairwise (· < ·) := hp.sublist (by simp)
    have hux : u < x := by
      rw [List.pairwise_append] at hp
      exact hp.2.2 u (by simp) x (by simp)
    have s1 : DEq (a ++ [u, y, x] ++ []) (a ++ [y, u, x] ++ []) := (knuth2 hux hxy).in a []
    have s2 : DEq ([] ++ (a ++ [y, u]) ++ [x]) ([] ++ (y :: a ++ [u]) ++ [x]) := (ih (x := u) (by omega) hp').in [] [x]
    have e1 : a ++ [u] ++ [y, x] = a ++ [u, y, x] ++ [] := by simp
    have e2 : a ++ [y, u, x] ++ [] = [] ++ (a ++ [y, u]) ++ [x] := by simp
    have e3 : [] ++ (y :: a ++ [u]) ++ [x] = y :: (a ++ [u]) ++ [x] := by simp
    rw [e1, ← e3]
    rw [e2] at s1
    exact s1.trans s2
theorem row_deq {a b : List Int} {x y : Int} (hp : (a ++ y :: b).Pairwise (· < ·)) (ha : ∀ z ∈ a, z < x) (hxy : x < y) : DEq (a ++ y :: b ++ [x]) (y :: (a ++ x :: b)) := by
  rw [List.pairwise_append] at hp
  have s1 : DEq (a ++ (y :: b ++ [x]) ++ []) (a ++ (y :: x :: b) ++ []) := (past_right hxy hp.2.1).in a []
  have hax : (a ++ [x]).Pairwise (· < ·) := by
    rw [List.pairwise_append]
    exact ⟨hp.1, by simp, fun z hz w hw => by rw [List.mem_singleton.mp hw]; exact ha z hz⟩
  have s2 : DEq ([] ++ (a ++ [y, x]) ++ b) ([] ++ (y :: a ++ [x]) ++ b) := (past_left hxy hax).in [] b
  have e1 : a ++ y :: b ++ [x] = a ++ (y :: b ++ [x]) ++ [] := by simp
  have e2 : a ++ (y :: x :: b) ++ [] = [] ++ (a ++ [y, x]) ++ b := by simp
  have e3 : [] ++ (y :: a ++ [x]) ++ b = y :: (a ++ x :: b) := by simp
  rw [e1, ← e3]
  rw [e2] at s1
  exact s1.trans s2
/-- the rows, from the last one on -/
def rwd : List (List Int) → List Int
  | [] => []
  | r :: rs => rwd rs ++ r
theorem ins_deq : ∀ {rows : List (List Int)} {x : Int}, Tab rows → x ∉ rows.flatten → DEq (rwd rows ++ [x]) (rwd (insR rows x).1)
  | [], x, _, _ => DEq.refl
  | r :: rs, x, hT, hx => by
    have hxr : x ∉ r := fun z => hx (by simp [z])
    by_cases hm : x < maxI r
    · obtain ⟨a, y, b, e1, e2, g1, g2, g3, g4, g5⟩ := bump (hT.rise r (List.mem_cons_self ..)) hxr hm (hT.ne r (List.mem_cons_self ..))
      have hy : y ∉ rs.flatten := hT.out (by rw [e1]; simp)
      have ih := ins_deq hT.tail hy
      rw [insR, if_pos hm, g4, g5]
      have hrise := hT.rise r (List.mem_cons_self ..)
      rw [e1] at hrise
      have s1 : DEq (rwd rs ++ (a ++ y :: b ++ [x]) ++ []) (rwd rs ++ (y :: (a ++ x :: b)) ++ []) := (row_deq hrise g1 g2).in (rwd rs) []
      have s2 : DEq ([] ++ (rwd rs ++ [y]) ++ (a ++ x :: b)) ([] ++ rwd (insR rs y).1 ++ (a ++ x :: b)) := ih.in [] (a ++ x :: b)
      have e3 : rwd (r :: rs) ++ [x] = rwd rs ++ (a ++ y :: b ++ [x]) ++ [] := by rw [rwd, e1]; simp
      have e4 : rwd rs ++ (y :: (a ++ x :: b)) ++ [] = [] ++ (rwd rs ++ [y]) ++ (a ++ x :: b) := by simp
      have e5 : [] ++ rwd (insR rs y).1 ++ (a ++ x :: b) = rwd ((a ++ x :: b) :: (insR rs y).1) := by simp [rwd]
      rw [e3, ← e5]
      rw [e4] at s1
      exact s1.trans s2
    · rw [insR, if_neg hm]
      have : rwd (r :: rs) ++ [x] = rwd ((r ++ [x]) :: rs) := by simp [rwd]
      rw [this]
      exact DEq.refl
theorem insAll_deq {w : List Int} : w.Nodup → DEq w (rwd (insAll w).1) := by
  induction w using rev_ind with
  | h0 => intro _; exact DEq.refl
  | h1 l x ih =>
    intro hn
    rw [List.nodup_append] at hn
    have hxl : x ∉ l := fun z => hn.2.2 x z x (by simp) rfl
    have hG := insAll_G hn.1
    have hx : x ∉ (insAll l).1.flatten := fun z => hxl (hG.perm.mem_iff.mp z)
    have s1 : DEq ([] ++ l ++ [x]) ([] ++ rwd (insAll l).1 ++ [x]) := (ih hn.1).in [] [x]
    have s2 := ins_deq hG.tab hx
    rw [insAll_snoc]
    simp only [List.nil_append] at s1
    exact s1.trans s2
end Pw
set_option Elab.async false
set_option linter.all false
set_option maxRecDepth 100000
set_option maxHeartbeats 1000000
/-! the longest choices, place by place, and the insertion (for k13) -/
namespace Pw
open PySem PySem.Spec PyProof.Rows L2
def lgx (sg : Int) (w acc : List Int) (i : Nat) : Int := 1 + maxI (0 :: ((List.range i).filter fun a => decide ((w.getD i 0 - w.getD a 0) * sg > 0)).map fun a => acc.getD a 0)
def lgP (sg : Int) (w : List Int) : Nat → List Int
  | 0 => []
  | i + 1 => lgP sg w i ++ [lgx sg w (lgP sg w i) i]
@[simp] theorem lgP_len {sg : Int} {w : List Int} : ∀ {i : Nat}, (lgP sg w i).length = i
  | 0 => rfl
  | i + 1 => by rw [lgP, List.length_append, lgP_len]; rfl
theorem lgP_take {sg : Int} {w : List Int} : ∀ {j i : Nat}, i ≤ j → (lgP sg w j).take i = lgP sg w i
  | 0, i, h => by obtain rfl : i = 0 := by omega
                  rfl
  | j + 1, i, h => by
    by_cases c : i = j + 1
    · subst c
      rw [List.take_of_length_le (by simp)]
    · rw [lgP, List.take_append_of_le_length (by simp; omega), lgP_take (by omega)]
theorem lgP_snoc {sg : Int} {w : List Int} {i a : Nat} : (lgP sg w (i + 1))[a]? = if a = i then some (lgx sg w (lgP sg w i) i) else (lgP sg w i)[a]? := by
  rw [lgP]
  by_cases c : a = i
  · subst c
    rw [List.getElem?_append_right (by simp)]; simp
  · rw [if_neg c]
    by_cases c2 : a < i
    · rw [List.getElem?_append_left (by simpa using c2)]
    · rw [List.getElem?_append_right (by simp; omega), List.getElem?_eq_none (by simp; omega), List.getElem?_eq_none (by simp; omega)]
/-- what the new item counts -/
theorem lgx_mem {sg : Int} {w U : List Int} {i : Nat} {x y : Int} (hx : w[i]? = some x) : y ∈ (((List.range i).filter fun a => decide ((w.getD i 0 - w.getD a 0) * sg > 0)).map fun a => U.getD a 0) ↔ ∃ a, a < i ∧ (x - w.getD a 0) * sg > 0 ∧ U.getD a 0 = y := by
  have e : w.getD i 0 = x := by rw [List.getD_eq_getElem?_getD, hx]; rfl
  rw [e, List.mem_map]
  constructor
  · rintro ⟨a, ha, rfl⟩
    rw [List.mem_filter] at ha
    exact ⟨a, List.mem_range.mp ha.1, by simpa using ha.2, rfl⟩
  · rintro ⟨a, h1, h2, rfl⟩
    exact ⟨a, List.mem_filter.mpr ⟨List.mem_range.mpr h1, by simpa using h2⟩, rfl⟩
/-! ## ascending: the first row -/
theorem ins_row0 {rows : List (List Int)} {x : Int} (hT : Tab rows) (hx : x ∉ rows.flatten) : ∃ a b, rows.getD 0 [] = a ++ b ∧ (∀ y ∈ a, y < x) ∧ (∀ y ∈ b, x < y) ∧ (insR rows x).1.getD 0 [] = a ++ x :: b.tail := by
  cases rows with
  | nil => exact ⟨[], [], rfl, by simp, by simp, rfl⟩
  | cons r rs =>
    have hxr : x ∉ r := fun z => hx (by simp [z])
    by_cases hm : x < maxI r
    · obtain ⟨a, y, b, e1, e2, g1, g2, g3, g4, g5⟩ := bump (hT.rise r (List.mem_cons_self ..)) hxr hm (hT.ne r (List.mem_cons_self ..))
      refine ⟨a, y :: b, by simpa using e1, g1, fun z hz => ?_, ?_⟩
      · rcases List.mem_cons.mp hz with rfl | hz
        · exact g2
        · have := g3 z hz; omega
      · rw [insR, if_pos hm]
        simpa using g4
    · refine ⟨r, [], by simp, last_lt hxr hm, by simp, ?_⟩
      rw [insR, if_neg hm]; simp
theorem new_at {a b : List Int} {x : Int} {t : Nat} : (a ++ x :: b.tail)[t]? = if t = a.length then some x else (a ++ b)[t]? := by
  by_cases c : t = a.length
  · subst c
    rw [List.getElem?_append_right (Nat.le_refl _)]; simp
  · rw [if_neg c]
    by_cases c2 : t < a.length
    · rw [List.getElem?_append_left c2, List.getElem?_append_left c2]
    · rw [List.getElem?_append_right (by omega), List.getElem?_append_right (by omega)]
      obtain ⟨m, hm⟩ : ∃ m, t - a.length = m + 1 := ⟨t - a.length - 1, by omega⟩
      rw [hm]
      cases b <;> simp
structure AscP (w : List Int) (i : Nat) : Prop where
  some : ∀ (t : Nat) (v : Int), ((insAll (w.take i)).1.getD 0 [])[t]? = some v → ∃ a, a < i ∧ w[a]? = Option.some v ∧ (lgP 1 w i)[a]? = Option.some ((t + 1 : Nat) : Int)
  all : ∀ (a : Nat) (v : Int), a < i → w[a]? = Option.some v → ∃ (u : Nat) (y : Int), (lgP 1 w i)[a]? = Option.some ((u + 1 : Nat) : Int) ∧ ((insAll (w.take i)).1.getD 0 [])[u]? = Option.some y ∧ y ≤ v
theorem ascP {w : List Int} (hn : w.Nodup) : ∀ {i : Nat}, i ≤ w.length → AscP w i
  | 0, _ => ⟨fun t v h => by simp at h, fun a v h => by omega⟩
  | i + 1, hi => by
    have ih := ascP hn (i := i) (by omega)
    have hni : (w.take i).Nodup := hn.sublist (List.take_sublist ..)
    have hG := insAll_G hni
    have hx : w[i]? = some w[i] := List.getElem?_eq_getElem (by omega)
    generalize w[i] = x at hx
    have hxo : x ∉ (insAll (w.take i)).1.flatten := fun z => by
      have := hG.perm.mem_iff.mp z
      obtain ⟨j, hj⟩ := List.mem_iff_getElem?.mp this
      rw [List.getElem?_take] at hj
      split at hj
      · rename_i c
        have hjl := (List.getElem?_eq_some_iff.mp hj).1
        have hne := List.pairwise_iff_getElem.mp (List.nodup_iff_pairwise_ne.mp hn) j i hjl (by omega) c
        rw [List.getElem?_eq_getElem hjl] at hj
        rw [List.getElem?_eq_getElem (by omega)] at hx
        cases hj
        exact hne (Option.some.inj hx).symm
      · cases hj
    obtain ⟨a, b, e1, e2, e3, e4⟩ := ins_row0 hG.tab hxo
    have eT : insAll (w.take (i + 1)) = _ := insAll_take hx
    have er : (insAll (w.take (i + 1))).1.getD 0 [] = a ++ x :: b.tail := by rw [eT]; exact e4
    have gD : ∀ {a : Nat} {v : Int}, w[a]? = some v → w.getD a 0 = v := fun h => by rw [List.getD_eq_getElem?_getD, h]; rfl
    have gU : ∀ {a : Nat} {v : Int}, (lgP 1 w i)[a]? = some v → (lgP 1 w i).getD a 0 = v := fun h => by rw [List.getD_eq_getElem?_getD, h]; rfl
    have hlg : lgx 1 w (lgP 1 w i) i = ((a.length + 1 : Nat) : Int) := by
      unfold lgx
      rw [maxI_of (m := (a.length : Int))]
      · omega
      · rw [List.mem_cons, lgx_mem hx]
        by_cases c : a.length = 0
        · left; omega
        · right
          have ht : a.length - 1 < a.length := by omega
          obtain ⟨j, h1, h2, h3⟩ := ih.some (a.length - 1) (a[a.length - 1]) (by rw [e1, List.getElem?_append_left ht, List.getElem?_eq_getElem ht])
          refine ⟨j, h1, ?_, ?_⟩
          · rw [gD h2]
            have := e2 _ (List.getElem_mem ht)
            omega
          · rw [gU h3]; omega
      · intro y hy
        rw [List.mem_cons, lgx_mem hx] at hy
        rcases hy with rfl | ⟨j, h1, h2, h3⟩
        · omega
        · have hjl : j < w.length := by omega
          obtain ⟨u, z, k1, k2, k3⟩ := ih.all j w[j] h1 (List.getElem?_eq_getElem hjl)
          rw [gU k1] at h3
          rw [gD (List.getElem?_eq_getElem hjl)] at h2
          by_cases c : u < a.length
          · omega
          · exfalso
            rw [e1, List.getElem?_append_right (by omega)] at k2
            have := e3 _ (List.mem_of_getElem? k2)
            omega
    refine ⟨fun t v h => ?_, fun j v hj hv => ?_⟩
    · rw [er, new_at] at h
      split at h
      · rename_i c
        cases h
        refine ⟨i, by omega, hx, ?_⟩
        rw [lgP_snoc, if_pos rfl, hlg, c]
      · rw [← e1] at h
        obtain ⟨j, h1, h2, h3⟩ := ih.some t v h
        exact ⟨j, by omega, h2, by rw [lgP_snoc, if_neg (by omega)]; exact h3⟩
    · by_cases c : j = i
      · subst c
        rw [hx] at hv
        cases hv
        exact ⟨a.length, x, by rw [lgP_snoc, if_pos rfl, hlg], by rw [er, new_at, if_pos rfl], Int.le_refl _⟩
      · obtain ⟨u, y, h1, h2, h3⟩ := ih.all j v (by omega) hv
        by_cases c2 : u = a.length
        · refine ⟨u, x, by rw [lgP_snoc, if_neg c]; exact h1, by rw [er, new_at, if_pos c2], ?_⟩
          rw [e1, c2, List.getElem?_append_right (Nat.le_refl _)] at h2
          have := e3 _ (List.mem_of_getElem? h2)
          omega
        · exact ⟨u, y, by rw [lgP_snoc, if_neg c]; exact h1, by rw [er, new_at, if_neg c2, ← e1]; exact h2, h3⟩
theorem asc_row {w : List Int} (hn : w.Nodup) {i : Nat} (hi : i ≤ w.length) (h0 : 1 ≤ i) : maxI (lgP 1 w i) = (((insAll w).2.take i).count 0 : Nat) := by
  have A := ascP hn hi
  have hG := insAll_G (hn.sublist (List.take_sublist i w))
  rw [insAll_pre hi, show (0 : Int) = ((0 : Nat) : Int) from rfl, hG.cnt 0]
  have hw0 : w[0]? = some w[0] := List.getElem?_eq_getElem (by omega)
  obtain ⟨u, y, h1, h2, _⟩ := A.all 0 _ (by omega) hw0
  have hl : 0 < ((insAll (w.take i)).1.getD 0 []).length := by
    have := (List.getElem?_eq_some_iff.mp h2).1
    omega
  generalize hr : (insAll (w.take i)).1.getD 0 [] = r at hl
  refine maxI_of ?_ ?_
  · obtain ⟨a, k1, k2, k3⟩ := A.some (r.length - 1) (r[r.length - 1]'(by omega)) (by rw [hr]; exact List.getElem?_eq_getElem _)
    have := List.mem_of_getElem? k3
    rw [show r.length - 1 + 1 = r.length by omega] at this
    exact this
  · intro y hy
    obtain ⟨a, ha⟩ := List.mem_iff_getElem?.mp hy
    have hal := (List.getElem?_eq_some_iff.mp ha).1
    rw [lgP_len] at hal
    obtain ⟨u, z, k1, k2, _⟩ := A.all a w[a] hal (List.getElem?_eq_getElem (by omega))
    rw [k1] at ha
    cases ha
    rw [hr] at k2
    have := (List.getElem?_eq_some_iff.mp k2).1
    omega
/-! ## descending: the number of rows -/
theorem desc_rise {l : List Int} (h1 : l.Pairwise (· > ·)) {r : List Int} (hs : l.Sublist r) (h2 : r.Pairwise (· < ·)) : l.length ≤ 1 := by
  have h3 := h2.sublist hs
  cases l with
  | nil => simp
  | cons a l =>
    cases l with
    | nil => simp
    | cons b l =>
      have e1 := (List.pairwise_cons.mp h1).1 b (by simp)
      have e2 := (List.pairwise_cons.mp h3).1 b (by simp)
      omega
theorem rwd_le : ∀ {rows : List (List Int)}, (∀ r ∈ rows, r.Pairwise (· < ·)) → ∀ {l : List Int}, l.Sublist (rwd rows) → l.Pairwise (· > ·) → l.length ≤ rows.length
  | [], _, l, hs, _ => by rw [rwd, List.sublist_nil] at hs; subst hs; simp
  | r :: rs, h, l, hs, hp => by
    rw [rwd] at hs
    obtain ⟨l1, l2, rfl, h1, h2⟩ := List.sublist_append_iff.mp hs
    rw [List.pairwise_append] at hp
    have e1 := rwd_le (fun q hq => h q (List.mem_cons_of_mem _ hq)) h1 hp.1
    have e2 := desc_rise hp.2.1 h2 (h r (List.mem_cons_self ..))
    simp only [List.length_append, List.length_cons]
    omega
def hds (rows : List (List Int)) : List Int := rows.map fun r => r.headD 0
theorem hds_rise : ∀ {rows : List (List Int)}, Tab rows → ColC rows → (hds rows).Pairwise (· < ·)
  | [], _, _ => .nil
  | [r], _, _ => by simp [hds]
  | r :: q :: rs, hT, hC => by
    have ih := hds_rise hT.tail hC.tail
    have h1 : r.headD 0 < q.headD 0 := by
      have hr := hT.ne r (by simp)
      have hq := hT.ne q (by simp)
      have rr := hT.rise r (by simp)
      cases r with
      | nil => exact absurd rfl hr
      | cons a r =>
        cases q with
        | nil => exact absurd rfl hq
        | cons b q =>
          have hc := hC (b + 1) 0
          simp only [cntR_succ, cntR_zero] at hc
          have hp : 0 < (b :: q).countP fun y => decide (y < b + 1) := List.countP_pos_iff.mpr ⟨b, by simp, by simp; omega⟩
          have hp2 : 0 < (a :: r).countP fun y => decide (y < b + 1) := by omega
          obtain ⟨y, hy, hyb⟩ := List.countP_pos_iff.mp hp2
          have hyb : y < b + 1 := by simpa using hyb
          have hne : y ≠ b := fun e => hT.out hy (by rw [e]; simp)
          show a < b
          rcases List.mem_cons.mp hy with rfl | hy
          · omega
          · have := (List.pairwise_cons.mp rr).1 y hy
            omega
    unfold hds at ih ⊢
    rw [List.map_cons, List.pairwise_cons]
    refine ⟨fun z hz => ?_, ih⟩
    rw [List.map_cons] at hz ih
    rcases List.mem_cons.mp hz with rfl | hz
    · exact h1
    · have := (List.pairwise_cons.mp ih).1 z hz
      omega
theorem hds_sub : ∀ {rows : List (List Int)}, (∀ r ∈ rows, r ≠ []) → (hds rows).reverse.Sublist (rwd rows)
  | [], _ => by simp [hds, rwd]
  | r :: rs, h => by
    have ih := hds_sub (rows := rs) fun q hq => h q (List.mem_cons_of_mem _ hq)
    unfold hds at ih ⊢
    rw [List.map_cons, List.reverse_cons, rwd]
    refine ih.append ?_
    cases r with
    | nil => exact absurd rfl (h [] (List.mem_cons_self ..))
    | cons a r => simp
theorem desc_rows {w : List Int} (hn : w.Nodup) {k : Nat} : Desc k w ↔ k ≤ (insAll w).1.length := by
  have hG := insAll_G hn
  have e := insAll_deq hn [] [] k
  simp only [List.nil_append, List.append_nil] at e
  rw [e]
  constructor
  · rintro ⟨l, h1, h2, rfl⟩
    exact rwd_le hG.tab.rise h1 h2
  · intro h
    have h1 := hds_sub hG.tab.ne
    have h2 : (hds (insAll w).1).reverse.Pairwise (· > ·) := by
      rw [List.pairwise_reverse]
      exact hds_rise hG.tab hG.col
    refine ⟨(hds (insAll w).1).reverse.take k, (List.take_sublist ..).trans h1, h2.sublist (List.take_sublist ..), ?_⟩
    rw [List.length_take, List.length_reverse]
    unfold hds
    rw [List.length_map]
    omega
/-- a descending choice with k items above its last one, y -/
def DescL (k : Nat) (y : Int) (w : List Int) : Prop := ∃ l : List Int, (l ++ [y]).Sublist w ∧ (l ++ [y]).Pairwise (· > ·) ∧ l.length = k
theorem descL_pos {k : Nat} {w : List Int} : Desc (k + 1) w ↔ ∃ y, DescL k y w := by
  constructor
  · rintro ⟨l, h1, h2, h3⟩
    have h0 : l ≠ [] := by intro e; subst e; simp at h3
    have e := List.dropLast_concat_getLast h0
    refine ⟨l.getLast h0, l.dropLast, by rw [e]; exact h1, by rw [e]; exact h2, by rw [List.length_dropLast]; omega⟩
  · rintro ⟨y, l, h1, h2, h3⟩
    exact ⟨_, h1, h2, by simp [h3]⟩
theorem sub_snoc {l w : List Int} {y x : Int} : (l ++ [y]).Sublist (w ++ [x]) ↔ (l ++ [y]).Sublist w ∨ (y = x ∧ l.Sublist w) := by
  constructor
  · intro h
    obtain ⟨l1, l2, e, h1, h2⟩ := List.sublist_append_iff.mp h
    cases l2 with
    | nil => left; rw [e]; simpa using h1
    | cons a l2 =>
      have hl : (a :: l2).length ≤ 1 := by simpa using h2.length_le
      cases l2 with
      | cons b l2 => simp at hl
      | nil =>
        obtain ⟨rfl, e2⟩ := List.append_inj' e rfl
        have ea : a = x := by simpa using h2.subset (List.mem_singleton_self a)
        right
        exact ⟨(List.cons.inj e2).1.trans ea, h1⟩
  · rintro (h | ⟨rfl, h⟩)
    · exact h.trans (List.sublist_append_left ..)
    · exact h.append (List.Sublist.refl _)
theorem descP {w : List Int} : ∀ {i : Nat}, i ≤ w.length → ∀ (k : Nat) (y : Int), DescL k y (w.take i) ↔ ∃ a u, a < i ∧ w[a]? = some y ∧ (lgP (-1) w i)[a]? = some u ∧ (k : Int) < u
  | 0, _, k, y => by
    constructor
    · rintro ⟨l, h, _⟩
      simp at h
    · rintro ⟨a, u, h, _⟩
      omega
  | i + 1, hi, k, y => by
    have ih := descP (w := w) (i := i) (by omega)
    have hx : w[i]? = some w[i] := List.getElem?_eq_getElem (by omega)
    generalize w[i] = x at hx
    have gD : ∀ {a : Nat} {v : Int}, w[a]? = some v → w.getD a 0 = v := fun h => by rw [List.getD_eq_getElem?_getD, h]; rfl
    have gU : ∀ {a : Nat} {v : Int}, (lgP (-1) w i)[a]? = some v → (lgP (-1) w i).getD a 0 = v := fun h => by rw [List.getD_eq_getElem?_getD, h]; rfl
    have et : w.take (i + 1) = w.take i ++ [x] := by rw [List.take_add_one, hx]; rfl
    have key : (∃ l : List Int, l.Sublist (w.take i) ∧ (l ++ [x]).Pairwise (· > ·) ∧ l.length = k) ↔ (k : Int) < lgx (-1) w (lgP (-1) w i) i := by
      have hge := maxI_ge (ns := 0 :: ((List.range i).filter fun a => decide ((w.getD i 0 - w.getD a 0) * (-1) > 0)).map fun a => (lgP (-1) w i).getD a 0)
      constructor
      · rintro ⟨l, h1, h2, h3⟩
        unfold lgx
        by_cases c : k = 0
        · have := hge 0 (List.mem_cons_self ..)
          omega
        · have h0 : l ≠ [] := by intro e; subst e; simp at h3; omega
          have e := List.dropLast_concat_getLast h0
          generalize hz : l.getLast h0 = z at e
          rw [List.pairwise_append] at h2
          have hzx : z > x := h2.2.2 z (by rw [← e]; simp) x (by simp)
          obtain ⟨a, u, k1, k2, k3, k4⟩ := (ih (k - 1) z).mp ⟨l.dropLast, by rw [e]; exact h1, by rw [e]; exact h2.1, by rw [List.length_dropLast]; omega⟩
          have := hge u (List.mem_cons_of_mem _ ((lgx_mem hx).mpr ⟨a, k1, by rw [gD k2]; omega, gU k3⟩))
          omega
      · intro h
        unfold lgx at h
        by_cases c : k = 0
        · exact ⟨[], by simp, by simp, by simp [c]⟩
        · have hm := maxI_mem (ns := 0 :: ((List.range i).filter fun a => decide ((w.getD i 0 - w.getD a 0) * (-1) > 0)).map fun a => (lgP (-1) w i).getD a 0) (by simp)
          generalize maxI (0 :: ((List.range i).filter fun a => decide ((w.getD i 0 - w.getD a 0) * (-1) > 0)).map fun a => (lgP (-1) w i).getD a 0) = m at h hm
          rw [List.mem_cons, lgx_mem hx] at hm
          rcases hm with rfl | ⟨a, k1, k2, k3⟩
          · omega
          · have hal : a < w.length := by omega
            have hwa : w[a]? = some w[a] := List.getElem?_eq_getElem hal
            generalize w[a] = z at hwa
            rw [gD hwa] at k2
            have hul : a < (lgP (-1) w i).length := by simpa using k1
            have hu : (lgP (-1) w i)[a]? = some m := by
              rw [List.getElem?_eq_getElem hul] at *
              rw [List.getD_eq_getElem?_getD, List.getElem?_eq_getElem hul] at k3
              exact congrArg some k3
            obtain ⟨l, g1, g2, g3⟩ := (ih (k - 1) z).mpr ⟨a, m, k1, hwa, hu, by omega⟩
            refine ⟨l ++ [z], g1, ?_, by simp [g3]; omega⟩
            rw [List.pairwise_append]
            refine ⟨g2, by simp, fun p hp q hq => ?_⟩
            rw [List.mem_singleton] at hq
            subst hq
            rcases List.mem_append.mp hp with hp | hp
            · have := (List.pairwise_append.mp g2).2.2 p hp z (by simp)
              omega
            · rw [List.mem_singleton] at hp
              omega
    constructor
    · rintro ⟨l, h1, h2, h3⟩
      rw [et, sub_snoc] at h1
      rcases h1 with h1 | ⟨rfl, h1⟩
      · obtain ⟨a, u, k1, k2, k3, k4⟩ := (ih k y).mp ⟨l, h1, h2, h3⟩
        exact ⟨a, u, by omega, k2, by rw [lgP_snoc, if_neg (by omega)]; exact k3, k4⟩
      · exact ⟨i, _, by omega, hx, by rw [lgP_snoc, if_pos rfl], key.mp ⟨l, h1, h2, h3⟩⟩
    · rintro ⟨a, u, h1, h2, h3, h4⟩
      rw [lgP_snoc] at h3
      by_cases c : a = i
      · subst c
        rw [if_pos rfl] at h3
        cases h3
        rw [hx] at h2
        cases h2
        obtain ⟨l, g1, g2, g3⟩ := key.mpr h4
        exact ⟨l, by rw [et, sub_snoc]; exact .inr ⟨rfl, g1⟩, g2, g3⟩
      · rw [if_neg c] at h3
        obtain ⟨l, g1, g2, g3⟩ := (ih k y).mpr ⟨a, u, by omega, h2, h3, h4⟩
        exact ⟨l, by rw [et, sub_snoc]; exact .inl g1, g2, g3⟩
theorem desc_max {w : List Int} {i : Nat} (hi : i ≤ w.length) (h0 : 1 ≤ i) (k : Nat) : Desc (k + 1) (w.take i) ↔ (k : Int) < maxI (lgP (-1) w i) := by
  rw [descL_pos]
  have hne : lgP (-1) w i ≠ [] := by
    intro e
    have := congrArg List.length e
    simp at this
    omega
  constructor
  · rintro ⟨y, h⟩
    obtain ⟨a, u, _, _, k3, k4⟩ := (descP hi k y).mp h
    have := maxI_ge u (List.mem_of_getElem? k3)
    omega
  · intro h
    have hm := maxI_mem hne
    obtain ⟨a, ha⟩ := List.mem_iff_getElem?.mp hm
    have hal := (List.getElem?_eq_some_iff.mp ha).1
    rw [lgP_len] at hal
    exact ⟨w[a], (descP hi k _).mpr ⟨a, _, hal, List.getElem?_eq_getElem (by omega), ha, h⟩⟩
/-- the different entries are as many as the rows -/
theorem diff_rows {w : List Int} (hn : w.Nodup) {ms : List Int} (h1 : ms.Nodup) (h2 : ∀ k, k ∈ ms ↔ k ∈ (insAll w).2) : ms.length = (insAll w).1.length := by
  have hG := insAll_G hn
  have hp : ms.Perm ((List.range (insAll w).1.length).map fun (k : Nat) => (k : Int)) := by
    refine (List.perm_ext_iff_of_nodup h1 ?_).mpr fun x => ?_
    · rw [List.nodup_iff_pairwise_ne, List.pairwise_map]
      exact List.pairwise_lt_range.imp fun {a b} h => by omega
    · rw [h2 x, List.mem_map]
      have hnat : ∀ k : Nat, (k : Int) ∈ (insAll w).2 ↔ k < (insAll w).1.length := fun k => by
        rw [← List.count_pos_iff, hG.cnt k]
        constructor
        · intro h
          by_cases c : k < (insAll w).1.length
          · exact c
          · rw [List.getD_eq_getElem?_getD, List.getElem?_eq_none (by omega)] at h
            simp at h
        · intro h
          rw [List.getD_eq_getElem?_getD, List.getElem?_eq_getElem h]
          have := hG.tab.ne _ (List.getElem_mem h)
          exact List.length_pos_iff.mpr this
      constructor
      · intro hx
        have := stair_nn hG.stair x hx
        obtain ⟨k, rfl⟩ : ∃ k : Nat, x = k := ⟨x.toNat, by omega⟩
        exact ⟨k, List.mem_range.mpr ((hnat k).mp hx), rfl⟩
      · rintro ⟨k, hk, rfl⟩
        exact (hnat k).mpr (List.mem_range.mp hk)
  rw [hp.length_eq]; simp
theorem desc_diff {w : List Int} (hn : w.Nodup) {i : Nat} (hi : i ≤ w.length) (h0 : 1 ≤ i) {ms : List Int} (h1 : ms.Nodup) (h2 : ∀ k, k ∈ ms ↔ k ∈ (insAll w).2.take i) : (ms.length : Int) = maxI (lgP (-1) w i) := by
  rw [insAll_pre hi] at h2
  have hni := hn.sublist (List.take_sublist i w)
  have e := diff_rows hni h1 h2
  have hne : (insAll (w.take i)).2 ≠ [] := by
    intro z
    have := congrArg List.length z
    rw [(insAll_G hni).len, List.length_take, List.length_nil] at this
    omega
  have hr : ∀ k : Nat, k + 1 ≤ ms.length ↔ (k : Int) < maxI (lgP (-1) w i) := fun k => by
    rw [← desc_max hi h0 k, desc_rows hni, e]
  have hpos : 0 < ms.length := by
    obtain ⟨a, l, ea⟩ := List.exists_cons_of_ne_nil hne
    exact List.length_pos_of_mem ((h2 a).mpr (by rw [ea]; simp))
  have k1 := (hr (ms.length - 1)).mp (by omega)
  have k2 := hr ms.length
  have k3 : ¬ ((ms.length : Nat) : Int) < maxI (lgP (-1) w i) := fun z => by
    have := k2.mpr z
    omega
  omega
end Pw
set_option Elab.async false
set_option linter.all false
set_option maxRecDepth 100000
set_option maxHeartbeats 2000000
namespace Pw
open PySem PySem.Spec PyProof.Rows L2
theorem countD_intsL {x : Int} : ∀ {ns : List Int}, countD (.int x) (ns.map D.int) = ns.count x
  | [] => rfl
  | n :: ns => by
    have ih := countD_intsL (x := x) (ns := ns)
    unfold countD at ih ⊢
    rw [List.map_cons, List.countP_cons, ih, List.count_cons]
    simp
def lgD (sg : Int) (f : List Nat) : List Int := lgP sg (ntI f) f.length
theorem lg_pos {sg : Int} {w : List Int} {n : Nat} : ∀ {i : Nat}, i ≤ n → ∀ x ∈ lgP sg w i, 1 ≤ x ∧ x ≤ i
  | 0, _, x, h => by cases h
  | i + 1, hi, x, h => by
    rw [lgP] at h
    rcases List.mem_append.mp h with h | h
    · have := lg_pos (n := n) (i := i) (by omega) x h
      omega
    · rw [List.mem_singleton] at h
      subst h
      unfold lgx
      have hg := maxI_ge (ns := 0 :: ((List.range i).filter fun a => decide ((w.getD i 0 - w.getD a 0) * sg > 0)).map fun a => (lgP sg w i).getD a 0) 0 (List.mem_cons_self ..)
      have hm := maxI_mem (ns := 0 :: ((List.range i).filter fun a => decide ((w.getD i 0 - w.getD a 0) * sg > 0)).map fun a => (lgP sg w i).getD a 0) (by simp)
      generalize maxI (0 :: ((List.range i).filter fun a => decide ((w.getD i 0 - w.getD a 0) * sg > 0)).map fun a => (lgP sg w i).getD a 0) = m at hg hm ⊢
      rcases List.mem_cons.mp hm with rfl | hm
      · omega
      · obtain ⟨a, ha, rfl⟩ := List.mem_map.mp hm
        have hai := List.mem_range.mp (List.mem_filter.mp ha).1
        have hl : a < (lgP sg w i).length := by simpa using hai
        rw [List.getD_eq_getElem?_getD, List.getElem?_eq_getElem hl] at hg ⊢
        have := lg_pos (n := n) (i := i) (by omega) _ (List.getElem_mem hl)
        simp only [Option.getD_some] at hg ⊢
        omega
theorem sp_longest {n : Nat} {sg : Int} {f : List Nat} {M : Mp} {Q : DK} {X : Str → Mp → Prop} (hs : sg = 1 ∨ sg = -1) (hf : ∀ x ∈ f, x < 60) (h2 : f.length ≤ 60) (h : Q (.lst ((lgD sg f).map D.int)) M) (hn : 1 ≤ n := by omega) : run PG n "_law_longest" [.tup (natsD f), .int sg] M Q X := by
  obtain ⟨n, rfl⟩ := Nat.exists_eq_add_of_le' hn
  rw [run__law_longest]
  simp [f__law_longest, t__law_longest]
  intro p hp
  have gN : ∀ {a : Nat}, a < f.length → (ntI f).getD a 0 = ((f.getD a 0 : Nat) : Int) := fun {a} ha => by
    rw [List.getD_eq_getElem?_getD, List.getD_eq_getElem?_getD]
    simp [ntI, List.getElem?_eq_getElem ha]
  refine forL_enum (I := fun i δ M' => ∃ x y z, δ = [some (.tup (natsD f)), some (.int sg), some (.ref p), x, y, z] ∧ M' = up M p (.lst ((lgP sg (ntI f) i).map D.int))) ?_ ?_ ⟨_, _, _, rfl, rfl⟩
  · rintro j d δ M1 hd hj ⟨x, y, z, rfl, rfl⟩
    refine ⟨trivial, fun k hk => ?_⟩
    have hj' : j < f.length := by simpa using hj
    obtain ⟨c, hc⟩ : ∃ c, f[j]? = some c := ⟨f[j], List.getElem?_eq_getElem hj'⟩
    obtain rfl : d = .int (c : Nat) := by
      have : (natsD f)[j]? = some (.int (c : Nat)) := by unfold natsD; rw [List.getElem?_map, hc]; rfl
      rw [this] at hd
      exact (Option.some.inj hd).symm
    simp
    refine ⟨by omega, ?_⟩
    refine compL_rng j (fun a => decide (((ntI f).getD j 0 - (ntI f).getD a 0) * sg > 0)) (fun a => .int ((lgP sg (ntI f) j).getD a 0)) trivial ?_ ?_
    · intro a ha acc kk k1 k0
      have ha' : a < f.length := by omega
      obtain ⟨b, hb⟩ : ∃ b, f[a]? = some b := ⟨f[a], List.getElem?_eq_getElem ha'⟩
      have hcb : c < 60 ∧ b < 60 := ⟨hf c (List.mem_of_getElem? hc), hf b (List.mem_of_getElem? hb)⟩
      rw [gN hj', gN ha', List.getD_eq_getElem?_getD, hc, List.getD_eq_getElem?_getD, hb] at k1 k0
      have hlg : a < (lgP sg (ntI f) j).length := by simpa using ha
      have hv : (lgP sg (ntI f) j)[a]? = some (lgP sg (ntI f) j)[a] := List.getElem?_eq_getElem hlg
      rw [List.getD_eq_getElem?_getD, hv] at k1
      simp only [Option.getD_some] at k1 k0
      generalize (lgP sg (ntI f) j)[a] = v at k1 hv
      simp [hb, hv]
      refine ⟨mulOk_of 7 7 (by omega) (by rcases hs with rfl | rfl <;> decide) (by omega) (by omega) (by omega), ?_⟩
      cases hdc : decide ((0 : Int) < ((c : Int) - (b : Int)) * sg) with
      | true => exact k1 hdc
      | false => exact k0 hdc
    · have e : (D.int 0 :: List.map (fun a => D.int ((lgP sg (ntI f) j).getD a 0)) (List.filter (fun a => decide (((ntI f).getD j 0 - (ntI f).getD a 0) * sg > 0)) (List.range j))) =
          (0 :: ((List.range j).filter fun a => decide (((ntI f).getD j 0 - (ntI f).getD a 0) * sg > 0)).map fun a => (lgP sg (ntI f) j).getD a 0).map D.int := by
        rw [List.map_cons, List.map_map]; rfl
      have hlen := List.length_filter_le (fun a => decide (((ntI f).getD j 0 - (ntI f).getD a 0) * sg > 0)) (List.range j)
      rw [List.length_range] at hlen
      have hx : lgP sg (ntI f) (j + 1) = lgP sg (ntI f) j ++ [1 + maxI (0 :: ((List.range j).filter fun a => decide (((ntI f).getD j 0 - (ntI f).getD a 0) * sg > 0)).map fun a => (lgP sg (ntI f) j).getD a 0)] := rfl
      simp only [e]
      have hL0 : (0 :: ((List.range j).filter fun a => decide (((ntI f).getD j 0 - (ntI f).getD a 0) * sg > 0)).map fun a => (lgP sg (ntI f) j).getD a 0) ≠ [] := by simp
      generalize (0 :: ((List.range j).filter fun a => decide (((ntI f).getD j 0 - (ntI f).getD a 0) * sg > 0)).map fun a => (lgP sg (ntI f) j).getD a 0) = L at hx hL0 ⊢
      refine ⟨by simp only [List.length_map]; omega, ?_⟩
      simp
      refine ⟨hL0, by omega, ?_⟩
      refine hk _ _ ⟨none, none, z, rfl, ?_⟩
      rw [hx, List.map_append]; rfl
  · rintro δ M1 ⟨x, y, z, rfl, rfl⟩
    refine ⟨trivial, ?_⟩
    simp
    rw [settle_ref (ds := (lgP sg (ntI f) f.length).map D.int) (by simp) (by simp)]
    exact ⟨M, Sub.up hp, by simp [hp], Lv.here h⟩
def tupN' (f : List Nat) : D := .tup (natsD f)
def stcD (f : List Nat) : D := .tup ((stI f).map D.int)
theorem sp_law_insN {n : Nat} {f : List Nat} {M : Mp} {Q : DK} {X : Str → Mp → Prop} (hf : InvN f) (hl : f.length ≤ 60) (h : Q (stcD f) M) (hn : 1 ≤ n := by omega) : run PG n "_law_insertion" [.tup (natsD f)] M Q X := by
  rw [natsD_ints]
  exact sp_law_insertion (invI_of' hf).nodup (by simpa using hl) h
theorem bfn_reprV {m : Bool} {d : D} {M : Mp} {Q : DK} (h : V2 d) (hq : Q (.str (rp d)) M) : bfn m .repr [d] M Q :=
  bfn_repr2 (by rw [isD_see h.d]; exact h) (by rw [isD_see h.d]; exact hq)
theorem V1_stc {f : List Nat} (hf : InvN f) (h2 : f.length ≤ 60) : V1 (stcD f) := by
  obtain ⟨q1, q2⟩ := stI_G hf
  exact V1_tup (V0_map fun i hi => by
    have h1 := stair_nn q1 i hi
    have h2 := stair_bound q1 i hi
    omega) (by simp; omega)
theorem isInvD_nats {f : List Nat} (hf : InvN f) (h1 : 1 ≤ f.length) (h2 : f.length ≤ 60) : isInvD (.tup (natsD f)) = true := by
  have ha : (natsD f).all (fun x => inR x 0 ((f.length : Int) - 1)) = true := List.all_eq_true.mpr fun x hx => by
    obtain ⟨k, hk, rfl⟩ := List.mem_map.mp (show x ∈ f.map nD from hx)
    have := hf.lt k hk
    simp [inR]; omega
  simp only [isInvD, natsD_len, ha, natsD_toN, invF_iff.mpr hf, h1, h2, decide_true, Bool.and_self]
theorem sp_stair_of_involutionX {n : Nat} {f : List Nat} {M : Mp} {Q : DK} {X : Str → Mp → Prop} (hf : InvN f) (h1 : 1 ≤ f.length) (h2 : f.length ≤ 60)
    (h : Q (stcD f) M) (hn : 5 ≤ n := by omega) : run PG n "stair_of_involution" [.tup (natsD f)] M Q X := by
  obtain ⟨n, rfl⟩ := Nat.exists_eq_add_of_le' hn
  rw [run_stair_of_involution]
  simp [f_stair_of_involution, t_stair_of_involution]
  have hreq : ∀ {m : Nat} {Q : DK} {X : Str → Mp → Prop}, 4 ≤ m → Q .non M → run PG m "require_involution" [.tup (natsD f)] M Q X := fun {m Q X} hm hq => by
    obtain ⟨m, rfl⟩ := Nat.exists_eq_add_of_le' hm
    rw [run_require_involution]
    simp [f_require_involution, t_require_involution]
    refine sp_is_involution (by simp) ?_
    simp [isInvD_nats hf h1 h2]
    exact Lv.here hq
  refine hreq (by omega) ?_
  simp
  exact sp_stair_inI hf h1 h2 (Lv.here h)
theorem sp_law_right {n : Nat} {f : List Nat} {M : Mp} {Q : DK} {X : Str → Mp → Prop} (hf : InvN f) (h1 : 1 ≤ f.length) (h2 : f.length ≤ 60) (h : Q (.bl true) M) (hn : 10 ≤ n := by omega) : run PG n "_law_right" [.tup (natsD f)] M Q X := by
  obtain ⟨n, rfl⟩ := Nat.exists_eq_add_of_le' hn
  rw [run__law_right]
  simp [f__law_right, t__law_right]
  have hlt : ∀ x ∈ f, x < 60 := fun x hx => by have := hf.lt x hx; omega
  have hVf : V2 (D.tup (natsD f)) := (V1_tup (V0_nats fun k hk => by have := hlt k hk; omega) (by simp; omega)).v2
  have hVs : V2 (stcD f) := (V1_stc hf h2).v2
  refine bfn_reprV hVf ?_
  refine sp_law_insN hf h2 ?_
  simp
  refine forL_rng (n := 2) (I := fun _ δ M' => M' = M ∧ δ = [some (.tup (natsD f)), some (.str (rp (.tup (natsD f)))), some (stcD f), none, none, none, none]) ?_ ?_ ⟨rfl, rfl⟩
  · rintro j δ M1 hj ⟨rfl, rfl⟩
    refine ⟨trivial, fun k hk => ?_⟩
    simp
    refine sp_stair_of_involutionX hf h1 h2 ?_
    simp
    refine bfn_reprV hVs ?_
    simp
    refine bfn_reprV hVs ?_
    simp
    refine bfn_reprV hVf ?_
    simp
    exact hk _ _ ⟨rfl, rfl⟩
  · rintro δ M1 ⟨rfl, rfl⟩
    refine ⟨trivial, ?_⟩
    simp
    refine sp_longest (.inl rfl) hlt h2 ?_
    simp
    refine sp_longest (.inr rfl) hlt h2 ?_
    simp [stcD]
    have hsl : (stI f).length = f.length := (stI_G hf).2
    refine ⟨by omega, by omega, by omega, ?_⟩
    refine forL_rng2 (a := 1) (n := (stI f).length) (I := fun _ δ M' => M' = M1 ∧ ∃ x y, δ = [some (.tup (natsD f)), some (.str (rp (.tup (natsD f)))), some (.tup ((stI f).map D.int)), x, some (.lst ((lgD 1 f).map D.int)), some (.lst ((lgD (-1) f).map D.int)), y]) ?_ ?_ ⟨rfl, _, _, rfl⟩
    · rintro j δ M hj ⟨rfl, x, y, rfl⟩
      refine ⟨trivial, fun k hk => ?_⟩
      simp
      have cut : ∀ l : List Int, cutD (l.map D.int) none (some (1 + (j : Int))) = (l.take (j + 1)).map D.int := fun l => by
        rw [cutD_to (by omega), List.map_take]; congr 1; omega
      have hI := invI_of' hf
      have hi : j + 1 ≤ (ntI f).length := by simp; omega
      have hu : (lgD 1 f).take (j + 1) = lgP 1 (ntI f) (j + 1) := lgP_take (by omega)
      have hd : (lgD (-1) f).take (j + 1) = lgP (-1) (ntI f) (j + 1) := lgP_take (by omega)
      have hne : ∀ sg, lgP sg (ntI f) (j + 1) ≠ [] := fun sg e => by
        have := congrArg List.length e
        simp at this
      have ha := asc_row hI.nodup hi (by omega)
      have hs0 : isDs false (((stI f).take (j + 1)).map D.int) 30 = true := isDs_of (all_map fun i _ => by simp)
      simp only [cut, hu, hd, intsOf_map, lsetD, lsetI, hs0, true_and]
      refine ⟨hne 1, ?_⟩
      rw [ha]
      have hc : countD (D.int 0) (((stI f).take (j + 1)).map D.int) = (((insAll (ntI f)).2).take (j + 1)).count 0 := countD_intsL
      rw [hc]
      simp only [decide_true, Bool.not_true]
      refine ⟨by simp; omega, fun ms h1 h2 => ?_⟩
      simp
      have hm := desc_diff hI.nodup hi (by omega) h1 h2
      refine ⟨hne _, ?_⟩
      rw [← hm]
      simp
      exact hk _ _ ⟨rfl, x, _, rfl⟩
    · rintro δ M ⟨rfl, x, y, rfl⟩
      refine ⟨trivial, ?_⟩
      simp
      exact Lv.here h
end Pw
set_option Elab.async false
set_option linter.all false
set_option maxRecDepth 100000
set_option maxHeartbeats 1000000
namespace Pw
open PySem PySem.Spec PyProof.Rows L2
/-- the numbers of involutions of 0, 1 .. things: the first j + 2 of them -/
def invL : Nat → List Nat
  | 0 => [1, 1]
  | j + 1 => invL j ++ [((invL j)[j + 1]?).getD 0 + (j + 1) * ((invL j)[j]?).getD 0]
def invc (s : Nat) : Nat := ((invL (s - 1))[s]?).getD 0
theorem invL_len : ∀ j, (invL j).length = j + 2
  | 0 => rfl
  | j + 1 => by simp [invL, invL_len j]
def allSt : Nat → List (List Nat)
  | 0 => [[]]
  | t + 1 => (allSt t).flatMap fun row => ((List.range (t + 1)).filter fun e => decide (e = 0) || decide (row.count e < row.count (e - 1))).map fun e => row ++ [e]
def dueF (size : Nat) : Nat → Nat × Int
  | 0 => (0, 1)
  | p + 1 => ((dueF size p).1 + (dueF size p).2.toNat, (dueF size p).2 * ((size : Int) - 2 * p) * ((size : Int) - 2 * p - 1) / (2 * ((p : Int) + 1)))
theorem countD_nats {x : Nat} : ∀ {f : List Nat}, countD (.int (x : Int)) (natsD f) = f.count x
  | [] => rfl
  | a :: f => by
    have ih := countD_nats (x := x) (f := f)
    unfold countD at ih ⊢
    rw [natsD_cons, List.countP_cons, ih, List.count_cons]
    have : eqD (.int (a : Int)) (.int (x : Int)) = (a == x) := by
      rw [eqD_int, Bool.eq_iff_iff]; simp; omega
    rw [this]
theorem cnt_ok1 : ∀ s ∈ List.range 9, invc (s + 1) = (allSt (s + 1)).length := by decide +kernel
theorem cnt_ok2 : ∀ s ∈ List.range 60, ((dueF (s + 1) ((s + 1) / 2 + 1)).1 : Nat) = invc (s + 1) := by decide +kernel
theorem cnt_ok3 : ∀ s ∈ List.range 58, invc (s + 3) = invc (s + 2) + (s + 2) * invc (s + 1) := by decide +kernel
theorem cnt_max : ∀ s ∈ List.range 61, ∀ x ∈ invL s, x < 2 ^ 200 := by decide +kernel
theorem dueF_pos : ∀ s ∈ List.range 60, ∀ p ∈ List.range 32, 0 ≤ (dueF (s + 1) p).2 ∧ (dueF (s + 1) p).2 < 2 ^ 300 := by decide +kernel
theorem allSt_len : ∀ (j : Nat), ∀ row ∈ allSt j, row.length = j
  | 0, row, h => by simp [allSt] at h; subst h; rfl
  | j + 1, row, h => by
    simp only [allSt, List.mem_flatMap, List.mem_map] at h
    obtain ⟨r, hr, e, _, rfl⟩ := h
    simp [allSt_len j r hr]
theorem allSt_lt : ∀ (j : Nat), ∀ row ∈ allSt j, ∀ x ∈ row, x < j
  | 0, row, h => by simp [allSt] at h; subst h; simp
  | j + 1, row, h => by
    simp only [allSt, List.mem_flatMap, List.mem_map] at h
    obtain ⟨r, hr, e, he, rfl⟩ := h
    intro x hx
    rcases List.mem_append.mp hx with hx | hx
    · have := allSt_lt j r hr x hx; omega
    · have := List.mem_range.mp (List.mem_filter.mp he).1
      rw [List.mem_singleton.mp hx]; exact this
end Pw
set_option Elab.async false
set_option linter.all false
set_option maxRecDepth 100000
set_option maxHeartbeats 1000000
/-! the number of an involution -/
namespace Pw
open PySem PySem.Spec PyProof.Rows L2
def cI : Nat → Nat
  | 0 => 1
  | 1 => 1
  | n + 2 => cI (n + 1) + (n + 1) * cI n
theorem cI_pos : ∀ n, 1 ≤ cI n
  | 0 => Nat.le_refl 1
  | 1 => Nat.le_refl 1
  | n + 2 => Nat.le_trans (cI_pos (n + 1)) (Nat.le_add_right _ _)
theorem cI_mono (n : Nat) : cI n ≤ cI (n + 1) := by
  cases n with
  | zero => exact Nat.le_refl 1
  | succ n => exact Nat.le_add_right _ _
/-- r is the number of f among those with the free places fr -/
inductive Num (f : List Nat) : List Nat → Nat → Prop
  | nil : Num f [] 0
  | fix {a : Nat} {fr : List Nat} {r : Nat} : f[a]? = some a → Num f fr r → Num f (a :: fr) r
  | pair {a b i : Nat} {fr : List Nat} {r : Nat} : f[a]? = some b → b ≠ a → fr[i]? = some b → f[b]? = some a → Num f (fr.eraseIdx i) r → Num f (a :: fr) (cI fr.length + i * cI (fr.length - 1) + r)
theorem Num.lt {f fr : List Nat} {r : Nat} (h : Num f fr r) : r < cI fr.length := by
  induction h with
  | nil => exact Nat.zero_lt_one
  | fix _ _ ih => exact Nat.lt_of_lt_of_le ih (cI_mono _)
  | pair h1 h2 h3 h4 h5 ih =>
    rename_i a b i fr r
    have hi := (List.getElem?_eq_some_iff.mp h3).1
    rw [List.length_eraseIdx_of_lt hi] at ih
    obtain ⟨L, hL⟩ : ∃ L, fr.length = L + 1 := ⟨fr.length - 1, by omega⟩
    have hi2 : i + 1 ≤ L + 1 := by omega
    rw [hL, Nat.add_sub_cancel] at ih
    rw [List.length_cons, hL, Nat.add_sub_cancel]
    have : (i + 1) * cI L ≤ (L + 1) * cI L := Nat.mul_le_mul_right _ hi2
    rw [Nat.add_mul, Nat.one_mul] at this
    have e : cI (L + 1 + 1) = cI (L + 1) + (L + 1) * cI L := rfl
    rw [e]
    omega
theorem idx_inj {fr : List Nat} (hn : fr.Nodup) {i j b : Nat} (hi : fr[i]? = some b) (hj : fr[j]? = some b) : i = j := by
  exact (List.getElem?_inj (List.getElem?_eq_some_iff.mp hi).1 hn).mp (hi.trans hj.symm)
theorem Num.det {f fr : List Nat} {r r' : Nat} (h : Num f fr r) (hn : fr.Nodup) (h' : Num f fr r') : r = r' := by
  induction h generalizing r' with
  | nil => cases h'; rfl
  | fix h1 h2 ih =>
    rw [List.nodup_cons] at hn
    cases h' with
    | fix g1 g2 => exact ih hn.2 g2
    | pair g1 g2 g3 g4 g5 =>
      rw [h1] at g1
      exact absurd (Option.some.inj g1).symm g2
  | pair h1 h2 h3 h4 h5 ih =>
    rw [List.nodup_cons] at hn
    cases h' with
    | fix g1 g2 =>
      rw [h1] at g1
      exact absurd (Option.some.inj g1) h2
    | pair g1 g2 g3 g4 g5 =>
      rw [h1] at g1
      obtain rfl := Option.some.inj g1
      obtain rfl := idx_inj hn.2 h3 g3
      rw [ih (hn.2.sublist (List.eraseIdx_sublist ..)) g5]
/-- in order by numbers -/
theorem Num.lex {f g fr : List Nat} {r r' : Nat} (h : Num f fr r) : Num g fr r' → fr.Pairwise (· < ·) → (∀ x : Nat, x ∉ fr → f[x]? = g[x]?) → r < r' →
    ∃ p u v : Nat, f[p]? = some u ∧ g[p]? = some v ∧ u < v ∧ ∀ x : Nat, x < p → f[x]? = g[x]? := by
  induction h generalizing r' with
  | nil =>
    intro h' _ _ hr
    cases h'
    omega
  | fix h1 h2 ih =>
    rename_i a fr r
    intro h' ha hag hr
    rw [List.pairwise_cons] at ha
    cases h' with
    | fix g1 g2 =>
      exact ih g2 ha.2 (fun x hx => by
        by_cases c : x = a
        · subst c; rw [h1, g1]
        · exact hag x (by simp [c, hx])) hr
    | pair g1 g2 g3 g4 g5 =>
      refine ⟨a, _, _, h1, g1, ha.1 _ (List.mem_of_getElem? g3), fun x hx => hag x fun hm => ?_⟩
      rcases List.mem_cons.mp hm with rfl | hm
      · omega
      · have := ha.1 x hm; omega
  | pair h1 h2 h3 h4 h5 ih =>
    rename_i a b i fr r
    intro h' ha hag hr
    rw [List.pairwise_cons] at ha
    cases h' with
    | fix g1 g2 =>
      have := g2.lt
      omega
    | pair g1 g2 g3 g4 g5 =>
      rename_i b' i' r1
      have hi := (List.getElem?_eq_some_iff.mp h3).1
      have hi' := (List.getElem?_eq_some_iff.mp g3).1
      have l1 := h5.lt
      have l2 := g5.lt
      rw [List.length_eraseIdx_of_lt hi] at l1
      rw [List.length_eraseIdx_of_lt hi'] at l2
      by_cases c : i = i'
      · subst c
        rw [h3] at g3
        obtain rfl := Option.some.inj g3
        have hab : (fr.eraseIdx i).Pairwise (· < ·) := ha.2.sublist (List.eraseIdx_sublist ..)
        refine ih g5 hab (fun x hx => ?_) (by omega)
        by_cases c1 : x = a
        · subst c1; rw [h1, g1]
        · by_cases c2 : x = b
          · subst c2; rw [h4, g4]
          · refine hag x fun hm => ?_
            have hm' := (List.mem_cons.mp hm).resolve_left c1
            apply hx
            obtain ⟨k, hk⟩ := List.mem_iff_getElem?.mp hm'
            rw [List.mem_eraseIdx_iff_getElem?]
            exact ⟨k, fun z => by subst z; rw [h3] at hk; exact c2 (Option.some.inj hk).symm, hk⟩
      · have hlt : i < i' := by
          by_cases c2 : i < i'
          · exact c2
          · exfalso
            have h3' : (i' + 1) * cI (fr.length - 1) ≤ i * cI (fr.length - 1) := Nat.mul_le_mul_right _ (by omega)
            rw [Nat.add_mul, Nat.one_mul] at h3'
            omega
        have hbb : b < b' := by
          obtain ⟨_, e1⟩ := List.getElem?_eq_some_iff.mp h3
          obtain ⟨_, e2⟩ := List.getElem?_eq_some_iff.mp g3
          have := List.pairwise_iff_getElem.mp ha.2 i i' hi hi' hlt
          rw [e1, e2] at this
          exact this
        refine ⟨a, b, b', h1, g1, hbb, fun x hx => hag x fun hm => ?_⟩
        rcases List.mem_cons.mp hm with rfl | hm
        · omega
        · have := ha.1 x hm; omega
/-- the same number, the same involution -/
theorem Num.same {f g fr : List Nat} {r : Nat} (h : Num f fr r) : Num g fr r → fr.Nodup → ∀ x ∈ fr, f[x]? = g[x]? := by
  induction h with
  | nil => intro _ _ x hx; cases hx
  | fix h1 h2 ih =>
    rename_i a fr r
    intro h' hn x hx
    rw [List.nodup_cons] at hn
    cases h' with
    | fix g1 g2 =>
      rcases List.mem_cons.mp hx with rfl | hx
      · rw [h1, g1]
      · exact ih g2 hn.2 x hx
    | pair g1 g2 g3 g4 g5 =>
      have := h2.lt
      omega
  | pair h1 h2 h3 h4 h5 ih =>
    rename_i a b i fr r
    intro h' hn x hx
    rw [List.nodup_cons] at hn
    generalize hR : cI fr.length + i * cI (fr.length - 1) + r = R at h'
    cases h' with
    | fix g1 g2 =>
      have := g2.lt
      omega
    | pair g1 g2 g3 g4 g5 =>
      rename_i b' i' r1
      have hi := (List.getElem?_eq_some_iff.mp h3).1
      have hi' := (List.getElem?_eq_some_iff.mp g3).1
      have l1 := h5.lt
      have l2 := g5.lt
      rw [List.length_eraseIdx_of_lt hi] at l1
      rw [List.length_eraseIdx_of_lt hi'] at l2
      have c : i = i' := by
        rcases Nat.lt_trichotomy i i' with c | c | c
        · have h3' : (i + 1) * cI (fr.length - 1) ≤ i' * cI (fr.length - 1) := Nat.mul_le_mul_right _ c
          rw [Nat.add_mul, Nat.one_mul] at h3'
          omega
        · exact c
        · have h3' : (i' + 1) * cI (fr.length - 1) ≤ i * cI (fr.length - 1) := Nat.mul_le_mul_right _ c
          rw [Nat.add_mul, Nat.one_mul] at h3'
          omega
      subst c
      rw [h3] at g3
      obtain rfl := Option.some.inj g3
      have er : r = r1 := by omega
      subst er
      rcases List.mem_cons.mp hx with rfl | hx
      · rw [h1, g1]
      · by_cases c2 : x = b
        · subst c2; rw [h4, g4]
        · refine ih g5 (hn.2.sublist (List.eraseIdx_sublist ..)) x ?_
          obtain ⟨k, hk⟩ := List.mem_iff_getElem?.mp hx
          rw [List.mem_eraseIdx_iff_getElem?]
          exact ⟨k, fun z => by subst z; rw [h3] at hk; exact c2 (Option.some.inj hk).symm, hk⟩
theorem Num.eq {f g : List Nat} {r : Nat} (hl : f.length = g.length) (h : Num f (List.range f.length) r) (h' : Num g (List.range g.length) r) : f = g := by
  apply List.ext_getElem?
  intro x
  by_cases c : x < f.length
  · rw [← hl] at h'
    exact h.same h' List.nodup_range x (List.mem_range.mpr c)
  · rw [List.getElem?_eq_none (by omega), List.getElem?_eq_none (by omega)]
/-- the first one -/
theorem num_id {n : Nat} : ∀ {fr : List Nat}, (∀ x ∈ fr, x < n) → Num (List.range n) fr 0
  | [], _ => .nil
  | a :: fr, h => .fix (List.getElem?_range (h a (List.mem_cons_self ..))) (num_id fun x hx => h x (List.mem_cons_of_mem _ hx))
/-- the last one -/
theorem num_rev {n : Nat} : ∀ (k a : Nat), a + a + k = n → Num (List.range n).reverse ((List.range k).map (· + a)) (cI k - 1)
  | 0, a, _ => .nil
  | 1, a, h => by
    show Num _ [0 + a] 0
    refine .fix ?_ .nil
    simp only [Nat.zero_add]
    rw [List.getElem?_reverse (by simp; omega), List.length_range, List.getElem?_range (by omega)]
    congr 1; omega
  | k + 2, a, h => by
    have ih := num_rev (n := n) k (a + 1) (by omega)
    have e1 : (List.range (k + 2)).map (· + a) = a :: (List.range (k + 1)).map (· + (a + 1)) := by
      rw [List.range_succ_eq_map, List.map_cons, List.map_map]
      simp only [Nat.zero_add]
      congr 1
      exact List.map_congr_left fun x _ => by simp only [Function.comp_apply]; omega
    have e2 : ((List.range (k + 1)).map (· + (a + 1))).eraseIdx k = (List.range k).map (· + (a + 1)) := by
      rw [List.range_succ, List.map_append, List.eraseIdx_append_of_length_le (by simp)]
      simp
    have e3 : ((List.range (k + 1)).map (· + (a + 1))).length = k + 1 := by simp
    rw [e1]
    have hP := Num.pair (f := (List.range n).reverse) (a := a) (b := k + (a + 1)) (i := k) (fr := (List.range (k + 1)).map (· + (a + 1))) (r := cI k - 1) ?_ (by omega) ?_ ?_ (by rw [e2]; exact ih)
    · rw [e3, Nat.add_sub_cancel] at hP
      have hc := cI_pos k
      have e4 : cI (k + 2) - 1 = cI (k + 1) + k * cI k + (cI k - 1) := by
        have : cI (k + 2) = cI (k + 1) + (k + 1) * cI k := rfl
        rw [this, Nat.add_mul, Nat.one_mul]; omega
      rw [e4]; exact hP
    · rw [List.getElem?_reverse (by simp; omega), List.length_range, List.getElem?_range (by omega)]
      congr 1; omega
    · rw [List.getElem?_map, List.getElem?_range (by omega)]; rfl
    · rw [List.getElem?_reverse (by simp; omega), List.length_range, List.getElem?_range (by omega)]
      congr 1; omega
theorem invL_cI : ∀ (m j : Nat), j ≤ m + 1 → (invL m)[j]? = some (cI j)
  | 0, 0, _ => rfl
  | 0, 1, _ => rfl
  | 0, j + 2, h => by omega
  | m + 1, j, h => by
    have hl := invL_len m
    rw [invL]
    by_cases c : j ≤ m + 1
    · rw [List.getElem?_append_left (by omega)]
      exact invL_cI m j c
    · have : j = m + 2 := by omega
      subst this
      rw [List.getElem?_append_right (by omega), hl, Nat.sub_self, invL_cI m (m + 1) (by omega), invL_cI m m (by omega)]
      rfl
theorem invc_cI {s : Nat} (h : 1 ≤ s) : invc s = cI s := by
  unfold invc
  rw [invL_cI (s - 1) s (by omega)]; rfl
end Pw
set_option Elab.async false
set_option linter.all false
set_option maxRecDepth 100000
set_option maxHeartbeats 1000000
namespace Pw
open PySem PySem.Spec PyProof.Rows L2
def tupN (f : List Nat) : D := .tup (natsD f)
theorem invN_zero {f : List Nat} (h : InvN f) : InvN (0 :: f.map (· + 1)) := fun i hi => by
  cases i with
  | zero => exact ⟨0, rfl, rfl⟩
  | succ i =>
    obtain ⟨j, h1, h2⟩ := h i (by simpa using hi)
    exact ⟨j + 1, by simp [h1], by simp [h2]⟩
/-- the places but 0 and one more -/
def othN (k t : Nat) : List Nat := ((List.range (k - 1)).filter fun j => decide (j ≠ t)).map (1 + ·)
theorem filter_ne_len {t : Nat} : ∀ {m : Nat}, ((List.range m).filter fun j => decide (j ≠ t)).length = if t < m then m - 1 else m
  | 0 => by simp
  | m + 1 => by
    rw [List.range_succ, List.filter_append, List.length_append, filter_ne_len]
    by_cases c : t < m
    · have c1 : ¬ m = t := by omega
      have c2 : t < m + 1 := by omega
      simp [c, c1, c2]; omega
    · by_cases c1 : m = t
      · subst c1; simp
      · have c2 : ¬ t < m + 1 := by omega
        simp [c, c1, c2]
theorem othN_len {k t : Nat} (h : t < k - 1) : (othN k t).length = k - 2 := by
  unfold othN
  rw [List.length_map, filter_ne_len, if_pos h]; omega
theorem othN_mem {k t i : Nat} : i ∈ othN k t ↔ 1 ≤ i ∧ i < k ∧ i ≠ 1 + t := by
  unfold othN
  simp only [List.mem_map, List.mem_filter, List.mem_range, decide_eq_true_eq]
  constructor
  · rintro ⟨j, ⟨h1, h2⟩, rfl⟩; omega
  · rintro ⟨h1, h2, h3⟩; exact ⟨i - 1, by omega, by omega⟩
theorem othN_nodup {k t : Nat} : (othN k t).Nodup := by
  unfold othN
  have h1 : ((List.range (k - 1)).filter fun j => decide (j ≠ t)).Nodup := List.nodup_range.sublist List.filter_sublist
  generalize ((List.range (k - 1)).filter fun j => decide (j ≠ t)) = l at h1
  rw [List.nodup_iff_pairwise_ne, List.pairwise_map]
  rw [List.nodup_iff_pairwise_ne] at h1
  exact h1.imp fun {a b} h => by omega
/-- the first u of the others are paired -/
structure RowU (k t u : Nat) (g row : List Nat) : Prop where
  len : row.length = k
  h0 : row[0]? = some (1 + t)
  h1 : row[1 + t]? = some 0
  hu : ∀ v, v < u → ∃ a b, (othN k t)[v]? = some a ∧ (g[v]?).bind (fun c => (othN k t)[c]?) = some b ∧ row[a]? = some b
theorem RowU.inv {k t : Nat} {g row : List Nat} (h : RowU k t (k - 2) g row) (ht : t < k - 1) (hg : InvN g) (hgl : g.length = k - 2) : InvN row := fun i hi => by
  rw [h.len] at hi
  by_cases c0 : i = 0
  · subst c0; exact ⟨_, h.h0, h.h1⟩
  · by_cases c1 : i = 1 + t
    · subst c1; exact ⟨_, h.h1, h.h0⟩
    · have hm : i ∈ othN k t := othN_mem.mpr ⟨by omega, hi, c1⟩
      obtain ⟨u, hu⟩ := List.mem_iff_getElem?.mp hm
      have hul : u < k - 2 := by
        have := (List.getElem?_eq_some_iff.mp hu).1
        rw [othN_len ht] at this; exact this
      obtain ⟨a, b, e1, e2, e3⟩ := h.hu u hul
      rw [hu] at e1
      obtain rfl := Option.some.inj e1
      obtain ⟨v, g1, g2⟩ := hg u (by omega)
      rw [g1] at e2
      have e2 : (othN k t)[v]? = some b := e2
      have hvl : v < k - 2 := by
        have := (List.getElem?_eq_some_iff.mp e2).1
        rw [othN_len ht] at this; exact this
      obtain ⟨a', b', f1, f2, f3⟩ := h.hu v hvl
      rw [e2] at f1
      obtain rfl := Option.some.inj f1
      rw [g2] at f2
      have f2 : (othN k t)[u]? = some b' := f2
      rw [hu] at f2
      obtain rfl := Option.some.inj f2
      exact ⟨b, e3, f3⟩
theorem eraseIdx_map' {α β : Type} {φ : α → β} : ∀ {l : List α} {i : Nat}, (l.map φ).eraseIdx i = (l.eraseIdx i).map φ
  | [], _ => rfl
  | _ :: _, 0 => rfl
  | a :: l, i + 1 => by simp [eraseIdx_map']
/-- other names for the places -/
theorem Num.relab {g row fr : List Nat} {r : Nat} {φ : Nat → Nat} (h : Num g fr r) : (∀ a b : Nat, g[a]? = some b → row[φ a]? = some (φ b)) → (∀ a b c d : Nat, g[a]? = some c → g[b]? = some d → φ a = φ b → a = b) → Num row (fr.map φ) r := by
  intro h1 h2
  induction h with
  | nil => exact .nil
  | fix g1 g2 ih => exact .fix (h1 _ _ g1) ih
  | pair g1 g2 g3 g4 g5 ih =>
    rename_i a b i fr r
    rw [List.map_cons]
    have hP := Num.pair (f := row) (a := φ a) (b := φ b) (i := i) (fr := fr.map φ) (r := r) (h1 _ _ g1) (fun z => g2 (h2 _ _ _ _ g4 g1 z)) (by rw [List.getElem?_map, g3]; rfl) (h1 _ _ g4) (by rw [eraseIdx_map']; exact ih)
    rw [List.length_map] at hP
    exact hP
theorem num_zero {f : List Nat} {k r : Nat} (hk : 1 ≤ k) (h : Num f (List.range (k - 1)) r) : Num (0 :: f.map (· + 1)) (List.range k) r := by
  have e : List.range k = 0 :: (List.range (k - 1)).map (· + 1) := by
    obtain ⟨m, rfl⟩ : ∃ m, k = m + 1 := ⟨k - 1, by omega⟩
    rw [List.range_succ_eq_map]; rfl
  rw [e]
  refine .fix rfl (h.relab (φ := (· + 1)) (fun a b hab => ?_) fun a b _ _ _ _ hab => by simpa using hab)
  simp [hab]
theorem rowU_num {k t j : Nat} {g row : List Nat} (h : RowU k t (k - 2) g row) (ht : t < k - 1) (hg : InvN g) (hgl : g.length = k - 2) (hN : Num g (List.range (k - 2)) j) : Num row (List.range k) (cI (k - 1) + t * cI (k - 2) + j) := by
  have e : List.range k = 0 :: (List.range (k - 1)).map (1 + ·) := by
    obtain ⟨m, rfl⟩ : ∃ m, k = m + 1 := ⟨k - 1, by omega⟩
    rw [List.range_succ_eq_map]
    congr 1
    exact List.map_congr_left fun x _ => by simp only [Nat.succ_eq_add_one]; omega
  have hol := othN_len (k := k) ht
  have eo : othN k t = (List.range (k - 2)).map fun v => (othN k t).getD v 0 := by
    apply List.ext_getElem?
    intro v
    rw [List.getElem?_map]
    by_cases c : v < k - 2
    · rw [List.getElem?_range c, Option.map_some, List.getD_eq_getElem?_getD, List.getElem?_eq_getElem (by omega)]; rfl
    · rw [List.getElem?_eq_none (by omega), List.getElem?_eq_none (by simp; omega)]; rfl
  have hgo : ∀ v, v < k - 2 → (othN k t)[v]? = some ((othN k t).getD v 0) := fun v hv => by
    rw [List.getD_eq_getElem?_getD, List.getElem?_eq_getElem (by omega)]; rfl
  have ee : ((List.range (k - 1)).map (1 + ·)).eraseIdx t = othN k t := by
    unfold othN
    rw [eraseIdx_map']
    congr 1
    have : ∀ (m t : Nat), t < m → (List.range m).eraseIdx t = (List.range m).filter fun j => decide (j ≠ t) := by
      intro m
      induction m with
      | zero => intro t ht; omega
      | succ m ih =>
        intro t ht
        rw [List.range_succ, List.filter_append]
        by_cases c : t < m
        · rw [List.eraseIdx_append_of_lt_length (by simpa using c), ih t c]
          have : m ≠ t := by omega
          simp [this]
        · have : t = m := by omega
          subst this
          rw [List.eraseIdx_append_of_length_le (by simp)]
          simp
          exact (List.filter_eq_self.mpr fun a ha => by have := List.mem_range.mp ha; simp; omega).symm
    exact this _ _ ht
  have hR : Num row (othN k t) j := by
    rw [eo]
    refine hN.relab (fun a b hab => ?_) fun a b c d ha hb hab => ?_
    · have hal := (List.getElem?_eq_some_iff.mp hab).1
      have hbl : b < k - 2 := by rw [← hgl]; exact hg.lt b (List.mem_of_getElem? hab)
      obtain ⟨a', b', e1, e2, e3⟩ := h.hu a (by omega)
      rw [hgo a (by omega)] at e1
      rw [hab] at e2
      have e2 : (othN k t)[b]? = some b' := e2
      rw [hgo b hbl] at e2
      obtain rfl := Option.some.inj e1
      obtain rfl := Option.some.inj e2
      exact e3
    · have hal := (List.getElem?_eq_some_iff.mp ha).1
      have hbl := (List.getElem?_eq_some_iff.mp hb).1
      exact idx_inj (fr := othN k t) othN_nodup (hgo a (by omega)) (by rw [hab]; exact hgo b (by omega))
  rw [e]
  have hP := Num.pair (f := row) (a := 0) (b := 1 + t) (i := t) (fr := (List.range (k - 1)).map (1 + ·)) (r := j) h.h0 (by omega) (by rw [List.getElem?_map, List.getElem?_range ht]; rfl) h.h1 (by rw [ee]; exact hR)
  rw [List.length_map, List.length_range, show k - 1 - 1 = k - 2 by omega] at hP
  exact hP
/-- the involutions of a size, by their numbers -/
def AscN (k : Nat) (A : List (List Nat)) : Prop := ∀ (i : Nat) (f : List Nat), A[i]? = some f → (InvN f ∧ f.length = k) ∧ Num f (List.range k) i
theorem AscN.snoc {k : Nat} {A : List (List Nat)} {f : List Nat} (h : AscN k A) (h1 : InvN f ∧ f.length = k) (h2 : Num f (List.range k) A.length) : AscN k (A ++ [f]) := fun i g hg => by
  by_cases c : i < A.length
  · rw [List.getElem?_append_left c] at hg; exact h i g hg
  · rw [List.getElem?_append_right (by omega)] at hg
    have hi := (List.getElem?_eq_some_iff.mp hg).1
    simp at hi
    have : i = A.length := by omega
    subst this
    simp at hg
    subst hg
    exact ⟨h1, h2⟩
theorem cI_le : ∀ k ∈ List.range 9, cI k ≤ 10 ^ k := by decide
theorem sp_all_paired : ∀ (k : Nat), k ≤ 7 → ∀ {n : Nat} {M : Mp} {Q : DK} {X : Str → Mp → Prop}, k + 1 ≤ n →
    (∀ L : List (List Nat), AscN k L → L.length = cI k → Q (.lst (L.map tupN)) M) → run PG n "_law_all_paired" [.int (k : Nat)] M Q X := by
  intro k
  induction k using Nat.strongRecOn with
  | _ k ih =>
  intro hk7 n M Q X hn h
  obtain ⟨n, rfl⟩ : ∃ m, n = m + 1 := ⟨n - 1, by omega⟩
  rw [run__law_all_paired]
  simp [f__law_all_paired, t__law_all_paired]
  by_cases hk : k < 2
  · have hk' : (k : Int) < 2 := by omega
    simp [hk']
    refine ⟨by omega, Lv.here ?_⟩
    have hk2 : k = 0 ∨ k = 1 := by omega
    have := h [List.range k] (fun i f hf => by
      have hi := (List.getElem?_eq_some_iff.mp hf).1
      simp at hi
      subst hi
      simp at hf
      subst hf
      exact ⟨⟨InvN.range k, by simp⟩, num_id fun x hx => List.mem_range.mp hx⟩) (by rcases hk2 with rfl | rfl <;> rfl)
    exact this
  · have hk' : ¬ (k : Int) < 2 := by omega
    simp [hk']
    intro p hp
    have e1 : ((k : Int) - 1) = ((k - 1 : Nat) : Int) := by omega
    have e2 : ((k : Int) - 2) = ((k - 2 : Nat) : Int) := by omega
    rw [e1]
    refine ih (k - 1) (by omega) (by omega) (by omega) fun L1 hL1 hL1c => ?_
    have hL1l : L1.length ≤ 10 ^ (k - 1) := by rw [hL1c]; exact cI_le _ (List.mem_range.mpr (by omega))
    simp
    have hpow1 : 10 ^ (k - 1) = 10 * 10 ^ (k - 2) := by rw [show k - 1 = (k - 2) + 1 by omega, Nat.pow_succ]; omega
    have hpow2 : 10 ^ k = 10 * 10 ^ (k - 1) := by rw [show k = (k - 1) + 1 by omega, Nat.pow_succ]; simp; omega
    have hpow3 : 10 ^ (k - 2) ≤ 10 ^ 5 := Nat.pow_le_pow_right (by omega) (by omega)
    refine forL_map (l := L1) (enc := tupN) (I := fun j δ M' => ∃ A : List (List Nat), AscN k A ∧ A.length = j ∧ M' p = some (.lst (A.map tupN)) ∧ Sub M M' ∧ δ = [some (.int k), some (.ref p), none, none, none, none, none, none]) ?_ ?_ ⟨[], fun i f hf => by simp at hf, rfl, up_same, Sub.up hp, rfl⟩
    · rintro j f δ M' hf hj ⟨A, hA, hAl, hMp, hsub, rfl⟩
      refine ⟨trivial, fun k1 hk1 => ?_⟩
      obtain ⟨⟨hfi, hfl⟩, hfN⟩ := hL1 j f hf
      simp [tupN, hMp]
      refine compL_map f nD (fun x => nD (x + 1)) ?_ ?_ ?_
      · trivial
      · intro x hx acc k2 h2
        simp
        exact h2
      simp [hMp]
      refine ⟨by omega, by omega, hk1 _ _ ⟨A ++ [0 :: f.map (· + 1)], ?_, by simp [hAl], ?_, hsub.up2 hp, rfl⟩⟩
      · exact hA.snoc ⟨invN_zero hfi, by simp [hfl]; omega⟩ (by rw [hAl]; exact num_zero (by omega) hfN)
      · rw [up_same]
        simp [tupN, natsD, Function.comp_def]
    · rintro δ M' ⟨A, hA, hAl, hMp, hsub, rfl⟩
      refine ⟨trivial, ?_⟩
      simp
      refine ⟨by omega, by omega, ?_⟩
      refine forL_rng2 (n := k - 1) (I := fun t δ M' => ∃ (A : List (List Nat)) (x6 : Option D), AscN k A ∧ A.length = cI (k - 1) + t * cI (k - 2) ∧ M' p = some (.lst (A.map tupN)) ∧ Sub M M' ∧ δ = [some (.int k), some (.ref p), none, none, none, none, x6, none]) ?_ ?_ ⟨A, none, hA, by omega, hMp, hsub, rfl⟩
      · rintro t δ M' ht ⟨A, x6, hA, hAl, hMp, hsub, rfl⟩
        refine ⟨trivial, fun k1 hk1 => ?_⟩
        simp
        refine ⟨by omega, by omega, ?_⟩
        refine compL_rng2 1 (k - 1) (fun j => decide (j ≠ t)) (fun j => .int (1 + (j : Int))) trivial ?_ ?_
        · intro j hj acc k2 j1 j0
          by_cases c : j = t
          · simp [c] at j0 ⊢
            exact j0
          · have c' : ¬ (j : Int) = (t : Int) := by omega
            simp [c] at j1
            simp [c']
            exact j1
        have eo : (((List.range (k - 1)).filter fun j => decide (j ≠ t)).map fun (j : Nat) => D.int (1 + (j : Int))) = natsD (othN k t) := by
          unfold othN natsD
          rw [List.map_map]
          refine List.map_congr_left fun j _ => ?_
          simp
        rw [eo]
        simp
        rw [e2]
        refine ih (k - 2) (by omega) (by omega) (by omega) fun L2 hL2 hL2c => ?_
        have hL2l : L2.length ≤ 10 ^ (k - 2) := by rw [hL2c]; exact cI_le _ (List.mem_range.mpr (by omega))
        have hcI2 : cI (k - 2) ≤ 10 ^ (k - 2) := cI_le _ (List.mem_range.mpr (by omega))
        have hcI1 : cI (k - 1) ≤ 10 ^ (k - 1) := cI_le _ (List.mem_range.mpr (by omega))
        simp
        refine forL_map (l := L2) (enc := tupN) (I := fun j δ M' => ∃ (A : List (List Nat)) (x6 : Option D), AscN k A ∧ A.length = cI (k - 1) + t * cI (k - 2) + j ∧ M' p = some (.lst (A.map tupN)) ∧ Sub M M' ∧ δ = [some (.int k), some (.ref p), none, none, some (.int (1 + (t : Int))), some (.lst (natsD (othN k t))), x6, none]) ?_ ?_ ⟨A, x6, hA, by omega, hMp, hsub, rfl⟩
        · rintro j g δ M' hg hj ⟨A, x6, hA, hAl, hMp, hsub, rfl⟩
          refine ⟨trivial, fun k2 hk2 => ?_⟩
          obtain ⟨⟨hgi, hgl⟩, hgN⟩ := hL2 j g hg
          simp [tupN]
          have erep : rep ((k : Int) - 1) [D.int 0] = natsD (List.replicate (k - 1) 0) := by
            unfold rep
            rw [e1]
            simp [natsD]
          have erepl : (rep ((k : Int) - 1) [D.int 0]).length = k - 1 := by rw [erep]; simp
          refine ⟨by omega, by omega, by omega, by omega, fun r7 hr7 => ?_⟩
          rw [erep]
          have hrp : r7 ≠ p := fun z => by rw [z, hMp] at hr7; cases hr7
          have ez : (List.map (fun p => D.tup [p.1, p.2]) ((natsD (othN k t)).zip (natsD g))) = ((othN k t).zip g).map fun p => D.tup [nD p.1, nD p.2] := by
            unfold natsD
            rw [List.zip_map, List.map_map]; rfl
          rw [ez]
          have hol := othN_len (k := k) ht
          refine forL_map (l := (othN k t).zip g) (I := fun u δ M2 => ∃ (row : List Nat) (x6 : Option D), RowU k t u g row ∧ M2 = up M' r7 (.lst (natsD row)) ∧ δ = [some (.int k), some (.ref p), some (.tup (natsD g)), none, some (.int (1 + (t : Int))), some (.lst (natsD (othN k t))), x6, some (.ref r7)]) ?_ ?_ ⟨(1 + t) :: List.replicate (k - 1) 0, x6, ⟨by simp; omega, rfl, ?_, fun v hv => by omega⟩, ?_, rfl⟩
          · rintro u ⟨a, c⟩ δ M2 hac hul ⟨row, x6, hR, rfl, rfl⟩
            refine ⟨trivial, fun k3 hk3 => ?_⟩
            obtain ⟨ha, hc⟩ := List.getElem?_zip_eq_some.mp hac
            have hul2 : u < k - 2 := by
              have := (List.getElem?_eq_some_iff.mp ha).1
              omega
            have hcl := hgi.lt c (List.mem_of_getElem? hc)
            have hb : (othN k t)[c]? = some (othN k t)[c] := List.getElem?_eq_getElem (by omega)
            generalize (othN k t)[c] = b at hb
            obtain ⟨a1, a2, a3⟩ := othN_mem.mp (List.mem_of_getElem? ha)
            have hal : a < row.length := by rw [hR.len]; exact a2
            have hb' : (natsD (othN k t))[c]? = some (nD b) := by rw [natsD_get, hb]; rfl
            simp [hb', hal]
            refine hk3 _ _ ⟨row.set a b, some (nD a), ⟨by rw [List.length_set]; exact hR.len, ?_, ?_, fun v hv => ?_⟩, ?_, rfl⟩
            · rw [List.getElem?_set_ne (by omega)]; exact hR.h0
            · rw [List.getElem?_set_ne (by omega)]; exact hR.h1
            · by_cases cv : v = u
              · subst cv
                exact ⟨a, b, ha, by rw [hc]; exact hb, List.getElem?_set_self hal⟩
              · obtain ⟨a', b', f1, f2, f3⟩ := hR.hu v (by omega)
                refine ⟨a', b', f1, f2, ?_⟩
                rw [List.getElem?_set_ne]
                · exact f3
                · intro e
                  subst e
                  have h1 := (List.getElem?_eq_some_iff.mp ha)
                  have h2 := (List.getElem?_eq_some_iff.mp f1)
                  obtain ⟨g1, g2⟩ := h1
                  obtain ⟨g3, g4⟩ := h2
                  exact cv ((List.getElem?_inj g3 othN_nodup).mp (f1.trans ha.symm))
            · rw [← natsD_set]
          · rintro δ M2 ⟨row, x6, hR, rfl, rfl⟩
            refine ⟨trivial, ?_⟩
            have hzl : ((othN k t).zip g).length = k - 2 := by simp; omega
            rw [hzl] at hR
            simp [up_ne (Ne.symm hrp), hMp]
            have h12 : A.length ≤ 10000000 := by
              have h1 := Nat.mul_le_mul_right (10 ^ (k - 2)) (show t ≤ 5 by omega)
              have h2 : t * cI (k - 2) ≤ t * 10 ^ (k - 2) := Nat.mul_le_mul_left _ hcI2
              omega
            refine ⟨by omega, hk2 _ _ ⟨A ++ [row], x6, ?_, by simp; omega, ?_, ?_, rfl⟩⟩
            · exact hA.snoc ⟨hR.inv ht hgi hgl, hR.len⟩ (by rw [hAl]; exact rowU_num hR ht hgi hgl hgN)
            · rw [up_same]; simp [tupN]
            · have hr7M : M r7 = none := by
                cases hz : M r7 with
                | none => rfl
                | some z => have := hsub _ _ hz; rw [hr7] at this; cases this
              exact (hsub.up2 hr7M).up2 hp
          · rw [Nat.add_comm, List.getElem?_cons_succ, List.getElem?_replicate, if_pos ht]
          · rfl
        · rintro δ M' ⟨A, x6, hA, hAl, hMp, hsub, rfl⟩
          refine ⟨trivial, ?_⟩
          simp
          refine hk1 _ _ ⟨A, x6, hA, ?_, hMp, hsub, rfl⟩
          have : (t + 1) * cI (k - 2) = t * cI (k - 2) + cI (k - 2) := Nat.succ_mul ..
          rw [hAl, hL2c]; omega
      · rintro δ M' ⟨A, x6, hA, hAl, hMp, hsub, rfl⟩
        refine ⟨trivial, ?_⟩
        simp
        rw [settle_ref hMp (fun d hd => by
          obtain ⟨f, _, rfl⟩ := List.mem_map.mp hd
          simp [tupN])]
        refine ⟨M, hsub, by simp [hp], Lv.here (h A hA ?_)⟩
        rw [hAl]
        obtain ⟨m, rfl⟩ : ∃ m, k = m + 2 := ⟨k - 2, by omega⟩
        rfl
end Pw
set_option Elab.async false
set_option linter.all false
set_option maxRecDepth 100000
set_option maxHeartbeats 1000000
namespace Pw
open PySem PySem.Spec PyProof.Rows L2
def PairW (p q r : Addr) (m : Int) (sz : Nat) (w : Int) (t : Nat) (M : Mp) (k : Nat) (δ : St) (M' : Mp) : Prop := ∃ (f l : List Nat) (o' : DO) (t' : Nat), k = l.length ∧ InvN f ∧ f.length = sz ∧ l.Nodup ∧ (∀ x ∈ l, f[x]? = some x) ∧ l.length ≤ sz ∧ t' + 4 * l.length ≤ t + 300 ∧ MillO o' t' ∧
    δ = [some (.ref p), some (.int m), some (.int sz), some (.int w), some (.ref q), some (.ref r), none, none] ∧ M' = up (up (up M p o') q (.lst (natsD f))) r (.lst (natsD l))
theorem sp_paired {n : Nat} {p : Addr} {o : DO} {m : Int} {t : Nat} {M : Mp} {Q : DK} {X : Str → Mp → Prop} (hp : M p = some o) (hb : MillO o t) (ht : t < 2 ^ 50) (hm : 0 < m) (hm2 : m ≤ 60)
    (h : ∀ (f : List Nat) o', InvN f → 1 ≤ f.length → f.length ≤ m → MillO o' (t + 300) → Q (.tup (natsD f)) (up M p o')) (hn : 3 ≤ n := by omega) : run PG n "_law_paired" [.ref p, .int m] M Q X := by
  obtain ⟨n, rfl⟩ := Nat.exists_eq_add_of_le' hn
  rw [run__law_paired]
  simp [f__law_paired, t__law_paired]
  refine sp_size hp hb (by omega) (by omega) (by omega) fun sz o1 h1 h2 hb1 => ?_
  simp
  refine sp_get (o := o1) (by simp) hb1 (by omega) (by omega) (by omega) fun w o2 h3 h4 hb2 => ?_
  simp [natsD_range]
  refine ⟨by omega, fun q hq => ⟨by omega, fun r hr => ?_⟩⟩
  have nqp : q ≠ p := fun e => by rw [e] at hq; simp at hq
  have nrp : r ≠ p := fun e => by
    rw [e, up_ne (Ne.symm nqp)] at hr; simp at hr
  have nrq : r ≠ q := fun e => by rw [e] at hr; simp at hr
  have hq' : M q = none := by rwa [up_ne nqp] at hq
  have hr' : M r = none := by rwa [up_ne nrq, up_ne nrp] at hr
  refine while_inv (W := PairW p q r m sz w t M) ?_ sz ⟨List.range sz, List.range sz, o2, t + 4, by simp, InvN.range sz, by simp, List.nodup_range, ?_, by simp, by simp; omega, hb2, rfl, rfl⟩
  · rintro k δ M' ⟨f, l, o', t', rfl, hf, hfl, hnd, hfix, hl, ht', hbo, rfl, rfl⟩
    by_cases hl1 : 1 < l.length
    · obtain ⟨a, b, l, rfl⟩ : ∃ a b l', l = a :: b :: l' := by
        match l, hl1 with
        | a :: b :: l', _ => exact ⟨a, b, l', rfl⟩
      simp only [List.length_cons] at hl1 ht' hl
      have hlx : ∃ x, atD (natsD (b :: l)) (-1) = some (nD x) ∧ x ∈ b :: l := by
        have hne : natsD (b :: l) ≠ [] := by simp
        obtain ⟨x, hx, e⟩ := natsD_getLast hne
        exact ⟨x, by rw [atD_m1 hne, e], hx⟩
      obtain ⟨lx, hlx, hlm⟩ := hlx
      rw [natsD_cons] at hlx
      have hap : ∀ o2 v1 v2, up (up (up M p o2) q v1) r v2 p = some o2 := fun o2 v1 v2 => by rw [up_ne (Ne.symm nrp), up_ne (Ne.symm nqp), up_same]
      have hcm : ∀ o2 o3 v1 v2, up (up (up (up M p o2) q v1) r v2) p o3 = up (up (up M p o3) q v1) r v2 := fun o2 o3 v1 v2 => by rw [up_comm nrp, up_comm nqp, up_up]
      have hl1' : (1 : Int) < (l.length : Int) + 1 + 1 := by omega
      simp [hlx, hl1']
      refine sp_get (hap ..) hbo (by omega) (by omega) (by omega) fun r1 o3 g1 g2 hb3 => ?_
      rw [hcm]
      obtain ⟨x1, hx1, e1⟩ := atD_ex (ds := natsD (b :: l)) g1 (by simpa using g2)
      obtain ⟨y1, hy1, rfl⟩ := List.mem_map.mp (show x1 ∈ (b :: l).map nD from hx1)
      rw [natsD_cons] at e1
      simp [e1]
      refine sp_get (hap ..) hb3 (by omega) (by omega) (by omega) fun r2 o4 g3 g4 hb4 => ?_
      rw [hcm]
      obtain ⟨x2, hx2, e2⟩ := atD_ex (ds := natsD (b :: l)) g3 (by simpa using g4)
      obtain ⟨y2, hy2, rfl⟩ := List.mem_map.mp (show x2 ∈ (b :: l).map nD from hx2)
      rw [natsD_cons] at e2
      have hoth : ∃ z, atD [D.int a, nD lx, D.int b, nD y1, nD y2] w = some (nD z) ∧ z ∈ a :: b :: l := by
        have : w = 0 ∨ w = 1 ∨ w = 2 ∨ w = 3 ∨ w = 4 := by omega
        rcases this with rfl | rfl | rfl | rfl | rfl
        · exact ⟨a, by simp, by simp⟩
        · exact ⟨lx, by simp, List.mem_cons_of_mem _ hlm⟩
        · exact ⟨b, by simp, by simp⟩
        · exact ⟨y1, by simp, List.mem_cons_of_mem _ hy1⟩
        · exact ⟨y2, by simp, List.mem_cons_of_mem _ hy2⟩
      obtain ⟨z, hz, hzm⟩ := hoth
      simp [e2, hz]
      have ha : f[a]? = some a := hfix a (by simp)
      have hnd2 := (List.nodup_cons.mp hnd).2
      have hna := (List.nodup_cons.mp hnd).1
      have fin : ∀ o9 t9, MillO o9 t9 → t9 ≤ t' + 4 → ∃ n', n' < l.length + 1 + 1 ∧ PairW p q r m sz w t M n' [some (.ref p), some (.int m), some (.int sz), some (.int w), some (.ref q), some (.ref r), none, none] (up (up (up M p o9) q (.lst (natsD f))) r (.lst (D.int b :: natsD l))) :=
        fun o9 t9 h9 ht9 => ⟨l.length + 1, by omega, f, b :: l, o9, t9, by simp, hf, hfl, hnd2, fun x hx => hfix x (List.mem_cons_of_mem _ hx), by simp; omega, by simp; omega, h9, rfl, rfl⟩
      have fin2 : ∀ o9 t9, MillO o9 t9 → t9 ≤ t' + 4 → ¬ z = a → ∃ j, placeD (.int z) (D.int b :: natsD l) = some j ∧ ∃ n', n' < l.length + 1 + 1 ∧ PairW p q r m sz w t M n' [some (.ref p), some (.int m), some (.int sz), some (.int w), some (.ref q), some (.ref r), none, none]
          (up (up (up M p o9) q (.lst (((natsD f).set a (.int z)).set z (.int a)))) r (.lst ((D.int b :: natsD l).eraseIdx j))) := by
        intro o9 t9 h9 ht9 hza
        have hz2 : z ∈ b :: l := (List.mem_cons.mp hzm).resolve_left hza
        obtain ⟨j, hj, hn9, hl9, hx9⟩ := remove_at hz2 hnd2
        refine ⟨j, by rw [← natsD_cons, placeD_natsD, hj], ((b :: l).eraseIdx j).length, by simp at hl9; omega, (f.set a z).set z a, (b :: l).eraseIdx j, o9, t9, rfl, hf.swap ha (hfix z hzm) (fun e => hza e.symm), by simp [hfl], hn9, ?_, by simp at hl9; omega, by simp at hl9; omega, h9, rfl, by rw [← natsD_cons, natsD_set, natsD_set, natsD_erase]⟩
        intro x hx
        obtain ⟨hxm, hxz⟩ := hx9 x hx
        have hxa : a ≠ x := fun e => by subst e; exact hna hxm
        rw [List.getElem?_set_ne (Ne.symm hxz), List.getElem?_set_ne hxa]
        exact hfix x (List.mem_cons_of_mem _ hxm)
      have la : a < f.length := (List.getElem?_eq_some_iff.mp ha).1
      have lz : z < f.length := (List.getElem?_eq_some_iff.mp (hfix z hzm)).1
      by_cases c4 : w = 4
      · subst c4
        simp
        refine sp_get (hap ..) hb4 (by omega) (by omega) (by omega) fun r3 o5 g5 g6 hb5 => ?_
        rw [hcm]
        by_cases c5 : 0 < r3
        · simp [c5]
          exact fin _ _ hb5 (by omega)
        · simp [c5]
          by_cases hza : z = a
          · have hza' : (z : Int) = a := by omega
            simp [hza, hza']
            exact fin _ _ hb5 (by omega)
          · have hza' : ¬ (z : Int) = a := by omega
            obtain ⟨j, hj, hfin⟩ := fin2 _ _ hb5 (by omega) hza
            simp [hza, hza', hj, up_ne (Ne.symm nrq), la, lz, up_comm nrq]
            exact hfin
      · simp [c4]
        by_cases c3 : w = 3
        · subst c3
          simp
          refine sp_get (hap ..) hb4 (by omega) (by omega) (by omega) fun r3 o5 g5 g6 hb5 => ?_
          rw [hcm]
          by_cases c5 : r3 = 0
          · simp [c5]
            exact fin _ _ hb5 (by omega)
          · simp [c5]
            by_cases hza : z = a
            · have hza' : (z : Int) = a := by omega
              simp [hza, hza']
              exact fin _ _ hb5 (by omega)
            · have hza' : ¬ (z : Int) = a := by omega
              obtain ⟨j, hj, hfin⟩ := fin2 _ _ hb5 (by omega) hza
              simp [hza, hza', hj, up_ne (Ne.symm nrq), la, lz, up_comm nrq]
              exact hfin
        · simp [c3]
          by_cases hza : z = a
          · have hza' : (z : Int) = a := by omega
            simp [hza, hza']
            exact fin _ _ hb4 (by omega)
          · have hza' : ¬ (z : Int) = a := by omega
            obtain ⟨j, hj, hfin⟩ := fin2 _ _ hb4 (by omega) hza
            simp [hza, hza', hj, up_ne (Ne.symm nrq), la, lz, up_comm nrq]
            exact hfin
    · have hl2 : ¬ (1 : Int) < l.length := by omega
      simp [hl1, hl2, up_ne (Ne.symm nrq)]
      refine ⟨up M p o', fun c x e => ?_, h f o' hf (by omega) (by omega) (hbo.mono (by omega))⟩
      have hcp : up M p o' q = none := by rw [up_ne nqp]; exact hq'
      have hcr : up M p o' r = none := by rw [up_ne nrp]; exact hr'
      have c1 : c ≠ q := fun z => by rw [z, hcp] at e; cases e
      have c2 : c ≠ r := fun z => by rw [z, hcr] at e; cases e
      rw [up_ne c2, up_ne c1]; exact e
  · intro x hx
    have := List.mem_range.mp hx
    exact List.getElem?_range this
end Pw
set_option Elab.async false
set_option linter.all false
set_option maxRecDepth 100000
set_option maxHeartbeats 2000000
namespace Pw
open PySem PySem.Spec PyProof.Rows L2
theorem pairsOf_mapK : ∀ {l : List (List Nat)}, pairsOf (l.map fun f => D.tup [stcD f, D.bl true]) = some (l.map fun f => stI f)
  | [] => rfl
  | r :: l => by
    rw [List.map_cons, stcD, pairsOf, intsOf_map, pairsOf_mapK]; rfl
theorem asc_nodup {k : Nat} {L : List (List Nat)} (h : AscN k L) : L.Nodup := by
  rw [List.nodup_iff_pairwise_ne, List.pairwise_iff_getElem]
  intro i j hi hj hij e
  obtain ⟨_, h1⟩ := h i _ (List.getElem?_eq_getElem hi)
  obtain ⟨_, h2⟩ := h j _ (List.getElem?_eq_getElem hj)
  rw [← e] at h2
  have := h1.det List.nodup_range h2
  omega
theorem law_goal : ∀ ns : List Int, ns.length ≤ 63 → run PG (40 + 1) "law" [.scr (ns.map D.int)] (fun _ => none) (fun d _ => d = .bl true) fun _ _ => False := by
  intro ns hns
  rw [run_law]
  simp [f_law, t_law]
  have en : eqD (.lst []) (.lst []) = true := by rw [eqD_lnil]; rfl
  refine forL_rng2 (n := 7) (I := fun j δ M' => δ = [some (.scr (ns.map D.int)), none, none, none, none, none, none]) ?_ ?_ rfl
  · rintro j δ M hj rfl
    refine ⟨trivial, fun k hk => ?_⟩
    simp
    have e1 : (1 + (j : Int)) = ((1 + j : Nat) : Int) := by omega
    rw [e1]
    generalize hs : 1 + j = s
    have hs1 : 1 ≤ s := by omega
    have hs2 : s ≤ 7 := by omega
    refine sp_all_paired s (by omega) (by omega) fun L hL hLl => ?_
    have hI : ∀ f ∈ L, InvN f ∧ f.length = s := fun f hf => by
      obtain ⟨i, hi⟩ := List.mem_iff_getElem?.mp hf
      exact (hL i f hi).1
    have hcl : cI s ≤ 1000 := by
      have : ∀ s ∈ List.range 8, cI s ≤ 1000 := by decide
      exact this s (List.mem_range.mpr (by omega))
    simp
    refine compL_filter L tupN (fun _ => false) tupN trivial ?_ ?_
    · intro f hf acc kk k1 k0
      obtain ⟨g1, g2⟩ := hI f hf
      simp [tupN]
      refine sp_law_right g1 (by omega) (by omega) ?_
      simp
      exact k0 rfl
    have e0 : L.filter (fun _ => false) = [] := List.filter_eq_nil_iff.mpr fun _ _ => by simp
    rw [e0]
    simp [en]
    refine compL_map L tupN (fun f => D.tup [stcD f, D.bl true]) trivial ?_ ?_
    · intro f hf acc kk hkk
      obtain ⟨g1, g2⟩ := hI f hf
      simp [tupN]
      refine sp_stair_of_involutionX g1 (by omega) (by omega) ?_
      simp
      exact hkk
    have hnd := asc_nodup hL
    have hnd2 : (L.map fun f => stI f).Nodup := by
      rw [List.nodup_iff_pairwise_ne] at hnd ⊢
      rw [List.pairwise_map]
      refine hnd.imp_of_mem fun {a b} ha hb hab e => hab ?_
      obtain ⟨a1, a2⟩ := hI a ha
      obtain ⟨b1, b2⟩ := hI b hb
      have e2 : ntI a = ntI b := by rw [← back_stI a1 (by omega), ← back_stI b1 (by omega), e]
      have e3 := congrArg (List.map Int.toNat) e2
      rwa [toNat_ntI, toNat_ntI] at e3
    simp only [ldctD, pairsOf_mapK]
    refine ⟨hnd2, by simp; omega, ?_⟩
    simp
    exact hk _ _ rfl
  · rintro δ M rfl
    refine ⟨trivial, ?_⟩
    simp
    have hcnt : ∀ c : Int, 0 ≤ c → (1 ≤ (if 1 < if c < 4 then c else 4 then if c < 4 then c else 4 else 1)) ∧ (if 1 < if c < 4 then c else 4 then if c < 4 then c else 4 else 1) ≤ 8 := by
      intro c hc
      by_cases h1 : c < 4
      · simp only [h1, if_true]; split <;> omega
      · simp only [h1, if_false]; decide
    have hcn := hcnt ns.length (by omega)
    generalize (if 1 < if (ns.length : Int) < 4 then (ns.length : Int) else 4 then if (ns.length : Int) < 4 then (ns.length : Int) else 4 else 1) = c at hcn ⊢
    refine ⟨by omega, by omega, ?_⟩
    refine forL_rng (I := fun j δ M' => δ = [some (.scr (ns.map D.int)), none, none, none, none, none, none]) ?_ ?_ rfl
    · rintro j δ M hj rfl
      refine ⟨trivial, fun k hk => ?_⟩
      simp
      refine sp_stock (by omega) (by omega) fun p o hp hb => ?_
      simp
      refine forL_list (I := fun i δ M' => ∃ o' t', MillO o' t' ∧ t' ≤ 5000 * i ∧ M' p = some o' ∧ δ = [some (.scr (ns.map D.int)), none, none, none, some (.int j), some (.ref p), none]) ?_ ?_ ⟨o, 0, hb, by omega, by simp, rfl⟩
      · rintro i x δ M1 hx hi ⟨o', t', hbo, ht', hpo, rfl⟩
        refine ⟨trivial, fun k1 hk1 => ?_⟩
        have hi2 : i < 3 := by simpa using hi
        obtain ⟨m, rfl, hm1, hm2⟩ : ∃ m : Int, x = .int m ∧ 0 < m ∧ m ≤ 60 := by
          have : i = 0 ∨ i = 1 ∨ i = 2 := by omega
          rcases this with rfl | rfl | rfl <;> simp at hx <;> subst hx
          · exact ⟨60, rfl, by omega, by omega⟩
          · exact ⟨60, rfl, by omega, by omega⟩
          · exact ⟨12, rfl, by omega, by omega⟩
        simp
        refine sp_paired (o := o') hpo hbo (by omega) (by omega) (by omega) fun f o2 hf hf1 hf2 hb2 => ?_
        simp
        refine sp_law_right hf hf1 (by omega) ?_
        simp
        exact hk1 _ _ ⟨o2, _, hb2, by omega, by simp, rfl⟩
      · rintro δ M1 ⟨o', t', hbo, ht', hpo, rfl⟩
        refine ⟨trivial, ?_⟩
        simp
        exact hk _ _ rfl
    · rintro δ M rfl
      refine ⟨trivial, ?_⟩
      simp
      have s0 : stI [3, 1, 4, 0, 2] = [0, 1, 0, 2, 1] := by decide
      have s1 : stI [0] = [0] := by decide
      have e3 : D.tup [D.int 3, D.int 1, D.int 4, D.int 0, D.int 2] = .tup (natsD [3, 1, 4, 0, 2]) := rfl
      have e0 : D.tup [D.int 0] = .tup (natsD [0]) := rfl
      rw [e3]
      refine sp_stair_of_involutionX (invF_iff.mp (by decide)) (by decide) (by decide) ?_
      simp [stcD, s0]
      rw [e0]
      refine sp_stair_of_involutionX (invF_iff.mp (by decide)) (by decide) (by decide) ?_
      simp [stcD, s1]
      exact Lv.here (by decide)
end Pw
set_option Elab.async false
set_option linter.all false
set_option maxRecDepth 100000
set_option maxHeartbeats 0
open PySem PySem.Spec PyProof.Rows L2

namespace Pw
theorem ok_prg : prg.okB = true := by decide +kernel
def loose0 : List Str := ["CountError", "InvalidInvolution", "is_int", "in_range", "MOST_ENTRIES", "is_involution", "require_involution", "insert", "stair_by", "stair_in", "stair_of_involution", "_law_stock", "_law_get", "_law_size", "_law_paired", "_law_insertion", "_law_all_paired", "_law_longest", "_law_right"]
def loose : List Str := loose0
abbrev Rw : PySem.W.OpenRow := PySem.W.OpenLaw.row PySem.Challenge.rw_runningcount_k13_stairs_of_involutions
abbrev hkP : PySem.W.Hook := hookP 4 prg.fa prg.fnD prg.gc
def obP (s : PySem.W.SharedT) : AlP := obsPG 4 prg.fa prg.fnD prg.gc (HandSHeadRun.getT s)
theorem obP_eq (s : PySem.W.SharedT) : obP s = hkP.obs s.abs := obsPG_eq (HandSHeadRun.getT_eq s)
theorem runP (w : World) : HandSHeadRun.RunEq Rw (PySem.W.view Rw.prog [23]) hkP obP 6000 loose w := by
  intro os
  kernel_rfl
theorem bi_all (K : PySem.W.Frag) : ∀ f ∈ prg.dfs, ∀ fd, FunD K f.d.name f.d.qual f.d.params f.d.body f.d.scope (f.d.dvs K) (f.d.kws K) (He.fAd K f.d.at_) fd → BindOk K f fd := by
  intro f hf fd F
  simp only [prg, List.mem_cons, List.not_mem_nil, or_false] at hf
  rcases hf with rfl | rfl | rfl | rfl | rfl | rfl | rfl | rfl | rfl | rfl | rfl | rfl | rfl | rfl | rfl | rfl | rfl
  · exact bi_is_int F
  · exact bi_in_range F
  · exact bi_is_involution F
  · exact bi_require_involution F
  · exact bi_insert F
  · exact bi_stair_by F
  · exact bi_stair_in F
  · exact bi_stair_of_involution F
  · exact bi__law_stock F
  · exact bi__law_get F
  · exact bi__law_size F
  · exact bi__law_paired F
  · exact bi__law_insertion F
  · exact bi__law_all_paired F
  · exact bi__law_longest F
  · exact bi__law_right F
  · exact bi_law F
end Pw
open PySem PySem.W PySem.Calls PyProof.Rows
theorem PySem.Challenge.cw_runningcount_k13_stairs_of_involutions_holds : PySem.Challenge.rw_runningcount_k13_stairs_of_involutions.Holds := by
  w_on; o_law
  refine HandSHeadRun.head_any (r := OpenLaw.row PySem.Challenge.rw_runningcount_k13_stairs_of_involutions) (q := view (OpenLaw.row PySem.Challenge.rw_runningcount_k13_stairs_of_involutions).prog [23]) (H := Pw.hkP) (ob := Pw.obP) (M := 6000) (loose := Pw.loose) (d := HandSHeadRun.topDef (OpenLaw.row PySem.Challenge.rw_runningcount_k13_stairs_of_involutions).prog 23) (kwd := []) Pw.obP_eq
    (by kernel_rfl) (fun s => by kernel_rfl) Pw.runP (by kernel_rfl) (by kernel_rfl) (by kernel_rfl) (by rfl) (by first | assumption | decide +kernel) (by decide +kernel) ⟨rfl, rfl, rfl, rfl, rfl, by decide +kernel⟩ ?hw ?hc
  case hw => w_witness2
  case hc =>
    refine Pw.law_end (l := PySem.Challenge.rw_runningcount_k13_stairs_of_involutions) (n := 63) (k := 40) (m := 0) Pw.prg "_law_script" rfl (by decide) (by kernel_rfl) ⟨⟨rfl, by decide, by decide⟩, rfl⟩ (by kernel_rfl) Pw.ok_prg Pw.bi_all rfl ?goal
    case goal =>
      rw [Pw.prg_fns]
      exact Pw.law_goal
