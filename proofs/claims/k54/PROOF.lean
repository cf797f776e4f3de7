import PyProof.Rows.All
import Wide.All
import OpenK.AllK
import Wide.FinOn
import KE.KStateDown
import HandS.Head0
import HandS.Head1
import HandS.Head2
import HandS.HeadEnd
import HandS.ForMost
import HandS.ForExc
import HandS.Text
import HandS.StrMore
import PyProof.StrBlock2
import HandS.HeadHook1
import HandS.Wide
import HandS.TupMul
import HandS.TupAny
import HandS.Defaults
import HandS.IsInst
import HandS.Rev
import HandS.Conv
import HandS.SortInts
import HandS.WordsExc
import HandS.HeadHook2
import KE.IntBitsLaws
import KE.DataEq
import KE.DataFind
import HandS.Dict
import HandS.Iter
import HandS.TupSets
import HandS.Style
import HandS.More
import HandS.WordsDict
import HandS.Small
import KE.DataMinMax
import KE.SortData
import KE.DataCmp
import PyProof.ReprReads
import KE.KTupSum
import HandS.RaiseMore
import KE.SortLaws
import HandS.SetKeys
import KE.KIndexOf
import HandS.WideMore
import KE.GoesEnum
import KE.GoesZip
import HandS.Zip
import KE.GoesMore
import HandS.SetFor
import HandS.Strs
import HandS.SetTxt0
import PyProof.Rows.SortShellAny
import HandS.DictComp
import HandS.ExcIs
import HandS.ExcValue
import HandS.Star
import KE.KDictKeyed
import KE.KDictPairs
import PyProof.Rows.SeqRoads
import PyProof.SetRoads
import HandS.SortKw
import KE.KDictSum
import HandS.Ends
import HandS.HeadHook4
import PyProof.ExcBaseAll.ValueError
import PySem.Challenge.RW_runningcount_k54_labels
import PyProof.FitsInt
import PyProof.StrLawsRepr
set_option Elab.async false
set_option linter.all false
set_option maxRecDepth 100000
/-! A small calculus over the layer L2: values with tuples and settled lists as data (D), a partial heap of what may change (Mp), programs as terms (T), and what is wanted ahead of a term (wpE, wpS ..). -/
namespace Pw
open PySem PySem.Spec PyProof.Rows L2

inductive D where
  | non | bl (b : Bool) | int (i : Int) | str (x : Str)
  | tup (xs : List D) | lst (xs : List D) | dic (kvs : List (Key × D))
  | ref (a : Addr) | ty (n : String) | exc (c : Str) | scr (xs : List D)

/-- what may change -/
inductive DO where
  | lst (xs : List D) | dic (kvs : List (Key × D)) | dicT (lk : Option Obj) (kvs : List (List Int × D)) | dicL (o : Obj) (kvs : List (Key × D)) | ins (c : Str) (fs : List (Str × D))

abbrev Mp := Addr → Option DO
def up (M : Mp) (a : Addr) (o : DO) : Mp := fun b => if b = a then some o else M b
def del (M : Mp) (a : Addr) : Mp := fun b => if b = a then none else M b
def Sub (M' M : Mp) : Prop := ∀ a o, M' a = some o → M a = some o

theorem up_same {M : Mp} {a : Addr} {o : DO} : up M a o a = some o := if_pos rfl
theorem up_ne {M : Mp} {a b : Addr} {o : DO} (h : b ≠ a) : up M a o b = M b := if_neg h
theorem up_up {M : Mp} {a : Addr} {o o' : DO} : up (up M a o) a o' = up M a o' := by
  funext b; unfold up; split <;> rfl
theorem up_old {M : Mp} {a b : Addr} {o : DO} {x : DO} (h : M b = some x) (n : M a = none) : up M a o b = some x := by
  rw [up_ne (fun e => by rw [e, n] at h; cases h)]; exact h
theorem Sub.refl {M : Mp} : Sub M M := fun _ _ h => h
theorem Sub.trans {M1 M2 M3 : Mp} (h : Sub M1 M2) (h' : Sub M2 M3) : Sub M1 M3 := fun a o e => h' a o (h a o e)
theorem Sub.up {M : Mp} {a : Addr} {o : DO} (h : M a = none) : Sub M (up M a o) := fun b x e => up_old e h
theorem Sub.up2 {M' M : Mp} {a : Addr} {o : DO} (s : Sub M' M) (h : M' a = none) : Sub M' (Pw.up M a o) := fun b x e => by
  rw [up_ne (fun z => by rw [z, h] at e; cases e)]; exact s b x e
theorem Sub.del {M : Mp} {a : Addr} : Sub (del M a) M := fun b x e => by
  unfold Pw.del at e; split at e
  · cases e
  · exact e

/-- the script: read, never written -/
def SqS (K : PySem.W.Frag) (H : Hp) (a : Addr) (xs : List V) : Prop := (∃ o, H a = some (.frz o (.lst xs))) ∨
  ∃ (o : Obj) (its : Array Value) (n : Nat), K.lookup a = some o ∧ o.cls = .type "list" ∧ o.dict = none ∧ o.data = .seq its n ∧ its.size ≤ sizeLine ∧ Vals xs its.toList
theorem SqS.sq {K : PySem.W.Frag} {H : Hp} {a : Addr} {xs : List V} (h : SqS K H a xs) : SqL K H a xs := h.elim (fun ⟨o, h⟩ => .inl (.inr ⟨o, h⟩)) .inr
/-- a tuple whose object is known -/
def SqF (K : PySem.W.Frag) (H : Hp) (a : Addr) (xs : List V) : Prop := (∃ o, H a = some (.frz o (.tup xs)) ∧ o.dict = none) ∨
  ∃ (o : Obj) (its : Array Value) (n : Nat), K.lookup a = some o ∧ o.cls = .type "tuple" ∧ o.dict = none ∧ o.data = .seq its n ∧ its.size ≤ sizeLine ∧ Vals xs its.toList
theorem SqF.sq {K : PySem.W.Frag} {H : Hp} {a : Addr} {xs : List V} (h : SqF K H a xs) : SqT K H a xs := by
  rcases h with ⟨o, h, _⟩ | ⟨o, its, n, h1, h2, _, h4, h5, h6⟩
  · exact .inl (.inr ⟨o, h⟩)
  · exact .inr ⟨o, its, n, h1, h2, h4, h5, h6⟩
/-- an exception object of the class cls, at a -/
def ExcHv (cls : Value) (a : Addr) : HO := .ext fun h => ∃ (oe : Obj) (vs : Array Value), h.get? a = some oe ∧ Zc cls none oe ∧ oe.data = .fields vs
def ExcH (K : PySem.W.Frag) (c : Str) (a : Addr) : HO := ExcHv (.ref (He.ga K c)) a
/-- is an exception of the class c one of t -/
def excIs (c t : Str) : Bool := decide (t = c) || (decide (t = ("CountError" : Str)) || decide (t = ("ValueError" : Str)))
mutual
/-- d is v, in the heap H where M may change -/
def RV (K : PySem.W.Frag) (M : Mp) (H : Hp) : D → V → Prop
  | .non, v => v = .non
  | .bl b, v => v = .bl b
  | .int i, v => v = .int i
  | .str x, v => v = .str x
  | .tup ds, v => ∃ a vs, v = .ref a ∧ SqF K H a vs ∧ RVs K M H ds vs
  | .lst ds, v => ∃ a vs, v = .ref a ∧ H a = some (.lst vs) ∧ M a = none ∧ RVs K M H ds vs
  | .dic kvs, v => ∃ a us, v = .ref a ∧ H a = some (.dK us) ∧ M a = none ∧ RKs K M H kvs us
  | .ref a, v => v = .ref a
  | .ty n, v => v = .ty n
  | .exc c, v => ∃ a, v = .ref a ∧ H a = some (ExcH K c a) ∧ M a = none
  | .scr ds, v => ∃ a vs, v = .ref a ∧ SqS K H a vs ∧ RVs K M H ds vs
def RVs (K : PySem.W.Frag) (M : Mp) (H : Hp) : List D → List V → Prop
  | [], vs => vs = []
  | d :: ds, vs => ∃ v r, vs = v :: r ∧ RV K M H d v ∧ RVs K M H ds r
def RKs (K : PySem.W.Frag) (M : Mp) (H : Hp) : List (Key × D) → List (Key × V) → Prop
  | [], vs => vs = []
  | (k, d) :: ds, vs => ∃ v r, vs = (k, v) :: r ∧ RV K M H d v ∧ RKs K M H ds r
end

/-- the attributes of an instance -/
def RFs (K : PySem.W.Frag) (M : Mp) (H : Hp) : List (Str × D) → List (Str × V) → Prop
  | [], vs => vs = []
  | (f, d) :: ds, vs => ∃ v r, vs = (f, v) :: r ∧ RV K M H d v ∧ RFs K M H ds r
/-- the hash of a tuple of whole numbers -/
def HT (ks : List Int) : Int := reduceHash (Builtin.Tuple.tupleHashOf (ks.map hashInt))
/-- a dict with keys that are tuples of whole numbers -/
def KQ (trip : List (List Int × Addr × V)) (xs : List (List Int × Addr × Value)) : Prop := Paired (fun p q => p.1 = q.1 ∧ p.2.1 = q.2.1 ∧ RelV p.2.2 q.2.2) trip xs
def DT0 (h : Heap) (a : Addr) (trip : List (List Int × Addr × V)) : Prop := (a == sysModules) = false ∧ ∃ xs : List (List Int × Addr × Value), KQ trip xs ∧
  ∃ o es ep, h.get? a = some o ∧ o.ExactDict ∧ o.data = .dict es ep ∧ es.toList = xs.map (fun x => (⟨HT x.1, .ref x.2.1, x.2.2⟩ : DictEntry)) ∧ (xs.map (·.1)).Nodup
def DictT (a : Addr) (trip : List (List Int × Addr × V)) : HO := .ext fun h => DT0 h a trip
def RTs (K : PySem.W.Frag) (M : Mp) (H : Hp) : List (List Int × D) → List (List Int × Addr × V) → Prop
  | [], ts => ts = []
  | (k, d) :: r, ts => ∃ q v t, ts = (k, q, v) :: t ∧ SqF K H q (k.map V.int) ∧ RV K M H d v ∧ RTs K M H r t
def lkO (lk : Option Obj) (u : HO) : HO := match lk with
  | none => u
  | some o => .frz o u
def RO (K : PySem.W.Frag) (M : Mp) (H : Hp) (a : Addr) : DO → Prop
  | .lst ds => ∃ vs, H a = some (.lst vs) ∧ RVs K M H ds vs
  | .dic kvs => ∃ us, H a = some (.dK us) ∧ RKs K M H kvs us
  | .dicL o kvs => ∃ us, H a = some (.frz o (.dK us)) ∧ RKs K M H kvs us
  | .dicT lk kvs => ∃ trip, H a = some (lkO lk (DictT a trip)) ∧ RTs K M H kvs trip
  | .ins c fs => ∃ dx us, H a = some (.ins (He.ga K c) dx us) ∧ RFs K M H fs us ∧ Cls K (He.ga K c) ∧ ∀ f d, (f, d) ∈ fs → NoAttr K (He.ga K c) f
def RM (K : PySem.W.Frag) (M : Mp) (H : Hp) : Prop := ∀ a o, M a = some o → RO K M H a o

/-- what stays: what is tracked and may not change -/
def Ext (M : Mp) (H : Hp) (M' : Mp) (H' : Hp) : Prop := ∀ a o, H a = some o → M a = none → H' a = some o ∧ M' a = none

/-! ### terms -/
inductive BinO where
  | add | sub | mul | fdiv | mod | pow
  deriving DecidableEq
inductive CmpO where
  | eq | ne | lt | le | gt | ge | is_ | isnot | in_ | notin
  deriving DecidableEq
/-- built-in functions and types, called -/
inductive BF where
  | len | max | min | sum | all | any | int | str | repr | list | tuple | sorted | divmod | abs
  deriving DecidableEq
/-- methods of built-in types -/
inductive MF where
  | append | pop | insert | remove | index | count | extend | clear | reverse | get | setdefault | join | split | strip | upper
  deriving DecidableEq

inductive T where
  | nil | cons (a r : T)
  | var (i : Nat) | lit (d : D)
  | bin (m : Bool) (op : BinO) (a b : T) | neg (a : T)
  | not (a : T) | and (a b : T) | or (a b : T) | tst (a : T)
  | cmp (op : CmpO) (a b : T) | chain (o1 o2 : CmpO) (a b c : T) | ite (c a b : T)
  | tup (es : T) | lst (m : Bool) (es : T) | dct (tk : Bool)
  | dctT
  | call (f : String) (es : T) (dfl : List D) | callk (f : String) (es : T) (x : Str) (e : T)
  | blt (m : Bool) (f : BF) (es : T) | isi (e : T) (tys : List String)
  | conv (m : Bool) (l : Bool) (e : T) | convr (m : Bool) (l : Bool) (es : T) | convv (e : T)
  | meth (m : Bool) (f : MF) (o es : T)
  | idx (a i : T) | slc (m : Bool) (a lo hi : T) | revs (m : Bool) (a : T)
  | sset (m : Bool) (a : T)
  | srtv (m : Bool) (a : T)
  | ldct (a : T)
  | lset (a : T)
  | attr (f : Str) (o : T)
  | mcall (key : String) (c m : Str) (o es : T)
  | make (key : String) (c : Str) (es : T)
  | comp (m : Bool) (own : List Nat) (elt t it ifs : T)
  | comp2 (m : Bool) (own own2 : List Nat) (elt t it ifs t2 it2 ifs2 : T)
  | tups (es : T) | star (a r : T)
  | dc1 (m : Bool) (own : List Nat) (kx vx t it ifs : T)
  | dc2 (m : Bool) (own own2 : List Nat) (kx vx t it ifs t2 it2 ifs2 : T)
  | isx (xs : List Str) (e : T) (cs : List Str)
  | frz (e : T)
  | ival (e : T) | irng (es : T) | ienum (e : T) | izip (es : T) | irev (e : T) | itk (e : T) | iitm (e : T) | ivls (e : T)
  | gname (i : Nat) | gtup (gs : T) | gsub (o i : T)
  | asg (g e : T) | par (is : List Nat) (es : T) | aug (op : BinO) (i : Nat) (e : T) | augs (op : BinO) (o i e : T)
  | doc | expr (e : T) | ret (e : T) | retn | ifs (c a b : T) | for_ (clr : List Nat) (g it body : T) | while_ (clr : List Nat) (c body : T)
  | pass | brk | cont | raise (c : Str) (m : Str)
  | tryx (xs : List Str) (c : Str) (i j : Nat) (body : T)
  | sattr (c f : Str) (o a : T)

abbrev St := List (Option D)
abbrev DK := D → Mp → Prop
abbrev XD := Str → St → Mp → Prop
abbrev SpD := List D → Mp → DK → (Str → Mp → Prop) → Prop
/-- the greatest length of a list, a tuple, a text -/
abbrev LIM : Nat := 16777216
/-- a new list, which may change (m) or not -/
def mkN (m : Bool) (ds : List D) (M : Mp) (Q : DK) : Prop := match m with
  | true => ∀ p, M p = none → Q (.ref p) (up M p (.lst ds))
  | false => Q (.lst ds) M
def mkL (m : Bool) (ds : List D) (M : Mp) (Q : DK) : Prop := ds.length ≤ LIM ∧ mkN m ds M Q
/-- a new dict, which may change (m) or not -/
def mkND (m : Bool) (kvs : List (Key × D)) (M : Mp) (Q : DK) : Prop := match m with
  | true => ∀ p, M p = none → Q (.ref p) (up M p (.dic kvs))
  | false => Q (.dic kvs) M
/-- a list of the program's own making -/
def lstM (M : Mp) : D → Option (List D)
  | .lst ds => some ds
  | .ref a => (match M a with
    | some (.lst ds) => some ds
    | _ => none)
  | _ => none
def lstOf (M : Mp) : D → Option (List D)
  | .lst ds => some ds
  | .scr ds => some ds
  | .ref a => (match M a with
    | some (.lst ds) => some ds
    | _ => none)
  | _ => none
def seqOf (M : Mp) : D → Option (List D)
  | .tup ds => some ds
  | d => lstOf M d
def chars (x : Str) : List D := x.cps.toList.map fun c => .str ⟨#[c]⟩
def intOf : D → Option Int
  | .int i => some i
  | _ => none
def intsOf : List D → Option (List Int)
  | [] => some []
  | d :: ds => (match intOf d, intsOf ds with
    | some i, some is => some (i :: is)
    | _, _ => none)
def tupsOf : List D → Option (List (List Int))
  | [] => some []
  | .tup xs :: ds => (match intsOf xs, tupsOf ds with
    | some r, some rs => some (r :: rs)
    | _, _ => none)
  | _ :: _ => none
/-- pairs of a tuple of whole numbers and True -/
def pairsOf : List D → Option (List (List Int))
  | [] => some []
  | .tup [.tup xs, .bl true] :: ds => (match intsOf xs, pairsOf ds with
    | some r, some rs => some (r :: rs)
    | _, _ => none)
  | _ :: _ => none
/-- rows of one length, in order -/
def ascT (rs : List (List Int)) : Prop := rs.Pairwise (fun a b => a ≤ b) ∧ ∃ k, ∀ r ∈ rs, r.length = k + 1
def blsOf : List D → Option (List Bool)
  | [] => some []
  | .bl b :: ds => (match blsOf ds with
    | some is => some (b :: is)
    | _ => none)
  | _ => none
def strsOf : List D → Option (List Str)
  | [] => some []
  | .str b :: ds => (match strsOf ds with
    | some is => some (b :: is)
    | _ => none)
  | _ => none

mutual
/-- data, as the library has it -/
def toP : D → PyData
  | .non => .none | .bl b => .bool b | .int i => .int i | .str x => .str x
  | .tup ds => .tuple (toPs ds) | .lst ds => .list (toPs ds) | .dic kvs => .dict (toPk kvs)
  | .ref _ => .none | .ty _ => .none | .exc _ => .none | .scr ds => .list (toPs ds)
def toPs : List D → List PyData
  | [] => []
  | d :: ds => toP d :: toPs ds
def toPk : List (Key × D) → List (PyData × PyData)
  | [] => []
  | (k, d) :: ds => ((match k with
    | .inl i => .int i
    | .inr x => .str x), toP d) :: toPk ds
end
mutual
/-- nothing but data, n deep at most; w: dicts may be within -/
def isD (w : Bool) : D → Nat → Bool
  | .non, _ | .bl _, _ | .int _, _ | .str _, _ => true
  | .tup ds, n | .lst ds, n => (match n with
    | 0 => false
    | n + 1 => isDs w ds n)
  | .dic kvs, n => w && (match n with
    | 0 => false
    | n + 1 => isDk w kvs n)
  | .ref _, _ | .ty _, _ | .exc _, _ | .scr _, _ => false
def isDs (w : Bool) : List D → Nat → Bool
  | [], _ => true
  | d :: ds, n => isD w d n && isDs w ds n
def isDk (w : Bool) : List (Key × D) → Nat → Bool
  | [], _ => true
  | (_, d) :: ds, n => isD w d n && isDk w ds n
end
/-- a list that may change, seen as data -/
def see (M : Mp) : D → D
  | .ref a => (match M a with
    | some (.lst ds) => .lst ds
    | some (.dic kvs) => .dic kvs
    | _ => .ref a)
  | d => d
/-- == of data -/
def eqD (x y : D) : Bool := PyData.eqv (toP x) (toP y)
def eqOk (x y : D) : Bool := isD false x 30 && isD false y 30
/-- a tuple, whatever stands in it, against () -/
def eq0 : D → D → Bool
  | .tup xs, .tup [] => isD true (.tup xs) 30
  | _, _ => false
def eqOkE (x y : D) : Bool := eqOk x y || eq0 x y
/-- truth -/
def tru (M : Mp) (d : D) : Option Bool := match see M d with
  | .non => some false
  | .bl b => some b
  | .int i => some (i != 0)
  | .tup ds => some (!ds.isEmpty)
  | .lst ds => some (!ds.isEmpty)
  | .scr ds => some (!ds.isEmpty)
  | .dic ds => some (!ds.isEmpty)
  | _ => none
def nm (d : D) : Option String := match d with
  | .non => some "NoneType" | .bl _ => some "bool" | .int _ => some "int" | .str _ => some "str" | .tup _ => some "tuple" | .lst _ => some "list" | .scr _ => some "list" | .dic _ => some "dict"
  | _ => none
def isI1 (n t : String) : Bool := n == t || (n == "bool" && t == "int")
/-- a product that may be reckoned -/
def MulOk (i j : Int) : Prop := ∃ a b : Nat, i.natAbs < 2 ^ a ∧ j.natAbs < 2 ^ b ∧ 0 < a ∧ 0 < b ∧ a + b ≤ 1000000
def PowOk (i j : Int) : Prop := 0 ≤ j ∧ ∃ a : Nat, i.natAbs < 2 ^ a ∧ 0 < a ∧ (a : Int) * j ≤ 1000000
def DivOk (j : Int) : Prop := 0 < j ∧ ∃ a : Nat, j.natAbs < 2 ^ a ∧ 0 < a ∧ a ≤ 9000
/-- xs[i]: the place -/
def ixAt (n : Nat) (i : Int) : Option Nat := if 0 ≤ i then (if i < n then some i.toNat else none) else if -(n : Int) ≤ i then some (i + n).toNat else none
def atD (xs : List D) (i : Int) : Option D := (ixAt xs.length i).bind fun j => xs[j]?
def rep (n : Int) (xs : List D) : List D := (List.replicate n.toNat xs).flatten

def bop (m : Bool) (op : BinO) (x y : D) (M : Mp) (Q : DK) : Prop := match op with
  | .add => (match x, y with
    | .int i, .int j => Q (.int (i + j)) M
    | .str a, .str b => a.length + b.length ≤ LIM ∧ Q (.str (a ++ b)) M
    | .tup a, .tup b => a.length + b.length ≤ LIM ∧ Q (.tup (a ++ b)) M
    | x, y => (match lstM M x, lstM M y with
      | some a, some b => mkL m (a ++ b) M Q
      | _, _ => False))
  | .sub => (match x, y with
    | .int i, .int j => Q (.int (i - j)) M
    | _, _ => False)
  | .mul => (match x, y with
    | .int i, .int j => MulOk i j ∧ Q (.int (i * j)) M
    | .tup a, .int j => a ≠ [] ∧ -1000 ≤ j ∧ j ≤ 1000 ∧ a.length ≤ 1000 ∧ Q (.tup (rep j a)) M
    | .str a, .int j => 2 ≤ j ∧ j ≤ 10000 ∧ a.length ≤ 1000 ∧ Q (.str (Txt.mul a j)) M
    | x, .int j => (match lstM M x with
      | some a => -(2 ^ 62) ≤ j ∧ j < 2 ^ 62 ∧ a.length * j.toNat ≤ LIM ∧ mkN m (rep j a) M Q
      | _ => False)
    | _, _ => False)
  | .fdiv => (match x, y with
    | .int i, .int j => DivOk j ∧ Q (.int (i / j)) M
    | _, _ => False)
  | .mod => (match x, y with
    | .int i, .int j => 0 < j ∧ Q (.int (i % j)) M
    | _, _ => False)
  | .pow => (match x, y with
    | .int i, .int j => PowOk i j ∧ Q (.int (i ^ j.toNat)) M
    | _, _ => False)

/-- x op= y -/
def iopD (op : BinO) (x y : D) (M : Mp) (Q : DK) : Prop := match x, y with
  | .int i, .int j => (match op with
    | .add => Q (.int (i + j)) M
    | .sub => Q (.int (i - j)) M
    | .mul => MulOk i j ∧ Q (.int (i * j)) M
    | .fdiv => DivOk j ∧ Q (.int (i / j)) M
    | .mod => 0 < j ∧ Q (.int (i % j)) M
    | .pow => False)
  | _, _ => False

def memOk (x : D) (ys : List D) : Bool := isD false x 30 && isDs false ys 30
def memD (x : D) (ys : List D) : Bool := ys.any fun y => eqD y x
def isN : D → Bool
  | .non => true
  | _ => false
def keyOf : D → Option Key
  | .int i => some (.inl i)
  | .str x => some (.inr x)
  | _ => none
def kD : Key → D
  | .inl i => .int i
  | .inr x => .str x
def getK (kvs : List (Key × D)) (k : Key) : Option D := (kvs.find? fun p => decide (p.1 = k)).map (·.2)
/-- a key of whole numbers -/
def tkD : D → Option (List Int)
  | .tup ds => intsOf ds
  | _ => none
def getT (kvs : List (List Int × D)) (k : List Int) : Option D := (kvs.find? fun p => decide (p.1 = k)).map (·.2)
def setT (kvs : List (List Int × D)) (k : List Int) (v : D) : List (List Int × D) :=
  if (getT kvs k).isSome = true then kvs.map (fun p => if p.1 = k then (p.1, v) else p) else kvs ++ [(k, v)]
/-- a dict with keys of tuples -/
def onT (o : D) (M : Mp) (g : Addr → Option Obj → List (List Int × D) → Prop) : Prop := match o with
  | .ref a => (match M a with
    | some (.dicT l kvs) => g a l kvs
    | _ => False)
  | _ => False
/-- x in y -/
def memC (x y : D) (M : Mp) (Q : Bool → Prop) : Prop := match see M y with
  | .tup ys => memOk (see M x) ys = true ∧ Q (memD (see M x) ys)
  | .lst ys => memOk (see M x) ys = true ∧ Q (memD (see M x) ys)
  | .str b => (match x with
    | .str a => Q (!(Builtin.Str.occurrences b a 0 b.length 1).isEmpty)
    | _ => False)
  | .dic kvs => (match keyOf x with
    | some k => Q (getK kvs k).isSome
    | none => False)
  | _ => False
/-- less: whole numbers, or tuples of them -/
def ltD (x y : D) (Q : Bool → Prop) : Prop := match x, y with
    | .int i, .int j => Q (decide (i < j))
    | .tup a, .tup b => (match intsOf a, intsOf b with
      | some r, some t => Q (decide (r < t))
      | _, _ => False)
    | _, _ => False
def cop (op : CmpO) (x y : D) (M : Mp) (Q : Bool → Prop) : Prop := match op with
  | .eq => eqOkE (see M x) (see M y) = true ∧ Q (eqD (see M x) (see M y))
  | .ne => eqOk (see M x) (see M y) = true ∧ Q (!eqD (see M x) (see M y))
  | .lt => ltD x y Q
  | .le => (match x, y with
    | .int i, .int j => Q (decide (i ≤ j))
    | _, _ => False)
  | .gt => (match x, y with
    | .int i, .int j => Q (decide (j < i))
    | _, _ => False)
  | .ge => (match x, y with
    | .int i, .int j => Q (decide (j ≤ i))
    | _, _ => False)
  | .is_ => (match y with
    | .non => Q (isN x)
    | .bl b => (match x with
      | .bl a => Q (decide (a = b))
      | _ => False)
    | _ => False)
  | .isnot => (match y with
    | .non => Q (!isN x)
    | .bl b => (match x with
      | .bl a => Q (!decide (a = b))
      | _ => False)
    | _ => False)
  | .in_ => memC x y M Q
  | .notin => memC x y M fun k => Q (!k)

def mapP (f : D → Option (D × List Addr)) : List D → Option (List D × List Addr)
  | [] => some ([], [])
  | d :: ds => (match f d, mapP f ds with
    | some x, some xs => some (x.1 :: xs.1, x.2 ++ xs.2)
    | _, _ => none)
def mapK (f : D → Option (D × List Addr)) : List (Key × D) → Option (List (Key × D) × List Addr)
  | [] => some ([], [])
  | (k, d) :: ds => (match f d, mapK f ds with
    | some x, some xs => some ((k, x.1) :: xs.1, x.2 ++ xs.2)
    | _, _ => none)
/-- settle: what may change is told as it stands, and may change no more (its places are told) -/
def settle (M : Mp) : Nat → D → Option (D × List Addr)
  | 0, _ => none
  | n + 1, d => match isD true d 30 with
    | true => some (d, [])
    | false => (match d with
      | .ref a => (match M a with
        | some (.lst ds) => (mapP (settle M n) ds).map fun r => (.lst r.1, a :: r.2)
        | some (.dic kvs) => (mapK (settle M n) kvs).map fun r => (.dic r.1, a :: r.2)
        | _ => none)
      | .tup ds => (mapP (settle M n) ds).map fun r => (.tup r.1, r.2)
      | .lst ds => (mapP (settle M n) ds).map fun r => (.lst r.1, r.2)
      | _ => none)
/-- what x shows: as it is seen, or what it settles to -/
def deepV (M : Mp) (x y : D) : Prop := y = see M x ∨ ∃ l, settle M 8 x = some (y, l)

def maxI : List Int → Int
  | [] => 0
  | x :: r => r.foldl max x
def minI : List Int → Int
  | [] => 0
  | x :: r => r.foldl min x
def sortI (ns : List Int) : List Int := ns.mergeSort (fun a b => decide (a ≤ b))

/-- sorted of tuples that stand in order -/
def sortT (m : Bool) (o : Option (List (List Int))) (x : D) (M : Mp) (Q : DK) : Prop := match o with
  | some rs => ascT rs ∧ mkN m (rs.map fun r => .tup (r.map D.int)) M Q
  | none => (match x with
    | .tup ds => (match intsOf ds with
      | some ns => mkN m ((sortI ns).map D.int) M Q
      | none => False)
    | _ => False)
/-- a great whole number, shown -/
def reprI (x : D) (M : Mp) (Q : DK) : Prop := match x with
  | .int i => i.natAbs < 10 ^ 4300 ∧ Q (.str (toString i)) M
  | _ => False
def bfn (m : Bool) (f : BF) (xs : List D) (M : Mp) (Q : DK) : Prop := match f, xs with
  | .len, [x] => (match see M x with
    | .tup ds => Q (.int ds.length) M
    | .lst ds => Q (.int ds.length) M
    | .scr ds => Q (.int ds.length) M
    | .str z => z.length ≤ LIM ∧ Q (.int z.length) M
    | .dic kvs => Q (.int kvs.length) M
    | _ => False)
  | .max, [.int i, .int j] => Q (.int (if j > i then j else i)) M
  | .min, [.int i, .int j] => Q (.int (if j < i then j else i)) M
  | .max, [x] => (match (seqOf M x).bind intsOf with
    | some ns => ns ≠ [] ∧ Q (.int (maxI ns)) M
    | none => False)
  | .min, [x] => (match (seqOf M x).bind intsOf with
    | some ns => ns ≠ [] ∧ Q (.int (minI ns)) M
    | none => False)
  | .sum, [x] => (match (seqOf M x).bind intsOf with
    | some ns => Q (.int ns.sum) M
    | none => False)
  | .all, [x] => (match (lstOf M x).bind blsOf with
    | some bs => Q (.bl (bs.all id)) M
    | none => False)
  | .any, [x] => (match (lstOf M x).bind blsOf with
    | some bs => Q (.bl (bs.any id)) M
    | none => False)
  | .abs, [.int i] => Q (.int (if i < 0 then -i else i)) M
  | .int, [.int i] => Q (.int i) M
  | .int, [.bl b] => Q (.int (if b then 1 else 0)) M
  | .str, [.int i] => i.natAbs.log2 < 1920 ∧ Q (.str (toString i)) M
  | .repr, [x] => reprI x M Q ∨ ∃ y, deepV M x y ∧ isD true y 30 = true ∧ (toP y).showable = true ∧ (toP y).shown.length ≤ LIM ∧ Q (.str (toP y).shown) M
  | .sorted, [x] => (match (lstOf M x).bind intsOf with
    | some ns => mkN m ((sortI ns).map D.int) M Q
    | none => sortT m ((lstOf M x).bind tupsOf) x M Q)
  | .divmod, [.int i, .int j] => DivOk j ∧ Q (.tup [.int (i / j), .int (i % j)]) M
  | _, _ => False

def setK (kvs : List (Key × D)) (k : Key) (v : D) : List (Key × D) :=
  if (kvs.any fun p => decide (p.1 = k)) = true then kvs.map (fun p => if p.1 = k then (p.1, v) else p) else kvs ++ [(k, v)]
/-- what receives a call -/
inductive MK where
  | lst | tup | dic | str
def okM : MK → MF → Bool
  | .lst, .append | .lst, .pop | .lst, .insert | .lst, .remove | .lst, .index | .lst, .count | .lst, .extend | .lst, .clear | .lst, .reverse => true
  | .tup, .count | .tup, .index => true
  | .dic, .get | .dic, .setdefault => true
  | .str, .join | .str, .split | .str, .strip | .str, .upper => true
  | _, _ => false
def rcv (M : Mp) (f : MF) (d : D) : Option MK := match see M d with
  | .lst _ => if okM .lst f then some .lst else none
  | .scr _ => if okM .lst f then some .lst else none
  | .tup _ => if okM .tup f then some .tup else none
  | .dic _ => if okM .dic f then some .dic else none
  | .str _ => if okM .str f then some .str else none
  | .ref a => (match M a with
    | some (.dicT _ _) => if f = .get then some .dic else none
    | _ => none)
  | _ => none
def onL (o : D) (M : Mp) (g : Addr → List D → Prop) : Prop := match o with
  | .ref a => (match M a with
    | some (.lst ds) => g a ds
    | _ => False)
  | _ => False
/-- a dict of the program's own making, read -/
def onD (o : D) (M : Mp) (g : List (Key × D) → Prop) : Prop := match see M o with
  | .dic kvs => g kvs
  | _ => False
def onDW (o : D) (M : Mp) (g : Addr → List (Key × D) → Prop) : Prop := match o with
  | .ref a => (match M a with
    | some (.dic kvs) => g a kvs
    | _ => False)
  | _ => False
def placeD (x : D) (ys : List D) : Option Nat := ys.findIdx? fun y => eqD y x
def countD (x : D) (ys : List D) : Nat := ys.countP fun y => eqD y x
/-- o.f(xs) -/
def mth (m : Bool) (k : MK) (f : MF) (o : D) (xs : List D) (M : Mp) (Q : DK) : Prop := match k, f, xs with
  | .lst, .append, [x] => onL o M fun a ds => ds.length < LIM ∧ Q .non (up M a (.lst (ds ++ [x])))
  | .lst, .pop, [] => onL o M fun a ds => (match ds[ds.length - 1]? with
    | some y => Q y (up M a (.lst ds.dropLast))
    | none => False)
  | .lst, .pop, [.int i] => onL o M fun a ds => (match ixAt ds.length i with
    | some k => (match ds[k]? with
      | some y => -(2 ^ 62) ≤ i ∧ i < 2 ^ 62 ∧ Q y (up M a (.lst (ds.eraseIdx k)))
      | none => False)
    | none => False)
  | .lst, .insert, [.int i, x] => onL o M fun a ds => 0 ≤ i ∧ i < 2 ^ 62 ∧ ds.length < LIM ∧ Q .non (up M a (.lst (ds.take i.toNat ++ [x] ++ ds.drop i.toNat)))
  | .lst, .extend, [x] => onL o M fun a ds => (match lstM M x with
    | some es => ds.length + es.length ≤ LIM ∧ Q .non (up M a (.lst (ds ++ es)))
    | none => False)
  | .lst, .clear, [] => onL o M fun a ds => Q .non (up M a (.lst []))
  | .lst, .reverse, [] => onL o M fun a ds => Q .non (up M a (.lst ds.reverse))
  | .lst, .remove, [x] => onL o M fun a ds => memOk (see M x) ds = true ∧ (match placeD (see M x) ds with
    | some j => Q .non (up M a (.lst (ds.eraseIdx j)))
    | none => False)
  | .lst, .count, [x] => (match lstM M o with
    | some ds => memOk (see M x) ds = true ∧ Q (.int (countD (see M x) ds : Nat)) M
    | none => False)
  | .tup, .count, [x] => (match o with
    | .tup ds => memOk (see M x) ds = true ∧ Q (.int (countD (see M x) ds : Nat)) M
    | _ => False)
  | .lst, .index, [.int x] => (match (lstOf M o).bind intsOf with
    | some ns => x ∈ ns ∧ Q (.int (ns.idxOf x : Nat)) M
    | none => False)
  | .lst, .index, [.bl b] => (match lstM M o with
    | some ds => memOk (.bl b) ds = true ∧ (match placeD (.bl b) ds with
      | some j => Q (.int (j : Nat)) M
      | none => False)
    | none => False)
  | .lst, .index, [.str z] => (match lstM M o with
    | some ds => memOk (.str z) ds = true ∧ (match placeD (.str z) ds with
      | some j => Q (.int (j : Nat)) M
      | none => False)
    | none => False)
  | .tup, .index, [.int x] => (match (match o with
    | .tup ds => intsOf ds
    | _ => none) with
    | some ns => x ∈ ns ∧ Q (.int (ns.idxOf x : Nat)) M
    | none => False)
  | .dic, .get, [y, x] => (match see M o with
    | .dic kvs => (match keyOf y with
      | some k => Q ((getK kvs k).getD x) M
      | none => False)
    | .ref a => (match M a with
      | some (.dicT _ kvs) => (match tkD y with
        | some k => Q ((getT kvs k).getD x) M
        | none => False)
      | _ => False)
    | _ => False)
  | .dic, .get, [y] => onD o M fun kvs => (match keyOf y with
    | some k => Q ((getK kvs k).getD .non) M
    | none => False)
  | .dic, .setdefault, [y, x] => onDW o M fun a kvs => (match keyOf y with
    | some k => kvs.length < LIM ∧ (match getK kvs k with
      | some d => Q d M
      | none => Q x (up M a (.dic (setK kvs k x))))
    | none => False)
  | .str, .join, [x] => (match o, (seqOf M x).bind strsOf with
    | .str a, some ys => (ys.map (·.length)).sum + ys.length * a.length ≤ LIM ∧ Q (.str (Txt.join a ys)) M
    | _, _ => False)
  | .str, .split, [.str b] => (match o with
    | .str a => (b.length == 0) = false ∧ a.length + 2 ≤ LIM ∧ mkN m ((Txt.split a b).map D.str) M Q
    | _ => False)
  | .str, .strip, [.str b] => (match o with
    | .str a => a.length ≤ LIM ∧ Q (.str (Txt.stripChars a b)) M
    | _ => False)
  | .str, .upper, [] => (match o with
    | .str a => a.length ≤ 5592405 ∧ Q (.str (Txt.upper a)) M
    | _ => False)
  | _, _, _ => False

/-- o[i] -/
def ixD (x y : D) (M : Mp) (Q : DK) : Prop := match see M x with
  | .scr ds => (match y with
    | .int i => (match atD ds i with
      | some d => Q d M
      | none => False)
    | _ => False)
  | .tup ds => (match y with
    | .int i => (match atD ds i with
      | some d => Q d M
      | none => False)
    | _ => False)
  | .lst ds => (match y with
    | .int i => (match atD ds i with
      | some d => Q d M
      | none => False)
    | _ => False)
  | .str z => (match y with
    | .int i => z.length ≤ LIM ∧ (match (ixAt z.cps.toList.length i).bind fun j => z.cps.toList[j]? with
      | some c => Q (.str ⟨#[c]⟩) M
      | none => False)
    | _ => False)
  | .dic kvs => (match keyOf y with
    | some k => (match getK kvs k with
      | some d => Q d M
      | none => False)
    | none => False)
  | .ref a => (match M a with
    | some (.dicT _ kvs) => (match tkD y with
      | some k => (match getT kvs k with
        | some d => Q d M
        | none => False)
      | none => False)
    | _ => False)
  | _ => False
/-- o[i] = v -/
def stD (o i v : D) (M : Mp) (Q : Mp → Prop) : Prop := match o with
  | .ref a => (match M a with
    | some (.lst ds) => (match i with
      | .int i => (match ixAt ds.length i with
        | some j => Q (up M a (.lst (ds.set j v)))
        | none => False)
      | _ => False)
    | some (.dic kvs) => (match keyOf i with
      | some k => kvs.length < LIM ∧ Q (up M a (.dic (setK kvs k v)))
      | none => False)
    | some (.dicT none kvs) => (match tkD i with
      | some k => kvs.length < LIM ∧ Q (up M a (.dicT none (setT kvs k v)))
      | none => False)
    | _ => False)
  | _ => False
/-- the bounds of a slice -/
def cutIx (n : Nat) (d : Nat) : Option Int → Nat
  | none => d
  | some i => if i < 0 then (i + n).toNat else min i.toNat n
def cutD (xs : List D) (lo hi : Option Int) : List D := (xs.drop (cutIx xs.length 0 lo)).take (cutIx xs.length xs.length hi - cutIx xs.length 0 lo)
def cutStr (z : Str) (lo hi : Option Int) : Str := ⟨((z.cps.toList.drop (cutIx z.cps.toList.length 0 lo)).take (cutIx z.cps.toList.length z.cps.toList.length hi - cutIx z.cps.toList.length 0 lo)).toArray⟩
def slD (m : Bool) (x : D) (lo hi : Option Int) (M : Mp) (Q : DK) : Prop := match see M x with
  | .tup ds => Q (.tup (cutD ds lo hi)) M
  | .lst ds => mkN m (cutD ds lo hi) M Q
  | .scr ds => mkN m (cutD ds lo hi) M Q
  | .str z => z.length ≤ LIM ∧ Q (.str (cutStr z lo hi)) M
  | _ => False

/-- list(x), tuple(x) -/
def convD (m l : Bool) (x : D) (M1 : Mp) (Q : DK) : Prop := match l with
  | true => (match x with
    | .tup ds => mkN m ds M1 Q
    | .lst ds => mkN m ds M1 Q
    | .scr ds => mkN m ds M1 Q
    | .ref a => (match M1 a with
      | some (.lst ds) => mkN m ds M1 Q
      | _ => False)
    | _ => False)
  | false => (match x with
    | .tup ds => Q (.tup ds) M1
    | .lst ds => Q (.tup ds) M1
    | .scr ds => Q (.tup ds) M1
    | .ref a => (match M1 a with
      | some (.lst ds) => Q (.tup ds) M1
      | _ => False)
    | _ => False)
/-- sorted(set(x)) of a tuple of whole numbers -/
def ssetI (ns : List Int) (m : Bool) (M : Mp) (Q : DK) : Prop := ns.length ≤ 1000 ∧ ∀ ms : List Int, ms.Pairwise (· < ·) → (∀ k, k ∈ ms ↔ k ∈ ns) → mkN m (ms.map D.int) M Q
/-- sorted(set(x)) of texts; the order is not told -/
def ssetS (xs : List Str) (m : Bool) (M : Mp) (Q : DK) : Prop := xs.length ≤ 1000 ∧ ∀ ms : List Str, ms.Nodup → (∀ k, k ∈ ms ↔ k ∈ xs) → ms.length ≤ xs.length → mkN m (ms.map D.str) M Q
def ssetD (m : Bool) (x : D) (M : Mp) (Q : DK) : Prop := match x with
  | .tup ds => (match intsOf ds with
    | some ns => ssetI ns m M Q
    | none => False)
  | .lst ds => (match intsOf ds with
    | some ns => ssetI ns m M Q
    | none => (match strsOf ds with
      | some xs => ssetS xs m M Q
      | none => False))
  | _ => False
/-- sorted(d.values(), reverse=True) of whole numbers -/
def srtvD (m : Bool) (x : D) (M : Mp) (Q : DK) : Prop := onDW x M fun _ kvs => (match intsOf (kvs.map fun p => p.2) with
  | some ns => mkN m ((sortI ns).reverse.map D.int) M Q
  | none => False)
/-- len(dict(x)) of a list of pairs with different keys -/
def ldctD (x : D) (M : Mp) (Q : DK) : Prop := match x with
  | .lst ds => (match pairsOf ds with
    | some ks => ks.Nodup ∧ ks.length ≤ 1000 ∧ Q (.int (ks.length : Nat)) M
    | none => False)
  | _ => False
/-- len(set(x)) of whole numbers -/
def lsetI (ns : List Int) (M : Mp) (Q : DK) : Prop := ns.length ≤ 1000 ∧ ∀ ms : List Int, ms.Nodup → (∀ k, k ∈ ms ↔ k ∈ ns) → Q (.int (ms.length : Nat)) M
/-- len(set(x)) of texts -/
def lsetS (xs : List Str) (M : Mp) (Q : DK) : Prop := xs.length ≤ 1000 ∧ ∀ ms : List Str, ms.Nodup → (∀ k, k ∈ ms ↔ k ∈ xs) → Q (.int (ms.length : Nat)) M
def lsetD (x : D) (M : Mp) (Q : DK) : Prop := match x with
  | .tup ds => (match intsOf ds with
    | some ns => lsetI ns M Q
    | none => False)
  | x => (match lstOf M x with
    | some ds => (match intsOf ds with
      | some ns => lsetI ns M Q
      | none => (match strsOf ds with
        | some xs => lsetS xs M Q
        | none => False))
    | none => False)
/-- an attribute, read -/
def attrD (f : Str) (x : D) (M : Mp) (Q : DK) : Prop := match x with
  | .ref a => (match M a with
    | some (.ins _ fs) => (match fs.lookup f with
      | some d => Q d M
      | none => False)
    | _ => False)
  | _ => False
def setF (f : Str) (d : D) : List (Str × D) → List (Str × D)
  | [] => [(f, d)]
  | (g, x) :: r => if g = f then (g, d) :: r else (g, x) :: setF f d r
/-- an attribute, stored -/
def sattrD (c f : Str) (y x : D) (M : Mp) (R : Mp → Prop) : Prop := match x with
  | .ref a => (match M a with
    | some (.ins c' fs) => c' = c ∧ fs.length < 1000 ∧ R (up M a (.ins c (setF f y fs)))
    | _ => False)
  | _ => False
/-- an instance of the class c, without an own attribute of that name -/
def insOk (c m : Str) (x : D) (M : Mp) : Prop := match x with
  | .ref a => (match M a with
    | some (.ins c' fs) => c' = c ∧ fs.lookup m = none
    | _ => False)
  | _ => False
/-- a range's items -/
def rngD (Q : List D → (Mp → Prop) → Mp → Prop) (ds : List D) (M1 : Mp) : Prop := match ds with
    | [.int j] => -(2 ^ 62) ≤ j ∧ j ≤ LIM ∧ Q ((List.range j.toNat).map fun k => .int (k : Nat)) (fun _ => True) M1
    | [.int i, .int j] => -(2 ^ 62) ≤ i ∧ i < 2 ^ 62 ∧ -(2 ^ 62) ≤ j ∧ j < 2 ^ 62 ∧ j - i ≤ LIM ∧ Q ((List.range (j - i).toNat).map fun k => .int (i + (k : Nat))) (fun _ => True) M1
    | _ => False
/-- zip of two: tuples, or lists -/
def zipD (Q : List D → (Mp → Prop) → Mp → Prop) (ds : List D) (M1 : Mp) : Prop := match ds with
    | [x, y] => (match x, y with
      | .tup a, .tup b => Q ((a.zip b).map fun p => .tup [p.1, p.2]) (fun _ => True) M1
      | x, .tup b => (match lstOf M1 x with
        | some a => Q ((a.zip b).map fun p => .tup [p.1, p.2]) (fun M => lstOf M x = some a) M1
        | _ => False)
      | .tup a, y => (match lstOf M1 y with
        | some b => Q ((a.zip b).map fun p => .tup [p.1, p.2]) (fun M => lstOf M y = some b) M1
        | _ => False)
      | x, y => (match lstOf M1 x, lstOf M1 y with
        | some a, some b => Q ((a.zip b).map fun p => .tup [p.1, p.2]) (fun M => lstOf M x = some a ∧ lstOf M y = some b) M1
        | _, _ => False))
    | [x, y, z] => (match seqOf M1 x, seqOf M1 y, seqOf M1 z with
      | some a, some b, some c => Q ((a.zip (b.zip c)).map fun p => .tup [p.1, p.2.1, p.2.2]) (fun M => seqOf M x = some a ∧ seqOf M y = some b ∧ seqOf M z = some c) M1
      | _, _, _ => False)
    | _ => False
def rngV (Q : List D → Mp → Prop) (ds : List D) (M1 : Mp) : Prop := rngD (fun ds _ M => Q ds M) ds M1
end Pw
set_option Elab.async false
set_option linter.all false
set_option maxRecDepth 100000
namespace Pw
open PySem PySem.Spec PyProof.Rows L2

/-- what is wanted behind a statement -/
structure En where
  nx : St → Mp → Prop
  rt : DK
  bk : St → Mp → Prop
  ct : St → Mp → Prop

/-- slots forgotten -/
def wipeD (δ : St) : List Nat → St
  | [] => δ
  | v :: vs => (wipeD δ vs).set v none

/-- a loop over items ds; still: the source stands as it was -/
def forL (step : D → (St → Mp → Prop) → St → Mp → Prop) (clr : List Nat) (still : Mp → Prop) (nx : St → Mp → Prop) : List D → St → Mp → Prop
  | [], δ, M => still M ∧ nx δ M
  | d :: ds, δ, M => still M ∧ step d (fun δ' M' => forL step clr still nx ds (wipeD δ' clr) M') δ M
/-- a comprehension over items -/
def compL {α : Type} (g : D → St → Mp → (St → Mp → Prop) → Prop) (tt : St → Mp → (Bool → Mp → Prop) → Prop) (te : St → Mp → (α → Mp → (α → Mp → Prop) → Prop)) (still : Mp → Prop) (δ : St) (K : α → Mp → Prop) : List D → α → Mp → Prop
  | [], acc, M => still M ∧ K acc M
  | d :: ds, acc, M => still M ∧ g d δ M fun δ1 M1 => tt δ1 M1 fun k M2 => match k with
    | true => te δ1 M2 acc M2 fun acc' M3 => compL g tt te still δ K ds acc' M3
    | false => compL g tt te still δ K ds acc M2

def cntL : T → Nat
  | .cons _ r => cntL r + 1
  | _ => 0
def never : XD := fun _ _ _ => False

mutual
/-- an expression -/
def wpE (Γ : String → SpD) (xk : XD) : T → St → Mp → DK → Prop
  | .var i, δ, M, Q => (match δ[i]? with
    | some (some d) => Q d M
    | _ => False)
  | .lit d, _, M, Q => Q d M
  | .bin m op a b, δ, M, Q => wpE Γ xk a δ M fun x M1 => wpE Γ xk b δ M1 fun y M2 => bop m op x y M2 Q
  | .neg a, δ, M, Q => wpE Γ xk a δ M fun x M1 => (match x with
    | .int i => Q (.int (-i)) M1
    | _ => False)
  | .not a, δ, M, Q => wpE Γ xk a δ M fun x M1 => (match x with
    | .bl b => Q (.bl (!b)) M1
    | _ => False)
  | .and a b, δ, M, Q => wpE Γ xk a δ M fun x M1 => (match x with
    | .bl true => wpE Γ xk b δ M1 Q
    | .bl false => Q (.bl false) M1
    | _ => False)
  | .or a b, δ, M, Q => wpE Γ xk a δ M fun x M1 => (match x with
    | .bl true => Q (.bl true) M1
    | .bl false => wpE Γ xk b δ M1 Q
    | _ => False)
  | .cmp op a b, δ, M, Q => wpE Γ xk a δ M fun x M1 => wpE Γ xk b δ M1 fun y M2 => cop op x y M2 fun k => Q (.bl k) M2
  | .chain o1 o2 a b c, δ, M, Q => wpE Γ xk a δ M fun x M1 => wpE Γ xk b δ M1 fun y M2 => cop o1 x y M2 fun k => (match k with
    | true => wpE Γ xk c δ M2 fun z M3 => cop o2 y z M3 fun k => Q (.bl k) M3
    | false => Q (.bl false) M2)
  | .ite c a b, δ, M, Q => wpT Γ xk c δ M fun k M1 => (match k with
    | true => wpE Γ xk a δ M1 Q
    | false => wpE Γ xk b δ M1 Q)
  | .tup es, δ, M, Q => wpL Γ xk es δ M fun ds M1 => Q (.tup ds) M1
  | .tups es, δ, M, Q => wpX Γ xk es δ M fun ds M1 => ds.length ≤ LIM ∧ Q (.tup ds) M1
  | .lst m es, δ, M, Q => wpL Γ xk es δ M fun ds M1 => mkN m ds M1 Q
  | .dct m, _, M, Q => (match m with
    | true => ∀ p, M p = none → Q (.ref p) (up M p (.dic []))
    | false => Q (.dic []) M)
  | .dctT, _, M, Q => ∀ p, M p = none → Q (.ref p) (up M p (.dicT none []))
  | .call f es dfl, δ, M, Q => wpL Γ xk es δ M fun ds M1 => Γ f (ds ++ dfl) M1 Q fun c M' => xk c δ M'
  | .callk f es _ e, δ, M, Q => wpL Γ xk es δ M fun ds M1 => wpE Γ xk e δ M1 fun d M2 => Γ f (ds ++ [d]) M2 Q fun c M' => xk c δ M'
  | .blt m f es, δ, M, Q => wpL Γ xk es δ M fun ds M1 => bfn m f ds M1 Q
  | .isi e tys, δ, M, Q => wpE Γ xk e δ M fun x M1 => (match nm (see M1 x) with
    | some n => Q (.bl (tys.any fun t => isI1 n t)) M1
    | none => False)
  | .conv m l e, δ, M, Q => wpE Γ xk e δ M fun x M1 => convD m l x M1 Q
  | .convr m l es, δ, M, Q => wpL Γ xk es δ M fun ds M1 => rngV (fun ds M2 => match l with
    | true => mkN m ds M2 Q
    | false => Q (.tup ds) M2) ds M1
  | .convv e, δ, M, Q => wpE Γ xk e δ M fun x M1 => (match lstOf M1 x with
    | some ds => Q (.tup ds.reverse) M1
    | none => False)
  | .meth m f o es, δ, M, Q => wpE Γ xk o δ M fun x M1 => (match rcv M1 f x with
    | some k => wpL Γ xk es δ M1 fun ds M2 => mth m k f x ds M2 Q
    | none => False)
  | .idx a i, δ, M, Q => wpE Γ xk a δ M fun x M1 => wpE Γ xk i δ M1 fun y M2 => ixD x y M2 Q
  | .slc m a lo hi, δ, M, Q => wpE Γ xk a δ M fun x M1 => wpO Γ xk lo δ M1 fun l M2 => wpO Γ xk hi δ M2 fun h M3 => slD m x l h M3 Q
  | .revs m a, δ, M, Q => wpE Γ xk a δ M fun x M1 => (match see M1 x with
    | .tup ds => Q (.tup ds.reverse) M1
    | .lst ds => mkN m ds.reverse M1 Q
    | _ => False)
  | .srtv m a, δ, M, Q => wpE Γ xk a δ M fun x M1 => srtvD m x M1 Q
  | .sset m a, δ, M, Q => wpE Γ xk a δ M fun x M1 => ssetD m x M1 Q
  | .ldct a, δ, M, Q => wpE Γ xk a δ M fun x M1 => ldctD x M1 Q
  | .lset a, δ, M, Q => wpE Γ xk a δ M fun x M1 => lsetD x M1 Q
  | .attr f o, δ, M, Q => wpE Γ xk o δ M fun x M1 => attrD f x M1 Q
  | .mcall key c m o es, δ, M, Q => wpE Γ xk o δ M fun x M1 => insOk c m x M1 ∧ wpL Γ xk es δ M1 fun ds M2 => Γ key (x :: ds) M2 Q fun c' M' => xk c' δ M'
  | .make key c es, δ, M, Q => wpL Γ xk es δ M fun ds M1 => ∀ p, M1 p = none → Γ key (.ref p :: ds) (up M1 p (.ins c [])) (fun v M2 => v = .non ∧ Q (.ref p) M2) fun c' M' => xk c' δ M'
  | .comp m own elt t it ifs, δ, M, Q => wpI Γ xk it δ M fun ds still M1 => compL (wpG Γ never t) (wpTs Γ never ifs) (fun δ1 M acc M' K => wpE Γ never elt δ1 M' fun x M'' => K (acc ++ [x]) M'') still (wipeD δ own)
      (fun acc M2 => mkN m acc M2 Q) ds [] M1
  | .comp2 m own own2 elt t it ifs t2 it2 ifs2, δ, M, Q => wpI Γ xk it δ M fun ds still M1 => compL (wpG Γ never t) (wpTs Γ never ifs)
      (fun δ1 _ acc M2 K => wpI Γ never it2 δ1 M2 fun ds2 still2 M3 => compL (wpG Γ never t2) (wpTs Γ never ifs2) (fun δ3 _ acc M' K' => wpE Γ never elt δ3 M' fun x M'' => acc.length < LIM ∧ K' (acc ++ [x]) M'') still2 (wipeD δ1 own2) K ds2 acc M3) still (wipeD δ own)
      (fun acc M2 => mkN m acc M2 Q) ds [] M1
  | .dc1 m own kx vx t it ifs, δ, M, Q => wpI Γ xk it δ M fun ds still M1 => compL (wpG Γ never t) (wpTs Γ never ifs)
      (fun δ1 _ acc M' K => wpE Γ never kx δ1 M' fun y M2 => wpE Γ never vx δ1 M2 fun x M3 => (match keyOf y with
        | some k => acc.length < LIM ∧ K (setK acc k x) M3
        | none => False)) still (wipeD δ own) (fun acc M2 => mkND m acc M2 Q) ds [] M1
  | .dc2 m own own2 kx vx t it ifs t2 it2 ifs2, δ, M, Q => wpI Γ xk it δ M fun ds still M1 => compL (wpG Γ never t) (wpTs Γ never ifs)
      (fun δ1 _ acc M2 K => wpI Γ never it2 δ1 M2 fun ds2 still2 M3 => compL (wpG Γ never t2) (wpTs Γ never ifs2)
        (fun δ3 _ acc M' K' => wpE Γ never kx δ3 M' fun y M4 => wpE Γ never vx δ3 M4 fun x M5 => (match keyOf y with
          | some k => acc.length < LIM ∧ K' (setK acc k x) M5
          | none => False)) still2 (wipeD δ1 own2) K ds2 acc M3) still (wipeD δ own) (fun acc M2 => mkND m acc M2 Q) ds [] M1
  | .isx xs e cs, δ, M, Q => wpE Γ xk e δ M fun x M1 => (match x with
    | .exc c => c ∈ xs ∧ Q (.bl (cs.any fun t => excIs c t)) M1
    | _ => False)
  | .frz e, δ, M, Q => wpE Γ xk e δ M fun x M1 => (match settle M1 8 x with
    | some d => ∃ M2, Sub M2 M1 ∧ (∀ a ∈ d.2, M2 a = none) ∧ Q d.1 M2
    | none => False)
  | _, _, _, _ => False
/-- a test -/
def wpT (Γ : String → SpD) (xk : XD) : T → St → Mp → (Bool → Mp → Prop) → Prop
  | .not a, δ, M, Q => wpT Γ xk a δ M fun k M1 => Q (!k) M1
  | .and a b, δ, M, Q => wpT Γ xk a δ M fun k M1 => (match k with
    | true => wpT Γ xk b δ M1 Q
    | false => Q false M1)
  | .or a b, δ, M, Q => wpT Γ xk a δ M fun k M1 => (match k with
    | true => Q true M1
    | false => wpT Γ xk b δ M1 Q)
  | .ite c a b, δ, M, Q => wpT Γ xk c δ M fun k M1 => (match k with
    | true => wpT Γ xk a δ M1 Q
    | false => wpT Γ xk b δ M1 Q)
  | .cmp op a b, δ, M, Q => wpE Γ xk a δ M fun x M1 => wpE Γ xk b δ M1 fun y M2 => cop op x y M2 fun k => Q k M2
  | .chain o1 o2 a b c, δ, M, Q => wpE Γ xk a δ M fun x M1 => wpE Γ xk b δ M1 fun y M2 => cop o1 x y M2 fun k => (match k with
    | true => wpE Γ xk c δ M2 fun z M3 => cop o2 y z M3 fun k => Q k M3
    | false => Q false M2)
  | .tst e, δ, M, Q => wpE Γ xk e δ M fun x M1 => (match tru M1 x with
    | some k => Q k M1
    | none => False)
  | _, _, _, _ => False
/-- the tests of a comprehension: none or one -/
def wpTs (Γ : String → SpD) (xk : XD) : T → St → Mp → (Bool → Mp → Prop) → Prop
  | .nil, _, M, Q => Q true M
  | .cons a _, δ, M, Q => wpT Γ xk a δ M Q
  | _, _, _, _ => False
/-- arguments -/
def wpL (Γ : String → SpD) (xk : XD) : T → St → Mp → (List D → Mp → Prop) → Prop
  | .nil, _, M, Q => Q [] M
  | .cons a r, δ, M, Q => wpE Γ xk a δ M fun x M1 => wpL Γ xk r δ M1 fun xs M2 => Q (x :: xs) M2
  | _, _, _, _ => False
/-- items, some of them spread out -/
def wpX (Γ : String → SpD) (xk : XD) : T → St → Mp → (List D → Mp → Prop) → Prop
  | .nil, _, M, Q => Q [] M
  | .star a r, δ, M, Q => wpE Γ xk a δ M fun x M1 => (match seqOf M1 x with
    | some ds => wpX Γ xk r δ M1 fun xs M2 => Q (ds ++ xs) M2
    | none => False)
  | .cons a r, δ, M, Q => wpE Γ xk a δ M fun x M1 => wpX Γ xk r δ M1 fun xs M2 => Q (x :: xs) M2
  | _, _, _, _ => False
/-- a slice's bound -/
def wpO (Γ : String → SpD) (xk : XD) : T → St → Mp → (Option Int → Mp → Prop) → Prop
  | .nil, _, M, Q => Q none M
  | .cons a _, δ, M, Q => wpE Γ xk a δ M fun x M1 => (match x with
    | .int i => Q (some i) M1
    | _ => False)
  | _, _, _, _ => False
/-- what is walked: the items, and that the source stands -/
def wpI (Γ : String → SpD) (xk : XD) : T → St → Mp → (List D → (Mp → Prop) → Mp → Prop) → Prop
  | .ival e, δ, M, Q => wpE Γ xk e δ M fun x M1 => (match x with
    | .tup ds => Q ds (fun _ => True) M1
    | .lst ds => Q ds (fun _ => True) M1
    | .scr ds => Q ds (fun _ => True) M1
    | .str z => z.length ≤ LIM ∧ Q (chars z) (fun _ => True) M1
    | .ref a => (match M1 a with
      | some (.lst ds) => Q ds (fun M => M a = some (.lst ds)) M1
      | _ => False)
    | _ => False)
  | .irng es, δ, M, Q => wpL Γ xk es δ M fun ds M1 => rngD Q ds M1
  | .izip es, δ, M, Q => wpL Γ xk es δ M fun ds M1 => zipD Q ds M1
  | .ienum e, δ, M, Q => wpE Γ xk e δ M fun x M1 => (match x with
    | .tup ds => Q (ds.zipIdx.map fun p => .tup [.int (p.2 : Nat), p.1]) (fun _ => True) M1
    | .lst ds => Q (ds.zipIdx.map fun p => .tup [.int (p.2 : Nat), p.1]) (fun _ => True) M1
    | .ref a => (match M1 a with
      | some (.lst ds) => Q (ds.zipIdx.map fun p => .tup [.int (p.2 : Nat), p.1]) (fun M => M a = some (.lst ds)) M1
      | _ => False)
    | _ => False)
  | .iitm e, δ, M, Q => wpE Γ xk e δ M fun x M1 => onDW x M1 fun a kvs => kvs.length ≤ LIM ∧ (intsOf (kvs.map fun p => p.2)).isSome = true ∧ ∀ o, Q (kvs.map fun p => .tup [kD p.1, p.2]) (fun M => M a = some (.dicL o kvs)) (up M1 a (.dicL o kvs))
  | .ivls e, δ, M, Q => wpE Γ xk e δ M fun x M1 => onDW x M1 fun a kvs => kvs.length ≤ LIM ∧ (intsOf (kvs.map fun p => p.2)).isSome = true ∧ ∀ o, Q (kvs.map fun p => p.2) (fun M => M a = some (.dicL o kvs)) (up M1 a (.dicL o kvs))
  | .itk e, δ, M, Q => wpE Γ xk e δ M fun x M1 => onT x M1 fun a lk kvs => kvs.length ≤ LIM ∧ (match lk with
    | some o => Q (kvs.map fun p => .tup (p.1.map D.int)) (fun M => M a = some (.dicT (some o) kvs)) M1
    | none => ∀ o, Q (kvs.map fun p => .tup (p.1.map D.int)) (fun M => M a = some (.dicT (some o) kvs)) (up M1 a (.dicT (some o) kvs)))
  | .irev e, δ, M, Q => wpE Γ xk e δ M fun x M1 => (match x with
    | .tup ds => Q ds.reverse (fun _ => True) M1
    | .lst ds => Q ds.reverse (fun _ => True) M1
    | .ref a => (match M1 a with
      | some (.lst ds) => Q ds.reverse (fun M => M a = some (.lst ds)) M1
      | _ => False)
    | _ => False)
  | _, _, _, _ => False
/-- a target -/
def wpG (Γ : String → SpD) (xk : XD) : T → D → St → Mp → (St → Mp → Prop) → Prop
  | .gname i, d, δ, M, Q => Q (δ.set i (some d)) M
  | .gtup gs, d, δ, M, Q => (match d with
    | .tup ds => ds.length = cntL gs ∧ wpGs Γ xk gs ds δ M Q
    | _ => False)
  | .gsub o i, d, δ, M, Q => wpE Γ xk o δ M fun x M1 => wpE Γ xk i δ M1 fun y M2 => stD x y d M2 fun M3 => Q δ M3
  | _, _, _, _, _ => False
def wpGs (Γ : String → SpD) (xk : XD) : T → List D → St → Mp → (St → Mp → Prop) → Prop
  | .nil, ds, δ, M, Q => (match ds with
    | [] => Q δ M
    | _ => False)
  | .cons g r, ds, δ, M, Q => (match ds with
    | d :: ds => wpG Γ xk g d δ M fun δ1 M1 => wpGs Γ xk r ds δ1 M1 Q
    | _ => False)
  | _, _, _, _, _ => False
/-- a statement -/
def wpS (Γ : String → SpD) (xk : XD) : T → En → St → Mp → Prop
  | .asg g e, E, δ, M => wpE Γ xk e δ M fun x M1 => wpG Γ xk g x δ M1 E.nx
  | .par is es, E, δ, M => wpL Γ xk es δ M fun ds M1 => ds.length = is.length ∧ E.nx ((is.zip ds).foldl (fun δ p => δ.set p.1 (some p.2)) δ) M1
  | .aug op i e, E, δ, M => (match δ[i]? with
    | some (some x) => wpE Γ xk e δ M fun y M1 => iopD op x y M1 fun z M2 => E.nx (δ.set i (some z)) M2
    | _ => False)
  | .augs op o i e, E, δ, M => wpE Γ xk o δ M fun x M1 => wpE Γ xk i δ M1 fun y M2 => ixD x y M2 fun z M3 => wpE Γ xk e δ M3 fun u M4 => iopD op z u M4 fun v M5 => stD x y v M5 fun M6 => E.nx δ M6
  | .doc, E, δ, M => E.nx δ M
  | .expr e, E, δ, M => wpE Γ xk e δ M fun _ M1 => E.nx δ M1
  | .ret e, E, δ, M => wpE Γ xk e δ M E.rt
  | .retn, E, _, M => E.rt .non M
  | .ifs c a b, E, δ, M => wpT Γ xk c δ M fun k M1 => (match k with
    | true => wpSs Γ xk a E δ M1
    | false => wpSs Γ xk b E δ M1)
  | .for_ clr g it body, E, δ, M => wpI Γ xk it δ M fun ds still M1 => forL (fun d k δ M => wpG Γ xk g d δ M fun δ' M' => wpSs Γ xk body { nx := k, ct := k, bk := fun δ'' M'' => E.nx δ'' M'', rt := E.rt } δ' M') clr still E.nx ds (wipeD δ clr) M1
  | .while_ clr c body, E, δ, M => ∃ W : Nat → St → Mp → Prop, (∃ n, W n (wipeD δ clr) M) ∧ ∀ n δ M, W n δ M → wpT Γ xk c δ M fun k M1 => (match k with
    | true => wpSs Γ xk body { nx := fun δ' M' => ∃ n', n' < n ∧ W n' (wipeD δ' clr) M', ct := fun δ' M' => ∃ n', n' < n ∧ W n' (wipeD δ' clr) M', bk := E.nx, rt := E.rt } δ M1
    | false => E.nx δ M1)
  | .pass, E, δ, M => E.nx δ M
  | .brk, E, δ, M => E.bk δ M
  | .cont, E, δ, M => E.ct δ M
  | .raise c _, _, δ, M => xk c δ M
  | .sattr c f o a, E, δ, M => wpE Γ xk a δ M fun y M1 => wpE Γ xk o δ M1 fun x M2 => sattrD c f y x M2 fun M3 => E.nx δ M3
  | .tryx xs _ i j body, E, δ, M => wpSs Γ (fun q δ' M' => q ∈ xs ∧ E.nx ((δ'.set j (some (.exc q))).set i none) M') body E δ M
  | _, _, _, _ => False
def wpSs (Γ : String → SpD) (xk : XD) : T → En → St → Mp → Prop
  | .nil, E, δ, M => E.nx δ M
  | .cons s r, E, δ, M => wpS Γ xk s { E with nx := fun δ' M' => wpSs Γ xk r E δ' M' } δ M
  | _, _, _, _ => False
end

/-- a def: the number of its parameters, of its names, its body -/
structure Fn where
  ar : Nat
  sl : Nat
  body : T
def Lv (Q : Mp → Prop) (M : Mp) : Prop := ∃ M', Sub M' M ∧ Q M'
def wpF (Γ : String → SpD) (f : Fn) : SpD := fun ds M Q X => ds.length = f.ar ∧
  wpSs Γ (fun c _ M' => Lv (X c) M') f.body { nx := fun _ M' => Lv (Q .non) M', rt := fun d M' => Lv (Q d) M', bk := fun _ _ => False, ct := fun _ _ => False } (ds.map some ++ List.replicate (f.sl - f.ar) none) M
def run (P : List (String × Fn)) : Nat → String → SpD
  | 0, _ => fun _ _ _ _ => False
  | n + 1, x => match P.lookup x with
    | some f => wpF (run P n) f
    | none => fun _ _ _ _ => False
end Pw
set_option Elab.async false
set_option linter.all false
set_option maxRecDepth 100000
namespace Pw
open PySem PySem.Spec PyProof.Rows L2

/-! ### relations stay -/
section
variable {K : PySem.W.Frag} {M M' M'' : Mp} {H H' H'' : Hp}
theorem Ext.refl : Ext M H M H := fun _ _ h n => ⟨h, n⟩
theorem Ext.trans (a : Ext M H M' H') (b : Ext M' H' M'' H'') : Ext M H M'' H'' := fun c o h n => b c o (a c o h n).1 (a c o h n).2
theorem Ext.sub (s : Sub M' M) : Ext M H M' H := fun a o h n => ⟨h, by
  cases e : M' a with
  | none => rfl
  | some x => rw [s a x e] at n; cases n⟩
theorem Ext.new {p : Addr} {o : HO} (hp : H p = none) : Ext M H M (upd H p o) := fun a x h n => ⟨by rw [upd_ne (ne_of_none h hp)]; exact h, n⟩
theorem Ext.newM {p : Addr} {o : HO} {d : DO} (hp : H p = none) : Ext M H (up M p d) (upd H p o) := fun a x h n => by
  have e := ne_of_none h hp
  exact ⟨by rw [upd_ne e]; exact h, by rw [up_ne e]; exact n⟩
theorem Ext.wr {p : Addr} {o : HO} {d d' : DO} (hp : M p = some d) : Ext M H (up M p d') (upd H p o) := fun a x h n => by
  have e : a ≠ p := fun z => by rw [z, hp] at n; cases n
  exact ⟨by rw [upd_ne e]; exact h, by rw [up_ne e]; exact n⟩
theorem lkO_tup {lk : Option Obj} {a : Addr} {trip : List (List Int × Addr × V)} {vs : List V} : lkO lk (DictT a trip) ≠ .tup vs := fun z => by
  cases lk <;> simp only [lkO, DictT] at z <;> cases z
theorem lkO_frz {lk : Option Obj} {a : Addr} {trip : List (List Int × Addr × V)} {o : Obj} {u : HO} (h : lkO lk (DictT a trip) = .frz o u) : u = DictT a trip := by
  cases lk with
  | none => simp only [lkO, DictT] at h; cases h
  | some o' => simp only [lkO] at h; cases h; rfl
theorem RM.none_of (r : RM K M H) {a : Addr} (h : H a = none) : M a = none := by
  cases e : M a with
  | none => rfl
  | some o =>
    have q := r a o e
    cases o with
    | lst ds => obtain ⟨_, z, _⟩ := q; rw [h] at z; cases z
    | dic ds => obtain ⟨_, z, _⟩ := q; rw [h] at z; cases z
    | dicT lk ks => obtain ⟨_, z, _⟩ := q; rw [h] at z; cases z
    | dicL _ _ => obtain ⟨_, z, _⟩ := q; rw [h] at z; cases z
    | ins _ _ => obtain ⟨_, _, z, _⟩ := q; rw [h] at z; cases z
theorem RM.tup (r : RM K M H) {a : Addr} {vs : List V} (h : H a = some (.tup vs)) : M a = none := by
  cases e : M a with
  | none => rfl
  | some o =>
    have q := r a o e
    cases o with
    | lst ds => obtain ⟨_, z, _⟩ := q; rw [h] at z; cases z
    | dic ds => obtain ⟨_, z, _⟩ := q; rw [h] at z; cases z
    | dicT lk ks => obtain ⟨_, z, _⟩ := q; rw [h] at z; exact absurd (Option.some.inj z).symm lkO_tup
    | dicL _ _ => obtain ⟨_, z, _⟩ := q; rw [h] at z; cases z
    | ins _ _ => obtain ⟨_, _, z, _⟩ := q; rw [h] at z; cases z
theorem RM.frz (r : RM K M H) {a : Addr} {o : Obj} {u : HO} (h : H a = some (.frz o u)) (hu : ∀ φ, u ≠ .ext φ := by intro φ z; cases z) (hk : ∀ us, u ≠ .dK us := by intro φ z; cases z) : M a = none := by
  cases e : M a with
  | none => rfl
  | some o =>
    have q := r a o e
    cases o with
    | lst ds => obtain ⟨_, z, _⟩ := q; rw [h] at z; cases z
    | dic ds => obtain ⟨_, z, _⟩ := q; rw [h] at z; cases z
    | dicT lk ks => obtain ⟨_, z, _⟩ := q; rw [h] at z; exact absurd (lkO_frz (Option.some.inj z).symm) (hu _)
    | dicL _ _ => obtain ⟨_, z, _⟩ := q; rw [h] at z; cases z; exact absurd rfl (hk _)
    | ins _ _ => obtain ⟨_, _, z, _⟩ := q; rw [h] at z; cases z
theorem Ext.sqF (x : Ext M H M' H') (r : RM K M H) {a : Addr} {vs : List V} (h : SqF K H a vs) : SqF K H' a vs := by
  rcases h with ⟨o, h, d⟩ | h
  · exact .inl ⟨o, (x a _ h (r.frz h)).1, d⟩
  · exact .inr h
theorem Ext.sqT (x : Ext M H M' H') (r : RM K M H) {a : Addr} {vs : List V} (h : SqT K H a vs) : SqT K H' a vs := by
  rcases h with (h | ⟨o, h⟩) | h
  · exact .inl (.inl (x a _ h (r.tup h)).1)
  · exact .inl (.inr ⟨o, (x a _ h (r.frz h)).1⟩)
  · exact .inr h
theorem Ext.sqS (x : Ext M H M' H') (r : RM K M H) {a : Addr} {vs : List V} (h : SqS K H a vs) : SqS K H' a vs := by
  rcases h with ⟨o, h⟩ | h
  · exact .inl ⟨o, (x a _ h (r.frz h)).1⟩
  · exact .inr h
mutual
theorem RV.mono (x : Ext M H M' H') (r : RM K M H) : ∀ (d : D) (v : V), RV K M H d v → RV K M' H' d v
  | .non, v, h => by simp only [RV] at h ⊢; exact h
  | .bl _, v, h => by simp only [RV] at h ⊢; exact h
  | .int _, v, h => by simp only [RV] at h ⊢; exact h
  | .str _, v, h => by simp only [RV] at h ⊢; exact h
  | .tup ds, v, h => by
    simp only [RV] at h ⊢
    obtain ⟨a, vs, e, s, q⟩ := h
    exact ⟨a, vs, e, x.sqF r s, RVs.mono x r ds vs q⟩
  | .lst ds, v, h => by
    simp only [RV] at h ⊢
    obtain ⟨a, vs, e, s, n, q⟩ := h
    exact ⟨a, vs, e, (x a _ s n).1, (x a _ s n).2, RVs.mono x r ds vs q⟩
  | .dic kvs, v, h => by
    simp only [RV] at h ⊢
    obtain ⟨a, us, e, s, n, q⟩ := h
    exact ⟨a, us, e, (x a _ s n).1, (x a _ s n).2, RKs.mono x r kvs us q⟩
  | .ref _, v, h => by simp only [RV] at h ⊢; exact h
  | .ty _, v, h => by simp only [RV] at h ⊢; exact h
  | .exc _, v, h => by
    simp only [RV] at h ⊢
    obtain ⟨a, e, s, n⟩ := h
    exact ⟨a, e, (x a _ s n).1, (x a _ s n).2⟩
  | .scr ds, v, h => by
    simp only [RV] at h ⊢
    obtain ⟨a, vs, e, s, q⟩ := h
    exact ⟨a, vs, e, x.sqS r s, RVs.mono x r ds vs q⟩
theorem RVs.mono (x : Ext M H M' H') (r : RM K M H) : ∀ (ds : List D) (vs : List V), RVs K M H ds vs → RVs K M' H' ds vs
  | [], vs, h => by simp only [RVs] at h ⊢; exact h
  | d :: ds, vs, h => by
    simp only [RVs] at h ⊢
    obtain ⟨v, q, e, h1, h2⟩ := h
    exact ⟨v, q, e, RV.mono x r d v h1, RVs.mono x r ds q h2⟩
theorem RKs.mono (x : Ext M H M' H') (r : RM K M H) : ∀ (ds : List (Key × D)) (vs : List (Key × V)), RKs K M H ds vs → RKs K M' H' ds vs
  | [], vs, h => by simp only [RKs] at h ⊢; exact h
  | (k, d) :: ds, vs, h => by
    simp only [RKs] at h ⊢
    obtain ⟨v, q, e, h1, h2⟩ := h
    exact ⟨v, q, e, RV.mono x r d v h1, RKs.mono x r ds q h2⟩
end
theorem RFs.mono (x : Ext M H M' H') (r : RM K M H) : ∀ (ds : List (Str × D)) (vs : List (Str × V)), RFs K M H ds vs → RFs K M' H' ds vs
  | [], vs, h => by simp only [RFs] at h ⊢; exact h
  | (k, d) :: ds, vs, h => by
    simp only [RFs] at h ⊢
    obtain ⟨v, q, e, h1, h2⟩ := h
    exact ⟨v, q, e, RV.mono x r d v h1, RFs.mono x r ds q h2⟩
theorem RTs.mono (x : Ext M H M' H') (r : RM K M H) : ∀ (ds : List (List Int × D)) (vs : List (List Int × Addr × V)), RTs K M H ds vs → RTs K M' H' ds vs
  | [], vs, h => by simp only [RTs] at h ⊢; exact h
  | (k, d) :: ds, vs, h => by
    simp only [RTs] at h ⊢
    obtain ⟨q, v, t, e, hq, h1, h2⟩ := h
    exact ⟨q, v, t, e, x.sqF r hq, RV.mono x r d v h1, RTs.mono x r ds t h2⟩
theorem RO.mono (x : Ext M H M' H') (r : RM K M H) {a : Addr} (h : H' a = H a) : ∀ {o : DO}, RO K M H a o → RO K M' H' a o
  | .ins _ fs, ⟨dx, us, e, q, c, n⟩ => ⟨dx, us, by rw [h]; exact e, RFs.mono x r fs us q, c, n⟩
  | .dicT lk ks, ⟨t, e, q⟩ => ⟨t, by rw [h]; exact e, RTs.mono x r ks t q⟩
  | .lst ds, ⟨vs, e, q⟩ => ⟨vs, by rw [h]; exact e, RVs.mono x r ds vs q⟩
  | .dic ds, ⟨vs, e, q⟩ => ⟨vs, by rw [h]; exact e, RKs.mono x r ds vs q⟩
  | .dicL _ ds, ⟨vs, e, q⟩ => ⟨vs, by rw [h]; exact e, RKs.mono x r ds vs q⟩
theorem RM.sub (r : RM K M H) (s : Sub M' M) : RM K M' H := fun a o e => (r a o (s a o e)).mono (Ext.sub s) r rfl
/-- a new thing, not ours to change -/
theorem RM.new (r : RM K M H) {p : Addr} {o : HO} (hp : H p = none) : RM K M (upd H p o) := fun a x e => (r a x e).mono (Ext.new hp) r (upd_ne fun z => by
  rw [z, r.none_of hp] at e; cases e)
/-- a new thing, ours -/
theorem RM.newM (r : RM K M H) {p : Addr} {o : HO} {d : DO} (hp : H p = none) (h : RO K (up M p d) (upd H p o) p d) : RM K (up M p d) (upd H p o) := fun a x e => by
  by_cases z : a = p
  · subst z
    rw [up_same] at e; cases e
    exact h
  · rw [up_ne z] at e
    exact (r a x e).mono (Ext.newM hp) r (upd_ne z)
/-- a thing of ours, changed -/
theorem RM.wr (r : RM K M H) {p : Addr} {o : HO} {d d' : DO} (hp : M p = some d) (h : RO K (up M p d') (upd H p o) p d') : RM K (up M p d') (upd H p o) := fun a x e => by
  by_cases z : a = p
  · subst z
    rw [up_same] at e; cases e
    exact h
  · rw [up_ne z] at e
    exact (r a x e).mono (Ext.wr hp) r (upd_ne z)
theorem RVs.length : ∀ {ds : List D} {vs : List V}, RVs K M H ds vs → vs.length = ds.length
  | [], vs, h => by simp only [RVs] at h; rw [h]; rfl
  | d :: ds, vs, h => by
    simp only [RVs] at h
    obtain ⟨v, q, e, h1, h2⟩ := h
    rw [e]; simp [RVs.length h2]
theorem RVs.app : ∀ {ds es : List D} {vs us : List V}, RVs K M H ds vs → RVs K M H es us → RVs K M H (ds ++ es) (vs ++ us)
  | [], es, vs, us, h, h' => by simp only [RVs] at h; rw [h]; exact h'
  | d :: ds, es, vs, us, h, h' => by
    simp only [RVs] at h
    obtain ⟨v, q, e, h1, h2⟩ := h
    rw [e]
    show RVs K M H (d :: (ds ++ es)) (v :: (q ++ us))
    simp only [RVs]
    exact ⟨v, _, rfl, h1, h2.app h'⟩
theorem RVs.get : ∀ {ds : List D} {vs : List V} {i : Nat} {d : D}, RVs K M H ds vs → ds[i]? = some d → ∃ v, vs[i]? = some v ∧ RV K M H d v
  | [], vs, i, d, h, e => by simp at e
  | d :: ds, vs, 0, x, h, e => by
    simp only [RVs] at h
    obtain ⟨v, q, e', h1, h2⟩ := h
    simp at e; subst e; subst e'
    exact ⟨v, rfl, h1⟩
  | d :: ds, vs, i + 1, x, h, e => by
    simp only [RVs] at h
    obtain ⟨v, q, e', h1, h2⟩ := h
    subst e'
    obtain ⟨u, z, y⟩ := RVs.get (i := i) h2 (by simpa using e)
    exact ⟨u, by simpa using z, y⟩
theorem RVs.of_get : ∀ {ds : List D} {vs : List V}, vs.length = ds.length → (∀ (i : Nat) (d : D) (v : V), ds[i]? = some d → vs[i]? = some v → RV K M H d v) → RVs K M H ds vs
  | [], vs, hl, h => by simp only [RVs]; exact List.length_eq_zero_iff.mp hl
  | d :: ds, [], hl, h => by simp at hl
  | d :: ds, v :: vs, hl, h => by
    simp only [RVs]
    exact ⟨v, vs, rfl, h 0 d v rfl rfl, RVs.of_get (by simpa using hl) fun i d' v' e1 e2 => h (i + 1) d' v' (by simpa using e1) (by simpa using e2)⟩
/-- the lists by places: any list of values picked from both -/
theorem RVs.take {ds : List D} {vs : List V} (h : RVs K M H ds vs) (n : Nat) : RVs K M H (ds.take n) (vs.take n) :=
  .of_get (by rw [List.length_take, List.length_take, h.length]) fun i d v e1 e2 => by
    rw [List.getElem?_take] at e1 e2
    split at e1
    · rename_i hi
      rw [if_pos hi] at e2
      obtain ⟨u, z, y⟩ := h.get e1
      rw [z] at e2; cases e2; exact y
    · cases e1
theorem RVs.drop {ds : List D} {vs : List V} (h : RVs K M H ds vs) (n : Nat) : RVs K M H (ds.drop n) (vs.drop n) :=
  .of_get (by rw [List.length_drop, List.length_drop, h.length]) fun i d v e1 e2 => by
    rw [List.getElem?_drop] at e1 e2
    obtain ⟨u, z, y⟩ := h.get e1
    rw [z] at e2; cases e2; exact y
theorem RVs.set {ds : List D} {vs : List V} (h : RVs K M H ds vs) (j : Nat) {d : D} {v : V} (hd : RV K M H d v) : RVs K M H (ds.set j d) (vs.set j v) :=
  .of_get (by simp [h.length]) fun i d' v' e1 e2 => by
    rw [List.getElem?_set] at e1 e2
    split at e1
    · rename_i hi
      rw [if_pos hi] at e2
      split at e1
      · rename_i hl
        rw [if_pos (by rw [h.length]; exact hl)] at e2
        cases e1; cases e2; exact hd
      · cases e1
    · rename_i hi
      rw [if_neg hi] at e2
      obtain ⟨u, z, y⟩ := h.get e1
      rw [z] at e2; cases e2; exact y
theorem RVs.rev {ds : List D} {vs : List V} (h : RVs K M H ds vs) : RVs K M H ds.reverse vs.reverse :=
  .of_get (by simp [h.length]) fun i d v e1 e2 => by
    have hi : i < ds.length := by
      have := (List.getElem?_eq_some_iff.mp e1).1
      simpa using this
    rw [List.getElem?_reverse (by simpa using hi)] at e1
    rw [List.getElem?_reverse (by rw [h.length]; simpa using hi), h.length] at e2
    obtain ⟨u, z, y⟩ := h.get e1
    rw [z] at e2; cases e2; exact y
theorem RVs.erase {ds : List D} {vs : List V} (h : RVs K M H ds vs) (k : Nat) : RVs K M H (ds.eraseIdx k) (vs.eraseIdx k) := by
  rw [List.eraseIdx_eq_take_drop_succ, List.eraseIdx_eq_take_drop_succ]
  exact (h.take k).app (h.drop (k + 1))
theorem RVs.last {ds : List D} {vs : List V} (h : RVs K M H ds vs) : RVs K M H ds.dropLast vs.dropLast := by
  rw [List.dropLast_eq_take, List.dropLast_eq_take, h.length]
  exact h.take _
theorem RVs.one {d : D} {v : V} (h : RV K M H d v) : RVs K M H [d] [v] := by
  simp only [RVs]
  exact ⟨v, [], rfl, h, rfl⟩
theorem RVs.flat {ds : List D} {vs : List V} (h : RVs K M H ds vs) : ∀ n : Nat, RVs K M H (List.replicate n ds).flatten (List.replicate n vs).flatten
  | 0 => by simp [RVs]
  | n + 1 => by
    rw [List.replicate_succ, List.replicate_succ, List.flatten_cons, List.flatten_cons]
    exact h.app (h.flat n)
theorem RVs.ints : ∀ {ns : List Int}, RVs K M H (ns.map D.int) (ns.map V.int)
  | [] => by simp [RVs]
  | n :: ns => by
    simp only [List.map_cons, RVs]
    exact ⟨_, _, rfl, by simp [RV], RVs.ints⟩
theorem RVs.ints_of : ∀ {ds : List D} {vs : List V} {ns : List Int}, intsOf ds = some ns → RVs K M H ds vs → vs = ns.map V.int ∧ ds = ns.map D.int
  | [], vs, ns, e, h => by
    simp only [RVs] at h
    simp only [intsOf] at e; cases e; exact ⟨h, rfl⟩
  | d :: ds, vs, ns, e, h => by
    simp only [RVs] at h
    obtain ⟨v, q, e', h1, h2⟩ := h
    simp only [intsOf] at e
    split at e
    · rename_i i is ei eis
      cases e
      obtain ⟨r1, r2⟩ := RVs.ints_of eis h2
      cases d <;> simp only [intOf] at ei <;> try cases ei
      simp only [RV] at h1
      subst h1; subst e'
      exact ⟨by rw [r1]; rfl, by rw [r2]; rfl⟩
    · cases e
theorem RVs.bls_of : ∀ {ds : List D} {vs : List V} {ns : List Bool}, blsOf ds = some ns → RVs K M H ds vs → vs = ns.map V.bl ∧ ds = ns.map D.bl
  | [], vs, ns, e, h => by
    simp only [RVs] at h
    simp only [blsOf] at e; cases e; exact ⟨h, rfl⟩
  | d :: ds, vs, ns, e, h => by
    simp only [RVs] at h
    obtain ⟨v, q, e', h1, h2⟩ := h
    cases d <;> simp only [blsOf] at e <;> try cases e
    split at e
    · rename_i is eis
      cases e
      obtain ⟨r1, r2⟩ := RVs.bls_of eis h2
      simp only [RV] at h1
      subst h1; subst e'
      exact ⟨by rw [r1]; rfl, by rw [r2]; rfl⟩
    · cases e
end
section
variable {K : PySem.W.Frag} {M : Mp} {H : Hp}
theorem RKs.length : ∀ {ds : List (Key × D)} {vs : List (Key × V)}, RKs K M H ds vs → vs.length = ds.length
  | [], vs, h => by simp only [RKs] at h; rw [h]; rfl
  | (k, d) :: ds, vs, h => by
    simp only [RKs] at h
    obtain ⟨v, q, e, h1, h2⟩ := h
    rw [e]; simp [RKs.length h2]
theorem RKs.get {k : Key} : ∀ {ds : List (Key × D)} {vs : List (Key × V)}, RKs K M H ds vs → (∀ d, getK ds k = some d → ∃ v, valV vs k = some v ∧ RV K M H d v) ∧ (getK ds k = none → valV vs k = none)
  | [], vs, h => by
    simp only [RKs] at h; subst h
    exact ⟨fun d e => by simp [getK] at e, fun _ => rfl⟩
  | (c, d) :: ds, vs, h => by
    simp only [RKs] at h
    obtain ⟨v, q, e, h1, h2⟩ := h
    subst e
    by_cases hc : c = k
    · subst hc
      refine ⟨fun d' e => ?_, fun e => ?_⟩
      · simp [getK] at e; subst e
        exact ⟨v, valV_pos rfl, h1⟩
      · simp [getK] at e
    · obtain ⟨g1, g2⟩ := RKs.get (k := k) h2
      have e1 : getK ((c, d) :: ds) k = getK ds k := by simp [getK, hc]
      rw [e1, valV_neg (p := (c, v)) hc]
      exact ⟨g1, g2⟩
theorem RKs.any {k : Key} : ∀ {ds : List (Key × D)} {vs : List (Key × V)}, RKs K M H ds vs → (vs.any fun kv => decide (kv.1 = k)) = (ds.any fun kv => decide (kv.1 = k))
  | [], vs, h => by simp only [RKs] at h; subst h; rfl
  | (c, d) :: ds, vs, h => by
    simp only [RKs] at h
    obtain ⟨v, q, e, h1, h2⟩ := h
    subst e
    rw [List.any_cons, List.any_cons, RKs.any h2]
theorem RKs.map {k : Key} {x : D} {y : V} (hx : RV K M H x y) : ∀ {ds : List (Key × D)} {vs : List (Key × V)}, RKs K M H ds vs → RKs K M H (ds.map fun p => if p.1 = k then (p.1, x) else p) (vs.map fun p => if p.1 = k then (p.1, y) else p)
  | [], vs, h => by simp only [RKs] at h; subst h; simp [RKs]
  | (c, d) :: ds, vs, h => by
    simp only [RKs] at h
    obtain ⟨v, q, e, h1, h2⟩ := h
    subst e
    have ih := RKs.map (k := k) hx h2
    rw [List.map_cons, List.map_cons]
    by_cases hc : c = k
    · rw [if_pos hc, if_pos hc]
      simp only [RKs]
      exact ⟨y, _, rfl, hx, ih⟩
    · rw [if_neg hc, if_neg hc]
      simp only [RKs]
      exact ⟨v, _, rfl, h1, ih⟩
theorem RKs.snoc {k : Key} {x : D} {y : V} (hx : RV K M H x y) : ∀ {ds : List (Key × D)} {vs : List (Key × V)}, RKs K M H ds vs → RKs K M H (ds ++ [(k, x)]) (vs ++ [(k, y)])
  | [], vs, h => by
    simp only [RKs] at h; subst h
    simp only [List.nil_append, RKs]
    exact ⟨y, [], rfl, hx, rfl⟩
  | (c, d) :: ds, vs, h => by
    simp only [RKs] at h
    obtain ⟨v, q, e, h1, h2⟩ := h
    subst e
    rw [List.cons_append, List.cons_append]
    simp only [RKs]
    exact ⟨v, _, rfl, h1, RKs.snoc hx h2⟩
theorem RKs.put {k : Key} {x : D} {y : V} (hx : RV K M H x y) {ds : List (Key × D)} {vs : List (Key × V)} (h : RKs K M H ds vs) : RKs K M H (setK ds k x) (putK vs k y) := by
  unfold setK putK
  rw [h.any]
  split
  · exact RKs.map hx h
  · exact RKs.snoc hx h
end
/-- the slots -/
def RS (K : PySem.W.Frag) (M : Mp) (H : Hp) (δ : St) (σ : L2.St) : Prop := δ.length = σ.length ∧ ∀ (i : Nat) (d : D), δ[i]? = some (some d) → ∃ v, σ[i]? = some (some v) ∧ RV K M H d v
section
variable {K : PySem.W.Frag} {M M' : Mp} {H H' : Hp} {δ : St} {σ σ' : L2.St}
theorem RS.mono (h : RS K M H δ σ) (x : Ext M H M' H') (r : RM K M H) : RS K M' H' δ σ := ⟨h.1, fun i d e => let ⟨v, e1, q⟩ := h.2 i d e; ⟨v, e1, RV.mono x r d v q⟩⟩
theorem RS.set (h : RS K M H δ σ) (i : Nat) {d : D} {v : V} (hd : RV K M H d v) : RS K M H (δ.set i (some d)) (σ.set i (some v)) := by
  refine ⟨by simp [h.1], fun j d' e => ?_⟩
  rw [List.getElem?_set] at e ⊢
  split at e
  · rename_i hi
    split at e
    · rename_i hl
      cases e
      rw [if_pos hi, if_pos (by rw [← h.1]; exact hl)]
      exact ⟨v, rfl, hd⟩
    · cases e
  · rename_i hi
    rw [if_neg hi]
    exact h.2 j d' e
theorem wipeD_length : ∀ (vs : List Nat) (δ : St), (wipeD δ vs).length = δ.length
  | [], δ => rfl
  | v :: vs, δ => by unfold wipeD; rw [List.length_set, wipeD_length]
theorem wipeD_some {i : Nat} {d : D} : ∀ {vs : List Nat} {δ : St}, (wipeD δ vs)[i]? = some (some d) → δ[i]? = some (some d) ∧ i ∉ vs
  | [], δ, h => ⟨h, by simp⟩
  | v :: vs, δ, h => by
    unfold wipeD at h
    rw [List.getElem?_set] at h
    split at h
    · split at h <;> cases h
    · rename_i hi
      obtain ⟨h1, h2⟩ := wipeD_some h
      exact ⟨h1, by simp only [List.mem_cons, not_or]; exact ⟨fun e => hi e.symm, h2⟩⟩
theorem RS.wipe (h : RS K M H δ σ) (vs : List Nat) : RS K M H (wipeD δ vs) σ := ⟨(wipeD_length _ _).trans h.1, fun i d e => h.2 i d (wipeD_some e).1⟩
theorem wipe_getElem? {σ : L2.St} {i : Nat} : ∀ {vs : List Nat}, (L2.wipe σ vs)[i]? = if i ∈ vs then (σ[i]?).map fun _ => none else σ[i]?
  | [] => by simp [L2.wipe]
  | v :: vs => by
    unfold L2.wipe
    rw [List.getElem?_set, wipe_length]
    by_cases hv : v = i
    · subst hv
      by_cases hl : v < σ.length
      · simp [hl]
      · simp [hl]
    · have hv' : ¬ i = v := fun e => hv e.symm
      rw [if_neg hv, wipe_getElem?]
      simp [hv']
theorem RS.wipe2 (h : RS K M H δ σ) (vs : List Nat) : RS K M H (wipeD δ vs) (L2.wipe σ vs) := ⟨by rw [wipeD_length, wipe_length]; exact h.1, fun i d e => by
  obtain ⟨h1, h2⟩ := wipeD_some e
  rw [wipe_getElem?, if_neg h2]
  exact h.2 i d h1⟩
end
end Pw
set_option Elab.async false
set_option linter.all false
set_option maxRecDepth 100000
namespace Pw
open PySem PySem.Spec PyProof.Rows L2

/-! ### a term stands for a piece of the program's text -/
/-- what is known of a def: its parameters, the values that fill up behind the first ones -/
structure FnI where
  ps : List Str
  dfl : List D
  /-- the last parameter is taken by its name alone -/
  kwn : Bool
  /-- a method: its class, its name -/
  at_ : Option (Str × Str)
structure Gc where
  fns : List (String × FnI)
  consts : List (Str × D)
  free : List Str
  excs : List Str
  clss : List Str
  /-- classes that are made, the attributes of their instances -/
  inst : List (Str × List Str)
/-- where one stands -/
structure Ct where
  N : List Str
  sc : Scope
  fnB : Str → Bool

def visB (sc : Scope) (x : Str) : Bool := match sc.names.lookup x with
  | some .local | some .cell | some .free => true
  | _ => false
def glB (sc : Scope) (x : Str) : Bool := match sc.names.lookup x with
  | some .globalImplicit => !(x == ("__debug__" : Str)) && !(x == ("__name__" : Str))
  | _ => false
def isLoc (sc : Scope) (x : Str) : Bool := match sc.names.lookup x with
  | some .local => true
  | _ => false
def stoB (C : Ct) (x : Str) : Bool := match C.sc.names.lookup x with
  | some .local => true
  | some .cell => C.fnB x
  | _ => false
def eqFlat : D → D → Bool
  | .int i, .int j => decide (i = j)
  | .str x, .str y => decide (x = y)
  | .non, .non => true
  | .bl a, .bl b => a == b
  | _, _ => false
def eqFlats : List D → List D → Bool
  | [], [] => true
  | x :: xs, y :: ys => eqFlat x y && eqFlats xs ys
  | _, _ => false
def litB (G : Gc) (C : Ct) (d : D) : Expr → Bool
  | .Constant c _ _ => (match c, d with
    | .none, .non => true
    | .bool a, .bl b => a == b
    | .int i, .int j => decide (i = j)
    | .str x, .str y => decide (x = y)
    | _, _ => false)
  | .Name x _ => glB C.sc x && (match G.consts.lookup x with
    | some d' => eqFlat d' d
    | none => false)
  | _ => false
def binB : BinO → Operator → Bool
  | .add, .Add | .sub, .Sub | .mul, .Mult | .fdiv, .FloorDiv | .mod, .Mod | .pow, .Pow => true
  | _, _ => false
def cmpB : CmpO → CmpOp → Bool
  | .eq, .Eq | .ne, .NotEq | .lt, .Lt | .le, .LtE | .gt, .Gt | .ge, .GtE | .is_, .Is | .isnot, .IsNot | .in_, .In | .notin, .NotIn => true
  | _, _ => false
def BF.nm : BF → String
  | .len => "len" | .max => "max" | .min => "min" | .sum => "sum" | .all => "all" | .any => "any" | .int => "int" | .str => "str" | .repr => "repr"
  | .list => "list" | .tuple => "tuple" | .sorted => "sorted" | .divmod => "divmod" | .abs => "abs"
def MF.nm : MF → String
  | .append => "append" | .pop => "pop" | .insert => "insert" | .remove => "remove" | .index => "index" | .count => "count" | .extend => "extend" | .clear => "clear" | .reverse => "reverse"
  | .get => "get" | .setdefault => "setdefault" | .join => "join" | .split => "split" | .strip => "strip" | .upper => "upper"
def nameB (C : Ct) (G : Gc) (f : String) : Expr → Bool
  | .Name x _ => decide (x = Str.ofString f) && glB C.sc x && decide (x ∈ G.free)
  | _ => false
def okTy (t : String) : Bool := t == "int" || t == "bool" || t == "str" || t == "tuple" || t == "list" || t == "dict"
def tysB (C : Ct) (G : Gc) (tys : List String) (e : Expr) : Bool := match e, tys with
  | .Name x p, [t] => nameB C G t (.Name x p) && okTy t
  | .Tuple es _ _, ts => decide (es.length = ts.length) && decide (ts.length ≤ 10) && (ts.zip es).all fun p => nameB C G p.1 p.2 && okTy p.1
  | _, _ => false
/-- a class of exceptions, by its name -/
def clsN (C : Ct) (G : Gc) (t : Str) : Expr → Bool
  | .Name x _ => decide (x = t) && (glB C.sc x && (decide (t ∈ G.clss) || (decide (t = ("ValueError" : Str)) && decide (t ∈ G.free))))
  | _ => false
def clssB (C : Ct) (G : Gc) (cs : List Str) (e : Expr) : Bool := match e, cs with
  | .Name x p, [t] => clsN C G t (.Name x p)
  | .Tuple es _ _, ts => decide (es.length = ts.length) && (decide (ts.length ≤ 10) && (ts.zip es).all fun p => clsN C G p.1 p.2)
  | _, _ => false
/-- the slots of a target -/
def tgSl : T → List Nat
  | .gname i => [i]
  | .gtup g => tgSl g
  | .cons g r => tgSl g ++ tgSl r
  | _ => []
/-- a comprehension's value, stored by the statement itself -/
def swB (sc : Scope) (tg e : Expr) : Bool := match e with
  | .ListComp _ _ s p => (match tg with
    | .Name t q => isLoc sc t && (q.line == p.line) && !(s.names.any fun z => z.1 == t && (z.2 == .local || z.2 == .cell))
    | _ => false)
  | .DictComp _ _ _ s p => (match tg with
    | .Name t q => isLoc sc t && (q.line == p.line) && !(s.names.any fun z => z.1 == t && (z.2 == .local || z.2 == .cell))
    | _ => false)
  | _ => false
def swOk (e : Expr) : Bool := match e with
  | .SetComp .. => false
  | _ => true
/-- names stored from the right -/
def isCompT : T → Bool
  | .comp .. => true
  | .comp2 .. => true
  | .dc1 .. => true
  | .dc2 .. => true
  | _ => false
/-- names stored from the right -/
def swpB (sc : Scope) (tg e : Expr) : Option (Option (List Str)) := match tg, e with
  | .Tuple ts _ _, .Tuple vs _ _ =>
    if !(ts.length == 2 || ts.length == 3) || vs.length != ts.length then some none
    else if (vs.any fun v => match v with | .Starred .. => true | _ => false) then some none
    else
      let line := (ts.head?.map (·.pos.line)).getD 0
      let names := ts.filterMap fun t => match t with
        | .Name id pos => if isLoc sc id && pos.line == line then some id else none
        | _ => none
      if names.length != ts.length || names.eraseDups.length != names.length then some none
      else if vs.all (foldedForSure 8) then some none
      else if vs.all (constantsAlone 8) then none
      else some (some names)
  | .List _ _, .Tuple _ _ _ => none
  | _, _ => some none
def plainTo : Expr → Bool
  | .Call (.Name id _) [] [] _ => decide (id ≠ ("super" : Str))
  | _ => true
def noTest : Expr → Bool
  | .UnaryOp .Not _ _ | .BoolOp .. | .IfExp .. | .Compare .. => false
  | _ => true
def noLc : Expr → Bool
  | .ListComp .. => false
  | .DictComp .. => false
  | _ => true
def noSet : Expr → Bool
  | .Set .. => false
  | _ => true
def noSlc : Expr → Bool
  | .Slice .. => false
  | _ => true
def noStar : Expr → Bool
  | .Starred .. => false
  | _ => true
def isTupE : Expr → Bool
  | .Tuple .. => true
  | _ => false
def ownOf (N : List Str) (own : List Nat) : List (Str × Nat) := own.map fun i => (N.getD i Str.empty, i)

mutual
def chE (G : Gc) : T → Ct → Expr → Bool
  | .var i, C, e => (match e with
    | .Name x _ => decide (C.N[i]? = some x) && visB C.sc x && !(x == ("__debug__" : Str)) && !(x == ("__classdict__" : Str))
    | _ => false)
  | .lit d, C, e => litB G C d e
  | .bin _ op a b, C, e => (match e with
    | .BinOp x o y _ => binB op o && chE G a C x && chE G b C y
    | _ => false)
  | .neg a, C, e => (match e with
    | .UnaryOp .USub x _ => chE G a C x
    | _ => false)
  | .not a, C, e => (match e with
    | .UnaryOp .Not x _ => chE G a C x
    | _ => false)
  | .and a b, C, e => (match e with
    | .BoolOp .And [x, y] _ => chE G a C x && chE G b C y
    | .BoolOp .And (x :: y :: z :: r) p => chE G a C x && chE G b C (.BoolOp .And (y :: z :: r) p)
    | _ => false)
  | .or a b, C, e => (match e with
    | .BoolOp .Or [x, y] _ => chE G a C x && chE G b C y
    | .BoolOp .Or (x :: y :: z :: r) p => chE G a C x && chE G b C (.BoolOp .Or (y :: z :: r) p)
    | _ => false)
  | .cmp op a b, C, e => (match e with
    | .Compare x [o] [y] _ => cmpB op o && chE G a C x && chE G b C y && noSet y
    | _ => false)
  | .chain o1 o2 a b c, C, e => (match e with
    | .Compare x [p, q] [y, z] _ => cmpB o1 p && cmpB o2 q && chE G a C x && chE G b C y && chE G c C z && noSet z
    | _ => false)
  | .ite c a b, C, e => (match e with
    | .IfExp t x y _ => chT G c C t && chE G a C x && chE G b C y
    | _ => false)
  | .tup es, C, e => (match e with
    | .Tuple xs _ _ => chL G es C xs && decide (cntL es ≤ 1000)
    | _ => false)
  | .tups es, C, e => (match e with
    | .Tuple xs _ _ => chX G es C xs
    | _ => false)
  | .lst _ es, C, e => (match e with
    | .List xs _ => chL G es C xs && decide (cntL es ≤ 1000)
    | _ => false)
  | .dct _, _, e => (match e with
    | .Dict [] [] _ => true
    | _ => false)
  | .dctT, _, e => (match e with
    | .Dict [] [] _ => true
    | _ => false)
  | .call f es dfl, C, e => (match e with
    | .Call (.Name x _) xs [] _ => decide (x = Str.ofString f) && glB C.sc x && chL G es C xs && (match G.fns.lookup f with
      | some I => decide (xs.length + dfl.length = I.ps.length) && eqFlats dfl I.dfl && (!I.kwn || !I.dfl.isEmpty) && I.at_.isNone
      | none => false)
    | _ => false)
  | .callk f es y a, C, e => (match e with
    | .Call (.Name x _) xs [⟨some z, v, _⟩] _ => decide (x = Str.ofString f) && decide (y = z) && glB C.sc x && chL G es C xs && chE G a C v && (match G.fns.lookup f with
      | some I => decide (xs.length + 1 = I.ps.length) && I.kwn && decide (I.ps.getLast? = some z) && decide (xs.length > 0) && I.at_.isNone
      | none => false)
    | _ => false)
  | .blt _ f es, C, e => (match e with
    | .Call g (x :: xs) [] _ => nameB C G f.nm g && chL G es C (x :: xs)
    | _ => false)
  | .isi a tys, C, e => (match e with
    | .Call g [x, t] [] _ => nameB C G "isinstance" g && noStar x && chE G a C x && tysB C G tys t
    | _ => false)
  | .conv _ l a, C, e => (match e with
    | .Call g [x] [] _ => nameB C G (if l then "list" else "tuple") g && noStar x && chE G a C x
    | _ => false)
  | .convr _ l es, C, e => (match e with
    | .Call g [.Call h xs [] _] [] _ => nameB C G (if l then "list" else "tuple") g && nameB C G "range" h && chL G es C xs && (decide (xs.length = 1) || decide (xs.length = 2))
    | _ => false)
  | .convv a, C, e => (match e with
    | .Call g [.Call h [x] [] _] [] _ => nameB C G "tuple" g && nameB C G "reversed" h && noStar x && chE G a C x
    | _ => false)
  | .meth _ f o es, C, e => (match e with
    | .Call (.Attribute x n ap) xs [] cp => decide (n = Str.ofString f.nm) && chE G o C x && chL G es C xs && plainTo x && (ap.endLine == cp.line) && decide (cntL es ≤ 20)
    | _ => false)
  | .idx a i, C, e => (match e with
    | .Subscript x y _ => chE G a C x && chE G i C y && noSlc y
    | _ => false)
  | .slc _ a lo hi, C, e => (match e with
    | .Subscript x (.Slice l h none _) _ => chE G a C x && chO G lo C l && chO G hi C h
    | _ => false)
  | .revs _ a, C, e => (match e with
    | .Subscript x (.Slice none none (some (.UnaryOp .USub (.Constant (.int 1) _ _) _)) _) _ => chE G a C x
    | _ => false)
  | .srtv _ a, C, e => (match e with
    | .Call f [.Call (.Attribute x n ap) [] [] cp] [⟨some r, v, _⟩] _ => nameB C G "sorted" f && decide (n = "values") && decide (r = Str.ofString "reverse") && plainTo x && (ap.endLine == cp.line) && chE G a C x && litB G C (.bl true) v
    | _ => false)
  | .sset _ a, C, e => (match e with
    | .Call f [.Call h [x] [] _] [] _ => nameB C G "sorted" f && nameB C G "set" h && noStar x && chE G a C x
    | _ => false)
  | .ldct a, C, e => (match e with
    | .Call f [.Call h [x] [] _] [] _ => nameB C G "len" f && nameB C G "dict" h && noStar x && chE G a C x
    | _ => false)
  | .lset a, C, e => (match e with
    | .Call f [.Call h [x] [] _] [] _ => nameB C G "len" f && nameB C G "set" h && noStar x && chE G a C x
    | _ => false)
  | .attr f o, C, e => (match e with
    | .Attribute x n _ => decide (n = f) && (plainTo x && chE G o C x)
    | _ => false)
  | .mcall key c m o es, C, e => (match e with
    | .Call (.Attribute x n ap) xs [] cp => decide (n = m) && (plainTo x && ((ap.endLine == cp.line) && decide (cntL es ≤ 20) && chE G o C x && (chL G es C xs && (match G.fns.lookup key with
      | some I => decide (I.at_ = some (c, m)) && (decide (xs.length + 1 = I.ps.length) && (I.dfl.isEmpty && !I.kwn))
      | none => false))))
    | _ => false)
  | .make key c es, C, e => (match e with
    | .Call (.Name x _) xs [] _ => decide (x = c) && (glB C.sc x && (chL G es C xs && ((G.inst.lookup c).isSome && (match G.fns.lookup key with
      | some I => decide (I.at_ = some (c, ("__init__" : Str))) && (decide (xs.length + 1 = I.ps.length) && (I.dfl.isEmpty && !I.kwn))
      | none => false))))
    | _ => false)
  | .comp _ own elt t it ifs, C, e => (match e with
    | .ListComp x [⟨tg, iter, cs, 0⟩] sc _ => chI G it C tg iter && blkC C.N C.sc sc (ownOf C.N own) && ((tgSl t).all fun i => own.contains i) && noSet iter &&
      chG G t ⟨C.N, relS sc C.sc, fun x => sc.names.lookup x == some .cell⟩ tg && chTs G ifs ⟨C.N, relS sc C.sc, fun x => sc.names.lookup x == some .cell⟩ cs && chE G elt ⟨C.N, relS sc C.sc, fun x => sc.names.lookup x == some .cell⟩ x
    | _ => false)
  | .comp2 _ own own2 elt t it ifs t2 it2 ifs2, C, e => (match e with
    | .ListComp x [⟨tg, iter, cs, 0⟩, ⟨tg2, iter2, cs2, 0⟩] sc _ => chI G it C tg iter && (blkC C.N C.sc sc (ownOf C.N own) && (((tgSl t).all fun i => own.contains i) && (((tgSl t2).all fun i => own2.contains i) && ((own2.all fun i => own.contains i) && (noSet iter && (noSet iter2 &&
      (chG G t ⟨C.N, relS sc C.sc, fun x => sc.names.lookup x == some .cell⟩ tg && (chTs G ifs ⟨C.N, relS sc C.sc, fun x => sc.names.lookup x == some .cell⟩ cs && (chI G it2 ⟨C.N, relS sc C.sc, fun x => sc.names.lookup x == some .cell⟩ tg2 iter2 &&
      (chG G t2 ⟨C.N, relS sc C.sc, fun x => sc.names.lookup x == some .cell⟩ tg2 && (chTs G ifs2 ⟨C.N, relS sc C.sc, fun x => sc.names.lookup x == some .cell⟩ cs2 && chE G elt ⟨C.N, relS sc C.sc, fun x => sc.names.lookup x == some .cell⟩ x)))))))))))
    | _ => false)
  | .dc1 _ own kx vx t it ifs, C, e => (match e with
    | .DictComp x y [⟨tg, iter, cs, 0⟩] sc _ => chI G it C tg iter && (blkC C.N C.sc sc (ownOf C.N own) && (((tgSl t).all fun i => own.contains i) && (noSet iter &&
      (chG G t ⟨C.N, relS sc C.sc, fun x => sc.names.lookup x == some .cell⟩ tg && (chTs G ifs ⟨C.N, relS sc C.sc, fun x => sc.names.lookup x == some .cell⟩ cs && (chE G kx ⟨C.N, relS sc C.sc, fun x => sc.names.lookup x == some .cell⟩ x && chE G vx ⟨C.N, relS sc C.sc, fun x => sc.names.lookup x == some .cell⟩ y))))))
    | _ => false)
  | .dc2 _ own own2 kx vx t it ifs t2 it2 ifs2, C, e => (match e with
    | .DictComp x y [⟨tg, iter, cs, 0⟩, ⟨tg2, iter2, cs2, 0⟩] sc _ => chI G it C tg iter && (blkC C.N C.sc sc (ownOf C.N own) && (((tgSl t).all fun i => own.contains i) && (((tgSl t2).all fun i => own2.contains i) && ((own2.all fun i => own.contains i) && (noSet iter && (noSet iter2 &&
      (chG G t ⟨C.N, relS sc C.sc, fun x => sc.names.lookup x == some .cell⟩ tg && (chTs G ifs ⟨C.N, relS sc C.sc, fun x => sc.names.lookup x == some .cell⟩ cs && (chI G it2 ⟨C.N, relS sc C.sc, fun x => sc.names.lookup x == some .cell⟩ tg2 iter2 &&
      (chG G t2 ⟨C.N, relS sc C.sc, fun x => sc.names.lookup x == some .cell⟩ tg2 && (chTs G ifs2 ⟨C.N, relS sc C.sc, fun x => sc.names.lookup x == some .cell⟩ cs2 && (chE G kx ⟨C.N, relS sc C.sc, fun x => sc.names.lookup x == some .cell⟩ x && chE G vx ⟨C.N, relS sc C.sc, fun x => sc.names.lookup x == some .cell⟩ y))))))))))))
    | _ => false)
  | .isx xs a cs, C, e => (match e with
    | .Call g [x, t] [] _ => nameB C G "isinstance" g && (noStar x && (chE G a C x && (clssB C G cs t && (!G.clss.isEmpty && xs.all fun q => decide (q ∈ G.excs)))))
    | _ => false)
  | .frz a, C, e => chE G a C e
  | _, _, _ => false
def chT (G : Gc) : T → Ct → Expr → Bool
  | .not a, C, e => (match e with
    | .UnaryOp .Not x _ => chT G a C x
    | _ => false)
  | .and a b, C, e => (match e with
    | .BoolOp .And [x, y] _ => chT G a C x && chT G b C y
    | .BoolOp .And (x :: y :: z :: r) p => chT G a C x && chT G b C (.BoolOp .And (y :: z :: r) p)
    | _ => false)
  | .or a b, C, e => (match e with
    | .BoolOp .Or [x, y] _ => chT G a C x && chT G b C y
    | .BoolOp .Or (x :: y :: z :: r) p => chT G a C x && chT G b C (.BoolOp .Or (y :: z :: r) p)
    | _ => false)
  | .cmp op a b, C, e => (match e with
    | .Compare x [o] [y] _ => cmpB op o && chE G a C x && chE G b C y && noSet y
    | _ => false)
  | .chain o1 o2 a b c, C, e => (match e with
    | .Compare x [p, q] [y, z] _ => cmpB o1 p && cmpB o2 q && chE G a C x && chE G b C y && chE G c C z && noSet z
    | _ => false)
  | .tst a, C, e => noTest e && chE G a C e
  | _, _, _ => false
def chTs (G : Gc) : T → Ct → List Expr → Bool
  | .nil, _, es => (match es with
    | [] => true
    | _ => false)
  | .cons a r, C, es => (match es, r with
    | [e], .nil => chT G a C e
    | _, _ => false)
  | _, _, _ => false
def chL (G : Gc) : T → Ct → List Expr → Bool
  | .nil, _, es => (match es with
    | [] => true
    | _ => false)
  | .cons a r, C, es => (match es with
    | e :: es => chE G a C e && noStar e && chL G r C es
    | _ => false)
  | _, _, _ => false
def chX (G : Gc) : T → Ct → List Expr → Bool
  | .nil, _, es => (match es with
    | [] => true
    | _ => false)
  | .star a r, C, es => (match es with
    | .Starred e _ :: es => chE G a C e && chX G r C es
    | _ => false)
  | .cons a r, C, es => (match es with
    | e :: es => chE G a C e && (noStar e && chX G r C es)
    | _ => false)
  | _, _, _ => false
def chO (G : Gc) : T → Ct → Option Expr → Bool
  | .nil, _, e => (match e with
    | none => true
    | _ => false)
  | .cons a _, C, e => (match e with
    | some e => chE G a C e
    | none => false)
  | _, _, _ => false
def chI (G : Gc) : T → Ct → Expr → Expr → Bool
  | .ival a, C, _, e => chE G a C e
  | .irng es, C, _, e => (match e with
    | .Call g xs [] _ => nameB C G "range" g && chL G es C xs && (decide (xs.length = 1) || decide (xs.length = 2))
    | _ => false)
  | .ienum a, C, tg, e => (match e with
    | .Call g [x] [] _ => nameB C G "enumerate" g && chE G a C x && isTupE tg && noStar x
    | _ => false)
  | .izip es, C, tg, e => (match e with
    | .Call g xs [] _ => nameB C G "zip" g && chL G es C xs && isTupE tg && decide (xs.length = 2 ∨ xs.length = 3)
    | _ => false)
  | .itk a, C, _, e => chE G a C e
  | .iitm a, C, tg, e => (match e with
    | .Call (.Attribute x n ap) [] [] cp => decide (n = "items") && chE G a C x && plainTo x && (ap.endLine == cp.line) && isTupE tg
    | _ => false)
  | .ivls a, C, _, e => (match e with
    | .Call (.Attribute x n ap) [] [] cp => decide (n = "values") && chE G a C x && plainTo x && (ap.endLine == cp.line)
    | _ => false)
  | .irev a, C, _, e => (match e with
    | .Call g [x] [] _ => nameB C G "reversed" g && chE G a C x && noStar x
    | _ => false)
  | _, _, _, _ => false
def chG (G : Gc) : T → Ct → Expr → Bool
  | .gname i, C, e => (match e with
    | .Name x _ => decide (C.N[i]? = some x) && stoB C x
    | _ => false)
  | .gtup gs, C, e => (match e with
    | .Tuple es _ _ => chGs G gs C es
    | _ => false)
  | .gsub o i, C, e => (match e with
    | .Subscript x y _ => chE G o C x && chE G i C y && noSlc y
    | _ => false)
  | _, _, _ => false
def chGs (G : Gc) : T → Ct → List Expr → Bool
  | .nil, _, es => (match es with
    | [] => true
    | _ => false)
  | .cons a r, C, es => (match es with
    | e :: es => chG G a C e && noStar e && chGs G r C es
    | _ => false)
  | _, _, _ => false
def chS (G : Gc) : T → Ct → Stmt → Bool
  | .asg g a, C, s => (match s with
    | .Assign [tg] e _ => chG G g C tg && chE G a C e && swOk e && noStar tg && (match swpB C.sc tg e with
      | some none => true
      | _ => false) && (!swB C.sc tg e || isCompT a)
    | _ => false)
  | .par is es, C, s => (match s with
    | .Assign [.Tuple [.Name x px, .Name y py] kt pt] (.Tuple [a, b] k2 p2) _ => chL G es C [a, b] && (match is with
      | [i, j] => decide (C.N[i]? = some x) && decide (C.N[j]? = some y) && decide (i ≠ j) && isLoc C.sc x && isLoc C.sc y && (match swpB C.sc (.Tuple [.Name x px, .Name y py] kt pt) (.Tuple [a, b] k2 p2) with
        | some (some ns) => decide (ns = [x, y])
        | _ => false)
      | _ => false)
    | _ => false)
  | .aug op i a, C, s => (match s with
    | .AugAssign (.Name x _) o e _ => binB op o && decide (C.N[i]? = some x) && stoB C x && visB C.sc x && chE G a C e
    | _ => false)
  | .augs op o i a, C, s => (match s with
    | .AugAssign (.Subscript x y _) p e _ => binB op p && chE G o C x && chE G i C y && chE G a C e && noSlc y
    | _ => false)
  | .sattr c f o a, C, s => (match s with
    | .Assign [.Attribute x n _] e _ => decide (n = f) && (swOk e && (noLc e && (chE G a C e && (chE G o C x && (match G.inst.lookup c with
      | some fs => decide (f ∈ fs)
      | none => false)))))
    | _ => false)
  | .doc, _, s => (match s with
    | .Expr (.Constant (.str _) _ _) _ => true
    | _ => false)
  | .expr a, C, s => (match s with
    | .Expr e _ => chE G a C e && swOk e && noLc e
    | _ => false)
  | .ret a, C, s => (match s with
    | .Return (some e) _ => chE G a C e
    | _ => false)
  | .retn, _, s => (match s with
    | .Return none _ => true
    | _ => false)
  | .ifs c a b, C, s => (match s with
    | .If t xs ys _ => chT G c C t && chSs G a C xs && chSs G b C ys
    | _ => false)
  | .for_ _ g it body, C, s => (match s with
    | .For tg iter xs [] _ => chG G g C tg && chI G it C tg iter && chSs G body C xs && noSet iter
    | _ => false)
  | .while_ _ c body, C, s => (match s with
    | .While t xs [] _ => chT G c C t && chSs G body C xs
    | _ => false)
  | .pass, _, s => (match s with
    | .Pass _ => true
    | _ => false)
  | .brk, _, s => (match s with
    | .Break _ => true
    | _ => false)
  | .cont, _, s => (match s with
    | .Continue _ => true
    | _ => false)
  | .raise c m, C, s => (match s with
    | .Raise (some (.Call (.Name x _) [.Constant (.str y) _ _] [] _)) none _ => decide (x = c) && decide (y = m) && glB C.sc x && decide (c ∈ G.excs)
    | _ => false)
  | .tryx xs c i j body, C, s => (match s with
    | .Try b [.ExceptHandler (some (.Name x _)) (some n) [.Assign [.Name y _] (.Name z _) _] _] [] [] _ => decide (x = c) && (glB C.sc x && (decide (c ∈ G.clss) && (decide (C.N[i]? = some n) && (isLoc C.sc n && (decide (z = n) && (!(n == ("__debug__" : Str)) && (!(n == ("__classdict__" : Str)) && (decide (C.N[j]? = some y) && (isLoc C.sc y &&
      (decide (i ≠ j) && ((xs.all fun q => decide (q ∈ G.excs) && excIs q c) && chSs G body C b)))))))))))
    | _ => false)
  | _, _, _ => false
def chSs (G : Gc) : T → Ct → List Stmt → Bool
  | .nil, _, ss => (match ss with
    | [] => true
    | _ => false)
  | .cons a r, C, ss => (match ss with
    | s :: ss => chS G a C s && chSs G r C ss
    | _ => false)
  | _, _, _ => false
end
end Pw
set_option Elab.async false
set_option linter.all false
set_option maxRecDepth 100000
namespace Pw
open PySem PySem.Spec PyProof.Rows L2

/-! ### defs, called where no repr is under way -/
structure RoomG (k : Nat) (A : Around) : Prop where
  rm : Room k A
  gd : A.guards = some []
theorem RoomG.deeper {k : Nat} {A : Around} (r : RoomG (k + 1) A) (env : Env) : RoomG k (A.deeper env) := ⟨r.rm.deeper env, r.gd⟩
theorem RoomG.mono {j k : Nat} {A : Around} (r : RoomG k A) (h : j ≤ k) : RoomG j A := ⟨r.rm.mono h, r.gd⟩
/-- where a def's body runs: with room for a class that is made, too -/
structure RoomX (k : Nat) (A : Around) : Prop extends RoomG k A where
  sd : A.depth + 3 * k + 6 < recursionLimit
  su : A.units + 16 * k + 201 < cLine
theorem RoomG.deeperX {k : Nat} {A : Around} (r : RoomG (k + 1) A) (env : Env) : RoomX k (A.deeper env) :=
  ⟨r.deeper env, by have := r.rm.dp; show A.depth + 1 + 3 * k + 6 < _; omega, by have := r.rm.un; show A.units + 3 + 16 * k + 201 < _; omega⟩
theorem RoomX.make {k : Nat} {A : Around} (r : RoomX k A) (C : Addr) (us : List Value) : RoomG k (A.under (.builtin "type.__call__" ⟨.ref C :: us, []⟩)) :=
  ⟨⟨r.rm.hd, by have := r.sd; rw [make_depth]; omega, by have := r.su; rw [make_units]; omega⟩, r.gd⟩
section
variable {P : Program} {w : World} {K : PySem.W.Frag} {mg : Str → Option Value} {base : Heap}
variable (P w K mg base) in
/-- the def at f keeps the promise sp -/
structure FnG (k : Nat) (f : Addr) (fd : FuncData) (ps : List Str) (sp : Sp) : Prop where
  ar : ∀ vs H Q E, sp vs H Q E → vs.length = ps.length
  go : ∀ (A : Around) (outer : List Env) (s : Shared) (H : Hp) (args : Args) (us : List Value) (vs : List V) (Q : VK) (E : XK),
    RoomG k A → Env0 P w K mg base A outer s H → BindsTo s fd args (ps.zip us) → Vals vs us → sp vs H Q E →
    codeAny (model P w) A (.call (.ref f) args) (CR (L2.CX P w) outer P w H s Q E) s
/-- a def of the text, by its body -/
theorem fnG_of {k : Nat} {f : Addr} {x qual : Str} {params : Arguments} {body : List Stmt} {scope : Scope} {dvs : List V} {kws : List (Str × V)} {fd : FuncData} {N ps : List Str} {sp : Sp}
    (F : FunD K x qual params body scope dvs kws f fd) (S : FnScope N ps scope) (ar : ∀ vs H Q E, sp vs H Q E → vs.length = ps.length)
    (hb : ∀ (cdv : Value) (A : Around) (outer : List Env) (s : Shared) (H : Hp) (vs : List V) (Q : VK) (E : XK), RoomX k (A.deeper (envOfC qual scope s.heap.objs.size f cdv)) → sp vs H Q E →
      ∃ t, PSs (cxOf (L2.CX P w) P w K mg base N qual scope f cdv A outer s H E) body t ∧ t { nx := fun _ H' => Q .non H', rt := Q } (start N vs) H) : FnG P w K mg base (k + 1) f fd ps sp := by
  obtain ⟨oc, od, dV, kV, doc, pm, an, cdv, ct, osl, rfl, lk, hcd, _, _⟩ := F.ex
  refine ⟨ar, fun A outer s H args us vs Q E room env bind rel want => ?_⟩
  have hl := ar _ _ _ _ want
  have stays : ∀ b o, base.get? b = some o → s.heap.get? b = some o := fun b o e => (env.bs b o e).1
  have KX : K.In s.heap := env.mod.kin.keeps stays
  have kinds : ∀ y ∈ ps.zip us, scope.names.lookup y.1 = some .local ∨ (scope.names.lookup y.1 = some .cell ∧ ((cellsFrom (s.heap.objs.size + 1) scope.names []).lookup y.1).isSome = true) := by
    rintro ⟨n, v⟩ hy
    have hn : n ∈ ps := (List.of_mem_zip hy).1
    rcases S.par n hn with q | q
    · exact .inl q
    · exact .inr ⟨q, PySem.W.cellsFrom_some _ _ _ (.inl q)⟩
  refine codeAny_call_function room.rm.depth (KX _ _ lk) rfl S.co S.gen rfl (PySem.W.codeRec_of KX hcd) (bind _ _ _ _ ?_)
  refine wpAny_newFunctionEnv_cells S.kind kinds fun ev hev s1 x => ?_
  subst hev
  refine ⟨(env.mod.nolimit.keeps stays).keeps x.toInCall.keep, codeAny_func ?_⟩
  obtain ⟨t, ht, hq⟩ := hb cdv A outer s H vs Q E (room.deeperX _) want
  have I0 := inv_start (CX := L2.CX P w) (mg := mg) (E := E) S room.rm.hd env hl rel x
  refine wpAny_mono (ht.run [] s1 (start N vs) H _ I0 hq) (fun fl s' out => ?_) fun e s' out => out
  cases fl with
  | ret u =>
    obtain ⟨v, σ', H', J, rv, q⟩ := out
    exact ⟨v, H', J.os, J.bare, J.base, J.hok, rv, q⟩
  | next =>
    obtain ⟨σ', H', J, q⟩ := out
    exact ⟨V.non, H', J.os, J.bare, J.base, J.hok, rfl, q⟩
  | brk => obtain ⟨_, _, _, q⟩ := out; exact q.elim
  | cont => obtain ⟨_, _, _, q⟩ := out; exact q.elim
theorem FnG.mono {j k : Nat} {f : Addr} {fd : FuncData} {ps : List Str} {sp : Sp} (F : FnG P w K mg base j f fd ps sp) (h : j ≤ k) : FnG P w K mg base k f fd ps sp :=
  ⟨F.ar, fun A outer s H args us vs Q E room => F.go A outer s H args us vs Q E (room.mono h)⟩
end
section
variable {X : Cx} {k : Nat} {f : Addr} {fd : FuncData} {ps ks : List Str} {sp : Sp} {dvs : List V} {ds : List Value} {x : Str} {p pos : Pos} {es : List Expr} {t : TA} {E : L2.St → XK}
/-- the callee runs; what it may let out is told with the caller's slots -/
theorem goG {pins : List (Addr × Obj)} {σ : L2.St} {H : Hp} {s : Shared} {Q : VK} {args : Args} {us : List Value} {vs : List V} (F : FnG X.prog X.w X.K X.mg X.base k f fd ps sp) (hr : RoomG k X.A) (hb : BindsTo s fd args (ps.zip us))
    (hx : PassesAt (L2.CX X.prog X.w) X σ (E σ)) (I : Inv X pins σ H s) (r : Vals vs us) (h : sp vs H Q (E σ)) : codeAny (model X.prog X.w) X.A (.call (.ref f) args) (callEnd (EP X pins σ Q) X.xe) s := by
  refine codeAny_mono (F.go X.A X.stack s H args us vs Q (E σ) hr I.env0 hb r h) fun r s' out => ?_
  cases r with
  | error e => exact hx pins H s e s' I out
  | ok fl =>
    cases fl with
    | ret u => exact I.after out
    | next => exact out.elim
    | brk => exact out.elim
    | cont => exact out.elim
end
end Pw
set_option Elab.async false
set_option linter.all false
set_option maxRecDepth 100000
set_option maxHeartbeats 2000000
namespace Pw
open PySem PySem.Spec PyProof.Rows L2

/-! ### new tuples, their objects known -/
def NewT (H : Hp) (xs : List V) (Q : VK) : Prop := ∀ p o, H p = none → o.dict = none → Q (.ref p) (upd H p (.frz o (.tup xs)))
section
variable {X : Cx} {pins : List (Addr × Obj)} {σ : L2.St} {H : Hp} {s : Shared} {xs : List V} {its : List Value} {Q : VK}
theorem newT_ok (I : Inv X pins σ H s) (r : Vals xs its) (z : xs.length ≤ sizeLine) (q : NewT H xs Q) (t' : Nat) :
    EP X pins σ Q (.ref s.heap.objs.size) { s with heap := s.heap.push { cls := .type "tuple", data := .seq its.toArray }, toks := t' } :=
  ⟨.ref s.heap.objs.size, _, I.laid (o := .frz { cls := .type "tuple", data := .seq its.toArray } (.tup xs)) (fun _ _ e => Heap.get?_push_of_some _ e) (Nat.le_refl _) ⟨Heap.get?_push_size _ rfl, z, its, r, IsTup.new _ _⟩, rfl, q _ _ (I.hok.fresh (Nat.le_refl _)) rfl⟩
def tTupF (t : TA) : TE := fun σ H Q => t σ H fun xs H1 => xs.length ≤ sizeLine ∧ NewT H1 xs Q
theorem pe_tupF {es : List Expr} {t : TA} {j : Nat} {pos : Pos} (h : PA X es t) : PE X (.Tuple es j pos) (tTupF t) := by
  refine ⟨fun pins s σ H Q I hq => ?_⟩
  refine wpAny_Tuple_spliced (thn (h.run pos pins s σ H _ I hq) fun us s1 ⟨xs, H1, I1, r, z, q⟩ => ⟨by rw [← r.length]; exact z, ?_⟩)
  exact newT_ok I1 r z q s1.toks
def rCatF (K : PySem.W.Frag) : R2 := fun x y H Q => ∃ a b xs ys, x = .ref a ∧ y = .ref b ∧ SqT K H a xs ∧ SqT K H b ys ∧ xs.length + ys.length ≤ sizeLine ∧
  (xs = [] → Q (.ref b) H) ∧ (xs ≠ [] → ys = [] → Q (.ref a) H) ∧ NewT H (xs ++ ys) Q
theorem op_catF : OpR X (binaryOp .Add) (rCatF X.K) := by
  intro pins s σ H x y v u Q I rx ry h
  obtain ⟨a, b, xs, ys, rfl, rfl, ha, hb, hz, q0, q1, q2⟩ := h
  cases rx
  cases ry
  obtain ⟨its, r1, p1, _⟩ := I.tuple ha
  obtain ⟨its2, r2, p2, _⟩ := I.tuple hb
  by_cases hx : xs = []
  · subst hx
    cases r1
    exact cat_tup0 p1 p2 ⟨.ref b, H, I, rfl, q0 rfl⟩
  · refine HT.cat_tup p1 p2 (fun z => hx (r1.nil_iff.mp z)) (fun z => ⟨.ref a, H, I, rfl, q1 hx (r2.nil_iff.mp z)⟩) (fun z => ?_) (by rw [← r1.length, ← r2.length]; exact hz)
    exact newT_ok I (r1.append r2) (by rw [List.length_append]; exact hz) q2 s.toks
def rRepF (K : PySem.W.Frag) : R2 := fun x y H Q => ∃ l k xs, x = .ref l ∧ y = .int k ∧ SqT K H l xs ∧ xs ≠ [] ∧ 2 ≤ k ∧ k ≤ 1000 ∧ xs.length ≤ 1000 ∧ NewT H (List.replicate k.toNat xs).flatten Q
theorem op_repF : OpR X (binaryOp .Mult) (rRepF X.K) := by
  intro pins s σ H x y v u Q I rx ry h
  obtain ⟨l, k, xs, rfl, rfl, hT, hne, h1, h2, hz, q⟩ := h
  cases rx
  obtain ⟨t, rfl⟩ := ry
  obtain ⟨its, r, ⟨⟨cls, dd, data, sl⟩, ho, hc, n, hd⟩, hs⟩ := I.tuple hT
  simp only at hc hd
  subst hc hd
  have hle : its.length = xs.length := r.length.symm
  have hn : its ≠ [] := fun e => hne (by
    rw [e] at hle
    exact List.eq_nil_of_length_eq_zero hle.symm)
  have hi : its.toArray.isEmpty = false := by
    cases its with
    | nil => exact absurd rfl hn
    | cons a b => rfl
  have hsz0 : its.toArray.size = xs.length := by rw [List.size_toArray, hle]
  have a0 : ((xs.length : Nat) : Int) * k ≤ 1000 * k := Int.mul_le_mul_of_nonneg_right (by omega) (by omega)
  have hm : ((its.toArray.size : Nat) : Int) * k ≤ 1000000 := by rw [hsz0]; omega
  have a1 : k.toNat * xs.length ≤ 1000 * 1000 := Nat.mul_le_mul (by omega) hz
  have flen : (List.replicate k.toNat its).flatten.length ≤ sizeLine := by
    rw [PyProof.Rows.lm_len_rep_flat, hle, sizeLine_eq]
    omega
  have c0 : (decide (k < -(2 ^ 63)) || decide (k ≥ 2 ^ 63)) = false := by
    rw [decide_eq_false (by omega), decide_eq_false (by omega)] <;> rfl
  have c1 : (its.toArray.isEmpty || k == 1) = false := by
    rw [hi, Bool.false_or]
    exact beq_eq_false_iff_ne.mpr (by omega)
  have c2 : (decide (k ≤ 0) || its.toArray.isEmpty) = false := by
    rw [hi, Bool.or_false]
    exact decide_eq_false (by omega)
  have c4 : Builtin.Tuple.tupleTooMany (((its.toArray.size : Nat) : Int) * k) = false := by
    unfold Builtin.Tuple.tupleTooMany
    rw [sizeLine_eq]
    exact decide_eq_false (by omega)
  refine wpAny_binaryOp_repeat_ref (T := "tuple") (U := "int") (by decide) ⟨_, ho, rfl⟩ (fun s' => typeIs_int s' k t) noFill_tuple_mul F.fills_int_mul F.slot_int_rmul repeat_tuple F.slot_int_index.lookup
    (call_meets F.slot_int_rmul (typeIs_int s k t) F.entry_int_rmul (F.args_int_rmul_2 _ _) (int_rmul_tuple k t l its.toArray n dd sl)
      ⟨ho, rfl, ⟨_, ho, rfl⟩, call_meets F.slot_tuple_mul ⟨_, ho, rfl⟩ F.entry_tuple_mul (F.args_tuple_mul_2 _ _) (tuple_mulW l its.toArray n dd sl k t c0 c1 c2 (by omega) c4 (by rw [size_rep, List.size_toArray]; exact flen)) ⟨ho, ?_⟩⟩)
  rw [size_rep]
  exact newT_ok I (r.rep k.toNat) (by rw [PyProof.Rows.lm_len_rep_flat, sizeLine_eq]; omega) q s.toks
def rSlF (K : PySem.W.Frag) : V → Option Int → Option Int → Hp → VK → Prop := fun x lo hi H Q => ∃ a xs, x = .ref a ∧ SqT K H a xs ∧
  (HT.sIx xs.length 0 lo = 0 ∧ HT.sIx xs.length xs.length hi = xs.length → Q (.ref a) H) ∧ NewT H (cutV xs lo hi) Q
theorem sl_tupF : SlR X (rSlF X.K) := by
  intro pins s σ H x v vl vu lo hi sl Q I rx hs pl pu h
  obtain ⟨a, xs, rfl, hx, q1, q2⟩ := h
  cases rx
  obtain ⟨its, r, ht, hz⟩ := I.tuple hx
  have hlen : its.toArray.size = xs.length := by rw [List.size_toArray]; exact r.length.symm
  refine ⟨"tuple", _, PyProof.Rows.slot_tuple_getitem.lookup, ht.typeIs, ?_⟩
  by_cases hw : HT.sIx xs.length 0 lo = 0 ∧ HT.sIx xs.length xs.length hi = xs.length
  · exact getItem_tuple_whole ht hs pl pu (by rw [hlen]; exact hw) ⟨.ref a, H, I, rfl, q1 hw⟩
  · refine HT.getItem_tuple_cut ht hs pl pu (by rw [hlen]; exact hw) ?_ (by rw [hlen]; exact hz)
    rw [hlen]
    exact newT_ok I ((r.drop (HT.sIx xs.length 0 lo)).take (HT.sIx xs.length xs.length hi - HT.sIx xs.length 0 lo)) (Nat.le_trans (cutV_length xs lo hi) hz) q2 s.toks
theorem call_divmodF : CallR X (.builtin "divmod") (fun xs H Q => ∃ i j, xs = [.int i, .int j] ∧ (0 < j ∧ j.natAbs.log2 < 9000) ∧ NewT H [.int (i / j), .int (i % j)] Q) := by
  intro pins s σ H xs us Q I r h
  obtain ⟨i, j, rfl, ⟨h1, h2⟩, q⟩ := h
  obtain ⟨u, w', rfl, ⟨t, rfl⟩, ⟨t', rfl⟩⟩ := vals2 r
  refine divmod_int (by omega) ?_ (.inl (PyProof.noPylong_of_log2 h2))
  rw [Int.fdiv_eq_ediv_of_nonneg i (by omega), Int.fmod_eq_emod_of_nonneg i (by omega)]
  exact newT_ok (xs := [V.int (i / j), V.int (i % j)]) (its := [.int (i / j) s.toks, .int (i % j) (s.toks + 1)]) I (.cons ⟨_, rfl⟩ (.cons ⟨_, rfl⟩ .nil)) (by simp only [List.length_cons, List.length_nil]; rw [sizeLine_eq]; decide) q _
/-- tuple(xs) of a list -/
theorem call_tupleF : CallR X (.type "tuple") (fun xs H Q => ∃ p ys, xs = [.ref p] ∧ ((SqL X.K H p ys ∧ NewT H ys Q) ∨ (SqT X.K H p ys ∧ Q (.ref p) H))) := by
  intro pins s σ H xs us Q I r h
  obtain ⟨p, ys, rfl, h⟩ := h
  obtain ⟨u, rfl, rx⟩ := vals1 r
  cases rx
  rcases h with ⟨hq, q⟩ | ⟨hq, q⟩
  · obtain ⟨its, r', pl, hz⟩ := I.list hq
    have hlen := r'.length
    refine call_tuple_list pl.isList (fun h' kp => ?_) (by simp only [List.size_toArray] <;> omega)
    exact newT_ok (s := { s with heap := h' }) (I.kept (t' := s.toks) kp) r' hz q s.toks
  · obtain ⟨its, r', pl, hz⟩ := I.tuple hq
    exact call_tuple_same pl ⟨.ref p, H, I, rfl, q⟩
end
end Pw
set_option Elab.async false
set_option linter.all false
set_option maxRecDepth 100000
set_option maxHeartbeats 4000000
namespace Pw
open PySem PySem.Spec PyProof.Rows L2
/-- once a tuple: the tuple itself -/
theorem tuple_mul1 (l : Addr) (items : Array Value) (n : Nat) (dd : Option Addr) (sl : Array (Option Value)) (u : Tok) :
    Meets (Builtin.«tuple.__mul__» ⟨[.ref l, .int 1 u], []⟩) (fun _ R s => s.heap.get? l = some { cls := .type "tuple", dict := dd, data := .seq items n, slots := sl } ∧ R (.ok (.ret (.ref l))) s) :=
  .of_wp fun prog w A R s h => by
    obtain ⟨hp, g, d, tk, os⟩ := s
    obtain ⟨hl, h⟩ := h
    have f1 := AutoSeq1.idx_int
    wp_walk using wpAny_loadPart' hl
    exact ⟨_, rfl, h⟩
/-- not once: a new empty tuple -/
theorem tuple_mul0 (l : Addr) (items : Array Value) (n : Nat) (dd : Option Addr) (sl : Array (Option Value)) (x : Int) (u : Tok) (c0 : (decide (x < -(2 ^ 63)) || decide (x ≥ 2 ^ 63)) = false) (c1 : (items.isEmpty || x == 1) = false) (c2 : (decide (x ≤ 0) || items.isEmpty) = true) :
    Meets (Builtin.«tuple.__mul__» ⟨[.ref l, .int x u], []⟩) (fun _ R s => s.heap.get? l = some { cls := .type "tuple", dict := dd, data := .seq items n, slots := sl } ∧
      R (.ok (.ret (Value.ref s.heap.objs.size))) { s with heap := s.heap.push { cls := Value.type "tuple", data := Data.seq #[] }, toks := s.toks }) :=
  .of_wp fun prog w A R s h => by
    obtain ⟨hp, g, d, tk, os⟩ := s
    obtain ⟨hl, h⟩ := h
    have f1 := AutoSeq1.idx_int
    wp_walk using wpAny_loadPart' hl
    repeat (first
      | (refine wpAny_ite_false (decide_eq_false (by rw [c0]; exact Bool.false_ne_true)) ?_; wp_walk using wpAny_loadPart' hl)
      | (refine wpAny_ite_false (decide_eq_false (by rw [c1]; exact Bool.false_ne_true)) ?_; wp_walk using wpAny_loadPart' hl)
      | (refine wpAny_ite_true (decide_eq_true (by rw [c2])) ?_; wp_walk using wpAny_loadPart' hl))
    exact ⟨_, rfl, h⟩
section
variable {X : Cx}
theorem op_rep1 : OpR X (binaryOp .Mult) (fun x y H Q => ∃ l xs, x = .ref l ∧ y = .int 1 ∧ SqT X.K H l xs ∧ Q (.ref l) H) := by
  intro pins s σ H x y v u Q I rx ry h
  obtain ⟨l, xs, rfl, rfl, hT, q⟩ := h
  cases rx
  obtain ⟨t, rfl⟩ := ry
  obtain ⟨its, r, ⟨⟨cls, dd, data, sl⟩, ho, hc, n, hd⟩, hs⟩ := I.tuple hT
  simp only at hc hd
  subst hc hd
  exact wpAny_binaryOp_repeat_ref (T := "tuple") (U := "int") (by decide) ⟨_, ho, rfl⟩ (fun s' => typeIs_int s' 1 t) noFill_tuple_mul F.fills_int_mul F.slot_int_rmul repeat_tuple F.slot_int_index.lookup
    (call_meets F.slot_int_rmul (typeIs_int s 1 t) F.entry_int_rmul (F.args_int_rmul_2 _ _) (int_rmul_tuple 1 t l its.toArray n dd sl)
      ⟨ho, rfl, ⟨_, ho, rfl⟩, call_meets F.slot_tuple_mul ⟨_, ho, rfl⟩ F.entry_tuple_mul (F.args_tuple_mul_2 _ _) (tuple_mul1 l its.toArray n dd sl t) ⟨ho, ⟨.ref l, H, I, rfl, q⟩⟩⟩)
theorem op_rep0 : OpR X (binaryOp .Mult) (fun x y H Q => ∃ l k xs, x = .ref l ∧ y = .int k ∧ SqT X.K H l xs ∧ xs ≠ [] ∧ -1000 ≤ k ∧ k ≤ 0 ∧ NewT H [] Q) := by
  intro pins s σ H x y v u Q I rx ry h
  obtain ⟨l, k, xs, rfl, rfl, hT, hne, h1, h2, q⟩ := h
  cases rx
  obtain ⟨t, rfl⟩ := ry
  obtain ⟨its, r, ⟨⟨cls, dd, data, sl⟩, ho, hc, n, hd⟩, hs⟩ := I.tuple hT
  simp only at hc hd
  subst hc hd
  have hle : its.length = xs.length := r.length.symm
  have hn : its ≠ [] := fun e => hne (by
    rw [e] at hle
    exact List.eq_nil_of_length_eq_zero hle.symm)
  have hi : its.toArray.isEmpty = false := by
    cases its with
    | nil => exact absurd rfl hn
    | cons a b => rfl
  have c0 : (decide (k < -(2 ^ 63)) || decide (k ≥ 2 ^ 63)) = false := by
    rw [decide_eq_false (by omega), decide_eq_false (by omega)] <;> rfl
  have c1 : (its.toArray.isEmpty || k == 1) = false := by
    rw [hi, Bool.false_or]
    exact beq_eq_false_iff_ne.mpr (by omega)
  have c2 : (decide (k ≤ 0) || its.toArray.isEmpty) = true := by
    rw [decide_eq_true (by omega), Bool.true_or]
  refine wpAny_binaryOp_repeat_ref (T := "tuple") (U := "int") (by decide) ⟨_, ho, rfl⟩ (fun s' => typeIs_int s' k t) noFill_tuple_mul F.fills_int_mul F.slot_int_rmul repeat_tuple F.slot_int_index.lookup
    (call_meets F.slot_int_rmul (typeIs_int s k t) F.entry_int_rmul (F.args_int_rmul_2 _ _) (int_rmul_tuple k t l its.toArray n dd sl)
      ⟨ho, rfl, ⟨_, ho, rfl⟩, call_meets F.slot_tuple_mul ⟨_, ho, rfl⟩ F.entry_tuple_mul (F.args_tuple_mul_2 _ _) (tuple_mul0 l its.toArray n dd sl k t c0 c1 c2) ⟨ho, ?_⟩⟩)
  exact newT_ok I (.nil) (by simp) q s.toks
end
end Pw
set_option Elab.async false
set_option linter.all false
set_option maxRecDepth 100000
namespace Pw
open PySem PySem.Spec PyProof.Rows L2

/-! ### what is seen of a heap: U of H -/
def Vw (U H : Hp) : Prop := ∀ a o, U a = some o → H a = some o
/-- what is not seen stays -/
structure Kp (U H U' H' : Hp) : Prop where
  st : ∀ a o, H a = some o → U a = none → H' a = some o ∧ U' a = none
  vw : Vw U' H'
theorem Vw.refl {H : Hp} : Vw H H := fun _ _ h => h
theorem Vw.none {U H : Hp} (vw : Vw U H) {a : Addr} (h : H a = none) : U a = none := by
  cases e : U a with
  | none => rfl
  | some o => rw [vw a o e] at h; cases h
theorem Kp.refl {U H : Hp} (vw : Vw U H) : Kp U H U H := ⟨fun _ _ h n => ⟨h, n⟩, vw⟩
theorem Kp.trans {U H U' H' U'' H'' : Hp} (a : Kp U H U' H') (b : Kp U' H' U'' H'') : Kp U H U'' H'' := ⟨fun c o h n => b.st c o (a.st c o h n).1 (a.st c o h n).2, b.vw⟩
theorem Vw.upd {U H : Hp} (vw : Vw U H) {p : Addr} {o : HO} : Vw (upd U p o) (upd H p o) := fun a x e => by
  by_cases z : a = p
  · subst z
    rw [upd_same] at e ⊢
    exact e
  · rw [upd_ne z] at e ⊢
    exact vw a x e
theorem Kp.new {U H : Hp} (vw : Vw U H) {p : Addr} {o : HO} (hp : H p = none) : Kp U H (upd U p o) (upd H p o) := ⟨fun a x h n => by
  have z := ne_of_none h hp
  rw [upd_ne z, upd_ne z]
  exact ⟨h, n⟩, vw.upd⟩
theorem Kp.wr {U H : Hp} (vw : Vw U H) {p : Addr} {o x : HO} (hp : U p = some x) : Kp U H (upd U p o) (upd H p o) := ⟨fun a x h n => by
  have z : a ≠ p := fun e => by rw [e, hp] at n; cases n
  rw [upd_ne z, upd_ne z]
  exact ⟨h, n⟩, vw.upd⟩
section
theorem Vw.sqF {K : PySem.W.Frag} {U H : Hp} {a : Addr} {vs : List V} (vw : Vw U H) (h : SqF K U a vs) : SqF K H a vs := by
  rcases h with ⟨o, h, d⟩ | h
  · exact .inl ⟨o, vw _ _ h, d⟩
  · exact .inr h
theorem Vw.sqT {K : PySem.W.Frag} {U H : Hp} {a : Addr} {vs : List V} (vw : Vw U H) (h : SqF K U a vs) : SqT K H a vs := (vw.sqF h).sq
theorem Vw.sqW {K : PySem.W.Frag} {U H : Hp} {a : Addr} {vs : List V} (vw : Vw U H) (h : SqT K U a vs) : SqT K H a vs := by
  rcases h with (h | ⟨o, h⟩) | h
  · exact .inl (.inl (vw _ _ h))
  · exact .inl (.inr ⟨o, vw _ _ h⟩)
  · exact .inr h
theorem Vw.sqS {K : PySem.W.Frag} {U H : Hp} {a : Addr} {vs : List V} (vw : Vw U H) (h : SqS K U a vs) : SqS K H a vs := by
  rcases h with ⟨o, h⟩ | h
  · exact .inl ⟨o, vw _ _ h⟩
  · exact .inr h
end
/-! ### what an expression's end gives -/
def Out (K : PySem.W.Frag) (M : Mp) (U H : Hp) (R : DK) (Q : VK) : Prop := ∀ d M' v U' H', Ext M U M' U' → Kp U H U' H' → RM K M' U' → RV K M' U' d v → R d M' → Q v H'
section
variable {K : PySem.W.Frag} {M M' : Mp} {U U' H H' : Hp} {R : DK} {Q : VK} {d : D} {v : V}
theorem Out.mono (o : Out K M U H R Q) (x : Ext M U M' U') (k : Kp U H U' H') : Out K M' U' H' R Q := fun d M1 v V1 H1 e k' r q h => o d M1 v V1 H1 (x.trans e) (k.trans k') r q h
theorem Out.here (o : Out K M U H R Q) (vw : Vw U H) (r : RM K M U) (q : RV K M U d v) (h : R d M) : Q v H := o d M v U H .refl (.refl vw) r q h
theorem Out.int (o : Out K M U H R Q) (vw : Vw U H) (r : RM K M U) {i : Int} (h : R (.int i) M) : Q (.int i) H := o.here vw r (by simp only [RV]) h
theorem Out.bl (o : Out K M U H R Q) (vw : Vw U H) (r : RM K M U) {b : Bool} (h : R (.bl b) M) : Q (.bl b) H := o.here vw r (by simp only [RV]) h
theorem Out.str (o : Out K M U H R Q) (vw : Vw U H) (r : RM K M U) {x : Str} (h : R (.str x) M) : Q (.str x) H := o.here vw r (by simp only [RV]) h
/-- a new tuple -/
theorem Out.tup (o : Out K M U H R Q) (vw : Vw U H) (r : RM K M U) {ds : List D} {vs : List V} (q : RVs K M U ds vs) (h : R (.tup ds) M) : NewT H vs Q := fun p ob hp hd =>
  o (.tup ds) M (.ref p) _ _ (Ext.new (vw.none hp)) (Kp.new vw hp) (r.new (vw.none hp)) (by
    simp only [RV]
    exact ⟨p, vs, rfl, .inl ⟨ob, upd_same, hd⟩, RVs.mono (Ext.new (vw.none hp)) r ds vs q⟩) h
/-- a new list -/
theorem Out.lst (o : Out K M U H R Q) (vw : Vw U H) (r : RM K M U) {m : Bool} {ds : List D} {vs : List V} (q : RVs K M U ds vs) (h : mkN m ds M R) {p : Addr} (hp : H p = none) : Q (.ref p) (upd H p (.lst vs)) := by
  have hv := vw.none hp
  cases m with
  | false =>
    exact o (.lst ds) M (.ref p) _ _ (Ext.new hv) (Kp.new vw hp) (r.new hv) (by
      simp only [RV]
      exact ⟨p, vs, rfl, upd_same, r.none_of hv, RVs.mono (Ext.new hv) r ds vs q⟩) h
  | true =>
    have n := r.none_of hv
    exact o (.ref p) (up M p (.lst ds)) (.ref p) _ _ (Ext.newM hv) (Kp.new vw hp) (r.newM hv ⟨vs, upd_same, RVs.mono (Ext.newM hv) r ds vs q⟩) (by simp only [RV]) (h p n)
/-- a new dict -/
theorem Out.dct (o : Out K M U H R Q) (vw : Vw U H) (r : RM K M U) {m : Bool} (h : match m with
    | true => ∀ p, M p = none → R (.ref p) (up M p (.dic []))
    | false => R (.dic []) M) {p : Addr} (hp : H p = none) : Q (.ref p) (upd H p (.dK [])) := by
  have hv := vw.none hp
  cases m with
  | false =>
    exact o (.dic []) M (.ref p) _ _ (Ext.new hv) (Kp.new vw hp) (r.new hv) (by
      simp only [RV]
      exact ⟨p, [], rfl, upd_same, r.none_of hv, by simp only [RKs]⟩) h
  | true =>
    have n := r.none_of hv
    exact o (.ref p) (up M p (.dic [])) (.ref p) _ _ (Ext.newM hv) (Kp.new vw hp) (r.newM hv ⟨[], upd_same, by simp only [RKs]⟩) (by simp only [RV]) (h p n)
end
section
variable {K : PySem.W.Frag} {M : Mp} {U H : Hp}
theorem lstM_at (vw : Vw U H) (r : RM K M U) {d : D} {v : V} {ds : List D} (e : lstM M d = some ds) (h : RV K M U d v) : ∃ a vs, v = .ref a ∧ H a = some (.lst vs) ∧ RVs K M U ds vs := by
  cases d <;> simp only [lstM] at e <;> try cases e
  · simp only [RV] at h
    obtain ⟨a, vs, e1, e2, _, q⟩ := h
    exact ⟨a, vs, e1, vw _ _ e2, q⟩
  · rename_i a
    simp only [RV] at h
    split at e
    · rename_i ds' e'
      cases e
      obtain ⟨vs, e2, q⟩ := r a _ e'
      exact ⟨a, vs, h, vw _ _ e2, q⟩
    · cases e
theorem lstOf_at (vw : Vw U H) (r : RM K M U) {d : D} {v : V} {ds : List D} (e : lstOf M d = some ds) (h : RV K M U d v) : ∃ a vs, v = .ref a ∧ SqL K H a vs ∧ RVs K M U ds vs := by
  cases d <;> simp only [lstOf] at e <;> try cases e
  · simp only [RV] at h
    obtain ⟨a, vs, e1, e2, _, q⟩ := h
    exact ⟨a, vs, e1, .of (vw _ _ e2), q⟩
  · rename_i a
    simp only [RV] at h
    split at e
    · rename_i ds' e'
      cases e
      obtain ⟨vs, e2, q⟩ := r a _ e'
      exact ⟨a, vs, h, .of (vw _ _ e2), q⟩
    · cases e
  · simp only [RV] at h
    obtain ⟨a, vs, e1, e2, q⟩ := h
    exact ⟨a, vs, e1, (vw.sqS e2).sq, q⟩
theorem seqOf_at (vw : Vw U H) (r : RM K M U) {d : D} {v : V} {ds : List D} (e : seqOf M d = some ds) (h : RV K M U d v) : ∃ a vs, v = .ref a ∧ (SqL K H a vs ∨ SqT K H a vs) ∧ RVs K M U ds vs := by
  cases d
  case tup =>
    simp only [seqOf] at e
    cases e
    simp only [RV] at h
    obtain ⟨a, vs, e1, e2, q⟩ := h
    exact ⟨a, vs, e1, .inr (vw.sqT e2), q⟩
  all_goals
    obtain ⟨a, vs, e1, e2, q⟩ := lstOf_at vw r (by simpa only [seqOf] using e) h
    exact ⟨a, vs, e1, .inl e2, q⟩
/-- what is seen as a list, a tuple .. -/
theorem see_lst {d : D} {ds : List D} (e : see M d = .lst ds) : lstM M d = some ds := by
  cases d <;> simp only [see] at e <;> try cases e
  · rfl
  · rename_i a
    simp only [lstM]
    split at e <;> first | (cases e; simp_all) | cases e
theorem lstM_of {d : D} {ds : List D} (e : lstM M d = some ds) : lstOf M d = some ds := by
  cases d <;> simp only [lstM] at e <;> simp only [lstOf] <;> first | exact e | cases e
theorem see_tup {d : D} {ds : List D} (e : see M d = .tup ds) : d = .tup ds := by
  cases d <;> simp only [see] at e <;> try cases e
  · rfl
  · split at e <;> cases e
theorem see_str {d : D} {ds : Str} (e : see M d = .str ds) : d = .str ds := by
  cases d <;> simp only [see] at e <;> try cases e
  · rfl
  · split at e <;> cases e
theorem see_int {d : D} {ds : Int} (e : see M d = .int ds) : d = .int ds := by
  cases d <;> simp only [see] at e <;> try cases e
  · rfl
  · split at e <;> cases e
theorem see_bl {d : D} {ds : Bool} (e : see M d = .bl ds) : d = .bl ds := by
  cases d <;> simp only [see] at e <;> try cases e
  · rfl
  · split at e <;> cases e
theorem see_non {d : D} (e : see M d = .non) : d = .non := by
  cases d <;> simp only [see] at e <;> try cases e
  · rfl
  · split at e <;> cases e
theorem see_scr {d : D} {ds : List D} (e : see M d = .scr ds) : d = .scr ds := by
  cases d <;> simp only [see] at e <;> try cases e
  · split at e <;> cases e
  · rfl
theorem see_dic (vw : Vw U H) (r : RM K M U) {d : D} {v : V} {kvs : List (Key × D)} (e : see M d = .dic kvs) (h : RV K M U d v) : ∃ a us, v = .ref a ∧ H a = some (.dK us) ∧ RKs K M U kvs us := by
  cases d <;> simp only [see] at e <;> try cases e
  · simp only [RV] at h
    obtain ⟨a, us, e1, e2, _, q⟩ := h
    exact ⟨a, us, e1, vw _ _ e2, q⟩
  · rename_i a
    simp only [RV] at h
    split at e
    · cases e
    · rename_i ds' e'
      cases e
      obtain ⟨vs, e2, q⟩ := r a _ e'
      exact ⟨a, vs, h, vw _ _ e2, q⟩
    · cases e
end
theorem lineLIM : sizeLine = LIM := by decide +kernel
/-- by values: two operands -/
def rOp (K : PySem.W.Frag) (f : D → D → Mp → DK → Prop) : R2 := fun x y H Q => ∃ U M a b R, Vw U H ∧ RM K M U ∧ RV K M U a x ∧ RV K M U b y ∧ f a b M R ∧ Out K M U H R Q

section
variable {X : Cx}
theorem op_powW : OpR X (binaryOp .Pow) (rI PowOk fun i j => .int (i ^ j.toNat)) := opI fun i j _ _ _ _ _ hc q => by
  obtain ⟨h0, a, h1, h2, h3⟩ := hc
  have b := intBits_le_iff.mpr h1
  refine pow_int h0 ?_ q
  have e1 : ((Builtin.Int.intBits i : Nat) : Int) * j ≤ (a : Int) * j := Int.mul_le_mul_of_nonneg_right (by omega) h0
  omega
theorem MulOk.w {i j : Int} (h : MulOk i j) : CMulW i j := by
  obtain ⟨a, b, h1, h2, h3, h4, h5⟩ := h
  exact wide_mul h1 h2 h3 h4 h5
theorem divOk_log {j : Int} (h : DivOk j) : j.natAbs.log2 < 9000 := by
  obtain ⟨h0, a, h1, h2, h3⟩ := h
  have := (Nat.log2_lt (by omega)).mpr h1
  omega
theorem DivOk.w {i j : Int} (h : DivOk j) : CDivW i j := by
  obtain ⟨h1, a, h2, h3, h4⟩ := h
  exact wide_div h1 h2 h3 h4
def bopO : BinO → Operator
  | .add => .Add | .sub => .Sub | .mul => .Mult | .fdiv => .FloorDiv | .mod => .Mod | .pow => .Pow
theorem RVs.nil_iff {K : PySem.W.Frag} {M : Mp} {H : Hp} {ds : List D} {vs : List V} (h : RVs K M H ds vs) : vs = [] ↔ ds = [] := by
  have l := h.length
  cases ds <;> cases vs <;> simp_all

theorem op_mul_str : OpR X (binaryOp .Mult) (fun x y H Q => ∃ i j, x = .str i ∧ y = .int j ∧ 2 ≤ j ∧ j ≤ 10000 ∧ i.length ≤ 1000 ∧ Q (.str (Txt.mul i j)) H) := by
  intro pins s σ H x y v u Q I rx ry h
  obtain ⟨i, j, rfl, rfl, h1, h2, h3, q⟩ := h
  obtain ⟨t, rfl⟩ := rx
  obtain ⟨t', rfl⟩ := ry
  refine SB.mul ⟨?_, fun _ _ => ?_, fun _ _ => ?_⟩ fun t' k => ⟨.str _, H, I.tok _, ⟨_, rfl⟩, q⟩
  · rw [decide_eq_false (by omega), decide_eq_false (by omega)] <;> rfl
  · have : (2 ^ 63 - 1) / j ≥ (2 ^ 63 - 1) / 10000 := by
      refine Int.le_ediv_of_mul_le (by omega) ?_
      have : (2 ^ 63 - 1 : Int) / 10000 * j ≤ (2 ^ 63 - 1) / 10000 * 10000 := Int.mul_le_mul_of_nonneg_left h2 (by decide)
      omega
    omega
  · have a1 : i.length * j.toNat ≤ 1000 * 10000 := Nat.mul_le_mul h3 (by omega)
    unfold Builtin.Str.tooLong
    exact decide_eq_false (by rw [sizeLine_eq]; omega)
theorem op_ok (m : Bool) (op : BinO) : OpR X (binaryOp (bopO op)) (rOp X.K (bop m op)) := by
  intro pins s σ H x y v u Q I rx ry h
  obtain ⟨U, M, a, b, R, vw, rm, ra, rb, hf, out⟩ := h
  cases op with
  | add =>
    have lists : ∀ {a' b' : List D}, lstM M a = some a' → lstM M b = some b' → mkL m (a' ++ b') M R → wpAny (model X.prog X.w) X.A (binaryOp .Add v u) (EP X pins σ Q) X.xe s := by
      intro a' b' ea eb hm
      obtain ⟨p, vs, rfl, hp, qa⟩ := lstM_at vw rm ea ra
      obtain ⟨p', vs', rfl, hp', qb⟩ := lstM_at vw rm eb rb
      refine op_cat pins s σ H _ _ v u Q I rx ry ⟨p, p', vs, vs', rfl, rfl, hp, hp', ?_, fun l hl => out.lst vw rm (qa.app qb) hm.2 hl⟩
      rw [qa.length, qb.length, lineLIM, ← List.length_append]
      exact hm.1
    unfold bop at hf
    dsimp only at hf
    split at hf
    · simp only [RV] at ra rb
      exact op_add pins s σ H _ _ v u Q I rx ry ⟨_, _, ra, rb, out.int vw rm hf⟩
    · simp only [RV] at ra rb
      refine op_add_str pins s σ H _ _ v u Q I rx ry ⟨_, _, ra, rb, ?_, out.str vw rm hf.2⟩
      rw [lineLIM]; exact hf.1
    · rename_i a' b'
      simp only [RV] at ra rb
      obtain ⟨p, vs, rfl, hpU, qa⟩ := ra
      obtain ⟨p', vs', rfl, hpU', qb⟩ := rb
      have hp := vw.sqT hpU
      have hp' := vw.sqT hpU'
      have l1 := qa.length
      have l2 := qb.length
      refine op_catF pins s σ H _ _ v u Q I rx ry ⟨p, p', vs, vs', rfl, rfl, hp, hp', by rw [l1, l2, lineLIM]; exact hf.1, fun e => ?_, fun _ e => ?_, out.tup vw rm (qa.app qb) hf.2⟩
      · have e' := qa.nil_iff.mp e
        subst e'
        exact out.here vw rm (d := .tup b') (by simp only [RV]; exact ⟨p', vs', rfl, hpU', qb⟩) hf.2
      · have e' := qb.nil_iff.mp e
        subst e'
        exact out.here vw rm (d := .tup a') (by simp only [RV]; exact ⟨p, vs, rfl, hpU, qa⟩) (by simpa using hf.2)
    · split at hf
      · rename_i a' b' ea eb
        exact lists ea eb hf
      · exact hf.elim
  | sub =>
    unfold bop at hf
    dsimp only at hf
    split at hf
    · simp only [RV] at ra rb
      exact op_sub pins s σ H _ _ v u Q I rx ry ⟨_, _, ra, rb, out.int vw rm hf⟩
    · exact hf.elim
  | mul =>
    unfold bop at hf
    dsimp only at hf
    split at hf
    · simp only [RV] at ra rb
      exact op_mulW pins s σ H _ _ v u Q I rx ry ⟨_, _, ra, rb, hf.1.w, out.int vw rm hf.2⟩
    · rename_i a' j
      simp only [RV] at ra rb
      obtain ⟨p, vs, rfl, hpU, qa⟩ := ra
      have hp := vw.sqT hpU
      obtain ⟨h1, h2, h3, h4, h5⟩ := hf
      by_cases hj : j = 1
      · subst hj
        have e1 : rep 1 a' = a' := by simp [rep]
        rw [e1] at h5
        exact op_rep1 pins s σ H _ _ v u Q I rx ry ⟨p, vs, rfl, rb, hp, out.here vw rm (d := .tup a') (by simp only [RV]; exact ⟨p, vs, rfl, hpU, qa⟩) h5⟩
      · by_cases hj0 : j ≤ 0
        · refine op_rep0 pins s σ H _ _ v u Q I rx ry ⟨p, j, vs, rfl, rb, hp, fun e => h1 (qa.nil_iff.mp e), h2, hj0, ?_⟩
          have e0 : rep j a' = [] := by
            unfold rep
            rw [Int.toNat_of_nonpos hj0]; rfl
          rw [e0] at h5
          exact out.tup vw rm (ds := []) (vs := []) (by simp only [RVs]) h5
        exact op_repF pins s σ H _ _ v u Q I rx ry ⟨p, j, vs, rfl, rb, hp, fun e => h1 (qa.nil_iff.mp e), by omega, h3, by rw [qa.length]; exact h4, out.tup vw rm (qa.flat j.toNat) h5⟩
    · simp only [RV] at ra rb
      exact op_mul_str pins s σ H _ _ v u Q I rx ry ⟨_, _, ra, rb, hf.1, hf.2.1, hf.2.2.1, out.str vw rm hf.2.2.2⟩
    · rename_i d j _ _ _
      split at hf
      · rename_i a' ea
        obtain ⟨p, vs, rfl, hp, qa⟩ := lstM_at vw rm ea ra
        simp only [RV] at rb
        obtain ⟨h1, h2, h3, h4⟩ := hf
        exact op_rep pins s σ H _ _ v u Q I rx ry ⟨p, j, vs, rfl, rb, hp, by omega, by omega, by rw [qa.length, lineLIM]; exact h3, fun l hl => out.lst vw rm (qa.flat j.toNat) h4 hl⟩
      · exact hf.elim
    · exact hf.elim
  | fdiv =>
    unfold bop at hf
    dsimp only at hf
    split at hf
    · simp only [RV] at ra rb
      exact op_fdivW pins s σ H _ _ v u Q I rx ry ⟨_, _, ra, rb, hf.1.w, out.int vw rm hf.2⟩
    · exact hf.elim
  | mod =>
    unfold bop at hf
    dsimp only at hf
    split at hf
    · simp only [RV] at ra rb
      exact op_mod pins s σ H _ _ v u Q I rx ry ⟨_, _, ra, rb, hf.1, out.int vw rm hf.2⟩
    · exact hf.elim
  | pow =>
    unfold bop at hf
    dsimp only at hf
    split at hf
    · simp only [RV] at ra rb
      exact op_powW pins s σ H _ _ v u Q I rx ry ⟨_, _, ra, rb, hf.1, out.int vw rm hf.2⟩
    · exact hf.elim
end
end Pw
set_option Elab.async false
set_option linter.all false
set_option maxRecDepth 100000
namespace Pw
open PySem PySem.Spec PyProof.Rows L2

/-- the interpreter's table of modules is a dict of the written part -/
def SysD (K : PySem.W.Frag) : Prop := (∃ o, K.lookup sysModules = some o ∧ o.cls = .type "dict") ∧ PySem.W.nsIn K cStatics "sys.int_max_str_digits" = some none
section
variable {X : Cx} {pins : List (Addr × Obj)} {σ : L2.St} {U H : Hp} {s : Shared} {M : Mp}
theorem sys_ne (sd : SysD X.K) (I : Inv X pins σ H s) {a : Addr} {o : Obj} (h : s.heap.get? a = some o) (c : o.cls = .type "list") : a ≠ sysModules := by
  obtain ⟨u, hu, hc⟩ := sd.1
  intro e
  subst e
  rw [I.kIn _ _ hu] at h
  cases h
  rw [hc] at c
  exact absurd (Value.type.inj c) (by decide)
/-- no limit of digits has been set -/
theorem nodigits (sd : SysD X.K) (I : Inv X pins σ H s) : s.heap.NoDigits :=
  let ⟨mc, hn, _⟩ := I.nolimit
  ⟨mc, hn, PySem.W.ns_none_of I.kIn hn sd.2⟩
theorem keyP {k : Key} {u : Value} (h : (mixKind X.prog X.w).is k u = true) : ∃ as, Reads s.heap u (match k with | .inl i => .int i | .inr x => .str x) as ∧ as = [] := by
  rcases keyIs_shape h with ⟨i, t, rfl, rfl⟩ | ⟨x, t, rfl, rfl⟩
  · exact ⟨_, .int i t, rfl⟩
  · exact ⟨_, .str x t, rfl⟩
/-- the addresses of data: none is the table of modules -/
def NoSys (as : List Addr) : Prop := sysModules ∉ as
mutual
theorem reads_of (I : Inv X pins σ H s) (vw : Vw U H) (sd : SysD X.K) : ∀ (d : D) (n : Nat) (v : V) (u : Value), isD true d n = true → RV X.K M U d v → RelV v u → ∃ as, Reads s.heap u (toP d) as ∧ NoSys as
  | .non, n, v, u, _, h, r => by
    simp only [RV] at h; subst h
    cases r
    exact ⟨_, .none, by simp [NoSys]⟩
  | .bl b, n, v, u, _, h, r => by
    simp only [RV] at h; subst h
    cases r
    exact ⟨_, .bool b, by simp [NoSys]⟩
  | .int i, n, v, u, _, h, r => by
    simp only [RV] at h; subst h
    obtain ⟨t, rfl⟩ := r
    exact ⟨_, .int i t, by simp [NoSys]⟩
  | .str x, n, v, u, _, h, r => by
    simp only [RV] at h; subst h
    obtain ⟨t, rfl⟩ := r
    exact ⟨_, .str x t, by simp [NoSys]⟩
  | .tup ds, 0, v, u, e, h, r => by simp [isD] at e
  | .tup ds, k + 1, v, u, e, h, r => by
    simp only [RV] at h
    obtain ⟨a, vs, rfl, hq, q⟩ := h
    cases r
    obtain ⟨its, rv, ⟨o, ho, hc, n, hd⟩, _⟩ := I.tuple (vw.sqT hq)
    simp only [isD] at e
    obtain ⟨as, h1, h2⟩ := readss_of I vw sd ds k vs its e q rv
    simp only [toP]
    exact ⟨as, .tuple ho hc hd (by simpa using h1), h2⟩
  | .lst ds, 0, v, u, e, h, r => by simp [isD] at e
  | .lst ds, k + 1, v, u, e, h, r => by
    simp only [RV] at h
    obtain ⟨a, vs, rfl, hq, _, q⟩ := h
    cases r
    obtain ⟨its, rv, ⟨o, n, ho, hc, _, hd⟩, _⟩ := I.list (.of (vw _ _ hq))
    simp only [isD] at e
    obtain ⟨as, h1, h2⟩ := readss_of I vw sd ds k vs its e q rv
    simp only [toP]
    refine ⟨a :: as, .list ho hc hd (by simpa using h1), fun z => ?_⟩
    rcases List.mem_cons.mp z with z | z
    · exact sys_ne sd I ho hc z.symm
    · exact h2 z
  | .dic kvs, 0, v, u, e, h, r => by simp [isD] at e
  | .dic kvs, k + 1, v, u, e, h, r => by
    simp only [RV] at h
    obtain ⟨a, us, rfl, hq, _, q⟩ := h
    cases r
    simp only [isD, Bool.true_and] at e
    obtain ⟨hz, hs, vs, kv, o, es, ep, ho, hx, hd, hk, hp, nd⟩ := dk_of I.hok (vw _ _ hq)
    obtain ⟨ks, bs, h1, h2, h3, h4⟩ := readsk_of I vw sd kvs k us vs es.toList e q kv hp
    simp only [toP]
    refine ⟨a :: ks ++ bs, .dict ho hx.1 hd h1 h2, fun z => ?_⟩
    rcases List.mem_append.mp z with z | z
    · rcases List.mem_cons.mp z with z | z
      · rw [← z] at hs; simp at hs
      · exact h3 z
    · exact h4 z
  | .ref _, _, _, _, e, _, _ => by simp [isD] at e
  | .ty _, _, _, _, e, _, _ => by simp [isD] at e
  | .exc _, _, _, _, e, _, _ => by simp [isD] at e
  | .scr _, _, _, _, e, _, _ => by simp [isD] at e
theorem readss_of (I : Inv X pins σ H s) (vw : Vw U H) (sd : SysD X.K) : ∀ (ds : List D) (n : Nat) (vs : List V) (us : List Value), isDs true ds n = true → RVs X.K M U ds vs → Vals vs us → ∃ as, ReadsAll s.heap us (toPs ds) as ∧ NoSys as
  | [], _, vs, us, _, h, r => by
    simp only [RVs] at h; subst h
    cases r
    exact ⟨_, .nil, by simp [NoSys]⟩
  | d :: ds, n, vs, us, e, h, r => by
    simp only [RVs] at h
    obtain ⟨v, q, rfl, h1, h2⟩ := h
    simp only [isDs, Bool.and_eq_true] at e
    cases r with
    | cons r1 r2 =>
      obtain ⟨as, a1, a2⟩ := reads_of I vw sd d n v _ e.1 h1 r1
      obtain ⟨bs, b1, b2⟩ := readss_of I vw sd ds n q _ e.2 h2 r2
      simp only [toPs]
      exact ⟨as ++ bs, .cons a1 b1, fun z => (List.mem_append.mp z).elim a2 b2⟩
theorem readsk_of (I : Inv X pins σ H s) (vw : Vw U H) (sd : SysD X.K) : ∀ (kvs : List (Key × D)) (n : Nat) (us : List (Key × V)) (vs : List (Key × Value)) (es : List DictEntry), isDk true kvs n = true → RKs X.K M U kvs us → KV us vs → PySem.Pairs (mixKind X.prog X.w) es vs →
    ∃ as bs, ReadsAll s.heap (es.map (·.key)) ((toPk kvs).map (·.1)) as ∧ ReadsAll s.heap (es.map (·.val)) ((toPk kvs).map (·.2)) bs ∧ NoSys as ∧ NoSys bs
  | [], _, us, vs, es, _, h, r, p => by
    simp only [RKs] at h; subst h
    cases r
    cases p
    exact ⟨[], [], .nil, .nil, by simp [NoSys], by simp [NoSys]⟩
  | (k, d) :: ds, n, us, vs, es, e, h, r, p => by
    simp only [RKs] at h
    obtain ⟨v, q, rfl, h1, h2⟩ := h
    simp only [isDk, Bool.and_eq_true] at e
    cases r with
    | cons r1 r2 =>
      rename_i kv vs'
      obtain ⟨ek, rk⟩ := r1
      cases p with
      | cons p1 p2 p3 =>
        rename_i en es'
        obtain ⟨as, bs, a1, b1, a2, b2⟩ := readsk_of I vw sd ds n q _ _ e.2 h2 r2 p3
        obtain ⟨cs, c1, c2⟩ := reads_of I vw sd d n v _ e.1 h1 rk
        obtain ⟨ks, k1, rfl⟩ := keyP (X := X) (s := s) p1
        rw [← ek] at k1
        simp only [toPk, List.map_cons]
        exact ⟨[] ++ as, cs ++ bs, .cons k1 a1, .cons (by rw [p2]; exact c1) b1, a2, fun z => (List.mem_append.mp z).elim c2 b2⟩
end
mutual
theorem plain_of : ∀ (d : D) (n : Nat), isD false d n = true → (toP d).plain = true
  | .non, _, _ => by simp [toP, PyData.plain]
  | .bl _, _, _ => by simp [toP, PyData.plain]
  | .int _, _, _ => by simp [toP, PyData.plain]
  | .str _, _, _ => by simp [toP, PyData.plain]
  | .tup ds, 0, h => by simp [isD] at h
  | .tup ds, n + 1, h => by simp only [toP, PyData.plain]; exact plains_of ds n (by simpa [isD] using h)
  | .lst ds, 0, h => by simp [isD] at h
  | .lst ds, n + 1, h => by simp only [toP, PyData.plain]; exact plains_of ds n (by simpa [isD] using h)
  | .dic _, _, h => by simp [isD] at h
  | .ref _, _, h => by simp [isD] at h
  | .ty _, _, h => by simp [isD] at h
  | .exc _, _, h => by simp [isD] at h
  | .scr _, _, h => by simp [isD] at h
theorem plains_of : ∀ (ds : List D) (n : Nat), isDs false ds n = true → PyData.plainAll (toPs ds) = true
  | [], _, _ => by simp [toPs, PyData.plainAll]
  | d :: ds, n, h => by
    simp only [isDs, Bool.and_eq_true] at h
    simp only [toPs, PyData.plainAll, plain_of d n h.1, plains_of ds n h.2, Bool.and_self]
end
mutual
theorem isD_mono : ∀ (d : D) (n : Nat), isD false d n = true → isD true d n = true
  | .non, _, _ => by simp [isD]
  | .bl _, _, _ => by simp [isD]
  | .int _, _, _ => by simp [isD]
  | .str _, _, _ => by simp [isD]
  | .tup ds, 0, h => by simp [isD] at h
  | .tup ds, n + 1, h => by simp only [isD] at h ⊢; exact isDs_mono ds n h
  | .lst ds, 0, h => by simp [isD] at h
  | .lst ds, n + 1, h => by simp only [isD] at h ⊢; exact isDs_mono ds n h
  | .dic _, _, h => by simp [isD] at h
  | .ref _, _, h => by simp [isD] at h
  | .ty _, _, h => by simp [isD] at h
  | .exc _, _, h => by simp [isD] at h
  | .scr _, _, h => by simp [isD] at h
theorem isDs_mono : ∀ (ds : List D) (n : Nat), isDs false ds n = true → isDs true ds n = true
  | [], _, _ => by simp [isDs]
  | d :: ds, n, h => by
    simp only [isDs, Bool.and_eq_true] at h ⊢
    exact ⟨isD_mono d n h.1, isDs_mono ds n h.2⟩
end
mutual
theorem depth_of : ∀ (d : D) (n : Nat), isD true d n = true → (toP d).depth ≤ n
  | .non, _, _ => by simp [toP, PyData.depth]
  | .bl _, _, _ => by simp [toP, PyData.depth]
  | .int _, _, _ => by simp [toP, PyData.depth]
  | .str _, _, _ => by simp [toP, PyData.depth]
  | .tup ds, 0, h => by simp [isD] at h
  | .tup ds, n + 1, h => by
    have := depths_of ds n (by simpa [isD] using h)
    simp only [toP, PyData.depth]; omega
  | .lst ds, 0, h => by simp [isD] at h
  | .lst ds, n + 1, h => by
    have := depths_of ds n (by simpa [isD] using h)
    simp only [toP, PyData.depth]; omega
  | .dic kvs, 0, h => by simp [isD] at h
  | .dic kvs, n + 1, h => by
    have := depthk_of kvs n (by simpa [isD] using h)
    simp only [toP, PyData.depth]; omega
  | .ref _, _, h => by simp [isD] at h
  | .ty _, _, h => by simp [isD] at h
  | .exc _, _, h => by simp [isD] at h
  | .scr _, _, h => by simp [isD] at h
theorem depths_of : ∀ (ds : List D) (n : Nat), isDs true ds n = true → PyData.depthAll (toPs ds) ≤ n
  | [], _, _ => by simp [toPs, PyData.depthAll]
  | d :: ds, n, h => by
    simp only [isDs, Bool.and_eq_true] at h
    have h1 := depth_of d n h.1
    have h2 := depths_of ds n h.2
    simp only [toPs, PyData.depthAll]; omega
theorem depthk_of : ∀ (ds : List (Key × D)) (n : Nat), isDk true ds n = true → PyData.depthKv (toPk ds) ≤ n
  | [], _, _ => by simp [toPk, PyData.depthKv]
  | (k, d) :: ds, n, h => by
    simp only [isDk, Bool.and_eq_true] at h
    have h1 := depth_of d n h.1
    have h2 := depthk_of ds n h.2
    simp only [toPk, PyData.depthKv]
    cases k <;> simp only [PyData.depth] <;> omega
end
/-- what may change, seen as data -/
theorem reads_see (I : Inv X pins σ H s) (vw : Vw U H) (sd : SysD X.K) (rm : RM X.K M U) {d : D} {v : V} {u : Value} {n : Nat} (e : isD true (see M d) n = true) (h : RV X.K M U d v) (r : RelV v u) : ∃ as, Reads s.heap u (toP (see M d)) as ∧ NoSys as := by
  cases d
  case ref a =>
    simp only [RV] at h
    subst h
    cases r
    cases q : M a with
    | none => simp only [see, q, isD] at e; cases e
    | some o =>
      cases o with
      | lst ds =>
        simp only [see, q] at e
        obtain ⟨k, rfl⟩ : ∃ k, n = k + 1 := by
          cases n with
          | zero => simp [isD] at e
          | succ k => exact ⟨k, rfl⟩
        simp only [isD] at e
        obtain ⟨vs, hl, rv⟩ := rm a _ q
        obtain ⟨its, rv', ⟨o, n, ho, hc, _, hd⟩, _⟩ := I.list (.of (vw _ _ hl))
        obtain ⟨as, h1, h2⟩ := readss_of I vw sd ds k vs its e rv rv'
        simp only [see, q, toP]
        refine ⟨a :: as, .list ho hc hd (by simpa using h1), fun z => ?_⟩
        rcases List.mem_cons.mp z with z | z
        · exact sys_ne sd I ho hc z.symm
        · exact h2 z
      | dic kvs =>
        simp only [see, q] at e
        obtain ⟨k, rfl⟩ : ∃ k, n = k + 1 := by
          cases n with
          | zero => simp [isD] at e
          | succ k => exact ⟨k, rfl⟩
        simp only [isD, Bool.true_and] at e
        obtain ⟨us, hl, rv⟩ := rm a _ q
        obtain ⟨hz, hs, vs, kv, o, es, ep, ho, hx, hd, hk, hp, nd⟩ := dk_of I.hok (vw _ _ hl)
        obtain ⟨ks, bs, h1, h2, h3, h4⟩ := readsk_of I vw sd kvs k us vs es.toList e rv kv hp
        simp only [see, q, toP]
        refine ⟨a :: ks ++ bs, .dict ho hx.1 hd h1 h2, fun z => ?_⟩
        rcases List.mem_append.mp z with z | z
        · rcases List.mem_cons.mp z with z | z
          · rw [← z] at hs; simp at hs
          · exact h3 z
        · exact h4 z
      | dicT _ => simp only [see, q, isD] at e; cases e
      | dicL _ _ => simp only [see, q, isD] at e; cases e
      | ins _ _ => simp only [see, q, isD] at e; cases e
  all_goals exact reads_of (M := M) I vw sd _ n v u e h r
end
end Pw
set_option Elab.async false
set_option linter.all false
set_option maxRecDepth 100000
/-! dicts with keys that are tuples of whole numbers -/
namespace Pw
open PySem PySem.Spec PyProof.Rows L2
def atT (trip : List (List Int × Addr × V)) (k : List Int) : Option V := (trip.find? fun p => decide (p.1 = k)).map (·.2.2)
def putQ (trip : List (List Int × Addr × V)) (k : List Int) (b : Addr) (v : V) : List (List Int × Addr × V) :=
  if (atT trip k).isSome = true then trip.map (fun p => if p.1 = k then (p.1, p.2.1, v) else p) else trip ++ [(k, b, v)]
section
variable {X : Cx} {pins : List (Addr × Obj)} {σ : L2.St} {H U : Hp} {s : Shared} {a : Addr} {M : Mp} {K : PySem.W.Frag}
theorem dt_at (I : Inv X pins σ H s) {lk : Option Obj} {trip : List (List Int × Addr × V)} (h : H a = some (lkO lk (DictT a trip))) : DT0 s.heap a trip ∧ ∀ o, lk = some o → s.heap.get? a = some o := by
  have x := I.hok a _ h
  cases lk with
  | none => exact ⟨x.1, fun o z => by cases z⟩
  | some o => exact ⟨x.2.1, fun o' z => by cases z; exact x.1⟩
theorem keys_at (I : Inv X pins σ H s) (vw : Vw U H) : ∀ {kvs : List (List Int × D)} {trip : List (List Int × Addr × V)}, RTs X.K M U kvs trip → ∀ p ∈ trip, IsT X.prog X.w s.heap p.1 p.2.1
  | [], trip, h => by
    simp only [RTs] at h; subst h
    intro p hp; cases hp
  | (k, d) :: r, trip, h => by
    simp only [RTs] at h
    obtain ⟨q, v, t, rfl, hq, hd, h2⟩ := h
    intro p hp
    rcases List.mem_cons.mp hp with rfl | hp
    · exact I.isT (vw.sqT hq)
    · exact keys_at I vw h2 p hp
theorem RTs.at {k : List Int} : ∀ {kvs : List (List Int × D)} {trip : List (List Int × Addr × V)}, RTs K M U kvs trip → (∀ d, getT kvs k = some d → ∃ v, atT trip k = some v ∧ RV K M U d v) ∧ (getT kvs k = none → atT trip k = none)
  | [], trip, h => by
    simp only [RTs] at h; subst h
    exact ⟨fun d e => by simp [getT] at e, fun _ => rfl⟩
  | (c, d) :: r, trip, h => by
    simp only [RTs] at h
    obtain ⟨q, v, t, rfl, hq, hd, h2⟩ := h
    by_cases hc : c = k
    · subst hc
      refine ⟨fun d' e => ?_, fun e => ?_⟩
      · simp [getT] at e; subst e
        exact ⟨v, by simp [atT], hd⟩
      · simp [getT] at e
    · obtain ⟨g1, g2⟩ := RTs.at (k := k) h2
      have e1 : getT ((c, d) :: r) k = getT r k := by simp [getT, hc]
      have e2 : atT ((c, q, v) :: t) k = atT t k := by simp [atT, hc]
      rw [e1, e2]
      exact ⟨g1, g2⟩
theorem RTs.some_iff {k : List Int} {kvs : List (List Int × D)} {trip : List (List Int × Addr × V)} (h : RTs K M U kvs trip) : (atT trip k).isSome = (getT kvs k).isSome := by
  obtain ⟨g1, g2⟩ := h.at (k := k)
  cases e : getT kvs k with
  | none => rw [g2 e]; rfl
  | some d => obtain ⟨v, ev, _⟩ := g1 d e; rw [ev]; rfl
theorem RTs.length : ∀ {kvs : List (List Int × D)} {trip : List (List Int × Addr × V)}, RTs K M U kvs trip → trip.length = kvs.length
  | [], trip, h => by simp only [RTs] at h; subst h; rfl
  | (c, d) :: r, trip, h => by
    simp only [RTs] at h
    obtain ⟨q, v, t, rfl, hq, hd, h2⟩ := h
    simp [RTs.length h2]
theorem RTs.rep {k : List Int} {d : D} {v : V} (hd : RV K M U d v) : ∀ {kvs : List (List Int × D)} {trip : List (List Int × Addr × V)}, RTs K M U kvs trip → RTs K M U (kvs.map fun p => if p.1 = k then (p.1, d) else p) (trip.map fun p => if p.1 = k then (p.1, p.2.1, v) else p)
  | [], trip, h => by simp only [RTs] at h; subst h; simp [RTs]
  | (c, d') :: r, trip, h => by
    simp only [RTs] at h
    obtain ⟨q, v', t, rfl, hq, hd', h2⟩ := h
    have ih := RTs.rep (k := k) hd h2
    by_cases hc : c = k
    · simp only [List.map_cons, hc, if_true, RTs]
      exact ⟨_, _, _, rfl, hc ▸ hq, hd, ih⟩
    · simp only [List.map_cons, hc, if_false, RTs]
      exact ⟨_, _, _, rfl, hq, hd', ih⟩
theorem RTs.snoc {k : List Int} {b : Addr} {d : D} {v : V} (hb : SqF K U b (k.map V.int)) (hd : RV K M U d v) : ∀ {kvs : List (List Int × D)} {trip : List (List Int × Addr × V)}, RTs K M U kvs trip → RTs K M U (kvs ++ [(k, d)]) (trip ++ [(k, b, v)])
  | [], trip, h => by
    simp only [RTs] at h; subst h
    simp only [List.nil_append, RTs]
    exact ⟨_, _, _, rfl, hb, hd, rfl⟩
  | (c, d') :: r, trip, h => by
    simp only [RTs] at h
    obtain ⟨q, v', t, rfl, hq, hd', h2⟩ := h
    simp only [List.cons_append, RTs]
    exact ⟨_, _, _, rfl, hq, hd', RTs.snoc hb hd h2⟩
theorem RTs.put {k : List Int} {b : Addr} {d : D} {v : V} (hb : SqF K U b (k.map V.int)) (hd : RV K M U d v) {kvs : List (List Int × D)} {trip : List (List Int × Addr × V)} (h : RTs K M U kvs trip) : RTs K M U (setT kvs k d) (putQ trip k b v) := by
  unfold setT putQ
  rw [h.some_iff]
  split
  · exact h.rep hd
  · exact h.snoc hb hd
theorem RTs.get {i : Nat} {c : List Int × D} : ∀ {kvs : List (List Int × D)} {trip : List (List Int × Addr × V)} {i : Nat}, RTs K M U kvs trip → kvs[i]? = some c → ∃ q v, trip[i]? = some (c.1, q, v) ∧ SqF K U q (c.1.map V.int)
  | [], trip, i, h, e => by simp at e
  | (k, d) :: r, trip, i, h, e => by
    simp only [RTs] at h
    obtain ⟨q, v, t, rfl, hq, hd, h2⟩ := h
    cases i with
    | zero => simp at e; subst e; exact ⟨q, v, rfl, hq⟩
    | succ i =>
      obtain ⟨q', v', h3, h4⟩ := RTs.get (i := i) (c := c) h2 (by simpa using e)
      exact ⟨q', v', by simpa using h3, h4⟩
end
theorem KQ.at {k : List Int} : ∀ {trip : List (List Int × Addr × V)} {xs : List (List Int × Addr × Value)}, KQ trip xs → (∀ v, atT trip k = some v → ∃ p, atKey xs k = some p ∧ RelV v p.2) ∧ (atT trip k = none → atKey xs k = none)
  | _, _, .nil => ⟨fun v e => by simp [atT] at e, fun _ => rfl⟩
  | (c, q, v) :: t, (c', q', u) :: ys, .cons r h => by
    obtain ⟨r1, r2, r3⟩ := r
    simp only at r1 r2 r3
    subst r1 r2
    by_cases hc : c = k
    · subst hc
      refine ⟨fun v' e => ?_, fun e => ?_⟩
      · simp [atT] at e; subst e
        exact ⟨(q, u), by simp [atKey], r3⟩
      · simp [atT] at e
    · obtain ⟨g1, g2⟩ := KQ.at (k := k) h
      have e1 : atT ((c, q, v) :: t) k = atT t k := by simp [atT, hc]
      have e2 : atKey ((c, q, u) :: ys) k = atKey ys k := by simp [atKey, hc]
      rw [e1, e2]
      exact ⟨g1, g2⟩
theorem KQ.some_iff {k : List Int} {trip : List (List Int × Addr × V)} {xs : List (List Int × Addr × Value)} (h : KQ trip xs) : (atKey xs k).isSome = (atT trip k).isSome := by
  obtain ⟨g1, g2⟩ := h.at (k := k)
  cases e : atT trip k with
  | none => rw [g2 e]; rfl
  | some d => obtain ⟨v, ev, _⟩ := g1 d e; rw [ev]; rfl
theorem KQ.rep {k : List Int} {v : V} {u : Value} (hr : RelV v u) : ∀ {trip : List (List Int × Addr × V)} {xs : List (List Int × Addr × Value)}, KQ trip xs → KQ (trip.map fun p => if p.1 = k then (p.1, p.2.1, v) else p) (xs.map (putAt k u))
  | _, _, .nil => .nil
  | p :: t, q :: ys, .cons r h => by
    refine .cons ?_ (KQ.rep hr h)
    obtain ⟨r1, r2, r3⟩ := r
    unfold putAt
    by_cases hc : p.1 = k
    · simp only [hc, if_true, r1 ▸ hc]
      exact ⟨trivial, r2, hr⟩
    · have hc' : ¬ q.1 = k := fun z => hc (r1.trans z)
      simp only [hc, hc', if_false]
      exact ⟨r1, r2, r3⟩
theorem KQ.put {k : List Int} {b : Addr} {v : V} {u : Value} (hr : RelV v u) {trip : List (List Int × Addr × V)} {xs : List (List Int × Addr × Value)} (h : KQ trip xs) : KQ (putQ trip k b v) (storedH xs k b u) := by
  unfold putQ storedH
  rw [h.some_iff]
  split
  · exact h.rep hr
  · exact Paired.snoc h ⟨rfl, rfl, hr⟩
theorem kq_mem : ∀ {trip : List (List Int × Addr × V)} {xs : List (List Int × Addr × Value)}, KQ trip xs → ∀ x ∈ xs, ∃ p ∈ trip, p.1 = x.1 ∧ p.2.1 = x.2.1
  | _, _, .nil, x, hx => by cases hx
  | p :: t, q :: ys, .cons r h, x, hx => by
    rcases List.mem_cons.mp hx with rfl | hx
    · exact ⟨p, List.mem_cons_self .., r.1, r.2.1⟩
    · obtain ⟨p', hp, e⟩ := kq_mem h x hx
      exact ⟨p', List.mem_cons_of_mem _ hp, e⟩
theorem DT0.full {P : Program} {w : World} {h : Heap} {a : Addr} {trip : List (List Int × Addr × V)} (D : DT0 h a trip) (hk : ∀ p ∈ trip, IsT P w h p.1 p.2.1) : ∃ xs, KQ trip xs ∧ h.DictOfH (tupleKind (intKind P w)) a xs := by
  obtain ⟨_, xs, kq, o, es, ep, h1, h2, h3, h4, h5⟩ := D
  refine ⟨xs, kq, o, es, ep, h1, h2, h3, h4, fun x hx => ?_, h5⟩
  obtain ⟨p, hp, e1, e2⟩ := kq_mem kq x hx
  rw [← e1, ← e2]
  exact hk p hp
theorem dt_of {P : Program} {w : World} {h : Heap} {a : Addr} {trip : List (List Int × Addr × V)} {xs : List (List Int × Addr × Value)} (hs : (a == sysModules) = false) (kq : KQ trip xs) (d : h.DictOfH (tupleKind (intKind P w)) a xs) : DT0 h a trip := by
  obtain ⟨o, es, ep, h1, h2, h3, h4, _, h5⟩ := d
  exact ⟨hs, xs, kq, o, es, ep, h1, h2, h3, h4, h5⟩
theorem dt_new {P : Program} {w : World} {H : Hp} {h : Heap} {a : Addr} {trip : List (List Int × Addr × V)} (D : DT0 h a trip) : ObjOk P w H h a (DictT a trip) := by
  have ⟨hs, xs, kq, o, es, ep, h1, r⟩ := D
  refine ⟨D, ⟨o, h1⟩, fun g1 g2 p k => ?_⟩
  have ⟨hs', xs', kq', o', es', ep', h1', r'⟩ := p
  exact ⟨hs', xs', kq', o', es', ep', k o' h1', r'⟩
section
variable {X : Cx} {pins : List (Addr × Obj)} {σ : L2.St} {H U : Hp} {s : Shared} {a b : Addr} {M : Mp} {A : Around} {E : Value → Shared → Prop}
/-- d[k], there -/
theorem dT_getItem {Q : Value → Shared → Prop} {lk : Option Obj} {kvs : List (List Int × D)} {trip : List (List Int × Addr × V)} {k : List Int} {v : V} (hu : A.units + 1 < cLine) (I : Inv X pins σ H s) (vw : Vw U H) (h : U a = some (lkO lk (DictT a trip))) (r : RTs X.K M U kvs trip)
    (hb : SqF X.K U b (k.map V.int)) (hv : atT trip k = some v) (q : ∀ w' s', Inv X pins σ H s' → RelV v w' → Q w' s') : wpAny (model X.prog X.w) A (getItem (.ref a) (.ref b)) Q E s := by
  obtain ⟨D, _⟩ := dt_at I (vw _ _ h)
  obtain ⟨xs, kq, d⟩ := D.full (keys_at I vw r)
  obtain ⟨p, hp, rp⟩ := (kq.at (k := k)).1 v hv
  exact wpAny_getItem_heap (knd := tupleKind (intKind X.prog X.w)) (tupleKind_room_in1 hu) (I.isT (vw.sqT hb)) d hp (q _ _ (I.tok _) rp)
/-- d.get(k, x) -/
theorem dT_get2 {Q : Value → Shared → Prop} {lk : Option Obj} {kvs : List (List Int × D)} {trip : List (List Int × Addr × V)} {k : List Int} {y : V} {r0 : Value} (hu : A.units + 1 < cLine) (I : Inv X pins σ H s) (vw : Vw U H) (h : U a = some (lkO lk (DictT a trip))) (r : RTs X.K M U kvs trip)
    (hb : SqF X.K U b (k.map V.int)) (ry : RelV y r0) (q : ∀ w' s', Inv X pins σ H s' → RelV ((atT trip k).getD y) w' → Q w' s') : wpAny (model X.prog X.w) A (call (.builtin "dict.get") [.ref a, .ref b, r0]) Q E s := by
  obtain ⟨D, _⟩ := dt_at I (vw _ _ h)
  have hs := D.1
  obtain ⟨xs, kq, d⟩ := D.full (keys_at I vw r)
  refine call_meetsIn PySem.F.slot_dict_get d.typeIs PySem.F.entry_dict_get (PySem.F.args_dict_get_3 _ _ _) (meetsH_dict_get_default (tupleKind (intKind X.prog X.w)) a b hs r0) ⟨tupleKind_room_in1 hu, k, xs, I.isT (vw.sqT hb), d, q _ _ (I.tok _) ?_⟩
  obtain ⟨g1, g2⟩ := kq.at (k := k)
  cases e : atT trip k with
  | none => rw [g2 e]; exact ry
  | some v => obtain ⟨p, hp, rp⟩ := g1 v e; rw [hp]; exact rp
/-- d[k] = v -/
theorem dT_setItem {Q : Unit → Shared → Prop} {kvs : List (List Int × D)} {trip : List (List Int × Addr × V)} {k : List Int} {v : V} {u : Value} (hu : A.units + 1 < cLine) (I : Inv X pins σ H s) (vw : Vw U H) (h : U a = some (DictT a trip)) (r : RTs X.K M U kvs trip)
    (hb : SqF X.K U b (k.map V.int)) (rv : RelV v u) (hl : kvs.length ≤ sizeLine) (q : ∀ s', Inv X pins σ (upd H a (DictT a (putQ trip k b v))) s' → Q () s') : wpAny (model X.prog X.w) A (setItem (.ref a) (.ref b) u) Q E s := by
  obtain ⟨D, _⟩ := dt_at (lk := none) I (vw _ _ h)
  have hs := D.1
  obtain ⟨xs, kq, d⟩ := D.full (keys_at I vw r)
  have hz : xs.length ≤ sizeLine := by rw [← Paired.length kq, r.length]; exact hl
  refine wpAny_setItem_heap (knd := tupleKind (intKind X.prog X.w)) (hsz := hz) (tupleKind_room_in1 hu) (I.isT (vw.sqT hb)) d fun h' dd' hs' => q _ ?_
  have he : ∃ q, h'.get? a = some q := let ⟨q, _, _, hq, _⟩ := dd'; ⟨q, hq⟩
  exact d_write I (by rw [vw _ _ h]; exact True.intro) hs' he (dt_new (dt_of hs (kq.put rv) dd'))
/-- what a dict is -/
theorem dT_is {lk : Option Obj} {trip : List (List Int × Addr × V)} (I : Inv X pins σ H s) (h : H a = some (lkO lk (DictT a trip))) :
    s.TypeIs (.ref a) "dict" ∧ (∀ b, Value.ref a = .ref b → ∃ ob, s.heap.get? b = some ob ∧ ob.dict = none) ∧ (a == sysModules) = false := by
  obtain ⟨⟨hs, xs, kq, o, es, ep, h1, h2, _⟩, _⟩ := dt_at I h
  exact ⟨⟨o, h1, h2.1⟩, fun b e => by cases e; exact ⟨o, h1, h2.2.1⟩, hs⟩
/-- {} -/
theorem pe_dnewQ {pos : Pos} : PE X (.Dict [] [] pos) (fun _ H Q => ∀ p, H p = none → Q (.ref p) (upd H p (DictT p []))) := ⟨fun pins s σ H Q I h =>
  wpAny_Dict_empty ⟨.ref s.heap.objs.size, _, I.laid (a := s.heap.objs.size) (o := DictT s.heap.objs.size []) (t' := s.toks) (fun _ _ q => Heap.get?_push_of_some _ q) (Nat.le_refl _)
    (dt_new ⟨beq_eq_false_iff_ne.mpr (Ne.symm (Nat.ne_of_lt I.big)), [], .nil, _, #[], 0, Heap.get?_push_size _ rfl, ⟨rfl, rfl, rfl⟩, rfl, rfl, List.nodup_nil⟩), rfl, h _ (I.hok.fresh (Nat.le_refl _))⟩⟩
/-! the keys -/
/-- the keys of the locked dict at d, in their order -/
def Itq (d : Addr) (o : Obj) : It :=
  ⟨fun i H => ∃ trip, H d = some (.frz o (DictT d trip)) ∧ i < trip.length, fun i H x H' => H' = H ∧ ∀ trip, H d = some (.frz o (DictT d trip)) → ∃ p, trip[i]? = some p ∧ x = .ref p.2.1, fun i H => ∃ trip, H d = some (.frz o (DictT d trip)) ∧ trip.length ≤ i⟩
theorem Inv.frzQ {d : Addr} {o : Obj} {trip : List (List Int × Addr × V)} (I : Inv X pins σ H s) (h : H d = some (.frz o (DictT d trip))) {es : Array DictEntry} {ep : Nat} (hod : o.data = .dict es ep) :
    (d == sysModules) = false ∧ s.heap.get? d = some o ∧ o.ExactDict ∧ es.size = trip.length ∧ ∀ (i : Nat) (p : List Int × Addr × V), trip[i]? = some p → ∃ en : DictEntry, es[i]? = some en ∧ en.key = .ref p.2.1 := by
  obtain ⟨⟨hs, xs, kq, o', es', ep', h1, h2, h3, h4, h5⟩, g⟩ := dt_at (lk := some o) I h
  have h6 := g o rfl
  rw [h1] at h6
  cases h6
  obtain ⟨q1, q2⟩ := dict_ep hod h3
  rw [q1] at h4
  have hlen : es.size = xs.length := by
    have := congrArg List.length h4
    simpa using this
  refine ⟨hs, h1, h2, by rw [hlen, Paired.length kq], fun i p hp => ?_⟩
  obtain ⟨x, hx, e1, e2, _⟩ := paired_get kq hp
  refine ⟨⟨HT x.1, .ref x.2.1, x.2.2⟩, ?_, by rw [e2]⟩
  rw [← Array.getElem?_toList, h4, List.getElem?_map, hx]; rfl
theorem turn_keysQ {P : Program} {w : World} {K : PySem.W.Frag} {tg : Expr} {d : Addr} {o : Obj} {es : Array DictEntry} {ep : Nat} (it : Addr) (hod : o.data = .dict es ep) : Turn P w K tg (Itq d o) [it] it (fun i h => h.IsKeyIter it d i es.size ep) where
  mem := by simp
  obj := fun i h st b hb => by
    have e : b = it := by simpa using hb
    subst e
    obtain ⟨oi, e, c, dd⟩ := st
    exact ⟨oi, e, fun v z => by rw [dd] at z; cases z⟩
  keep := fun i h h' st k => st.at fun oi e => k it (by simp) oi e
  item := by
    intro X hP hw hK hc i pins s σ H E I hf st hg
    subst hP hw hK
    obtain ⟨trip, hd, hi⟩ := hg
    obtain ⟨f0, f1, f2, f3, f4, f5⟩ := hf it (by simp)
    obtain ⟨hs, hgd, hx, hsz, ent⟩ := Inv.frzQ I hd hod
    obtain ⟨p, hp⟩ : ∃ p, trip[i]? = some p := ⟨trip[i], List.getElem?_eq_getElem hi⟩
    obtain ⟨en, hen, hkey⟩ := ent i p hp
    refine next_key_item st hgd hod rfl hen fun h' st' sb => ?_
    have I1 : Inv X pins σ H { s with heap := h' } := I.turned (t' := s.toks) (fun b ob hb e => (sb.2 b hb).trans e) f0 f1 f3 f4 f5
    obtain ⟨oi, e, c, dd⟩ := id st'
    refine ⟨en.key, rfl, go_of (s := { s with heap := h' }) e c dd (by decide) ⟨.ref p.2.1, H, I1, hkey, ⟨rfl, fun trip' hd' => ?_⟩, st', fun b hb => (hf b hb).1⟩⟩
    obtain ⟨_, _, _, hsz', ent'⟩ := Inv.frzQ I hd' hod
    have hi' : i < trip'.length := by omega
    obtain ⟨en', hen', hkey'⟩ := ent' i _ (List.getElem?_eq_getElem hi')
    refine ⟨_, List.getElem?_eq_getElem hi', ?_⟩
    rw [hen] at hen'
    cases hen'
    rw [hkey] at hkey'
    exact congrArg V.ref (Value.ref.inj hkey')
  done := by
    intro X hP hw hK hc i pins s σ H E I hf st hg
    subst hP hw hK
    obtain ⟨trip, hd, hi⟩ := hg
    obtain ⟨f0, f1, f2, f3, f4, f5⟩ := hf it (by simp)
    obtain ⟨hs, hgd, hx, hsz, ent⟩ := Inv.frzQ I hd hod
    exact next_key_end (I.ok.hd hc) st hgd hod rfl (by omega) fun h' eb => ⟨rfl, I.turned (t' := s.toks) (fun b ob hb e => eb b ob hb e) f0 f1 f3 f4 f5⟩
  self := fun A i s Q E st h => by
    refine wpAny_pyIter_slot st.typeIs F.slot_dict_keyiterator_iter (wpAny_call_entry F.slot_dict_keyiterator_iter st.typeIs F.entry_dict_keyiterator_iter ?_ (F.args_dict_keyiterator_iter_1 _))
    show wpAny _ _ (ret (.ref it)) _ _ s
    exact wpAny_pure ⟨_, rfl, "dict_keyiterator", _, st.typeIs, F.slot_dict_keyiterator_next.lookup, h⟩
/-- for k in d: the dict is locked from now on -/
theorem pi_keysQ {tg e : Expr} {td : TE} (he : PE X e td) : PI X tg e (fun σ H R => td σ H fun x H1 => ∃ d trip, x = .ref d ∧ ((∃ o, H1 d = some (.frz o (DictT d trip)) ∧ R (Itq d o) H1) ∨ (H1 d = some (DictT d trip) ∧ ∀ o, R (Itq d o) (upd H1 d (.frz o (DictT d trip)))))) := by
  refine ⟨fun pins s σ H R I h => ?_⟩
  refine thn (he.run pins s σ H _ I h) fun u s1 ⟨x, H1, I1, rx, d, trip, ex, q⟩ => ?_
  subst ex
  obtain rfl : u = Value.ref d := rx
  have main : ∀ H2 o, Inv X pins σ H2 s1 → H2 d = some (.frz o (DictT d trip)) → R (Itq d o) H2 → wpAny (model X.prog X.w) X.A (pyIter (.ref d)) (PIE X pins σ tg R) X.xe s1 := fun H2 o I2 hd q => by
    obtain ⟨⟨hs, xs, kq, o', es, ep, h1, h2, h3, h4, h5⟩, g⟩ := dt_at (lk := some o) I2 hd
    have h6 := g o rfl
    rw [h1] at h6
    cases h6
    exact iter_keys hs h1 h2 h3 (pi_one (tk := s1.toks) I2 _ (turn_keysQ _ h3) ⟨_, Heap.get?_push_size _ rfl, rfl, rfl⟩ q)
  rcases q with ⟨o, hd, q⟩ | ⟨hd, q⟩
  · exact main H1 o I1 hd q
  · obtain ⟨o, I2⟩ := I1.lock hd True.intro
    exact main _ o I2 upd_same (q o)
end
end Pw
set_option Elab.async false
set_option linter.all false
set_option maxRecDepth 100000
namespace Pw
open PySem PySem.Spec PyProof.Rows L2

def copO : CmpO → CmpOp
  | .eq => .Eq | .ne => .NotEq | .lt => .Lt | .le => .LtE | .gt => .Gt | .ge => .GtE | .is_ => .Is | .isnot => .IsNot | .in_ => .In | .notin => .NotIn
theorem cmpB_eq {op : CmpO} {o : CmpOp} (h : cmpB op o = true) : o = copO op := by
  cases op <;> cases o <;> first | rfl | (simp [cmpB] at h)
theorem binB_eq {op : BinO} {o : Operator} (h : binB op o = true) : o = bopO op := by
  cases op <;> cases o <;> first | rfl | (simp [binB] at h)
/-- by values: a comparison -/
def rCop (K : PySem.W.Frag) (op : CmpO) : R2 := fun x y H Q => ∃ U M a b R, Vw U H ∧ RM K M U ∧ RV K M U a x ∧ RV K M U b y ∧ cop op a b M R ∧ ∀ k, R k → Q (.bl k) H
section
variable {X : Cx} {K : PySem.W.Frag} {M : Mp} {U H : Hp}
theorem isN_iff {d : D} {v : V} (h : RV K M U d v) : decide (v = .non) = isN d := by
  cases d <;> simp only [RV] at h <;> first
    | (subst h; simp [isN])
    | (obtain ⟨a, vs, e, _⟩ := h; subst e; simp [isN])
    | (obtain ⟨a, e, _⟩ := h; subst e; simp [isN])
theorem eq_both (hu : X.A.units + 64 < cLine) (sd : SysD X.K) {pins : List (Addr × Obj)} {σ : L2.St} {s : Shared} {a b : D} {x y : V} {v u : Value} {M : Mp} {U H : Hp} (I : Inv X pins σ H s) (vw : Vw U H) (rm : RM X.K M U) (ra : RV X.K M U a x) (rb : RV X.K M U b y) (rx : RelV x v) (ry : RelV y u)
    (e : eqOk (see M a) (see M b) = true) : ∃ as bs, Reads s.heap v (toP (see M a)) as ∧ Reads s.heap u (toP (see M b)) bs ∧ (toP (see M a)).plain = true ∧ (toP (see M b)).plain = true ∧ X.A.units + min (toP (see M a)).depth (toP (see M b)).depth < cLine := by
  simp only [eqOk, Bool.and_eq_true] at e
  obtain ⟨as, r1, _⟩ := reads_see I vw sd rm (isD_mono _ _ e.1) ra rx
  obtain ⟨bs, r2, _⟩ := reads_see I vw sd rm (isD_mono _ _ e.2) rb ry
  have d1 := depth_of _ _ (isD_mono _ _ e.1)
  exact ⟨as, bs, r1, r2, plain_of _ _ e.1, plain_of _ _ e.2, by omega⟩
theorem mem_both (hu : X.A.units + 64 < cLine) (sd : SysD X.K) {pins : List (Addr × Obj)} {σ : L2.St} {s : Shared} {a b : D} {ys : List D} {x y : V} {v u : Value} {M : Mp} {U H : Hp} (I : Inv X pins σ H s) (vw : Vw U H) (rm : RM X.K M U) (ra : RV X.K M U a x) (rb : RV X.K M U b y) (rx : RelV x v) (ry : RelV y u)
    (hb : see M b = .tup ys ∨ see M b = .lst ys) (e : memOk (see M a) ys = true) : ∃ as bs, Reads s.heap v (toP (see M a)) as ∧ Reads s.heap u (toP (see M b)) bs ∧ (toP (see M a)).plain = true ∧ PyData.plainAll (toPs ys) = true ∧ X.A.units + 1 + min (PyData.depthAll (toPs ys)) (toP (see M a)).depth < cLine := by
  simp only [memOk, Bool.and_eq_true] at e
  have e2 := isDs_mono _ _ e.2
  obtain ⟨as, r1, _⟩ := reads_see I vw sd rm (isD_mono _ _ e.1) ra rx
  obtain ⟨bs, r2, _⟩ := reads_see (n := 31) I vw sd rm (by rcases hb with hb | hb <;> rw [hb] <;> simpa [isD] using e2) rb ry
  have d1 := depth_of _ _ (isD_mono _ _ e.1)
  exact ⟨as, bs, r1, r2, plain_of _ _ e.1, plains_of _ _ e.2, by omega⟩
theorem toPs_any (x : D) : ∀ ys : List D, ((toPs ys).any fun y => PyData.eqv y (toP x)) = memD x ys
  | [] => rfl
  | y :: ys => by
    simp only [toPs, List.any_cons, toPs_any x ys, memD, eqD]
theorem ints_R {f : Int → Int → Bool} {a b : D} {x y : V} {R : Bool → Prop} {Q : VK} (ra : RV K M U a x) (rb : RV K M U b y) (out : ∀ k, R k → Q (.bl k) H) (hf : match (generalizing := false) a, b with
      | .int i, .int j => R (f i j)
      | _, _ => False) : ∃ i j, x = .int i ∧ y = .int j ∧ Q (.bl (f i j)) H := by
  split at hf
  · simp only [RV] at ra rb
    exact ⟨_, _, ra, rb, out _ hf⟩
  · exact hf.elim
theorem keyOf_kV {d : D} {k : Key} {v : V} (e : keyOf d = some k) (h : RV K M U d v) : v = kV k := by
  cases d <;> simp only [keyOf] at e <;> first
    | (cases e; simp only [RV] at h; exact h)
    | cases e
theorem intsOf_inv : ∀ {xs : List D} {r : List Int}, intsOf xs = some r → xs = r.map D.int
  | [], r, h => by
    simp only [intsOf, Option.some.injEq] at h
    subst h; rfl
  | x :: xs, r, h => by
    simp only [intsOf] at h
    split at h
    · rename_i i is q1 q2
      cases h
      rw [intsOf_inv q2]
      cases x <;> simp [intOf] at q1
      subst q1; rfl
    · cases h
theorem toPs_ints : ∀ {r : List Int}, toPs (r.map D.int) = r.map PyData.int
  | [] => rfl
  | i :: r => by
    have := toPs_ints (r := r)
    simp only [List.map_cons, toPs, toP, this]
theorem isDs_intsM (w : Bool) (n : Nat) : ∀ r : List Int, isDs w (r.map D.int) n = true
  | [] => by simp [isDs]
  | i :: r => by simp [isDs, isD, isDs_intsM w n r]
theorem alikeAll_intsM : ∀ a b : List Int, W.alikeAll (a.map PyData.int) (b.map PyData.int) = true
  | [], _ => by simp [W.alikeAll]
  | _ :: _, [] => by simp [W.alikeAll]
  | x :: a, y :: b => by
    have ih := alikeAll_intsM a b
    show (W.alike (.int x) (.int y) && W.alikeAll (a.map PyData.int) (b.map PyData.int)) = true
    rw [ih]; rfl
theorem dataLt_tints (a b : List Int) : W.dataLt (.tuple (a.map PyData.int)) (.tuple (b.map PyData.int)) = decide (a < b) := by
  rw [W.dataLt_tuple]
  exact W.dataLt_ints a b
theorem mem_R (hu : X.A.units + 64 < cLine) (sd : SysD X.K) {pins : List (Addr × Obj)} {σ : L2.St} {s : Shared} {a b : D} {x y : V} {v u : Value} {g : Bool → Bool} {R : Bool → Prop} {Q : VK} (I : Inv X pins σ H s) (vw : Vw U H) (rm : RM X.K M U) (ra : RV X.K M U a x) (rb : RV X.K M U b y) (rx : RelV x v) (ry : RelV y u)
    (out : ∀ k, R k → Q (.bl k) H) (hf : memC a b M (fun k => R (g k))) : (∃ as bs ys, Reads s.heap v (toP (see M a)) as ∧ Reads s.heap u (toP (see M b)) bs ∧ (toP (see M a)).plain = true ∧ PyData.plainAll (toPs ys) = true ∧ X.A.units + 1 + min (PyData.depthAll (toPs ys)) (toP (see M a)).depth < cLine ∧
      (see M b = .tup ys ∨ see M b = .lst ys) ∧ Q (.bl (g ((toPs ys).any fun y => PyData.eqv y (toP (see M a))))) H) ∨ (∃ i j, x = .str i ∧ y = .str j ∧ Q (.bl (g (!(Builtin.Str.occurrences j i 0 j.length 1).isEmpty))) H) ∨ ∃ a us k, y = .ref a ∧ H a = some (.dK us) ∧ x = kV k ∧ Q (.bl (g (valV us k).isSome)) H := by
  unfold memC at hf
  split at hf
  · rename_i ys e
    obtain ⟨as, bs, r1, r2, p1, p2, hd⟩ := mem_both hu sd I vw rm ra rb rx ry (.inl e) hf.1
    exact .inl ⟨as, bs, ys, r1, r2, p1, p2, hd, .inl e, by rw [toPs_any]; exact out _ hf.2⟩
  · rename_i ys e
    obtain ⟨as, bs, r1, r2, p1, p2, hd⟩ := mem_both hu sd I vw rm ra rb rx ry (.inr e) hf.1
    exact .inl ⟨as, bs, ys, r1, r2, p1, p2, hd, .inr e, by rw [toPs_any]; exact out _ hf.2⟩
  · rename_i j e
    have e' := see_str e
    subst e'
    split at hf
    · simp only [RV] at ra rb
      exact .inr (.inl ⟨_, _, ra, rb, out _ hf⟩)
    · exact hf.elim
  · rename_i kvs e
    obtain ⟨p, us, e1, e2, e3⟩ := see_dic vw rm e rb
    split at hf
    · rename_i k ek
      refine .inr (.inr ⟨p, us, k, e1, e2, keyOf_kV ek ra, ?_⟩)
      obtain ⟨g1, g2⟩ := e3.get (k := k)
      have : (valV us k).isSome = (getK kvs k).isSome := by
        cases eg : getK kvs k with
        | none => rw [g2 eg]; rfl
        | some d =>
          obtain ⟨v, ev, _⟩ := g1 d eg
          rw [ev]; rfl
      rw [this]
      exact out _ hf
    · exact hf.elim
  · exact hf.elim
theorem readsAll_len {h : Heap} : ∀ {vs : List Value} {xs : List PyData} {as : List Addr}, ReadsAll h vs xs as → vs.length = xs.length
  | _, _, _, .nil => rfl
  | _, _, _, .cons _ r => by simp [readsAll_len r]
theorem toPs_length : ∀ xs : List D, (toPs xs).length = xs.length
  | [] => rfl
  | x :: xs => by simp [toPs, toPs_length xs]
theorem cop_ok (hu : X.A.units + 64 < cLine) (sd : SysD X.K) (op : CmpO) : OpR X (compareOp (copO op)) (rCop X.K op) := by
  intro pins s σ H x y v u Q I rx ry h
  obtain ⟨U, M, a, b, R, vw, rm, ra, rb, hf, out⟩ := h
  cases op with
  | eq =>
    obtain ⟨e, q⟩ := hf
    simp only [eqOkE, Bool.or_eq_true] at e
    rcases e with e | e
    · obtain ⟨as, bs, r1, r2, p1, p2, hd⟩ := eq_both hu sd I vw rm ra rb rx ry e
      exact SeqAt.eq_plain r1 r2 p1 p2 hd (fin_bl I (out _ q) rfl)
    · unfold eq0 at e
      split at e
      · rename_i xs e1 e2
        obtain ⟨as, r1, _⟩ := reads_see (n := 30) I vw sd rm (by rw [e1]; exact e) ra rx
        obtain ⟨bs, r2, _⟩ := reads_see (n := 30) I vw sd rm (by rw [e2]; simp [isD, isDs]) rb ry
        rw [e1] at r1
        rw [e2] at r2
        rw [e1, e2] at q
        simp only [toP, toPs] at r1 r2
        cases r1 with
        | tuple h1 h2 h3 h4 =>
          cases r2 with
          | tuple k1 k2 k3 k4 =>
            have n1 := readsAll_len h4
            have n2 := readsAll_len k4
            rw [List.length_nil] at n2
            have key := SeqAt.RcAt.tuples (s := s) (A := X.A) (e := fun _ => true) ⟨_, h1, h2, _, h3⟩ ⟨_, k1, k2, _, k3⟩ (by omega) (fun j g1 g2 => absurd g2 (by simp at n2; simp [n2]))
            refine key X.prog X.w X.xe _ ?_
            refine fin_bl I (out _ q) ?_
            simp only [Array.length_toList] at n1 n2
            rw [n1, n2, toPs_length]
            cases xs <;> simp [eqD, toP, toPs, PyData.eqv, PyData.eqvAll]
      · cases e
  | ne =>
    obtain ⟨e, q⟩ := hf
    obtain ⟨as, bs, r1, r2, p1, p2, hd⟩ := eq_both hu sd I vw rm ra rb rx ry e
    exact SeqAt.ne_plain r1 r2 p1 p2 hd (fin_bl I (out _ q) rfl)
  | lt =>
    simp only [cop, ltD] at hf
    split at hf
    · simp only [RV] at ra rb
      exact op_lt pins s σ H _ _ v u Q I rx ry ⟨_, _, ra, rb, out _ hf⟩
    · rename_i xs ys
      split at hf
      · rename_i r t q1 q2
        have e1 := intsOf_inv q1
        have e2 := intsOf_inv q2
        subst e1; subst e2
        obtain ⟨as, bs, r1, r2, p1, p2, hd⟩ := eq_both hu sd I vw rm ra rb rx ry (by simp [eqOk, see, isD, isDs_intsM])
        simp only [see, toP, toPs_ints] at r1 r2 hd
        exact W.lt_data r1 r2 (by simp only [W.alike]; exact alikeAll_intsM _ _) (by simp) hd (fin_bl I (out _ hf) (by rw [dataLt_tints]))
      · exact hf.elim
    · exact hf.elim
  | le => exact op_le pins s σ H _ _ v u Q I rx ry (ints_R ra rb out hf)
  | gt => exact op_gt pins s σ H _ _ v u Q I rx ry (ints_R ra rb out hf)
  | ge => exact op_ge pins s σ H _ _ v u Q I rx ry (ints_R ra rb out hf)
  | is_ =>
    unfold cop at hf
    dsimp only at hf
    split at hf
    · simp only [RV] at rb
      exact op_isN pins s σ H _ _ v u Q I rx ry ⟨rb, by rw [isN_iff ra]; exact out _ hf⟩
    · split at hf
      · simp only [RV] at ra rb
        exact op_isBl pins s σ H _ _ v u Q I rx ry ⟨_, _, ra, rb, out _ hf⟩
      · exact hf.elim
    · exact hf.elim
  | isnot =>
    unfold cop at hf
    dsimp only at hf
    split at hf
    · simp only [RV] at rb
      exact op_notN pins s σ H _ _ v u Q I rx ry ⟨rb, by rw [isN_iff ra]; exact out _ hf⟩
    · split at hf
      · simp only [RV] at ra rb
        exact op_notBl pins s σ H _ _ v u Q I rx ry ⟨_, _, ra, rb, out _ hf⟩
      · exact hf.elim
    · exact hf.elim
  | in_ =>
    rcases mem_R (g := fun k => k) hu sd I vw rm ra rb rx ry out hf with ⟨as, bs, ys, r1, r2, p1, p2, hd, e, q⟩ | h | ⟨a, us, k, rfl, hq, rfl, q⟩
    · rcases e with e | e
      · rw [e] at r2
        simp only [toP] at r2
        exact SeqAt.in_tuple_data r2 r1 p2 p1 hd (fin_bl I q rfl)
      · rw [e] at r2
        simp only [toP] at r2
        exact SeqAt.in_list_data r2 r1 p2 p1 hd (fin_bl I q rfl)
    · exact op_in_str pins s σ H _ _ v u Q I rx ry h
    · cases ry
      exact d_in (by omega) I (DGet.k hq) rx fun s' I' => ⟨.bl _, H, I', rfl, q⟩
  | notin =>
    rcases mem_R (g := fun k => !k) hu sd I vw rm ra rb rx ry out hf with ⟨as, bs, ys, r1, r2, p1, p2, hd, e, q⟩ | h | ⟨a, us, k, rfl, hq, rfl, q⟩
    · rcases e with e | e
      · rw [e] at r2
        simp only [toP] at r2
        exact SeqAt.notIn_tuple_data r2 r1 p2 p1 hd (fin_bl I q rfl)
      · rw [e] at r2
        simp only [toP] at r2
        exact SeqAt.notIn_list_data r2 r1 p2 p1 hd (fin_bl I q rfl)
    · exact op_notin_str pins s σ H _ _ v u Q I rx ry h
    · cases ry
      exact d_notIn (by omega) I (DGet.k hq) rx fun s' I' => ⟨.bl _, H, I', rfl, q⟩
end
end Pw
set_option Elab.async false
set_option linter.all false
set_option maxRecDepth 100000
namespace Pw
open PySem PySem.Spec PyProof.Rows L2

/-- by values: a call of something built in -/
def rBf (K : PySem.W.Frag) (m : Bool) (f : BF) : List V → Hp → VK → Prop := fun vs H Q => ∃ U M ds R, Vw U H ∧ RM K M U ∧ RVs K M U ds vs ∧ bfn m f ds M R ∧ Out K M U H R Q
section
variable {X : Cx} {K : PySem.W.Frag} {M : Mp} {U H : Hp}
theorem RVs.one_of {d : D} {vs : List V} (h : RVs K M U [d] vs) : ∃ v, vs = [v] ∧ RV K M U d v := by
  simp only [RVs] at h
  obtain ⟨v, r, e, q, rfl⟩ := h
  exact ⟨v, e, q⟩
theorem RVs.two_of {d d' : D} {vs : List V} (h : RVs K M U [d, d'] vs) : ∃ v v', vs = [v, v'] ∧ RV K M U d v ∧ RV K M U d' v' := by
  simp only [RVs] at h
  obtain ⟨v, r, e, q, v', r', e', q', rfl⟩ := h
  subst e'
  exact ⟨v, v', e, q, q'⟩
theorem RVs.three_of {d d' d'' : D} {vs : List V} (h : RVs K M U [d, d', d''] vs) : ∃ v v' v'', vs = [v, v', v''] ∧ RV K M U d v ∧ RV K M U d' v' ∧ RV K M U d'' v'' := by
  simp only [RVs] at h
  obtain ⟨v, r, e, q, v', r', e', q', v'', r'', e'', q'', rfl⟩ := h
  subst e'' e'
  exact ⟨v, v', v'', e, q, q', q''⟩
theorem foldl_max_mem : ∀ (ns : List Int) (n m : Int), m ∈ n :: ns → (∀ y, y ∈ n :: ns → y ≤ m) → ns.foldl max n = m
  | [], n, m, h, _ => by
    simp at h; exact h.symm
  | k :: ns, n, m, h, q => by
    rw [List.foldl_cons]
    refine foldl_max_mem ns (max n k) m ?_ fun y hy => ?_
    · rcases List.mem_cons.mp h with e | h
      · subst e
        have := q k (by simp)
        rw [Int.max_eq_left this]; simp
      · rcases List.mem_cons.mp h with e | h
        · subst e
          have := q n (by simp)
          rw [Int.max_eq_right this]; simp
        · simp [h]
    · rcases List.mem_cons.mp hy with e | hy
      · subst e
        have h1 := q n (by simp)
        have h2 := q k (by simp)
        exact Int.max_le.mpr ⟨h1, h2⟩
      · exact q y (by simp [hy])
theorem foldl_min_mem : ∀ (ns : List Int) (n m : Int), m ∈ n :: ns → (∀ y, y ∈ n :: ns → m ≤ y) → ns.foldl min n = m
  | [], n, m, h, _ => by
    simp at h; exact h.symm
  | k :: ns, n, m, h, q => by
    rw [List.foldl_cons]
    refine foldl_min_mem ns (min n k) m ?_ fun y hy => ?_
    · rcases List.mem_cons.mp h with e | h
      · subst e
        have := q k (by simp)
        rw [Int.min_eq_left this]; simp
      · rcases List.mem_cons.mp h with e | h
        · subst e
          have := q n (by simp)
          rw [Int.min_eq_right this]; simp
        · simp [h]
    · rcases List.mem_cons.mp hy with e | hy
      · subst e
        have h1 := q n (by simp)
        have h2 := q k (by simp)
        exact Int.le_min.mpr ⟨h1, h2⟩
      · exact q y (by simp [hy])
theorem maxI_of {ns : List Int} {m : Int} (h : m ∈ ns) (q : ∀ y, y ∈ ns → y ≤ m) : maxI ns = m := by
  cases ns with
  | nil => cases h
  | cons n r => exact foldl_max_mem r n m h q
theorem minI_of {ns : List Int} {m : Int} (h : m ∈ ns) (q : ∀ y, y ∈ ns → m ≤ y) : minI ns = m := by
  cases ns with
  | nil => cases h
  | cons n r => exact foldl_min_mem r n m h q
theorem alike_ints (n : Int) (ns : List Int) : PySem.W.AlikeAll ((PyData.int n) :: ns.map .int) := by
  have all : ∀ x ∈ (PyData.int n) :: ns.map .int, ∃ i, x = .int i := by
    intro x hx
    rcases List.mem_cons.mp hx with e | hx
    · exact ⟨n, e⟩
    · obtain ⟨i, _, e⟩ := List.mem_map.mp hx
      exact ⟨i, e.symm⟩
  refine ⟨fun x hx y hy => ?_, fun x hx => ?_⟩
  · obtain ⟨i, rfl⟩ := all x hx
    obtain ⟨j, rfl⟩ := all y hy
    rfl
  · obtain ⟨i, rfl⟩ := all x hx
    exact fun z => by cases z
theorem depth_ints : ∀ ns : List Int, PyData.depthAll (ns.map .int) = 0
  | [] => rfl
  | n :: ns => by simp [PyData.depthAll, PyData.depth, depth_ints ns]
theorem reads_ints {h : Heap} : ∀ {ns : List Int} {us : List Value}, Vals (ns.map V.int) us → ∃ as, ReadsAll h us (ns.map .int) as
  | [], _, r => by cases r; exact ⟨[], .nil⟩
  | n :: ns, _, r => by
    cases r with
    | cons r t =>
      obtain ⟨as, q⟩ := reads_ints t
      obtain ⟨tk, rfl⟩ := r
      exact ⟨_, .cons (.int n tk) q⟩
/-- a list or a tuple of ints, as it stands -/
theorem intSeq (vw : Vw U H) (rm : RM K M U) {d : D} {v : V} {ns : List Int} (e : (seqOf M d).bind intsOf = some ns) (h : RV K M U d v) : ∃ a, v = .ref a ∧ (SqL K H a (ns.map V.int) ∨ SqT K H a (ns.map V.int)) := by
  obtain ⟨ds, e1, e2⟩ := Option.bind_eq_some_iff.mp e
  obtain ⟨a, vs, rfl, hq, q⟩ := seqOf_at vw rm e1 h
  obtain ⟨rfl, _⟩ := RVs.ints_of e2 q
  exact ⟨a, rfl, hq⟩
theorem intLst (vw : Vw U H) (rm : RM K M U) {d : D} {v : V} {ns : List Int} (e : (lstOf M d).bind intsOf = some ns) (h : RV K M U d v) : ∃ a, v = .ref a ∧ SqL K H a (ns.map V.int) := by
  obtain ⟨ds, e1, e2⟩ := Option.bind_eq_some_iff.mp e
  obtain ⟨a, vs, rfl, hq, q⟩ := lstOf_at vw rm e1 h
  obtain ⟨rfl, _⟩ := RVs.ints_of e2 q
  exact ⟨a, rfl, hq⟩
theorem blLst (vw : Vw U H) (rm : RM K M U) {d : D} {v : V} {ns : List Bool} (e : (lstOf M d).bind blsOf = some ns) (h : RV K M U d v) : ∃ a, v = .ref a ∧ SqL K H a (ns.map V.bl) := by
  obtain ⟨ds, e1, e2⟩ := Option.bind_eq_some_iff.mp e
  obtain ⟨a, vs, rfl, hq, q⟩ := lstOf_at vw rm e1 h
  obtain ⟨rfl, _⟩ := RVs.bls_of e2 q
  exact ⟨a, rfl, hq⟩
theorem sortI_perm (ns : List Int) : (sortI ns).Perm ns := List.mergeSort_perm ns _
theorem sortI_sorted (ns : List Int) : (sortI ns).Pairwise (· ≤ ·) := by
  have h := List.pairwise_mergeSort (le := fun a b : Int => decide (a ≤ b)) (fun a b c h1 h2 => by simp only [decide_eq_true_eq] at *; omega) (fun a b => by simp only [Bool.or_eq_true, decide_eq_true_eq]; omega) ns
  exact h.imp fun h => by simpa using h
theorem sortI_of {ns ns' : List Int} (h : ns'.Perm ns) (s : ns'.Pairwise (· ≤ ·)) : ns' = sortI ns :=
  List.Perm.eq_of_pairwise (fun a b _ _ h1 h2 => Int.le_antisymm h1 h2) s (sortI_sorted ns) (h.trans (sortI_perm ns).symm)

/-- a list or a tuple: max, min, sum -/
theorem big_max (hc : X.calm = true) (hu : X.A.units + 64 < cLine) : CallR X (.builtin "max") (fun vs H Q => ∃ (a : Addr) (ns : List Int), vs = [V.ref a] ∧ (SqL X.K H a (ns.map V.int) ∨ SqT X.K H a (ns.map V.int)) ∧ ns ≠ [] ∧ Q (.int (maxI ns)) H) := by
  intro pins s σ H vs us Q I r h
  obtain ⟨a, ns, rfl, hs, hne, q⟩ := h
  rcases hs with hs | hs
  · exact cr_max hc pins s σ H _ us Q I r ⟨a, ns, rfl, hs, List.length_pos_iff.mpr hne, fun m h1 h2 => by rw [maxI_of h1 h2] at q; exact q⟩
  · obtain ⟨its, rv, ht, _⟩ := I.tuple hs
    rw [Vals.ref1 r]
    cases ns with
    | nil => exact absurd rfl hne
    | cons n ns =>
      obtain ⟨as, hr⟩ := reads_ints (h := s.heap) rv
      refine PySem.W.max_tuple_data (I.ok.hd hc) (show s.heap.IsTuple a its.toArray from ht) (by simpa using hr) (alike_ints n ns) (by have e := depth_ints (n :: ns); rw [List.map_cons] at e; rw [e]; omega) fun i v h' tk bs _ hv hk => ?_
      rw [PySem.W.maxD_ints] at hv
      cases hv with
      | int i t => exact ⟨.int _, H, I.kept hk, ⟨t, rfl⟩, q⟩
theorem big_min (hc : X.calm = true) (hu : X.A.units + 64 < cLine) : CallR X (.builtin "min") (fun vs H Q => ∃ (a : Addr) (ns : List Int), vs = [V.ref a] ∧ (SqL X.K H a (ns.map V.int) ∨ SqT X.K H a (ns.map V.int)) ∧ ns ≠ [] ∧ Q (.int (minI ns)) H) := by
  intro pins s σ H vs us Q I r h
  obtain ⟨a, ns, rfl, hs, hne, q⟩ := h
  rcases hs with hs | hs
  · exact cr_min hc pins s σ H _ us Q I r ⟨a, ns, rfl, hs, List.length_pos_iff.mpr hne, fun m h1 h2 => by rw [minI_of h1 h2] at q; exact q⟩
  · obtain ⟨its, rv, ht, _⟩ := I.tuple hs
    rw [Vals.ref1 r]
    cases ns with
    | nil => exact absurd rfl hne
    | cons n ns =>
      obtain ⟨as, hr⟩ := reads_ints (h := s.heap) rv
      refine PySem.W.min_tuple_data (I.ok.hd hc) (show s.heap.IsTuple a its.toArray from ht) (by simpa using hr) (alike_ints n ns) (by have e := depth_ints (n :: ns); rw [List.map_cons] at e; rw [e]; omega) fun i v h' tk bs _ hv hk => ?_
      rw [PySem.W.minD_ints] at hv
      cases hv with
      | int i t => exact ⟨.int _, H, I.kept hk, ⟨t, rfl⟩, q⟩
theorem big_sum (hc : X.calm = true) : CallR X (.builtin "sum") (fun vs H Q => ∃ (a : Addr) (ns : List Int), vs = [V.ref a] ∧ (SqL X.K H a (ns.map V.int) ∨ SqT X.K H a (ns.map V.int)) ∧ Q (.int ns.sum) H) := by
  intro pins s σ H vs us Q I r h
  obtain ⟨a, ns, rfl, hs, q⟩ := h
  rcases hs with hs | hs
  · exact cr_sum hc pins s σ H _ us Q I r ⟨a, ns, rfl, hs, q⟩
  · obtain ⟨its, rv, ht, _⟩ := I.tuple hs
    rw [Vals.ref1 r]
    have hi := rv.ints
    obtain ⟨xs, e⟩ := hi.allInts.items
    have hn : numsOf (intItems xs).toList = ns := by rw [← e]; exact hi.numsOf
    rw [nums_intItems] at hn
    rw [e] at ht
    refine PySem.W.ktm_sumG (I.ok.hd hc) ht fun h' tk t' hk => ?_
    have h1 : preSum (numAt xs) xs.size = ns.sum := by rw [preSum_eq, List.take_of_length_le (by simp), hn]
    rw [h1]
    exact ⟨.int _, H, I.kept hk, ⟨_, rfl⟩, q⟩
end
end Pw
set_option Elab.async false
set_option linter.all false
set_option maxRecDepth 100000
namespace Pw
open PySem PySem.Spec PyProof.Rows L2
theorem mapP_ok {K : PySem.W.Frag} {M M2 : Mp} {U : Hp} {f : D → Option (D × List Addr)} (hf : ∀ x r v, f x = some r → RV K M U x v → (∀ a ∈ r.2, M2 a = none) → RV K M2 U r.1 v) :
    ∀ {ds : List D} {r : List D × List Addr} {vs : List V}, mapP f ds = some r → RVs K M U ds vs → (∀ a ∈ r.2, M2 a = none) → RVs K M2 U r.1 vs
  | [], r, vs, e, h, _ => by
    simp only [mapP] at e
    cases e
    simp only [RVs] at h ⊢
    exact h
  | d :: ds, r, vs, e, h, hn => by
    simp only [mapP] at e
    split at e
    · rename_i y ys e1 e2
      cases e
      simp only [RVs] at h ⊢
      obtain ⟨v, q, e3, h1, h2⟩ := h
      exact ⟨v, q, e3, hf d y v e1 h1 fun a ha => hn a (by simp [ha]), mapP_ok hf e2 h2 fun a ha => hn a (by simp [ha])⟩
    · cases e
theorem mapK_ok {K : PySem.W.Frag} {M M2 : Mp} {U : Hp} {f : D → Option (D × List Addr)} (hf : ∀ x r v, f x = some r → RV K M U x v → (∀ a ∈ r.2, M2 a = none) → RV K M2 U r.1 v) :
    ∀ {ds : List (Key × D)} {r : List (Key × D) × List Addr} {vs : List (Key × V)}, mapK f ds = some r → RKs K M U ds vs → (∀ a ∈ r.2, M2 a = none) → RKs K M2 U r.1 vs
  | [], r, vs, e, h, _ => by
    simp only [mapK] at e
    cases e
    simp only [RKs] at h ⊢
    exact h
  | (k, d) :: ds, r, vs, e, h, hn => by
    simp only [mapK] at e
    split at e
    · rename_i y ys e1 e2
      cases e
      simp only [RKs] at h ⊢
      obtain ⟨v, q, e3, h1, h2⟩ := h
      exact ⟨v, q, e3, hf d y v e1 h1 fun a ha => hn a (by simp [ha]), mapK_ok hf e2 h2 fun a ha => hn a (by simp [ha])⟩
    · cases e
theorem settle_ok {K : PySem.W.Frag} {M M2 : Mp} {U : Hp} (rm : RM K M U) (s : Sub M2 M) : ∀ (n : Nat) (x : D) (r : D × List Addr) (v : V), settle M n x = some r → RV K M U x v → (∀ a ∈ r.2, M2 a = none) → RV K M2 U r.1 v
  | 0, _, _, _, e, _, _ => by simp [settle] at e
  | n + 1, x, r, v, e, h, hn => by
    unfold settle at e
    split at e
    · cases e
      exact RV.mono (Ext.sub s) rm x v h
    · split at e
      · rename_i a he
        simp only [RV] at h
        subst h
        split at e
        · rename_i ds e1
          obtain ⟨y, e2, rfl⟩ := Option.map_eq_some_iff.mp e
          obtain ⟨vs, hl, q⟩ := rm a _ e1
          simp only [RV]
          exact ⟨a, vs, rfl, hl, hn a (by simp), mapP_ok (settle_ok rm s n) e2 q fun b hb => hn b (by simp [hb])⟩
        · rename_i ds e1
          obtain ⟨y, e2, rfl⟩ := Option.map_eq_some_iff.mp e
          obtain ⟨vs, hl, q⟩ := rm a _ e1
          simp only [RV]
          exact ⟨a, vs, rfl, hl, hn a (by simp), mapK_ok (settle_ok rm s n) e2 q fun b hb => hn b (by simp [hb])⟩
        · cases e
      · rename_i ds he
        obtain ⟨y, e2, rfl⟩ := Option.map_eq_some_iff.mp e
        simp only [RV] at h ⊢
        obtain ⟨a, vs, e3, hl, q⟩ := h
        exact ⟨a, vs, e3, hl, mapP_ok (settle_ok rm s n) e2 q hn⟩
      · rename_i ds he
        obtain ⟨y, e2, rfl⟩ := Option.map_eq_some_iff.mp e
        simp only [RV] at h ⊢
        obtain ⟨a, vs, e3, hl, hm, q⟩ := h
        exact ⟨a, vs, e3, hl, (Ext.sub s a _ hl hm).2, mapP_ok (settle_ok rm s n) e2 q hn⟩
      · cases e
end Pw
set_option Elab.async false
set_option linter.all false
set_option maxRecDepth 100000
set_option maxHeartbeats 2000000
namespace Pw
open PySem PySem.Spec PyProof.Rows L2
/-! sorted of tuples of whole numbers that stand in order -/
theorem tupsOf_eq : ∀ {ds : List D} {rs : List (List Int)}, tupsOf ds = some rs → ds = rs.map fun r => .tup (r.map D.int)
  | [], rs, h => by
    simp only [tupsOf, Option.some.injEq] at h
    subst h; rfl
  | d :: ds, rs, h => by
    cases d <;> simp only [tupsOf] at h <;> try cases h
    rename_i xs
    split at h
    · rename_i r rs' e1 e2
      cases h
      rw [tupsOf_eq e2]
      have : xs = r.map D.int := intsOf_inv e1
      rw [this]; rfl
    · cases h
theorem toPs_tups : ∀ {rs : List (List Int)}, toPs (rs.map fun r => D.tup (r.map D.int)) = rs.map fun r => PyData.tuple (r.map PyData.int)
  | [] => rfl
  | r :: rs => by
    have := toPs_tups (rs := rs)
    simp only [List.map_cons, toPs, toP, this, toPs_ints]
theorem alikeAll_ints : ∀ {a b : List Int}, a.length = b.length → W.alikeAll (a.map PyData.int) (b.map PyData.int) = true
  | [], [], _ => rfl
  | [], _ :: _, h => by simp at h
  | _ :: _, [], h => by simp at h
  | x :: a, y :: b, h => by
    have ih := alikeAll_ints (a := a) (b := b) (by simpa using h)
    show (W.alike (.int x) (.int y) && W.alikeAll (a.map PyData.int) (b.map PyData.int)) = true
    rw [ih]; rfl
theorem dataLe_tups {β : Type} (x : β → List Int) : (W.dataLe false fun b => PyData.tuple (List.map PyData.int (x b))) = fun p q => decide (x p ≤ x q) := W.dataLe_rows x
theorem each_zip {α β γ : Type} {R : γ → α → Prop} : ∀ {us : List γ} {vs : List α} {ps : List β}, W.EachIs R us vs → vs.length = ps.length → W.EachIs (fun u (b : α × β) => R u b.1) us (vs.zip ps)
  | [], [], [], _, _ => .nil
  | u :: us, v :: vs, p :: ps, h, hl => by
    cases h with
    | cons h1 h2 => exact .cons h1 (each_zip h2 (by simpa using hl))
  | [], [], _ :: _, _, hl => by simp at hl
  | u :: us, v :: vs, [], _, hl => by simp at hl
theorem each_vals : ∀ {vs : List V} {us : List Value}, Vals vs us → W.EachIs (fun u v => RelV v u) us vs
  | [], _, .nil => .nil
  | _ :: _, _, .cons r t => .cons r (each_vals t)
theorem vals_each : ∀ {vs : List V} {us : List Value}, W.EachIs (fun u v => RelV v u) us vs → Vals vs us
  | [], _, .nil => .nil
  | _ :: _, _, .cons r t => .cons r (vals_each t)
theorem each_fst {α β γ : Type} {R : γ → α → Prop} : ∀ {us : List γ} {vs : List α} {ps : List β}, vs.length = ps.length → W.EachIs (fun u (b : α × β) => R u b.1) us (vs.zip ps) → W.EachIs R us vs
  | [], [], [], _, _ => .nil
  | u :: us, v :: vs, p :: ps, hl, h => by
    cases h with
    | cons h1 h2 => exact .cons h1 (each_fst (by simpa using hl) h2)
  | _, [], _ :: _, hl, _ => by simp at hl
  | _, v :: vs, [], hl, _ => by simp at hl
  | [], v :: vs, p :: ps, _, h => by cases h
  | u :: us, [], [], _, h => by cases h
theorem each_reads {h : Heap} {α : Type} : ∀ {us : List Value} {vs : List α} {rs : List (List Int)} {as : List Addr}, vs.length = rs.length → ReadsAll h us (rs.map fun r => PyData.tuple (r.map PyData.int)) as → W.EachIs (fun u (b : α × List Int) => ∃ as, Reads h u (PyData.tuple (b.2.map PyData.int)) as) us (vs.zip rs)
  | us, vs, r :: rs, as, hl, hr => by
    rw [List.map_cons] at hr
    cases hr with
    | cons h1 h2 =>
      cases vs with
      | nil => simp at hl
      | cons v vs => exact .cons ⟨_, h1⟩ (each_reads (by simpa using hl) h2)
  | us, vs, [], as, hl, hr => by
    cases hr
    cases vs with
    | nil => exact .nil
    | cons v vs => simp at hl
theorem isDs_tups : ∀ {rs : List (List Int)}, isDs true (rs.map fun r => D.tup (r.map D.int)) 30 = true
  | [] => rfl
  | r :: rs => by
    have ih := isDs_tups (rs := rs)
    have e : ∀ {n : Nat} {r : List Int}, isDs true (r.map D.int) n = true := fun {n r} => by
      induction r with
      | nil => cases n <;> rfl
      | cons i r ih => rw [List.map_cons, isDs, ih]; cases n <;> rfl
    rw [List.map_cons, isDs, ih, Bool.and_true]
    show isD true (.tup (r.map D.int)) (29 + 1) = true
    rw [isD]; exact e
theorem zip_map_snd {α β : Type} : ∀ {vs : List α} {ps : List β}, vs.length = ps.length → (vs.zip ps).map Prod.snd = ps
  | [], [], _ => rfl
  | v :: vs, p :: ps, h => by rw [List.zip_cons_cons, List.map_cons, zip_map_snd (by simpa using h)]
  | [], _ :: _, h => by simp at h
  | _ :: _, [], h => by simp at h
section
variable {X : Cx} {pins : List (Addr × Obj)} {σ : L2.St} {s : Shared} {M : Mp} {U H : Hp} {Q : VK} {a : Addr} {vs : List V} {u : Value}
theorem call_sorted_tups (hu : X.A.units + 64 < cLine) (sd : SysD X.K) (I : L2.Inv X pins σ H s) (vw : Vw U H) (hq : SqL X.K H a vs) {rs : List (List Int)} (rv : RVs X.K M U (rs.map fun r => .tup (r.map D.int)) vs) (ru : RelV (.ref a) u)
    (hs : ascT rs) (q : ∀ p, H p = none → Q (.ref p) (upd H p (.lst vs))) : wpAny (model X.prog X.w) X.A (call (.builtin "sorted") [u]) (EP X pins σ Q) X.xe s := by
  obtain ⟨hasc, k, hk⟩ := hs
  obtain rfl : u = Value.ref a := ru
  obtain ⟨its, rvs, hl, hz⟩ := I.list hq
  obtain ⟨as, ra, _⟩ := readss_of I vw sd _ 30 vs its isDs_tups rv rvs
  rw [toPs_tups] at ra
  have hlen : vs.length = rs.length := by
    have := rv.length
    simpa using this
  have e1 : W.EachIs (fun u (b : V × List Int) => RelV b.1 u) its (vs.zip rs) := each_zip (each_vals rvs) hlen
  have e2 := each_reads (h := s.heap) hlen ra
  have hz1 : (vs.zip rs).map Prod.snd = rs := zip_map_snd hlen
  have hmem : ∀ b ∈ vs.zip rs, b.2 ∈ rs := fun b hb => by
    rw [← hz1]; exact List.mem_map.mpr ⟨b, hb, rfl⟩
  have hle : W.dataLe false (fun (b : V × List Int) => PyData.tuple (b.2.map PyData.int)) = fun p q => decide (p.2 ≤ q.2) := dataLe_tups Prod.snd
  have hsrt : (vs.zip rs).mergeSort (W.dataLe false (fun (b : V × List Int) => PyData.tuple (b.2.map PyData.int))) = vs.zip rs := by
    refine List.mergeSort_of_pairwise ?_
    rw [hle]
    have : ((vs.zip rs).map Prod.snd).Pairwise (fun a b => a ≤ b) := by rw [hz1]; exact hasc
    rw [List.pairwise_map] at this
    exact this.imp fun {a b} hab => by simpa using hab
  refine W.sorted_data (s := s) (vs := its) (bs := vs.zip rs) (enc := fun b => PyData.tuple (b.2.map PyData.int)) (R := fun u b => RelV b.1 u) hl.isList e1 e2 ?_ ?_ ?_ ?_ ?_
  · intro d hd d' hd'
    obtain ⟨b, hb, rfl⟩ := List.mem_map.mp hd
    obtain ⟨b', hb', rfl⟩ := List.mem_map.mp hd'
    exact alikeAll_ints (by rw [hk _ (hmem b hb), hk _ (hmem b' hb')])
  · left
    intro d hd
    obtain ⟨b, hb, rfl⟩ := List.mem_map.mp hd
    have := hk _ (hmem b hb)
    cases hb2 : b.2 with
    | nil => rw [hb2] at this; simp at this
    | cons x r => exact ⟨_, _, rfl⟩
  · have := hz
    simp [hlen] at this ⊢
    exact this
  · intro b hb
    have e : PyData.depth (PyData.tuple (b.2.map PyData.int)) = PyData.depthAll (b.2.map PyData.int) + 1 := by simp [PyData.depth]
    rw [e, depth_ints]
    omega
  · intro out hol hout
    rw [hsrt] at hout
    have ho : Vals vs out := vals_each (each_fst hlen hout)
    obtain ⟨ep, he⟩ := PyProof.Rows.sortedAll_at s.heap its out.toArray
    exact ⟨.ref (s.heap.objs.size + 1), upd H (s.heap.objs.size + 1) (.lst vs), I.laid (fun _ _ => PyProof.Rows.sortedAll_old) (Nat.le_succ _) ⟨hz, out, ep, ho, he⟩, rfl, q _ (I.hok.fresh (Nat.le_succ _))⟩
end
theorem sorted_tup_raw {prog : Program} {w : World} {A : Around} {E : Value → Shared → Prop} {s : Shared} {l : Addr} {vs : List Value} {ns : List Int} {Q : Value → Shared → Prop}
    (ht : s.heap.IsTuple l vs.toArray) (hi : IntsAre vs ns) (hz : vs.length ≤ sizeLine)
    (q : ∀ (h1 h' : Heap) (a : Addr) (e : Nat) (out : List Value), (∀ (b : Addr) (o : Obj), s.heap.get? b = some o → h1.get? b = some o) → h1.objs.size ≤ a → h'.get? a = some (seqObj "list" out.toArray e) → (∀ (b : Addr) (o : Obj), h1.get? b = some o → h'.get? b = some o) →
      IntsAre out (out.map SrtO.iv) → (out.map SrtO.iv).Perm ns → (out.map SrtO.iv).Pairwise (· ≤ ·) → Q (.ref a) { heap := h', gens := s.gens, drawn := s.drawn, toks := s.toks, os := s.os }) :
    wpAny (model prog w) A (call (.builtin "sorted") [.ref l]) Q E s := by
  obtain ⟨o, ho, hc, n, hd⟩ := ht
  refine call_function_entry_kw kind_sorted plain_sorted entry_sorted (args_sorted1 _) ?_
  refine wpAny_bind (wpAny_pure ?_)
  refine wpAny_bind (wpAny_collect_seq l (.inr rfl) ho hc hd (fun h1 hk1 => ?_) (by simpa using hz))
  refine wpAny_bind (wpAny_newList ?_ (by simpa using hz))
  have ha : (h1.push { cls := Value.type "list", data := Data.seq vs.toArray.toList.toArray }).get? h1.objs.size = some (seqObj "list" vs.toArray 0) := by
    rw [Heap.get?_push_size _ rfl]
  refine wpAny_bind (wpAny_holding (wpAny_call_entry_kw slot_list_sort ⟨_, ha, rfl⟩ entry_list_sort (wpAny_mono (SrtO.list_sort_ord (E := E) (R := fun f s' => f = Fin.done (Flow.ret Value.none) ∧ wpAny (model prog w) A.in1 (ret (Value.ref h1.objs.size)) (fun fin s' => ∃ v, fin = Fin.done (Flow.ret v) ∧ Q v s') E s') SrtO.swo_int ha hz (fun h2 => SrtO.ints_sortable hi h2) ?_) ?_ ?_) (args_list_sort _)))
  · intro out k1 k2
    obtain ⟨g1, g2, g3⟩ := SrtO.ints_out hi k1 k2
    refine ⟨rfl, wpAny_pure ⟨_, rfl, ?_⟩⟩
    obtain ⟨e, he⟩ := sortedHeap_at (out := out.toArray) ha
    refine q h1 _ h1.objs.size e out hk1 (Nat.le_refl _) he (fun b o hb => ?_) g1 g2 g3
    have hbl := Heap.lt_size hb
    have hsz : (h1.push { cls := Value.type "list", data := Data.seq vs.toArray.toList.toArray }).objs.size = h1.objs.size + 1 := by simp [Heap.push]
    rw [sortedHeap_old (Nat.ne_of_lt hbl) (by rw [hsz]; exact Nat.lt_succ_of_lt hbl)]
    exact Heap.get?_push_of_some _ hb
  · intro f s' hf
    obtain ⟨rfl, hq⟩ := hf
    exact ⟨_, rfl, hq⟩
  · exact fun e s' he => he
section
variable {X : Cx} {pins : List (Addr × Obj)} {σ : L2.St} {s : Shared} {H : Hp} {Q : VK} {a : Addr} {u : Value}
theorem call_sorted_tupI (I : L2.Inv X pins σ H s) {ns : List Int} (hq : SqT X.K H a (ns.map V.int)) (ru : RelV (.ref a) u)
    (q : ∀ (ns' : List Int) (p : Addr), ns'.Perm ns → ns'.Pairwise (· ≤ ·) → H p = none → Q (.ref p) (upd H p (.lst (ns'.map V.int)))) : wpAny (model X.prog X.w) X.A (call (.builtin "sorted") [u]) (EP X pins σ Q) X.xe s := by
  obtain rfl : u = Value.ref a := ru
  obtain ⟨its, rvs, ht, hz⟩ := I.tuple hq
  have hz' : its.length ≤ sizeLine := by rw [← rvs.length]; exact hz
  refine sorted_tup_raw ht rvs.ints hz' fun h1 h' a e out hk1 hal he hk g1 g2 g3 => ?_
  have I1 := I.kept (t' := s.toks) hk1
  have hlen : ((out.map SrtO.iv).map V.int).length ≤ sizeLine := by
    have := g2.length_eq
    simp only [List.length_map] at this hz ⊢
    omega
  exact ⟨.ref a, upd H a (.lst ((out.map SrtO.iv).map V.int)), I1.laid (fun b o hb => hk b o hb) hal ⟨hlen, out, e, vals_of_ints g1, he⟩, rfl, q _ _ g2 g3 (I1.hok.fresh hal)⟩
end
end Pw
set_option Elab.async false
set_option linter.all false
set_option maxRecDepth 100000
namespace Pw
open PySem PySem.Spec PyProof.Rows L2

def BF.val : BF → Value
  | .int => .type "int" | .str => .type "str" | .list => .type "list" | .tuple => .type "tuple"
  | f => .builtin f.nm
section
variable {X : Cx} {K : PySem.W.Frag} {M : Mp} {U H : Hp}
theorem call_repr_data (hg : X.A.guards = some []) (hu : X.A.units + 64 < cLine) (sd : SysD X.K) {pins : List (Addr × Obj)} {σ : L2.St} {s : Shared} {M : Mp} {U H : Hp} {d : D} {v : V} {u : Value} {Q : VK} (I : Inv X pins σ H s) (vw : Vw U H) (rm : RM X.K M U) (h : RV X.K M U d v) (r : RelV v u)
    (e : isD true (see M d) 30 = true) (sh : (toP (see M d)).showable = true) (hz : (toP (see M d)).shown.length ≤ LIM) (q : Q (.str (toP (see M d)).shown) H) : wpAny (model X.prog X.w) X.A (call (.builtin "repr") [u]) (EP X pins σ Q) X.xe s := by
  obtain ⟨as, rd, ns⟩ := reads_see I vw sd rm e h r
  have dp := depth_of _ _ e
  rw [← lineLIM] at hz
  generalize toP (see M d) = D at *
  have fin : ∀ t h' tk, (∀ b o, s.heap.get? b = some o → h'.get? b = some o) → EP X pins σ Q (.str D.shown t) { s with heap := h', toks := tk } := fun t h' tk hk => ⟨.str D.shown, H, I.kept hk, ⟨t, rfl⟩, q⟩
  have tk1 : ∀ t, EP X pins σ Q (.str D.shown t) { s with toks := s.toks + 1 } := fun t => ⟨.str D.shown, H, I.tok _, ⟨t, rfl⟩, q⟩
  cases rd with
  | none => exact PySem.P.repr_of_none (tk1 _)
  | bool b => exact PySem.P.repr_of_bool (tk1 _)
  | int i t => exact PySem.P.repr_of_int (by simpa [PyData.showable] using sh) (tk1 _)
  | str x t => exact PySem.P.repr_of_str (tk1 _) hz
  | list h1 h2 h3 h4 => exact repr_of_reads' (.list h1 h2 h3 h4) sh (fun _ => ns) hg (by omega) (fun _ _ z => z) (fun h' t tk hk => fin t h' tk hk) hz
  | tuple h1 h2 h3 h4 => exact repr_of_reads' (.tuple h1 h2 h3 h4) sh (fun _ => ns) hg (by omega) (fun _ _ z => z) (fun h' t tk hk => fin t h' tk hk) hz
  | dict h1 h2 h3 h4 h5 => exact repr_of_reads' (.dict h1 h2 h3 h4 h5) sh (fun _ => ns) hg (by omega) (fun _ _ z => z) (fun h' t tk hk => fin t h' tk hk) hz
/-- a whole number of up to 4300 digits, shown -/
theorem call_repr_great (hc : X.calm = true) (sd : SysD X.K) {pins : List (Addr × Obj)} {σ : L2.St} {s : Shared} {H : Hp} {i : Int} {t : Tok} {Q : VK} (I : Inv X pins σ H s) (hi : i.natAbs < 10 ^ 4300) (q : Q (.str (toString i)) H) :
    wpAny (model X.prog X.w) X.A (call (.builtin "repr") [.int i t]) (EP X pins σ Q) X.xe s := by
  have hn := nodigits sd I
  refine Calls.call_function_entry F.kind_repr F.plain_repr F.entry_repr (F.args_repr1 _) ?_
  unfold Builtin.«repr»
  refine wpAny_bind (m := oneArg "repr" _) (wpAny_pure ?_)
  have hv : [Value.int i t].any Value.onHeap = false := rfl
  simp only [cRoomFor, hv, Bool.false_eq_true, if_false, pure_bind]
  have hT := typeIs_int s i t
  refine wpAny_bind (wpAny_specialOf (name := Str.ofString "__repr__") hT F.slot_int_repr.lookup ?_)
  refine wpAny_bind (m := callSpecialIfBound? (.int i t) (Str.ofString "__repr__")) (wpAny_callSpecialIfBound?_slot (name := Str.ofString "__repr__") hT F.slot_int_repr (call_int_repr_or (I.ok.hd hc) hn (fun _ => ?_) fun h => absurd hi (Nat.not_lt.mpr h)))
  refine wpAny_bind (wpAny_isInstance (T := "str") (b := true) rfl isSubtype_str_str ?_)
  exact wpAny_pure ⟨_, rfl, ⟨.str (toString i), H, I.tok _, ⟨_, rfl⟩, q⟩⟩
theorem bf_ok (hc : X.calm = true) (hg : X.A.guards = some []) (hu : X.A.units + 64 < cLine) (sd : SysD X.K) (m : Bool) (f : BF) : CallR X f.val (rBf X.K m f) := by
  intro pins s σ H vs us Q I r h
  obtain ⟨U, M, ds, R, vw, rm, rv, hf, out⟩ := h
  unfold bfn at hf
  split at hf
  · -- len
    obtain ⟨v, rfl, q⟩ := rv.one_of
    split at hf
    · rename_i zs e
      have e' := see_tup e
      subst e'
      simp only [RV] at q
      obtain ⟨a, vs, rfl, hq, q⟩ := q
      exact call_len_seq pins s σ H _ us Q I r ⟨a, vs, rfl, .inr (vw.sqT hq), by rw [q.length]; exact out.int vw rm hf⟩
    · rename_i zs e
      obtain ⟨a, vs, rfl, hq, q⟩ := lstM_at vw rm (see_lst e) q
      exact call_len_seq pins s σ H _ us Q I r ⟨a, vs, rfl, .inl (.of hq), by rw [q.length]; exact out.int vw rm hf⟩
    · rename_i zs e
      have e' := see_scr e
      subst e'
      simp only [RV] at q
      obtain ⟨a, vs, rfl, hq, q⟩ := q
      exact call_len_seq pins s σ H _ us Q I r ⟨a, vs, rfl, .inl (vw.sqS hq).sq, by rw [q.length]; exact out.int vw rm hf⟩
    · rename_i z e
      have e' := see_str e
      subst e'
      simp only [RV] at q
      subst q
      exact call_len_str pins s σ H _ us Q I r ⟨z, rfl, by rw [lineLIM]; exact hf.1, out.int vw rm hf.2⟩
    · rename_i kvs e
      obtain ⟨a, us', rfl, hq, q⟩ := see_dic vw rm e q
      refine call_lenD pins s σ H _ us Q I r ⟨a, us', rfl, hq, ?_⟩
      rw [q.length]; exact out.int vw rm hf
    · exact hf.elim
  · -- max 2
    obtain ⟨v, v', rfl, q, q'⟩ := rv.two_of
    simp only [RV] at q q'
    subst q q'
    exact call_max2 hc pins s σ H _ us Q I r ⟨_, _, rfl, out.int vw rm hf⟩
  · obtain ⟨v, v', rfl, q, q'⟩ := rv.two_of
    simp only [RV] at q q'
    subst q q'
    exact call_min2 hc pins s σ H _ us Q I r ⟨_, _, rfl, out.int vw rm hf⟩
  · -- max of a sequence
    obtain ⟨v, rfl, q⟩ := rv.one_of
    split at hf
    · rename_i ns e
      obtain ⟨a, rfl, hq⟩ := intSeq vw rm e q
      exact big_max hc hu pins s σ H _ us Q I r ⟨a, ns, rfl, hq, hf.1, out.int vw rm hf.2⟩
    · exact hf.elim
  · obtain ⟨v, rfl, q⟩ := rv.one_of
    split at hf
    · rename_i ns e
      obtain ⟨a, rfl, hq⟩ := intSeq vw rm e q
      exact big_min hc hu pins s σ H _ us Q I r ⟨a, ns, rfl, hq, hf.1, out.int vw rm hf.2⟩
    · exact hf.elim
  · obtain ⟨v, rfl, q⟩ := rv.one_of
    split at hf
    · rename_i ns e
      obtain ⟨a, rfl, hq⟩ := intSeq vw rm e q
      exact big_sum hc pins s σ H _ us Q I r ⟨a, ns, rfl, hq, out.int vw rm hf⟩
    · exact hf.elim
  · -- all
    obtain ⟨v, rfl, q⟩ := rv.one_of
    split at hf
    · rename_i bs e
      obtain ⟨a, rfl, hq⟩ := blLst vw rm e q
      exact cr_all hc pins s σ H _ us Q I r ⟨a, bs, rfl, hq, out.bl vw rm hf⟩
    · exact hf.elim
  · obtain ⟨v, rfl, q⟩ := rv.one_of
    split at hf
    · rename_i bs e
      obtain ⟨a, rfl, hq⟩ := blLst vw rm e q
      exact cr_any hc pins s σ H _ us Q I r ⟨a, bs, rfl, hq, out.bl vw rm hf⟩
    · exact hf.elim
  · -- abs
    obtain ⟨v, rfl, q⟩ := rv.one_of
    simp only [RV] at q
    subst q
    exact call_abs pins s σ H _ us Q I r ⟨_, rfl, out.int vw rm hf⟩
  · -- int
    obtain ⟨v, rfl, q⟩ := rv.one_of
    simp only [RV] at q
    subst q
    exact call_int1 pins s σ H _ us Q I r (.inl ⟨_, rfl, out.int vw rm hf⟩)
  · obtain ⟨v, rfl, q⟩ := rv.one_of
    simp only [RV] at q
    subst q
    exact call_int1 pins s σ H _ us Q I r (.inr ⟨_, rfl, out.int vw rm hf⟩)
  · -- str
    obtain ⟨v, rfl, q⟩ := rv.one_of
    simp only [RV] at q
    subst q
    exact call_str_int pins s σ H _ us Q I r ⟨_, rfl, hf.1, out.str vw rm hf.2⟩
  · -- repr
    obtain ⟨v, rfl, q⟩ := rv.one_of
    obtain ⟨u, rfl, ru⟩ := Vals.one r
    rcases hf with hf | hf
    · unfold reprI at hf
      split at hf
      · rename_i i
        simp only [RV] at q
        subst q
        obtain ⟨t, rfl⟩ := ru
        exact call_repr_great hc sd I hf.1 (out.str vw rm hf.2)
      · exact hf.elim
    obtain ⟨y, hy, f1, f2, f3, f4⟩ := hf
    rcases hy with rfl | ⟨l, hl⟩
    · exact call_repr_data hg hu sd I vw rm q ru f1 f2 f3 (out.str vw rm f4)
    · have rm0 : RM X.K (fun _ => none) U := fun a o e => by cases e
      have q0 := settle_ok (M2 := fun _ => none) rm (fun a o e => by cases e) 8 _ _ _ hl q (fun _ _ => rfl)
      have e0 : see (fun _ => none) y = y := by
        cases y <;> simp [isD] at f1 <;> rfl
      exact call_repr_data (M := fun _ => none) (d := y) hg hu sd I vw rm0 q0 ru (by rw [e0]; exact f1) (by rw [e0]; exact f2) (by rw [e0]; exact f3) (by rw [e0]; exact out.str vw rm f4)
  · -- sorted
    obtain ⟨v, rfl, q⟩ := rv.one_of
    split at hf
    · rename_i ns e
      obtain ⟨a, rfl, hq⟩ := intLst vw rm e q
      refine cr_sortedI pins s σ H _ us Q I r ⟨a, ns, rfl, hq, fun ns' p hp hs hn => ?_⟩
      have e' := sortI_of hp hs
      subst e'
      exact out.lst vw rm RVs.ints hf hn
    · unfold sortT at hf
      split at hf
      · rename_i rs e
        obtain ⟨ds, e0, e1⟩ := Option.bind_eq_some_iff.mp e
        have e2 := tupsOf_eq e1
        subst e2
        obtain ⟨a, vs, rfl, hq, q2⟩ := lstOf_at vw rm e0 q
        obtain ⟨u, rfl, ru⟩ := Vals.one r
        exact call_sorted_tups hu sd I vw hq q2 ru hf.1 fun p hp => out.lst vw rm q2 hf.2 hp
      · split at hf
        · rename_i ds
          split at hf
          · rename_i ns e
            simp only [RV] at q
            obtain ⟨a, vs, rfl, hq, q2⟩ := q
            obtain ⟨rfl, rfl⟩ := RVs.ints_of e q2
            obtain ⟨u, rfl, ru⟩ := Vals.one r
            refine call_sorted_tupI I (vw.sqT hq) ru fun ns' p hp hs hn => ?_
            have e' := sortI_of hp hs
            subst e'
            exact out.lst vw rm RVs.ints hf hn
          · exact hf.elim
        · exact hf.elim
  · -- divmod
    obtain ⟨v, v', rfl, q, q'⟩ := rv.two_of
    simp only [RV] at q q'
    subst q q'
    exact call_divmodF pins s σ H _ us Q I r ⟨_, _, rfl, ⟨hf.1.1, divOk_log hf.1⟩, out.tup vw rm (ds := [.int _, .int _]) (by simp [RVs, RV]) hf.2⟩
  · exact hf.elim
end
end Pw
set_option Elab.async false
set_option linter.all false
set_option maxRecDepth 100000
namespace Pw
open PySem PySem.Spec PyProof.Rows L2

def MK.ty : MK → String
  | .lst => "list" | .tup => "tuple" | .dic => "dict" | .str => "str"
/-- the method's own name, among the built-in ones -/
def mid (k : MK) (f : MF) : String := k.ty ++ "." ++ f.nm
/-- by values: a method -/
def rMt (K : PySem.W.Frag) (m : Bool) (k : MK) (f : MF) : V → List V → Hp → VK → Prop := fun x vs H Q => ∃ U M d ds R, Vw U H ∧ RM K M U ∧ RV K M U d x ∧ RVs K M U ds vs ∧ mth m k f d ds M R ∧ Out K M U H R Q
section
variable {X : Cx} {K : PySem.W.Frag} {M : Mp} {U H : Hp}
theorem onL_at (vw : Vw U H) (rm : RM K M U) {o : D} {x : V} {g : Addr → List D → Prop} (h : RV K M U o x) (q : onL o M g) : ∃ a ds vs, x = .ref a ∧ M a = some (.lst ds) ∧ H a = some (.lst vs) ∧ RVs K M U ds vs ∧ g a ds := by
  unfold onL at q
  split at q
  · rename_i a
    split at q
    · rename_i ds e
      simp only [RV] at h
      obtain ⟨vs, hl, rv⟩ := rm a _ e
      exact ⟨a, ds, vs, h, e, vw _ _ hl, rv, q⟩
    · exact q.elim
  · exact q.elim
theorem onDW_at (vw : Vw U H) (rm : RM K M U) {o : D} {x : V} {g : Addr → List (Key × D) → Prop} (h : RV K M U o x) (q : onDW o M g) : ∃ a ds vs, x = .ref a ∧ M a = some (.dic ds) ∧ H a = some (.dK vs) ∧ RKs K M U ds vs ∧ g a ds := by
  unfold onDW at q
  split at q
  · rename_i a
    split at q
    · rename_i ds e
      simp only [RV] at h
      obtain ⟨vs, hl, rv⟩ := rm a _ e
      exact ⟨a, ds, vs, h, e, vw _ _ hl, rv, q⟩
    · exact q.elim
  · exact q.elim
theorem onD_at (vw : Vw U H) (rm : RM K M U) {o : D} {x : V} {g : List (Key × D) → Prop} (h : RV K M U o x) (q : onD o M g) : ∃ a us, x = .ref a ∧ H a = some (.dK us) ∧ ∃ kvs, RKs K M U kvs us ∧ g kvs := by
  unfold onD at q
  split at q
  · rename_i kvs e
    obtain ⟨a, us, e1, e2, e3⟩ := see_dic vw rm e h
    exact ⟨a, us, e1, e2, kvs, e3, q⟩
  · exact q.elim
/-- a list of ours is written -/
theorem Out.wr (o : Out K M U H R Q) (vw : Vw U H) (r : RM K M U) {a : Addr} {ds es : List D} {vs : List V} {d : D} {v : V} (hm : M a = some (.lst ds)) (q : RVs K M U es vs) (h : R d (up M a (.lst es))) (hd : RV K M U d v) : Q v (upd H a (.lst vs)) :=
  let ⟨_, hv, _⟩ := r a _ hm
  o d (up M a (.lst es)) v _ _ (Ext.wr hm) (Kp.wr vw hv) (r.wr hm ⟨vs, upd_same, RVs.mono (Ext.wr hm) r es vs q⟩) (RV.mono (Ext.wr hm) r d v hd) h
theorem Out.wrD (o : Out K M U H R Q) (vw : Vw U H) (r : RM K M U) {a : Addr} {ds es : List (Key × D)} {vs : List (Key × V)} {d : D} {v : V} (hm : M a = some (.dic ds)) (q : RKs K M U es vs) (h : R d (up M a (.dic es))) (hd : RV K M U d v) : Q v (upd H a (.dK vs)) :=
  let ⟨_, hv, _⟩ := r a _ hm
  o d (up M a (.dic es)) v _ _ (Ext.wr hm) (Kp.wr vw hv) (r.wr hm ⟨vs, upd_same, RKs.mono (Ext.wr hm) r es vs q⟩) (RV.mono (Ext.wr hm) r d v hd) h
theorem rvNon : RV K M U .non V.non := by simp only [RV]
theorem RVs.last_at {ds : List D} {vs : List V} {y : D} (h : RVs K M U ds vs) (e : ds[ds.length - 1]? = some y) : ∃ v, vs[vs.length - 1]? = some v ∧ RV K M U y v := by
  rw [h.length]; exact h.get e
theorem ixAt_seq {n : Nat} {i : Int} {k : Nat} (e : ixAt n i = some k) : seqIndex? i n = some k := (ixN_seq e).1
theorem mapSeq_erase (its : List Value) (n j : Nat) : ∃ n', Obj.mapSeq (fun ys => ys.eraseIdxIfInBounds j) { cls := .type "list", data := .seq its.toArray n } = { cls := .type "list", data := .seq (its.eraseIdx j).toArray n' } := by
  have e : its.toArray.eraseIdxIfInBounds j = (its.eraseIdx j).toArray := by
    rw [Array.eraseIdxIfInBounds]
    split
    · simp
    · rename_i hj
      rw [List.eraseIdx_of_length_le (by simpa using hj)]
  refine ⟨if (its.eraseIdx j).length = its.length then n else n + 1, ?_⟩
  simp [Obj.mapSeq, e]
theorem RVs.strs_of : ∀ {ds : List D} {vs : List V} {ns : List Str}, strsOf ds = some ns → RVs K M U ds vs → vs = ns.map V.str
  | [], vs, ns, e, h => by
    simp only [RVs] at h
    simp only [strsOf] at e; cases e; exact h
  | d :: ds, vs, ns, e, h => by
    simp only [RVs] at h
    obtain ⟨v, q, e', h1, h2⟩ := h
    cases d <;> simp only [strsOf] at e <;> try cases e
    split at e
    · rename_i is eis
      cases e
      have r1 := RVs.strs_of eis h2
      simp only [RV] at h1
      subst h1; subst e'
      rw [r1]; rfl
    · cases e
theorem RVs.strs : ∀ {ns : List Str}, RVs K M U (ns.map D.str) (ns.map V.str)
  | [] => by simp [RVs]
  | n :: ns => by
    simp only [List.map_cons, RVs]
    exact ⟨_, _, rfl, by simp [RV], RVs.strs⟩
theorem intTup {d : D} {v : V} {ns : List Int} (e : (match d with
    | .tup ds => intsOf ds
    | _ => none) = some ns) (vw : Vw U H) (h : RV K M U d v) : ∃ a, v = .ref a ∧ SqT K H a (ns.map V.int) := by
  split at e
  · simp only [RV] at h
    obtain ⟨a, vs, rfl, hq, q⟩ := h
    obtain ⟨rfl, _⟩ := RVs.ints_of e q
    exact ⟨a, rfl, vw.sqT hq⟩
  · cases e
theorem toPs_place (x : D) (ys : List D) : PySem.SeqAt.dataPlace (toPs ys) (toP x) = placeD x ys := by
  unfold PySem.SeqAt.dataPlace placeD
  induction ys with
  | nil => rfl
  | cons y ys ih =>
    simp only [toPs, List.findIdx?_cons, ih, eqD]
theorem toPs_count (x : D) (ys : List D) : ((toPs ys).countP fun y => PyData.eqv y (toP x)) = countD x ys := by
  unfold countD
  induction ys with
  | nil => rfl
  | cons y ys ih =>
    simp only [toPs, List.countP_cons, ih, eqD]
/-- items and a value that are data -/
theorem mem_reads (hu : X.A.units + 64 < cLine) (sd : SysD X.K) {pins : List (Addr × Obj)} {σ : L2.St} {s : Shared} {a : D} {ys : List D} {x : V} {v : Value} {vs : List V} {us : List Value} {M : Mp} {U H : Hp} (I : Inv X pins σ H s) (vw : Vw U H) (rm : RM X.K M U) (ra : RV X.K M U a x) (rx : RelV x v)
    (rb : RVs X.K M U ys vs) (ry : Vals vs us) (e : memOk (see M a) ys = true) : ∃ as bs, Reads s.heap v (toP (see M a)) as ∧ ReadsAll s.heap us (toPs ys) bs ∧ (toP (see M a)).plain = true ∧ PyData.plainAll (toPs ys) = true ∧ X.A.units + 1 + min (PyData.depthAll (toPs ys)) (toP (see M a)).depth < cLine := by
  simp only [memOk, Bool.and_eq_true] at e
  have e2 := isDs_mono _ _ e.2
  obtain ⟨as, r1, _⟩ := reads_see I vw sd rm (isD_mono _ _ e.1) ra rx
  obtain ⟨bs, r2, _⟩ := readss_of I vw sd ys 30 vs us e2 rb ry
  have d1 := depth_of _ _ (isD_mono _ _ e.1)
  exact ⟨as, bs, r1, r2, plain_of _ _ e.1, plains_of _ _ e.2, by omega⟩
section
open PySem.SeqAt
variable {prog : Program} {w : World} {A : Around} {E : Value → Shared → Prop} {s : Shared} {l : Addr} {vs : Array Value} {xs : List PyData} {x : Value} {d : PyData} {as bs : List Addr} {Q : Value → Shared → Prop}
theorem index_list_data {j : Nat} (hl : s.heap.IsList l vs) (rs : ReadsAll s.heap vs.toList xs as) (rx : Reads s.heap x d bs) (hxs : PyData.plainAll xs = true) (hd : d.plain = true) (hu : A.units + 1 + min (PyData.depthAll xs) d.depth < cLine)
    (hp : dataPlace xs d = some j) (hsz : vs.size < 2 ^ 63 - 1) (h : Q (.int (j : Nat) s.toks) { s with toks := s.toks + 1 }) : wpAny (model prog w) A (call (.builtin "list.index") [.ref l, x]) Q E s := by
  obtain ⟨⟨cls, dd, data, sl⟩, ho, hc, n, hd'⟩ := id hl
  simp only at hc hd'
  subst hc hd'
  obtain ⟨hj, hit, hno⟩ := hit_at rs hxs hp
  exact call_meets PySem.F.slot_list_index ⟨_, ho, rfl⟩ PySem.F.entry_list_index (PySem.F.args_list_index_2 _ _) (list_indexAt l vs n dd sl x _ j hj (by omega) hit hno) ⟨ho, items_plain rs rx hxs hd hu, h⟩
end
theorem see_refD {M : Mp} {d : D} {p : Addr} (e : see M d = .ref p) : d = .ref p := by
  cases d <;> simp only [see] at e <;> try cases e
  split at e <;> first
    | exact e
    | cases e
theorem tkD_at {K : PySem.W.Frag} {M : Mp} {U : Hp} {d : D} {v : V} {k : List Int} (e : tkD d = some k) (h : RV K M U d v) : ∃ b, v = .ref b ∧ SqF K U b (k.map V.int) := by
  cases d <;> simp only [tkD] at e <;> try cases e
  simp only [RV] at h
  obtain ⟨b, vs, rfl, hq, q⟩ := h
  obtain ⟨rfl, _⟩ := RVs.ints_of e q
  exact ⟨b, rfl, hq⟩
theorem mt_ok (hu : X.A.units + 64 < cLine) (sd : SysD X.K) (m : Bool) (k : MK) (f : MF) : MtR X (mid k f) (rMt X.K m k f) := by
  intro pins s σ H x vs v us Q I rx rs h
  obtain ⟨U, M, d, ds, R, vw, rm, rd, rv, hf, out⟩ := h
  unfold mth at hf
  split at hf
  · -- append
    obtain ⟨a, es, ws, rfl, hm, hl, rw', hz, q⟩ := onL_at vw rm rd hf
    obtain ⟨y, rfl, ry⟩ := rv.one_of
    exact mt_append pins s σ H _ _ v us Q I rx rs ⟨a, ws, y, rfl, rfl, hl, by rw [rw'.length, lineLIM]; exact hz, out.wr vw rm hm (rw'.app (.one ry)) q rvNon⟩
  · -- pop
    obtain ⟨a, es, ws, rfl, hm, hl, rw', q⟩ := onL_at vw rm rd hf
    simp only [RVs] at rv
    subst rv
    split at q
    · rename_i y e
      obtain ⟨w, e', ry⟩ := rw'.last_at e
      exact mt_pop pins s σ H _ _ v us Q I rx rs ⟨a, ws, w, rfl, rfl, hl, e', out.wr vw rm hm rw'.last q ry⟩
    · exact q.elim
  · obtain ⟨a, es, ws, rfl, hm, hl, rw', q⟩ := onL_at vw rm rd hf
    obtain ⟨y, rfl, ry⟩ := rv.one_of
    simp only [RV] at ry
    subst ry
    split at q
    · rename_i k e
      split at q
      · rename_i y e1
        obtain ⟨w, e', ry⟩ := rw'.get e1
        obtain ⟨q1, q2, q3⟩ := q
        exact mt_popAt pins s σ H _ _ v us Q I rx rs ⟨a, ws, _, k, w, rfl, rfl, hl, by omega, by omega, by rw [rw'.length]; exact ixAt_seq e, e', out.wr vw rm hm (rw'.erase k) q3 ry⟩
      · exact q.elim
    · exact q.elim
  · -- insert
    obtain ⟨a, es, ws, rfl, hm, hl, rw', q1, q2, q3, q4⟩ := onL_at vw rm rd hf
    obtain ⟨y, y', rfl, ry, ry'⟩ := rv.two_of
    simp only [RV] at ry
    subst ry
    exact mt_insert pins s σ H _ _ v us Q I rx rs ⟨a, ws, _, y', rfl, rfl, hl, by rw [rw'.length, lineLIM]; exact q3, q1, by omega, out.wr vw rm hm (((rw'.take _).app (.one ry')).app (rw'.drop _)) q4 rvNon⟩
  · -- extend
    obtain ⟨a, es, ws, rfl, hm, hl, rw', q⟩ := onL_at vw rm rd hf
    obtain ⟨y, rfl, ry⟩ := rv.one_of
    split at q
    · rename_i fs e
      obtain ⟨b, zs, rfl, hb, rz⟩ := lstM_at vw rm e ry
      exact mt_extend pins s σ H _ _ v us Q I rx rs ⟨a, b, ws, zs, rfl, rfl, hl, hb, by rw [rw'.length, rz.length, lineLIM]; exact q.1, out.wr vw rm hm (rw'.app rz) q.2 rvNon⟩
    · exact q.elim
  · -- clear
    obtain ⟨a, es, ws, rfl, hm, hl, rw', q⟩ := onL_at vw rm rd hf
    simp only [RVs] at rv
    subst rv
    exact mt_clear pins s σ H _ _ v us Q I rx rs ⟨a, ws, rfl, rfl, hl, out.wr vw rm hm (by simp [RVs]) q rvNon⟩
  · -- reverse
    obtain ⟨a, es, ws, rfl, hm, hl, rw', q⟩ := onL_at vw rm rd hf
    simp only [RVs] at rv
    subst rv
    exact mt_reverse pins s σ H _ _ v us Q I rx rs ⟨a, ws, rfl, rfl, hl, out.wr vw rm hm rw'.rev q rvNon⟩
  · -- remove
    obtain ⟨a, es, ws, rfl, hm, hl, rw', q1, q⟩ := onL_at vw rm rd hf
    obtain ⟨y, rfl, ry⟩ := rv.one_of
    split at q
    · rename_i j e
      cases rx
      obtain ⟨u, rfl, ru⟩ := Vals.one rs
      obtain ⟨its, n, rvl, ho, hz⟩ := I.lst hl
      obtain ⟨as, bs, r1, r2, p1, p2, hd⟩ := mem_reads hu sd I vw rm ry ru rw' rvl q1
      have hlen := rvl.length
      refine PySem.SeqAt.remove_list_data (vs := its.toArray) (j := j) ⟨_, ho, rfl, n, rfl⟩ (by simpa using r2) r1 p2 p1 hd (by rw [toPs_place]; exact e) (by rw [List.size_toArray]; omega) ?_
      refine ⟨.non, upd H a (.lst (ws.eraseIdx j)), ?_, rfl, out.wr vw rm hm (rw'.erase j) q rvNon⟩
      obtain ⟨n', en⟩ := mapSeq_erase its n j
      exact I.lstUpd (its' := its.eraseIdx j) (n' := n') hl ho en (rvl.eraseIdx j) (Nat.le_trans (len_erase ws j) hz) s.toks
    · exact q.elim
  · -- count
    obtain ⟨y, rfl, ry⟩ := rv.one_of
    split at hf
    · rename_i es e
      obtain ⟨a, ws, rfl, hl, rw'⟩ := lstM_at vw rm e rd
      cases rx
      obtain ⟨u, rfl, ru⟩ := Vals.one rs
      obtain ⟨its, rvl, ht, hz⟩ := I.list (.of hl)
      obtain ⟨as, bs, r1, r2, p1, p2, hd⟩ := mem_reads hu sd I vw rm ry ru rw' rvl hf.1
      refine PySem.SeqAt.count_list_data ht.isList (by simpa using r2) r1 p2 p1 hd ?_
      rw [toPs_count]
      exact ⟨.int _, H, I.tok _, ⟨_, rfl⟩, out.int vw rm hf.2⟩
    · exact hf.elim
  · obtain ⟨y, rfl, ry⟩ := rv.one_of
    split at hf
    · rename_i es
      simp only [RV] at rd
      obtain ⟨a, ws, rfl, hl, rw'⟩ := rd
      cases rx
      obtain ⟨u, rfl, ru⟩ := Vals.one rs
      obtain ⟨its, rvl, ht, hz⟩ := I.tuple (vw.sqT hl)
      obtain ⟨as, bs, r1, r2, p1, p2, hd⟩ := mem_reads hu sd I vw rm ry ru rw' rvl hf.1
      refine PySem.SeqAt.count_tuple_data (show s.heap.IsTuple a its.toArray from ht) (by simpa using r2) r1 p2 p1 hd ?_
      rw [toPs_count]
      exact ⟨.int _, H, I.tok _, ⟨_, rfl⟩, out.int vw rm hf.2⟩
    · exact hf.elim
  · -- index
    obtain ⟨y, rfl, ry⟩ := rv.one_of
    simp only [RV] at ry
    subst ry
    split at hf
    · rename_i ns e
      obtain ⟨a, rfl, hq⟩ := intLst vw rm e rd
      cases rx
      obtain ⟨u, rfl, ru⟩ := Vals.one rs
      obtain ⟨t, rfl⟩ := ru
      obtain ⟨its, rvl, ht, hz⟩ := I.list hq
      exact PySem.SeqAt.list_index_ints ht.isList rvl.ints (by simpa using hz) hf.1 ⟨.int _, H, I.tok _, ⟨_, rfl⟩, out.int vw rm hf.2⟩
    · exact hf.elim
  · obtain ⟨y, rfl, ry⟩ := rv.one_of
    split at hf
    · rename_i es e
      obtain ⟨a, ws, rfl, hl, rw'⟩ := lstM_at vw rm e rd
      obtain ⟨q1, hf⟩ := hf
      split at hf
      · rename_i j ej
        cases rx
        obtain ⟨u, rfl, ru⟩ := Vals.one rs
        obtain ⟨its, rvl, ht, hz⟩ := I.list (.of hl)
        obtain ⟨as, bs, r1, r2, p1, p2, hd⟩ := mem_reads hu sd I vw rm ry ru rw' rvl q1
        have hzz : its.toArray.size < 2 ^ 63 - 1 := by
          have h9 := rvl.length
          rw [List.size_toArray, ← h9]
          exact Nat.lt_of_le_of_lt hz (by rw [lineLIM]; decide)
        refine index_list_data (j := j) ht.isList (by simpa using r2) r1 p2 p1 hd (by rw [toPs_place]; exact ej) hzz ?_
        exact ⟨.int _, H, I.tok _, ⟨_, rfl⟩, out.int vw rm hf⟩
      · exact hf.elim
    · exact hf.elim
  · obtain ⟨y, rfl, ry⟩ := rv.one_of
    split at hf
    · rename_i es e
      obtain ⟨a, ws, rfl, hl, rw'⟩ := lstM_at vw rm e rd
      obtain ⟨q1, hf⟩ := hf
      split at hf
      · rename_i j ej
        cases rx
        obtain ⟨u, rfl, ru⟩ := Vals.one rs
        obtain ⟨its, rvl, ht, hz⟩ := I.list (.of hl)
        obtain ⟨as, bs, r1, r2, p1, p2, hd⟩ := mem_reads hu sd I vw rm ry ru rw' rvl q1
        have hzz : its.toArray.size < 2 ^ 63 - 1 := by
          have h9 := rvl.length
          rw [List.size_toArray, ← h9]
          exact Nat.lt_of_le_of_lt hz (by rw [lineLIM]; decide)
        refine index_list_data (j := j) ht.isList (by simpa using r2) r1 p2 p1 hd (by rw [toPs_place]; exact ej) hzz ?_
        exact ⟨.int _, H, I.tok _, ⟨_, rfl⟩, out.int vw rm hf⟩
      · exact hf.elim
    · exact hf.elim
  · obtain ⟨y, rfl, ry⟩ := rv.one_of
    simp only [RV] at ry
    subst ry
    split at hf
    · rename_i ns e
      obtain ⟨a, rfl, hq⟩ := intTup e vw rd
      cases rx
      obtain ⟨u, rfl, ru⟩ := Vals.one rs
      obtain ⟨t, rfl⟩ := ru
      · obtain ⟨its, rvl, ht, hz⟩ := I.tuple hq
        exact PySem.SeqAt.tuple_index_ints (show s.heap.IsTuple a its.toArray from ht) rvl.ints hf.1 ⟨.int _, H, I.tok _, ⟨_, rfl⟩, out.int vw rm hf.2⟩
    · exact hf.elim
  · -- get
    obtain ⟨y, y', rfl, ry, ry'⟩ := rv.two_of
    split at hf
    rotate_left
    · rename_i p e0
      split at hf
      · rename_i lk kvs hM
        have eo := see_refD e0
        subst eo
        split at hf
        · rename_i k ek
          obtain ⟨trip, hU, hT⟩ := rm p _ hM
          obtain ⟨bq, rfl, hq⟩ := tkD_at ek ry
          simp only [RV] at rd
          subst rd
          cases rx
          obtain ⟨u, u', rfl, r1, r2⟩ := Vals.two rs
          cases r1
          obtain ⟨g1, g2⟩ := hT.at (k := k)
          refine dT_get2 (by omega) I vw hU hT hq r2 fun w' s' I' rw' => ⟨_, H, I', rw', ?_⟩
          cases eg : getT kvs k with
          | none =>
            rw [g2 eg]
            rw [eg] at hf
            exact out.here vw rm ry' hf
          | some d =>
            obtain ⟨v, ev, rv⟩ := g1 d eg
            rw [ev]
            rw [eg] at hf
            exact out.here vw rm rv hf
        · exact hf.elim
      · exact hf.elim
    · exact hf.elim
    rename_i kvs e0
    obtain ⟨a, us', rfl, hq, q⟩ := see_dic vw rm e0 rd
    split at hf
    · rename_i k e
      have ek := keyOf_kV e ry
      subst ek
      cases rx
      obtain ⟨u, u', rfl, r1, r2⟩ := Vals.two rs
      obtain ⟨g1, g2⟩ := q.get (k := k)
      refine d_get2 (by omega) I (DGet.k hq) r1 r2 fun w' s' I' rw' => ⟨_, H, I', rw', ?_⟩
      cases eg : getK kvs k with
      | none =>
        rw [g2 eg]
        rw [eg] at hf
        exact out.here vw rm ry' hf
      | some d =>
        obtain ⟨v, ev, rv⟩ := g1 d eg
        rw [ev]
        rw [eg] at hf
        exact out.here vw rm rv hf
    · exact hf.elim
  · obtain ⟨y, rfl, ry⟩ := rv.one_of
    obtain ⟨a, us', rfl, hq, kvs, q, hf⟩ := onD_at vw rm rd hf
    split at hf
    · rename_i k e
      have ek := keyOf_kV e ry
      subst ek
      cases rx
      obtain ⟨u, rfl, r1⟩ := Vals.one rs
      obtain ⟨g1, g2⟩ := q.get (k := k)
      refine d_get1 (by omega) I (DGet.k hq) r1 fun w' s' I' rw' => ⟨_, H, I', rw', ?_⟩
      cases eg : getK kvs k with
      | none =>
        rw [g2 eg]
        rw [eg] at hf
        exact out.here vw rm rvNon hf
      | some d =>
        obtain ⟨v, ev, rv⟩ := g1 d eg
        rw [ev]
        rw [eg] at hf
        exact out.here vw rm rv hf
    · exact hf.elim
  · -- setdefault
    obtain ⟨y, y', rfl, ry, ry'⟩ := rv.two_of
    obtain ⟨a, kvs, us', rfl, hm, hq, q, hf⟩ := onDW_at vw rm rd hf
    split at hf
    · rename_i k e
      have ek := keyOf_kV e ry
      subst ek
      cases rx
      obtain ⟨u, u', rfl, r1, r2⟩ := Vals.two rs
      obtain ⟨g1, g2⟩ := q.get (k := k)
      obtain ⟨hz, hf⟩ := hf
      refine d_setd I hq r1 r2 (by rw [q.length, lineLIM]; exact hz) (fun v ev w' s' I' rw' => ⟨_, H, I', rw', ?_⟩) fun en w' s' I' rw' => ⟨_, _, I', rw', ?_⟩
      · cases eg : getK kvs k with
        | none => rw [g2 eg] at ev; cases ev
        | some d =>
          obtain ⟨v', ev', rv⟩ := g1 d eg
          rw [ev] at ev'; cases ev'
          rw [eg] at hf
          exact out.here vw rm rv hf
      · cases eg : getK kvs k with
        | some d =>
          obtain ⟨v', ev', rv⟩ := g1 d eg
          rw [en] at ev'; cases ev'
        | none =>
          rw [eg] at hf
          exact out.wrD vw rm hm (q.put ry') hf ry'
    · exact hf.elim
  · -- join
    obtain ⟨y, rfl, ry⟩ := rv.one_of
    split at hf
    · rename_i a ys e
      obtain ⟨ds, e1, e2⟩ := Option.bind_eq_some_iff.mp e
      obtain ⟨p, vs, rfl, hq, q⟩ := seqOf_at vw rm e1 ry
      have ev := RVs.strs_of e2 q
      subst ev
      simp only [RV] at rd
      exact mt_join pins s σ H _ _ v us Q I rx rs ⟨a, p, ys, rd, rfl, hq, hf.1, out.str vw rm hf.2⟩
    · exact hf.elim
  · -- split
    obtain ⟨y, rfl, ry⟩ := rv.one_of
    simp only [RV] at ry
    subst ry
    split at hf
    · rename_i a
      simp only [RV] at rd
      refine mt_split pins s σ H _ _ v us Q I rx rs ⟨a, _, rd, rfl, hf.1, by rw [lineLIM]; exact hf.2.1, ?_⟩
      exact fun p hp => out.lst vw rm RVs.strs hf.2.2 hp
    · exact hf.elim
  · -- strip
    obtain ⟨y, rfl, ry⟩ := rv.one_of
    simp only [RV] at ry
    subst ry
    split at hf
    · rename_i a
      simp only [RV] at rd
      exact mt_stripChars pins s σ H _ _ v us Q I rx rs ⟨a, _, rd, rfl, by rw [lineLIM]; exact hf.1, out.str vw rm hf.2⟩
    · exact hf.elim
  · simp only [RVs] at rv
    subst rv
    split at hf
    · rename_i a
      simp only [RV] at rd
      exact mt_upper pins s σ H _ _ v us Q I rx rs ⟨a, rd, rfl, hf.1, out.str vw rm hf.2⟩
    · exact hf.elim
  · exact hf.elim
end
end Pw
set_option Elab.async false
set_option linter.all false
set_option maxRecDepth 100000
namespace Pw
open PySem PySem.Spec PyProof.Rows L2

/-- by values: o[i] -/
def rIxD (K : PySem.W.Frag) : R2 := fun x y H Q => ∃ U M a b R, Vw U H ∧ RM K M U ∧ RV K M U a x ∧ RV K M U b y ∧ ixD a b M R ∧ Out K M U H R Q
def rStD (K : PySem.W.Frag) : TSet := fun o i v H Q => ∃ U M a b d R, Vw U H ∧ RM K M U ∧ RV K M U a o ∧ RV K M U b i ∧ RV K M U d v ∧ stD a b d M R ∧ ∀ M' U' H', Ext M U M' U' → Kp U H U' H' → RM K M' U' → R M' → Q H'
def rSlD (K : PySem.W.Frag) (m : Bool) : V → Option Int → Option Int → Hp → VK → Prop := fun x lo hi H Q => ∃ U M a R, Vw U H ∧ RM K M U ∧ RV K M U a x ∧ slD m a lo hi M R ∧ Out K M U H R Q
/-- the names of types -/
def tyNames : List String := ["NoneType", "bool", "int", "str", "tuple", "list", "dict"]
def isiB (K : PySem.W.Frag) : Bool := tyNames.all fun n => ["int", "bool", "str", "tuple", "list", "dict"].all fun t => PySem.W.kitOne K (.type n) (.type t) == some (isI1 n t)
section
variable {X : Cx} {K : PySem.W.Frag} {M : Mp} {U H : Hp}
theorem atD_at {ds : List D} {vs : List V} {i : Int} {d : D} (h : RVs K M U ds vs) (e : atD ds i = some d) : ∃ v, atI vs i = some v ∧ RV K M U d v := by
  unfold atD at e
  obtain ⟨j, e1, e2⟩ := Option.bind_eq_some_iff.mp e
  obtain ⟨v, e3, q⟩ := h.get e2
  refine ⟨v, ?_, q⟩
  unfold atI
  rw [h.length]
  exact Option.bind_eq_some_iff.mpr ⟨j, e1, e3⟩
theorem ix_dict (hu : X.A.units + 1 < cLine) : IxR X (fun x y H Q => ∃ a v, x = .ref a ∧ DGet H a y (some v) ∧ Q v H) := by
  intro value slice pins s σ H x y v u Q I rx ry h hs
  obtain ⟨a, w, rfl, g, q⟩ := h
  cases rx
  exact tail_any (dict_typeIs I g) PySem.F.slot_dict_getitem.lookup (d_getItem hu I g ry fun w' s' I' rw' => ⟨w, H, I', rw', q⟩) hs
theorem ixD_ok (hu : X.A.units + 64 < cLine) : IxR X (rIxD X.K) := by
  intro value slice pins s σ H x y v u Q I rx ry h hs
  obtain ⟨U, M, a, b, R, vw, rm, ra, rb, hf, out⟩ := h
  unfold ixD at hf
  split at hf
  · rename_i ds e
    have e' := see_scr e
    subst e'
    split at hf
    · split at hf
      · rename_i d e1
        simp only [RV] at ra rb
        obtain ⟨p, vs, rfl, hq, q⟩ := ra
        obtain ⟨w, e2, rw'⟩ := atD_at q e1
        exact ix_list value slice pins s σ H _ _ v u Q I rx ry ⟨p, vs, _, w, rfl, rb, (vw.sqS hq).sq, e2, out.here vw rm rw' hf⟩ hs
      · exact hf.elim
    · exact hf.elim
  · rename_i ds e
    have e' := see_tup e
    subst e'
    split at hf
    · split at hf
      · rename_i d e1
        simp only [RV] at ra rb
        obtain ⟨p, vs, rfl, hq, q⟩ := ra
        obtain ⟨w, e2, rw'⟩ := atD_at q e1
        exact ix_tup value slice pins s σ H _ _ v u Q I rx ry ⟨p, vs, _, w, rfl, rb, vw.sqT hq, e2, out.here vw rm rw' hf⟩ hs
      · exact hf.elim
    · exact hf.elim
  · rename_i ds e
    split at hf
    · split at hf
      · rename_i d e1
        simp only [RV] at rb
        obtain ⟨p, vs, rfl, hq, q⟩ := lstM_at vw rm (see_lst e) ra
        obtain ⟨w, e2, rw'⟩ := atD_at q e1
        exact ix_list value slice pins s σ H _ _ v u Q I rx ry ⟨p, vs, _, w, rfl, rb, .of hq, e2, out.here vw rm rw' hf⟩ hs
      · exact hf.elim
    · exact hf.elim
  · rename_i z e
    have e' := see_str e
    subst e'
    split at hf
    · obtain ⟨hz, hf⟩ := hf
      split at hf
      · rename_i c e1
        simp only [RV] at ra rb
        exact ix_str value slice pins s σ H _ _ v u Q I rx ry ⟨z, _, c, ra, rb, by rw [lineLIM]; exact hz, e1, out.str vw rm hf⟩ hs
      · exact hf.elim
    · exact hf.elim
  · rename_i kvs e
    split at hf
    · rename_i k ek
      have e1 := keyOf_kV ek rb
      subst e1
      split at hf
      · rename_i d ed
        obtain ⟨a', us', rfl, hq, q⟩ := see_dic vw rm e ra
        obtain ⟨w, ew, rw'⟩ := (q.get (k := k)).1 d ed
        refine ix_dict (by omega) value slice pins s σ H _ _ v u Q I rx ry ⟨a', w, rfl, ?_, out.here vw rm rw' hf⟩ hs
        rw [← ew]
        exact DGet.k hq
      · exact hf.elim
    · exact hf.elim
  · rename_i p e
    split at hf
    · rename_i lk kvs hM
      have ea : a = .ref p := see_refD e
      subst ea
      split at hf
      · rename_i k ek
        split at hf
        · rename_i d ed
          obtain ⟨trip, hU, hT⟩ := rm p _ hM
          obtain ⟨bq, rfl, hq⟩ := tkD_at ek rb
          simp only [RV] at ra
          subst ra
          cases rx
          cases ry
          obtain ⟨w, ew, rw'⟩ := (hT.at (k := k)).1 d ed
          exact tail_any (dT_is I (vw _ _ hU)).1 PySem.F.slot_dict_getitem.lookup (dT_getItem (by omega) I vw hU hT hq ew fun w' s' I' r' => ⟨w, H, I', r', out.here vw rm rw' hf⟩) hs
        · exact hf.elim
      · exact hf.elim
    · exact hf.elim
  · exact hf.elim
theorem stD_ok (hu : X.A.units + 64 < cLine) : PSet X (rStD X.K) := by
  intro pins s σ H o i v ov iv u Q I ro ri rv h
  obtain ⟨U, M, a, b, d, R, vw, rm, ra, rb, rd, hf, out⟩ := h
  unfold stD at hf
  split at hf
  · rename_i p
    simp only [RV] at ra
    split at hf
    · rename_i ds e
      obtain ⟨vs, hl, q⟩ := rm p _ e
      split at hf
      · split at hf
        · rename_i k j ej
          simp only [RV] at rb
          refine set_list pins s σ H o i v ov iv u Q I ro ri rv ⟨p, vs, _, j, ra, rb, vw _ _ hl, by rw [q.length]; exact ej, ?_⟩
          exact out (up M p (.lst (ds.set j d))) _ _ (Ext.wr e) (Kp.wr vw hl) (rm.wr e ⟨_, upd_same, RVs.mono (Ext.wr e) rm _ _ (q.set j rd)⟩) hf
        · exact hf.elim
      · exact hf.elim
    · rename_i kvs e
      obtain ⟨us', hl, q⟩ := rm p _ e
      split at hf
      · rename_i k ek
        have e1 := keyOf_kV ek rb
        subst e1
        refine set_dict (by omega) pins s σ H o _ v ov iv u Q I ro ri rv ⟨p, _, ra, DPut.k (vw _ _ hl) (by rw [q.length, lineLIM]; exact hf.1), ?_⟩
        exact out (up M p (.dic (setK kvs k d))) _ _ (Ext.wr e) (Kp.wr vw hl) (rm.wr e ⟨_, upd_same, RKs.mono (Ext.wr e) rm _ _ (q.put rd)⟩) hf.2
      · exact hf.elim
    · rename_i kvs e
      obtain ⟨trip, hU, hT⟩ := rm p _ e
      split at hf
      · rename_i k ek
        obtain ⟨bq, rfl, hq⟩ := tkD_at ek rb
        subst ra
        cases (show ov = Value.ref p from ro)
        cases (show iv = Value.ref bq from ri)
        refine dT_setItem (by omega) I vw hU hT hq rv (by rw [lineLIM]; omega) fun s' I' => ⟨_, I', ?_⟩
        exact out (up M p (.dicT none (setT kvs k d))) (upd U p (DictT p (putQ trip k bq v))) _ (Ext.wr e) (Kp.wr vw hU) (rm.wr e ⟨_, upd_same, RTs.mono (Ext.wr e) rm _ _ (hT.put hq rd)⟩) hf.2
      · exact hf.elim
    · exact hf.elim
  · exact hf.elim
theorem RVs.cut {ds : List D} {vs : List V} (h : RVs K M U ds vs) (lo hi : Option Int) : RVs K M U (cutD ds lo hi) (cutV vs lo hi) := by
  have e : ∀ (d : Nat) (x : Option Int), cutIx ds.length d x = HT.sIx vs.length d x := by
    intro d x
    rw [h.length]
    cases x <;> rfl
  unfold cutD cutV
  rw [e, e, ← h.length]
  exact (h.drop _).take _
theorem cutD_all {ds : List D} {vs : List V} (h : RVs K M U ds vs) {lo hi : Option Int} (e1 : HT.sIx vs.length 0 lo = 0) (e2 : HT.sIx vs.length vs.length hi = vs.length) : cutD ds lo hi = ds := by
  have a1 : cutIx ds.length 0 lo = 0 := by
    rw [h.length] at e1
    cases lo <;> exact e1
  have a2 : cutIx ds.length ds.length hi = ds.length := by
    rw [h.length] at e2
    cases hi <;> exact e2
  unfold cutD
  rw [a1, a2]
  simp
theorem cutStr_eq (z : Str) (lo hi : Option Int) : cutStr z lo hi = cutS z lo hi := by
  have e : z.cps.toList.length = z.length := by simp [Str.length]
  unfold cutStr cutS
  rw [e]
  cases lo <;> cases hi <;> rfl
theorem slD_ok (m : Bool) : SlR X (rSlD X.K m) := by
  intro pins s σ H x v vl vu lo hi sl Q I rx hs pl pu h
  obtain ⟨U, M, a, R, vw, rm, ra, hf, out⟩ := h
  unfold slD at hf
  split at hf
  · rename_i ds e
    have e' := see_tup e
    subst e'
    simp only [RV] at ra
    obtain ⟨p, vs, rfl, hq, q⟩ := ra
    refine sl_tupF pins s σ H _ v vl vu lo hi sl Q I rx hs pl pu ⟨p, vs, rfl, vw.sqT hq, fun ⟨e1, e2⟩ => ?_, out.tup vw rm (q.cut lo hi) hf⟩
    rw [cutD_all q e1 e2] at hf
    exact out.here vw rm (d := .tup ds) (by simp only [RV]; exact ⟨p, vs, rfl, hq, q⟩) hf
  · rename_i ds e
    obtain ⟨p, vs, rfl, hq, q⟩ := lstM_at vw rm (see_lst e) ra
    exact sl_list pins s σ H _ v vl vu lo hi sl Q I rx hs pl pu ⟨p, vs, rfl, .of hq, fun l hl => out.lst vw rm (q.cut lo hi) hf hl⟩
  · rename_i ds e
    have e' := see_scr e
    subst e'
    simp only [RV] at ra
    obtain ⟨p, vs, rfl, hq, q⟩ := ra
    exact sl_list pins s σ H _ v vl vu lo hi sl Q I rx hs pl pu ⟨p, vs, rfl, (vw.sqS hq).sq, fun l hl => out.lst vw rm (q.cut lo hi) hf hl⟩
  · rename_i z e
    have e' := see_str e
    subst e'
    simp only [RV] at ra
    refine sl_str pins s σ H _ v vl vu lo hi sl Q I rx hs pl pu ⟨z, ra, by rw [lineLIM]; exact hf.1, ?_⟩
    rw [← cutStr_eq]
    exact out.str vw rm hf.2
  · exact hf.elim
/-- the type of a value -/
theorem tyX_of (vw : Vw U H) (rm : RM K M U) {d : D} {v : V} {n : String} (e : nm (see M d) = some n) (h : RV K M U d v) : TyX K H v (.type n) ∧ n ∈ tyNames := by
  have tup : ∀ {a : Addr} {vs : List V}, SqT K H a vs → TyX K H (.ref a) (.type "tuple") := by
    intro a vs h
    rcases h with (h | ⟨o, h⟩) | ⟨o, its, n, h, c, _⟩
    · exact .base (.tup h)
    · exact .fTuple h
    · exact .kTuple h c
  cases d
  case ref a =>
    simp only [RV] at h
    subst h
    cases q : M a with
    | none => simp only [see, q, nm] at e; cases e
    | some o =>
      cases o with
      | lst ds =>
        simp only [see, q, nm] at e
        cases e
        obtain ⟨vs, hl, _⟩ := rm a _ q
        exact ⟨.base (.lst (vw _ _ hl)), by decide⟩
      | dic kvs =>
        simp only [see, q, nm] at e
        cases e
        obtain ⟨vs, hl, _⟩ := rm a _ q
        exact ⟨.base (.dK (vw _ _ hl)), by decide⟩
      | dicT _ => simp only [see, q, nm] at e; cases e
      | dicL _ _ => simp only [see, q, nm] at e; cases e
      | ins _ _ => simp only [see, q, nm] at e; cases e
  case non => simp only [see, nm] at e; cases e; simp only [RV] at h; subst h; exact ⟨.base .non, by decide⟩
  case bl b => simp only [see, nm] at e; cases e; simp only [RV] at h; subst h; exact ⟨.base (.bl b), by decide⟩
  case int b => simp only [see, nm] at e; cases e; simp only [RV] at h; subst h; exact ⟨.base (.int b), by decide⟩
  case str b => simp only [see, nm] at e; cases e; simp only [RV] at h; subst h; exact ⟨.base (.str b), by decide⟩
  case tup b => simp only [see, nm] at e; cases e; simp only [RV] at h; obtain ⟨a, vs, rfl, hq, _⟩ := h; exact ⟨tup (vw.sqT hq), by decide⟩
  case lst b => simp only [see, nm] at e; cases e; simp only [RV] at h; obtain ⟨a, vs, rfl, hq, _⟩ := h; exact ⟨.base (.lst (vw _ _ hq)), by decide⟩
  case dic b => simp only [see, nm] at e; cases e; simp only [RV] at h; obtain ⟨a, vs, rfl, hq, _⟩ := h; exact ⟨.base (.dK (vw _ _ hq)), by decide⟩
  case scr b =>
    simp only [see, nm] at e; cases e; simp only [RV] at h; obtain ⟨a, vs, rfl, hq, _⟩ := h
    rcases vw.sqS hq with ⟨o, hq⟩ | ⟨o, its, n, h, c, _⟩
    · exact ⟨.base (.frz hq), by decide⟩
    · exact ⟨.kList h c, by decide⟩
  case ty n => simp only [see, nm] at e; cases e
  case exc n => simp only [see, nm] at e; cases e
theorem okTy_mem {t : String} (h : okTy t = true) : t ∈ ["int", "bool", "str", "tuple", "list", "dict"] := by
  simp only [okTy, Bool.or_eq_true, beq_iff_eq] at h
  rcases h with ((((h | h) | h) | h) | h) | h <;> simp [h]
theorem kit_one (hk : isiB K = true) {n t : String} (hn : n ∈ tyNames) (ht : okTy t = true) : PySem.W.kitOne K (.type n) (.type t) = some (isI1 n t) := by
  have h := List.all_eq_true.mp hk n hn
  exact beq_iff_eq.mp (List.all_eq_true.mp h t (okTy_mem ht))
theorem kit_any (hk : isiB K = true) {n : String} (hn : n ∈ tyNames) : ∀ {ts : List String}, (∀ t ∈ ts, okTy t = true) → PySem.W.kitAny K (.type n) (ts.map Value.type) = some (ts.any fun t => isI1 n t)
  | [], _ => rfl
  | t :: ts, h => by
    have h1 := kit_one hk hn (h t (by simp))
    have h2 := kit_any hk hn (ts := ts) fun t ht => h t (by simp [ht])
    rw [List.map_cons, PySem.W.kitAny, h1, List.any_cons]
    cases isI1 n t
    · exact h2
    · rfl
end
end Pw
set_option Elab.async false
set_option linter.all false
set_option maxRecDepth 100000
namespace Pw
open PySem PySem.Spec PyProof.Rows L2

/-! ### what stands around, and the readings by wanted ends -/
structure Rel (K : PySem.W.Frag) (M : Mp) (U H : Hp) (δ : St) (σ : L2.St) : Prop where
  vw : Vw U H
  rm : RM K M U
  rs : RS K M U δ σ
/-- a step of the world -/
structure Go (K : PySem.W.Frag) (M : Mp) (U H : Hp) (M' : Mp) (U' H' : Hp) : Prop where
  ex : Ext M U M' U'
  kp : Kp U H U' H'
  rm : RM K M' U'
theorem Go.refl {K : PySem.W.Frag} {M : Mp} {U H : Hp} (vw : Vw U H) (rm : RM K M U) : Go K M U H M U H := ⟨.refl, .refl vw, rm⟩
theorem Go.trans {K : PySem.W.Frag} {M M' M'' : Mp} {U H U' H' U'' H'' : Hp} (a : Go K M U H M' U' H') (b : Go K M' U' H' M'' U'' H'') : Go K M U H M'' U'' H'' := ⟨a.ex.trans b.ex, a.kp.trans b.kp, b.rm⟩
theorem Rel.mono {K : PySem.W.Frag} {M M' : Mp} {U H U' H' : Hp} {δ : St} {σ : L2.St} (r : Rel K M U H δ σ) (g : Go K M U H M' U' H') : Rel K M' U' H' δ σ := ⟨g.kp.vw, g.rm, r.rs.mono g.ex r.rm⟩
theorem Rel.here {K : PySem.W.Frag} {M : Mp} {U H : Hp} {δ : St} {σ : L2.St} (r : Rel K M U H δ σ) : Go K M U H M U H := .refl r.vw r.rm
/-- what may be raised is taken -/
def XOk (X : Cx) (xk : XD) (W : WX) (M : Mp) (U H : Hp) : Prop := ∀ c δ' M' U' H' σ', Go X.K M U H M' U' H' → RS X.K M' U' δ' σ' → xk c δ' M' → ∀ C, X.mg c = some C → W C none σ' H'
theorem XOk.mono {X : Cx} {xk : XD} {W : WX} {M M' : Mp} {U H U' H' : Hp} (x : XOk X xk W M U H) (g : Go X.K M U H M' U' H') : XOk X xk W M' U' H' := fun c δ' M1 U1 H1 σ' g' => x c δ' M1 U1 H1 σ' (g.trans g')
def OutT (K : PySem.W.Frag) (M : Mp) (U H : Hp) (R : Bool → Mp → Prop) (Q : Bool → Hp → Prop) : Prop := ∀ k M' U' H', Go K M U H M' U' H' → R k M' → Q k H'
def OutL (K : PySem.W.Frag) (n : Nat) (M : Mp) (U H : Hp) (R : List D → Mp → Prop) (Q : List V → Hp → Prop) : Prop := ∀ ds M' vs U' H', Go K M U H M' U' H' → RVs K M' U' ds vs → ds.length = n → R ds M' → Q vs H'
def OutO (K : PySem.W.Frag) (M : Mp) (U H : Hp) (R : Option Int → Mp → Prop) (Q : Option Int → Hp → Prop) : Prop := ∀ k M' U' H', Go K M U H M' U' H' → R k M' → Q k H'
def OutG (K : PySem.W.Frag) (M : Mp) (U H : Hp) (R : St → Mp → Prop) (Q : L2.St → Hp → Prop) : Prop := ∀ δ' M' σ' U' H', Go K M U H M' U' H' → RS K M' U' δ' σ' → R δ' M' → Q σ' H'
section
variable (X : Cx) (xk : XD) (W : WX)
def LE (wp : St → Mp → DK → Prop) : TE := fun σ H Q => ∃ δ M U R, Rel X.K M U H δ σ ∧ XOk X xk W M U H ∧ wp δ M R ∧ Out X.K M U H R Q
def LT (wp : St → Mp → (Bool → Mp → Prop) → Prop) : TT := fun σ H Q => ∃ δ M U R, Rel X.K M U H δ σ ∧ XOk X xk W M U H ∧ wp δ M R ∧ OutT X.K M U H R Q
def LL (n : Nat) (wp : St → Mp → (List D → Mp → Prop) → Prop) : TA := fun σ H Q => ∃ δ M U R, Rel X.K M U H δ σ ∧ XOk X xk W M U H ∧ wp δ M R ∧ OutL X.K n M U H R Q
def LO (wp : St → Mp → (Option Int → Mp → Prop) → Prop) : TO := fun σ H Q => ∃ δ M U R, Rel X.K M U H δ σ ∧ XOk X xk W M U H ∧ wp δ M R ∧ OutO X.K M U H R Q
end
/-- a def that may be called -/
def spOf (K : PySem.W.Frag) (mg : Str → Option Value) (s : SpD) : Sp := fun vs H Q E => ∃ U M ds R Xc, Vw U H ∧ RM K M U ∧ RVs K M U ds vs ∧ s ds M R Xc ∧ Out K M U H R Q ∧ ∀ c M' U' H', Go K M U H M' U' H' → Xc c M' → ∀ C, mg c = some C → E C none H'
def flatDV : D → V → Bool
  | .non, .non => true
  | .bl a, .bl b => a == b
  | .int i, .int j => decide (i = j)
  | .str x, .str y => decide (x = y)
  | _, _ => false
def flatDVs : List D → List V → Bool
  | [], [] => true
  | d :: ds, v :: vs => flatDV d v && flatDVs ds vs
  | _, _ => false
/-- where it stands: a global's, a method -/
def FnAt (mg : Str → Option Value) (K : PySem.W.Frag) (f : String) (I : FnI) (a : Addr) : Prop := match I.at_ with
  | none => mg (Str.ofString f) = some (.ref a) ∧ PySem.W.keepIn K (.ref a) = true
  | some p => Meth K (He.ga K p.1) p.2 a
theorem FnAt.glo {mg : Str → Option Value} {K : PySem.W.Frag} {f : String} {I : FnI} {a : Addr} (h : FnAt mg K f I a) (e : I.at_ = none) : mg (Str.ofString f) = some (.ref a) ∧ PySem.W.keepIn K (.ref a) = true := by
  unfold FnAt at h; rw [e] at h; exact h
theorem FnAt.meth {mg : Str → Option Value} {K : PySem.W.Frag} {f : String} {I : FnI} {a : Addr} {c m : Str} (h : FnAt mg K f I a) (e : I.at_ = some (c, m)) : Meth K (He.ga K c) m a := by
  unfold FnAt at h; rw [e] at h; exact h
/-- a class that is made -/
structure InsF (mg : Str → Option Value) (K : PySem.W.Frag) (c : Str) (fs : List Str) : Prop where
  glo : mg c = some (.ref (He.ga K c))
  cls : Cls K (He.ga K c)
  makes : PySem.W.makesIn K (He.ga K c) = true
  kp : PySem.W.keepIn K (.ref (He.ga K c)) = true
  no : ∀ f ∈ fs, NoAttr K (He.ga K c) f
/-- a def of the text, as it may be called -/
structure FnX (P : Program) (w : World) (K : PySem.W.Frag) (mg : Str → Option Value) (base : Heap) (k : Nat) (f : String) (I : FnI) (s : SpD) : Prop where
  ex : ∃ (a : Addr) (fd : FuncData), FnAt mg K f I a ∧ FnG P w K mg base k a fd I.ps (spOf K mg s) ∧
    ((I.kwn = true → I.dfl ≠ []) → ∃ (dvs : List V) (ds : List Value), flatDVs I.dfl dvs = true ∧ Vals dvs ds ∧ Binds K fd I.ps ds) ∧
    ∀ z, I.kwn = true → I.ps.getLast? = some z → KBn K fd I.ps (I.ps.length - 1) [z] (fun us ws => us ++ ws) (fun vs zs => vs ++ zs)
  ar : ∀ ds M R Xc, s ds M R Xc → ds.length = I.ps.length
/-! classes of exceptions -/
def clsV (K : PySem.W.Frag) (t : Str) : Value := if t = ("ValueError" : Str) then .type "ValueError" else .ref (He.ga K t)
def excCB (K : PySem.W.Frag) (D : Addr) : Bool := decide (PySem.W.findIn K (.ref D) "__getattribute__" = some (some (.builtin "BaseException.__getattribute__"))) && (decide (PySem.W.findIn K (.ref D) "__getattr__" = some none) && (decide (PySem.W.subIn K (.ref D) (.type "BaseException") = some true) &&
  (PySem.W.hasDictIn K D && (decide (PySem.W.findIn K (.ref D) "__class__" = some (some (.builtin "object.__class__"))) && (decide (PySem.W.specialIn K (.builtin "object.__class__") "__get__" = some (some (.builtin "getset_descriptor.__get__"))) &&
  (decide (PySem.W.takesIn K (.builtin "object.__class__") = some true) && decide (PySem.W.mroIn K D (.type "object") = some true)))))))
def isxB (G : Gc) (K : PySem.W.Frag) : Bool := G.clss.isEmpty || G.excs.all fun c => excCB K (He.ga K c) && (("ValueError" : Str) :: G.clss).all fun t => decide (PySem.W.kitOne K (.ref (He.ga K c)) (clsV K t) = some (excIs c t)) &&
  (decide (t = ("ValueError" : Str)) || decide (PySem.W.exmOne K (.ref (He.ga K c)) (clsV K t) = some (excIs c t)))
structure GX (X : Cx) (G : Gc) (C : Ct) (Γ : String → SpD) (k : Nat) (W : WX) : Prop where
  room : RoomX k X.A
  calm : X.calm = true
  sys : SysD X.K
  isi : isiB X.K = true
  N : X.N = C.N
  nd : X.N.Nodup
  sc : X.env.scope = C.sc
  fnB : ∀ x, C.fnB x = true → X.fn x = true
  free : ∀ x ∈ G.free, X.mg x = none
  const : ∀ x d, G.consts.lookup x = some d → ∃ v u, X.mg x = some u ∧ RelV v u ∧ flatDV d v = true
  fns : ∀ f I, G.fns.lookup f = some I → FnX X.prog X.w X.K X.mg X.base k f I (Γ f)
  exc : ∀ c ∈ G.excs, ∃ (A : Addr) (bmB : List Value) (B newId initId : String), ExcBaseFacts B newId initId bmB ∧ PySem.W.excIn X.K A bmB newId = true ∧ X.mg c = some (.ref A) ∧ PySem.W.keepIn X.K (.ref A) = true ∧ Raises X (.ref A)
  xis : isxB G X.K = true
  gcl : ∀ c ∈ G.excs ++ G.clss, X.mg c = some (.ref (He.ga X.K c))
  nve : ("ValueError" : Str) ∉ G.clss
  ins : ∀ c fs, G.inst.lookup c = some fs → InsF X.mg X.K c fs
  tk : Takes X W
theorem flat_rv {K : PySem.W.Frag} {M : Mp} {U : Hp} {d : D} {v : V} (h : flatDV d v = true) : RV K M U d v := by
  cases d <;> cases v <;> simp only [flatDV] at h <;> first
    | exact absurd h Bool.false_ne_true
    | (simp at h; subst h; simp only [RV])
    | (simp only [RV])
theorem flat_rvs {K : PySem.W.Frag} {M : Mp} {U : Hp} : ∀ {ds : List D} {vs : List V}, flatDVs ds vs = true → RVs K M U ds vs
  | [], [], _ => by simp only [RVs]
  | d :: ds, v :: vs, h => by
    simp only [flatDVs, Bool.and_eq_true] at h
    simp only [RVs]
    exact ⟨v, vs, rfl, flat_rv h.1, flat_rvs h.2⟩
  | [], _ :: _, h => by simp [flatDVs] at h
  | _ :: _, [], h => by simp [flatDVs] at h
theorem eqFlat_eq {x y : D} (h : eqFlat x y = true) : x = y := by
  cases x <;> cases y <;> simp only [eqFlat] at h <;> first
    | exact absurd h Bool.false_ne_true
    | (simp at h; subst h; rfl)
    | rfl
theorem eqFlats_eq : ∀ {x y : List D}, eqFlats x y = true → x = y
  | [], [], _ => rfl
  | x :: xs, y :: ys, h => by
    simp only [eqFlats, Bool.and_eq_true] at h
    rw [eqFlat_eq h.1, eqFlats_eq h.2]
  | [], _ :: _, h => by simp [eqFlats] at h
  | _ :: _, [], h => by simp [eqFlats] at h

/-! ### weaker readings -/
section
variable {X : Cx} {e : Expr}
theorem pe_imp {t t' : TE} (h : PE X e t) (i : ∀ σ H Q, t' σ H Q → t σ H Q) : PE X e t' := ⟨fun pins s σ H Q I q => h.run pins s σ H Q I (i σ H Q q)⟩
theorem pt_imp {t t' : TT} (h : PT X e t) (i : ∀ σ H Q, t' σ H Q → t σ H Q) : PT X e t' := ⟨fun pins s σ H Q I q => h.run pins s σ H Q I (i σ H Q q)⟩
theorem pa_imp {es : List Expr} {t t' : TA} (h : PA X es t) (i : ∀ σ H Q, t' σ H Q → t σ H Q) : PA X es t' := ⟨fun pos pins s σ H Q I q => h.run pos pins s σ H Q I (i σ H Q q)⟩
theorem po_imp {e : Option Expr} {t t' : TO} (h : PO X e t) (i : ∀ σ H Q, t' σ H Q → t σ H Q) : PO X e t' := ⟨fun pins s σ H Q I q => h.run pins s σ H Q I (i σ H Q q)⟩
end

/-! ### two readings, one behind another -/
section
variable {X : Cx} {xk : XD} {W : WX}
theorem LE.one {wa : St → Mp → DK → Prop} {f : D → Mp → DK → Prop} {σ : L2.St} {H : Hp} {Q : VK} (h : LE X xk W (fun δ M Q => wa δ M fun x M1 => f x M1 Q) σ H Q) :
    LE X xk W wa σ H fun x H1 => ∃ U M a R, Vw U H1 ∧ RM X.K M U ∧ RV X.K M U a x ∧ f a M R ∧ Out X.K M U H1 R Q := by
  obtain ⟨δ, M, U, R, r, xo, h, out⟩ := h
  exact ⟨δ, M, U, _, r, xo, h, fun d M1 v U1 H1 e k rm rv hR => ⟨U1, M1, d, R, k.vw, rm, rv, hR, out.mono e k⟩⟩
theorem LE.two {wa wb : St → Mp → DK → Prop} {f : D → D → Mp → DK → Prop} {σ : L2.St} {H : Hp} {Q : VK} (h : LE X xk W (fun δ M Q => wa δ M fun x M1 => wb δ M1 fun y M2 => f x y M2 Q) σ H Q) :
    LE X xk W wa σ H fun x H1 => LE X xk W wb σ H1 fun y H2 => ∃ U M a b R, Vw U H2 ∧ RM X.K M U ∧ RV X.K M U a x ∧ RV X.K M U b y ∧ f a b M R ∧ Out X.K M U H2 R Q := by
  obtain ⟨δ, M, U, R, r, xo, h, out⟩ := h
  refine ⟨δ, M, U, _, r, xo, h, fun d M1 v U1 H1 e k rm rv hR => ⟨δ, M1, U1, _, r.mono ⟨e, k, rm⟩, xo.mono ⟨e, k, rm⟩, hR, fun d2 M2 v2 U2 H2 e2 k2 rm2 rv2 hR2 => ?_⟩⟩
  exact ⟨U2, M2, d, d2, R, k2.vw, rm2, RV.mono e2 rm d v rv, rv2, hR2, (out.mono e k).mono e2 k2⟩
theorem LL.one {n : Nat} {wa : St → Mp → (List D → Mp → Prop) → Prop} {f : List D → Mp → DK → Prop} {σ : L2.St} {H : Hp} {Q : VK} (h : LE X xk W (fun δ M Q => wa δ M fun x M1 => f x M1 Q) σ H Q) :
    LL X xk W n wa σ H fun x H1 => ∃ U M a R, Vw U H1 ∧ RM X.K M U ∧ RVs X.K M U a x ∧ f a M R ∧ Out X.K M U H1 R Q := by
  obtain ⟨δ, M, U, R, r, xo, h, out⟩ := h
  exact ⟨δ, M, U, _, r, xo, h, fun d M1 v U1 H1 g rv _ hR => ⟨U1, M1, d, R, g.kp.vw, g.rm, rv, hR, out.mono g.ex g.kp⟩⟩
end
end Pw
set_option Elab.async false
set_option linter.all false
set_option maxRecDepth 100000
namespace Pw
open PySem PySem.Spec PyProof.Rows L2

/-! ### expressions, one by one -/
theorem visB_vis {sc : Scope} {x : Str} (h : visB sc x = true) : Vis sc x := by
  unfold visB at h
  split at h <;> first
    | (rename_i e; first | exact .inl e | exact .inr (.inl e) | exact .inr (.inr e))
    | cases h
theorem glB_gl {X : Cx} {x : Str} (h : glB X.env.scope x = true) : Gl X x ∧ (x == ("__debug__" : Str)) = false ∧ x ≠ "__name__" := by
  unfold glB at h
  split at h
  · rename_i e
    simp only [Bool.and_eq_true, Bool.not_eq_true', beq_eq_false_iff_ne] at h
    exact ⟨e, by simp [h.1], h.2⟩
  · cases h
theorem star_cons {e : Expr} {es : List Expr} {env : Env} (h : noStar e = true) : starEach (e :: es) env = (false, eval e env) :: starEach es env := by
  cases e <;> first | rfl | (simp [noStar] at h)
def allPlain : List Expr → Bool
  | [] => true
  | e :: es => noStar e && allPlain es
theorem star_any {env : Env} {pos : Pos} : ∀ {es : List Expr}, allPlain es = true → (backTo pos (starEach es env)).any (·.1) = false
  | [], _ => rfl
  | e :: es, h => by
    simp only [allPlain, Bool.and_eq_true] at h
    rw [star_cons h.1]
    have ih := star_any (env := env) (pos := pos) h.2
    unfold backTo at ih ⊢
    rw [List.map_cons, List.any_cons, ih]
    rfl
theorem star_all {env : Env} {pos : Pos} : ∀ {es : List Expr}, allPlain es = true → (backTo pos (starEach es env)).all (fun x => !x.1) = true
  | [], _ => rfl
  | e :: es, h => by
    simp only [allPlain, Bool.and_eq_true] at h
    rw [star_cons h.1]
    have ih := star_all (env := env) (pos := pos) h.2
    unfold backTo at ih ⊢
    rw [List.map_cons, List.all_cons, ih]
    rfl
theorem boot_bf (f : BF) : bootBuiltins (Str.ofString f.nm) = some f.val := by cases f <;> decide +kernel
theorem slc_plain {i : Expr} (h : noSlc i = true) : PlainIx i := by
  intro o v
  cases i <;> first | rfl | (simp [noSlc] at h)
section
variable {X : Cx} {xk : XD} {W : WX} {G : Gc} {C : Ct} {Γ : String → SpD} {k : Nat} {a b c : Expr} {wa wb wc : St → Mp → DK → Prop} {pos : Pos}
theorem GX.hu (g : GX X G C Γ k W) : X.A.units + 64 < cLine := g.room.rm.units
theorem r_var (g : GX X G C Γ k W) {i : Nat} {x : Str} (h1 : C.N[i]? = some x) (h2 : visB C.sc x = true) (h3 : (x == ("__debug__" : Str)) = false) (h4 : (x == ("__classdict__" : Str)) = false) :
    PE X (.Name x pos) (LE X xk W fun δ M Q => match δ[i]? with
      | some (some d) => Q d M
      | _ => False) := by
  refine pe_imp (pe_var (i := i) (by rw [g.N]; exact h1) (visB_vis (by rw [g.sc]; exact h2)) h3 h4) fun σ H Q ⟨δ, M, U, R, r, xo, h, out⟩ => ?_
  dsimp only at h
  split at h
  · rename_i d e
    obtain ⟨v, e1, q⟩ := r.rs.2 i d e
    exact ⟨v, e1, out.here r.vw r.rm q h⟩
  · exact h.elim
theorem r_lit (g : GX X G C Γ k W) {d : D} {e : Expr} (h : litB G C d e = true) : PE X e (LE X xk W fun _ M Q => Q d M) := by
  unfold litB at h
  split at h
  · split at h <;> first
      | (simp at h; subst h
         first
         | exact pe_imp pe_int fun σ H Q ⟨δ, M, U, R, r, xo, h, out⟩ => out.here r.vw r.rm (by simp only [RV]) h
         | exact pe_imp pe_bl fun σ H Q ⟨δ, M, U, R, r, xo, h, out⟩ => out.here r.vw r.rm (by simp only [RV]) h
         | exact pe_imp pe_str fun σ H Q ⟨δ, M, U, R, r, xo, h, out⟩ => out.here r.vw r.rm (by simp only [RV]) h)
      | exact pe_imp pe_non fun σ H Q ⟨δ, M, U, R, r, xo, h, out⟩ => out.here r.vw r.rm (by simp only [RV]) h
      | cases h
  · simp only [Bool.and_eq_true] at h
    obtain ⟨h1, h2⟩ := h
    rw [← g.sc] at h1
    obtain ⟨q1, q2, q3⟩ := glB_gl h1
    split at h2
    · rename_i d' e
      obtain ⟨v, u, e1, e2, e3⟩ := g.const _ _ e
      have e4 := eqFlat_eq h2
      subst e4
      exact pe_imp (pe_glob q1 e1 e2 q2) fun σ H Q ⟨δ, M, U, R, r, xo, h, out⟩ => out.here r.vw r.rm (flat_rv e3) h
    · cases h2
  · cases h
theorem r_bin (m : Bool) (op : BinO) (ha : PE X a (LE X xk W wa)) (hb : PE X b (LE X xk W wb)) :
    PE X (.BinOp a (bopO op) b pos) (LE X xk W fun δ M Q => wa δ M fun x M1 => wb δ M1 fun y M2 => bop m op x y M2 Q) :=
  pe_imp (pe_op (op_ok m op) ha hb) fun σ H Q h => LE.two h
theorem r_neg (ha : PE X a (LE X xk W wa)) : PE X (.UnaryOp .USub a pos) (LE X xk W fun δ M Q => wa δ M fun x M1 => match x with
    | .int i => Q (.int (-i)) M1
    | _ => False) := by
  refine pe_imp (pe_un un_neg ha) fun σ H Q h => ?_
  obtain ⟨δ, M, U, R, r, xo, h, out⟩ := h
  refine ⟨δ, M, U, _, r, xo, h, fun d M1 v U1 H1 e k rm rv hR => ?_⟩
  split at hR
  · simp only [RV] at rv
    exact ⟨_, rv, (out.mono e k).int k.vw rm hR⟩
  · exact hR.elim
theorem r_not (ha : PE X a (LE X xk W wa)) : PE X (.UnaryOp .Not a pos) (LE X xk W fun δ M Q => wa δ M fun x M1 => match x with
    | .bl i => Q (.bl (!i)) M1
    | _ => False) := by
  refine pe_imp (pe_not ha) fun σ H Q h => ?_
  obtain ⟨δ, M, U, R, r, xo, h, out⟩ := h
  refine ⟨δ, M, U, _, r, xo, h, fun d M1 v U1 H1 e k rm rv hR => ?_⟩
  split at hR
  · simp only [RV] at rv
    exact ⟨_, rv, (out.mono e k).bl k.vw rm hR⟩
  · exact hR.elim
theorem r_and {rest : List Expr} (ha : PE X a (LE X xk W wa)) (hb : PE X (.BoolOp .And (b :: rest) pos) (LE X xk W wb)) : PE X (.BoolOp .And (a :: b :: rest) pos) (LE X xk W fun δ M Q => wa δ M fun x M1 => match x with
    | .bl true => wb δ M1 Q
    | .bl false => Q (.bl false) M1
    | _ => False) := by
  refine pe_imp (pe_and ha hb) fun σ H Q h => ?_
  obtain ⟨δ, M, U, R, r, xo, h, out⟩ := h
  refine ⟨δ, M, U, _, r, xo, h, fun d M1 v U1 H1 e k rm rv hR => ?_⟩
  split at hR
  · simp only [RV] at rv
    exact ⟨true, rv, δ, M1, U1, R, r.mono ⟨e, k, rm⟩, xo.mono ⟨e, k, rm⟩, hR, out.mono e k⟩
  · simp only [RV] at rv
    exact ⟨false, rv, (out.mono e k).bl k.vw rm hR⟩
  · exact hR.elim
theorem r_or {rest : List Expr} (ha : PE X a (LE X xk W wa)) (hb : PE X (.BoolOp .Or (b :: rest) pos) (LE X xk W wb)) : PE X (.BoolOp .Or (a :: b :: rest) pos) (LE X xk W fun δ M Q => wa δ M fun x M1 => match x with
    | .bl true => Q (.bl true) M1
    | .bl false => wb δ M1 Q
    | _ => False) := by
  refine pe_imp (pe_or ha hb) fun σ H Q h => ?_
  obtain ⟨δ, M, U, R, r, xo, h, out⟩ := h
  refine ⟨δ, M, U, _, r, xo, h, fun d M1 v U1 H1 e k rm rv hR => ?_⟩
  split at hR
  · simp only [RV] at rv
    exact ⟨true, rv, (out.mono e k).bl k.vw rm hR⟩
  · simp only [RV] at rv
    exact ⟨false, rv, δ, M1, U1, R, r.mono ⟨e, k, rm⟩, xo.mono ⟨e, k, rm⟩, hR, out.mono e k⟩
  · exact hR.elim
theorem mark_of {op : CmpO} (h : noSet b = true) : behindInMarks (copO op) b = false := by
  cases b <;> first | rfl | (simp [noSet] at h)
theorem r_cmp (g : GX X G C Γ k W) (op : CmpO) (hs : noSet b = true) (ha : PE X a (LE X xk W wa)) (hb : PE X b (LE X xk W wb)) :
    PE X (.Compare a [copO op] [b] pos) (LE X xk W fun δ M Q => wa δ M fun x M1 => wb δ M1 fun y M2 => cop op x y M2 fun k => Q (.bl k) M2) :=
  pe_imp (pe_cmpR (cop_ok g.hu g.sys op) ha hb (mark_of hs)) fun σ H Q h => by
    obtain ⟨δ, M, U, R, r, xo, h, out⟩ := h
    refine ⟨δ, M, U, _, r, xo, h, fun d M1 v U1 H1 e k rm rv hR => ⟨δ, M1, U1, _, r.mono ⟨e, k, rm⟩, xo.mono ⟨e, k, rm⟩, hR, fun d2 M2 v2 U2 H2 e2 k2 rm2 rv2 hR2 => ?_⟩⟩
    exact ⟨U2, M2, d, d2, _, k2.vw, rm2, RV.mono e2 rm d v rv, rv2, hR2, fun q hq => ((out.mono e k).mono e2 k2).bl k2.vw rm2 hq⟩
theorem q_cmp (g : GX X G C Γ k W) (op : CmpO) (hs : noSet b = true) (ha : PE X a (LE X xk W wa)) (hb : PE X b (LE X xk W wb)) :
    PT X (.Compare a [copO op] [b] pos) (LT X xk W fun δ M Q => wa δ M fun x M1 => wb δ M1 fun y M2 => cop op x y M2 fun k => Q k M2) :=
  pt_imp (pt_cmpR (cop_ok g.hu g.sys op) ha hb (mark_of hs)) fun σ H Q h => by
    obtain ⟨δ, M, U, R, r, xo, h, out⟩ := h
    refine ⟨δ, M, U, _, r, xo, h, fun d M1 v U1 H1 e k rm rv hR => ⟨δ, M1, U1, _, r.mono ⟨e, k, rm⟩, xo.mono ⟨e, k, rm⟩, hR, fun d2 M2 v2 U2 H2 e2 k2 rm2 rv2 hR2 => ?_⟩⟩
    exact ⟨U2, M2, d, d2, _, k2.vw, rm2, RV.mono e2 rm d v rv, rv2, hR2, fun q hq => ⟨q, rfl, out q M2 U2 H2 ((Go.mk e k rm).trans ⟨e2, k2, rm2⟩) hq⟩⟩
theorem marks_of {o1 o2 : CmpO} (h : noSet c = true) : lastMarks [copO o1, copO o2] [b, c] = false := by
  show behindInMarks (copO o2) c = false
  exact mark_of h
theorem r_chain (g : GX X G C Γ k W) (o1 o2 : CmpO) (hs : noSet c = true) (ha : PE X a (LE X xk W wa)) (hb : PE X b (LE X xk W wb)) (hc : PE X c (LE X xk W wc)) :
    PE X (.Compare a [copO o1, copO o2] [b, c] pos) (LE X xk W fun δ M Q => wa δ M fun x M1 => wb δ M1 fun y M2 => cop o1 x y M2 fun k => match k with
      | true => wc δ M2 fun z M3 => cop o2 y z M3 fun k => Q (.bl k) M3
      | false => Q (.bl false) M2) :=
  pe_imp (pe_chain (cop_ok g.hu g.sys o1) (cop_ok g.hu g.sys o2) ha hb hc (marks_of hs)) fun σ H Q h => by
    obtain ⟨δ, M, U, R, r, xo, h, out⟩ := h
    refine ⟨δ, M, U, _, r, xo, h, fun d M1 v U1 H1 e k rm rv hR => ⟨δ, M1, U1, _, r.mono ⟨e, k, rm⟩, xo.mono ⟨e, k, rm⟩, hR, fun d2 M2 v2 U2 H2 e2 k2 rm2 rv2 hR2 => ?_⟩⟩
    refine ⟨U2, M2, d, d2, _, k2.vw, rm2, RV.mono e2 rm d v rv, rv2, hR2, fun q hq => ⟨q, rfl, ?_⟩⟩
    have g2 : Go X.K M U H M2 U2 H2 := (Go.mk e k rm).trans ⟨e2, k2, rm2⟩
    cases q with
    | false => exact (out.mono g2.ex g2.kp).bl k2.vw rm2 hq
    | true =>
      refine ⟨δ, M2, U2, _, r.mono g2, xo.mono g2, hq, fun d3 M3 v3 U3 H3 e3 k3 rm3 rv3 hR3 => ?_⟩
      exact ⟨U3, M3, d2, d3, _, k3.vw, rm3, RV.mono e3 rm2 d2 v2 rv2, rv3, hR3, fun q hq => ((out.mono g2.ex g2.kp).mono e3 k3).bl k3.vw rm3 hq⟩
theorem q_chain (g : GX X G C Γ k W) (o1 o2 : CmpO) (hs : noSet c = true) (ha : PE X a (LE X xk W wa)) (hb : PE X b (LE X xk W wb)) (hc : PE X c (LE X xk W wc)) :
    PT X (.Compare a [copO o1, copO o2] [b, c] pos) (LT X xk W fun δ M Q => wa δ M fun x M1 => wb δ M1 fun y M2 => cop o1 x y M2 fun k => match k with
      | true => wc δ M2 fun z M3 => cop o2 y z M3 fun k => Q k M3
      | false => Q false M2) :=
  pt_imp (pt_chain (cop_ok g.hu g.sys o1) (cop_ok g.hu g.sys o2) ha hb hc (marks_of hs)) fun σ H Q h => by
    obtain ⟨δ, M, U, R, r, xo, h, out⟩ := h
    refine ⟨δ, M, U, _, r, xo, h, fun d M1 v U1 H1 e k rm rv hR => ⟨δ, M1, U1, _, r.mono ⟨e, k, rm⟩, xo.mono ⟨e, k, rm⟩, hR, fun d2 M2 v2 U2 H2 e2 k2 rm2 rv2 hR2 => ?_⟩⟩
    refine ⟨U2, M2, d, d2, _, k2.vw, rm2, RV.mono e2 rm d v rv, rv2, hR2, fun q hq => ⟨q, rfl, ?_⟩⟩
    have g2 : Go X.K M U H M2 U2 H2 := (Go.mk e k rm).trans ⟨e2, k2, rm2⟩
    cases q with
    | false => exact ⟨false, rfl, out false M2 U2 H2 g2 hq⟩
    | true =>
      refine ⟨δ, M2, U2, _, r.mono g2, xo.mono g2, hq, fun d3 M3 v3 U3 H3 e3 k3 rm3 rv3 hR3 => ?_⟩
      exact ⟨U3, M3, d2, d3, _, k3.vw, rm3, RV.mono e3 rm2 d2 v2 rv2, rv3, hR3, fun q hq => ⟨q, rfl, out q M3 U3 H3 (g2.trans ⟨e3, k3, rm3⟩) hq⟩⟩
/-! tests -/
section
variable {ta tb : St → Mp → (Bool → Mp → Prop) → Prop}
theorem q_not (ha : PT X a (LT X xk W ta)) : PT X (.UnaryOp .Not a pos) (LT X xk W fun δ M Q => ta δ M fun k M1 => Q (!k) M1) :=
  pt_imp (pt_not ha) fun σ H Q h => by
    obtain ⟨δ, M, U, R, r, xo, h, out⟩ := h
    exact ⟨δ, M, U, _, r, xo, h, fun q M1 U1 H1 g hR => out _ M1 U1 H1 g hR⟩
theorem bool_pw {op : BoolOp} {es : List Expr} {t : TT} (h : PT X (.BoolOp op es pos) t) : PW X (.BoolOp op es pos) t := ⟨fun wh pins s σ H Q I q => h.run pins s σ H Q I q⟩
theorem pw_pt {e : Expr} {t : TT} (h : PW X e t) : PT X e t := ⟨fun pins s σ H Q I q => h.run _ pins s σ H Q I q⟩
theorem q_and {rest : List Expr} (ha : PT X a (LT X xk W ta)) (hb : PW X (.BoolOp .And (b :: rest) pos) (LT X xk W tb)) : PT X (.BoolOp .And (a :: b :: rest) pos) (LT X xk W fun δ M Q => ta δ M fun k M1 => match k with
    | true => tb δ M1 Q
    | false => Q false M1) :=
  pt_imp (pw_pt (pw_and ha hb)) fun σ H Q h => by
    obtain ⟨δ, M, U, R, r, xo, h, out⟩ := h
    refine ⟨δ, M, U, _, r, xo, h, fun q M1 U1 H1 g hR => ?_⟩
    cases q with
    | true => exact ⟨δ, M1, U1, R, r.mono g, xo.mono g, hR, fun q M2 U2 H2 g2 hR => out q M2 U2 H2 (g.trans g2) hR⟩
    | false => exact out _ M1 U1 H1 g hR
theorem q_or {rest : List Expr} (ha : PT X a (LT X xk W ta)) (hb : PW X (.BoolOp .Or (b :: rest) pos) (LT X xk W tb)) : PT X (.BoolOp .Or (a :: b :: rest) pos) (LT X xk W fun δ M Q => ta δ M fun k M1 => match k with
    | true => Q true M1
    | false => tb δ M1 Q) :=
  pt_imp (pw_pt (pw_or ha hb)) fun σ H Q h => by
    obtain ⟨δ, M, U, R, r, xo, h, out⟩ := h
    refine ⟨δ, M, U, _, r, xo, h, fun q M1 U1 H1 g hR => ?_⟩
    cases q with
    | false => exact ⟨δ, M1, U1, R, r.mono g, xo.mono g, hR, fun q M2 U2 H2 g2 hR => out q M2 U2 H2 (g.trans g2) hR⟩
    | true => exact out _ M1 U1 H1 g hR
theorem tru_of {K : PySem.W.Frag} {M : Mp} {U H : Hp} {d : D} {v : V} {k : Bool} (vw : Vw U H) (rm : RM K M U) (rv : RV K M U d v) (e : tru M d = some k) : TruV K v H k := by
  unfold tru at e
  split at e
  · rename_i e'
    have := see_non e'
    subst this
    simp only [RV] at rv; subst rv; cases e; rfl
  · rename_i b e'
    have := see_bl e'
    subst this
    simp only [RV] at rv; subst rv; cases e; rfl
  · rename_i b e'
    have := see_int e'
    subst this
    simp only [RV] at rv; subst rv; cases e; rfl
  · rename_i ds e'
    have := see_tup e'
    subst this
    simp only [RV] at rv
    obtain ⟨a, vs, rfl, hq, q⟩ := rv
    cases e
    refine .inr (.inl ⟨vs, vw.sqT hq, ?_⟩)
    have l := q.length
    cases vs <;> cases ds <;> simp_all
  · rename_i ds e'
    obtain ⟨a, vs, rfl, hq, q⟩ := lstM_at vw rm (see_lst e') rv
    cases e
    refine .inl ⟨vs, .of hq, ?_⟩
    have l := q.length
    cases vs <;> cases ds <;> simp_all
  · rename_i ds e'
    have := see_scr e'
    subst this
    simp only [RV] at rv
    obtain ⟨a, vs, rfl, hq, q⟩ := rv
    cases e
    refine .inl ⟨vs, (vw.sqS hq).sq, ?_⟩
    have l := q.length
    cases vs <;> cases ds <;> simp_all
  · rename_i ds e'
    obtain ⟨a, vs, rfl, hq, q⟩ := see_dic vw rm e' rv
    cases e
    refine .inr (.inr ⟨vs, hq, ?_⟩)
    have l := q.length
    cases vs <;> cases ds <;> simp_all
  · cases e
theorem noTest_is {e : Expr} {env : Env} (h : noTest e = true) : ∀ whole, isTrue e env whole = (do let v ← whole; standAt e.pos; holding [v] (truthy v)) := by
  intro wh
  cases e <;> first
    | rfl
    | (rename_i op _ _; cases op <;> first | rfl | (simp [noTest] at h))
    | (simp [noTest] at h)
theorem q_tst (hn : noTest a = true) (ha : PE X a (LE X xk W wa)) : PT X a (LT X xk W fun δ M Q => wa δ M fun x M1 => match tru M1 x with
    | some k => Q k M1
    | none => False) :=
  pt_imp (pt_truth ha (noTest_is hn)) fun σ H Q h => by
    obtain ⟨δ, M, U, R, r, xo, h, out⟩ := h
    refine ⟨δ, M, U, _, r, xo, h, fun d M1 v U1 H1 e k rm rv hR => ?_⟩
    split at hR
    · rename_i q eq
      exact ⟨q, tru_of k.vw rm rv eq, out q M1 U1 H1 ⟨e, k, rm⟩ hR⟩
    · exact hR.elim
theorem r_ite (hc : PT X c (LT X xk W ta)) (ha : PE X a (LE X xk W wa)) (hb : PE X b (LE X xk W wb)) : PE X (.IfExp c a b pos) (LE X xk W fun δ M Q => ta δ M fun k M1 => match k with
    | true => wa δ M1 Q
    | false => wb δ M1 Q) :=
  pe_imp (pe_ifExp hc ha hb) fun σ H Q h => by
    obtain ⟨δ, M, U, R, r, xo, h, out⟩ := h
    refine ⟨δ, M, U, _, r, xo, h, fun q M1 U1 H1 g hR => ?_⟩
    cases q with
    | true => exact ⟨δ, M1, U1, R, r.mono g, xo.mono g, hR, out.mono g.ex g.kp⟩
    | false => exact ⟨δ, M1, U1, R, r.mono g, xo.mono g, hR, out.mono g.ex g.kp⟩
end
/-! lists of expressions -/
section
variable {es : List Expr} {wl : St → Mp → (List D → Mp → Prop) → Prop}
theorem r_nil : PA X [] (LL X xk W 0 fun _ M Q => Q [] M) := pa_imp pa_nil fun σ H Q h => by
  obtain ⟨δ, M, U, R, r, xo, h, out⟩ := h
  exact out [] M [] U H r.here (by simp only [RVs]) rfl h
theorem r_cons {n : Nat} (hn : noStar a = true) (ha : PE X a (LE X xk W wa)) (hl : PA X es (LL X xk W n wl)) : PA X (a :: es) (LL X xk W (n + 1) fun δ M Q => wa δ M fun x M1 => wl δ M1 fun xs M2 => Q (x :: xs) M2) :=
  pa_imp (pa_cons ha hl (star_cons hn)) fun σ H Q h => by
    obtain ⟨δ, M, U, R, r, xo, h, out⟩ := h
    refine ⟨δ, M, U, _, r, xo, h, fun d M1 v U1 H1 e k rm rv hR => ⟨δ, M1, U1, _, r.mono ⟨e, k, rm⟩, xo.mono ⟨e, k, rm⟩, hR, fun ds M2 vs U2 H2 g2 rvs hl hR2 => ?_⟩⟩
    refine out (d :: ds) M2 (v :: vs) U2 H2 ((Go.mk e k rm).trans g2) ?_ (by simp [hl]) hR2
    simp only [RVs]
    exact ⟨v, vs, rfl, RV.mono g2.ex rm d v rv, rvs⟩
theorem r_tup {n : Nat} (hz : n ≤ 1000) (hl : PA X es (LL X xk W n wl)) : PE X (.Tuple es j pos) (LE X xk W fun δ M Q => wl δ M fun ds M1 => Q (.tup ds) M1) :=
  pe_imp (pe_tupF hl) fun σ H Q h => by
    obtain ⟨δ, M, U, R, r, xo, h, out⟩ := h
    refine ⟨δ, M, U, _, r, xo, h, fun ds M1 vs U1 H1 g rv hl hR => ⟨?_, (out.mono g.ex g.kp).tup g.kp.vw g.rm rv hR⟩⟩
    rw [rv.length, hl, lineLIM]
    exact Nat.le_trans hz (by decide)
theorem r_lst (m : Bool) {n : Nat} (hz : n ≤ 1000) (hl : PA X es (LL X xk W n wl)) : PE X (.List es pos) (LE X xk W fun δ M Q => wl δ M fun ds M1 => mkN m ds M1 Q) :=
  pe_imp (pe_lst hl) fun σ H Q h => by
    obtain ⟨δ, M, U, R, r, xo, h, out⟩ := h
    refine ⟨δ, M, U, _, r, xo, h, fun ds M1 vs U1 H1 g rv hl hR => ⟨?_, fun p hp => (out.mono g.ex g.kp).lst g.kp.vw g.rm rv hR hp⟩⟩
    rw [rv.length, hl, lineLIM]
    exact Nat.le_trans hz (by decide)
theorem r_dct (m : Bool) : PE X (.Dict [] [] pos) (LE X xk W fun _ M Q => match m with
    | true => ∀ p, M p = none → Q (.ref p) (up M p (.dic []))
    | false => Q (.dic []) M) :=
  pe_imp pe_dnewK fun σ H Q h => by
    obtain ⟨δ, M, U, R, r, xo, h, out⟩ := h
    exact fun p hp => out.dct r.vw r.rm (m := m) h hp
theorem r_blt {n : Nat} (g : GX X G C Γ k W) (m : Bool) (f : BF) {x : Str} {p : Pos} (hx : x = Str.ofString f.nm) (hg : glB C.sc x = true) (hf : x ∈ G.free) (hp : allPlain (a :: es) = true) (ha : PA X (a :: es) (LL X xk W n wl)) :
    PE X (.Call (.Name x p) (a :: es) [] pos) (LE X xk W fun δ M Q => wl δ M fun ds M1 => bfn m f ds M1 Q) := by
  rw [← g.sc] at hg
  obtain ⟨q1, q2, q3⟩ := glB_gl hg
  have hm := g.free x hf
  simp only [allPlain, Bool.and_eq_true] at hp
  have hv : bootBuiltins x = some f.val := by rw [hx]; exact boot_bf f
  have hc := bf_ok g.calm g.room.gd g.hu g.sys m f
  have imp : ∀ σ H Q, LE X xk W (fun δ M Q => wl δ M fun ds M1 => bfn m f ds M1 Q) σ H Q → tCB (rBf X.K m f) (LL X xk W n wl) σ H Q := fun σ H Q h => LL.one h
  cases f <;> first
    | exact pe_imp (pe_callB hc q1 hm hv ha q3 q2 (star_cons hp.1) (star_any hp.2)) imp
    | exact pe_imp (pe_callTy hc q1 hm hv ha q3 q2 (star_cons hp.1) (star_any hp.2)) imp
end
theorem r_idx (g : GX X G C Γ k W) (hs : noSlc b = true) (ha : PE X a (LE X xk W wa)) (hb : PE X b (LE X xk W wb)) : PE X (.Subscript a b pos) (LE X xk W fun δ M Q => wa δ M fun x M1 => wb δ M1 fun y M2 => ixD x y M2 Q) :=
  pe_imp (pe_ix (ixD_ok g.hu) ha hb (slc_plain hs)) fun σ H Q h => LE.two h
/-! slices -/
section
variable {lo hi : Option Expr} {wl wh : St → Mp → (Option Int → Mp → Prop) → Prop}
theorem r_onone : PO X none (LO X xk W fun _ M Q => Q none M) := po_imp po_none fun σ H Q h => by
  obtain ⟨δ, M, U, R, r, xo, h, out⟩ := h
  exact out none M U H r.here h
theorem r_osome (ha : PE X a (LE X xk W wa)) : PO X (some a) (LO X xk W fun δ M Q => wa δ M fun x M1 => match x with
    | .int i => Q (some i) M1
    | _ => False) := po_imp (po_some ha) fun σ H Q h => by
  obtain ⟨δ, M, U, R, r, xo, h, out⟩ := h
  refine ⟨δ, M, U, _, r, xo, h, fun d M1 v U1 H1 e k rm rv hR => ?_⟩
  split at hR
  · simp only [RV] at rv
    exact ⟨_, rv, out _ M1 U1 H1 ⟨e, k, rm⟩ hR⟩
  · exact hR.elim
theorem r_slc (m : Bool) {p2 : Pos} (ha : PE X a (LE X xk W wa)) (hl : PO X lo (LO X xk W wl)) (hh : PO X hi (LO X xk W wh)) :
    PE X (.Subscript a (.Slice lo hi none p2) pos) (LE X xk W fun δ M Q => wa δ M fun x M1 => wl δ M1 fun l M2 => wh δ M2 fun h M3 => slD m x l h M3 Q) :=
  pe_imp (pe_slice (slD_ok m) ha hl hh) fun σ H Q h => by
    obtain ⟨δ, M, U, R, r, xo, h, out⟩ := h
    refine ⟨δ, M, U, _, r, xo, h, fun d M1 v U1 H1 e k rm rv hR => ⟨δ, M1, U1, _, r.mono ⟨e, k, rm⟩, xo.mono ⟨e, k, rm⟩, hR, fun l M2 U2 H2 g2 hR2 => ?_⟩⟩
    have g12 : Go X.K M U H M2 U2 H2 := (Go.mk e k rm).trans g2
    refine ⟨δ, M2, U2, _, r.mono g12, xo.mono g12, hR2, fun h' M3 U3 H3 g3 hR3 => ?_⟩
    exact ⟨U3, M3, d, R, g3.kp.vw, g3.rm, RV.mono (g2.trans g3).ex rm d v rv, hR3, out.mono (g12.trans g3).ex (g12.trans g3).kp⟩
end
end
end Pw
set_option Elab.async false
set_option linter.all false
set_option maxRecDepth 100000
set_option maxHeartbeats 1000000
namespace Pw
open PySem PySem.Spec PyProof.Rows L2

/-! ### x[::-1] of a tuple -/
theorem rev_places (n : Nat) : Builtin.Slice.slicePlaces ((n : Int) - 1) (-1) (-1) = n := by
  unfold Builtin.Slice.slicePlaces
  rw [if_neg (by omega)]
  split
  · have e : ((n : Int) - 1 - -1 - 1) / -(-1) = (n : Int) - 1 := by
      have : (-(-1) : Int) = 1 := by omega
      rw [this, Int.ediv_one]; omega
    rw [e]; omega
  · omega
theorem filterMap_all {α β : Type} {f : α → Option β} {g : α → β} : ∀ {l : List α}, (∀ k ∈ l, f k = some (g k)) → l.filterMap f = l.map g
  | [], _ => rfl
  | a :: l, h => by
    rw [List.filterMap_cons, h a (by simp), List.map_cons, filterMap_all fun k hk => h k (by simp [hk])]
theorem rev_pick (xs : Array Value) : ((List.range xs.size).filterMap fun (k : Nat) => xs[(((xs.size : Int) - 1) + (k : Int) * (-1)).toNat]?).toArray = xs.toList.reverse.toArray := by
  congr 1
  have e : ∀ k ∈ List.range xs.size, xs[(((xs.size : Int) - 1) + (k : Int) * (-1)).toNat]? = some (xs.toList.reverse.getD k .none) := by
    intro k hk
    rw [List.mem_range] at hk
    have e1 : (((xs.size : Int) - 1) + (k : Int) * (-1)).toNat = xs.size - 1 - k := by omega
    rw [e1]
    have h2 : xs.size - 1 - k < xs.size := by omega
    rw [Array.getElem?_eq_getElem h2, List.getD_eq_getElem?_getD, List.getElem?_reverse (by simpa using hk)]
    simp [h2]
  rw [filterMap_all e]
  apply List.ext_getElem?
  intro i
  rw [List.getElem?_map]
  by_cases hi : i < xs.size
  · rw [List.getElem?_range hi]
    simp only [Option.map_some, List.getD_eq_getElem?_getD]
    have : i < xs.toList.reverse.length := by simpa using hi
    rw [List.getElem?_eq_getElem this]; rfl
  · rw [List.getElem?_eq_none (by simpa using hi), List.getElem?_eq_none (by simpa using hi)]
    rfl
section
variable {prog : Program} {w : World} {A : Around} {E : Value → Shared → Prop} {s : Shared}
theorem sliceApplied_rev {sl : Addr} {vl vu vs : Value} {n : Nat} {Q : Int × Int × Nat → Shared → Prop} (hs : s.heap.IsSliceOf sl vl vu vs) (pl : IsPart vl none) (pu : IsPart vu none) (pv : IsPart vs (some (-1)))
    (h : Q ((n : Int) - 1, -1, n) s) : wpAny (model prog w) A (Builtin.Slice.sliceApplied (.ref sl) (pure (n : Int))) Q E s := by
  obtain ⟨os, hos, hcs, hds⟩ := id hs
  unfold Builtin.Slice.sliceApplied Builtin.Slice.sliceFields
  refine wpAny_bind (wpAny_bind (wpAny_field hos hds (x := vl) rfl (wpAny_bind (wpAny_field hos hds (x := vu) rfl (wpAny_bind (wpAny_field hos hds (x := vs) rfl (wpAny_pure ?_)))))))
  refine wpAny_bind (HT.slicePart_ pv ?_)
  show wpAny _ _ (if ((-1 : Int) == 0) = true then _ else _) _ _ s
  rw [if_neg (by decide)]
  refine wpAny_bind (HT.slicePart_ pl (wpAny_bind (HT.slicePart_ pu (wpAny_bind (wpAny_pure ?_)))))
  show wpAny _ _ (match Builtin.Slice.sliceAdjust none none (-1) (n : Int) with | (lo, hi) => pure (lo, (-1 : Int), Builtin.Slice.slicePlaces lo hi (-1))) _ _ s
  show wpAny _ _ (pure ((n : Int) - 1, (-1 : Int), Builtin.Slice.slicePlaces ((n : Int) - 1) (-1) (-1))) _ _ s
  rw [rev_places]
  exact wpAny_pure h
theorem getItem_tuple_rev {t sl : Addr} {items : Array Value} {vl vu vs : Value} {Q : Value → Shared → Prop} (ht : IsTup s.heap t items) (hs : s.heap.IsSliceOf sl vl vu vs) (pl : IsPart vl none) (pu : IsPart vu none) (pv : IsPart vs (some (-1)))
    (h : Q (.ref s.heap.objs.size) { s with heap := s.heap.push { cls := .type "tuple", data := .seq items.toList.reverse.toArray } })
    (hsz : items.size ≤ sizeLine) : wpAny (model prog w) A (getItem (.ref t) (.ref sl)) Q E s := by
  have htake : sizeOk (.seq items.toList.reverse.toArray) := by
    show items.toList.reverse.toArray.size ≤ sizeLine
    simpa using hsz
  obtain ⟨os, hos, hcs, hds⟩ := id hs
  have hTs : s.TypeIs (.ref sl) "slice" := ⟨os, hos, hcs⟩
  unfold getItem
  try with_reducible refine wpAny_holding ?_
  first | refine wpAny_bind (wpAny_pure ?_) | skip
  refine wpAny_bind (wpAny_sequenceKey ht.typeIs (by decide) ?_)
  refine wpAny_bind (wpAny_callSpecial?_slot (name := Str.ofString "__getitem__") ht.typeIs PyProof.Rows.slot_tuple_getitem
    (wpAny_call_entry PyProof.Rows.slot_tuple_getitem ht.typeIs entry_tuple_getitem ?_ (args_tuple_getitem _ _)))
  show wpAny _ _ (Builtin.Tuple.tupleItemsOf (.ref t) >>= _) _ _ s
  refine wpAny_bind (tupleItemsOf_ ht ?_)
  refine wpAny_bind (wpAny_typeOf hTs ?_)
  rw [if_pos (by decide)]
  refine wpAny_bind (sliceApplied_rev hs pl pu pv ?_)
  have hno : ¬ ((((items.size : Int) - 1) == 0 && (-1 : Int) == 1 && items.size == items.size) = true) := by
    simp
  show wpAny _ _ (if (((items.size : Int) - 1) == 0 && (-1 : Int) == 1 && items.size == items.size) = true then _ else _) _ _ s
  rw [if_neg hno, rev_pick]
  first
    | exact wpAny_bind (m := Builtin.Tuple.tupleExact _) (wpAny_newObj_type (wpAny_pure ⟨_, rfl, wpAny_pure h⟩) htake)
    | exact wpAny_bind (m := Builtin.Tuple.tupleExact _) (wpAny_newObj_type (wpAny_bind (wpAny_pure (wpAny_pure ⟨_, rfl, wpAny_pure h⟩))) htake)
    | exact wpAny_bind (wpAny_bind (m := Builtin.Tuple.tupleExact _) (wpAny_newObj_type (wpAny_pure (wpAny_pure ⟨_, rfl, wpAny_pure h⟩)) htake))
    | exact wpAny_bind (wpAny_bind (m := Builtin.Tuple.tupleExact _) (wpAny_newObj_type (wpAny_pure ⟨_, rfl, wpAny_pure h⟩) htake))
end
section
variable {X : Cx} {xk : XD} {W : WX} {G : Gc} {C : Ct} {Γ : String → SpD} {k : Nat} {a b c : Expr} {wa wb wc : St → Mp → DK → Prop} {pos : Pos}
/-- x[::-1], a list or a tuple -/
def tRev (K : PySem.W.Frag) (te : TE) : TE := fun σ H Q => te σ H fun x H1 => ∃ a xs, x = .ref a ∧ ((SqL K H1 a xs ∧ ∀ p, H1 p = none → Q (.ref p) (upd H1 p (.lst xs.reverse))) ∨ (SqT K H1 a xs ∧ NewT H1 xs.reverse Q))
theorem pe_rev {e : Expr} {te : TE} {k : Nat} {p1 p2 p3 pos : Pos} (he : PE X e te) : PE X (.Subscript e (.Slice none none (some (.UnaryOp .USub (.Constant (.int 1) k p1) p2)) p3) pos) (tRev X.K te) := by
  refine ⟨fun pins s σ H Q I h => ?_⟩
  refine Subscript_ (thn (he.run pins s σ H _ I h) fun v s1 ⟨x, H1, I1, r1, q1⟩ => ?_)
  obtain ⟨a, xs, ex, q⟩ := q1
  subst ex
  cases r1
  have hst : PO X (some (.UnaryOp .USub (.Constant (.int 1) k p1) p2)) (tPart (tUn (rU fun i => .int (-i)) (tC (.int 1)))) := po_some (pe_un un_neg pe_int)
  refine wpAny_Slice (thn (po_none.run pins s1 σ H1 (fun o H2 => o = none ∧ H2 = H1) I1 ⟨rfl, rfl⟩) fun vl s2 ⟨l, H2, I2, pl, el, e2⟩ => ?_)
  subst el e2
  refine thn (po_none.run pins s2 σ H2 (fun o H3 => o = none ∧ H3 = H2) I2 ⟨rfl, rfl⟩) fun vu s3 ⟨u, H3, I3, pu, eu, e3⟩ => ?_
  subst eu e3
  refine thn (hst.run pins s3 σ H3 (fun o H4 => o = some (-1) ∧ H4 = H3) I3 ⟨1, rfl, -1, rfl, rfl, rfl⟩) fun vs s4 ⟨o, H4, I4, ps, eo, e4⟩ => ?_
  subst eo e4
  have I5 : Inv X pins σ H4 { s4 with heap := s4.heap.push { cls := .type "slice", data := .fields #[vl, vu, vs] } } := I4.kept (t' := s4.toks) fun b ob q => Heap.get?_push_of_some _ q
  rcases q with ⟨hx, q⟩ | ⟨hx, q⟩
  · obtain ⟨its, r, ht, hz⟩ := I5.list hx
    have hlen := r.length
    refine tail_any (ops := [.ref a, .ref s4.heap.objs.size]) ht.isList.typeIs (PySem.slot_list_getitem.lookup) ?_ (by with_unfolding_all rfl)
    refine wpAny_getItem_list_slice ht.isList (Heap.IsSliceOf.new _ vl vu vs) pl pu ps (by decide) ?_ (by rw [List.size_toArray]; omega)
    rw [PySem.W.krv_pick]
    refine ⟨.ref _, _, I5.laid (t' := s4.toks) (o := .lst xs.reverse) (fun b ob q => Heap.get?_push_of_some _ q) (Nat.le_refl _) ?_, rfl, q _ (I5.hok.fresh (Nat.le_refl _))⟩
    exact ⟨by rw [List.length_reverse]; exact hz, _, 0, r.reverse, Heap.get?_push_size _ rfl⟩
  · obtain ⟨its, r, ht, hz⟩ := I5.tuple hx
    have hlen := r.length
    refine tail_any (ops := [.ref a, .ref s4.heap.objs.size]) ht.typeIs (PyProof.Rows.slot_tuple_getitem.lookup) ?_ (by with_unfolding_all rfl)
    refine getItem_tuple_rev ht (Heap.IsSliceOf.new _ vl vu vs) pl pu ps ?_ (by rw [List.size_toArray]; omega)
    exact newT_ok I5 r.reverse (by rw [List.length_reverse]; exact hz) q s4.toks
theorem r_revs (m : Bool) {j : Nat} {p1 p2 p3 : Pos} (ha : PE X a (LE X xk W wa)) : PE X (.Subscript a (.Slice none none (some (.UnaryOp .USub (.Constant (.int 1) j p1) p2)) p3) pos) (LE X xk W fun δ M Q => wa δ M fun x M1 => match see M1 x with
    | .tup ds => Q (.tup ds.reverse) M1
    | .lst ds => mkN m ds.reverse M1 Q
    | _ => False) :=
  pe_imp (pe_rev ha) fun σ H Q h => by
    obtain ⟨δ, M, U, R, r, xo, h, out⟩ := h
    refine ⟨δ, M, U, _, r, xo, h, fun d M1 v U1 H1 e k rm rv hR => ?_⟩
    split at hR
    · rename_i ds e1
      have e2 := see_tup e1
      subst e2
      simp only [RV] at rv
      obtain ⟨p, vs, rfl, hq, q⟩ := rv
      exact ⟨p, vs, rfl, .inr ⟨k.vw.sqT hq, (out.mono e k).tup k.vw rm q.rev hR⟩⟩
    · rename_i ds e1
      obtain ⟨p, vs, rfl, hq, q⟩ := lstM_at k.vw rm (see_lst e1) rv
      exact ⟨p, vs, rfl, .inl ⟨.of hq, fun l hl => (out.mono e k).lst k.vw rm q.rev hR hl⟩⟩
    · exact hR.elim
/-! isinstance -/
theorem boot_ty {t : String} (h : okTy t = true) : bootBuiltins (Str.ofString t) = some (.type t) := by
  have h := okTy_mem h
  simp only [List.mem_cons, List.not_mem_nil, or_false] at h
  rcases h with h | h | h | h | h | h <;> subst h <;> decide +kernel
theorem boot_isi : bootBuiltins (Str.ofString "isinstance") = some (.builtin "isinstance") := by decide +kernel
theorem nameB_of (g : GX X G C Γ k W) {f : String} {e : Expr} (h : nameB C G f e = true) : ∃ p, e = .Name (Str.ofString f) p ∧ Gl X (Str.ofString f) ∧ X.mg (Str.ofString f) = none ∧ ((Str.ofString f) == ("__debug__" : Str)) = false ∧ Str.ofString f ≠ "__name__" := by
  unfold nameB at h
  split at h
  · rename_i x p
    simp only [Bool.and_eq_true, decide_eq_true_eq] at h
    obtain ⟨⟨rfl, h2⟩, h3⟩ := h
    rw [← g.sc] at h2
    obtain ⟨q1, q2, q3⟩ := glB_gl h2
    exact ⟨p, rfl, q1, g.free _ h3, q2, q3⟩
  · cases h
theorem ty_one (g : GX X G C Γ k W) {t : String} {e : Expr} (h : nameB C G t e = true) (ht : okTy t = true) : PE X e (tC (.ty t)) := by
  obtain ⟨p, rfl, q1, q2, q3, q4⟩ := nameB_of g h
  exact pe_bltn q1 q2 (boot_ty ht) rfl q4 q3
theorem ty_all (g : GX X G C Γ k W) : ∀ {ts : List String} {es : List Expr}, es.length = ts.length → (∀ p ∈ ts.zip es, nameB C G p.1 p.2 = true ∧ okTy p.1 = true) → PA X es (fun _ H Q => Q (ts.map V.ty) H)
  | [], [], _, _ => pa_imp pa_nil fun _ _ _ h => h
  | t :: ts, e :: es, hl, h => by
    have h1 : nameB C G t e = true ∧ okTy t = true := h (t, e) (by simp)
    have h2 := ty_all g (ts := ts) (es := es) (by simpa using hl) fun p hp => h p (by simp [hp])
    obtain ⟨p, e1, _⟩ := nameB_of g h1.1
    exact pa_imp (pa_cons (ty_one g h1.1 h1.2) h2 (star_cons (by rw [e1]; rfl))) fun _ _ _ h => h
  | [], _ :: _, hl, _ => by simp at hl
  | _ :: _, [], hl, _ => by simp at hl
theorem clsV_map : ∀ ts : List String, Paired ClsV (ts.map V.ty) (ts.map Value.type)
  | [] => .nil
  | t :: ts => .cons (.ty t) (clsV_map ts)
theorem r_isi (g : GX X G C Γ k W) {tys : List String} {f t : Expr} (hf : nameB C G "isinstance" f = true) (ht : tysB C G tys t = true) (hn : noStar a = true) (ha : PE X a (LE X xk W wa)) :
    PE X (.Call f [a, t] [] pos) (LE X xk W fun δ M Q => wa δ M fun x M1 => match nm (see M1 x) with
      | some n => Q (.bl (tys.any fun t => isI1 n t)) M1
      | none => False) := by
  obtain ⟨p, rfl, q1, q2, q3, q4⟩ := nameB_of g hf
  unfold tysB at ht
  split at ht
  · rename_i x p' t'
    simp only [Bool.and_eq_true] at ht
    have pt := ty_one g ht.1 ht.2
    refine pe_imp (pe_callB call_isi q1 q2 boot_isi (pa_cons ha (pa_cons pt pa_nil (star_cons rfl)) (star_cons hn)) q4 q3 (star_cons hn) (star_any rfl)) fun σ H Q h => ?_
    obtain ⟨δ, M, U, R, r, xo, h, out⟩ := h
    refine ⟨δ, M, U, _, r, xo, h, fun d M1 v U1 H1 e k rm rv hR => ?_⟩
    split at hR
    · rename_i n en
      obtain ⟨ty, hn⟩ := tyX_of k.vw rm en rv
      exact ⟨v, .ty t', _, _, _, rfl, .ty t', ty, kit_one g.isi hn ht.2, (out.mono e k).bl k.vw rm (by simpa using hR)⟩
    · exact hR.elim
  · rename_i es j p' 
    simp only [Bool.and_eq_true, decide_eq_true_eq, List.all_eq_true] at ht
    have pt := ty_all g ht.1.1 ht.2
    refine pe_imp (pe_callB call_isiT q1 q2 boot_isi (pa_cons ha (pa_cons (pe_tup pt) pa_nil (star_cons rfl)) (star_cons hn)) q4 q3 (star_cons hn) (star_any rfl)) fun σ H Q h => ?_
    obtain ⟨δ, M, U, R, r, xo, h, out⟩ := h
    refine ⟨δ, M, U, _, r, xo, h, fun d M1 v U1 H1 e k rm rv hR => ?_⟩
    split at hR
    · rename_i n en
      obtain ⟨ty, hn⟩ := tyX_of k.vw rm en rv
      have ok : ∀ t ∈ tys, okTy t = true := by
        intro t ht'
        obtain ⟨i, hi, rfl⟩ := List.mem_iff_getElem.mp ht'
        exact (ht.2 (tys[i], es[i]'(by have := ht.1.1; omega)) (List.mem_iff_getElem.mpr ⟨i, by have := ht.1.1; simp; omega, by simp⟩)).2
      have few : (tys.map V.ty).length ≤ sizeLine := by
        rw [List.length_map, lineLIM]
        exact Nat.le_trans ht.1.2 (by decide)
      refine ⟨few, fun p hp => ⟨v, p, tys.map V.ty, _, _, _, rfl, upd_same, clsV_map tys, ?_, kit_any g.isi hn ok, ?_⟩⟩
      · have k2 := Kp.new k.vw (o := .tup (tys.map V.ty)) hp
        exact (tyX_of k2.vw (rm.new (k.vw.none hp)) en (RV.mono (Ext.new (k.vw.none hp)) rm d v rv)).1
      · exact out (.bl _) M1 _ _ _ (e.trans (Ext.new (k.vw.none hp))) (k.trans (Kp.new k.vw hp)) (rm.new (k.vw.none hp)) (by simp only [RV]) hR
    · exact hR.elim
  · cases ht
/-! methods -/
theorem mfacts (k : MK) (f : MF) (h : okM k f = true) : PlainAttrs k.ty ∧ Slot k.ty (Str.ofString f.nm) (mid k f) ∧ typeOf (.builtin (mid k f)) = pure (.type "method_descriptor") := by
  cases k <;> cases f <;> first
    | exact absurd h Bool.false_ne_true
    | exact ⟨PySem.F.plainAttrs_list, PySem.F.slot_list_append, PySem.F.type_list_append⟩
    | exact ⟨PySem.F.plainAttrs_list, PySem.F.slot_list_pop, PySem.F.type_list_pop⟩
    | exact ⟨PySem.F.plainAttrs_list, PySem.F.slot_list_insert, PySem.F.type_list_insert⟩
    | exact ⟨PySem.F.plainAttrs_list, PySem.F.slot_list_remove, PySem.F.type_list_remove⟩
    | exact ⟨PySem.F.plainAttrs_list, PySem.F.slot_list_index, PySem.F.type_list_index⟩
    | exact ⟨PySem.F.plainAttrs_list, PySem.F.slot_list_count, PySem.F.type_list_count⟩
    | exact ⟨PySem.F.plainAttrs_list, PySem.F.slot_list_extend, PySem.F.type_list_extend⟩
    | exact ⟨PySem.F.plainAttrs_list, PySem.F.slot_list_clear, PySem.F.type_list_clear⟩
    | exact ⟨PySem.F.plainAttrs_list, PySem.F.slot_list_reverse, PySem.F.type_list_reverse⟩
    | exact ⟨PySem.F.plainAttrs_tuple, PySem.F.slot_tuple_count, PySem.F.type_tuple_count⟩
    | exact ⟨PySem.F.plainAttrs_tuple, PySem.F.slot_tuple_index, PySem.F.type_tuple_index⟩
    | exact ⟨PySem.F.plainAttrs_dict, PySem.F.slot_dict_get, PySem.F.type_dict_get⟩
    | exact ⟨PySem.F.plainAttrs_dict, PySem.F.slot_dict_setdefault, PySem.F.type_dict_setdefault⟩
    | exact ⟨PySem.F.plainAttrs_str, PySem.F.slot_str_join, PySem.F.type_str_join⟩
    | exact ⟨PySem.F.plainAttrs_str, PySem.F.slot_str_split, PySem.F.type_str_split⟩
    | exact ⟨PySem.F.plainAttrs_str, PySem.F.slot_str_strip, PySem.F.type_str_strip⟩
    | exact ⟨PySem.F.plainAttrs_str, PySem.F.slot_str_upper, PySem.F.type_str_upper⟩
theorem tyIs_of {pins : List (Addr × Obj)} {σ : L2.St} {s : Shared} {U H : Hp} {M : Mp} {d : D} {v : V} {u : Value} {f : MF} {m : MK} (I : Inv X pins σ H s) (vw : Vw U H) (rm : RM X.K M U) (rv : RV X.K M U d v) (r : RelV v u) (e : rcv M f d = some m) :
    okM m f = true ∧ s.TypeIs u m.ty ∧ ∀ a, u = .ref a → ∃ ob, s.heap.get? a = some ob ∧ ob.dict = none := by
  have lst : ∀ {a : Addr} {vs : List V}, v = .ref a → SqL X.K H a vs → s.TypeIs u "list" ∧ ∀ a, u = .ref a → ∃ ob, s.heap.get? a = some ob ∧ ob.dict = none := by
    intro a vs ev hq
    subst ev
    exact tyV_is I r (.inl ⟨rfl, vs, hq⟩)
  unfold rcv at e
  split at e
  · rename_i ds e1
    split at e
    · rename_i hk
      cases e
      obtain ⟨a, vs, rfl, hq, q⟩ := lstM_at vw rm (see_lst e1) rv
      exact ⟨hk, lst rfl (.of hq)⟩
    · cases e
  · rename_i ds e1
    split at e
    · rename_i hk
      cases e
      have e2 := see_scr e1
      subst e2
      simp only [RV] at rv
      obtain ⟨a, vs, rfl, hq, q⟩ := rv
      exact ⟨hk, lst rfl (vw.sqS hq).sq⟩
    · cases e
  · rename_i ds e1
    split at e
    · rename_i hk
      cases e
      have e2 := see_tup e1
      subst e2
      simp only [RV] at rv
      obtain ⟨a, vs, rfl, hq, q⟩ := rv
      cases r
      refine ⟨hk, ?_⟩
      rcases vw.sqF hq with ⟨o, h, hd⟩ | ⟨o, its, n, h1, h2, h3, h4, _⟩
      · obtain ⟨ho, _, _, _, o', h1, h2, _⟩ := I.hok a _ h
        rw [ho] at h1
        cases h1
        refine ⟨⟨o, ho, h2⟩, fun b eb => ?_⟩
        cases eb
        exact ⟨o, ho, hd⟩
      · refine ⟨⟨o, I.kIn _ _ h1, h2⟩, fun b eb => ?_⟩
        cases eb
        exact ⟨o, I.kIn _ _ h1, h3⟩
    · cases e
  · rename_i ds e1
    split at e
    · rename_i hk
      cases e
      obtain ⟨a, us, rfl, hq, q⟩ := see_dic vw rm e1 rv
      exact ⟨hk, tyV_is I r (.inr (.inr (.inl ⟨rfl, .inl ⟨us, hq⟩⟩)))⟩
    · cases e
  · rename_i z e1
    split at e
    · rename_i hk
      cases e
      have e2 := see_str e1
      subst e2
      simp only [RV] at rv
      subst rv
      exact ⟨hk, tyV_is I r (show tyV X.K "str" (.str z) H from rfl)⟩
    · cases e
  · rename_i p e1
    split at e
    · rename_i lk kvs hM
      split at e
      · rename_i hk
        cases e
        subst hk
        have e2 := see_refD e1
        subst e2
        simp only [RV] at rv
        subst rv
        cases r
        obtain ⟨trip, hU, _⟩ := rm p _ hM
        obtain ⟨t1, t2, _⟩ := dT_is I (vw _ _ hU)
        exact ⟨rfl, t1, t2⟩
      · cases e
    · cases e
  · cases e
theorem base_of {o : Expr} {n : Str} {env : Env} {wh : Sem Value} (h : plainTo o = true) : attributeBase o n env wh = wh := by
  unfold attributeBase
  split
  · rename_i id p pos
    have h : decide (id ≠ ("super" : Str)) = true := h
    simp only [decide_eq_true_eq] at h
    have h2 : (id != ("super" : Str)) = true := by simpa using h
    simp only [h2, Bool.true_or, if_true, pure_bind]
  · rfl
theorem r_meth0 (g : GX X G C Γ k W) (m : Bool) (f : MF) {apos cpos : Pos} (hb : plainTo a = true) (hl : (apos.endLine == cpos.line) = true) (ha : PE X a (LE X xk W wa)) :
    PE X (.Call (.Attribute a (Str.ofString f.nm) apos) [] [] cpos) (LE X xk W fun δ M Q => wa δ M fun x M1 => match rcv M1 f x with
      | some k => mth m k f x [] M1 Q
      | none => False) := by
  refine ⟨fun pins s σ H Q I h => ?_⟩
  obtain ⟨δ, M, U, R, r, xo, h, out⟩ := h
  refine wpAny_Call_method0_late (base_of hb) hl (thn (ha.run pins s σ H (fun v H1 => ∃ d M1 U1, Go X.K M U H M1 U1 H1 ∧ RV X.K M1 U1 d v ∧ (match rcv M1 f d with
      | some k => mth m k f d [] M1 R
      | none => False)) I ⟨δ, M, U, _, r, xo, h, fun d M1 v U1 H1 e k rm rv hR => ⟨d, M1, U1, ⟨e, k, rm⟩, rv, hR⟩⟩) fun u s1 ⟨v, H1, I1, r1, d, M1, U1, g1, rv, hR⟩ => ?_)
  split at hR
  · rename_i mk e
    obtain ⟨hk, t1, t2⟩ := tyIs_of I1 g1.kp.vw g1.rm rv r1 e
    obtain ⟨f1, f2, f3⟩ := mfacts mk f hk
    exact ⟨mk.ty, mid mk f, f1, f2, f3, t1, t2, Calls.callWith_builtin rfl (PySem.evalArgs_none (mt_ok g.hu g.sys m mk f pins s1 σ H1 v [] u [] Q I1 r1 .nil ⟨U1, M1, d, [], R, g1.kp.vw, g1.rm, rv, by simp only [RVs], hR, out.mono g1.ex g1.kp⟩))⟩
  · exact hR.elim
theorem r_meth (g : GX X G C Γ k W) (m : Bool) (f : MF) {e : Expr} {es : List Expr} {n : Nat} {wl : St → Mp → (List D → Mp → Prop) → Prop} {apos cpos : Pos} (hb : plainTo a = true) (hl : (apos.endLine == cpos.line) = true) (hp : allPlain (e :: es) = true) (hn : n ≤ 20) (hlen : (e :: es).length = n)
    (ha : PE X a (LE X xk W wa)) (hes : PA X (e :: es) (LL X xk W n wl)) :
    PE X (.Call (.Attribute a (Str.ofString f.nm) apos) (e :: es) [] cpos) (LE X xk W fun δ M Q => wa δ M fun x M1 => match rcv M1 f x with
      | some k => wl δ M1 fun ds M2 => mth m k f x ds M2 Q
      | none => False) := by
  refine ⟨fun pins s σ H Q I h => ?_⟩
  obtain ⟨δ, M, U, R, r, xo, h, out⟩ := h
  refine wpAny_Call_method_late (base_of hb) ?_ hl rfl (thn (ha.run pins s σ H (fun v H1 => ∃ d M1 U1, Go X.K M U H M1 U1 H1 ∧ RV X.K M1 U1 d v ∧ (match rcv M1 f d with
      | some k => wl δ M1 fun ds M2 => mth m k f d ds M2 R
      | none => False)) I ⟨δ, M, U, _, r, xo, h, fun d M1 v U1 H1 e k rm rv hR => ⟨d, M1, U1, ⟨e, k, rm⟩, rv, hR⟩⟩) fun u s1 ⟨v, H1, I1, r1, d, M1, U1, g1, rv, hR⟩ => ?_)
  · rw [star_all hp, hlen]
    simp only [keywordEach, backToKw, List.map_nil, List.all_nil, Bool.true_and, decide_eq_true_eq, List.length_nil, List.isEmpty_nil, if_true]
    omega
  · split at hR
    · rename_i mk e1
      obtain ⟨hk, t1, t2⟩ := tyIs_of I1 g1.kp.vw g1.rm rv r1 e1
      obtain ⟨f1, f2, f3⟩ := mfacts mk f hk
      have args : LL X xk W n wl σ H1 (fun vs H2 => rMt X.K m mk f v vs H2 Q) :=
        ⟨δ, M1, U1, _, r.mono g1, xo.mono g1, hR, fun ds M2 vs U2 H2 g2 rvs _ hm => ⟨U2, M2, d, ds, R, g2.kp.vw, g2.rm, RV.mono g2.ex g1.rm d v rv, rvs, hm, out.mono (g1.trans g2).ex (g1.trans g2).kp⟩⟩
      have hst := star_any (env := X.env) (pos := cpos) hp
      refine ⟨mk.ty, mid mk f, f1, f2, f3, t1, t2, ?_⟩
      have hA := hes.run cpos pins s1 σ H1 _ I1 args
      simp only [allPlain, Bool.and_eq_true] at hp
      rw [star_cons hp.1] at hA hst ⊢
      refine Calls.callWith_builtin hst (Calls.evalArgs_plain ?_)
      exact thn hA fun us s2 ⟨vs, H2, I2, r2, q2⟩ => mt_ok g.hu g.sys m mk f pins _ σ _ v _ u _ Q I2 r1 r2 q2
    · exact hR.elim
end
end Pw
set_option Elab.async false
set_option linter.all false
set_option maxRecDepth 100000
set_option maxHeartbeats 1000000
namespace Pw
open PySem PySem.Spec PyProof.Rows L2

section
variable {X : Cx} {xk : XD} {W : WX} {G : Gc} {C : Ct} {Γ : String → SpD} {k : Nat} {a b c : Expr} {wa wb wc : St → Mp → DK → Prop} {pos : Pos}
/-! ### calls of the program's own defs -/
theorem flatDVs_len : ∀ {ds : List D} {vs : List V}, flatDVs ds vs = true → vs.length = ds.length
  | [], [], _ => rfl
  | _ :: ds, _ :: vs, h => by
    simp only [flatDVs, Bool.and_eq_true] at h
    simp [flatDVs_len h.2]
  | [], _ :: _, h => by simp [flatDVs] at h
  | _ :: _, [], h => by simp [flatDVs] at h
theorem sp_of {M0 : Mp} {U0 H0 : Hp} {δ : St} {σ : L2.St} {M : Mp} {U H : Hp} {R : DK} {Q : VK} {s : SpD} {ds : List D} {vs : List V} (r : Rel X.K M0 U0 H0 δ σ) (xo : XOk X xk W M0 U0 H0) (g : Go X.K M0 U0 H0 M U H) (out : Out X.K M0 U0 H0 R Q) (rv : RVs X.K M U ds vs)
    (h : s ds M R fun c M' => xk c δ M') : spOf X.K X.mg s vs H Q (WE W σ) :=
  ⟨U, M, ds, R, _, g.kp.vw, g.rm, rv, h, out.mono g.ex g.kp, fun c M' U' H' g' hx => xo c δ M' U' H' σ (g.trans g') (r.mono (g.trans g')).rs hx⟩
theorem r_call (g : GX X G C Γ k W) {f : String} {I : FnI} {x : Str} {p : Pos} {e : Expr} {es : List Expr} {n : Nat} {wl : St → Mp → (List D → Mp → Prop) → Prop} (hI : G.fns.lookup f = some I) (hat : I.at_ = none) (hw : I.kwn = true → I.dfl ≠ []) (hx : x = Str.ofString f) (hg : glB C.sc x = true) (hp : allPlain (e :: es) = true)
    (ha : PA X (e :: es) (LL X xk W n wl)) : PE X (.Call (.Name x p) (e :: es) [] pos) (LE X xk W fun δ M Q => wl δ M fun ds M1 => Γ f (ds ++ I.dfl) M1 Q fun c M' => xk c δ M') := by
  rw [← g.sc] at hg
  obtain ⟨q1, q2, q3⟩ := glB_gl hg
  obtain ⟨⟨ad, fd, hfa, F, hps, _⟩, har⟩ := g.fns f I hI
  obtain ⟨hm, hk⟩ := hfa.glo hat
  obtain ⟨dvs, dus, hfl, hv, hb⟩ := hps hw
  simp only [allPlain, Bool.and_eq_true] at hp
  subst hx
  refine ⟨fun pins s σ H Q In h => ?_⟩
  obtain ⟨δ, M, U, R, r, xo, h, out⟩ := h
  refine wpAny_Call_Name_kw (ld_glob In q1 hm ?_ q2)
  refine PySem.W.callWith_K (h₀ := X.base) In.ok.mod.kin hk (thn (ha.run pos pins s σ H (fun vs H1 => spOf X.K X.mg (Γ f) (vs ++ dvs) H1 Q (WE W σ)) In ⟨δ, M, U, _, r, xo, h, fun ds M1 vs U1 H1 g1 rv _ hR =>
    sp_of r xo g1 out (rv.app (flat_rvs hfl)) hR⟩) fun us s1 ⟨vs, H1, I1, r1, q⟩ => ⟨I1.kIn, ?_⟩) (star_cons hp.1) (star_any hp.2)
  have rr := r1.append hv
  have hl := F.ar _ _ _ _ q
  exact wpAny_call (goG F g.room.toRoomG (hb s1 us I1.kIn (by rw [← rr.length]; exact hl)) (passAt g.tk σ) I1 rr q)
theorem r_call0 (g : GX X G C Γ k W) {f : String} {I : FnI} {x : Str} {p : Pos} (hI : G.fns.lookup f = some I) (hat : I.at_ = none) (hw : I.kwn = true → I.dfl ≠ []) (hx : x = Str.ofString f) (hg : glB C.sc x = true) :
    PE X (.Call (.Name x p) [] [] pos) (LE X xk W fun δ M Q => Γ f I.dfl M Q fun c M' => xk c δ M') := by
  rw [← g.sc] at hg
  obtain ⟨q1, q2, q3⟩ := glB_gl hg
  obtain ⟨⟨ad, fd, hfa, F, hps, _⟩, har⟩ := g.fns f I hI
  obtain ⟨hm, hk⟩ := hfa.glo hat
  obtain ⟨dvs, dus, hfl, hv, hb⟩ := hps hw
  subst hx
  refine ⟨fun pins s σ H Q In h => ?_⟩
  obtain ⟨δ, M, U, R, r, xo, h, out⟩ := h
  have q : spOf X.K X.mg (Γ f) dvs H Q (WE W σ) := sp_of r xo r.here out (flat_rvs hfl) h
  have hl := F.ar _ _ _ _ q
  refine wpAny_Call_Name_kw (ld_glob In q1 hm ?_ q2)
  exact PySem.W.callWith_K0 In.kIn hk (wpAny_call (goG F g.room.toRoomG (hb s [] In.kIn (by rw [List.nil_append, ← hv.length]; exact hl)) (passAt g.tk σ) In (by simpa using hv) q))
theorem r_callk (g : GX X G C Γ k W) {f : String} {I : FnI} {x z : Str} {p kp : Pos} {e v : Expr} {es : List Expr} {n : Nat} {wl : St → Mp → (List D → Mp → Prop) → Prop} (hI : G.fns.lookup f = some I) (hat : I.at_ = none) (hx : x = Str.ofString f) (hg : glB C.sc x = true) (hp : allPlain (e :: es) = true)
    (hn : n + 1 = I.ps.length) (hd : I.kwn = true) (hz : I.ps.getLast? = some z) (ha : PA X (e :: es) (LL X xk W n wl)) (hv : PE X v (LE X xk W wa)) :
    PE X (.Call (.Name x p) (e :: es) [⟨some z, v, kp⟩] pos) (LE X xk W fun δ M Q => wl δ M fun ds M1 => wa δ M1 fun d M2 => Γ f (ds ++ [d]) M2 Q fun c M' => xk c δ M') := by
  rw [← g.sc] at hg
  obtain ⟨q1, q2, q3⟩ := glB_gl hg
  obtain ⟨⟨ad, fd, hfa, F, _, hkb⟩, har⟩ := g.fns f I hI
  obtain ⟨hm, hk⟩ := hfa.glo hat
  have KB := hkb z hd hz
  have hst := star_any (env := X.env) (pos := pos) hp
  simp only [allPlain, Bool.and_eq_true] at hp
  subst hx
  refine ⟨fun pins s σ H Q In h => ?_⟩
  obtain ⟨δ, M, U, R, r, xo, h, out⟩ := h
  refine wpAny_Call_Name_kw (ld_glob In q1 hm ?_ q2)
  refine PySem.W.callWith_KW (h₀ := X.base) In.ok.mod.kin hk rfl (thn (ha.run pos pins s σ H (fun vs H1 => vs.length = n ∧ LE X xk W wa σ H1 fun w H2 => spOf X.K X.mg (Γ f) (vs ++ [w]) H2 Q (WE W σ)) In ⟨δ, M, U, _, r, xo, h, fun ds M1 vs U1 H1 g1 rv hl hR => ⟨rv.length.trans hl,
    ⟨δ, M1, U1, _, r.mono g1, xo.mono g1, hR, fun d M2 w U2 H2 e2 k2 rm2 rw2 hR2 => ?_⟩⟩⟩) fun us s1 ⟨vs, H1, I1, r1, hl, q⟩ => ?_) (by rw [hst]; rfl) (star_cons hp.1)
  · have g2 : Go X.K M U H M2 U2 H2 := g1.trans ⟨e2, k2, rm2⟩
    exact sp_of r xo g2 out ((RVs.mono e2 g1.rm _ _ rv).app (.one rw2)) hR2
  · have pk : PK X [⟨some z, v, kp⟩] (tCons (LE X xk W wa) tNil) := pk_cons hv pk_nil
    refine thn (pk.run pos pins s1 σ H1 (fun zs H2 => ∃ w, zs = [w] ∧ spOf X.K X.mg (Γ f) (vs ++ [w]) H2 Q (WE W σ)) I1 ?_) fun ws s2 ⟨zs, H2, I2, rz, w, ez, q2⟩ => ⟨I2.kIn, ?_⟩
    · obtain ⟨δ1, M1, U1, R1, r', xo', h', out'⟩ := q
      exact ⟨δ1, M1, U1, R1, r', xo', h', fun d M2 w U2 H2 e2 k2 rm2 rw2 hR2 => ⟨w, rfl, out' d M2 w U2 H2 e2 k2 rm2 rw2 hR2⟩⟩
    · subst ez
      have ks : (backToKw pos (keywordEach [⟨some z, v, kp⟩] X.env)).filterMap (·.1) = [z] := rfl
      rw [ks]
      have l1 : us.length = I.ps.length - 1 := by rw [← r1.length, hl]; omega
      have l2 : ws.length = 1 := rz.length.symm
      exact wpAny_call (goG F g.room.toRoomG (KB.to s2 us ws I2.kIn l1 l2) (passAt g.tk σ) I2 (KB.rel r1 rz) q2)
/-! ### settled -/
theorem r_frz (ha : PE X a (LE X xk W wa)) : PE X a (LE X xk W fun δ M Q => wa δ M fun x M1 => match settle M1 8 x with
    | some d => ∃ M2, Sub M2 M1 ∧ (∀ a ∈ d.2, M2 a = none) ∧ Q d.1 M2
    | none => False) :=
  pe_imp ha fun σ H Q h => by
    obtain ⟨δ, M, U, R, r, xo, h, out⟩ := h
    refine ⟨δ, M, U, _, r, xo, h, fun d M1 v U1 H1 e k rm rv hR => ?_⟩
    split at hR
    · rename_i y ey
      obtain ⟨M2, s, hn, hq⟩ := hR
      exact out y.1 M2 v U1 H1 (e.trans (Ext.sub s)) k (rm.sub s) (settle_ok rm s 8 d y v ey rv hn) hq
    · exact hR.elim

/-! ### what is walked -/
/-- a value, as a loop hands it out: a tuple may be any tuple -/
def RW (K : PySem.W.Frag) (M : Mp) (U : Hp) (d : D) (v : V) : Prop := match d with
  | .tup ds => ∃ a vs, v = .ref a ∧ SqT K U a vs ∧ RVs K M U ds vs
  | d => RV K M U d v
theorem RW.of {K : PySem.W.Frag} {M : Mp} {U : Hp} {d : D} {v : V} (h : RV K M U d v) : RW K M U d v := by
  cases d <;> first
    | exact h
    | (simp only [RV] at h
       obtain ⟨a, vs, e, s, q⟩ := h
       exact ⟨a, vs, e, s.sq, q⟩)
abbrev Rho := PySem.W.Frag → Mp → Hp → D → V → Prop
def JOk (ρ : Rho) (K : PySem.W.Frag) (J : It) (M1 : Mp) (U1 : Hp) (ds : List D) (still : Mp → Prop) : Prop := ∀ M U H, Ext M1 U1 M U → Vw U H → RM K M U → still M → ∀ i : Nat,
  (ds.length = i → J.stop i H) ∧ ∀ d, ds[i]? = some d → J.go i H ∧ ∀ x H', J.yld i H x H' → ∃ U', Go K M U H M U' H' ∧ ρ K M U' d x
def OutI (ρ : Rho) (K : PySem.W.Frag) (M : Mp) (U H : Hp) (R : List D → (Mp → Prop) → Mp → Prop) (Q : It → Hp → Prop) : Prop := ∀ ds still M' U' H' J, Go K M U H M' U' H' → R ds still M' → ds.length ≤ LIM → JOk ρ K J M' U' ds still → Q J H'
def LI (ρ : Rho) (X : Cx) (xk : XD) (W : WX) (wp : St → Mp → (List D → (Mp → Prop) → Mp → Prop) → Prop) : TI := fun σ H Q => ∃ δ M U R, Rel X.K M U H δ σ ∧ XOk X xk W M U H ∧ wp δ M R ∧ OutI ρ X.K M U H R Q
theorem pi_imp {tg it : Expr} {t t' : TI} (h : PI X tg it t) (i : ∀ σ H Q, t' σ H Q → t σ H Q) : PI X tg it t' := ⟨fun pins s σ H Q I q => h.run pins s σ H Q I (i σ H Q q)⟩
/-- the lists and tuples are not too long -/
def Bd (K : PySem.W.Frag) (H : Hp) : Prop := ∀ a xs, SqL K H a xs ∨ SqT K H a xs → xs.length ≤ sizeLine
theorem bd_of {pins : List (Addr × Obj)} {σ : L2.St} {H : Hp} {s : Shared} (I : Inv X pins σ H s) : Bd X.K H := fun a xs h => by
  rcases h with h | h
  · obtain ⟨_, _, _, z⟩ := I.list h; exact z
  · obtain ⟨_, _, _, z⟩ := I.tuple h; exact z
/-- any value that may be walked -/
def iVal (K : PySem.W.Frag) (te : TE) : TI := fun σ H R => te σ H fun x H1 => (∃ a xs, x = .ref a ∧ SqL K H1 a xs ∧ (Bd K H1 → R (Itl K a) H1)) ∨ (∃ a xs, x = .ref a ∧ SqT K H1 a xs ∧ (Bd K H1 → R (Itt K a) H1)) ∨ ∃ z, x = .str z ∧ R (Its z) H1
theorem pi_val {tg e : Expr} {te : TE} (he : PE X e te) : PI X tg e (iVal X.K te) := by
  refine ⟨fun pins s σ H R I h => ?_⟩
  refine thn (he.run pins s σ H _ I h) fun v s1 ⟨y, H1, I1, r1, q⟩ => ?_
  rcases q with ⟨a, xs, rfl, hq, q⟩ | ⟨a, xs, rfl, hq, q⟩ | ⟨x, rfl, q⟩
  · have pe : PI X tg e (iList X.K fun _ H Q => Q (.ref a) H) → True := fun _ => trivial
    cases r1
    obtain ⟨its, rv, p, hz⟩ := I1.list hq
    exact wpAny_pyIter_list p.isList (pi_one (tk := s1.toks) I1 _ (turn_list a _) ⟨_, Heap.get?_push_size _ rfl, rfl, rfl⟩ (q (bd_of I1)))
  · cases r1
    obtain ⟨its, rv, p, hz⟩ := I1.tuple hq
    exact wpAny_pyIter_tuple (show s1.heap.IsTuple a its.toArray from p) (pi_one (tk := s1.toks) I1 _ (turn_tuple a _) ⟨_, Heap.get?_push_size _ rfl, rfl, rfl⟩ (q (bd_of I1)))
  · obtain ⟨t, rfl⟩ := r1
    cases ha : x.cps.all (· < 128)
    · exact wpAny_pyIter_wide ha (pi_one (tk := s1.toks) I1 _ (turn_str _ x t "str_iterator" (.inr rfl)) ⟨_, Heap.get?_push_size _ rfl, rfl, rfl⟩ q)
    · exact wpAny_pyIter_ascii ha (pi_one (tk := s1.toks) I1 _ (turn_str _ x t "str_ascii_iterator" (.inl rfl)) ⟨_, Heap.get?_push_size _ rfl, rfl, rfl⟩ q)
section
variable {K : PySem.W.Frag} {J : It} {M1 : Mp} {U1 : Hp} {ds : List D} {still : Mp → Prop} {tg : Expr}
theorem sqL_inj {H : Hp} {p : Addr} {xs ys : List V} (h : SqL K H p xs) (q : ∀ zs, SqL K H p zs → zs = ys) : xs = ys := q xs h
/-- a list as it stands -/
theorem jok_l {a : Addr} {vs : List V} (hs : ∀ M U, Ext M1 U1 M U → RM K M U → still M → ∃ vs, SqL K U a vs ∧ RVs K M U ds vs) : JOk RV K (Itl K a) M1 U1 ds still := by
  intro M U H x vw rm st i
  obtain ⟨vs, hq, q⟩ := hs M U x rm st
  have hq' : SqL K H a vs := by
    rcases hq with (h | ⟨o, h⟩) | h
    · exact .inl (.inl (vw _ _ h))
    · exact .inl (.inr ⟨o, vw _ _ h⟩)
    · exact .inr h
  refine ⟨fun hl => ⟨vs, hq', by rw [q.length]; exact Nat.le_of_eq hl⟩, fun d hd => ?_⟩
  obtain ⟨v, hv, rv⟩ := q.get hd
  refine ⟨⟨vs, v, hq', hv⟩, fun y H' hy => ?_⟩
  obtain ⟨rfl, hy⟩ := hy
  have e := hy vs hq'
  rw [hv] at e
  cases e
  exact ⟨U, .refl vw rm, rv⟩
theorem jok_t {a : Addr} (hs : ∀ M U, Ext M1 U1 M U → RM K M U → still M → ∃ vs, SqT K U a vs ∧ RVs K M U ds vs) : JOk RV K (Itt K a) M1 U1 ds still := by
  intro M U H x vw rm st i
  obtain ⟨vs, hq, q⟩ := hs M U x rm st
  have hq' : SqT K H a vs := vw.sqW hq
  refine ⟨fun hl => ⟨vs, hq', by rw [q.length]; exact Nat.le_of_eq hl⟩, fun d hd => ?_⟩
  obtain ⟨v, hv, rv⟩ := q.get hd
  refine ⟨⟨vs, v, hq', hv⟩, fun y H' hy => ?_⟩
  obtain ⟨rfl, hy⟩ := hy
  have e := hy vs hq'
  rw [hv] at e
  cases e
  exact ⟨U, .refl vw rm, rv⟩
theorem jok_s {z : Str} : JOk RV K (Its z) M1 U1 (chars z) (fun _ => True) := by
  intro M U H x vw rm st i
  have hl : (chars z).length = z.cps.size := by simp [chars]
  refine ⟨fun h => by rw [hl] at h; exact Nat.le_of_eq h, fun d hd => ?_⟩
  unfold chars at hd
  rw [List.getElem?_map, Array.getElem?_toList] at hd
  obtain ⟨c, hc, rfl⟩ := Option.map_eq_some_iff.mp hd
  refine ⟨(Array.getElem?_eq_some_iff.mp hc).1, fun y H' hy => ?_⟩
  obtain ⟨rfl, c', hc', rfl⟩ := hy
  rw [hc] at hc'
  cases hc'
  exact ⟨U, .refl vw rm, by simp only [RV]⟩
theorem jok_r {lo : Int} {n : Nat} : JOk RV K (Itr lo n) M1 U1 ((List.range n).map fun k => .int (lo + (k : Nat))) (fun _ => True) := by
  intro M U H x vw rm st i
  refine ⟨fun h => show n ≤ i from Nat.le_of_eq (by simpa using h), fun d hd => ?_⟩
  rw [List.getElem?_map] at hd
  obtain ⟨c, hc, rfl⟩ := Option.map_eq_some_iff.mp hd
  obtain ⟨hi, rfl⟩ := List.getElem?_eq_some_iff.mp hc
  rw [List.length_range] at hi
  refine ⟨hi, fun y H' hy => ?_⟩
  obtain ⟨rfl, rfl⟩ := hy
  exact ⟨U, .refl vw rm, by simp [RV]⟩
end
theorem w_ival {tg : Expr} (ha : PE X a (LE X xk W wa)) : PI X tg a (LI RV X xk W fun δ M Q => wa δ M fun x M1 => match x with
    | .tup ds => Q ds (fun _ => True) M1
    | .lst ds => Q ds (fun _ => True) M1
    | .scr ds => Q ds (fun _ => True) M1
    | .str z => z.length ≤ LIM ∧ Q (chars z) (fun _ => True) M1
    | .ref a => (match M1 a with
      | some (.lst ds) => Q ds (fun M => M a = some (.lst ds)) M1
      | _ => False)
    | _ => False) :=
  pi_imp (pi_val ha) fun σ H Q h => by
    obtain ⟨δ, M, U, R, r, xo, h, out⟩ := h
    refine ⟨δ, M, U, _, r, xo, h, fun d M1 v U1 H1 e k rm rv hR => ?_⟩
    split at hR
    · rename_i ds
      simp only [RV] at rv
      obtain ⟨p, vs, rfl, hq, q⟩ := rv
      refine .inr (.inl ⟨p, vs, rfl, k.vw.sqT hq, fun bd => out ds _ M1 U1 H1 _ ⟨e, k, rm⟩ hR (by rw [← q.length, ← lineLIM]; exact bd p vs (.inr (k.vw.sqT hq))) ?_⟩)
      exact jok_t fun M' U' x' rm' _ => ⟨vs, (x'.sqF rm hq).sq, RVs.mono x' rm _ _ q⟩
    · rename_i ds
      simp only [RV] at rv
      obtain ⟨p, vs, rfl, hq, hn, q⟩ := rv
      refine .inl ⟨p, vs, rfl, .of (k.vw _ _ hq), fun bd => out ds _ M1 U1 H1 _ ⟨e, k, rm⟩ hR (by rw [← q.length, ← lineLIM]; exact bd p vs (.inl (.of (k.vw _ _ hq)))) ?_⟩
      exact jok_l (vs := vs) fun M' U' x' rm' _ => ⟨vs, .of (x' p _ hq hn).1, RVs.mono x' rm _ _ q⟩
    · rename_i ds
      simp only [RV] at rv
      obtain ⟨p, vs, rfl, hq, q⟩ := rv
      refine .inl ⟨p, vs, rfl, (k.vw.sqS hq).sq, fun bd => out ds _ M1 U1 H1 _ ⟨e, k, rm⟩ hR (by rw [← q.length, ← lineLIM]; exact bd p vs (.inl (k.vw.sqS hq).sq)) ?_⟩
      exact jok_l (vs := vs) fun M' U' x' rm' _ => ⟨vs, (x'.sqS rm hq).sq, RVs.mono x' rm _ _ q⟩
    · rename_i z
      simp only [RV] at rv
      subst rv
      refine .inr (.inr ⟨z, rfl, out (chars z) _ M1 U1 H1 _ ⟨e, k, rm⟩ hR.2 (by simpa [chars, Str.length] using hR.1) jok_s⟩)
    · rename_i p
      simp only [RV] at rv
      subst rv
      split at hR
      · rename_i ds em
        obtain ⟨vs, hq, q⟩ := rm p _ em
        refine .inl ⟨p, vs, rfl, .of (k.vw _ _ hq), fun bd => out ds _ M1 U1 H1 _ ⟨e, k, rm⟩ hR (by rw [← q.length, ← lineLIM]; exact bd p vs (.inl (.of (k.vw _ _ hq)))) ?_⟩
        refine jok_l (vs := vs) fun M' U' x' rm' st => ?_
        obtain ⟨vs', hq', q'⟩ := rm' p _ st
        exact ⟨vs', .of hq', q'⟩
      · exact hR.elim
    · exact hR.elim
/-! range -/
theorem w_irng (g : GX X G C Γ k W) {tg f : Expr} {es : List Expr} {n : Nat} {wl : St → Mp → (List D → Mp → Prop) → Prop} (hf : nameB C G "range" f = true) (hp : allPlain es = true) (hn : es.length = n) (h12 : es.length = 1 ∨ es.length = 2) (ha : PA X es (LL X xk W n wl)) :
    PI X tg (.Call f es [] pos) (LI RV X xk W fun δ M Q => wl δ M fun ds M1 => rngD Q ds M1) := by
  obtain ⟨p, rfl, q1, q2, q3, q4⟩ := nameB_of g hf
  match es, h12 with
  | [a], _ =>
    simp only [allPlain, Bool.and_eq_true] at hp
    refine pi_imp (pi_range1 q1 q2 ha (star_cons hp.1)) fun σ H Q h => ?_
    obtain ⟨δ, M, U, R, r, xo, h, out⟩ := h
    refine ⟨δ, M, U, _, r, xo, h, fun ds M1 vs U1 H1 g1 rv hl hR => ?_⟩
    unfold rngD at hR
    split at hR
    · rename_i j
      obtain ⟨v, rfl, q⟩ := rv.one_of
      simp only [RV] at q
      subst q
      refine ⟨_, rfl, hR.1, by have := hR.2.1; simp only [LIM] at this; omega, out _ _ M1 U1 H1 _ g1 hR.2.2 (by have := hR.2.1; simp only [List.length_map, List.length_range, LIM] at this ⊢; omega) ?_⟩
      have := jok_r (K := X.K) (M1 := M1) (U1 := U1) (lo := 0) (n := j.toNat)
      simpa using this
    · simp at hl hn; omega
    · exact hR.elim
  | [a, b], _ =>
    simp only [allPlain, Bool.and_eq_true] at hp
    refine pi_imp (pi_range2 q1 q2 ha (by rw [star_cons hp.1, star_cons hp.2.1]; rfl) (star_cons hp.2.1)) fun σ H Q h => ?_
    obtain ⟨δ, M, U, R, r, xo, h, out⟩ := h
    refine ⟨δ, M, U, _, r, xo, h, fun ds M1 vs U1 H1 g1 rv hl hR => ?_⟩
    unfold rngD at hR
    split at hR
    · simp at hl hn; omega
    · rename_i i j
      obtain ⟨v, v', rfl, q, q'⟩ := rv.two_of
      simp only [RV] at q q'
      subst q q'
      obtain ⟨b1, b2, b3, b4, b5, hR⟩ := hR
      exact ⟨_, _, rfl, ⟨b1, b2, b3, b4⟩, out _ _ M1 U1 H1 _ g1 hR (by simp only [List.length_map, List.length_range, LIM] at b5 ⊢; omega) jok_r⟩
    · exact hR.elim
/-! reversed -/
theorem jok_v {K : PySem.W.Frag} {M1 : Mp} {U1 : Hp} {ds : List D} {still : Mp → Prop} {a : Addr} (hs : ∀ M U, Ext M1 U1 M U → RM K M U → still M → ∃ vs, SqL K U a vs ∧ RVs K M U ds vs) : JOk RV K (Itv K a ds.length) M1 U1 ds.reverse still := by
  intro M U H x vw rm st i
  obtain ⟨vs, hq, q⟩ := hs M U x rm st
  have hq' : SqL K H a vs := by
    rcases hq with (h | ⟨o, h⟩) | h
    · exact .inl (.inl (vw _ _ h))
    · exact .inl (.inr ⟨o, vw _ _ h⟩)
    · exact .inr h
  refine ⟨fun hl => by rw [List.length_reverse] at hl; exact Nat.le_of_eq hl, fun d hd => ?_⟩
  have hi : i < ds.length := by
    have := (List.getElem?_eq_some_iff.mp hd).1
    simpa using this
  rw [List.getElem?_reverse hi] at hd
  obtain ⟨v, hv, rv⟩ := q.get hd
  refine ⟨⟨hi, vs, v, hq', hv⟩, fun y H' hy => ?_⟩
  obtain ⟨rfl, hy⟩ := hy
  have e := hy vs hq'
  rw [hv] at e
  cases e
  exact ⟨U, .refl vw rm, rv⟩
theorem jok_vt {K : PySem.W.Frag} {M1 : Mp} {U1 : Hp} {ds : List D} {still : Mp → Prop} {a : Addr} (hs : ∀ M U, Ext M1 U1 M U → RM K M U → still M → ∃ vs, SqT K U a vs ∧ RVs K M U ds vs) : JOk RV K (RT.ItvT K a ds.length) M1 U1 ds.reverse still := by
  intro M U H x vw rm st i
  obtain ⟨vs, hq, q⟩ := hs M U x rm st
  have hq' : SqT K H a vs := vw.sqW hq
  refine ⟨fun hl => by rw [List.length_reverse] at hl; exact Nat.le_of_eq hl, fun d hd => ?_⟩
  have hi : i < ds.length := by
    have := (List.getElem?_eq_some_iff.mp hd).1
    simpa using this
  rw [List.getElem?_reverse hi] at hd
  obtain ⟨v, hv, rv⟩ := q.get hd
  refine ⟨⟨hi, vs, v, hq', hv⟩, fun y H' hy => ?_⟩
  obtain ⟨rfl, hy⟩ := hy
  have e := hy vs hq'
  rw [hv] at e
  cases e
  exact ⟨U, .refl vw rm, rv⟩
theorem pi_bd {tg it : Expr} {wi : TI} (h : PI X tg it wi) : PI X tg it (fun σ H R => wi σ H fun J H1 => Bd X.K H1 → R J H1) := ⟨fun pins s σ H R I q => thn (h.run pins s σ H _ I q) fun v s1 h1 => thn h1 fun itv s2 h2 => by
  obtain ⟨it, fp, tn, J, H', e, I', T, st, f, q⟩ := h2
  exact ⟨it, fp, tn, J, H', e, I', T, st, f, q (bd_of I')⟩⟩
theorem w_irev (g : GX X G C Γ k W) {tg f : Expr} (hf : nameB C G "reversed" f = true) (hn : noStar a = true) (ha : PE X a (LE X xk W wa)) : PI X tg (.Call f [a] [] pos) (LI RV X xk W fun δ M Q => wa δ M fun x M1 => match x with
    | .tup ds => Q ds.reverse (fun _ => True) M1
    | .lst ds => Q ds.reverse (fun _ => True) M1
    | .ref a => (match M1 a with
      | some (.lst ds) => Q ds.reverse (fun M => M a = some (.lst ds)) M1
      | _ => False)
    | _ => False) := by
  obtain ⟨p, rfl, q1, q2, q3, q4⟩ := nameB_of g hf
  refine pi_imp (pi_bd (RT.pi_revA q1 q2 ha (star_cons hn))) fun σ H Q h => ?_
  obtain ⟨δ, M, U, R, r, xo, h, out⟩ := h
  refine ⟨δ, M, U, _, r, xo, h, fun d M1 v U1 H1 e k rm rv hR => ?_⟩
  split at hR
  · rename_i ds
    simp only [RV] at rv
    obtain ⟨p, vs, rfl, hq, q⟩ := rv
    refine ⟨p, vs, rfl, .inr ⟨k.vw.sqT hq, fun bd => out _ _ M1 U1 H1 _ ⟨e, k, rm⟩ hR (by rw [List.length_reverse, ← q.length, ← lineLIM]; exact bd p vs (.inr (k.vw.sqT hq))) ?_⟩⟩
    rw [q.length]
    exact jok_vt fun M' U' x' rm' _ => ⟨vs, (x'.sqF rm hq).sq, RVs.mono x' rm _ _ q⟩
  · rename_i ds
    simp only [RV] at rv
    obtain ⟨p, vs, rfl, hq, hn, q⟩ := rv
    refine ⟨p, vs, rfl, .inl ⟨.of (k.vw _ _ hq), fun bd => out _ _ M1 U1 H1 _ ⟨e, k, rm⟩ hR (by rw [List.length_reverse, ← q.length, ← lineLIM]; exact bd p vs (.inl (.of (k.vw _ _ hq)))) ?_⟩⟩
    rw [q.length]
    exact jok_v fun M' U' x' rm' _ => ⟨vs, .of (x' p _ hq hn).1, RVs.mono x' rm _ _ q⟩
  · rename_i p
    simp only [RV] at rv
    subst rv
    split at hR
    · rename_i ds em
      obtain ⟨vs, hq, q⟩ := rm p _ em
      refine ⟨p, vs, rfl, .inl ⟨.of (k.vw _ _ hq), fun bd => out _ _ M1 U1 H1 _ ⟨e, k, rm⟩ hR (by rw [List.length_reverse, ← q.length, ← lineLIM]; exact bd p vs (.inl (.of (k.vw _ _ hq)))) ?_⟩⟩
      rw [q.length]
      refine jok_v fun M' U' x' rm' st => ?_
      obtain ⟨vs', hq', q'⟩ := rm' p _ st
      exact ⟨vs', .of hq', q'⟩
    · exact hR.elim
  · exact hR.elim
end
end Pw
set_option Elab.async false
set_option linter.all false
set_option maxRecDepth 100000
set_option maxHeartbeats 1000000
namespace Pw
open PySem PySem.Spec PyProof.Rows L2

section
variable {X : Cx} {xk : XD} {W : WX} {G : Gc} {C : Ct} {Γ : String → SpD} {k : Nat} {a b c : Expr} {wa wb wc : St → Mp → DK → Prop} {pos : Pos}
/-! ### list(x), tuple(x) -/
theorem r_convL (g : GX X G C Γ k W) (m : Bool) {f : Expr} (hf : nameB C G "list" f = true) (hn : noStar a = true) (ha : PE X a (LE X xk W wa)) : PE X (.Call f [a] [] pos) (LE X xk W fun δ M Q => wa δ M fun x M1 => convD m true x M1 Q) := by
  obtain ⟨p, rfl, q1, q2, q3, q4⟩ := nameB_of g hf
  refine pe_imp (pe_callTy call_list_of q1 q2 (by decide +kernel) (pa_cons ha pa_nil (star_cons hn)) q4 q3 (star_cons hn) (star_any rfl)) fun σ H Q h => ?_
  obtain ⟨δ, M, U, R, r, xo, h, out⟩ := h
  refine ⟨δ, M, U, _, r, xo, h, fun d M1 v U1 H1 e k rm rv hR => ?_⟩
  unfold convD at hR
  dsimp only at hR
  split at hR
  · rename_i ds
    simp only [RV] at rv
    obtain ⟨p, vs, rfl, hq, q⟩ := rv
    exact ⟨p, vs, rfl, .inr (k.vw.sqT hq), fun l hl => (out.mono e k).lst k.vw rm q hR hl⟩
  · rename_i ds
    simp only [RV] at rv
    obtain ⟨p, vs, rfl, hq, hn, q⟩ := rv
    exact ⟨p, vs, rfl, .inl (.of (k.vw _ _ hq)), fun l hl => (out.mono e k).lst k.vw rm q hR hl⟩
  · rename_i ds
    simp only [RV] at rv
    obtain ⟨p, vs, rfl, hq, q⟩ := rv
    exact ⟨p, vs, rfl, .inl (k.vw.sqS hq).sq, fun l hl => (out.mono e k).lst k.vw rm q hR hl⟩
  · rename_i p
    simp only [RV] at rv
    subst rv
    split at hR
    · rename_i ds em
      obtain ⟨vs, hq, q⟩ := rm p _ em
      exact ⟨p, vs, rfl, .inl (.of (k.vw _ _ hq)), fun l hl => (out.mono e k).lst k.vw rm q hR hl⟩
    · exact hR.elim
  · exact hR.elim
theorem r_convT (g : GX X G C Γ k W) (m : Bool) {f : Expr} (hf : nameB C G "tuple" f = true) (hn : noStar a = true) (ha : PE X a (LE X xk W wa)) : PE X (.Call f [a] [] pos) (LE X xk W fun δ M Q => wa δ M fun x M1 => convD m false x M1 Q) := by
  obtain ⟨p, rfl, q1, q2, q3, q4⟩ := nameB_of g hf
  refine pe_imp (pe_callTy call_tupleF q1 q2 (by decide +kernel) (pa_cons ha pa_nil (star_cons hn)) q4 q3 (star_cons hn) (star_any rfl)) fun σ H Q h => ?_
  obtain ⟨δ, M, U, R, r, xo, h, out⟩ := h
  refine ⟨δ, M, U, _, r, xo, h, fun d M1 v U1 H1 e k rm rv hR => ?_⟩
  unfold convD at hR
  dsimp only at hR
  split at hR
  · rename_i ds
    have rv' := rv
    simp only [RV] at rv
    obtain ⟨p, vs, rfl, hq, q⟩ := rv
    exact ⟨p, vs, rfl, .inr ⟨k.vw.sqT hq, (out.mono e k).here k.vw rm rv' hR⟩⟩
  · rename_i ds
    simp only [RV] at rv
    obtain ⟨p, vs, rfl, hq, hn, q⟩ := rv
    exact ⟨p, vs, rfl, .inl ⟨.of (k.vw _ _ hq), (out.mono e k).tup k.vw rm q hR⟩⟩
  · rename_i ds
    simp only [RV] at rv
    obtain ⟨p, vs, rfl, hq, q⟩ := rv
    exact ⟨p, vs, rfl, .inl ⟨(k.vw.sqS hq).sq, (out.mono e k).tup k.vw rm q hR⟩⟩
  · rename_i p
    simp only [RV] at rv
    subst rv
    split at hR
    · rename_i ds em
      obtain ⟨vs, hq, q⟩ := rm p _ em
      exact ⟨p, vs, rfl, .inl ⟨.of (k.vw _ _ hq), (out.mono e k).tup k.vw rm q hR⟩⟩
    · exact hR.elim
  · exact hR.elim
/-! of a range -/
def tRgA (t : TA) : L2.St → Hp → (Int → Int → Hp → Prop) → Prop := fun σ H Q => t σ H fun vs H1 => (∃ n, vs = [.int n] ∧ Q 0 n H1) ∨ ∃ i j, vs = [.int i, .int j] ∧ Q i j H1
theorem prg_A {es : List Expr} {t : TA} {p pos : Pos} (hg : Gl X "range") (hm : X.mg "range" = none) (hp : allPlain es = true) (h12 : es.length = 1 ∨ es.length = 2) (ha : PA X es t) : PRg X (.Call (.Name "range" p) es [] pos) (tRgA t) := by
  intro pins s σ H Q I h
  have key : ∀ e es', allPlain (e :: es') = true → PA X (e :: es') t → wpAny (model X.prog X.w) X.A (eval (.Call (.Name "range" p) (e :: es') [] pos) X.env) (fun x s' => ∃ r a b t u v H', x = .ref r ∧ IsRange s'.heap r a b 1 t u v ∧ Inv X pins σ H' s' ∧ Q a b H') X.xe s := by
    intro e es' hp ha
    simp only [allPlain, Bool.and_eq_true] at hp
    refine Call_ (ld_blt I hg hm boot_range (PyProof.Rows.callWith_type1 (thn (ha.run pos pins s σ H _ I h) fun us s1 ⟨vs, H1, I1, r1, q1⟩ => ?_) (star_cons hp.1) (star_any hp.2)))
    rcases q1 with ⟨n, rfl, q⟩ | ⟨i, j, rfl, q⟩
    · obtain ⟨u, rfl, t, rfl⟩ := Vals.one r1
      exact call_range_1 ⟨_, 0, n, _, _, _, H1, rfl, IsRange.new _ _ _ _ _ _ _, I1.kept fun b u e => Heap.get?_push_of_some _ e, q⟩
    · obtain ⟨u, u', rfl, ⟨t, rfl⟩, ⟨t', rfl⟩⟩ := Vals.two r1
      exact call_range_2 ⟨_, i, j, _, _, _, H1, rfl, IsRange.new _ _ _ _ _ _ _, I1.kept fun b u e => Heap.get?_push_of_some _ e, q⟩
  match es, h12 with
  | [a], _ => exact key a [] hp ha
  | [a, b], _ => exact key a [b] hp ha
def tTupRgF (te : L2.St → Hp → (Int → Int → Hp → Prop) → Prop) : TE := fun σ H Q => te σ H fun a b H1 => RgOk a b ∧ NewT H1 (rgV a b) Q
theorem pe_tupRgF {e : Expr} {te : L2.St → Hp → (Int → Int → Hp → Prop) → Prop} {p pos : Pos} (hc : X.calm = true) (hg : Gl X "tuple") (hm : X.mg "tuple" = none) (he : PRg X e te) (na : starEach [e] X.env = (false, eval e X.env) :: starEach [] X.env := by rfl) : PE X (.Call (.Name "tuple" p) [e] [] pos) (tTupRgF te) := by
  refine ⟨fun pins s σ H Q I h => ?_⟩
  refine Call_ (ld_blt I hg hm boot_tuple (PyProof.Rows.callWith_type1 (args_cons (thn (he pins s σ H _ I h) fun x s1 ⟨r, a, b, t, u, v, H1, ex, hr, I1, ok, q⟩ => args_nil ?_) na) na))
  subst ex
  obtain ⟨b1, b2, b3, b4, b5⟩ := ok
  refine call_tuple_range (n := (b - a).toNat) (I1.ok.hd hc) hr (small_one b1 b2 b3 b4) (rangeSize_nat a b) b5 fun h' tk acc hk hi => ?_
  have I2 : Inv X pins σ H1 { s1 with heap := h', toks := tk } := I1.kept hk
  have e := newT_ok (s := { s1 with heap := h', toks := tk }) I2 (vals_rg hi) (by rw [rgV_length, sizeLine_eq]; omega) q tk
  simpa using e
theorem rgV_D {a b : Int} {K : PySem.W.Frag} {M : Mp} {U : Hp} : RVs K M U ((List.range (b - a).toNat).map fun k => .int (a + (k : Nat))) (rgV a b) := by
  have := RVs.ints (K := K) (M := M) (H := U) (ns := (List.range (b - a).toNat).map fun k => a + (k : Nat))
  simpa [rgV, List.map_map, Function.comp_def] using this
theorem rngV_use {K : PySem.W.Frag} {M1 : Mp} {U1 : Hp} {ds : List D} {vs : List V} {Q : List D → Mp → Prop} {P : Int → Int → Prop} (rv : RVs K M1 U1 ds vs) (h : rngV Q ds M1) (hP : ∀ a b, RgOk a b → Q ((List.range (b - a).toNat).map fun k => .int (a + (k : Nat))) M1 → P a b) :
    (∃ n, vs = [.int n] ∧ P 0 n) ∨ ∃ i j, vs = [.int i, .int j] ∧ P i j := by
  unfold rngV rngD at h
  split at h
  · rename_i j
    obtain ⟨v, rfl, q⟩ := rv.one_of
    simp only [RV] at q
    subst q
    refine .inl ⟨_, rfl, hP 0 j ⟨by omega, by omega, h.1, by have := h.2.1; simp only [LIM] at this; omega, by have := h.2.1; simp only [LIM] at this; omega⟩ (by simpa using h.2.2)⟩
  · rename_i i j
    obtain ⟨v, v', rfl, q, q'⟩ := rv.two_of
    simp only [RV] at q q'
    subst q q'
    obtain ⟨b1, b2, b3, b4, b5, h⟩ := h
    exact .inr ⟨_, _, rfl, hP i j ⟨b1, b2, b3, b4, by simp only [LIM] at b5; omega⟩ h⟩
  · exact h.elim
section
variable {es : List Expr} {n : Nat} {wl : St → Mp → (List D → Mp → Prop) → Prop} {f fr : Expr} {pos2 : Pos}
theorem r_convLR (g : GX X G C Γ k W) (m : Bool) (hf : nameB C G "list" f = true) (hr : nameB C G "range" fr = true) (hp : allPlain es = true) (h12 : es.length = 1 ∨ es.length = 2) (ha : PA X es (LL X xk W n wl)) :
    PE X (.Call f [.Call fr es [] pos2] [] pos) (LE X xk W fun δ M Q => wl δ M fun ds M1 => rngV (fun ds M => mkN m ds M Q) ds M1) := by
  obtain ⟨p, rfl, q1, q2, q3, q4⟩ := nameB_of g hf
  obtain ⟨p', rfl, s1, s2, s3, s4⟩ := nameB_of g hr
  refine pe_imp (pe_listRg g.calm q1 q2 (prg_A s1 s2 hp h12 ha) (star_cons rfl)) fun σ H Q h => ?_
  obtain ⟨δ, M, U, R, r, xo, h, out⟩ := h
  refine ⟨δ, M, U, _, r, xo, h, fun ds M1 vs U1 H1 g1 rv hl hR => ?_⟩
  exact rngV_use (P := fun a b => RgOk a b ∧ ∀ q : Addr, H1 q = none → Q (.ref q) (upd H1 q (.lst (rgV a b)))) rv hR fun a b ok hq => ⟨ok, fun l hl => (out.mono g1.ex g1.kp).lst g1.kp.vw g1.rm rgV_D hq hl⟩
theorem r_convTR (g : GX X G C Γ k W) (hf : nameB C G "tuple" f = true) (hr : nameB C G "range" fr = true) (hp : allPlain es = true) (h12 : es.length = 1 ∨ es.length = 2) (ha : PA X es (LL X xk W n wl)) :
    PE X (.Call f [.Call fr es [] pos2] [] pos) (LE X xk W fun δ M Q => wl δ M fun ds M1 => rngV (fun ds M => Q (.tup ds) M) ds M1) := by
  obtain ⟨p, rfl, q1, q2, q3, q4⟩ := nameB_of g hf
  obtain ⟨p', rfl, s1, s2, s3, s4⟩ := nameB_of g hr
  refine pe_imp (pe_tupRgF g.calm q1 q2 (prg_A s1 s2 hp h12 ha) (star_cons rfl)) fun σ H Q h => ?_
  obtain ⟨δ, M, U, R, r, xo, h, out⟩ := h
  refine ⟨δ, M, U, _, r, xo, h, fun ds M1 vs U1 H1 g1 rv hl hR => ?_⟩
  exact rngV_use (P := fun a b => RgOk a b ∧ NewT H1 (rgV a b) Q) rv hR fun a b ok hq => ⟨ok, (out.mono g1.ex g1.kp).tup g1.kp.vw g1.rm rgV_D hq⟩
end

/-- tuple(reversed(x)), x a list -/
def tTupRevF (K : PySem.W.Frag) (te : TE) : TE := fun σ H Q => te σ H fun v H1 => ∃ (a : Addr) (xs : List V), v = .ref a ∧ SqL K H1 a xs ∧ NewT H1 xs.reverse Q
theorem r_convv (g : GX X G C Γ k W) {f fr : Expr} {pos2 : Pos} (hf : nameB C G "tuple" f = true) (hr : nameB C G "reversed" fr = true) (hn : noStar a = true) (ha : PE X a (LE X xk W wa)) : PE X (.Call f [.Call fr [a] [] pos2] [] pos) (LE X xk W fun δ M Q => wa δ M fun x M1 => match lstOf M1 x with
    | some ds => Q (.tup ds.reverse) M1
    | none => False) := by
  obtain ⟨p, rfl, q1, q2, q3, q4⟩ := nameB_of g hf
  obtain ⟨p', rfl, s1, s2, s3, s4⟩ := nameB_of g hr
  refine ⟨fun pins s σ H Q I h => ?_⟩
  obtain ⟨δ, M, U, R, r, xo, h, out⟩ := h
  have hA := ha.run pins s σ H (fun v H1 => ∃ (a : Addr) (xs : List V), v = .ref a ∧ SqL X.K H1 a xs ∧ NewT H1 xs.reverse Q) I ⟨δ, M, U, _, r, xo, h, fun d M1 v U1 H1 e k rm rv hR => by
    split at hR
    · rename_i ds ed
      obtain ⟨a, vs, rfl, hq, q⟩ := lstOf_at k.vw rm ed rv
      exact ⟨a, vs, rfl, hq, (out.mono e k).tup k.vw rm q.rev hR⟩
    · exact hR.elim⟩
  refine Call_ (ld_blt I q1 q2 boot_tuple (PyProof.Rows.callWith_type1 (args_cons (Call_ (ld_blt I s1 s2 PyProof.Rows.boot_reversed (PyProof.Rows.callWith_type1 (args_cons (thn hA fun u s1 ⟨v, H1, I1, r1, q1⟩ => args_nil ?_) (star_cons hn)) (star_cons hn) rfl))) (star_cons rfl)) (star_cons rfl) rfl))
  obtain ⟨a, xs, ev, hq, q⟩ := q1
  subst ev
  obtain rfl : u = Value.ref a := r1
  obtain ⟨its, rv, p', hz⟩ := I1.list hq
  refine call_reversed_list p'.isList (args_nil ?_)
  have k0 : ∀ b o, s1.heap.get? b = some o → (s1.heap.push (revObj a ((its.toArray.size : Int) - 1))).get? b = some o := fun b o e => Heap.get?_push_of_some _ e
  have I2 : Inv X pins σ H1 { s1 with heap := s1.heap.push (revObj a ((its.toArray.size : Int) - 1)) } := I1.kept (t' := s1.toks) k0
  obtain ⟨f0, f1, f2, f3, f4, f5⟩ := I1.fpOk (H' := H1) (b := s1.heap.objs.size) (Nat.le_refl _) (I1.hok.fresh (Nat.le_refl _))
  have hl := p'.isList
  obtain ⟨ol, hol, _⟩ := id hl
  have hne : a ≠ s1.heap.objs.size := Nat.ne_of_lt (Heap.lt_size hol)
  have hsz : its.toArray.size ≤ sizeLine := by rw [List.size_toArray, ← rv.length]; exact hz
  refine RT.call_tuple_rev (s := { s1 with heap := s1.heap.push (revObj a ((its.toArray.size : Int) - 1)) }) (I1.ok.hd g.calm) ⟨_, Heap.get?_push_size _ rfl, rfl, rfl⟩ (hl.push _) hne hsz fun h' tk acc hk hi => ?_
  have I3 : Inv X pins σ H1 { s1 with heap := h', toks := tk } := I2.turned (t' := tk) (fun b o hb e => hk b o hb e) f0 f1 f3 f4 f5
  have e := newT_ok I3 (RT.vals_rev rv hi) (by rw [List.length_reverse]; exact hz) q tk
  simpa using e

/-! ### targets -/
/-- the slots outside S stand -/
def Same (S : List Nat) (σ σ' : L2.St) : Prop := σ'.length = σ.length ∧ ∀ j, j ∉ S → σ'[j]? = σ[j]?
theorem Same.refl {S : List Nat} {σ : L2.St} : Same S σ σ := ⟨rfl, fun _ _ => rfl⟩
theorem Same.trans {S T : List Nat} {σ σ' σ'' : L2.St} (a : Same S σ σ') (b : Same T σ' σ'') : Same (S ++ T) σ σ'' := ⟨b.1.trans a.1, fun j hj => by
  simp only [List.mem_append, not_or] at hj
  rw [b.2 j hj.2, a.2 j hj.1]⟩
theorem Same.wipe {S vs : List Nat} {σ σ' : L2.St} (h : Same S (L2.wipe σ vs) σ') (hs : ∀ i ∈ S, i ∈ vs) : L2.wipe σ' vs = L2.wipe σ vs := by
  apply List.ext_getElem?
  intro i
  rw [wipe_getElem?, wipe_getElem?]
  have hl := h.1
  rw [wipe_length] at hl
  by_cases hi : i ∈ vs
  · rw [if_pos hi, if_pos hi]
    by_cases hlt : i < σ.length
    · rw [List.getElem?_eq_getElem hlt, List.getElem?_eq_getElem (by omega)]; rfl
    · rw [List.getElem?_eq_none (by omega), List.getElem?_eq_none (by omega)]
  · rw [if_neg hi, if_neg hi, h.2 i fun hS => hi (hs i hS), wipe_getElem?, if_neg hi]
def OutS (K : PySem.W.Frag) (S : List Nat) (σ0 : L2.St) (M : Mp) (U H : Hp) (R : St → Mp → Prop) (Q : L2.St → Hp → Prop) : Prop := ∀ δ' M' σ' U' H', Go K M U H M' U' H' → RS K M' U' δ' σ' → Same S σ0 σ' → R δ' M' → Q σ' H'
def LG (ρ : Rho) (X : Cx) (xk : XD) (W : WX) (S : List Nat) (wp : D → St → Mp → (St → Mp → Prop) → Prop) : TG := fun v σ H Q => ∃ δ M U R d, Rel X.K M U H δ σ ∧ XOk X xk W M U H ∧ ρ X.K M U d v ∧ wp d δ M R ∧ OutS X.K S σ M U H R Q
def LGs (X : Cx) (xk : XD) (W : WX) (S : List Nat) (wp : List D → St → Mp → (St → Mp → Prop) → Prop) : TGs := fun vs σ H Q => ∃ δ M U R ds, Rel X.K M U H δ σ ∧ XOk X xk W M U H ∧ RVs X.K M U ds vs ∧ wp ds δ M R ∧ OutS X.K S σ M U H R Q
theorem pg_imp {tg : Expr} {t t' : TG} (h : PG X tg t) (i : ∀ v σ H Q, t' v σ H Q → t v σ H Q) : PG X tg t' := ⟨fun pins s σ H v u Q I r q => h.run pins s σ H v u Q I r (i v σ H Q q)⟩
theorem pgs_imp {ts : List Expr} {t t' : TGs} (h : PGs X ts t) (i : ∀ v σ H Q, t' v σ H Q → t v σ H Q) : PGs X ts t' := ⟨fun pins s σ H v u Q I r q => h.run pins s σ H v u Q I r (i v σ H Q q)⟩
theorem stoB_of (g : GX X G C Γ k W) {x : Str} (h : stoB C x = true) : Loc X.env.scope x ∧ (X.fn x = true ∨ X.env.scope.names.lookup x = some .local) := by
  unfold stoB at h
  rw [← g.sc] at h
  split at h
  · rename_i e
    exact ⟨.inl e, .inr e⟩
  · rename_i e
    exact ⟨.inr e, .inl (g.fnB x h)⟩
  · cases h
theorem t_name (g : GX X G C Γ k W) {i : Nat} {x : Str} (hi : C.N[i]? = some x) (hs : stoB C x = true) : PG X (.Name x pos) (LG RV X xk W [i] fun d δ M Q => Q (δ.set i (some d)) M) := by
  obtain ⟨h1, h2⟩ := stoB_of g hs
  refine pg_imp (pg_name g.nd (by rw [g.N]; exact hi) h1 h2) fun v σ H Q h => ?_
  obtain ⟨δ, M, U, R, d, r, xo, rv, h, out⟩ := h
  exact out _ M _ U H r.here (r.rs.set i rv) ⟨by simp, fun j hj => by
    rw [List.getElem?_set_ne (by simpa using fun e => hj (by simp [e]))]⟩ h
theorem asg_sub {env : Env} (h : noSlc b = true) : ∀ v, assign (.Subscript a b pos) env v = (do
      let ov ← holding [v] (eval a env)
      let iv ← holding [v, ov] (eval b env)
      standAt pos
      holding [v, ov, iv] (setItem ov iv v)
      release [v, ov, iv] []) := by
  intro v
  cases b <;> first | rfl | (simp [noSlc] at h)
theorem t_sub (g : GX X G C Γ k W) (hsl : noSlc b = true) (ho : PE X a (LE X xk W wa)) (hi : PE X b (LE X xk W wb)) : PG X (.Subscript a b pos) (LG RV X xk W [] fun d δ M Q => wa δ M fun x M1 => wb δ M1 fun y M2 => stD x y d M2 fun M3 => Q δ M3) := by
  refine pg_imp (pg_sub ho hi (stD_ok g.hu) (asg_sub hsl)) fun v σ H Q h => ?_
  obtain ⟨δ, M, U, R, d, r, xo, rv, h, out⟩ := h
  refine ⟨δ, M, U, _, r, xo, h, fun d1 M1 v1 U1 H1 e k rm rv1 hR => ⟨δ, M1, U1, _, r.mono ⟨e, k, rm⟩, xo.mono ⟨e, k, rm⟩, hR, fun d2 M2 v2 U2 H2 e2 k2 rm2 rv2 hR2 => ?_⟩⟩
  have g2 : Go X.K M U H M2 U2 H2 := (Go.mk e k rm).trans ⟨e2, k2, rm2⟩
  refine ⟨U2, M2, d1, d2, d, _, k2.vw, rm2, RV.mono e2 rm _ _ rv1, rv2, RV.mono g2.ex r.rm _ _ rv, hR2, fun M3 U3 H3 e3 k3 rm3 hR3 => ?_⟩
  have g3 := g2.trans ⟨e3, k3, rm3⟩
  exact out δ M3 σ U3 H3 g3 (r.mono g3).rs .refl hR3
section
variable {es : List Expr} {S T : List Nat} {wg : D → St → Mp → (St → Mp → Prop) → Prop} {wr : List D → St → Mp → (St → Mp → Prop) → Prop}
theorem t_nil : PGs X [] (LGs X xk W [] fun ds δ M Q => match ds with
    | [] => Q δ M
    | _ => False) := pgs_imp pgs_nil fun vs σ H Q h => by
  obtain ⟨δ, M, U, R, ds, r, xo, rv, h, out⟩ := h
  split at h
  · simp only [RVs] at rv
    exact ⟨rv, out δ M σ U H r.here r.rs .refl h⟩
  · exact h.elim
theorem asg_cons {e : Expr} {es : List Expr} {env : Env} (h : noStar e = true) : assignEach (e :: es) env = (false, assign e env) :: assignEach es env := by
  cases e <;> first | rfl | (simp [noStar] at h)
theorem t_cons (hn : noStar a = true) (hg : PG X a (LG RV X xk W S wg)) (hr : PGs X es (LGs X xk W T wr)) : PGs X (a :: es) (LGs X xk W (S ++ T) fun ds δ M Q => match ds with
    | d :: ds => wg d δ M fun δ1 M1 => wr ds δ1 M1 Q
    | _ => False) := pgs_imp (pgs_cons hg hr (by rw [asg_cons hn]; rfl)) fun vs σ H Q h => by
  obtain ⟨δ, M, U, R, ds, r, xo, rv, h, out⟩ := h
  split at h
  · rename_i d ds
    simp only [RVs] at rv
    obtain ⟨v, vr, rfl, q1, q2⟩ := rv
    refine ⟨v, vr, rfl, δ, M, U, _, d, r, xo, q1, h, fun δ1 M1 σ1 U1 H1 g1 rs1 sm1 hR => ?_⟩
    exact ⟨δ1, M1, U1, R, ds, ⟨g1.kp.vw, g1.rm, rs1⟩, xo.mono g1, RVs.mono g1.ex r.rm _ _ q2, hR, fun δ2 M2 σ2 U2 H2 g2 rs2 sm2 hR2 => out δ2 M2 σ2 U2 H2 (g1.trans g2) rs2 (sm1.trans sm2) hR2⟩
  · exact h.elim
theorem asg_plain {env : Env} : ∀ {es : List Expr}, allPlain es = true → (assignEach es env).length = es.length ∧ (assignEach es env).findIdx? (·.1) = none
  | [], _ => ⟨rfl, rfl⟩
  | e :: es, h => by
    simp only [allPlain, Bool.and_eq_true] at h
    obtain ⟨h1, h2⟩ := asg_plain (env := env) h.2
    rw [asg_cons h.1]
    exact ⟨by simp [h1], by simp [List.findIdx?_cons, h2]⟩
/-- (a, b, ..) = a tuple -/
theorem t_tup (g : GX X G C Γ k W) {j : Nat} {n : Nat} (hp : allPlain es = true) (hl : es.length = n) (h : PGs X es (LGs X xk W S wr)) : PG X (.Tuple es j pos) (LG RW X xk W S fun d δ M Q => match d with
    | .tup ds => ds.length = n ∧ wr ds δ M Q
    | _ => False) := by
  obtain ⟨h1, h2⟩ := asg_plain (env := X.env) hp
  refine pg_imp (pg_tup g.calm h h1 h2) fun v σ H Q h => ?_
  obtain ⟨δ, M, U, R, d, r, xo, rv, h, out⟩ := h
  split at h
  · rename_i ds
    obtain ⟨p, vs, rfl, hq, q⟩ := rv
    exact ⟨p, vs, rfl, r.vw.sqW hq, by rw [q.length, hl]; exact h.1, δ, M, U, R, ds, r, xo, q, h.2, out⟩
  · exact h.elim
theorem LG.of {X : Cx} {xk : XD} {W : WX} {S : List Nat} {wp : D → St → Mp → (St → Mp → Prop) → Prop} {tg : Expr} (h : PG X tg (LG RW X xk W S wp)) : PG X tg (LG RV X xk W S wp) := pg_imp h fun v σ H Q h => by
  obtain ⟨δ, M, U, R, d, r, xo, rv, h, out⟩ := h
  exact ⟨δ, M, U, R, d, r, xo, .of rv, h, out⟩
end
end
end Pw
set_option Elab.async false
set_option linter.all false
set_option maxRecDepth 100000
set_option maxHeartbeats 1000000
namespace Pw
open PySem PySem.Spec PyProof.Rows L2

def W0 : WX := fun _ _ _ _ => False
theorem XOk.no {X : Cx} {M : Mp} {U H : Hp} : XOk X never W0 M U H := fun _ _ _ _ _ _ _ _ h => h.elim
section
variable {X : Cx} {xk : XD} {W : WX} {G : Gc} {C : Ct} {Γ : String → SpD} {k : Nat} {a b c : Expr} {wa wb wc : St → Mp → DK → Prop} {pos : Pos}
/-! ### comprehensions -/
theorem lc_read {ρ : Rho} {S own : List Nat} {wi : St → Mp → (List D → (Mp → Prop) → Mp → Prop) → Prop} {wg : D → St → Mp → (St → Mp → Prop) → Prop} {wt : St → Mp → (Bool → Mp → Prop) → Prop} {we : St → Mp → DK → Prop} {m : Bool} (hS : ∀ i ∈ S, i ∈ own) {σ : L2.St} {H : Hp} {Q : VK}
    (h : LE X xk W (fun δ M Q => wi δ M fun ds still M1 => compL wg wt (fun δ1 M acc M' K => we δ1 M' fun x M'' => K (acc ++ [x]) M'') still (wipeD δ own) (fun acc M2 => mkN m acc M2 Q) ds [] M1) σ H Q) :
    tLc (LI ρ X xk W wi) (LG ρ X never W0 S wg) (LT X never W0 wt) (LE X never W0 we) own σ H Q := by
  obtain ⟨δ, M, U, R, r, xo, h, out⟩ := h
  refine ⟨δ, M, U, _, r, xo, h, fun ds still M1 U1 H1 J g1 hC hz jok D hD => ?_⟩
  have hU1 := g1.kp.vw.none hD
  generalize hcL : compL wg wt (fun δ1 M acc M' K => we δ1 M' fun x M'' => K (acc ++ [x]) M'') still (wipeD δ own) (fun acc M2 => mkN m acc M2 R) = cL at hC
  have start : Go X.K M1 U1 H1 M1 U1 (upd H1 D (.lst [])) := ⟨.refl, ⟨fun a o ha n => by
    rw [upd_ne (ne_of_none ha hD)]
    exact ⟨ha, n⟩, fun a o ha => by
    rw [upd_ne (ne_of_none ha hU1)]
    exact g1.kp.vw _ _ ha⟩, g1.rm⟩
  refine ⟨fun i n Hc => n = ds.length - i ∧ i ≤ ds.length ∧ ∃ M' U' acc vs, Go X.K M1 U1 H1 M' U' Hc ∧ U' D = none ∧ Hc D = some (.lst vs) ∧ RVs X.K M' U' acc vs ∧ acc.length ≤ i ∧ cL (ds.drop i) acc M', ⟨ds.length, by simp, Nat.zero_le _, M1, U1, [], [], start, hU1, upd_same, by simp only [RVs], Nat.zero_le _, by simpa using hC⟩, ?_⟩
  rintro i n Hc ⟨rfl, hi, M', U', acc, vs, g2, hU, hHc, ra, hacc, hC⟩
  cases hd : ds.drop i with
  | nil =>
    rw [hd, ← hcL] at hC
    have hi' : i = ds.length := by
      have := List.drop_eq_nil_iff.mp hd
      omega
    obtain ⟨st, hk⟩ := hC
    refine .inl ⟨(jok M' U' Hc g2.ex g2.kp.vw g2.rm st i).1 hi'.symm, ?_⟩
    have g12 := g1.trans g2
    have kp : Kp U H (upd U' D (.lst vs)) Hc := ⟨fun a o ha n => by
      have q := g12.kp.st a o ha n
      have q1 := g1.kp.st a o ha n
      have ne := ne_of_none q1.1 hD
      rw [upd_ne ne]
      exact q, fun a o ha => by
      by_cases e : a = D
      · subst e
        rw [upd_same] at ha
        rw [hHc]; exact ha
      · rw [upd_ne e] at ha
        exact g2.kp.vw _ _ ha⟩
    cases m with
    | false =>
      exact out (.lst acc) M' (.ref D) _ Hc (g12.ex.trans (Ext.new hU)) kp (g2.rm.new hU) (by
        simp only [RV]
        exact ⟨D, vs, rfl, upd_same, g2.rm.none_of hU, RVs.mono (Ext.new hU) g2.rm _ _ ra⟩) hk
    | true =>
      exact out (.ref D) (up M' D (.lst acc)) (.ref D) _ Hc (g12.ex.trans (Ext.newM hU)) kp (g2.rm.newM hU ⟨vs, upd_same, RVs.mono (Ext.newM hU) g2.rm _ _ ra⟩) (by simp only [RV]) (hk D (g2.rm.none_of hU))
  | cons d rest =>
    rw [hd, ← hcL] at hC
    obtain ⟨st, hC⟩ := hC
    have hlt : i < ds.length := by
      have : (ds.drop i).length = ds.length - i := List.length_drop
      rw [hd] at this
      simp at this
      omega
    have hdi : ds[i]? = some d := by
      have := congrArg (fun l : List Pw.D => l[0]?) hd
      simpa using this
    have hrest : ds.drop (i + 1) = rest := by
      have := congrArg List.tail hd
      simpa [List.tail_drop] using this
    obtain ⟨go, yl⟩ := (jok M' U' Hc g2.ex g2.kp.vw g2.rm st i).2 d hdi
    refine .inr ⟨go, fun H' => ∃ M'' U'' acc' vs', Go X.K M1 U1 H1 M'' U'' H' ∧ U'' D = none ∧ H' D = some (.lst vs') ∧ RVs X.K M'' U'' acc' vs' ∧ acc'.length ≤ i + 1 ∧ cL rest acc' M'', ?_, ?_⟩
    · rintro H' ⟨M'', U'', acc', vs', q1, q2, q3, q4, q5, q6⟩
      exact ⟨ds.length - (i + 1), by omega, rfl, hlt, M'', U'', acc', vs', q1, q2, q3, q4, q5, by rw [hrest]; exact q6⟩
    · intro x H' hy
      obtain ⟨U2, g3, rx⟩ := yl x H' hy
      have hD2 := g3.kp.st D _ hHc hU
      have rs2 := (r.mono (g1.trans (g2.trans g3))).rs.wipe2 own
      refine ⟨wipeD δ own, M', U2, _, d, ⟨g3.kp.vw, g3.rm, rs2⟩, XOk.no, rx, hC, fun δ1 M3 σ2 U3 H3 g4 rs4 sm hT => ⟨sm.wipe hS, ?_⟩⟩
      have hD3 := g4.kp.st D _ hD2.1 hD2.2
      refine ⟨δ1, M3, U3, _, ⟨g4.kp.vw, g4.rm, rs4⟩, XOk.no, hT, fun q M4 U4 H4 g5 hb => ?_⟩
      have hD4 := g5.kp.st D _ hD3.1 hD3.2
      have g25 := g2.trans (g3.trans (g4.trans g5))
      have ra4 := RVs.mono (g3.trans (g4.trans g5)).ex g2.rm _ _ ra
      cases q with
      | false =>
        dsimp only
        rw [if_neg Bool.false_ne_true]
        exact ⟨M4, U4, acc, vs, g25, hD4.2, hD4.1, ra4, by omega, by rw [← hcL]; exact hb⟩
      | true =>
        dsimp only
        rw [if_pos rfl]
        refine ⟨δ1, M4, U4, _, ⟨g5.kp.vw, g5.rm, rs4.mono g5.ex g4.rm⟩, XOk.no, hb, fun d5 M5 v5 U5 H5 e5 k5 rm5 rv5 hR5 => ?_⟩
        have hD5 := k5.st D _ hD4.1 hD4.2
        have g26 := g25.trans ⟨e5, k5, rm5⟩
        refine ⟨vs, hD5.1, by rw [ra.length, lineLIM]; omega, M5, U5, acc ++ [d5], vs ++ [v5], ⟨g26.ex, ⟨fun a o ha n => ?_, fun a o ha => ?_⟩, rm5⟩, hD5.2, upd_same, (RVs.mono e5 g5.rm _ _ ra4).app (.one rv5), by simp; omega, by rw [← hcL]; exact hR5⟩
        · rw [upd_ne (ne_of_none ha hD)]
          exact g26.kp.st a o ha n
        · rw [upd_ne (ne_of_none ha hD5.2)]
          exact k5.vw _ _ ha
theorem ownOf_map {N : List Str} {own : List Nat} : (ownOf N own).map (·.2) = own := by simp [ownOf, Function.comp_def]
theorem set_fold {e : Expr} {env : Env} (h : noSet e = true) : ∀ x, foldedSetIterable e env x = pure x := by
  intro x
  cases e <;> first | rfl | (simp [noSet] at h)
section
variable {ρ : Rho} {S own : List Nat} {wi : St → Mp → (List D → (Mp → Prop) → Mp → Prop) → Prop} {wg : D → St → Mp → (St → Mp → Prop) → Prop} {wt : St → Mp → (Bool → Mp → Prop) → Prop} {we : St → Mp → DK → Prop} {m : Bool} {elt tg iter : Expr} {ifs : List Expr} {sc : Scope}
theorem r_comp (g : GX X G C Γ k W) (hok : blkC C.N C.sc sc (ownOf C.N own) = true) (hS : ∀ i ∈ S, i ∈ own) (hs : noSet iter = true) (hi : PI X tg iter (LI ρ X xk W wi))
    (hg : ∀ (s : Shared) (H : Hp) (Ca : Addr) (cl : List (Str × Addr)) (fp : List Addr), PG (X.blk s H sc (compEnvC sc cl Ca X.env) fp) tg (LG ρ X never W0 S wg)) (ht : ∀ (s : Shared) (H : Hp) (Ca : Addr) (cl : List (Str × Addr)) (fp : List Addr), PTs (X.blk s H sc (compEnvC sc cl Ca X.env) fp) ifs (LT X never W0 wt))
    (he : ∀ (s : Shared) (H : Hp) (Ca : Addr) (cl : List (Str × Addr)) (fp : List Addr), PE (X.blk s H sc (compEnvC sc cl Ca X.env) fp) elt (LE X never W0 we)) :
    PE X (.ListComp elt [⟨tg, iter, ifs, 0⟩] sc pos) (LE X xk W fun δ M Q => wi δ M fun ds still M1 => compL wg wt (fun δ1 M acc M' K => we δ1 M' fun x M'' => K (acc ++ [x]) M'') still (wipeD δ own) (fun acc M2 => mkN m acc M2 Q) ds [] M1) := by
  rw [← g.N, ← g.sc] at hok
  refine pe_imp (pe_lc g.calm g.nd hi (blkOk_by hok) hg ht he (set_fold hs)) fun σ H Q h => ?_
  rw [ownOf_map]
  exact lc_read hS h
end
theorem q_nilTs : PTs X [] (LT X xk W fun _ M Q => Q true M) := ⟨fun pins s σ H Q I h => by
  obtain ⟨δ, M, U, R, r, xo, h, out⟩ := h
  exact pts_nil.run pins s σ H Q I (out true M U H r.here h)⟩

/-! ### statements -/
structure OutE (K : PySem.W.Frag) (M : Mp) (U H : Hp) (E : En) (D : Ends) : Prop where
  nx : OutG K M U H E.nx D.nx
  rt : Out K M U H E.rt D.rt
  bk : OutG K M U H E.bk D.bk
  ct : OutG K M U H E.ct D.ct
theorem OutG.mono {K : PySem.W.Frag} {M M' : Mp} {U H U' H' : Hp} {R : St → Mp → Prop} {Q : L2.St → Hp → Prop} (o : OutG K M U H R Q) (g : Go K M U H M' U' H') : OutG K M' U' H' R Q := fun δ M1 σ U1 H1 g1 rs h => o δ M1 σ U1 H1 (g.trans g1) rs h
theorem OutE.mono {K : PySem.W.Frag} {M M' : Mp} {U H U' H' : Hp} {E : En} {D : Ends} (o : OutE K M U H E D) (g : Go K M U H M' U' H') : OutE K M' U' H' E D := ⟨o.nx.mono g, o.rt.mono g.ex g.kp, o.bk.mono g, o.ct.mono g⟩
variable (X xk W) in
def LS (wp : En → St → Mp → Prop) : TS := fun D σ H => ∃ δ M U E, Rel X.K M U H δ σ ∧ XOk X xk W M U H ∧ wp E δ M ∧ OutE X.K M U H E D
theorem ps_imp {st : Stmt} {t t' : TS} (h : PS X st t) (i : ∀ D σ H, t' D σ H → t D σ H) : PS X st t' := ⟨fun pins s σ H D I q => h.run pins s σ H D I (i D σ H q)⟩
theorem pss_imp {st : List Stmt} {t t' : TS} (h : PSs X st t) (i : ∀ D σ H, t' D σ H → t D σ H) : PSs X st t' := ⟨fun pins s σ H D I q => h.run pins s σ H D I (i D σ H q)⟩
structure GS (X : Cx) (G : Gc) (C : Ct) (Γ : String → SpD) (k : Nat) (W : WX) : Prop extends GX X G C Γ k W where
  kd : X.env.scope.kind = .function
  own : PassesOwn (model X.prog X.w) X.A X.env X.xe
  stk : X.stack = X.env :: X.outer
  frm : X.env.frame = some X.env.locals
theorem noSw {e : Expr} {tg : Option Expr} {l : Nat} {env : Env} (h : swOk e = true) (h2 : noLc e = true) : swapsWith e tg l env = pure false := by
  cases e <;> first | rfl | exact absurd h Bool.false_ne_true | exact absurd h2 Bool.false_ne_true
theorem blockKind_fn {env : Env} (h : env.scope.kind = .function) : env.blockKind = .function := by
  unfold Env.blockKind
  rw [h]
  rfl
theorem sw_of {e tg : Expr} {l : Nat} {env : Env} (kd : env.scope.kind = .function) (h : swOk e = true) : swapsWith e (some tg) l env = pure (swB env.scope tg e) := by
  cases e <;> first
    | rfl
    | exact absurd h Bool.false_ne_true
    | (cases tg <;> first
        | rfl
        | (unfold swapsWith swB
           simp only [blockKind_fn kd, pure_bind]
           congr 1
           unfold Env.kindOf isLoc
           generalize env.scope.names.lookup _ = o
           cases o with
           | none => rfl
           | some z => cases z <;> rfl))
section
variable {tg : Expr} {S : List Nat} {wg : D → St → Mp → (St → Mp → Prop) → Prop}
theorem asg_one {env : Env} (h : noStar tg = true) : (assignEach [tg] env).map (·.2) = [assign tg env] := by
  rw [asg_cons h]; rfl
theorem s_asg (g : GS X G C Γ k W) (hs : swOk a = true) (hb : swB C.sc tg a = false) (hw : swappedStores [tg] a X.env = pure none) (hn : noStar tg = true) (ha : PE X a (LE X xk W wa)) (hg : PG X tg (LG RV X xk W S wg)) :
    PS X (.Assign [tg] a pos) (LS X xk W fun E δ M => wa δ M fun x M1 => wg x δ M1 E.nx) := by
  refine ps_imp (ps_asg ha hg (by show swapsWith a (some tg) _ _ = _; rw [sw_of g.kd hs, g.sc, hb]) hw (asg_one hn)) fun D σ H h => ?_
  obtain ⟨δ, M, U, E, r, xo, h, out⟩ := h
  refine ⟨δ, M, U, _, r, xo, h, fun d M1 v U1 H1 e k rm rv hR => ?_⟩
  have g1 := Go.mk e k rm
  exact ⟨δ, M1, U1, E.nx, d, r.mono g1, xo.mono g1, rv, hR, fun δ2 M2 σ2 U2 H2 g2 rs2 _ hR2 => out.nx δ2 M2 σ2 U2 H2 (g1.trans g2) rs2 hR2⟩
/-- name = [.. for ..], stored by the comprehension itself -/
theorem s_setLc {ρ : Rho} {T own : List Nat} {wi : St → Mp → (List D → (Mp → Prop) → Mp → Prop) → Prop} {wh : D → St → Mp → (St → Mp → Prop) → Prop} {wt : St → Mp → (Bool → Mp → Prop) → Prop} {we : St → Mp → DK → Prop} {m : Bool} {elt ctg iter : Expr} {ifs : List Expr} {sc : Scope} {i : Nat} {y : Str} {py lpos : Pos}
    (g : GS X G C Γ k W) (hok : blkC C.N C.sc sc (ownOf C.N own) = true) (hS : ∀ i ∈ T, i ∈ own) (hs : noSet iter = true) (hy : C.N[i]? = some y) (hb : swB C.sc (.Name y py) (.ListComp elt [⟨ctg, iter, ifs, 0⟩] sc lpos) = true) (hi : PI X ctg iter (LI ρ X xk W wi))
    (hg : ∀ (s : Shared) (H : Hp) (Ca : Addr) (cl : List (Str × Addr)) (fp : List Addr), PG (X.blk s H sc (compEnvC sc cl Ca X.env) fp) ctg (LG ρ X never W0 T wh)) (ht : ∀ (s : Shared) (H : Hp) (Ca : Addr) (cl : List (Str × Addr)) (fp : List Addr), PTs (X.blk s H sc (compEnvC sc cl Ca X.env) fp) ifs (LT X never W0 wt))
    (he : ∀ (s : Shared) (H : Hp) (Ca : Addr) (cl : List (Str × Addr)) (fp : List Addr), PE (X.blk s H sc (compEnvC sc cl Ca X.env) fp) elt (LE X never W0 we)) :
    PS X (.Assign [.Name y py] (.ListComp elt [⟨ctg, iter, ifs, 0⟩] sc lpos) pos) (LS X xk W fun E δ M => wi δ M fun ds still M1 => compL wh wt (fun δ1 M acc M' K => we δ1 M' fun x M'' => K (acc ++ [x]) M'') still (wipeD δ own) (fun acc M2 => mkN m acc M2 fun x M3 => E.nx (δ.set i (some x)) M3) ds [] M1) := by
  have hsw := sw_of (tg := .Name y py) (e := .ListComp elt [⟨ctg, iter, ifs, 0⟩] sc lpos) (l := pos.line) g.kd rfl
  rw [g.sc, hb] at hsw
  have hl : X.env.scope.names.lookup y = some .local := by
    have : isLoc C.sc y = true := by
      unfold swB at hb
      simp only [Bool.and_eq_true] at hb
      exact hb.1.1
    rw [g.sc]
    unfold isLoc at this
    split at this
    · assumption
    · cases this
  rw [← g.N, ← g.sc] at hok
  refine ps_imp (ps_setLc g.calm g.nd (by rw [g.N]; exact hy) hl hsw hi (blkOk_by hok) hg ht he (set_fold hs)) fun D σ H h => ?_
  rw [ownOf_map]
  obtain ⟨δ, M, U, E, r, xo, h, out⟩ := h
  refine lc_read (m := m) hS ⟨δ, M, U, fun x M3 => E.nx (δ.set i (some x)) M3, r, xo, h, fun d M1 v U1 H1 e k rm rv hR => ?_⟩
  have g1 := Go.mk e k rm
  exact out.nx _ M1 _ U1 H1 g1 ((r.mono g1).rs.set i rv) hR
end
/-- a, b = x, y: stored from the right -/
theorem s_par {i j n : Nat} {x y : Str} {px py pt : Pos} {kt k2 : Nat} {pt2 : Pos} {wl : St → Mp → (List D → Mp → Prop) → Prop} (g : GS X G C Γ k W) (hi : C.N[i]? = some x) (hj : C.N[j]? = some y) (hij : i ≠ j) (hx : isLoc C.sc x = true) (hy : isLoc C.sc y = true)
    (hw : swappedStores [.Tuple [.Name x px, .Name y py] kt pt] (.Tuple [a, b] k2 pt2) X.env = pure (some [x, y])) (ha : PA X [a, b] (LL X xk W n wl)) :
    PS X (.Assign [.Tuple [.Name x px, .Name y py] kt pt] (.Tuple [a, b] k2 pt2) pos) (LS X xk W fun E δ M => wl δ M fun ds M1 => ds.length = [i, j].length ∧ E.nx (([i, j].zip ds).foldl (fun δ p => δ.set p.1 (some p.2)) δ) M1) := by
  have loc : ∀ {z : Str}, isLoc C.sc z = true → X.env.scope.names.lookup z = some .local := by
    intro z h
    rw [g.sc]
    unfold isLoc at h
    split at h
    · assumption
    · cases h
  refine ps_imp (ps_par g.calm g.nd (by rw [g.N]; exact hi) (by rw [g.N]; exact hj) hij (loc hx) (loc hy) ha hw) fun D σ H h => ?_
  obtain ⟨δ, M, U, E, r, xo, h, out⟩ := h
  refine ⟨δ, M, U, _, r, xo, h, fun ds M1 vs U1 H1 g1 rv hl hR => ?_⟩
  obtain ⟨hl2, hR⟩ := hR
  match ds, hl2 with
  | [d, d'], _ =>
    obtain ⟨v, v', rfl, q, q'⟩ := rv.two_of
    exact ⟨v, v', rfl, out.nx _ M1 _ U1 H1 g1 (((r.mono g1).rs.set i q).set j q') hR⟩
/-! op= -/
theorem iop_mulW : OpR X (inplaceOp .Mult) (rI CMulW fun i j => .int (i * j)) := opI fun _ _ _ _ _ _ _ hc q => imul_int q hc.ok
theorem iopD_ok (op : BinO) : PIp X (bopO op) (fun x y H Q => ∃ U M a b R, Vw U H ∧ RM X.K M U ∧ RV X.K M U a x ∧ RV X.K M U b y ∧ iopD op a b M R ∧ Out X.K M U H R Q) := by
  intro pins s σ H x y v u Q I rx ry h
  obtain ⟨U, M, a, b, R, vw, rm, ra, rb, hf, out⟩ := h
  unfold iopD at hf
  split at hf
  · simp only [RV] at ra rb
    subst ra rb
    cases op with
    | add => exact iop_add pins s σ H _ _ v u Q I rx ry ⟨_, _, rfl, rfl, out.int vw rm hf⟩
    | sub => exact iop_sub pins s σ H _ _ v u Q I rx ry ⟨_, _, rfl, rfl, out.int vw rm hf⟩
    | mul => exact iop_mulW pins s σ H _ _ v u Q I rx ry ⟨_, _, rfl, rfl, hf.1.w, out.int vw rm hf.2⟩
    | fdiv => exact iop_fdivW pins s σ H _ _ v u Q I rx ry ⟨_, _, rfl, rfl, hf.1.w, out.int vw rm hf.2⟩
    | mod => exact iop_mod pins s σ H _ _ v u Q I rx ry ⟨_, _, rfl, rfl, hf.1, out.int vw rm hf.2⟩
    | pow => exact hf.elim
  · exact hf.elim
theorem s_aug (g : GS X G C Γ k W) (op : BinO) {i : Nat} {x : Str} {px : Pos} (hi : C.N[i]? = some x) (hs : stoB C x = true) (ha : PE X a (LE X xk W wa)) :
    PS X (.AugAssign (.Name x px) (bopO op) a pos) (LS X xk W fun E δ M => match δ[i]? with
      | some (some x) => wa δ M fun y M1 => iopD op x y M1 fun z M2 => E.nx (δ.set i (some z)) M2
      | _ => False) := by
  obtain ⟨h1, h2⟩ := stoB_of g.toGX hs
  refine ps_imp (ps_aug g.nd (by rw [g.N]; exact hi) h1 ha (iopD_ok op) h2) fun D σ H h => ?_
  obtain ⟨δ, M, U, E, r, xo, h, out⟩ := h
  split at h
  · rename_i d e
    obtain ⟨v, e1, q⟩ := r.rs.2 i d e
    refine ⟨v, e1, δ, M, U, _, r, xo, h, fun y M1 w U1 H1 e2 k2 rm2 rw2 hR => ?_⟩
    refine ⟨U1, M1, d, y, _, k2.vw, rm2, RV.mono e2 r.rm _ _ q, rw2, hR, fun z M2 u U2 H2 e3 k3 rm3 ru hR3 => ?_⟩
    have g2 := (Go.mk e2 k2 rm2).trans ⟨e3, k3, rm3⟩
    exact out.nx _ M2 _ U2 H2 g2 ((r.mono g2).rs.set i ru) hR3
  · exact h.elim
/-! o[i], read by itself -/
theorem get_ok (hu : X.A.units + 64 < cLine) : PGet X (rIxD X.K) := by
  intro pins s σ H x y v u Q I rx ry h
  obtain ⟨U, M, a, b, R, vw, rm, ra, rb, hf, out⟩ := h
  have lst : ∀ {p : Addr} {ds : List D} {vs : List V} {i : Int} {d : D}, x = .ref p → b = .int i → SqL X.K H p vs → RVs X.K M U ds vs → atD ds i = some d → R d M → wpAny (model X.prog X.w) X.A (getItem v u) (EP X pins σ Q) X.xe s := by
    intro p ds vs i d ex eb hq q e1 hR
    subst ex eb
    simp only [RV] at rb
    subst rb
    cases rx
    obtain ⟨t, rfl⟩ := ry
    obtain ⟨w, e2, rw'⟩ := atD_at q e1
    obtain ⟨its, r, pl, hz⟩ := I.list hq
    obtain ⟨j, h1, h2, h3, h4, h5⟩ := atI_get e2
    obtain ⟨z, ez, rz⟩ := r.get h2
    have hl := r.length
    have hn := line63
    have fin : EP X pins σ Q z s := ⟨w, H, I, rz, out.here vw rm rw' hR⟩
    by_cases h0 : 0 ≤ i
    · have hj : i.toNat = j := by
        rw [seqIndex_of h0 h5] at h1
        exact Option.some.inj h1
      exact wpAny_getItem_list pl.isList h0 (by omega) (by rw [hj]; simpa using ez) fin
    · have hj : (i + (its.toArray.size : Int)).toNat = j := by
        rw [seqIndex_neg (by omega) h4] at h1
        rw [List.size_toArray, ← hl]
        exact Option.some.inj h1
      exact wpAny_getItem_list_neg pl.isList (by omega) (by rw [List.size_toArray] <;> omega) (by omega) (by rw [hj]; simpa using ez) fin
  unfold ixD at hf
  split at hf
  · rename_i ds e
    have e' := see_scr e
    subst e'
    split at hf
    · split at hf
      · rename_i d e1
        simp only [RV] at ra
        obtain ⟨p, vs, e3, hq, q⟩ := ra
        exact lst e3 rfl (vw.sqS hq).sq q e1 hf
      · exact hf.elim
    · exact hf.elim
  · rename_i ds e
    have e' := see_tup e
    subst e'
    split at hf
    · split at hf
      · rename_i d e1
        simp only [RV] at ra rb
        obtain ⟨p, vs, rfl, hq, q⟩ := ra
        subst rb
        cases rx
        obtain ⟨t, rfl⟩ := ry
        obtain ⟨w, e2, rw'⟩ := atD_at q e1
        obtain ⟨its, r, pl, hz⟩ := I.tuple (vw.sqT hq)
        obtain ⟨j, h1, h2, h3, h4, h5⟩ := atI_get e2
        obtain ⟨z, ez, rz⟩ := r.get h2
        have hl := r.length
        have hn := line63
        exact getItem_tuple (j := j) pl (by omega) (by omega) (by rw [List.size_toArray, ← hl]; exact h1) (by simpa using ez) ⟨w, H, I, rz, out.here vw rm rw' hf⟩
      · exact hf.elim
    · exact hf.elim
  · rename_i ds e
    split at hf
    · split at hf
      · rename_i d e1
        obtain ⟨p, vs, e3, hq, q⟩ := lstM_at vw rm (see_lst e) ra
        exact lst e3 rfl (.of hq) q e1 hf
      · exact hf.elim
    · exact hf.elim
  · rename_i z e
    have e' := see_str e
    subst e'
    split at hf
    · obtain ⟨hz, hf⟩ := hf
      split at hf
      · rename_i c e1
        simp only [RV] at ra rb
        subst ra rb
        obtain ⟨t, rfl⟩ := rx
        obtain ⟨t', rfl⟩ := ry
        obtain ⟨j, h1, h2, h3, h4, h5⟩ := atI_get e1
        have hl : z.cps.toList.length = z.length := by simp [Str.length]
        rw [hl] at h1 h4 h5
        have hn := line63
        have hz2 : z.length ≤ sizeLine := by rw [lineLIM]; exact hz
        exact getItem_str (c := c) (by
          rw [decide_eq_false (by omega), decide_eq_false (by omega), Bool.or_false]) (by rw [h1]; simpa using h2) ⟨.str ⟨#[c]⟩, H, I.tok _, ⟨_, rfl⟩, out.str vw rm hf⟩
      · exact hf.elim
    · exact hf.elim
  · rename_i kvs e
    split at hf
    · rename_i k ek
      have e1 := keyOf_kV ek rb
      subst e1
      split at hf
      · rename_i d ed
        obtain ⟨a', us', rfl, hq, q⟩ := see_dic vw rm e ra
        obtain ⟨w, ew, rw'⟩ := (q.get (k := k)).1 d ed
        cases rx
        have gg := DGet.k (k := k) hq
        rw [ew] at gg
        exact d_getItem (by omega) I gg ry fun w' s' I' rw2 => ⟨w, H, I', rw2, out.here vw rm rw' hf⟩
      · exact hf.elim
    · exact hf.elim
  · rename_i p e
    split at hf
    · rename_i lk kvs hM
      have ea : a = .ref p := see_refD e
      subst ea
      split at hf
      · rename_i k ek
        split at hf
        · rename_i d ed
          obtain ⟨trip, hU, hT⟩ := rm p _ hM
          obtain ⟨bq, rfl, hq⟩ := tkD_at ek rb
          simp only [RV] at ra
          subst ra
          cases rx
          cases ry
          obtain ⟨w, ew, rw'⟩ := (hT.at (k := k)).1 d ed
          exact dT_getItem (by omega) I vw hU hT hq ew fun w' s' I' r' => ⟨w, H, I', r', out.here vw rm rw' hf⟩
        · exact hf.elim
      · exact hf.elim
    · exact hf.elim
  · exact hf.elim
theorem aug_sub {i : Expr} (h : noSlc i = true) : ∀ ov iv new, augStore i ov iv new = (do holding [new, ov, iv] (setItem ov iv new); release [new, ov, iv] []; pure .next) := by
  intro ov iv new
  cases i <;> first | rfl | (simp [noSlc] at h)
theorem s_augs (g : GS X G C Γ k W) (op : BinO) (hsl : noSlc b = true) {tpos : Pos} (ha : PE X a (LE X xk W wa)) (hb : PE X b (LE X xk W wb)) (hc : PE X c (LE X xk W wc)) :
    PS X (.AugAssign (.Subscript a b tpos) (bopO op) c pos) (LS X xk W fun E δ M => wa δ M fun x M1 => wb δ M1 fun y M2 => ixD x y M2 fun z M3 => wc δ M3 fun u M4 => iopD op z u M4 fun v M5 => stD x y v M5 fun M6 => E.nx δ M6) := by
  refine ps_imp (ps_augS ha hb (get_ok g.hu) hc (iopD_ok op) (stD_ok g.hu) (aug_sub hsl)) fun D σ H h => ?_
  obtain ⟨δ, M, U, E, r, xo, h, out⟩ := h
  refine ⟨δ, M, U, _, r, xo, h, fun d1 M1 v1 U1 H1 e1 k1 rm1 rv1 hR => ?_⟩
  have g1 := Go.mk e1 k1 rm1
  refine ⟨δ, M1, U1, _, r.mono g1, xo.mono g1, hR, fun d2 M2 v2 U2 H2 e2 k2 rm2 rv2 hR2 => ?_⟩
  have g2 := Go.mk e2 k2 rm2
  refine ⟨U2, M2, d1, d2, _, k2.vw, rm2, RV.mono e2 rm1 _ _ rv1, rv2, hR2, fun d3 M3 v3 U3 H3 e3 k3 rm3 rv3 hR3 => ?_⟩
  have g3 := Go.mk e3 k3 rm3
  have g13 := g1.trans (g2.trans g3)
  refine ⟨δ, M3, U3, _, r.mono g13, xo.mono g13, hR3, fun d4 M4 v4 U4 H4 e4 k4 rm4 rv4 hR4 => ?_⟩
  have g4 := Go.mk e4 k4 rm4
  refine ⟨U4, M4, d3, d4, _, k4.vw, rm4, RV.mono e4 rm3 _ _ rv3, rv4, hR4, fun d5 M5 v5 U5 H5 e5 k5 rm5 rv5 hR5 => ?_⟩
  have g5 := Go.mk e5 k5 rm5
  have g25 := g2.trans (g3.trans (g4.trans g5))
  have g35 := g3.trans (g4.trans g5)
  refine ⟨U5, M5, d1, d2, d5, _, k5.vw, rm5, RV.mono g25.ex rm1 _ _ rv1, RV.mono g35.ex rm2 _ _ rv2, rv5, hR5, fun M6 U6 H6 e6 k6 rm6 hR6 => ?_⟩
  have g16 := (g1.trans g25).trans (Go.mk e6 k6 rm6)
  exact out.nx δ M6 σ U6 H6 g16 (r.mono g16).rs hR6
/-! the plain ones -/
theorem s_expr (hs : swapsWith a none pos.line X.env = pure false) (ha : PE X a (LE X xk W wa)) : PS X (.Expr a pos) (LS X xk W fun E δ M => wa δ M fun _ M1 => E.nx δ M1) :=
  ps_imp (ps_expr ha hs) fun D σ H h => by
    obtain ⟨δ, M, U, E, r, xo, h, out⟩ := h
    exact ⟨δ, M, U, _, r, xo, h, fun d M1 v U1 H1 e k rm rv hR => out.nx δ M1 σ U1 H1 ⟨e, k, rm⟩ (r.mono ⟨e, k, rm⟩).rs hR⟩
theorem s_ret (ha : PE X a (LE X xk W wa)) : PS X (.Return (some a) pos) (LS X xk W fun E δ M => wa δ M E.rt) :=
  ps_imp (ps_ret ha) fun D σ H h => by
    obtain ⟨δ, M, U, E, r, xo, h, out⟩ := h
    exact ⟨δ, M, U, E.rt, r, xo, h, out.rt⟩
theorem s_retn : PS X (.Return none pos) (LS X xk W fun E _ M => E.rt .non M) :=
  ps_imp ps_retN fun D σ H h => by
    obtain ⟨δ, M, U, E, r, xo, h, out⟩ := h
    exact out.rt.here r.vw r.rm rvNon h
theorem s_pass : PS X (.Pass pos) (LS X xk W fun E δ M => E.nx δ M) :=
  ps_imp ps_pass fun D σ H h => by
    obtain ⟨δ, M, U, E, r, xo, h, out⟩ := h
    exact out.nx δ M σ U H r.here r.rs h
theorem s_brk : PS X (.Break pos) (LS X xk W fun E δ M => E.bk δ M) :=
  ps_imp ps_break fun D σ H h => by
    obtain ⟨δ, M, U, E, r, xo, h, out⟩ := h
    exact out.bk δ M σ U H r.here r.rs h
theorem s_cont : PS X (.Continue pos) (LS X xk W fun E δ M => E.ct δ M) :=
  ps_imp ps_continue fun D σ H h => by
    obtain ⟨δ, M, U, E, r, xo, h, out⟩ := h
    exact out.ct δ M σ U H r.here r.rs h
theorem s_doc {x : Str} {j : Nat} {p : Pos} : PS X (.Expr (.Constant (.str x) j p) pos) (LS X xk W fun E δ M => E.nx δ M) :=
  ps_imp ps_doc fun D σ H h => by
    obtain ⟨δ, M, U, E, r, xo, h, out⟩ := h
    exact out.nx δ M σ U H r.here r.rs h
theorem s_if {ta : St → Mp → (Bool → Mp → Prop) → Prop} {w1 w2 : En → St → Mp → Prop} {xs ys : List Stmt} (hc : PT X c (LT X xk W ta)) (h1 : PSs X xs (LS X xk W w1)) (h2 : PSs X ys (LS X xk W w2)) :
    PS X (.If c xs ys pos) (LS X xk W fun E δ M => ta δ M fun k M1 => match k with
      | true => w1 E δ M1
      | false => w2 E δ M1) :=
  ps_imp (ps_if hc h1 h2) fun D σ H h => by
    obtain ⟨δ, M, U, E, r, xo, h, out⟩ := h
    refine ⟨δ, M, U, _, r, xo, h, fun q M1 U1 H1 g hR => ?_⟩
    cases q with
    | true => exact ⟨δ, M1, U1, E, r.mono g, xo.mono g, hR, out.mono g⟩
    | false => exact ⟨δ, M1, U1, E, r.mono g, xo.mono g, hR, out.mono g⟩
theorem s_raise (g : GS X G C Γ k W) {x m : Str} {j : Nat} {p p2 p3 : Pos} (hx : x ∈ G.excs) (hg : glB C.sc x = true) : PS X (.Raise (some (.Call (.Name x p) [.Constant (.str m) j p2] [] p3)) none pos) (LS X xk W fun _ δ M => xk x δ M) := by
  rw [← g.sc] at hg
  obtain ⟨q1, q2, q3⟩ := glB_gl hg
  obtain ⟨A, bmB, B, ni, ii, F, q, gC, kC, rs⟩ := g.exc x hx
  refine ps_imp (ps_raise g.calm g.tk (pmk_own F q gC kC rs q1 q2)) fun D σ H h => ?_
  obtain ⟨δ, M, U, E, r, xo, h, out⟩ := h
  exact xo x δ M U H σ r.here r.rs h _ gC
/-! suites -/
theorem s_nil : PSs X [] (LS X xk W fun E δ M => E.nx δ M) := pss_imp pss_nil fun D σ H h => by
  obtain ⟨δ, M, U, E, r, xo, h, out⟩ := h
  exact out.nx δ M σ U H r.here r.rs h
theorem s_cons {st : Stmt} {rest : List Stmt} {w1 w2 : En → St → Mp → Prop} (h1 : PS X st (LS X xk W w1)) (h2 : PSs X rest (LS X xk W w2)) : PSs X (st :: rest) (LS X xk W fun E δ M => w1 { E with nx := fun δ' M' => w2 E δ' M' } δ M) :=
  pss_imp (pss_cons h1 h2) fun D σ H h => by
    obtain ⟨δ, M, U, E, r, xo, h, out⟩ := h
    exact ⟨δ, M, U, _, r, xo, h, fun δ' M' σ' U' H' g rs hR => ⟨δ', M', U', E, ⟨g.kp.vw, g.rm, rs⟩, xo.mono g, hR, out.mono g⟩, out.rt, out.bk, out.ct⟩
end
end Pw
set_option Elab.async false
set_option linter.all false
set_option maxRecDepth 100000
set_option maxHeartbeats 1000000
namespace Pw
open PySem PySem.Spec PyProof.Rows L2

section
variable {X : Cx} {xk : XD} {W : WX} {G : Gc} {C : Ct} {Γ : String → SpD} {k : Nat} {a b c : Expr} {pos : Pos}
theorem swp_ok {env : Env} {tg e : Expr} {r : Option (List Str)} (kd : env.scope.kind = .function) (h : swpB env.scope tg e = some r) : swappedStores [tg] e env = pure r := by
  have bk := blockKind_fn kd
  cases tg with
  | Tuple ts kt pt =>
    cases e with
    | Tuple vs kv pv =>
      unfold swpB at h
      dsimp only at h
      unfold swappedStores
      simp only [bk, pure_bind]
      have kb : (ScopeKind.function != ScopeKind.function) = false := by decide
      rw [kb, Bool.or_false]
      have ek : ∀ id : Str, (env.kindOf id == some .local) = isLoc env.scope id := by
        intro id
        unfold Env.kindOf isLoc
        generalize env.scope.names.lookup id = o
        cases o with
        | none => rfl
        | some z => cases z <;> rfl
      simp only [ek]
      split at h
      · rename_i h1
        cases h
        exact if_pos h1
      · rename_i h1
        refine (if_neg h1).trans ?_
        split at h
        · rename_i h2
          cases h
          exact if_pos h2
        · rename_i h2
          refine (if_neg h2).trans ?_
          try dsimp only at h
          try dsimp only
          split at h
          · rename_i h3
            cases h
            exact if_pos h3
          · rename_i h3
            refine (if_neg h3).trans ?_
            split at h
            · rename_i h4
              cases h
              exact if_pos h4
            · rename_i h4
              refine (if_neg h4).trans ?_
              split at h
              · cases h
              · rename_i h5
                cases h
                exact if_neg h5
    | _ => cases h; rfl
  | List ts pt =>
    cases e with
    | Tuple vs kv pv => cases h
    | _ => cases h; rfl
  | _ => cases h; rfl
/-! ### loops -/
theorem s_while (g : GS X G C Γ k W) {tc : St → Mp → (Bool → Mp → Prop) → Prop} {wb : En → St → Mp → Prop} {body : List Stmt} {clr : List Nat} (hc : PT X c (LT X xk W tc)) (hb : PSs X body (LS X xk W wb)) :
    PS X (.While c body [] pos) (LS X xk W fun E δ M => ∃ Wd : Nat → St → Mp → Prop, (∃ n, Wd n (wipeD δ clr) M) ∧ ∀ n δ M, Wd n δ M → tc δ M fun k M1 => match k with
      | true => wb { nx := fun δ' M' => ∃ n', n' < n ∧ Wd n' (wipeD δ' clr) M', ct := fun δ' M' => ∃ n', n' < n ∧ Wd n' (wipeD δ' clr) M', bk := E.nx, rt := E.rt } δ M1
      | false => E.nx δ M1) :=
  ps_imp (ps_while g.own hc hb) fun D σ H h => by
    obtain ⟨δ, M, U, E, r, xo, ⟨Wd, ⟨n, w0⟩, step⟩, out⟩ := h
    refine ⟨fun n σ' H' => ∃ δ' M' U', Go X.K M U H M' U' H' ∧ RS X.K M' U' δ' σ' ∧ Wd n δ' M', ⟨n, wipeD δ clr, M, U, r.here, r.rs.wipe clr, w0⟩, ?_⟩
    rintro n σ' H' ⟨δ', M', U', g1, rs, w⟩
    refine ⟨δ', M', U', _, ⟨g1.kp.vw, g1.rm, rs⟩, xo.mono g1, step n δ' M' w, fun q M2 U2 H2 g2 hR => ?_⟩
    have g12 := g1.trans g2
    have rs2 := rs.mono g2.ex g1.rm
    cases q with
    | true =>
      dsimp only
      rw [if_pos rfl]
      refine ⟨fun σ3 H3 => ∃ m', m' < n ∧ ∃ δ' M' U', Go X.K M U H M' U' H3 ∧ RS X.K M' U' δ' σ3 ∧ Wd m' δ' M', fun _ _ z => z, δ', M2, U2, _, ⟨g2.kp.vw, g2.rm, rs2⟩, xo.mono g12, hR, ⟨?_, out.rt.mono g12.ex g12.kp, out.nx.mono g12, ?_⟩⟩
      · rintro δ3 M3 σ3 U3 H3 g3 rs3 ⟨n', hn, w'⟩
        exact ⟨n', hn, wipeD δ3 clr, M3, U3, g12.trans g3, rs3.wipe clr, w'⟩
      · rintro δ3 M3 σ3 U3 H3 g3 rs3 ⟨n', hn, w'⟩
        exact ⟨n', hn, wipeD δ3 clr, M3, U3, g12.trans g3, rs3.wipe clr, w'⟩
    | false =>
      dsimp only
      rw [if_neg Bool.false_ne_true]
      exact out.nx δ' M2 σ' U2 H2 g12 rs2 hR
theorem s_for {ρ : Rho} {S clr : List Nat} {wi : St → Mp → (List D → (Mp → Prop) → Mp → Prop) → Prop} {wg : D → St → Mp → (St → Mp → Prop) → Prop} {wb : En → St → Mp → Prop} {tg iter : Expr} {body : List Stmt} (g : GS X G C Γ k W) (hs : noSet iter = true)
    (hi : PI X tg iter (LI ρ X xk W wi)) (hg : PG X tg (LG ρ X xk W S wg)) (hb : PSs X body (LS X xk W wb)) :
    PS X (.For tg iter body [] pos) (LS X xk W fun E δ M => wi δ M fun ds still M1 => forL (fun d k δ M => wg d δ M fun δ' M' => wb { nx := k, ct := k, bk := fun δ'' M'' => E.nx δ'' M'', rt := E.rt } δ' M') clr still E.nx ds (wipeD δ clr) M1) :=
  ps_imp (ps_for g.own g.calm hi hg hb (set_fold hs)) fun D σ H h => by
    obtain ⟨δ, M, U, E, r, xo, h, out⟩ := h
    refine ⟨δ, M, U, _, r, xo, h, fun ds still M1 U1 H1 J g1 hC hz jok => ?_⟩
    generalize hcL : forL (fun d k δ M => wg d δ M fun δ' M' => wb { nx := k, ct := k, bk := fun δ'' M'' => E.nx δ'' M'', rt := E.rt } δ' M') clr still E.nx = cL at hC
    refine ⟨fun i n σ' H' => n = ds.length - i ∧ i ≤ ds.length ∧ ∃ δ' M' U', Go X.K M1 U1 H1 M' U' H' ∧ RS X.K M' U' δ' σ' ∧ cL (ds.drop i) δ' M', ⟨ds.length, by simp, Nat.zero_le _, wipeD δ clr, M1, U1, .refl g1.kp.vw g1.rm, ((r.mono g1).rs).wipe clr, by simpa using hC⟩, ?_⟩
    rintro i n σ' H' ⟨rfl, hi, δ', M', U', g2, rs, hC⟩
    have g12 := g1.trans g2
    cases hd : ds.drop i with
    | nil =>
      rw [hd, ← hcL] at hC
      have hi' : i = ds.length := by
        have := List.drop_eq_nil_iff.mp hd
        omega
      obtain ⟨st, hk⟩ := hC
      exact .inl ⟨(jok M' U' H' g2.ex g2.kp.vw g2.rm st i).1 hi'.symm, out.nx δ' M' σ' U' H' g12 rs hk⟩
    | cons d rest =>
      rw [hd, ← hcL] at hC
      obtain ⟨st, hC⟩ := hC
      have hlt : i < ds.length := by
        have : (ds.drop i).length = ds.length - i := List.length_drop
        rw [hd] at this
        simp at this
        omega
      have hdi : ds[i]? = some d := by
        have := congrArg (fun l : List Pw.D => l[0]?) hd
        simpa using this
      have hrest : ds.drop (i + 1) = rest := by
        have := congrArg List.tail hd
        simpa [List.tail_drop] using this
      obtain ⟨go, yl⟩ := (jok M' U' H' g2.ex g2.kp.vw g2.rm st i).2 d hdi
      refine .inr ⟨go, fun σ3 H3 => ∃ δ3 M3 U3, Go X.K M1 U1 H1 M3 U3 H3 ∧ RS X.K M3 U3 δ3 σ3 ∧ cL rest δ3 M3, ?_, ?_⟩
      · rintro σ3 H3 ⟨δ3, M3, U3, q1, q2, q3⟩
        exact ⟨ds.length - (i + 1), by omega, rfl, hlt, δ3, M3, U3, q1, q2, by rw [hrest]; exact q3⟩
      · intro x H3 hy
        obtain ⟨U3, g3, rx⟩ := yl x H3 hy
        have g13 := g12.trans g3
        refine ⟨δ', M', U3, _, d, ⟨g3.kp.vw, g3.rm, rs.mono g3.ex g2.rm⟩, xo.mono g13, rx, hC, fun δ4 M4 σ4 U4 H4 g4 rs4 _ hR => ?_⟩
        have g14 := g13.trans g4
        have nx : OutG X.K M4 U4 H4 (fun δ' M' => forL (fun d k δ M => wg d δ M fun δ' M' => wb { nx := k, ct := k, bk := fun δ'' M'' => E.nx δ'' M'', rt := E.rt } δ' M') clr still E.nx rest (wipeD δ' clr) M') (fun σ3 H3 => ∃ δ3 M3 U3, Go X.K M1 U1 H1 M3 U3 H3 ∧ RS X.K M3 U3 δ3 σ3 ∧ cL rest δ3 M3) := by
          intro δ5 M5 σ5 U5 H5 g5 rs5 h5
          exact ⟨wipeD δ5 clr, M5, U5, g2.trans (g3.trans (g4.trans g5)), rs5.wipe clr, by rw [← hcL]; exact h5⟩
        exact ⟨δ4, M4, U4, _, ⟨g4.kp.vw, g4.rm, rs4⟩, xo.mono g14, hR, ⟨nx, out.rt.mono g14.ex g14.kp, out.nx.mono g14, nx⟩⟩
end
end Pw
set_option Elab.async false
set_option linter.all false
set_option maxRecDepth 100000
set_option maxHeartbeats 2000000
namespace Pw
open PySem PySem.Spec PyProof.Rows L2

/-! ### a list or a tuple, drawn from -/
def SqX (b : Bool) (K : PySem.W.Frag) (H : Hp) (a : Addr) (xs : List V) : Prop := if b then SqL K H a xs else SqT K H a xs
def itSt (b : Bool) (h : Heap) (it a : Addr) (i : Nat) : Prop := if b then h.IsListIter it a i else h.IsTupleIter it a i
theorem itSt.at {b : Bool} {h h' : Heap} {it a : Addr} {i : Nat} (x : itSt b h it a i) (k : ∀ o, h.get? it = some o → h'.get? it = some o) : itSt b h' it a i := by
  cases b
  · exact Heap.IsTupleIter.at (show h.IsTupleIter it a i from x) k
  · exact Heap.IsListIter.at (show h.IsListIter it a i from x) k
theorem itSt.obj {b : Bool} {h : Heap} {it a : Addr} {i : Nat} (x : itSt b h it a i) : ∃ o, h.get? it = some o ∧ o.cls = .type (if b then "list_iterator" else "tuple_iterator") ∧ ∀ v, o.data ≠ .cell v := by
  cases b
  · obtain ⟨o, e, c, d⟩ := (show h.IsTupleIter it a i from x)
    exact ⟨o, e, c, fun v z => by rw [d] at z; cases z⟩
  · obtain ⟨o, e, c, d⟩ := (show h.IsListIter it a i from x)
    exact ⟨o, e, c, fun v z => by rw [d] at z; cases z⟩
section
variable {X : Cx} {pins : List (Addr × Obj)} {σ : L2.St} {s : Shared} {H : Hp}
theorem src_at {b : Bool} {a : Addr} {xs : List V} (I : Inv X pins σ H s) (h : SqX b X.K H a xs) : ∃ us : List Value, Vals xs us ∧ xs.length ≤ sizeLine ∧ (if b then s.heap.IsList a us.toArray else s.heap.IsTuple a us.toArray) := by
  cases b
  · obtain ⟨us, r, p, z⟩ := I.tuple (show SqT X.K H a xs from h)
    exact ⟨us, r, z, show s.heap.IsTuple a us.toArray from p⟩
  · obtain ⟨us, r, p, z⟩ := I.list (show SqL X.K H a xs from h)
    exact ⟨us, r, z, p.isList⟩
theorem sqX_inj {b : Bool} {a : Addr} {xs ys : List V} (I : Inv X pins σ H s) (h : SqX b X.K H a xs) (q : SqX b X.K H a ys) : xs = ys := by
  cases b
  · exact I.tuple_inj h q
  · exact I.list_inj h q
theorem src_cls {b : Bool} {a : Addr} {us : List Value} {h : Heap} (q : if b then h.IsList a us.toArray else h.IsTuple a us.toArray) : ∃ o, h.get? a = some o ∧ o.cls = .type (if b then "list" else "tuple") := by
  cases b
  · obtain ⟨o, e, c, _⟩ := (show h.IsTuple a us.toArray from q)
    exact ⟨o, e, c⟩
  · obtain ⟨o, e, c, _⟩ := (show h.IsList a us.toArray from q)
    exact ⟨o, e, c⟩
theorem cls_ne {h : Heap} {a c : Addr} {o u : Obj} (e : h.get? a = some o) (e' : h.get? c = some u) (n : o.cls ≠ u.cls) : a ≠ c := fun z => by
  subst z
  rw [e] at e'
  cases e'
  exact n rfl
/-- what draws from it, as things stand -/
theorem src_draw {b : Bool} {it a : Addr} {i : Nat} {xs : List V} (hc : X.calm = true) (I : Inv X pins σ H s) (h : SqX b X.K H a xs) (st : itSt b s.heap it a i) :
    ∃ (us : List Value) (St : Nat → Heap → Prop), Vals xs us ∧ Draws X.prog X.w X.A.in1 it [it, a] us.length (fun i v => us[i]? = some v) St ∧ St i s.heap ∧ (∀ j h', St j h' → itSt b h' it a j) ∧ ∃ o, s.heap.get? a = some o ∧ o.cls = .type (if b then "list" else "tuple") := by
  obtain ⟨us, r, z, q⟩ := src_at I h
  obtain ⟨oa, ea, ca⟩ := src_cls q
  obtain ⟨oi, ei, ci, _⟩ := st.obj
  have hh : X.A.in1.handled = none := I.ok.hd hc
  have ne : a ≠ it := cls_ne ea ei (by rw [ca, ci]; cases b <;> simp)
  have P : (fun (i : Nat) (v : Value) => us.toArray[i]? = some v) = fun i v => us[i]? = some v := by
    funext i v
    simp
  cases b
  · have D := Draws.tuple (prog := X.prog) (w := X.w) hh it a ne us.toArray
    rw [P, List.size_toArray] at D
    exact ⟨us, _, r, D, ⟨st, q⟩, fun j h' z => z.1, oa, ea, ca⟩
  · have D := Draws.list (prog := X.prog) (w := X.w) hh it a ne us.toArray
    rw [P, List.size_toArray] at D
    exact ⟨us, _, r, D, ⟨st, q⟩, fun j h' z => z.1, oa, ea, ca⟩
end
/-! ### enumerate -/
def IteX (b : Bool) (K : PySem.W.Frag) (a : Addr) : It :=
  ⟨fun i H => ∃ (xs : List V) (x : V), SqX b K H a xs ∧ xs[i]? = some x, fun i H v H' => ∃ T x, v = .ref T ∧ H T = none ∧ H' = upd H T (.tup [.int (i : Nat), x]) ∧ ∀ xs, SqX b K H a xs → xs[i]? = some x, fun i H => ∃ xs : List V, SqX b K H a xs ∧ xs.length = i⟩
theorem turn_enumX {P : Program} {w : World} {K : PySem.W.Frag} {elts : List Expr} {kk : Nat} {tpos : Pos} (b : Bool) (a e it : Addr) :
    Turn P w K (.Tuple elts kk tpos) (IteX b K a) [e, it] e (fun i h => (∃ old, IsEnum h e it ((i : Nat) : Int) old) ∧ itSt b h it a i ∧ e ≠ it) where
  mem := by simp
  obj := fun i h st c hc => by
    obtain ⟨⟨old, he⟩, hi, _⟩ := st
    obtain ⟨o, ho, _, hd⟩ := hi.obj
    have e' : c = e ∨ c = it := by simpa using hc
    rcases e' with z | z
    · rw [z]; exact ⟨_, he, fun v q => nomatch q⟩
    · rw [z]; exact ⟨o, ho, hd⟩
  keep := fun i h h' st k => let ⟨⟨old, he⟩, hi, hne⟩ := st; ⟨⟨old, k e (by simp) _ he⟩, hi.at fun o q => k it (by simp) o q, hne⟩
  item := by
    intro X hP hw hK hc i pins s σ H E I hf st hg
    subst hP hw hK
    obtain ⟨⟨old, he⟩, hit, hne⟩ := st
    obtain ⟨xs, x, hq, hx⟩ := hg
    obtain ⟨us, St, r, D, st, hst, oa, ea, ca⟩ := src_draw hc I hq hit
    obtain ⟨u, hu, ru⟩ := r.get hx
    have hel : e < s.heap.objs.size := Heap.lt_size he
    obtain ⟨oi, ei, _, _⟩ := hit.obj
    have hil : it < s.heap.objs.size := Heap.lt_size ei
    have hea : e ≠ a := cls_ne he ea (by rw [ca]; cases b <;> simp)
    refine wpAny_pyNext_enum_itemD D he st (List.getElem?_eq_some_iff.mp hu).1 hne (by simp [hne, hea]) fun v h' tk hv ho hSt hT hsz hk => ?_
    rw [hu] at hv
    cases hv
    refine ⟨_, rfl, wpAny_letOwnedTupleGo_enum (s := { s with heap := h', toks := tk + 1 }) ho fun h'' he' sb => ?_⟩
    have hT2 : h''.get? s.heap.objs.size = some { cls := .type "tuple", data := .seq #[.int i tk, u] } := (sb.2 _ (Nat.ne_of_gt hel)).trans hT
    have new : ObjOk X.prog X.w (upd H s.heap.objs.size (.tup [.int (i : Nat), x])) h'' s.heap.objs.size (.tup [.int (i : Nat), x]) :=
      ⟨by show 2 ≤ sizeLine; decide, [.int i tk, u], .cons ⟨_, rfl⟩ (.cons ru .nil), ⟨_, hT2, rfl, _, rfl⟩⟩
    have I1 : Inv X pins σ (upd H s.heap.objs.size (.tup [.int (i : Nat), x])) { s with heap := h'', toks := tk + 1 } :=
      I.turnedNew (ch := [e, it]) (fun c ob hb q => (sb.2 c (fun z => hb (by simp [z]))).trans (hk c ob (fun z => hb (by simp [z])) (fun z => hb (by simp [z])) q)) hf (Nat.le_refl _) new
    refine ⟨.ref s.heap.objs.size, _, I1, rfl, ⟨_, x, rfl, I.hok.fresh (Nat.le_refl _), rfl, fun ys hy => by rw [sqX_inj I hy hq]; exact hx⟩, ⟨⟨u, ?_⟩, (hst _ _ hSt).at fun o q => (sb.2 it (Ne.symm hne)).trans q, hne⟩, fun c hb => ?_⟩
    · have e1 : ((i + 1 : Nat) : Int) = (i : Int) + 1 := by omega
      rw [e1]; exact he'
    · have hb' : c < s.heap.objs.size := by
        have e' : c = e ∨ c = it := by simpa using hb
        rcases e' with z | z
        · rw [z]; exact hel
        · rw [z]; exact hil
      rw [upd_ne (Nat.ne_of_lt hb')]
      exact (hf c hb).1
  done := by
    intro X hP hw hK hc i pins s σ H E I hf st hg
    subst hP hw hK
    obtain ⟨⟨old, he⟩, hit, hne⟩ := st
    obtain ⟨xs, hq, hx⟩ := hg
    obtain ⟨us, St, r, D, st, hst, _⟩ := src_draw hc I hq hit
    obtain ⟨f0, f1, f2, f3, f4, f5⟩ := hf it (by simp)
    have hl := r.length
    have e1 : i = us.length := by omega
    subst e1
    exact wpAny_pyNext_enum_endD D he st fun h' eb => ⟨rfl, I.turned (t' := s.toks) (fun c o hb q => eb c o hb q) f0 f1 f3 f4 f5⟩
  self := fun A i s Q E st h => let ⟨⟨_, he⟩, _⟩ := st; wpAny_pyIter_enum he h
theorem meets_en1 {v : Value} {o : Obj} {H : Heap → Prop} (B : Begins v o H) :
    Meets (Builtin.«enumerate.__new__» ⟨[.type "enumerate", v], []⟩) (fun _ R s => H s.heap ∧
      R (.ok (.ret (.ref (s.heap.push o).objs.size))) { s with heap := (s.heap.push o).push { cls := .type "enumerate", data := .fields #[.none, .bool false, .ref s.heap.objs.size, rawInt 0, .none, .none] } }) :=
  .of_wp fun prog w A R s h => by
    obtain ⟨hp, g, d, tk, os⟩ := s
    obtain ⟨h1, h⟩ := h
    have hsub := sub_enumerate
    have q1 : ∀ {A' : Around} {E : Value → Shared → Prop} {Q : Value → Shared → Prop}, Q (.ref hp.objs.size) ⟨hp.push o, g, d, tk, os⟩ → wpAny (model prog w) A' (pyIter v) Q E ⟨hp, g, d, tk, os⟩ :=
      fun q => B.iter prog w _ _ ⟨hp, g, d, tk, os⟩ _ h1 q
    wp_walk using q1
    refine wpAny_stack_any fun st => wpAny_pure ?_
    split
    · rename_i c _ _ _ _ _
      cases (c == Value.type "enumerate")
      · wp_walk using q1
        exact ⟨_, rfl, h⟩
      · wp_walk using q1
        exact ⟨_, rfl, h⟩
    · wp_walk using q1
      exact ⟨_, rfl, h⟩
section
variable {prog : Program} {w : World} {A : Around} {E : Value → Shared → Prop} {s : Shared}
theorem call_en1 {v : Value} {o : Obj} {H : Heap → Prop} {Q : Value → Shared → Prop} (B : Begins v o H) (h1 : H s.heap)
    (h : ∀ h', IsEnum h' (s.heap.objs.size + 1) s.heap.objs.size 0 .none → h'.get? s.heap.objs.size = some o → (∀ b o, s.heap.get? b = some o → h'.get? b = some o) → Q (.ref (s.heap.objs.size + 1)) { s with heap := h' }) :
    wpAny (model prog w) A (call (.type "enumerate") [v]) Q E s := by
  refine callType_new F.called_enumerate (by decide) (F.typeCall_enumerate_1 _) (F.newCall_enumerate_1 _) (fun obj => F.args_object_init_2 obj _) F.entry_enumerate_new (meets_en1 B) ⟨h1, ?_⟩
  have hz : (s.heap.push o).objs.size = s.heap.objs.size + 1 := Heap.size_push ..
  show _ ∧ _
  rw [hz]
  have he : IsEnum ((s.heap.push o).push { cls := .type "enumerate", data := .fields #[.none, .bool false, .ref s.heap.objs.size, rawInt 0, .none, .none] }) (s.heap.objs.size + 1) s.heap.objs.size 0 .none := by
    have := Heap.get?_push_size (s.heap.push o) (o := { cls := .type "enumerate", data := .fields #[.none, .bool false, .ref s.heap.objs.size, rawInt 0, .none, .none] }) rfl
    rw [hz] at this
    exact this
  exact ⟨⟨_, he, rfl⟩, h _ he (Heap.get?_push_of_some _ (Heap.get?_push_size _ B.free)) fun b o x => Heap.get?_push_of_some _ (Heap.get?_push_of_some _ x)⟩
end
section
variable {X : Cx}
def iEnX (K : PySem.W.Frag) (te : TE) : TI := fun σ H R => te σ H fun v H1 => ∃ (b : Bool) (a : Addr) (xs : List V), v = .ref a ∧ SqX b K H1 a xs ∧ R (IteX b K a) H1
theorem pi_enX {e : Expr} {te : TE} {p pos tpos : Pos} {elts : List Expr} {kk : Nat} (hg : Gl X "enumerate") (hm : X.mg "enumerate" = none) (he : PE X e te) (hs : starEach [e] X.env = (false, eval e X.env) :: starEach [] X.env) :
    PI X (.Tuple elts kk tpos) (.Call (.Name "enumerate" p) [e] [] pos) (iEnX X.K te) := by
  refine ⟨fun pins s σ H R I h => ?_⟩
  refine Call_ (ld_blt I hg hm boot_enumerate (PyProof.Rows.callWith_type1 (args_cons (thn (he.run pins s σ H _ I h) fun u s1 ⟨v, H1, I1, r1, q1⟩ => args_nil ?_) hs) hs rfl))
  obtain ⟨b, a, xs, ev, hq, q⟩ := q1
  subst ev
  obtain rfl : u = Value.ref a := r1
  obtain ⟨us, r, z, src⟩ := src_at I1 hq
  have key : ∀ {o : Obj} {Hb : Heap → Prop}, Begins (.ref a) o Hb → Hb s1.heap → (∀ h' : Heap, h'.get? s1.heap.objs.size = some o → itSt b h' s1.heap.objs.size a 0) →
      wpAny (model X.prog X.w) X.A (call (.type "enumerate") [.ref a]) (fun v s₁ => wpAny (model X.prog X.w) X.A (pyIter v) (PIE X pins σ (.Tuple elts kk tpos) R) X.xe s₁) X.xe s1 := by
    intro o Hb B h1 hi
    refine call_en1 B h1 fun h' he' ho hk => wpAny_pyIter_enum he' ?_
    have I2 : Inv X pins σ H1 { s1 with heap := h' } := I1.kept (t' := s1.toks) hk
    refine ⟨s1.heap.objs.size + 1, [s1.heap.objs.size + 1, s1.heap.objs.size], _, _, H1, rfl, I2, turn_enumX b a (s1.heap.objs.size + 1) s1.heap.objs.size, ⟨⟨.none, he'⟩, hi h' ho, Nat.succ_ne_self _⟩, fun c hc => ?_, q⟩
    have e' : c = s1.heap.objs.size + 1 ∨ c = s1.heap.objs.size := by simpa using hc
    have hle : s1.heap.objs.size ≤ c := by
      rcases e' with z | z
      · rw [z]; exact Nat.le_add_right _ _
      · rw [z]; exact Nat.le_refl _
    exact I1.fpOk hle (I1.hok.fresh hle)
  cases b
  · exact key (begins_tuple a us.toArray) src fun h' ho => show h'.IsTupleIter _ _ _ from ⟨_, ho, rfl, rfl⟩
  · exact key (begins_list a us.toArray) src fun h' ho => show h'.IsListIter _ _ _ from ⟨_, ho, rfl, rfl⟩
end
/-- a list or a tuple that stands: its reading -/
theorem sqX_up {b : Bool} {K : PySem.W.Frag} {U H : Hp} {a : Addr} {vs : List V} (vw : Vw U H) (h : SqX b K U a vs) : SqX b K H a vs := by
  cases b
  · exact vw.sqW h
  · rcases (show SqL K U a vs from h) with (h | ⟨o, h⟩) | h
    · exact .inl (.inl (vw _ _ h))
    · exact .inl (.inr ⟨o, vw _ _ h⟩)
    · exact .inr h
theorem jok_e {K : PySem.W.Frag} {M1 : Mp} {U1 : Hp} {ds : List D} {still : Mp → Prop} {b : Bool} {a : Addr} (hs : ∀ M U, Ext M1 U1 M U → RM K M U → still M → ∃ vs, SqX b K U a vs ∧ RVs K M U ds vs) : JOk RW K (IteX b K a) M1 U1 (ds.zipIdx.map fun p => .tup [.int (p.2 : Nat), p.1]) still := by
  intro M U H x vw rm st i
  obtain ⟨vs, hq, q⟩ := hs M U x rm st
  have hq' := sqX_up vw hq
  refine ⟨fun hl => ⟨vs, hq', by rw [q.length]; simpa using hl⟩, fun d hd => ?_⟩
  rw [List.getElem?_map] at hd
  obtain ⟨p, hp, rfl⟩ := Option.map_eq_some_iff.mp hd
  rw [List.getElem?_zipIdx] at hp
  obtain ⟨y, hy, rfl⟩ := Option.map_eq_some_iff.mp hp
  obtain ⟨v, hv, rv⟩ := q.get hy
  refine ⟨⟨vs, v, hq', hv⟩, fun z H' hz => ?_⟩
  obtain ⟨T, w, rfl, hT, rfl, hw⟩ := hz
  have e := hw vs hq'
  rw [hv] at e
  cases e
  refine ⟨_, ⟨Ext.new (vw.none hT), Kp.new vw hT, rm.new (vw.none hT)⟩, ⟨T, _, rfl, .inl (.inl upd_same), ?_⟩⟩
  simp only [RVs]
  refine ⟨_, _, rfl, by simp [RV], _, _, rfl, RV.mono (Ext.new (vw.none hT)) rm _ _ rv, rfl⟩
section
variable {X : Cx} {xk : XD} {W : WX} {G : Gc} {C : Ct} {Γ : String → SpD} {k : Nat} {a : Expr} {wa : St → Mp → DK → Prop} {pos : Pos}
theorem w_ienum (g : GX X G C Γ k W) {tg f : Expr} (hf : nameB C G "enumerate" f = true) (ht : isTupE tg = true) (hn : noStar a = true) (ha : PE X a (LE X xk W wa)) : PI X tg (.Call f [a] [] pos) (LI RW X xk W fun δ M Q => wa δ M fun x M1 => match x with
    | .tup ds => Q (ds.zipIdx.map fun p => .tup [.int (p.2 : Nat), p.1]) (fun _ => True) M1
    | .lst ds => Q (ds.zipIdx.map fun p => .tup [.int (p.2 : Nat), p.1]) (fun _ => True) M1
    | .ref a => (match M1 a with
      | some (.lst ds) => Q (ds.zipIdx.map fun p => .tup [.int (p.2 : Nat), p.1]) (fun M => M a = some (.lst ds)) M1
      | _ => False)
    | _ => False) := by
  obtain ⟨p, rfl, q1, q2, q3, q4⟩ := nameB_of g hf
  cases tg <;> first
    | cases ht
    | skip
  refine pi_imp (pi_bd (pi_enX q1 q2 ha (star_cons hn))) fun σ H Q h => ?_
  obtain ⟨δ, M, U, R, r, xo, h, out⟩ := h
  refine ⟨δ, M, U, _, r, xo, h, fun d M1 v U1 H1 e k rm rv hR => ?_⟩
  split at hR
  · rename_i ds
    simp only [RV] at rv
    obtain ⟨p, vs, rfl, hq, q⟩ := rv
    refine ⟨false, p, vs, rfl, k.vw.sqT hq, fun bd => out _ _ M1 U1 H1 _ ⟨e, k, rm⟩ hR (by simp only [List.length_map, List.length_zipIdx]; rw [← q.length, ← lineLIM]; exact bd p vs (.inr (k.vw.sqT hq))) ?_⟩
    exact jok_e fun M' U' x' rm' _ => ⟨vs, (x'.sqF rm hq).sq, RVs.mono x' rm _ _ q⟩
  · rename_i ds
    simp only [RV] at rv
    obtain ⟨p, vs, rfl, hq, hn, q⟩ := rv
    refine ⟨true, p, vs, rfl, .of (k.vw _ _ hq), fun bd => out _ _ M1 U1 H1 _ ⟨e, k, rm⟩ hR (by simp only [List.length_map, List.length_zipIdx]; rw [← q.length, ← lineLIM]; exact bd p vs (.inl (.of (k.vw _ _ hq)))) ?_⟩
    exact jok_e fun M' U' x' rm' _ => ⟨vs, .of (x' p _ hq hn).1, RVs.mono x' rm _ _ q⟩
  · rename_i p
    simp only [RV] at rv
    subst rv
    split at hR
    · rename_i ds em
      obtain ⟨vs, hq, q⟩ := rm p _ em
      refine ⟨true, p, vs, rfl, .of (k.vw _ _ hq), fun bd => out _ _ M1 U1 H1 _ ⟨e, k, rm⟩ hR (by simp only [List.length_map, List.length_zipIdx]; rw [← q.length, ← lineLIM]; exact bd p vs (.inl (.of (k.vw _ _ hq)))) ?_⟩
      refine jok_e fun M' U' x' rm' st => ?_
      obtain ⟨vs', hq', q'⟩ := rm' p _ st
      exact ⟨vs', .of hq', q'⟩
    · exact hR.elim
  · exact hR.elim
end
end Pw
set_option Elab.async false
set_option linter.all false
set_option maxRecDepth 100000
/-! zip of two: lists and tuples, of any kind -/
namespace Pw
open PySem PySem.Spec PyProof.Rows L2
def seqX (b : Bool) (h : Heap) (a : Addr) (its : Array Value) : Prop := if b then h.IsList a its else h.IsTuple a its
def itO (b : Bool) (a : Addr) : Obj := { cls := .type (if b then "list_iterator" else "tuple_iterator"), data := .fields #[.ref a, .int 0 0] }
theorem itO_st {b : Bool} {h : Heap} {it a : Addr} (e : h.get? it = some (itO b a)) : itSt b h it a 0 := by
  cases b
  · exact ⟨_, e, rfl, rfl⟩
  · exact ⟨_, e, rfl, rfl⟩
theorem begins_x (b : Bool) (a : Addr) (its : Array Value) : Begins (.ref a) (itO b a) fun h => seqX b h a its := by
  cases b
  · exact begins_tuple a its
  · exact begins_list a its
theorem draws_x {prog : Program} {w : World} {A : Around} (b : Bool) (hh : A.handled = none) (it a : Addr) (hne : a ≠ it) (its : Array Value) :
    Draws prog w A it [it, a] its.size (fun i v => its[i]? = some v) (fun i h => itSt b h it a i ∧ seqX b h a its) := by
  cases b
  · exact Draws.tuple hh it a hne its
  · exact Draws.list hh it a hne its
theorem seqX_of {X : Cx} {pins : List (Addr × Obj)} {σ : L2.St} {H : Hp} {s : Shared} {b : Bool} {a : Addr} {xs : List V} (I : Inv X pins σ H s) (h : SqX b X.K H a xs) : ∃ its : List Value, Vals xs its ∧ seqX b s.heap a its.toArray := by
  cases b
  · obtain ⟨its, rv, p, _⟩ := I.tuple h
    exact ⟨its, rv, p⟩
  · obtain ⟨its, rv, p, _⟩ := I.list h
    exact ⟨its, rv, p.isList⟩
theorem seqX_inj {X : Cx} {pins : List (Addr × Obj)} {σ : L2.St} {H : Hp} {s : Shared} {b : Bool} {a : Addr} {xs ys : List V} (I : Inv X pins σ H s) (h : SqX b X.K H a xs) (h' : SqX b X.K H a ys) : xs = ys := by
  cases b
  · exact I.tuple_inj h h'
  · exact I.list_inj h h'
theorem seqX_lt {b : Bool} {h : Heap} {a : Addr} {its : Array Value} (p : seqX b h a its) : a < h.objs.size := by
  cases b
  · obtain ⟨o, e, _⟩ := (show h.IsTuple a its from p); exact Heap.lt_size e
  · obtain ⟨o, e, _⟩ := (show h.IsList a its from p); exact Heap.lt_size e
theorem itSt_obj {b : Bool} {h : Heap} {it a : Addr} {i : Nat} (p : itSt b h it a i) : ∃ o, h.get? it = some o ∧ ∀ v, o.data ≠ .cell v := by
  cases b
  · obtain ⟨o, e, _, d⟩ := (show h.IsTupleIter it a i from p); exact ⟨o, e, fun v q => by rw [d] at q; cases q⟩
  · obtain ⟨o, e, _, d⟩ := (show h.IsListIter it a i from p); exact ⟨o, e, fun v q => by rw [d] at q; cases q⟩
/-- what stands at a and b at each turn, the items in new pairs -/
def ItzM (b1 b2 : Bool) (K : PySem.W.Frag) (a b : Addr) : It :=
  ⟨fun i H => ∃ (xs ys : List V) (x y : V), SqX b1 K H a xs ∧ SqX b2 K H b ys ∧ xs[i]? = some x ∧ ys[i]? = some y,
    fun i H v H' => ∃ T x y, v = .ref T ∧ H T = none ∧ H' = upd H T (.tup [x, y]) ∧ (∀ xs, SqX b1 K H a xs → xs[i]? = some x) ∧ ∀ ys, SqX b2 K H b ys → ys[i]? = some y,
    fun i H => ∃ xs ys : List V, SqX b1 K H a xs ∧ SqX b2 K H b ys ∧ i ≤ xs.length ∧ i ≤ ys.length ∧ (i = xs.length ∨ i = ys.length)⟩
theorem sep_of {z TI TO i1 i2 a b : Addr} (D : ZipApart z TI TO i1 i2 a b) : ZipSep2 z TI TO i1 i2 [i1, a] [i2, b] where
  TIz := D.TIz
  TOz := D.TOz
  TITO := D.TITO
  TIi1 := D.TIi1
  mem1 := by simp
  zf1 := by simp; exact ⟨fun e => D.i1z e.symm, fun e => D.l1z e.symm⟩
  Tf1 := by simp; exact ⟨D.TOi1, fun e => D.l1TO e.symm⟩
  TIi2 := D.TIi2
  mem2 := by simp
  zf2 := by simp; exact ⟨fun e => D.i2z e.symm, fun e => D.l2z e.symm⟩
  Tf2 := by simp; exact ⟨D.TOi2, fun e => D.l2TO e.symm⟩
  sep1_2 := by simp; exact ⟨D.i12, fun e => D.l2i1 e.symm⟩
  sep2_1 := by simp; exact ⟨fun e => D.i12 e.symm, fun e => D.l1i2 e.symm⟩
theorem turn_zipM {P : Program} {w : World} {K : PySem.W.Frag} {elts : List Expr} {kk : Nat} {tpos : Pos} {b1 b2 : Bool} {a b z TI TO i1 i2 : Addr} (D : ZipApart z TI TO i1 i2 a b) :
    Turn P w K (.Tuple elts kk tpos) (ItzM b1 b2 K a b) [z, TI, TO, i1, i2] z (fun i h => IsZip h z TI TO .none ∧ IsPair h TI (.ref i1) (.ref i2) ∧ (∃ x y, IsPair h TO x y) ∧ itSt b1 h i1 a i ∧ itSt b2 h i2 b i) where
  mem := by simp
  obj := fun i h st c hc => by
    obtain ⟨hz, hTI, ⟨x, y, hTO⟩, h1, h2⟩ := st
    simp only [List.mem_cons, List.not_mem_nil, or_false] at hc
    rcases hc with rfl | rfl | rfl | rfl | rfl
    · exact ⟨_, hz, fun v q => nomatch q⟩
    · exact ⟨_, hTI, fun v q => nomatch q⟩
    · exact ⟨_, hTO, fun v q => nomatch q⟩
    · exact itSt_obj h1
    · exact itSt_obj h2
  keep := fun i h h' st k => by
    obtain ⟨hz, hTI, ⟨x, y, hTO⟩, h1, h2⟩ := st
    exact ⟨k z (by simp) _ hz, k TI (by simp) _ hTI, ⟨x, y, k TO (by simp) _ hTO⟩, h1.at fun o q => k i1 (by simp) o q, h2.at fun o q => k i2 (by simp) o q⟩
  item := by
    intro X hP hw hK hc i pins s σ H E I hf st hg
    subst hP hw hK
    obtain ⟨hz, hTI, ⟨x0, y0, hTO⟩, h1, h2⟩ := st
    obtain ⟨xs, ys, x, y, hqx, hqy, hx, hy⟩ := hg
    obtain ⟨its, rv, p⟩ := seqX_of I hqx
    obtain ⟨its2, rv2, p2⟩ := seqX_of I hqy
    obtain ⟨u, hu, ru⟩ := rv.get hx
    obtain ⟨u2, hu2, ru2⟩ := rv2.get hy
    have hzl : z < s.heap.objs.size := Heap.lt_size hz
    have n1 : i < its.toArray.size := by simpa using (List.getElem?_eq_some_iff.mp hu).1
    have n2 : i < its2.toArray.size := by simpa using (List.getElem?_eq_some_iff.mp hu2).1
    have hh : X.A.in1.handled = none := I.ok.hd hc
    refine wpAny_pyNext_zipD2_item (sep_of D) (draws_x b1 hh i1 a D.l1i1 its.toArray) (draws_x b2 hh i2 b D.l2i2 its2.toArray) hz hTI hTO ⟨h1, p⟩ ⟨h2, p2⟩ n1 n2 fun v1 v2 h' tk e1 e2 z' TO' s1 s2 hT hsz hk => ?_
    obtain rfl : u = v1 := by
      have : its[i]? = some v1 := by simpa using e1
      rw [hu] at this; exact Option.some.inj this
    obtain rfl : u2 = v2 := by
      have : its2[i]? = some v2 := by simpa using e2
      rw [hu2] at this; exact Option.some.inj this
    refine ⟨_, rfl, wpAny_letOwnedTupleGo_zip (s := { s with heap := h', toks := tk }) z' fun h'' z'' sb => ?_⟩
    have hT2 : h''.get? s.heap.objs.size = some { cls := .type "tuple", data := .seq #[u, u2] } := (sb.2 _ (Nat.ne_of_gt hzl)).trans hT
    have new : ObjOk X.prog X.w (upd H s.heap.objs.size (.tup [x, y])) h'' s.heap.objs.size (.tup [x, y]) :=
      ⟨by show 2 ≤ sizeLine; decide, [u, u2], .cons ru (.cons ru2 .nil), ⟨_, hT2, rfl, _, rfl⟩⟩
    have I1 : Inv X pins σ (upd H s.heap.objs.size (.tup [x, y])) { s with heap := h'', toks := tk } :=
      I.turnedNew (t' := tk) (ch := [z, TI, TO, i1, i2]) (fun c o hb q => (sb.2 c (fun q' => hb (by simp [q']))).trans (hk c o (fun q' => hb (by simp [q'])) (fun q' => hb (by simp [q'])) (fun q' => hb (by simp [q'])) (fun q' => hb (by simp [q'])) q)) hf (Nat.le_refl _) new
    refine ⟨.ref s.heap.objs.size, _, I1, rfl, ⟨_, x, y, rfl, I.hok.fresh (Nat.le_refl _), rfl, fun l hl => by rw [seqX_inj I hl hqx]; exact hx, fun l hl => by rw [seqX_inj I hl hqy]; exact hy⟩, ⟨z'', ?_, ⟨u, u2, ?_⟩, ?_, ?_⟩, fun c hcm => ?_⟩
    · exact (sb.2 _ D.TIz).trans (hk _ _ D.TIz D.TITO D.TIi1 D.TIi2 hTI)
    · exact (sb.2 _ D.TOz).trans TO'
    · exact s1.1.at fun o q => (sb.2 _ D.i1z).trans q
    · exact s2.1.at fun o q => (sb.2 _ D.i2z).trans q
    · have hlt : c < s.heap.objs.size := by
        simp only [List.mem_cons, List.not_mem_nil, or_false] at hcm
        rcases hcm with rfl | rfl | rfl | rfl | rfl
        · exact hzl
        · exact Heap.lt_size hTI
        · exact Heap.lt_size hTO
        · obtain ⟨_, e1, _⟩ := itSt_obj h1; exact Heap.lt_size e1
        · obtain ⟨_, e2, _⟩ := itSt_obj h2; exact Heap.lt_size e2
      rw [upd_ne (Nat.ne_of_lt hlt)]
      exact (hf c hcm).1
  done := by
    intro X hP hw hK hc i pins s σ H E I hf st hg
    subst hP hw hK
    obtain ⟨hz, hTI, ⟨x0, y0, hTO⟩, h1, h2⟩ := st
    obtain ⟨xs, ys, hqx, hqy, g1, g2, hend⟩ := hg
    obtain ⟨its, rv, p⟩ := seqX_of I hqx
    obtain ⟨its2, rv2, p2⟩ := seqX_of I hqy
    have l1 := rv.length
    have l2 := rv2.length
    have hh : X.A.in1.handled = none := I.ok.hd hc
    exact wpAny_pyNext_zipD2_end (sep_of D) (draws_x b1 hh i1 a D.l1i1 its.toArray) (draws_x b2 hh i2 b D.l2i2 its2.toArray) hz hTI hTO ⟨h1, p⟩ ⟨h2, p2⟩ (by simp; omega) (by simp; omega) (by simp; omega) fun h' tk hk => ⟨rfl, I.turnedL (t' := tk) (ch := [z, TI, TO, i1, i2]) (fun c o hb q =>
      hk c o (fun q' => hb (by simp [q'])) (fun q' => hb (by simp [q'])) (fun q' => hb (by simp [q'])) (fun q' => hb (by simp [q'])) q) hf⟩
  self := fun A i s Q E st h => wpAny_pyIter_zip st.1 h
def iZipM (K : PySem.W.Frag) (ta : TA) : TI := fun σ H R => ta σ H fun vs H1 => ∃ (a b : Addr) (xs ys : List V) (b1 b2 : Bool), vs = [.ref a, .ref b] ∧ SqX b1 K H1 a xs ∧ SqX b2 K H1 b ys ∧ (Bd K H1 → R (ItzM b1 b2 K a b) H1)
theorem pi_zipM {X : Cx} {e e2 : Expr} {ta : TA} {p pos tpos : Pos} {elts : List Expr} {kk : Nat} (hg : Gl X "zip") (hm : X.mg "zip" = none) (ha : PA X [e, e2] ta)
    (hs : starEach [e, e2] X.env = (false, eval e X.env) :: starEach [e2] X.env) (hpl : (backTo pos (starEach [e2] X.env)).any (·.1) = false) :
    PI X (.Tuple elts kk tpos) (.Call (.Name "zip" p) [e, e2] [] pos) (iZipM X.K ta) := by
  refine ⟨fun pins s σ H R I h => ?_⟩
  refine Call_ (ld_blt I hg hm PyProof.Rows.boot_zip (PyProof.Rows.callWith_type1 (thn (ha.run pos pins s σ H _ I h) fun us s1 ⟨vs, H1, I1, r1, q1⟩ => ?_) hs hpl))
  obtain ⟨a, b, xs, ys, b1, b2, ex, hqx, hqy, q⟩ := q1
  subst ex
  cases r1 with
  | cons r rr =>
    cases rr with
    | cons r' rr =>
      cases rr
      cases r
      cases r'
      have fresh5 : ∀ c, c ∈ [s1.heap.objs.size + 4, s1.heap.objs.size + 2, s1.heap.objs.size + 3, s1.heap.objs.size, s1.heap.objs.size + 1] → FpOk X pins H1 c := fun c hcm => by
        have hle : s1.heap.objs.size ≤ c := by
          simp only [List.mem_cons, List.not_mem_nil, or_false] at hcm
          omega
        exact I1.fpOk hle (I1.hok.fresh hle)
      obtain ⟨its, rv, p1⟩ := seqX_of I1 hqx
      obtain ⟨its2, rv2, p2⟩ := seqX_of I1 hqy
      refine zip_begins2 (begins_x b1 a its.toArray) (begins_x b2 b its2.toArray) p1 p2 fun h' hz hTI hTO g1 g2 hsz hk => wpAny_pyIter_zip hz ?_
      have I2 : Inv X pins σ H1 { s1 with heap := h' } := I1.kept (t' := s1.toks) hk
      exact ⟨s1.heap.objs.size + 4, [s1.heap.objs.size + 4, s1.heap.objs.size + 2, s1.heap.objs.size + 3, s1.heap.objs.size, s1.heap.objs.size + 1], _, _, H1, rfl, I2, turn_zipM (PySem.W.ktu_apart s1.heap.objs.size a b (seqX_lt p1) (seqX_lt p2)), ⟨hz, hTI, ⟨_, _, hTO⟩, itO_st g1, itO_st g2⟩, fresh5, q (bd_of I1)⟩
theorem RVs.get2 {K : PySem.W.Frag} {M : Mp} {U : Hp} {as bs : List Pw.D} {vs ws : List V} (h : RVs K M U as vs) (h' : RVs K M U bs ws) {i : Nat} {p : Pw.D × Pw.D} (e : (as.zip bs)[i]? = some p) : ∃ v w, vs[i]? = some v ∧ ws[i]? = some w ∧ RV K M U p.1 v ∧ RV K M U p.2 w := by
  obtain ⟨h1, h2⟩ := List.getElem?_zip_eq_some.mp e
  obtain ⟨v, hv, rv⟩ := h.get h1
  obtain ⟨w, hw, rw⟩ := h'.get h2
  exact ⟨v, w, hv, hw, rv, rw⟩
theorem jok_z {K : PySem.W.Frag} {M1 : Mp} {U1 : Hp} {as bs : List Pw.D} {still : Mp → Prop} {b1 b2 : Bool} {x y : Addr}
    (hs : ∀ M U, Ext M1 U1 M U → RM K M U → still M → ∃ vs ws, SqX b1 K U x vs ∧ RVs K M U as vs ∧ SqX b2 K U y ws ∧ RVs K M U bs ws) :
    JOk RW K (ItzM b1 b2 K x y) M1 U1 ((as.zip bs).map fun p => .tup [p.1, p.2]) still := by
  intro M U H ex vw rm st i
  obtain ⟨vs, ws, hq, q, hr, r⟩ := hs M U ex rm st
  have hq' := sqX_up vw hq
  have hr' := sqX_up vw hr
  have l1 := q.length
  have l2 := r.length
  refine ⟨fun hl => ?_, fun d hd => ?_⟩
  · simp only [List.length_map, List.length_zip] at hl
    exact ⟨vs, ws, hq', hr', by omega, by omega, by omega⟩
  · rw [List.getElem?_map] at hd
    obtain ⟨p, hp, rfl⟩ := Option.map_eq_some_iff.mp hd
    obtain ⟨v, w, hv, hw, rv, rw⟩ := q.get2 r hp
    refine ⟨⟨vs, ws, v, w, hq', hr', hv, hw⟩, fun z H' hz => ?_⟩
    obtain ⟨T, v', w', rfl, hT, rfl, e1, e2⟩ := hz
    have e1 := e1 vs hq'
    have e2 := e2 ws hr'
    rw [hv] at e1; rw [hw] at e2
    cases e1; cases e2
    refine ⟨_, ⟨Ext.new (vw.none hT), Kp.new vw hT, rm.new (vw.none hT)⟩, ⟨T, _, rfl, .inl (.inl upd_same), ?_⟩⟩
    simp only [RVs]
    exact ⟨_, _, rfl, RV.mono (Ext.new (vw.none hT)) rm _ _ rv, _, _, rfl, RV.mono (Ext.new (vw.none hT)) rm _ _ rw, rfl⟩
/-! zip of three -/
theorem itO_begin (b : Bool) (a : Addr) : itO b a = itO b a := rfl
def Itz3 (b1 b2 b3 : Bool) (K : PySem.W.Frag) (a b c : Addr) : It :=
  ⟨fun i H => ∃ (xs ys zs : List V) (x y z : V), SqX b1 K H a xs ∧ SqX b2 K H b ys ∧ SqX b3 K H c zs ∧ xs[i]? = some x ∧ ys[i]? = some y ∧ zs[i]? = some z,
    fun i H v H' => ∃ T x y z, v = .ref T ∧ H T = none ∧ H' = upd H T (.tup [x, y, z]) ∧ (∀ xs, SqX b1 K H a xs → xs[i]? = some x) ∧ (∀ ys, SqX b2 K H b ys → ys[i]? = some y) ∧ ∀ zs, SqX b3 K H c zs → zs[i]? = some z,
    fun i H => ∃ xs ys zs : List V, SqX b1 K H a xs ∧ SqX b2 K H b ys ∧ SqX b3 K H c zs ∧ i ≤ xs.length ∧ i ≤ ys.length ∧ i ≤ zs.length ∧ (i = xs.length ∨ i = ys.length ∨ i = zs.length)⟩
structure Apart3 (z TI TO i1 i2 i3 a b c : Addr) : Prop where
  S : ZipSep3 z TI TO i1 i2 i3 [i1, a] [i2, b] [i3, c]
  l1 : a ≠ i1
  l2 : b ≠ i2
  l3 : c ≠ i3
theorem Apart3.i1z {z TI TO i1 i2 i3 a b c : Addr} (D : Apart3 z TI TO i1 i2 i3 a b c) : i1 ≠ z := fun e => D.S.zi1 e.symm
theorem Apart3.i2z {z TI TO i1 i2 i3 a b c : Addr} (D : Apart3 z TI TO i1 i2 i3 a b c) : i2 ≠ z := fun e => D.S.zi2 e.symm
theorem Apart3.i3z {z TI TO i1 i2 i3 a b c : Addr} (D : Apart3 z TI TO i1 i2 i3 a b c) : i3 ≠ z := fun e => D.S.zi3 e.symm
theorem turn_zip3 {P : Program} {w : World} {K : PySem.W.Frag} {elts : List Expr} {kk : Nat} {tpos : Pos} {b1 b2 b3 : Bool} {a b c z TI TO i1 i2 i3 : Addr} (D : Apart3 z TI TO i1 i2 i3 a b c) :
    Turn P w K (.Tuple elts kk tpos) (Itz3 b1 b2 b3 K a b c) [z, TI, TO, i1, i2, i3] z (fun i h => IsZip h z TI TO .none ∧ IsTupOf3 h TI (.ref i1) (.ref i2) (.ref i3) ∧ (∃ x y u, IsTupOf3 h TO x y u) ∧ itSt b1 h i1 a i ∧ itSt b2 h i2 b i ∧ itSt b3 h i3 c i) where
  mem := by simp
  obj := fun i h st c hc => by
    obtain ⟨hz, hTI, ⟨x, y, u, hTO⟩, h1, h2, h3⟩ := st
    simp only [List.mem_cons, List.not_mem_nil, or_false] at hc
    rcases hc with rfl | rfl | rfl | rfl | rfl | rfl
    · exact ⟨_, hz, fun v q => nomatch q⟩
    · exact ⟨_, hTI, fun v q => nomatch q⟩
    · exact ⟨_, hTO, fun v q => nomatch q⟩
    · exact itSt_obj h1
    · exact itSt_obj h2
    · exact itSt_obj h3
  keep := fun i h h' st k => by
    obtain ⟨hz, hTI, ⟨x, y, u, hTO⟩, h1, h2, h3⟩ := st
    exact ⟨k z (by simp) _ hz, k TI (by simp) _ hTI, ⟨x, y, u, k TO (by simp) _ hTO⟩, h1.at fun o q => k i1 (by simp) o q, h2.at fun o q => k i2 (by simp) o q, h3.at fun o q => k i3 (by simp) o q⟩
  item := by
    intro X hP hw hK hc i pins s σ H E I hf st hg
    subst hP hw hK
    obtain ⟨hz, hTI, ⟨x0, y0, u0, hTO⟩, h1, h2, h3⟩ := st
    obtain ⟨xs, ys, zs, x, y, z', hqx, hqy, hqz, hx, hy, hz'⟩ := hg
    obtain ⟨its, rv, p⟩ := seqX_of I hqx
    obtain ⟨its2, rv2, p2⟩ := seqX_of I hqy
    obtain ⟨its3, rv3, p3⟩ := seqX_of I hqz
    obtain ⟨u, hu, ru⟩ := rv.get hx
    obtain ⟨u2, hu2, ru2⟩ := rv2.get hy
    obtain ⟨u3, hu3, ru3⟩ := rv3.get hz'
    have hzl : z < s.heap.objs.size := Heap.lt_size hz
    have n1 : i < its.toArray.size := by simpa using (List.getElem?_eq_some_iff.mp hu).1
    have n2 : i < its2.toArray.size := by simpa using (List.getElem?_eq_some_iff.mp hu2).1
    have n3 : i < its3.toArray.size := by simpa using (List.getElem?_eq_some_iff.mp hu3).1
    have hh : X.A.in1.handled = none := I.ok.hd hc
    refine wpAny_pyNext_zipD3_item D.S (draws_x b1 hh i1 a D.l1 its.toArray) (draws_x b2 hh i2 b D.l2 its2.toArray) (draws_x b3 hh i3 c D.l3 its3.toArray) hz hTI hTO ⟨h1, p⟩ ⟨h2, p2⟩ ⟨h3, p3⟩ n1 n2 n3 fun v1 v2 v3 h' tk e1 e2 e3 zz TO' s1 s2 s3 hT hsz hk => ?_
    obtain rfl : u = v1 := by
      have : its[i]? = some v1 := by simpa using e1
      rw [hu] at this; exact Option.some.inj this
    obtain rfl : u2 = v2 := by
      have : its2[i]? = some v2 := by simpa using e2
      rw [hu2] at this; exact Option.some.inj this
    obtain rfl : u3 = v3 := by
      have : its3[i]? = some v3 := by simpa using e3
      rw [hu3] at this; exact Option.some.inj this
    refine ⟨_, rfl, wpAny_letOwnedTupleGo_zip (s := { s with heap := h', toks := tk }) zz fun h'' z'' sb => ?_⟩
    have hT2 : h''.get? s.heap.objs.size = some { cls := .type "tuple", data := .seq #[u, u2, u3] } := (sb.2 _ (Nat.ne_of_gt hzl)).trans hT
    have new : ObjOk X.prog X.w (upd H s.heap.objs.size (.tup [x, y, z'])) h'' s.heap.objs.size (.tup [x, y, z']) :=
      ⟨by show 3 ≤ sizeLine; decide, [u, u2, u3], .cons ru (.cons ru2 (.cons ru3 .nil)), ⟨_, hT2, rfl, _, rfl⟩⟩
    have I1 : Inv X pins σ (upd H s.heap.objs.size (.tup [x, y, z'])) { s with heap := h'', toks := tk } :=
      I.turnedNew (t' := tk) (ch := [z, TI, TO, i1, i2, i3]) (fun c o hb q => (sb.2 c (fun q' => hb (by simp [q']))).trans (hk c o (fun q' => hb (by simp [q'])) (fun q' => hb (by simp [q'])) (fun q' => hb (by simp [q'])) (fun q' => hb (by simp [q'])) (fun q' => hb (by simp [q'])) q)) hf (Nat.le_refl _) new
    refine ⟨.ref s.heap.objs.size, _, I1, rfl, ⟨_, x, y, z', rfl, I.hok.fresh (Nat.le_refl _), rfl, fun l hl => by rw [seqX_inj I hl hqx]; exact hx, fun l hl => by rw [seqX_inj I hl hqy]; exact hy, fun l hl => by rw [seqX_inj I hl hqz]; exact hz'⟩, ⟨z'', ?_, ⟨u, u2, u3, ?_⟩, ?_, ?_, ?_⟩, fun c hcm => ?_⟩
    · exact (sb.2 _ D.S.TIz).trans (hk _ _ D.S.TIz D.S.TITO D.S.TIi1 D.S.TIi2 D.S.TIi3 hTI)
    · exact (sb.2 _ D.S.TOz).trans TO'
    · exact s1.1.at fun o q => (sb.2 _ D.i1z).trans q
    · exact s2.1.at fun o q => (sb.2 _ D.i2z).trans q
    · exact s3.1.at fun o q => (sb.2 _ D.i3z).trans q
    · have hlt : c < s.heap.objs.size := by
        simp only [List.mem_cons, List.not_mem_nil, or_false] at hcm
        rcases hcm with rfl | rfl | rfl | rfl | rfl | rfl
        · exact hzl
        · exact Heap.lt_size hTI
        · exact Heap.lt_size hTO
        · obtain ⟨_, e1, _⟩ := itSt_obj h1; exact Heap.lt_size e1
        · obtain ⟨_, e2, _⟩ := itSt_obj h2; exact Heap.lt_size e2
        · obtain ⟨_, e3, _⟩ := itSt_obj h3; exact Heap.lt_size e3
      rw [upd_ne (Nat.ne_of_lt hlt)]
      exact (hf c hcm).1
  done := by
    intro X hP hw hK hc i pins s σ H E I hf st hg
    subst hP hw hK
    obtain ⟨hz, hTI, ⟨x0, y0, u0, hTO⟩, h1, h2, h3⟩ := st
    obtain ⟨xs, ys, zs, hqx, hqy, hqz, g1, g2, g3, hend⟩ := hg
    obtain ⟨its, rv, p⟩ := seqX_of I hqx
    obtain ⟨its2, rv2, p2⟩ := seqX_of I hqy
    obtain ⟨its3, rv3, p3⟩ := seqX_of I hqz
    have l1 := rv.length
    have l2 := rv2.length
    have l3 := rv3.length
    have hh : X.A.in1.handled = none := I.ok.hd hc
    exact wpAny_pyNext_zipD3_end D.S (draws_x b1 hh i1 a D.l1 its.toArray) (draws_x b2 hh i2 b D.l2 its2.toArray) (draws_x b3 hh i3 c D.l3 its3.toArray) hz hTI hTO ⟨h1, p⟩ ⟨h2, p2⟩ ⟨h3, p3⟩ (by simp; omega) (by simp; omega) (by simp; omega) (by simp; omega) fun h' tk hk => ⟨rfl, I.turnedL (t' := tk) (ch := [z, TI, TO, i1, i2, i3]) (fun c o hb q =>
      hk c o (fun q' => hb (by simp [q'])) (fun q' => hb (by simp [q'])) (fun q' => hb (by simp [q'])) (fun q' => hb (by simp [q'])) (fun q' => hb (by simp [q'])) q) hf⟩
  self := fun A i s Q E st h => wpAny_pyIter_zip st.1 h
def iZip3 (K : PySem.W.Frag) (ta : TA) : TI := fun σ H R => ta σ H fun vs H1 => ∃ (a b c : Addr) (xs ys zs : List V) (b1 b2 b3 : Bool), vs = [.ref a, .ref b, .ref c] ∧ SqX b1 K H1 a xs ∧ SqX b2 K H1 b ys ∧ SqX b3 K H1 c zs ∧ (Bd K H1 → R (Itz3 b1 b2 b3 K a b c) H1)
theorem apart3 (N a b c : Nat) (h1 : a < N) (h2 : b < N) (h3 : c < N) : Apart3 (N + 5) (N + 3) (N + 4) N (N + 1) (N + 2) a b c :=
  ⟨zip_sep3 (fp1 := [a]) (fp2 := [b]) (fp3 := [c]) (by simpa using h1) (by simpa using h2) (by simpa using h3), Nat.ne_of_lt h1, Nat.ne_of_lt (Nat.lt_succ_of_lt h2), Nat.ne_of_lt (Nat.lt_succ_of_lt (Nat.lt_succ_of_lt h3))⟩
theorem pi_zip3 {X : Cx} {e e2 e3 : Expr} {ta : TA} {p pos tpos : Pos} {elts : List Expr} {kk : Nat} (hg : Gl X "zip") (hm : X.mg "zip" = none) (ha : PA X [e, e2, e3] ta)
    (hs : starEach [e, e2, e3] X.env = (false, eval e X.env) :: starEach [e2, e3] X.env) (hpl : (backTo pos (starEach [e2, e3] X.env)).any (·.1) = false) :
    PI X (.Tuple elts kk tpos) (.Call (.Name "zip" p) [e, e2, e3] [] pos) (iZip3 X.K ta) := by
  refine ⟨fun pins s σ H R I h => ?_⟩
  refine Call_ (ld_blt I hg hm PyProof.Rows.boot_zip (PyProof.Rows.callWith_type1 (thn (ha.run pos pins s σ H _ I h) fun us s1 ⟨vs, H1, I1, r1, q1⟩ => ?_) hs hpl))
  obtain ⟨a, b, c, xs, ys, zs, b1, b2, b3, ex, hqx, hqy, hqz, q⟩ := q1
  subst ex
  cases r1 with
  | cons r rr =>
    cases rr with
    | cons r' rr =>
      cases rr with
      | cons r'' rr =>
        cases rr
        cases r
        cases r'
        cases r''
        have fresh6 : ∀ c, c ∈ [s1.heap.objs.size + 5, s1.heap.objs.size + 3, s1.heap.objs.size + 4, s1.heap.objs.size, s1.heap.objs.size + 1, s1.heap.objs.size + 2] → FpOk X pins H1 c := fun c hcm => by
          have hle : s1.heap.objs.size ≤ c := by
            simp only [List.mem_cons, List.not_mem_nil, or_false] at hcm
            omega
          exact I1.fpOk hle (I1.hok.fresh hle)
        obtain ⟨its, rv, p1⟩ := seqX_of I1 hqx
        obtain ⟨its2, rv2, p2⟩ := seqX_of I1 hqy
        obtain ⟨its3, rv3, p3⟩ := seqX_of I1 hqz
        refine zip_begins3 (begins_x b1 a its.toArray) (begins_x b2 b its2.toArray) (begins_x b3 c its3.toArray) p1 p2 p3 fun h' hz hTI hTO g1 g2 g3 hsz hk => wpAny_pyIter_zip hz ?_
        have I2 : Inv X pins σ H1 { s1 with heap := h' } := I1.kept (t' := s1.toks) hk
        exact ⟨s1.heap.objs.size + 5, [s1.heap.objs.size + 5, s1.heap.objs.size + 3, s1.heap.objs.size + 4, s1.heap.objs.size, s1.heap.objs.size + 1, s1.heap.objs.size + 2], _, _, H1, rfl, I2, turn_zip3 (apart3 s1.heap.objs.size a b c (seqX_lt p1) (seqX_lt p2) (seqX_lt p3)), ⟨hz, hTI, ⟨_, _, _, hTO⟩, itO_st g1, itO_st g2, itO_st g3⟩, fresh6, q (bd_of I1)⟩
theorem jok_z3 {K : PySem.W.Frag} {M1 : Mp} {U1 : Hp} {as bs cs : List Pw.D} {still : Mp → Prop} {b1 b2 b3 : Bool} {x y z : Addr}
    (hs : ∀ M U, Ext M1 U1 M U → RM K M U → still M → ∃ vs ws us, SqX b1 K U x vs ∧ RVs K M U as vs ∧ SqX b2 K U y ws ∧ RVs K M U bs ws ∧ SqX b3 K U z us ∧ RVs K M U cs us) :
    JOk RW K (Itz3 b1 b2 b3 K x y z) M1 U1 ((as.zip (bs.zip cs)).map fun p => .tup [p.1, p.2.1, p.2.2]) still := by
  intro M U H ex vw rm st i
  obtain ⟨vs, ws, us, hq, q, hr, r, ht, t⟩ := hs M U ex rm st
  have hq' := sqX_up vw hq
  have hr' := sqX_up vw hr
  have ht' := sqX_up vw ht
  have l1 := q.length
  have l2 := r.length
  have l3 := t.length
  refine ⟨fun hl => ?_, fun d hd => ?_⟩
  · simp only [List.length_map, List.length_zip] at hl
    exact ⟨vs, ws, us, hq', hr', ht', by omega, by omega, by omega, by omega⟩
  · rw [List.getElem?_map] at hd
    obtain ⟨p, hp, rfl⟩ := Option.map_eq_some_iff.mp hd
    obtain ⟨h1, h2⟩ := List.getElem?_zip_eq_some.mp hp
    obtain ⟨h2, h3⟩ := List.getElem?_zip_eq_some.mp h2
    obtain ⟨v, hv, rv⟩ := q.get h1
    obtain ⟨w, hw, rw⟩ := r.get h2
    obtain ⟨u, hu, ru⟩ := t.get h3
    refine ⟨⟨vs, ws, us, v, w, u, hq', hr', ht', hv, hw, hu⟩, fun z H' hz => ?_⟩
    obtain ⟨T, v', w', u', rfl, hT, rfl, e1, e2, e3⟩ := hz
    have e1 := e1 vs hq'
    have e2 := e2 ws hr'
    have e3 := e3 us ht'
    rw [hv] at e1; rw [hw] at e2; rw [hu] at e3
    cases e1; cases e2; cases e3
    refine ⟨_, ⟨Ext.new (vw.none hT), Kp.new vw hT, rm.new (vw.none hT)⟩, ⟨T, _, rfl, .inl (.inl upd_same), ?_⟩⟩
    simp only [RVs]
    exact ⟨_, _, rfl, RV.mono (Ext.new (vw.none hT)) rm _ _ rv, _, _, rfl, RV.mono (Ext.new (vw.none hT)) rm _ _ rw, _, _, rfl, RV.mono (Ext.new (vw.none hT)) rm _ _ ru, rfl⟩
theorem seqOf_X {K : PySem.W.Frag} {M : Mp} {U H : Hp} (vw : Vw U H) (r : RM K M U) {d : Pw.D} {v : V} {ds : List Pw.D} (e : seqOf M d = some ds) (h : RV K M U d v) : ∃ a vs b, v = .ref a ∧ SqX b K H a vs ∧ RVs K M U ds vs ∧
    ∀ M' U', Ext M U M' U' → RM K M' U' → seqOf M' d = some ds → ∃ vs', SqX b K U' a vs' ∧ RVs K M' U' ds vs' := by
  cases d
  case tup =>
    simp only [seqOf] at e
    cases e
    have h0 := h
    simp only [RV] at h
    obtain ⟨a, vs, e1, e2, q⟩ := h
    exact ⟨a, vs, false, e1, vw.sqT e2, q, fun M' U' x rm' _ => ⟨vs, (x.sqF r e2).sq, RVs.mono x r _ _ q⟩⟩
  all_goals
    obtain ⟨a, vs, e1, e2, q⟩ := lstOf_at vw r (by simpa only [seqOf] using e) h
    refine ⟨a, vs, true, e1, e2, q, fun M' U' x rm' st => ?_⟩
    obtain ⟨p3, vs3, e3, h3, r3⟩ := lstOf_at (H := U') (Vw.refl) rm' (by simpa only [seqOf] using st) (RV.mono x r _ _ h)
    rw [e1] at e3; cases e3
    exact ⟨vs3, h3, r3⟩
section
variable {X : Cx} {xk : XD} {W : WX} {G : Gc} {C : Ct} {Γ : String → SpD} {k : Nat} {pos : Pos}
theorem w_izip (g : GX X G C Γ k W) {tg f : Expr} {es : List Expr} {n : Nat} {wl : St → Mp → (List Pw.D → Mp → Prop) → Prop} (hf : nameB C G "zip" f = true) (ht : isTupE tg = true) (hp : allPlain es = true) (hn : es.length = n) (h2 : es.length = 2 ∨ es.length = 3) (ha : PA X es (LL X xk W n wl)) :
    PI X tg (.Call f es [] pos) (LI RW X xk W fun δ M Q => wl δ M fun ds M1 => zipD Q ds M1) := by
  obtain ⟨p, rfl, q1, q2, q3, q4⟩ := nameB_of g hf
  cases tg <;> first
    | cases ht
    | skip
  match es, h2 with
  | [a, b, c], _ =>
    simp only [allPlain, Bool.and_eq_true] at hp
    have hs1 := star_cons (e := a) (es := [b, c]) (env := X.env) hp.1
    have hs2 := star_any (env := X.env) (pos := pos) (es := [b, c]) (by simp only [allPlain, Bool.and_eq_true]; exact hp.2)
    refine pi_imp (pi_zip3 q1 q2 ha hs1 hs2) fun σ H Q h => ?_
    obtain ⟨δ, M, U, R, r, xo, h, out⟩ := h
    refine ⟨δ, M, U, _, r, xo, h, fun ds M1 vs U1 H1 g1 rv hl hR => ?_⟩
    have hlen : ∀ {b : Bool} {p1 : Addr} {vs : List V} {as : List Pw.D}, SqX b X.K H1 p1 vs → vs.length = as.length → Bd X.K H1 → as.length ≤ sizeLine := fun {b p1 vs as} hq e bd => by
      rw [← e]
      cases b
      · exact bd p1 vs (.inr hq)
      · exact bd p1 vs (.inl hq)
    unfold zipD at hR
    split at hR
    · exact absurd hl (by rw [← hn]; simp)
    · rename_i x y z
      obtain ⟨v, v', v'', rfl, q, q', q''⟩ := rv.three_of
      split at hR
      · rename_i as bs cs e1 e2 e3
        obtain ⟨p1, vs, b1, rfl, hq, qs, k1⟩ := seqOf_X g1.kp.vw g1.rm e1 q
        obtain ⟨p2, ws, b2, rfl, hq', qs', k2⟩ := seqOf_X g1.kp.vw g1.rm e2 q'
        obtain ⟨p3, us, b3, rfl, hq'', qs'', k3⟩ := seqOf_X g1.kp.vw g1.rm e3 q''
        refine ⟨p1, p2, p3, vs, ws, us, b1, b2, b3, rfl, hq, hq', hq'', fun bd => out _ _ M1 U1 H1 _ g1 hR ?_ ?_⟩
        · simp only [List.length_map, List.length_zip]
          have := hlen (as := as) hq qs.length bd
          rw [lineLIM] at this
          omega
        · refine jok_z3 fun M' U' x' rm' st => ?_
          obtain ⟨vs', h1, r1⟩ := k1 M' U' x' rm' st.1
          obtain ⟨ws', h2, r2⟩ := k2 M' U' x' rm' st.2.1
          obtain ⟨us', h3, r3⟩ := k3 M' U' x' rm' st.2.2
          exact ⟨vs', ws', us', h1, r1, h2, r2, h3, r3⟩
      · exact hR.elim
    · exact hR.elim
  | [a, b], _ =>
    simp only [allPlain, Bool.and_eq_true] at hp
    have hs1 := star_cons (e := a) (es := [b]) (env := X.env) hp.1
    have hs2 := star_any (env := X.env) (pos := pos) (es := [b]) (by simp only [allPlain, Bool.and_eq_true]; exact hp.2)
    refine pi_imp (pi_zipM q1 q2 ha hs1 hs2) fun σ H Q h => ?_
    obtain ⟨δ, M, U, R, r, xo, h, out⟩ := h
    refine ⟨δ, M, U, _, r, xo, h, fun ds M1 vs U1 H1 g1 rv hl hR => ?_⟩
    have hlen : ∀ {b : Bool} {p1 : Addr} {vs : List V} {as : List Pw.D}, SqX b X.K H1 p1 vs → vs.length = as.length → Bd X.K H1 → as.length ≤ sizeLine := fun {b p1 vs as} hq e bd => by
      rw [← e]
      cases b
      · exact bd p1 vs (.inr hq)
      · exact bd p1 vs (.inl hq)
    unfold zipD at hR
    split at hR
    · rename_i x y
      obtain ⟨v, v', rfl, q, q'⟩ := rv.two_of
      split at hR
      · rename_i as bs
        simp only [RV] at q q'
        obtain ⟨p1, vs, rfl, hq, q⟩ := q
        obtain ⟨p2, ws, rfl, hq', q'⟩ := q'
        have b1 : SqX false X.K H1 p1 vs := g1.kp.vw.sqT hq
        have b2 : SqX false X.K H1 p2 ws := g1.kp.vw.sqT hq'
        refine ⟨p1, p2, vs, ws, false, false, rfl, b1, b2, fun bd => out _ _ M1 U1 H1 _ g1 hR ?_ ?_⟩
        · simp only [List.length_map, List.length_zip]
          have := hlen (as := as) b1 q.length bd
          rw [lineLIM] at this
          omega
        · exact jok_z fun M' U' x' rm' _ => ⟨vs, ws, (x'.sqF g1.rm hq).sq, RVs.mono x' g1.rm _ _ q, (x'.sqF g1.rm hq').sq, RVs.mono x' g1.rm _ _ q'⟩
      · rename_i bs _
        split at hR
        · rename_i as e1
          simp only [RV] at q'
          obtain ⟨p2, ws, rfl, hq', q'⟩ := q'
          obtain ⟨p1, vs, rfl, hq, qs⟩ := lstOf_at g1.kp.vw g1.rm e1 q
          have b2 : SqX false X.K H1 p2 ws := g1.kp.vw.sqT hq'
          refine ⟨p1, p2, vs, ws, true, false, rfl, hq, b2, fun bd => out _ _ M1 U1 H1 _ g1 hR ?_ ?_⟩
          · simp only [List.length_map, List.length_zip]
            have := hlen (as := bs) b2 q'.length bd
            rw [lineLIM] at this
            omega
          · refine jok_z fun M' U' x' rm' st => ?_
            obtain ⟨p3, vs3, e3, h3, r3⟩ := lstOf_at (H := U') (Vw.refl) rm' st (RV.mono x' g1.rm _ _ q)
            cases e3
            exact ⟨vs3, ws, h3, r3, (x'.sqF g1.rm hq').sq, RVs.mono x' g1.rm _ _ q'⟩
        · exact hR.elim
      · rename_i as _
        split at hR
        · rename_i bs e2
          simp only [RV] at q
          obtain ⟨p1, vs, rfl, hq, q⟩ := q
          obtain ⟨p2, ws, rfl, hq', qs'⟩ := lstOf_at g1.kp.vw g1.rm e2 q'
          have b1 : SqX false X.K H1 p1 vs := g1.kp.vw.sqT hq
          refine ⟨p1, p2, vs, ws, false, true, rfl, b1, hq', fun bd => out _ _ M1 U1 H1 _ g1 hR ?_ ?_⟩
          · simp only [List.length_map, List.length_zip]
            have := hlen (as := as) b1 q.length bd
            rw [lineLIM] at this
            omega
          · refine jok_z fun M' U' x' rm' st => ?_
            obtain ⟨p4, vs4, e4, h4, r4⟩ := lstOf_at (H := U') (Vw.refl) rm' st (RV.mono x' g1.rm _ _ q')
            cases e4
            exact ⟨vs, vs4, (x'.sqF g1.rm hq).sq, RVs.mono x' g1.rm _ _ q, h4, r4⟩
        · exact hR.elim
      · split at hR
        · rename_i as bs e1 e2
          obtain ⟨p1, vs, rfl, hq, qs⟩ := lstOf_at g1.kp.vw g1.rm e1 q
          obtain ⟨p2, ws, rfl, hq', qs'⟩ := lstOf_at g1.kp.vw g1.rm e2 q'
          refine ⟨p1, p2, vs, ws, true, true, rfl, hq, hq', fun bd => out _ _ M1 U1 H1 _ g1 hR ?_ ?_⟩
          · simp only [List.length_map, List.length_zip]
            have := bd p1 vs (.inl hq)
            rw [qs.length, lineLIM] at this
            omega
          · refine jok_z fun M' U' x' rm' st => ?_
            obtain ⟨p3, vs3, e3, h3, r3⟩ := lstOf_at (H := U') (Vw.refl) rm' st.1 (RV.mono x' g1.rm _ _ q)
            obtain ⟨p4, vs4, e4, h4, r4⟩ := lstOf_at (H := U') (Vw.refl) rm' st.2 (RV.mono x' g1.rm _ _ q')
            cases e3; cases e4
            exact ⟨vs3, vs4, h3, r3, h4, r4⟩
        · exact hR.elim
    · exact absurd hl (by rw [← hn]; simp)
    · exact hR.elim
end
end Pw
set_option Elab.async false
set_option linter.all false
set_option maxRecDepth 100000
set_option maxHeartbeats 2000000
namespace Pw
open PySem PySem.Spec PyProof.Rows L2
/-! set(list of whole numbers), with the order of its table: after the library's rule for tuples -/
theorem call_set_lstI {P : Program} {w : World} {A : Around} {E : Value → Shared → Prop} {s : Shared} {l : Addr} {items : Array Value} (ns : List Int) {Q : Value → Shared → Prop}
    (hh : A.handled = none) (hl : s.heap.IsList l items) (hit : PyProof.Rows.IntsAre items.toList ns) (hb : ns.length + 1 < scanBound)
    (h : ∀ (h' : Heap) (tk c : Nat), SetR w h' s.heap.objs.size (fun j => decide (j ∈ ns)) c → c ≤ ns.length → (∀ (b : Addr) (o : Obj), s.heap.get? b = some o → h'.get? b = some o) →
      Q (.ref s.heap.objs.size) { heap := h', gens := s.gens, drawn := s.drawn, toks := tk, os := s.os }) :
    wpAny (model P w) A (call (.type "set") [.ref l]) Q E s := by
  have hisz : items.size = ns.length := by have q := hit.length; rwa [Array.length_toList] at q
  obtain ⟨c, tl, hmro⟩ := TypeCalled.mro F.called_set
  have hmade := TypeCalled.made F.called_set
  have hsub := TypeCalled.sub F.called_set
  refine wpAny_call (codeAny_of_tree ?_)
  refine wpAny_pure ⟨Code.quiet_builtin _ (by decide +kernel), codeAny_builtin F.entry_type_call ?_⟩
  rw [Around.under_plain (weight_type_call_type "set" [Value.ref l] []) rfl]
  unfold Builtin.«type.__call__»
  have h1 := TypeCalled.notType F.called_set
  have h2 := TypeCalled.canCreate F.called_set
  have hct := F.typeCall_set_1 (Value.ref l)
  refine wpAny_ite_false (by rfl) (wpAny_ite_false (by rfl) ?_)
  refine wpAny_bind (wpAny_of_eq hct ?_)
  refine wpAny_bind (wpAny_of_eq hmro ?_)
  refine wpAny_ite_false rfl ?_
  refine wpAny_bind (wpAny_of_eq hmade ?_)
  refine wpAny_bind (wpAny_pure ?_)
  refine wpAny_bind (wpAny_holding ?_)
  refine wpAny_call (codeAny_mono (code_set_led1 (E := E) (Q₁ := fun obj s₁ => obj = Value.ref s.heap.objs.size ∧ s₁ = { heap := s.heap.push { cls := Value.type "set", data := Data.set #[] 0 (SetTable.fresh 0 0 !w.params.followText "set-order") }, gens := s.gens, drawn := s.drawn, toks := s.toks, os := s.os }) (Value.ref l) ⟨rfl, rfl⟩) fun r s₁ hr => ?_)
  cases r with
  | error e => exact hr
  | ok fl =>
    cases fl with
    | ret obj =>
      obtain ⟨rfl, rfl⟩ := hr
      have hS : (s.heap.push { cls := Value.type "set", data := Data.set #[] 0 (SetTable.fresh 0 0 !w.params.followText "set-order") }).get? s.heap.objs.size = some { cls := Value.type "set", data := Data.set #[] 0 (SetTable.fresh 0 0 !w.params.followText "set-order") } := Heap.get?_push_size _ rfl
      have hT : Shared.TypeIs { heap := s.heap.push { cls := Value.type "set", data := Data.set #[] 0 (SetTable.fresh 0 0 !w.params.followText "set-order") }, gens := s.gens, drawn := s.drawn, toks := s.toks, os := s.os } (Value.ref s.heap.objs.size) "set" := ⟨_, hS, rfl⟩
      have hli := Slot.lookup (TypeCalled.init F.called_set)
      have hbi := Slot.bind (TypeCalled.init F.called_set) (Value.ref s.heap.objs.size)
      refine wpAny_bind (wpAny_isInstance hT hsub (wpAny_ite_false rfl ?_))
      refine wpAny_bind (wpAny_holding ?_)
      refine wpAny_bind (wpAny_specialOf hT hli (wpAny_holding ?_))
      refine wpAny_bind (wpAny_of_eq hbi ?_)
      refine wpAny_bind (wpAny_call (codeAny_mono (R := wants (fun v s₂ => v = Value.none ∧ ∃ h' tk c', s₂ = { heap := h', gens := s.gens, drawn := s.drawn, toks := tk, os := s.os } ∧ SetR w h' s.heap.objs.size (fun j => decide (j ∈ ns)) c' ∧ c' ≤ ns.length ∧ ∀ (b : Addr) (o : Obj), s.heap.get? b = some o → h'.get? b = some o) E) (codeAny_call_builtin (Slot.plain (TypeCalled.init F.called_set)) F.entry_set_init (check_set_init_1 hT ?_)) ?_))
      · unfold Builtin.«set.__init__»
        obtain ⟨ol, hol, hcl, nl, hdl⟩ := hl
        obtain ⟨ocls, odict, odata, oslots⟩ := ol
        obtain rfl : ocls = Value.type "list" := hcl
        obtain rfl : odata = Data.seq items nl := hdl
        have hol' : (s.heap.push { cls := Value.type "set", data := Data.set #[] 0 (SetTable.fresh 0 0 !w.params.followText "set-order") }).get? l = some _ := Heap.get?_push_of_some _ hol
        have hl1 : (s.heap.push { cls := Value.type "set", data := Data.set #[] 0 (SetTable.fresh 0 0 !w.params.followText "set-order") }).IsList l items := ⟨_, hol', rfl, nl, rfl⟩
        refine wpAny_bind (wpAny_ite_true rfl (wpAny_pure ?_))
        refine wpAny_bind (wpAny_bind (wpAny_bind (wpAny_typeOf hT (wpAny_ite_false rfl (wpAny_pure (wpAny_pure ?_))))))
        refine wpAny_bind ?_
        unfold checkCount
        refine wpAny_ite_false rfl (wpAny_ite_false rfl (wpAny_ite_false rfl (wpAny_pure ?_)))
        unfold Builtin.Frozenset.addrOf
        refine wpAny_bind (wpAny_pure ?_)
        refine wpAny_bind ?_
        unfold setUsed
        refine wpAny_bind ?_
        refine wpAny_bind (wpAny_load' hS (wpAny_ite_false rfl (wpAny_pure (wpAny_pure ?_))))
        refine wpAny_ite_false rfl ?_
        refine wpAny_bind ?_
        unfold Builtin.Frozenset.updateFrom
        refine wpAny_bind ?_
        unfold Builtin.Frozenset.isAnySet
        refine wpAny_bind ?_
        unfold isInstance
        refine wpAny_bind ?_
        unfold typeOf
        refine wpAny_bind (wpAny_loadPart' hol' (wpAny_pure ?_))
        refine wpAny_of_eq F.sub_list_set ?_
        refine wpAny_bind (wpAny_bind (wpAny_loadPart' hol' (wpAny_pure (wpAny_of_eq F.sub_list_frozenset (wpAny_ite_false rfl ?_)))))
        refine wpAny_bind (wpAny_bind (wpAny_loadPart' hol' (wpAny_pure (wpAny_ite_false rfl ?_))))
        refine wpAny_bind (wpAny_pyIter_list hl1 ?_)
        refine wpAny_bind (wpAny_runValue ?_)
        have hll : l < s.heap.objs.size := Heap.lt_size hol
        have hsz : ∀ o : Obj, (s.heap.push o).objs.size = s.heap.objs.size + 1 := fun o => by simp [Heap.push]
        have hh3 : A.in1.in1.in1.handled = none := hh
        have hget : ((s.heap.push { cls := Value.type "set", data := Data.set #[] 0 (SetTable.fresh 0 0 !w.params.followText "set-order") }).push { cls := Value.type "list_iterator", data := Data.fields #[Value.ref l, Value.int 0 0] }).get? s.heap.objs.size = some _ := Heap.get?_push_of_some _ hS
        refine set_update_ints (Walks.toS (Walks.list hh3 _ l ?_ items)) s.heap.objs.size ?_ ns hisz hb ?_ _ 0 _ rfl (Nat.zero_le _) ⟨?_, ?_⟩ ⟨0, Nat.le_refl _, setR_new_at hget⟩ ?_
        · show l ≠ (s.heap.push _).objs.size
          rw [hsz]; exact Nat.ne_of_lt (Nat.lt_succ_of_lt hll)
        · show ¬ s.heap.objs.size ∈ [(s.heap.push _).objs.size, l]
          rw [hsz]
          intro hm
          rcases List.mem_cons.mp hm with e | hm
          · exact absurd e (Nat.ne_of_lt (Nat.lt_succ_self _))
          · exact absurd (List.mem_singleton.mp hm) (Nat.ne_of_gt hll)
        · intro i v hv
          have hv' : items.toList[i]? = some v := by rw [← hv]; simp
          obtain ⟨t, ht⟩ := hit.int_at i v hv'
          have hi := (List.getElem?_eq_some_iff.mp hv').1
          have hi' : i < ns.length := by rw [← hisz]; simpa using hi
          refine ⟨ns[i], t, List.getElem?_eq_getElem hi', ?_⟩
          rw [ht, List.getD_eq_getElem?_getD, List.getElem?_eq_getElem hi']; rfl
        · exact ⟨_, Heap.get?_push_size _ rfl, rfl, rfl⟩
        · exact ⟨_, Heap.get?_push_of_some _ hol', rfl, nl, rfl⟩
        · intro s' c' hm hc' hS'
          obtain ⟨h', g2, d', tk', os'⟩ := s'
          obtain ⟨m1, m2, m3, m4, _⟩ := hm
          have eg : g2 = s.gens := m2
          have ed : d' = s.drawn := m3
          have eo : os' = s.os := m4
          subst eg ed eo
          refine wpAny_pure (wpAny_pure ⟨rfl, h', tk', c', rfl, hS', by rw [← hisz]; exact hc', fun b o e => ?_⟩)
          have hb := Heap.lt_size e
          refine m1 b o ?_ (Heap.get?_push_of_some _ (Heap.get?_push_of_some _ e))
          intro hm
          rcases List.mem_cons.mp hm with e1 | hm
          · exact absurd e1 (Nat.ne_of_lt hb)
          · have e2 := List.mem_singleton.mp hm
            have e3 : b = s.heap.objs.size + 1 := e2.trans (hsz _)
            exact absurd e3 (Nat.ne_of_lt (Nat.lt_succ_of_lt hb))
      · intro r₂ s₂ hr₂
        cases r₂ with
        | error e => exact hr₂
        | ok fl₂ =>
          cases fl₂ with
          | ret r =>
            obtain ⟨rfl, h', tk, c', rfl, hS', hc', hk'⟩ := hr₂
            refine wpAny_pure (wpAny_ite_false rfl (wpAny_pure ?_))
            exact h h' tk c' hS' hc' hk'
          | _ => exact hr₂.elim
    | _ => exact hr.elim
end Pw
set_option Elab.async false
set_option linter.all false
set_option maxRecDepth 100000
set_option maxHeartbeats 2000000
/-! sorted(set(..)) of any number of whole numbers -/
namespace L2
open PySem PySem.Spec PyProof.Rows
theorem sorted_setW {P : Program} {w : World} {A : Around} {E : Value → Shared → Prop} {s : Shared} {a : Addr} {S : Int → Bool} {n : Nat} {Q : Value → Shared → Prop} (R : SetR w s.heap a S n) (hh : A.handled = none) (hz : n ≤ sizeLine)
    (hQ : ∀ s' p (out : Array Value) (c : Nat) (ns : List Int), (∀ b o, s.heap.get? b = some o → s'.heap.get? b = some o) → s'.gens = s.gens → s'.os = s.os → s.heap.objs.size ≤ p →
      s'.heap.get? p = some (seqObj "list" out c) → IntsAre out.toList ns → ns.Pairwise (· < ·) → (∀ k, k ∈ ns ↔ S k = true) → ns.length = n → Q (.ref p) s') :
    wpAny (model P w) A (call (.builtin "sorted") [.ref a]) Q E s := by
  obtain ⟨o, es, ep, t, ho, hex, hd, g, nd, hm, hb, hf, hn, hr, hl⟩ := R
  refine Calls.call_function_entry kind_sorted plain_sorted entry_sorted (args_sorted1 _) ?_
  unfold Builtin.«sorted»
  refine wpAny_bind (m := checkCount "sorted" 1 1 _) (wpAny_pure ?_)
  refine wpAny_bind (collect_set (A := A.in1) hh ⟨o, ho, hex.1, hd⟩ hf hb hr hl fun s1 vs k1 hz1 g1 o1 pm => ?_)
  have hvl : vs.length = n := by rw [pm.length_eq, List.length_map, Array.length_toList]; exact hn
  have hI : IntsAre vs (vs.map Builtin.Re.reRawOf) := ints_of vs fun v hv => by
    obtain ⟨e, he, q⟩ := List.mem_map.mp (pm.mem_iff.mp hv)
    obtain ⟨k, tk, h1, _⟩ := g e he
    exact ⟨k, tk, by rw [← q]; exact h1⟩
  have pk : (vs.map Builtin.Re.reRawOf).Perm (es.toList.map keyOf) := by
    have q := pm.map Builtin.Re.reRawOf
    rw [List.map_map] at q
    exact q
  refine wpAny_bind (wpAny_newList ?_ (by rw [hvl]; exact hz))
  have hoL : (s1.heap.push (seqObj "list" vs.toArray 0)).get? s1.heap.objs.size = some (seqObj "list" vs.toArray 0) := Heap.get?_push_size _ rfl
  refine wpAny_bind (wpAny_holding (wpAny_call_entry slot_list_sort ⟨_, hoL, rfl⟩ entry_list_sort (SrtO.list_sort_ord SrtO.swo_int hoL (by rw [hvl]; exact hz) (fun h2 => SrtO.ints_sortable hI h2) fun out h1 h2 => ⟨_, rfl, ?_⟩) (args_list_sort _)))
  obtain ⟨a1, a2, a3⟩ := SrtO.ints_out hI h1 h2
  obtain ⟨c, hc⟩ := sortedHeap_at (vs := vs) (out := out.toArray) hoL
  have pn : (out.map SrtO.iv).Perm (es.toList.map keyOf) := a2.trans pk
  refine wpAny_pure ⟨_, rfl, hQ _ s1.heap.objs.size out.toArray c (out.map SrtO.iv) (fun b u e => ?_) g1 o1 hz1 hc a1 (lt_of_le_nodup _ a3 (pn.nodup_iff.mpr nd)) (fun k => by rw [pn.mem_iff, ← hm k]) ?_⟩
  · have q := k1 b u e
    have hlt := Heap.lt_size q
    show (sortedHeap (s1.heap.push (seqObj "list" vs.toArray 0)) s1.heap.objs.size vs out.toArray).get? b = some u
    rw [sortedHeap_old (Nat.ne_of_lt hlt) (by rw [size_push']; exact Nat.lt_succ_of_lt hlt)]
    exact Heap.get?_push_of_some _ q
  · rw [pn.length_eq, List.length_map, Array.length_toList]; exact hn
end L2
namespace Pw
open PySem PySem.Spec PyProof.Rows L2
variable {X : Cx}
theorem cr_sortedSetW (hc : X.calm = true) : CallR X (.builtin "sorted") (fun vs H Q => ∃ (a : Addr) (S : Int → Bool) (n : Nat), vs = [V.ref a] ∧ H a = some (SetO X.w a S n) ∧ n ≤ sizeLine ∧
  ∀ (ns : List Int) (p : Addr), ns.Pairwise (· < ·) → (∀ k : Int, k ∈ ns ↔ S k = true) → ns.length = n → H p = none → Q (.ref p) (upd H p (.lst (ns.map V.int)))) := by
  intro pins s σ H vs us Q I r h
  obtain ⟨a, S, n, rfl, ha, hz, q⟩ := h
  have R := setO_get I ha
  rw [Vals.ref1 r]
  refine sorted_setW R (I.ok.hd hc) hz fun s' p out c ns k g o hp hg hi hs hm hl => ?_
  have hlen : (ns.map V.int).length ≤ sizeLine := by rw [List.length_map, hl]; exact hz
  have hn : H p = none := I.hok.fresh hp
  have J : Inv X pins σ (upd H p (.lst (ns.map V.int))) { s with heap := s'.heap, gens := s'.gens, drawn := s'.drawn, toks := s'.toks } :=
    I.call (ch := []) (Un.laid k hp hn) (I.hok.laid k hp ⟨hlen, out.toList, c, vals_of_ints hi, hg⟩) (by rw [g]; exact I.bare) (fun _ z => nomatch z)
  have e : s' = { s with heap := s'.heap, gens := s'.gens, drawn := s'.drawn, toks := s'.toks } := by
    cases s'
    cases s
    cases o
    rfl
  rw [e]
  exact ⟨.ref p, _, J, rfl, q ns p hs hm hl hn⟩
end Pw
set_option Elab.async false
set_option linter.all false
set_option maxRecDepth 100000
set_option maxHeartbeats 2000000
/-! set(list of texts), with the order of its table; sorted of it -/
namespace Pw
open PySem PySem.Spec PyProof.Rows L2
def keyT (e : Int × Value) : Str := strOf e.2
def GoodT (w : World) (e : Int × Value) : Prop := ∃ k tk, e.2 = Value.str k tk ∧ e.1 = hashStr w k
/-- the set at a holds the different ones of these texts -/
def SetT (w : World) (h : Heap) (a : Addr) (ns : List Str) : Prop :=
  ∃ o es ep t, h.get? a = some o ∧ o.ExactSet ∧ o.data = .set es ep t ∧ (∀ e ∈ es.toList, GoodT w e) ∧ (es.toList.map keyT).Nodup ∧ (∀ k, k ∈ ns ↔ k ∈ es.toList.map keyT) ∧
    es.size ≤ ns.length ∧ es.size < scanBound ∧ t.fits es.size = true ∧ Ris t.place.toList ∧ (w.params.followText "set-order" = true ∨ t.led = true)
theorem SetT.at {w : World} {h h' : Heap} {a : Addr} {ns : List Str} (R : SetT w h a ns) (k : ∀ o, h.get? a = some o → h'.get? a = some o) : SetT w h' a ns := by
  obtain ⟨o, es, ep, t, ho, r⟩ := R
  exact ⟨o, es, ep, t, k o ho, r⟩
theorem good_elemsT {P : Program} {w : World} {l : List (Int × Value)} (g : ∀ e ∈ l, GoodT w e) : ElemsOf (PySem.strKind P w) l := fun e he => by
  obtain ⟨k, tk, h1, h2⟩ := g e he
  exact ⟨⟨k, by rw [h1]; exact PySem.Froz.is_str _ _, h2⟩, by rw [h1] <;> rfl⟩
theorem good_isT {P : Program} {w : World} {e : Int × Value} (g : GoodT w e) (k : Str) : (PySem.strKind P w).is k e.2 = true ↔ keyT e = k := by
  obtain ⟨k0, tk, h1, _⟩ := g
  unfold keyT
  rw [h1]
  constructor
  · intro h
    exact ((PySem.strKind P w).inj (.str k0 tk) k k0 h (PySem.Froz.is_str _ _)).symm
  · intro h
    have h : k0 = k := h
    rw [← h]; exact PySem.Froz.is_str _ _
theorem good_memT {P : Program} {w : World} {l : List (Int × Value)} (g : ∀ e ∈ l, GoodT w e) (k : Str) : k ∈ l.map keyT ↔ ∃ e ∈ l, (PySem.strKind P w).is k e.2 = true := by
  rw [List.mem_map]
  constructor
  · rintro ⟨e, he, q⟩
    exact ⟨e, he, (good_isT (g e he) k).2 q⟩
  · rintro ⟨e, he, q⟩
    exact ⟨e, he, (good_isT (g e he) k).1 q⟩
theorem setT_new_at {w : World} {h : Heap} {a : Addr} (ho : h.get? a = some { cls := .type "set", dict := none, data := .set #[] 0 (.fresh 0 0 (!w.params.followText "set-order")) }) : SetT w h a [] :=
  ⟨_, #[], 0, _, ho, ⟨rfl, rfl, rfl⟩, rfl, (fun e he => by simp at he), (by simp), (fun k => by simp), (by simp), (by decide), (by rfl), List.Pairwise.nil, by
    show _ ∨ (!w.params.followText "set-order") = true
    cases w.params.followText "set-order"
    · exact .inr rfl
    · exact .inl rfl⟩
section
variable {P : Program} {w : World} {A : Around} {E : Value → Shared → Prop} {s : Shared} {a : Addr} {ns : List Str}
theorem setT_add_tail {g : Bool → Sem Unit} (hg : ∀ (b : Bool) (s₁ : Shared) (Q' : Unit → Shared → Prop), Q' () s₁ → wpAny (model P w) A (g b) Q' E s₁)
    {o : Obj} {es : Array (Int × Value)} {ep : Nat} {t : SetTable} (ho : s.heap.get? a = some o) (hex : o.ExactSet) (hd : o.data = .set es ep t)
    {es1 : Array (Int × Value)} {t2 : SetTable} {ns' : List Str} (g1 : ∀ e ∈ es1.toList, GoodT w e) (nd1 : (es1.toList.map keyT).Nodup) (m1 : ∀ k, k ∈ ns' ↔ k ∈ es1.toList.map keyT) (hle : es1.size ≤ ns'.length)
    (hb1 : es1.size < scanBound) (hf2 : t2.fits es1.size = true) (hr : Ris t2.place.toList) (hl : w.params.followText "set-order" = true ∨ t2.led = true) {wasDummy : Bool} {R : Option Bool → Shared → Prop}
    (hR : ∀ h', Heap.SameBut a s.heap h' → SetT w h' a ns' → R (some true) { s with heap := h' }) :
    wpAny (model P w) A (do
        storeSet a es1 t2
        if (!wasDummy && t2.tooFull) = true then do
            g (relayAll t2 es1 (SetTable.grown es1.size)).2.2
            storeSet a (relayAll t2 es1 (SetTable.grown es1.size)).1 (relayAll t2 es1 (SetTable.grown es1.size)).2.1
            pure (some true)
          else pure (some true)) R E s := by
  refine wpAny_bind (wpAny_storeSet_of ho hd ?_ (fits_of_scanBound hb1))
  have ho1 := store_at (es' := es1) (t' := t2) ho hd
  have sb1 := Heap.SameBut.update s.heap a (Obj.putSet es1 t2)
  split
  · have pm := relayAll_perm t2 es1 (SetTable.grown es1.size)
    have hf3 := relayAll_fits t2 es1 (SetTable.grown es1.size)
    have hr3 := relayAll_ris t2 es1 (SetTable.grown es1.size)
    have hl3 := relayAll_led t2 es1 (SetTable.grown es1.size)
    generalize relayAll t2 es1 (SetTable.grown es1.size) = Z at pm hf3 hr3 hl3 ⊢
    obtain ⟨es2, t3, gave⟩ := Z
    dsimp only at pm hf3 hr3 hl3 ⊢
    have hsz : es2.size = es1.size := by rw [← Array.length_toList, pm.length_eq, Array.length_toList]
    have hb2 : es2.size < scanBound := by rw [hsz]; exact hb1
    refine wpAny_bind (hg _ _ _ ?_)
    refine wpAny_bind (wpAny_storeSet_of ho1 rfl ?_ (fits_of_scanBound hb2))
    have ho2 := store_at (es' := es2) (t' := t3) ho1 rfl
    refine wpAny_pure (hR _ (sb1.trans (Heap.SameBut.update _ a _)) ?_)
    exact ⟨_, es2, _, t3, ho2, hex, rfl, fun e he => g1 e (pm.mem_iff.mp he), (pm.map keyT).nodup_iff.mpr nd1, fun k => (m1 k).trans (pm.map keyT).mem_iff.symm, by rw [hsz]; exact hle, hb2, hf3, hr3,
      hl.imp id fun z => by rw [hl3]; exact z⟩
  · exact wpAny_pure (hR _ sb1 ⟨_, es1, _, t2, ho1, hex, rfl, g1, nd1, m1, hle, hb1, hf2, hr, hl⟩)
theorem setT_add_hashed {k : Str} {tk : Tok} {Q : Bool → Shared → Prop} (R : SetT w s.heap a ns) (room : ns.length + 1 < scanBound)
    (hQ : ∀ h' b, Heap.SameBut a s.heap h' → SetT w h' a (ns ++ [k]) → Q b { s with heap := h' }) :
    wpAny (model P w) A (setAddHashed a (.str k tk) ((PySem.strKind P w).hash k)) Q E s := by
  obtain ⟨o, es, ep, t, ho, hex, hd, g, nd, hm, hle, hb, hf, hr, hl⟩ := R
  have hkey : (PySem.strKind P w).is k (.str k tk) = true := PySem.Froz.is_str _ _
  have hsc : (Value.str k tk).scannable = true := rfl
  have hel : ElemsOf (PySem.strKind P w) es.toList := good_elemsT g
  unfold setAddHashed setAddHashedIn
  refine wpAny_holding (wpAny_bind (wpAny_setState_of ho hd hf ?_))
  dsimp only
  rw [byScan_of hsc hb hel]
  simp only [↓reduceIte]
  unfold setAddByScan
  refine wpAny_bind ?_
  refine wpAny_bind (wpAny_rule ?_)
  refine wpAny_bind (wpAny_setScan_of (knd := PySem.strKind P w) (k := k) hkey ho hd hf hel ?_)
  cases hfi : List.findIdx? (fun e => (PySem.strKind P w).is k e.2) es.toList with
  | some j =>
    dsimp only
    obtain ⟨hj, pj, _⟩ := List.findIdx?_eq_some_iff_getElem.mp hfi
    have hSk : k ∈ ns := (hm k).2 ((good_memT (P := P) (w := w) g k).2 ⟨es.toList[j], List.getElem_mem hj, pj⟩)
    refine wpAny_pure (wpAny_pure ?_)
    exact hQ s.heap _ (Heap.SameBut.refl a s.heap) ⟨o, es, ep, t, ho, hex, hd, g, nd, fun i => by
      rw [List.mem_append, List.mem_singleton, ← hm i]
      exact ⟨fun z => z.elim id (fun e => e ▸ hSk), .inl⟩, by rw [List.length_append]; exact Nat.le_trans hle (Nat.le_add_right _ _), hb, hf, hr, hl⟩
  | none =>
    dsimp only
    have hnk : k ∉ es.toList.map keyT := fun z => by
      obtain ⟨e, he, q⟩ := (good_memT (P := P) (w := w) g k).1 z
      have c := List.findIdx?_eq_none_iff.mp hfi e he
      rw [q] at c
      cases c
    have hgw : ∀ (b : Bool) {s₁ : Shared} {Q' : Unit → Shared → Prop}, Q' () s₁ → wpAny (model P w) A (match b with | true => rule "set.scan.the-table-gave-way" | false => pure ()) Q' E s₁ :=
      fun b s₁ Q' q => by cases b <;> first | exact wpAny_pure q | exact wpAny_rule q
    have pm := layNew_perm t es ((PySem.strKind P w).hash k) (.str k tk)
    have hf1 := layNew_fits t es ((PySem.strKind P w).hash k) (.str k tk)
    have hr1 := layNew_ris t es ((PySem.strKind P w).hash k) (.str k tk) hr
    have hl1 := layNew_led t es ((PySem.strKind P w).hash k) (.str k tk)
    generalize layNew t es ((PySem.strKind P w).hash k) (.str k tk) = Z at pm hf1 hr1 hl1 ⊢
    obtain ⟨es1, t1, wasDummy, gave⟩ := Z
    dsimp only at pm hf1 hr1 hl1 ⊢
    rw [Array.toList_push] at pm
    have pc : es1.toList.Perm (((PySem.strKind P w).hash k, Value.str k tk) :: es.toList) := pm.trans (List.perm_append_singleton _ _)
    have pk : (es1.toList.map keyT).Perm (k :: es.toList.map keyT) := pc.map keyT
    have g1 : ∀ e ∈ es1.toList, GoodT w e := fun e he => by
      rcases List.mem_cons.mp (pc.mem_iff.mp he) with z | z
      · rw [z]; exact ⟨k, tk, rfl, rfl⟩
      · exact g e z
    have nd1 : (es1.toList.map keyT).Nodup := pk.nodup_iff.mpr (List.nodup_cons.mpr ⟨hnk, nd⟩)
    have m1 : ∀ i, i ∈ ns ++ [k] ↔ i ∈ es1.toList.map keyT := fun i => by
      rw [List.mem_append, List.mem_singleton, hm i, pk.mem_iff, List.mem_cons]
      exact Or.comm
    have hsz : es1.size = es.size + 1 := by rw [← Array.length_toList, pc.length_eq, List.length_cons, Array.length_toList]
    have hle1 : es1.size ≤ (ns ++ [k]).length := by rw [hsz, List.length_append]; exact Nat.add_le_add_right hle 1
    have hb1 : es1.size < scanBound := by omega
    have hled : w.params.followText "set-order" = true ∨ t1.led = true := hl.imp id fun z => by rw [hl1]; exact z
    refine wpAny_bind (hgw _ ?_)
    split
    · refine wpAny_bind ?_
      rw [hashByValue_scannable 8 hsc]
      refine wpAny_pure ?_
      refine setT_add_tail (ns' := ns ++ [k]) ?_ ho hex hd g1 nd1 m1 hle1 hb1 ?_ ?_ ?_ ?_
      · intro b s₁ Q' q; cases b <;> first | exact wpAny_pure q | exact wpAny_rule q
      · first | (split <;> first | exact hf1 | exact SetTable.fits_plain_off hf1) | exact hf1
      · first | (split <;> exact hr1) | exact hr1
      · first | (split <;> exact hled) | exact hled
      · intro h' sb r; dsimp only; exact wpAny_pure (hQ h' _ sb r)
    · refine wpAny_bind (wpAny_pure ?_)
      simp only [↓reduceIte]
      refine setT_add_tail (ns' := ns ++ [k]) ?_ ho hex hd g1 nd1 m1 hle1 hb1 hf1 hr1 hled ?_
      · intro b s₁ Q' q; cases b <;> first | exact wpAny_pure q | exact wpAny_rule q
      · intro h' sb r; dsimp only; exact wpAny_pure (hQ h' _ sb r)
end
theorem set_update_strs {P : Program} {w : World} {A : Around} {I : Addr} {fp wr : List Addr} {G : Array GenState → Array GenState → Prop} {n : Nat} {Pv : Nat → Value → Prop} {St : Nat → Shared → Prop} {R : Result → Shared → Prop}
    (W : WalksS P w A.in1 I fp wr G n Pv St) (S : Addr) (hSf : S ∉ fp) (ns : List Str) (hn : n = ns.length) (hb : ns.length + 1 < scanBound) (hval : ∀ i v, Pv i v → ∃ k t, ns[i]? = some k ∧ v = .str k t) :
    ∀ (k i : Nat) (s : Shared), n - i = k → i ≤ n → St i s → SetT w s.heap S (ns.take i) →
      (∀ s', Moved (S :: wr) G s s' → SetT w s'.heap S ns → R (.ok (.ret .none)) s') →
      codeAny (model P w) A (.builtin "set.update.loop" ⟨[.ref S, .ref I], []⟩) R s := by
  have hSw : S ∉ wr := fun h => hSf (W.sub _ h)
  have hsub : ∀ b ∈ wr, b ∈ S :: wr := fun b hb => List.mem_cons_of_mem _ hb
  intro k
  induction k with
  | zero =>
    intro i s hk' hi hst hS hR
    have hin : i = n := by omega
    subst hin
    refine codeAny_builtin F.entry_set_update_loop ?_
    rw [Around.under_plainId F.plain_set_update_loop _]
    show wpAny _ A.in1 (pyNext (.ref I) >>= _) _ _ s
    refine wpAny_bind (W.done s _ _ hst fun s' hm => ?_)
    show wpAny _ A.in1 (ret Value.none) _ _ s'
    have e : ns.take i = ns := List.take_of_length_le (by omega)
    rw [e] at hS
    exact wpAny_pure (hR s' (hm.mono hsub) (hS.at fun o ho => hm.heap S _ hSw ho))
  | succ k ih =>
    intro i s hk' hi hst hS hR
    have hlt : i < n := by omega
    refine codeAny_builtin F.entry_set_update_loop ?_
    rw [Around.under_plainId F.plain_set_update_loop _]
    show wpAny _ A.in1 (pyNext (.ref I) >>= _) _ _ s
    refine wpAny_bind (W.item i s _ _ hlt hst fun v s' hP hst' hm => ?_)
    obtain ⟨z, t, hz, rfl⟩ := hval i v hP
    have hS' : SetT w s'.heap S (ns.take i) := hS.at fun o ho => hm.heap S _ hSw ho
    show wpAny _ A.in1 (holding [Value.str z t] (setAdd S (.str z t)) >>= _) _ _ s'
    refine wpAny_bind (wpAny_holding ?_)
    unfold setAdd
    refine wpAny_holding ?_
    refine wpAny_bind ((PySem.strKind P w).pyHash (k := z) (PySem.Froz.is_str _ _) ?_)
    refine setT_add_hashed (s := { s' with toks := s'.toks + 1 }) hS' (by simp only [List.length_take]; omega) fun h' b hsb hS2 => ?_
    have hS3 : SetT w h' S (ns.take (i + 1)) := by
      rw [List.take_add_one, hz]
      exact hS2
    refine wpAny_pure ⟨plainId_quiet F.plain_set_update_loop _, ih (i + 1) _ (by omega) hlt (W.frame _ s' _ _ hst' (Nat.le_succ _) fun b hb o e => ?_) hS3 fun s'' hm'' hS'' => ?_⟩
    · rw [hsb.2 b (fun h : b = S => hSf (by rw [← h]; exact hb))]; exact e
    · refine hR s'' (Moved.trans W.gtrans ((hm.mono hsub).then_heap (Nat.le_succ _) fun b o hb e => ?_) hm'') hS''
      rw [hsb.2 b (fun h : b = S => hb (by rw [h]; exact List.mem_cons_self))]; exact e
theorem call_set_lstT {P : Program} {w : World} {A : Around} {E : Value → Shared → Prop} {s : Shared} {l : Addr} {items : Array Value} (ns : List Str) {Q : Value → Shared → Prop}
    (hh : A.handled = none) (hl : s.heap.IsList l items) (hit : PyProof.Rows.StrsAre items.toList ns) (hb : ns.length + 1 < scanBound)
    (h : ∀ (h' : Heap) (tk : Nat), SetT w h' s.heap.objs.size ns → (∀ (b : Addr) (o : Obj), s.heap.get? b = some o → h'.get? b = some o) →
      Q (.ref s.heap.objs.size) { heap := h', gens := s.gens, drawn := s.drawn, toks := tk, os := s.os }) :
    wpAny (model P w) A (call (.type "set") [.ref l]) Q E s := by
  have hisz : items.size = ns.length := by have q := StrsAre.len_eq hit; rwa [Array.length_toList] at q
  obtain ⟨c, tl, hmro⟩ := TypeCalled.mro F.called_set
  have hmade := TypeCalled.made F.called_set
  have hsub := TypeCalled.sub F.called_set
  refine wpAny_call (codeAny_of_tree ?_)
  refine wpAny_pure ⟨Code.quiet_builtin _ (by decide +kernel), codeAny_builtin F.entry_type_call ?_⟩
  rw [Around.under_plain (weight_type_call_type "set" [Value.ref l] []) rfl]
  unfold Builtin.«type.__call__»
  have h1 := TypeCalled.notType F.called_set
  have h2 := TypeCalled.canCreate F.called_set
  have hct := F.typeCall_set_1 (Value.ref l)
  refine wpAny_ite_false (by rfl) (wpAny_ite_false (by rfl) ?_)
  refine wpAny_bind (wpAny_of_eq hct ?_)
  refine wpAny_bind (wpAny_of_eq hmro ?_)
  refine wpAny_ite_false rfl ?_
  refine wpAny_bind (wpAny_of_eq hmade ?_)
  refine wpAny_bind (wpAny_pure ?_)
  refine wpAny_bind (wpAny_holding ?_)
  refine wpAny_call (codeAny_mono (code_set_led1 (E := E) (Q₁ := fun obj s₁ => obj = Value.ref s.heap.objs.size ∧ s₁ = { heap := s.heap.push { cls := Value.type "set", data := Data.set #[] 0 (SetTable.fresh 0 0 !w.params.followText "set-order") }, gens := s.gens, drawn := s.drawn, toks := s.toks, os := s.os }) (Value.ref l) ⟨rfl, rfl⟩) fun r s₁ hr => ?_)
  cases r with
  | error e => exact hr
  | ok fl =>
    cases fl with
    | ret obj =>
      obtain ⟨rfl, rfl⟩ := hr
      have hS : (s.heap.push { cls := Value.type "set", data := Data.set #[] 0 (SetTable.fresh 0 0 !w.params.followText "set-order") }).get? s.heap.objs.size = some { cls := Value.type "set", data := Data.set #[] 0 (SetTable.fresh 0 0 !w.params.followText "set-order") } := Heap.get?_push_size _ rfl
      have hT : Shared.TypeIs { heap := s.heap.push { cls := Value.type "set", data := Data.set #[] 0 (SetTable.fresh 0 0 !w.params.followText "set-order") }, gens := s.gens, drawn := s.drawn, toks := s.toks, os := s.os } (Value.ref s.heap.objs.size) "set" := ⟨_, hS, rfl⟩
      have hli := Slot.lookup (TypeCalled.init F.called_set)
      have hbi := Slot.bind (TypeCalled.init F.called_set) (Value.ref s.heap.objs.size)
      refine wpAny_bind (wpAny_isInstance hT hsub (wpAny_ite_false rfl ?_))
      refine wpAny_bind (wpAny_holding ?_)
      refine wpAny_bind (wpAny_specialOf hT hli (wpAny_holding ?_))
      refine wpAny_bind (wpAny_of_eq hbi ?_)
      refine wpAny_bind (wpAny_call (codeAny_mono (R := wants (fun v s₂ => v = Value.none ∧ ∃ h' tk, s₂ = { heap := h', gens := s.gens, drawn := s.drawn, toks := tk, os := s.os } ∧ SetT w h' s.heap.objs.size ns ∧ ∀ (b : Addr) (o : Obj), s.heap.get? b = some o → h'.get? b = some o) E) (codeAny_call_builtin (Slot.plain (TypeCalled.init F.called_set)) F.entry_set_init (check_set_init_1 hT ?_)) ?_))
      · unfold Builtin.«set.__init__»
        obtain ⟨ol, hol, hcl, nl, hdl⟩ := hl
        obtain ⟨ocls, odict, odata, oslots⟩ := ol
        obtain rfl : ocls = Value.type "list" := hcl
        obtain rfl : odata = Data.seq items nl := hdl
        have hol' : (s.heap.push { cls := Value.type "set", data := Data.set #[] 0 (SetTable.fresh 0 0 !w.params.followText "set-order") }).get? l = some _ := Heap.get?_push_of_some _ hol
        have hl1 : (s.heap.push { cls := Value.type "set", data := Data.set #[] 0 (SetTable.fresh 0 0 !w.params.followText "set-order") }).IsList l items := ⟨_, hol', rfl, nl, rfl⟩
        refine wpAny_bind (wpAny_ite_true rfl (wpAny_pure ?_))
        refine wpAny_bind (wpAny_bind (wpAny_bind (wpAny_typeOf hT (wpAny_ite_false rfl (wpAny_pure (wpAny_pure ?_))))))
        refine wpAny_bind ?_
        unfold checkCount
        refine wpAny_ite_false rfl (wpAny_ite_false rfl (wpAny_ite_false rfl (wpAny_pure ?_)))
        unfold Builtin.Frozenset.addrOf
        refine wpAny_bind (wpAny_pure ?_)
        refine wpAny_bind ?_
        unfold setUsed
        refine wpAny_bind ?_
        refine wpAny_bind (wpAny_load' hS (wpAny_ite_false rfl (wpAny_pure (wpAny_pure ?_))))
        refine wpAny_ite_false rfl ?_
        refine wpAny_bind ?_
        unfold Builtin.Frozenset.updateFrom
        refine wpAny_bind ?_
        unfold Builtin.Frozenset.isAnySet
        refine wpAny_bind ?_
        unfold isInstance
        refine wpAny_bind ?_
        unfold typeOf
        refine wpAny_bind (wpAny_loadPart' hol' (wpAny_pure ?_))
        refine wpAny_of_eq F.sub_list_set ?_
        refine wpAny_bind (wpAny_bind (wpAny_loadPart' hol' (wpAny_pure (wpAny_of_eq F.sub_list_frozenset (wpAny_ite_false rfl ?_)))))
        refine wpAny_bind (wpAny_bind (wpAny_loadPart' hol' (wpAny_pure (wpAny_ite_false rfl ?_))))
        refine wpAny_bind (wpAny_pyIter_list hl1 ?_)
        refine wpAny_bind (wpAny_runValue ?_)
        have hll : l < s.heap.objs.size := Heap.lt_size hol
        have hsz : ∀ o : Obj, (s.heap.push o).objs.size = s.heap.objs.size + 1 := fun o => by simp [Heap.push]
        have hh3 : A.in1.in1.in1.handled = none := hh
        have hget : ((s.heap.push { cls := Value.type "set", data := Data.set #[] 0 (SetTable.fresh 0 0 !w.params.followText "set-order") }).push { cls := Value.type "list_iterator", data := Data.fields #[Value.ref l, Value.int 0 0] }).get? s.heap.objs.size = some _ := Heap.get?_push_of_some _ hS
        refine set_update_strs (Walks.toS (Walks.list hh3 _ l ?_ items)) s.heap.objs.size ?_ ns hisz hb ?_ _ 0 _ rfl (Nat.zero_le _) ⟨?_, ?_⟩ (setT_new_at hget) ?_
        · show l ≠ (s.heap.push _).objs.size
          rw [hsz]; exact Nat.ne_of_lt (Nat.lt_succ_of_lt hll)
        · show ¬ s.heap.objs.size ∈ [(s.heap.push _).objs.size, l]
          rw [hsz]
          intro hm
          rcases List.mem_cons.mp hm with e | hm
          · exact absurd e (Nat.ne_of_lt (Nat.lt_succ_self _))
          · exact absurd (List.mem_singleton.mp hm) (Nat.ne_of_gt hll)
        · intro i v hv
          have hv' : items.toList[i]? = some v := by rw [← hv]; simp
          obtain ⟨t, ht⟩ := SS.strs_at hit i v hv'
          have hi := (List.getElem?_eq_some_iff.mp hv').1
          have hi' : i < ns.length := by rw [← hisz]; simpa using hi
          refine ⟨ns[i], t, List.getElem?_eq_getElem hi', ?_⟩
          rw [ht, List.getD_eq_getElem?_getD, List.getElem?_eq_getElem hi']; rfl
        · exact ⟨_, Heap.get?_push_size _ rfl, rfl, rfl⟩
        · exact ⟨_, Heap.get?_push_of_some _ hol', rfl, nl, rfl⟩
        · intro s' hm hS'
          obtain ⟨h', g2, d', tk', os'⟩ := s'
          obtain ⟨m1, m2, m3, m4, _⟩ := hm
          have eg : g2 = s.gens := m2
          have ed : d' = s.drawn := m3
          have eo : os' = s.os := m4
          subst eg ed eo
          refine wpAny_pure (wpAny_pure ⟨rfl, h', tk', rfl, hS', fun b o e => ?_⟩)
          have hb := Heap.lt_size e
          refine m1 b o ?_ (Heap.get?_push_of_some _ (Heap.get?_push_of_some _ e))
          intro hm
          rcases List.mem_cons.mp hm with e1 | hm
          · exact absurd e1 (Nat.ne_of_lt hb)
          · have e2 := List.mem_singleton.mp hm
            have e3 : b = s.heap.objs.size + 1 := e2.trans (hsz _)
            exact absurd e3 (Nat.ne_of_lt (Nat.lt_succ_of_lt hb))
      · intro r₂ s₂ hr₂
        cases r₂ with
        | error e => exact hr₂
        | ok fl₂ =>
          cases fl₂ with
          | ret r =>
            obtain ⟨rfl, h', tk, rfl, hS', hk'⟩ := hr₂
            refine wpAny_pure (wpAny_ite_false rfl (wpAny_pure ?_))
            exact h h' tk hS' hk'
          | _ => exact hr₂.elim
    | _ => exact hr.elim
/-! sorted of it: some order of the different ones -/
theorem sorted_setT {P : Program} {w : World} {A : Around} {E : Value → Shared → Prop} {s : Shared} {a : Addr} {ns : List Str} {Q : Value → Shared → Prop} (R : SetT w s.heap a ns) (hh : A.handled = none) (hz : ns.length ≤ sizeLine)
    (hQ : ∀ s' p (out : Array Value) (c : Nat) (ms : List Str), (∀ b o, s.heap.get? b = some o → s'.heap.get? b = some o) → s'.gens = s.gens → s'.os = s.os → s.heap.objs.size ≤ p →
      s'.heap.get? p = some (seqObj "list" out c) → StrsAre out.toList ms → sortedS ms = true → ms.Nodup → (∀ k, k ∈ ms ↔ k ∈ ns) → ms.length ≤ ns.length → Q (.ref p) s') :
    wpAny (model P w) A (call (.builtin "sorted") [.ref a]) Q E s := by
  obtain ⟨o, es, ep, t, ho, hex, hd, g, nd, hm, hle, hb, hf, hr, hl⟩ := R
  refine Calls.call_function_entry kind_sorted plain_sorted entry_sorted (args_sorted1 _) ?_
  unfold Builtin.«sorted»
  refine wpAny_bind (m := checkCount "sorted" 1 1 _) (wpAny_pure ?_)
  refine wpAny_bind (collect_set (A := A.in1) hh ⟨o, ho, hex.1, hd⟩ hf hb hr hl fun s1 vs k1 hz1 g1 o1 pm => ?_)
  have hvl : vs.length = es.size := by rw [pm.length_eq, List.length_map, Array.length_toList]
  have hI : StrsAre vs (vs.map strOf) := strsAre_map vs fun v hv => by
    obtain ⟨e, he, q⟩ := List.mem_map.mp (pm.mem_iff.mp hv)
    obtain ⟨k, tk, h1, _⟩ := g e he
    exact ⟨k, tk, by rw [← q]; exact h1⟩
  have pk : (vs.map strOf).Perm (es.toList.map keyT) := by
    have q := pm.map strOf
    rw [List.map_map] at q
    exact q
  refine wpAny_bind (wpAny_newList ?_ (by omega))
  have hoL : (s1.heap.push (seqObj "list" vs.toArray 0)).get? s1.heap.objs.size = some (seqObj "list" vs.toArray 0) := Heap.get?_push_size _ rfl
  refine wpAny_bind (wpAny_holding (wpAny_call_entry slot_list_sort ⟨_, hoL, rfl⟩ entry_list_sort
    (list_sort_treeKAny strKind_oneLt hoL hI.keysOf (fun v₁ v₂ rest e => keyKind_strs (by rw [← e]; exact hI)) (by omega) fun st' hp hs => ⟨_, rfl, ?_⟩) (args_list_sort _)))
  obtain ⟨ys, a1, a2, a3⟩ := sorted_out_str hI hp hs
  obtain ⟨c, hc⟩ := sortedHeap_at (vs := vs) (out := (arrOf st').map (·.2)) hoL
  have pn : ys.Perm (es.toList.map keyT) := a2.trans pk
  refine wpAny_pure ⟨_, rfl, hQ _ s1.heap.objs.size _ c ys (fun b u e => ?_) g1 o1 hz1 hc a1 a3 (pn.nodup_iff.mpr nd) (fun k => by rw [pn.mem_iff, ← hm k]) ?_⟩
  · have q := k1 b u e
    have hlt := Heap.lt_size q
    show (sortedHeap (s1.heap.push (seqObj "list" vs.toArray 0)) s1.heap.objs.size vs _).get? b = some u
    rw [sortedHeap_old (Nat.ne_of_lt hlt) (by rw [size_push']; exact Nat.lt_succ_of_lt hlt)]
    exact Heap.get?_push_of_some _ q
  · rw [pn.length_eq, List.length_map, Array.length_toList]; exact hle
variable {X : Cx}
def SetOT (w : World) (a : Addr) (ns : List Str) : HO := .ext fun h => SetT w h a ns
theorem setOT_new {w : World} {P : Program} {H : Hp} {h : Heap} {a : Addr} {ns : List Str} (R : SetT w h a ns) : ObjOk P w H h a (SetOT w a ns) := by
  have ⟨o, _, _, _, ho, _⟩ := R
  exact ⟨R, ⟨o, ho⟩, fun h1 h2 p k => SetT.at p k⟩
theorem setOT_get {pins : List (Addr × Obj)} {σ : L2.St} {H : Hp} {s : Shared} {a : Addr} {ns : List Str} (I : L2.Inv X pins σ H s) (ha : H a = some (SetOT X.w a ns)) : SetT X.w s.heap a ns := (I.hok a _ ha).1
end Pw
set_option Elab.async false
set_option linter.all false
set_option maxRecDepth 100000
set_option maxHeartbeats 2000000
namespace Pw
open PySem PySem.Spec PyProof.Rows L2

theorem intsAre_of : ∀ {ns : List Int} {us : List Value}, Vals (ns.map V.int) us → IntsAre us ns
  | [], _, .nil => .nil
  | n :: _, _, .cons r t => by
    obtain ⟨tk, rfl⟩ := r
    exact .cons n tk (intsAre_of t)
theorem boot_set : bootBuiltins "set" = some (.type "set") := rfl
section
variable {X : Cx} {e : Expr} {te : TE} {p pos : Pos}
def tSetT2 (K : PySem.W.Frag) (w : World) (te : TE) : TE := fun σ H Q => te σ H fun v H1 => (∃ (a : Addr) (ns : List Int), v = .ref a ∧ (SqT K H1 a (ns.map V.int) ∨ SqL K H1 a (ns.map V.int)) ∧ ns.length ≤ 1000 ∧ ∀ q c, H1 q = none → c ≤ ns.length → Q (.ref q) (upd H1 q (SetO w q (fun j => decide (j ∈ ns)) c))) ∨
  ∃ (a : Addr) (xs : List Str), v = .ref a ∧ SqL K H1 a (xs.map V.str) ∧ xs.length ≤ 1000 ∧ ∀ q, H1 q = none → Q (.ref q) (upd H1 q (SetOT w q xs))
theorem pe_setT (hc : X.calm = true) (hg : Gl X "set") (hm : X.mg "set" = none) (he : PE X e te) (hs : starEach [e] X.env = (false, eval e X.env) :: starEach [] X.env) :
    PE X (.Call (.Name "set" p) [e] [] pos) (tSetT2 X.K X.w te) := by
  refine ⟨fun pins s σ H Q I h => ?_⟩
  refine Call_ (ld_blt I hg hm boot_set (PyProof.Rows.callWith_type1 (args_cons (thn (he.run pins s σ H _ I h) fun u s1 ⟨v, H1, I1, r1, q1⟩ => args_nil ?_) hs) hs rfl))
  rcases q1 with ⟨a, ns, ev, hq, hl, q⟩ | ⟨a, xs, ev, hq, hl, q⟩
  rotate_left
  · subst ev
    obtain rfl : u = Value.ref a := r1
    obtain ⟨us, r, z, _⟩ := I1.list hq
    refine call_set_lstT xs (I1.ok.hd hc) z.isList (L2.strsAre_of r) (Nat.lt_of_le_of_lt (Nat.add_le_add_right hl 1) (by decide)) fun h' tk hS hk => ?_
    exact ⟨.ref s1.heap.objs.size, upd H1 s1.heap.objs.size (SetOT X.w s1.heap.objs.size xs), I1.turnedNew (ch := []) (fun b o _ x => hk b o x) (fun b hb => nomatch hb) (Nat.le_refl _) (setOT_new hS), rfl, q _ (I1.hok.fresh (Nat.le_refl _))⟩
  subst ev
  obtain rfl : u = Value.ref a := r1
  have fin : ∀ (h' : Heap) (tk c : Nat), SetR X.w h' s1.heap.objs.size (fun j => decide (j ∈ ns)) c → c ≤ ns.length → (∀ (b : Addr) (o : Obj), s1.heap.get? b = some o → h'.get? b = some o) → EP X pins σ Q (Value.ref s1.heap.objs.size) { heap := h', gens := s1.gens, drawn := s1.drawn, toks := tk, os := s1.os } := by
    intro h' tk c hS hcl hk
    exact ⟨.ref s1.heap.objs.size, upd H1 s1.heap.objs.size (SetO X.w s1.heap.objs.size (fun j => decide (j ∈ ns)) c), I1.turnedNew (ch := []) (fun b o _ x => hk b o x) (fun b hb => nomatch hb) (Nat.le_refl _) (setO_new hS), rfl, q _ c (I1.hok.fresh (Nat.le_refl _)) hcl⟩
  rcases hq with hq | hq
  · obtain ⟨us, r, z, _⟩ := I1.tuple hq
    exact call_set_tupI ns (I1.ok.hd hc) (show s1.heap.IsTuple a us.toArray from z) (intsAre_of r) (Nat.lt_of_le_of_lt (Nat.add_le_add_right hl 1) (by decide)) fin
  · obtain ⟨us, r, z, _⟩ := I1.list hq
    exact call_set_lstI ns (I1.ok.hd hc) z.isList (intsAre_of r) (Nat.lt_of_le_of_lt (Nat.add_le_add_right hl 1) (by decide)) fin
end
/-- sorted of a set of whole numbers, or of texts -/
theorem cr_sortedSet2 {X : Cx} (hc : X.calm = true) : CallR X (.builtin "sorted") (fun vs H Q => (∃ (a : Addr) (S : Int → Bool) (n : Nat), vs = [V.ref a] ∧ H a = some (SetO X.w a S n) ∧ n ≤ sizeLine ∧
  ∀ (ns : List Int) (p : Addr), ns.Pairwise (· < ·) → (∀ k : Int, k ∈ ns ↔ S k = true) → ns.length = n → H p = none → Q (.ref p) (upd H p (.lst (ns.map V.int)))) ∨
  ∃ (a : Addr) (xs : List Str), vs = [V.ref a] ∧ H a = some (SetOT X.w a xs) ∧ xs.length ≤ sizeLine ∧
  ∀ (ms : List Str) (p : Addr), ms.Nodup → (∀ k, k ∈ ms ↔ k ∈ xs) → ms.length ≤ xs.length → H p = none → Q (.ref p) (upd H p (.lst (ms.map V.str)))) := by
  intro pins s σ H vs us Q I r h
  rcases h with h | ⟨a, xs, rfl, ha, hz, q⟩
  · exact cr_sortedSetW hc pins s σ H vs us Q I r h
  have R := setOT_get I ha
  rw [Vals.ref1 r]
  refine sorted_setT R (I.ok.hd hc) hz fun s' p out c ms k g o hp hg hi hsd hs hm hl => ?_
  have hlen : (ms.map V.str).length ≤ sizeLine := by rw [List.length_map]; omega
  have hn : H p = none := I.hok.fresh hp
  have J : L2.Inv X pins σ (upd H p (.lst (ms.map V.str))) { s with heap := s'.heap, gens := s'.gens, drawn := s'.drawn, toks := s'.toks } :=
    I.call (ch := []) (Un.laid k hp hn) (I.hok.laid k hp ⟨hlen, out.toList, c, vals_of_strs hi, hg⟩) (by rw [g]; exact I.bare) (fun _ z => nomatch z)
  have e : s' = { s with heap := s'.heap, gens := s'.gens, drawn := s'.drawn, toks := s'.toks } := by
    cases s'
    cases s
    cases o
    rfl
  rw [e]
  exact ⟨.ref p, _, J, rfl, q ms p hs hm hl hn⟩
section
variable {X : Cx} {xk : XD} {W : WX} {G : Gc} {C : Ct} {Γ : String → SpD} {k : Nat} {a : Expr} {wa : St → Mp → DK → Prop} {pos q : Pos}
theorem r_sset (g : GX X G C Γ k W) (m : Bool) {f h : Expr} (hf : nameB C G "sorted" f = true) (hh : nameB C G "set" h = true) (hn : noStar a = true) (ha : PE X a (LE X xk W wa)) :
    PE X (.Call f [.Call h [a] [] q] [] pos) (LE X xk W fun δ M Q => wa δ M fun x M1 => ssetD m x M1 Q) := by
  obtain ⟨p1, rfl, q1, q2, q3, q4⟩ := nameB_of g hf
  obtain ⟨p2, rfl, s1, s2, s3, s4⟩ := nameB_of g hh
  refine pe_imp (pe_callB (cr_sortedSet2 g.calm) q1 q2 rfl (pa_cons (pe_setT g.calm s1 s2 ha (star_cons hn)) pa_nil)) fun σ H Q hx => ?_
  obtain ⟨δ, M, U, R, r, xo, hx, out⟩ := hx
  refine ⟨δ, M, U, _, r, xo, hx, fun d M1 v U1 H1 e k rm rv hR => ?_⟩
  unfold ssetD at hR
  split at hR
  · rename_i ds
    split at hR
    · rename_i ns hns
      simp only [RV] at rv
      obtain ⟨a, vs, rfl, hq, rr⟩ := rv
      obtain ⟨rfl, rfl⟩ := RVs.ints_of hns rr
      obtain ⟨hl, hR⟩ := hR
      refine .inl ⟨a, ns, rfl, .inl (k.vw.sqT hq), by omega, fun p c hp hc => ?_⟩
      have hUp := k.vw.none hp
      refine .inl ⟨p, _, c, rfl, upd_same, by rw [sizeLine_eq]; omega, fun ms z h1 h2 _ hz => ?_⟩
      have start : Go X.K M1 U1 H1 M1 U1 (upd H1 p (SetO X.w p (fun j => decide (j ∈ ns)) c)) := ⟨.refl, ⟨fun a o ha n => by
        rw [upd_ne (ne_of_none ha hp)]
        exact ⟨ha, n⟩, fun a o ha => by
        rw [upd_ne (ne_of_none ha hUp)]
        exact k.vw _ _ ha⟩, rm⟩
      exact ((out.mono e k).mono start.ex start.kp).lst start.kp.vw start.rm RVs.ints (hR ms h1 fun k => by simpa using h2 k) hz
    · exact hR.elim
  · rename_i ds
    split at hR
    · rename_i ns hns
      obtain ⟨a, vs, rfl, hq, rr⟩ := lstOf_at k.vw rm (ds := ds) rfl rv
      obtain ⟨rfl, rfl⟩ := RVs.ints_of hns rr
      obtain ⟨hl, hR⟩ := hR
      refine .inl ⟨a, ns, rfl, .inr hq, by omega, fun p c hp hc => ?_⟩
      have hUp := k.vw.none hp
      refine .inl ⟨p, _, c, rfl, upd_same, by rw [sizeLine_eq]; omega, fun ms z h1 h2 _ hz => ?_⟩
      have start : Go X.K M1 U1 H1 M1 U1 (upd H1 p (SetO X.w p (fun j => decide (j ∈ ns)) c)) := ⟨.refl, ⟨fun a o ha n => by
        rw [upd_ne (ne_of_none ha hp)]
        exact ⟨ha, n⟩, fun a o ha => by
        rw [upd_ne (ne_of_none ha hUp)]
        exact k.vw _ _ ha⟩, rm⟩
      exact ((out.mono e k).mono start.ex start.kp).lst start.kp.vw start.rm RVs.ints (hR ms h1 fun k => by simpa using h2 k) hz
    · split at hR
      · rename_i xs hxs
        obtain ⟨a, vs, rfl, hq, rr⟩ := lstOf_at k.vw rm (ds := ds) rfl rv
        obtain rfl := RVs.strs_of hxs rr
        obtain ⟨hl, hR⟩ := hR
        refine .inr ⟨a, xs, rfl, hq, hl, fun p hp => ?_⟩
        have hUp := k.vw.none hp
        refine .inr ⟨p, xs, rfl, upd_same, by rw [sizeLine_eq]; omega, fun ms z h1 h2 h3 hz => ?_⟩
        have start : Go X.K M1 U1 H1 M1 U1 (upd H1 p (SetOT X.w p xs)) := ⟨.refl, ⟨fun a o ha n => by
          rw [upd_ne (ne_of_none ha hp)]
          exact ⟨ha, n⟩, fun a o ha => by
          rw [upd_ne (ne_of_none ha hUp)]
          exact k.vw _ _ ha⟩, rm⟩
        exact ((out.mono e k).mono start.ex start.kp).lst start.kp.vw start.rm RVs.strs (hR ms h1 h2 h3) hz
      · exact hR.elim
  · exact hR.elim
end
end Pw
set_option Elab.async false
set_option linter.all false
set_option maxRecDepth 100000
set_option maxHeartbeats 2000000
namespace Pw
open PySem PySem.Spec PyProof.Rows L2
section
variable {X : Cx} {xk : XD} {W : WX} {G : Gc} {C : Ct} {Γ : String → SpD} {k : Nat} {pos : Pos}
theorem lc2_read {ρ ρ1 : Rho} {S S1 own own1 : List Nat} {wi wi1 : St → Mp → (List D → (Mp → Prop) → Mp → Prop) → Prop} {wg wg1 : D → St → Mp → (St → Mp → Prop) → Prop} {wt wt1 : St → Mp → (Bool → Mp → Prop) → Prop} {we : St → Mp → DK → Prop} {m : Bool}
    (hS : ∀ i ∈ S, i ∈ own) (hS1 : ∀ i ∈ S1, i ∈ own1) {σ : L2.St} {H : Hp} {Q : VK}
    (h : LE X xk W (fun δ M Q => wi δ M fun ds still M1 => compL wg wt (fun δ1 _ acc M2 K => wi1 δ1 M2 fun ds2 still2 M3 => compL wg1 wt1 (fun δ3 _ acc M' K' => we δ3 M' fun x M'' => acc.length < LIM ∧ K' (acc ++ [x]) M'') still2 (wipeD δ1 own1) K ds2 acc M3) still (wipeD δ own) (fun acc M2 => mkN m acc M2 Q) ds [] M1) σ H Q) :
    tLc2 (LI ρ X xk W wi) (LG ρ X never W0 S wg) (LT X never W0 wt) (LI ρ1 X never W0 wi1) (LG ρ1 X never W0 S1 wg1) (LT X never W0 wt1) (LE X never W0 we) own own1 σ H Q := by
  obtain ⟨δ, M, U, R, r, xo, h, out⟩ := h
  refine ⟨δ, M, U, _, r, xo, h, fun ds still M1 U1 H1 J g1 hC hz jok D hD => ?_⟩
  have hU1 := g1.kp.vw.none hD
  generalize hcL : compL wg wt (fun δ1 _ acc M2 K => wi1 δ1 M2 fun ds2 still2 M3 => compL wg1 wt1 (fun δ3 _ acc M' K' => we δ3 M' fun x M'' => acc.length < LIM ∧ K' (acc ++ [x]) M'') still2 (wipeD δ1 own1) K ds2 acc M3) still (wipeD δ own) (fun acc M2 => mkN m acc M2 R) = cL at hC
  have start : Go X.K M1 U1 H1 M1 U1 (upd H1 D (.lst [])) := ⟨.refl, ⟨fun a o ha n => by
    rw [upd_ne (ne_of_none ha hD)]
    exact ⟨ha, n⟩, fun a o ha => by
    rw [upd_ne (ne_of_none ha hU1)]
    exact g1.kp.vw _ _ ha⟩, g1.rm⟩
  refine ⟨fun i n Hc => n = ds.length - i ∧ i ≤ ds.length ∧ ∃ M' U' acc vs, Go X.K M1 U1 H1 M' U' Hc ∧ U' D = none ∧ Hc D = some (.lst vs) ∧ RVs X.K M' U' acc vs ∧ cL (ds.drop i) acc M', ⟨ds.length, by simp, Nat.zero_le _, M1, U1, [], [], start, hU1, upd_same, by simp only [RVs], by simpa using hC⟩, ?_⟩
  rintro i n Hc ⟨rfl, hi, M', U', acc, vs, g2, hU, hHc, ra, hC⟩
  cases hd : ds.drop i with
  | nil =>
    rw [hd, ← hcL] at hC
    have hi' : i = ds.length := by
      have := List.drop_eq_nil_iff.mp hd
      omega
    obtain ⟨st, hk⟩ := hC
    refine .inl ⟨(jok M' U' Hc g2.ex g2.kp.vw g2.rm st i).1 hi'.symm, ?_⟩
    have g12 := g1.trans g2
    have kp : Kp U H (upd U' D (.lst vs)) Hc := ⟨fun a o ha n => by
      have q := g12.kp.st a o ha n
      have q1 := g1.kp.st a o ha n
      have ne := ne_of_none q1.1 hD
      rw [upd_ne ne]
      exact q, fun a o ha => by
      by_cases e : a = D
      · subst e
        rw [upd_same] at ha
        rw [hHc]; exact ha
      · rw [upd_ne e] at ha
        exact g2.kp.vw _ _ ha⟩
    cases m with
    | false =>
      exact out (.lst acc) M' (.ref D) _ Hc (g12.ex.trans (Ext.new hU)) kp (g2.rm.new hU) (by
        simp only [RV]
        exact ⟨D, vs, rfl, upd_same, g2.rm.none_of hU, RVs.mono (Ext.new hU) g2.rm _ _ ra⟩) hk
    | true =>
      exact out (.ref D) (up M' D (.lst acc)) (.ref D) _ Hc (g12.ex.trans (Ext.newM hU)) kp (g2.rm.newM hU ⟨vs, upd_same, RVs.mono (Ext.newM hU) g2.rm _ _ ra⟩) (by simp only [RV]) (hk D (g2.rm.none_of hU))
  | cons d rest =>
    rw [hd, ← hcL] at hC
    obtain ⟨st, hC⟩ := hC
    have hlt : i < ds.length := by
      have : (ds.drop i).length = ds.length - i := List.length_drop
      rw [hd] at this
      simp at this
      omega
    have hdi : ds[i]? = some d := by
      have := congrArg (fun l : List Pw.D => l[0]?) hd
      simpa using this
    have hrest : ds.drop (i + 1) = rest := by
      have := congrArg List.tail hd
      simpa [List.tail_drop] using this
    obtain ⟨go, yl⟩ := (jok M' U' Hc g2.ex g2.kp.vw g2.rm st i).2 d hdi
    refine .inr ⟨go, fun H' => ∃ M'' U'' acc' vs', Go X.K M1 U1 H1 M'' U'' H' ∧ U'' D = none ∧ H' D = some (.lst vs') ∧ RVs X.K M'' U'' acc' vs' ∧ cL rest acc' M'', ?_, ?_⟩
    · rintro H' ⟨M'', U'', acc', vs', q1, q2, q3, q4, q6⟩
      exact ⟨ds.length - (i + 1), by omega, rfl, hlt, M'', U'', acc', vs', q1, q2, q3, q4, by rw [hrest]; exact q6⟩
    · intro x H' hy
      obtain ⟨U2, g3, rx⟩ := yl x H' hy
      have hD2 := g3.kp.st D _ hHc hU
      have rs2 := (r.mono (g1.trans (g2.trans g3))).rs.wipe2 own
      refine ⟨wipeD δ own, M', U2, _, d, ⟨g3.kp.vw, g3.rm, rs2⟩, XOk.no, rx, hC, fun δ1 M3 σ2 U3 H3 g4 rs4 sm hT => ⟨sm.wipe hS, ?_⟩⟩
      have hD3 := g4.kp.st D _ hD2.1 hD2.2
      refine ⟨δ1, M3, U3, _, ⟨g4.kp.vw, g4.rm, rs4⟩, XOk.no, hT, fun q M4 U4 H4 g5 hb => ?_⟩
      have hD4 := g5.kp.st D _ hD3.1 hD3.2
      have g25 := g2.trans (g3.trans (g4.trans g5))
      have ra4 := RVs.mono (g3.trans (g4.trans g5)).ex g2.rm _ _ ra
      cases q with
      | false =>
        dsimp only
        rw [if_neg Bool.false_ne_true]
        exact ⟨M4, U4, acc, vs, g25, hD4.2, hD4.1, ra4, by rw [← hcL]; exact hb⟩
      | true =>
        dsimp only
        rw [if_pos rfl]
        refine ⟨δ1, M4, U4, _, ⟨g5.kp.vw, g5.rm, rs4.mono g5.ex g4.rm⟩, XOk.no, hb, fun ds2 still2 M5 U5 H5 J1 g6 hC2 hz2 jok2 => ?_⟩
        have hD5 := g6.kp.st D _ hD4.1 hD4.2
        have g26 := g25.trans g6
        have ra5 := RVs.mono g6.ex g5.rm _ _ ra4
        have rs5 := (rs4.mono g5.ex g4.rm).mono g6.ex g5.rm
        generalize hcI : compL wg1 wt1 (fun δ3 _ acc M' K' => we δ3 M' fun x M'' => acc.length < LIM ∧ K' (acc ++ [x]) M'') still2 (wipeD δ1 own1) (fun acc' M3 => compL wg wt (fun δ1 _ acc M2 K => wi1 δ1 M2 fun ds2 still2 M3 => compL wg1 wt1 (fun δ3 _ acc M' K' => we δ3 M' fun x M'' => acc.length < LIM ∧ K' (acc ++ [x]) M'') still2 (wipeD δ1 own1) K ds2 acc M3) still (wipeD δ own) (fun acc M2 => mkN m acc M2 R) rest acc' M3) = cI at hC2
        refine ⟨fun j n Hc => n = ds2.length - j ∧ j ≤ ds2.length ∧ ∃ M' U' acc vs, Go X.K M1 U1 H1 M' U' Hc ∧ Ext M5 U5 M' U' ∧ U' D = none ∧ Hc D = some (.lst vs) ∧ RVs X.K M' U' acc vs ∧ cI (ds2.drop j) acc M', ⟨ds2.length, by simp, Nat.zero_le _, M5, U5, acc, vs, g26, .refl, hD5.2, hD5.1, ra5, by simpa using hC2⟩, ?_⟩
        rintro j n Hc2 ⟨rfl, hj, M7, U7, acc7, vs7, g7, x7, hU7, hHc7, ra7, hC7⟩
        cases hd2 : ds2.drop j with
        | nil =>
          rw [hd2, ← hcI] at hC7
          have hj' : j = ds2.length := by
            have := List.drop_eq_nil_iff.mp hd2
            omega
          obtain ⟨st2, hk2⟩ := hC7
          exact .inl ⟨(jok2 M7 U7 Hc2 x7 g7.kp.vw g7.rm st2 j).1 hj'.symm, M7, U7, acc7, vs7, g7, hU7, hHc7, ra7, by rw [← hcL]; exact hk2⟩
        | cons d2 rest2 =>
          rw [hd2, ← hcI] at hC7
          obtain ⟨st2, hC7⟩ := hC7
          have hlt2 : j < ds2.length := by
            have : (ds2.drop j).length = ds2.length - j := List.length_drop
            rw [hd2] at this
            simp at this
            omega
          have hdj : ds2[j]? = some d2 := by
            have := congrArg (fun l : List Pw.D => l[0]?) hd2
            simpa using this
          have hrest2 : ds2.drop (j + 1) = rest2 := by
            have := congrArg List.tail hd2
            simpa [List.tail_drop] using this
          obtain ⟨go2, yl2⟩ := (jok2 M7 U7 Hc2 x7 g7.kp.vw g7.rm st2 j).2 d2 hdj
          refine .inr ⟨go2, fun H' => ∃ M'' U'' acc' vs', Go X.K M1 U1 H1 M'' U'' H' ∧ Ext M5 U5 M'' U'' ∧ U'' D = none ∧ H' D = some (.lst vs') ∧ RVs X.K M'' U'' acc' vs' ∧ cI rest2 acc' M'', ?_, ?_⟩
          · rintro H' ⟨M'', U'', acc', vs', q1, q2, q3, q4, q5, q6⟩
            exact ⟨ds2.length - (j + 1), by omega, rfl, hlt2, M'', U'', acc', vs', q1, q2, q3, q4, q5, by rw [hrest2]; exact q6⟩
          · intro x2 H2 hy2
            obtain ⟨U8, g8, rx2⟩ := yl2 x2 H2 hy2
            have hD8 := g8.kp.st D _ hHc7 hU7
            have rs8 := ((rs5.mono x7 g6.rm).mono g8.ex g7.rm).wipe2 own1
            refine ⟨wipeD δ1 own1, M7, U8, _, d2, ⟨g8.kp.vw, g8.rm, rs8⟩, XOk.no, rx2, hC7, fun δ3 M9 σ3 U9 H9 g9 rs9 sm9 hT9 => ⟨sm9.wipe hS1, ?_⟩⟩
            have hD9 := g9.kp.st D _ hD8.1 hD8.2
            refine ⟨δ3, M9, U9, _, ⟨g9.kp.vw, g9.rm, rs9⟩, XOk.no, hT9, fun q M10 U10 H10 g10 hb10 => ?_⟩
            have hD10 := g10.kp.st D _ hD9.1 hD9.2
            have g810 := g8.trans (g9.trans g10)
            have ra10 := RVs.mono g810.ex g7.rm _ _ ra7
            cases q with
            | false =>
              dsimp only
              rw [if_neg Bool.false_ne_true]
              exact ⟨M10, U10, acc7, vs7, g7.trans g810, x7.trans g810.ex, hD10.2, hD10.1, ra10, by rw [← hcI]; exact hb10⟩
            | true =>
              dsimp only
              rw [if_pos rfl]
              refine ⟨δ3, M10, U10, _, ⟨g10.kp.vw, g10.rm, rs9.mono g10.ex g9.rm⟩, XOk.no, hb10, fun d11 M11 v11 U11 H11 e11 k11 rm11 rv11 hR11 => ?_⟩
              have hD11 := k11.st D _ hD10.1 hD10.2
              have g11 := (g7.trans g810).trans ⟨e11, k11, rm11⟩
              refine ⟨vs7, hD11.1, by rw [ra7.length, lineLIM]; exact hR11.1, M11, U11, acc7 ++ [d11], vs7 ++ [v11], ⟨g11.ex, ⟨fun a o ha n => ?_, fun a o ha => ?_⟩, rm11⟩, (x7.trans g810.ex).trans e11, hD11.2, upd_same, (RVs.mono e11 g10.rm _ _ ra10).app (.one rv11), by rw [← hcI]; exact hR11.2⟩
              · rw [upd_ne (ne_of_none ha hD)]
                exact g11.kp.st a o ha n
              · rw [upd_ne (ne_of_none ha hD11.2)]
                exact k11.vw _ _ ha
section
variable {ρ ρ1 : Rho} {S S1 own own1 : List Nat} {wi wi1 : St → Mp → (List D → (Mp → Prop) → Mp → Prop) → Prop} {wg wg1 : D → St → Mp → (St → Mp → Prop) → Prop} {wt wt1 : St → Mp → (Bool → Mp → Prop) → Prop} {we : St → Mp → DK → Prop} {m : Bool} {elt tg iter tg1 iter1 : Expr} {ifs ifs1 : List Expr} {sc : Scope}
theorem set_foldE {e : Expr} (h : noSet e = true) : ∀ (env : Env) (x : Value), foldedSetIterable e env x = pure x := fun env => set_fold h
theorem r_comp2 (g : GX X G C Γ k W) (hok : blkC C.N C.sc sc (ownOf C.N own) = true) (hS : ∀ i ∈ S, i ∈ own) (hS1 : ∀ i ∈ S1, i ∈ own1) (ho : ∀ i ∈ own1, i ∈ own) (hs : noSet iter = true) (hs1 : noSet iter1 = true) (hi : PI X tg iter (LI ρ X xk W wi))
    (hg : ∀ (s : Shared) (H : Hp) (Ca : Addr) (cl : List (Str × Addr)) (fp : List Addr), PG (X.blk s H sc (compEnvC sc cl Ca X.env) fp) tg (LG ρ X never W0 S wg)) (ht : ∀ (s : Shared) (H : Hp) (Ca : Addr) (cl : List (Str × Addr)) (fp : List Addr), PTs (X.blk s H sc (compEnvC sc cl Ca X.env) fp) ifs (LT X never W0 wt))
    (hi1 : ∀ (s : Shared) (H : Hp) (Ca : Addr) (cl : List (Str × Addr)) (fp : List Addr), PI (X.blk s H sc (compEnvC sc cl Ca X.env) fp) tg1 iter1 (LI ρ1 X never W0 wi1))
    (hg1 : ∀ (s : Shared) (H : Hp) (Ca : Addr) (cl : List (Str × Addr)) (fp : List Addr), PG (X.blk s H sc (compEnvC sc cl Ca X.env) fp) tg1 (LG ρ1 X never W0 S1 wg1)) (ht1 : ∀ (s : Shared) (H : Hp) (Ca : Addr) (cl : List (Str × Addr)) (fp : List Addr), PTs (X.blk s H sc (compEnvC sc cl Ca X.env) fp) ifs1 (LT X never W0 wt1))
    (he : ∀ (s : Shared) (H : Hp) (Ca : Addr) (cl : List (Str × Addr)) (fp : List Addr), PE (X.blk s H sc (compEnvC sc cl Ca X.env) fp) elt (LE X never W0 we)) :
    PE X (.ListComp elt [⟨tg, iter, ifs, 0⟩, ⟨tg1, iter1, ifs1, 0⟩] sc pos) (LE X xk W fun δ M Q => wi δ M fun ds still M1 => compL wg wt (fun δ1 _ acc M2 K => wi1 δ1 M2 fun ds2 still2 M3 => compL wg1 wt1 (fun δ3 _ acc M' K' => we δ3 M' fun x M'' => acc.length < LIM ∧ K' (acc ++ [x]) M'') still2 (wipeD δ1 own1) K ds2 acc M3) still (wipeD δ own) (fun acc M2 => mkN m acc M2 Q) ds [] M1) := by
  rw [← g.N, ← g.sc] at hok
  refine pe_imp (pe_lc2 (vs1 := own1) g.calm g.nd hi (blkOk_by hok) (by rw [ownOf_map]; exact ho) hg ht hi1 hg1 ht1 he (set_fold hs) (set_foldE hs1)) fun σ H Q h => ?_
  rw [ownOf_map]
  exact lc2_read hS hS1 h
end
end
end Pw
set_option Elab.async false
set_option linter.all false
set_option maxRecDepth 100000
set_option maxHeartbeats 2000000
namespace Pw
open PySem PySem.Spec PyProof.Rows L2

theorem dTurn_out (kx vx t0 i0 t1 i1 : Expr) (cs0 cs1 : List Expr) (scp : Scope) (pos : Pos) (it acc : Value) (ev : Env) :
    compTurn (.DictComp kx vx [⟨t0, i0, cs0, 0⟩, ⟨t1, i1, cs1, 0⟩] scp pos) 0 it acc ev = (do
      standAt i0.pos
      match ← pyNext it with
      | none => pure (.done .next)
      | some v =>
        letOwnedTupleGo t0 it v
        assign t0 ev v
        let mut ok := true
        for c in cs0 do
          if ok then ok ← isTrue c ev (eval c ev)
        if ok then
          let x ← eval i1 ev
          standAt i1.pos
          let x ← foldedSetIterable i1 ev x
          let _ ← runOwn (.compStart (.DictComp kx vx [⟨t0, i0, cs0, 0⟩, ⟨t1, i1, cs1, 0⟩] scp pos) 1 (← holding [x] (pyIter x)) acc ev) ev
        again (.compLoop (.DictComp kx vx [⟨t0, i0, cs0, 0⟩, ⟨t1, i1, cs1, 0⟩] scp pos) 0 it acc ev)) := by rfl
theorem dTurn_in (kx vx t0 i0 t1 i1 : Expr) (cs0 cs1 : List Expr) (scp : Scope) (pos : Pos) (it : Value) (D : Addr) (ev : Env) :
    compTurn (.DictComp kx vx [⟨t0, i0, cs0, 0⟩, ⟨t1, i1, cs1, 0⟩] scp pos) 1 it (.ref D) ev = (do
      standAt i1.pos
      match ← pyNext it with
      | none => pure (.done .next)
      | some v =>
        letOwnedTupleGo t1 it v
        assign t1 ev v
        let mut ok := true
        for c in cs1 do
          if ok then ok ← isTrue c ev (eval c ev)
        if ok then
          (do
            let kv ← eval kx ev
            let vv ← holding [kv] (eval vx ev)
            standAt { kx.pos with endLine := vx.pos.endLine, endCol := vx.pos.endCol }
            holding [kv, vv] (dictSet D kv vv))
        again (.compLoop (.DictComp kx vx [⟨t0, i0, cs0, 0⟩, ⟨t1, i1, cs1, 0⟩] scp pos) 1 it (.ref D) ev)) := by rfl

section
variable {pr : Program} {w : World} {A : Around} {Rr : Result → Shared → Prop} {s : Shared} {kx vx t0 i0 t1 i1 : Expr} {cs0 cs1 : List Expr} {scp : Scope} {pos : Pos} {it acc : Value} {ev : Env}
theorem dLoop_out (hs : ∀ x, foldedSetIterable i1 ev x = pure x) (Iv : Nat → Shared → Prop)
    (trn : ∀ n s, Iv n s → wpAny (model pr w) A (pyNext it) (fun r s₁ => match r with
      | none => Rr (.ok .next) s₁
      | some v => wpAny (model pr w) A (letOwnedTupleGo t0 it v) (fun _ s₁' => wpAny (model pr w) A (assign t0 ev v) (fun _ s₂ =>
          wpAny (model pr w) A (forIn cs0 true fun c r => if r = true then do let ok ← isTrue c ev (eval c ev); pure (ForInStep.yield ok) else pure (ForInStep.yield r)) (fun ok s₃ =>
            if ok = true then wpAny (model pr w) A (eval i1 ev) (fun x s₄ => wpAny (model pr w) A (pyIter x) (fun it1 s₅ =>
              codeAny (model pr w) A (.compStart (.DictComp kx vx [⟨t0, i0, cs0, 0⟩, ⟨t1, i1, cs1, 0⟩] scp pos) 1 it1 acc ev) (fun r s' => match r with
                | .ok _ => ∃ m, m < n ∧ Iv m s'
                | .error _ => False) s₅) (notedBy (model pr w) A ev fun e s' => Rr (.error e) s') s₄) (notedBy (model pr w) A ev fun e s' => Rr (.error e) s') s₃
            else ∃ m, m < n ∧ Iv m s₃) (notedBy (model pr w) A ev fun e s' => Rr (.error e) s') s₂) (notedBy (model pr w) A ev fun e s' => Rr (.error e) s') s₁') (notedBy (model pr w) A ev fun e s' => Rr (.error e) s') s₁) (notedBy (model pr w) A ev fun e s' => Rr (.error e) s') s)
    (n : Nat) (h : Iv n s) :
    codeAny (model pr w) A (.compLoop (.DictComp kx vx [⟨t0, i0, cs0, 0⟩, ⟨t1, i1, cs1, 0⟩] scp pos) 0 it acc ev) Rr s := by
  refine codeAny_loop rfl Iv (fun n s hI => ?_) n h
  show wpAny _ A ((compTurn (.DictComp kx vx [⟨t0, i0, cs0, 0⟩, ⟨t1, i1, cs1, 0⟩] scp pos) 0 it acc ev).onRaise (fun x => do noteFrame x ev; theTreesLotGoes x)) _ _ s
  refine wpAny_noted ?_
  rw [dTurn_out]
  refine wpAny_bind (wpAny_standAt (wpAny_bind (wpAny_mono (trn n s hI) (fun r s₁ h₁ => ?_) fun _ _ h' => h')))
  cases r with
  | none => exact wpAny_pure h₁
  | some v =>
    refine wpAny_bind (wpAny_mono h₁ (fun _ s₁' h₁' => ?_) fun _ _ h' => h')
    refine wpAny_bind (wpAny_mono h₁' (fun _ s₂ h₂ => wpAny_bind (wpAny_mono h₂ (fun ok s₃ h₃ => ?_) fun _ _ h' => h')) fun _ _ h' => h')
    cases ok with
    | false => exact wpAny_pure ⟨rfl, h₃⟩
    | true =>
      refine wpAny_bind (wpAny_mono h₃ (fun x s₄ h₄ => ?_) fun _ _ h' => h')
      refine wpAny_bind (wpAny_standAt (wpAny_bind (wpAny_of_eq (hs x) (wpAny_bind (wpAny_holding (wpAny_mono h₄ (fun it1 s₅ h₅ => ?_) fun _ _ h' => h'))))))
      refine wpAny_bind (wpAny_runOwn ?_)
      rw [Around.mark_none]
      refine codeAny_mono h₅ fun r s' hr => ?_
      cases r with
      | ok f =>
        first
          | exact wpAny_pure ⟨rfl, hr⟩
          | exact wpAny_bind (wpAny_pure (wpAny_pure ⟨rfl, hr⟩))
      | error e => exact hr.elim
theorem dLoop_in {D : Addr} (Iv : Nat → Shared → Prop)
    (trn : ∀ n s, Iv n s → wpAny (model pr w) A (pyNext it) (fun r s₁ => match r with
      | none => Rr (.ok .next) s₁
      | some v => wpAny (model pr w) A (letOwnedTupleGo t1 it v) (fun _ s₁' => wpAny (model pr w) A (assign t1 ev v) (fun _ s₂ =>
          wpAny (model pr w) A (forIn cs1 true fun c r => if r = true then do let ok ← isTrue c ev (eval c ev); pure (ForInStep.yield ok) else pure (ForInStep.yield r)) (fun ok s₃ =>
            if ok = true then wpAny (model pr w) A (eval kx ev) (fun kv s₄ => wpAny (model pr w) A (eval vx ev) (fun vv s₅ =>
              wpAny (model pr w) A (dictSet D kv vv) (fun _ s₆ => ∃ m, m < n ∧ Iv m s₆) (notedBy (model pr w) A ev fun e s' => Rr (.error e) s') s₅) (notedBy (model pr w) A ev fun e s' => Rr (.error e) s') s₄) (notedBy (model pr w) A ev fun e s' => Rr (.error e) s') s₃
            else ∃ m, m < n ∧ Iv m s₃) (notedBy (model pr w) A ev fun e s' => Rr (.error e) s') s₂) (notedBy (model pr w) A ev fun e s' => Rr (.error e) s') s₁') (notedBy (model pr w) A ev fun e s' => Rr (.error e) s') s₁) (notedBy (model pr w) A ev fun e s' => Rr (.error e) s') s)
    (n : Nat) (h : Iv n s) :
    codeAny (model pr w) A (.compLoop (.DictComp kx vx [⟨t0, i0, cs0, 0⟩, ⟨t1, i1, cs1, 0⟩] scp pos) 1 it (.ref D) ev) Rr s := by
  refine codeAny_loop rfl Iv (fun n s hI => ?_) n h
  show wpAny _ A ((compTurn (.DictComp kx vx [⟨t0, i0, cs0, 0⟩, ⟨t1, i1, cs1, 0⟩] scp pos) 1 it (.ref D) ev).onRaise (fun x => do noteFrame x ev; theTreesLotGoes x)) _ _ s
  refine wpAny_noted ?_
  rw [dTurn_in]
  refine wpAny_bind (wpAny_standAt (wpAny_bind (wpAny_mono (trn n s hI) (fun r s₁ h₁ => ?_) fun _ _ h' => h')))
  cases r with
  | none => exact wpAny_pure h₁
  | some v =>
    refine wpAny_bind (wpAny_mono h₁ (fun _ s₁' h₁' => ?_) fun _ _ h' => h')
    refine wpAny_bind (wpAny_mono h₁' (fun _ s₂ h₂ => wpAny_bind (wpAny_mono h₂ (fun ok s₃ h₃ => ?_) fun _ _ h' => h')) fun _ _ h' => h')
    cases ok with
    | false => exact wpAny_pure ⟨rfl, h₃⟩
    | true =>
      exact wpAny_bind (wpAny_bind (wpAny_mono h₃ (fun kv s₄ h₄ => wpAny_bind (wpAny_holding (wpAny_mono h₄ (fun vv s₅ h₅ => wpAny_bind (wpAny_standAt (wpAny_holding (wpAny_mono h₅ (fun _ s₆ h₆ => wpAny_pure ⟨rfl, h₆⟩) fun _ _ h' => h')))) fun _ _ h' => h'))) fun _ _ h' => h'))
theorem dStart_ok (h0 : codeAny (model pr w) A (.compLoop (.DictComp kx vx [⟨t0, i0, cs0, 0⟩, ⟨t1, i1, cs1, 0⟩] scp pos) 1 it acc ev) Rr s)
    (h : wpAny (model pr w) A (pyIter it) (fun it' s' => codeAny (model pr w) A (.compLoop (.DictComp kx vx [⟨t0, i0, cs0, 0⟩, ⟨t1, i1, cs1, 0⟩] scp pos) 1 it' acc ev) Rr s')
      (notedBy (model pr w) A ev fun x s' => Rr (.error x) s') s) :
    codeAny (model pr w) A (.compStart (.DictComp kx vx [⟨t0, i0, cs0, 0⟩, ⟨t1, i1, cs1, 0⟩] scp pos) 1 it acc ev) Rr s := by
  refine codeAny_of_tree ?_
  show wpAny _ _ ((compStart (.DictComp kx vx [⟨t0, i0, cs0, 0⟩, ⟨t1, i1, cs1, 0⟩] scp pos) 1 it acc ev).onRaise (fun x => do noteFrame x ev; standAt theWindowsPlace)) _ _ s
  refine wpAny_notedAt ?_
  unfold compStart
  show wpAny _ _ (ask >>= _) _ _ s
  refine wpAny_bind (wpAny_askSetting (wpAny_ite ?_))
  split
  · first
      | exact wpAny_bind (wpAny_pure (wpAny_pure (And.intro rfl h0)))
      | exact wpAny_pure (And.intro rfl h0)
  · first
      | exact wpAny_bind (wpAny_rule (wpAny_bind (wpAny_standAt (wpAny_bind (wpAny_mono h (fun it' s' h' => wpAny_pure (And.intro rfl h')) fun _ _ x => x)))))
      | (refine wpAny_bind (wpAny_rule ?_); show wpAny _ _ (standAt i1.pos >>= _) _ _ s; exact wpAny_bind (wpAny_standAt (wpAny_bind (wpAny_mono h (fun it' s' h' => wpAny_pure (And.intro rfl h')) fun _ _ x => x))))
end

section
variable {X : Cx}
def tDc2 (wi : TI) (g : TG) (tt : TT) (wi1 : TI) (g1 : TG) (tt1 : TT) (tk tv : TE) (vs vs1 : List Nat) : TE := fun σ H Q => wi σ H fun J H1 => ∀ D, H1 D = none → ∃ W : Nat → Nat → Hp → Prop, (∃ m, W 0 m (upd H1 D (.dK []))) ∧ ∀ i m H, W i m H →
  (J.stop i H ∧ Q (.ref D) H) ∨ (J.go i H ∧ ∃ Nx : Hp → Prop, (∀ H', Nx H' → ∃ m', m' < m ∧ W (i + 1) m' H') ∧ ∀ x H', J.yld i H x H' → g x (wipe σ vs) H' fun σ2 H2 => wipe σ2 vs = wipe σ vs ∧ tt σ2 H2 fun b H3 =>
    if b = true then wi1 σ2 H3 fun J1 H4 => ∃ W1 : Nat → Nat → Hp → Prop, (∃ m, W1 0 m H4) ∧ ∀ j k H, W1 j k H →
      (J1.stop j H ∧ Nx H) ∨ (J1.go j H ∧ ∃ Nx1 : Hp → Prop, (∀ H', Nx1 H' → ∃ k', k' < k ∧ W1 (j + 1) k' H') ∧ ∀ x H', J1.yld j H x H' → g1 x (wipe σ2 vs1) H' fun σ3 H5 => wipe σ3 vs1 = wipe σ2 vs1 ∧ tt1 σ3 H5 fun b H6 =>
        if b = true then tk σ3 H6 fun y H7 => tv σ3 H7 fun z H8 => ∃ kvs k, y = kV k ∧ H8 D = some (.dK kvs) ∧ kvs.length < sizeLine ∧ Nx1 (upd H8 D (.dK (putK kvs k z))) else Nx1 H6)
    else Nx H3)
theorem dc2_core {pn : List (Addr × Obj)} {s : Shared} {σ : L2.St} {H : Hp} {Q : VK} {kx vx tg itr tg1 itr1 : Expr} {cs cs1 : List Expr} {scp : Scope} {ow : List (Str × Nat)} {vs1 : List Nat} {pos pos' : Pos} {wi wi1 : TI} {g g1 : TG} {tt tt1 : TT} {tk tv : TE} {use : Option (Value → Sem Unit)} {Qf : Value → Shared → Prop}
    (hc : X.calm = true) (hN : X.N.Nodup) (Iv : L2.Inv X pn σ H s) (hi : PI X tg itr wi) (ok : BlkOk X.N X.env.scope scp ow) (hv : ∀ i ∈ vs1, i ∈ ow.map (·.2))
    (hg : ∀ (s : Shared) (H : Hp) (C : Addr) (cl : List (Str × Addr)) (fp : List Addr), PG (X.blk s H scp (compEnvC scp cl C X.env) fp) tg g) (ht : ∀ (s : Shared) (H : Hp) (C : Addr) (cl : List (Str × Addr)) (fp : List Addr), PTs (X.blk s H scp (compEnvC scp cl C X.env) fp) cs tt)
    (he : ∀ (s : Shared) (H : Hp) (C : Addr) (cl : List (Str × Addr)) (fp : List Addr), PE (X.blk s H scp (compEnvC scp cl C X.env) fp) kx tk) (hv2 : ∀ (s : Shared) (H : Hp) (C : Addr) (cl : List (Str × Addr)) (fp : List Addr), PE (X.blk s H scp (compEnvC scp cl C X.env) fp) vx tv) (hs : ∀ x, foldedSetIterable itr X.env x = pure x)
    (hi1 : ∀ (s : Shared) (H : Hp) (C : Addr) (cl : List (Str × Addr)) (fp : List Addr), PI (X.blk s H scp (compEnvC scp cl C X.env) fp) tg1 itr1 wi1)
    (hg1 : ∀ (s : Shared) (H : Hp) (C : Addr) (cl : List (Str × Addr)) (fp : List Addr), PG (X.blk s H scp (compEnvC scp cl C X.env) fp) tg1 g1)
    (ht1 : ∀ (s : Shared) (H : Hp) (C : Addr) (cl : List (Str × Addr)) (fp : List Addr), PTs (X.blk s H scp (compEnvC scp cl C X.env) fp) cs1 tt1)
    (hs1 : ∀ ev x, foldedSetIterable itr1 ev x = pure x)
    (h : tDc2 wi g tt wi1 g1 tt1 tk tv (ow.map (·.2)) vs1 σ H Q)
    (hRR : ∀ D C s' m H', L2.Inv X pn σ H' s' → Q (.ref D) H' → s'.heap.Ns C m → FpOk X pn H' C → compPost (model X.prog X.w) X.A X.xe use Qf (.ref D) C (.ok .next) s') :
    wpAny (model X.prog X.w) X.A (comprehension (.DictComp kx vx [⟨tg, itr, cs, 0⟩, ⟨tg1, itr1, cs1, 0⟩] scp pos) scp X.env pos' newDict false (eval itr X.env) use) Qf X.xe s := by
  have hfr : ∀ y ∈ scp.names, y.2 = .free → ∃ c, X.env.cells.lookup y.1 = some c := fun y hy e => by
    rcases ok.free y hy e with k | k
    · exact Iv.ok.has _ (.inl k)
    · exact Iv.ok.has _ (.inr k)
  refine wpAny_comprehension_free (use := use) rfl hs (closure_ok hfr) ok.kind (fun y hy e => by rw [ok.uniq y hy, e])
    (thn (hi.run pn s σ H _ Iv h) fun xv s1 hx => thn hx fun itv s2 h2 => ?_)
  obtain ⟨it, fp, tn, J, H2, e, Iv2, T, st2, f2, q⟩ := h2
  subst e
  refine wpAny_newObj_type (newEnv_comp ?_)
  generalize hD : s2.heap.objs.size = D
  have hDn : H2 D = none := Iv2.hok.fresh (Nat.le_of_eq hD)
  obtain ⟨W, ⟨m0, w0⟩, trn⟩ := q D hDn
  generalize hsh : ({ s2 with heap := s2.heap.push { cls := .type "dict", data := .dict #[] } } : Shared) = s3
  have Iv3 : L2.Inv X pn σ (upd H2 D (.dK [])) s3 := by
    rw [← hsh]
    refine Iv2.laid (t' := s2.toks) (fun b o e => Heap.get?_push_of_some _ e) (Nat.le_of_eq hD) ?_
    rw [← hD]
    exact dk_empty s2.heap Iv2.big
  have h3 : s3.heap = s2.heap.push { cls := .type "dict", data := .dict #[] } := by rw [← hsh]
  have szz : ∀ b ∈ fp, b < s2.heap.objs.size := fun b hb => by
    obtain ⟨o, e, _⟩ := T.obj _ _ st2 b hb
    exact Heap.lt_size e
  have f3 : ∀ b ∈ fp, FpOk X pn (upd H2 D (.dK [])) b ∧ b < s3.heap.objs.size := fun b hb => by
    have hlv := szz b hb
    refine ⟨⟨?_, (f2 b hb).2⟩, by rw [h3, Heap.size_push]; exact Nat.lt_succ_of_lt hlv⟩
    rw [upd_ne (by rw [← hD]; exact Nat.ne_of_lt hlv)]
    exact (f2 b hb).1
  have st3 : tn 0 s3.heap := T.keep _ _ _ st2 fun b _ o e => by rw [h3]; exact Heap.get?_push_of_some _ e
  have Iv4 := block_start Iv3 ok hN f3
  have pg := hg s3 (upd H2 D (.dK [])) s3.heap.objs.size (cellsFrom (s3.heap.objs.size + 1) scp.names (cloFrom X.env.cells scp.names [])) fp
  have pt := ht s3 (upd H2 D (.dK [])) s3.heap.objs.size (cellsFrom (s3.heap.objs.size + 1) scp.names (cloFrom X.env.cells scp.names [])) fp
  have pe := he s3 (upd H2 D (.dK [])) s3.heap.objs.size (cellsFrom (s3.heap.objs.size + 1) scp.names (cloFrom X.env.cells scp.names [])) fp
  have pv := hv2 s3 (upd H2 D (.dK [])) s3.heap.objs.size (cellsFrom (s3.heap.objs.size + 1) scp.names (cloFrom X.env.cells scp.names [])) fp
  have pi1 := hi1 s3 (upd H2 D (.dK [])) s3.heap.objs.size (cellsFrom (s3.heap.objs.size + 1) scp.names (cloFrom X.env.cells scp.names [])) fp
  have pg1 := hg1 s3 (upd H2 D (.dK [])) s3.heap.objs.size (cellsFrom (s3.heap.objs.size + 1) scp.names (cloFrom X.env.cells scp.names [])) fp
  have pt1 := ht1 s3 (upd H2 D (.dK [])) s3.heap.objs.size (cellsFrom (s3.heap.objs.size + 1) scp.names (cloFrom X.env.cells scp.names [])) fp
  show codeAny _ _ (.compStart (.DictComp kx vx [⟨tg, itr, cs, 0⟩, ⟨tg1, itr1, cs1, 0⟩] scp pos) 0 (.ref it) (.ref D) (compEnvC scp (cellsFrom (s3.heap.objs.size + 1) scp.names (cloFrom X.env.cells scp.names [])) s3.heap.objs.size X.env)) (compPost (model X.prog X.w) X.A X.xe use Qf (.ref D) s3.heap.objs.size) { s3 with heap := pushCells (s3.heap.push { cls := .type "dict", data := .dict #[] }) scp.names }
  have nfq : ∀ b ∈ fp, (upd H2 D (.dK [])) b = none := fun b hb => (f3 b hb).1.1
  generalize hce : compEnvC scp (cellsFrom (s3.heap.objs.size + 1) scp.names (cloFrom X.env.cells scp.names [])) s3.heap.objs.size X.env = ce at Iv4 pg pt pe pv pi1 pg1 pt1 ⊢
  have cL : ce.locals = s3.heap.objs.size := by subst hce; rfl
  generalize hH3 : upd H2 D (.dK []) = H3 at Iv3 Iv4 pg pt pe pv pi1 pg1 pt1 w0 nfq f3
  generalize hs4 : ({ s3 with heap := pushCells (s3.heap.push { cls := .type "dict", data := .dict #[] }) scp.names } : Shared) = s4 at Iv4 ⊢
  have st4 : tn 0 s4.heap := T.keep _ _ _ st3 fun b _ o e => by rw [← hs4]; exact pushCells_keeps _ _ _ _ (Heap.get?_push_of_some _ e)
  have stt : ∀ {σ' : L2.St} {H' : Hp} {s' : Shared}, L2.Inv (X.blk s3 H3 scp ce fp) [] σ' H' s' → (∀ b ∈ fp, H' b = none) → ∀ b ∈ fp, FpOk (X.blk s3 H3 scp ce fp) [] H' b := fun {σ' H' s'} I' hn b hb =>
    ⟨hn b hb, (I'.ok.exf b hb).1, I'.ok.exfs b hb, .inl hb, fun x c e => (I'.ok.exf b hb).2 x c e, fun p hp => absurd (show p ∈ ([] : List (Addr × Obj)) ++ [] from hp) (by simp)⟩
  have lop : codeAny (model X.prog X.w) X.A (.compLoop (.DictComp kx vx [⟨tg, itr, cs, 0⟩, ⟨tg1, itr1, cs1, 0⟩] scp pos) 0 (.ref it) (.ref D) ce) (compPost (model X.prog X.w) X.A X.xe use Qf (.ref D) s3.heap.objs.size) s4 := by
    refine dLoop_out (hs1 ce) (fun n s' => ∃ i H', L2.Inv (X.blk s3 H3 scp ce fp) [] (wipe σ (ow.map (·.2))) H' s' ∧ tn i s'.heap ∧ (∀ b ∈ fp, H' b = none) ∧ W i n H') ?_ m0 ⟨0, H3, Iv4, st4, nfq, w0⟩
    rintro n s5 ⟨i, H5, Iv5, st5, n5, w5⟩
    rcases trn i n H5 w5 with ⟨stq, qq⟩ | ⟨go, Nx, hNx, stp⟩
    · have td := T.done (X.blk s3 H3 scp ce fp) rfl rfl rfl hc i [] s5 _ H5 (fun _ _ => False) Iv5 (stt Iv5 n5) st5 stq
      refine thnF td fun r s6 ⟨hr, I6⟩ => ?_
      subst hr
      have I7 : L2.Inv X pn σ H5 s6 := Iv3.call' (ch := fp) I6.os I6.base I6.hok I6.bare fun b hb => ⟨(f3 b hb).1.2.2.2.1, (f3 b hb).1.2.1, (f3 b hb).1.2.2.2.2.1, (f3 b hb).1.2.2.2.2.2⟩
      have nC : H5 s3.heap.objs.size = none := by
        have z : H5 ce.locals = none := I6.free
        rw [cL] at z
        exact z
      obtain ⟨m, hn, _⟩ := I6.loc
      have hn : s6.heap.Ns ce.locals m := hn
      rw [cL] at hn
      exact hRR D s3.heap.objs.size s6 m H5 I7 qq hn (Iv3.fpOk (Nat.le_refl _) nC)
    · have ti := T.item (X.blk s3 H3 scp ce fp) rfl rfl rfl hc i [] s5 _ H5 (fun _ _ => False) Iv5 (stt Iv5 n5) st5 go
      refine thnF ti fun r s6 ⟨u, hr, h6⟩ => ?_
      subst hr
      refine thnF h6 fun _ s7 ⟨x, H7, I7, r7, y7, st7, n7⟩ => ?_
      have I7' := I7.pinned (stt I7 n7) (T.obj _ _ st7)
      refine thnF (pg.run _ s7 _ H7 x u _ I7' r7 (stp x H7 y7)) fun _ s8 ⟨σ8, H8, I8, hw8, q8⟩ => ?_
      refine thnF (pt.run _ s8 σ8 H8 _ I8 q8) fun b s9 ⟨H9, I9, q9⟩ => ?_
      have fne : ∀ {σ9 : L2.St} {s' : Shared} {H' : Hp}, L2.Inv (X.blk s3 H3 scp ce fp) ([] ++ pinsAt fp s7.heap) σ9 H' s' → (wipe σ (ow.map (·.2))).length = σ9.length → (∀ (j : Nat) v, (wipe σ (ow.map (·.2)))[j]? = some (some v) → σ9[j]? = some (some v)) → Nx H' →
          ∃ m, m < n ∧ ∃ i H', L2.Inv (X.blk s3 H3 scp ce fp) [] (wipe σ (ow.map (·.2))) H' s' ∧ tn i s'.heap ∧ (∀ b ∈ fp, H' b = none) ∧ W i m H' := fun {σ9 s' H'} I' hl hk nx => by
        obtain ⟨m', hm, w'⟩ := hNx H' nx
        have pjn : ∀ b ∈ fp, ∀ o, s7.heap.get? b = some o → s'.heap.get? b = some o ∧ H' b = none := fun b hb o e =>
          let z := I'.pin (b, o) (List.mem_append_right _ (List.mem_append_right _ (mem_pinsAt hb e)))
          ⟨z.1, z.2.1⟩
        refine ⟨m', hm, i + 1, H', (I'.unpinned (pins := [])).weak hl hk, T.keep _ _ _ st7 fun b hb o e => (pjn b hb o e).1, fun b hb => ?_, w'⟩
        obtain ⟨o, e, _⟩ := T.obj _ _ st7 b hb
        exact (pjn b hb o e).2
      have hl8 : (wipe σ (ow.map (·.2))).length = σ8.length := by rw [← hw8, wipe_length]
      have hk8 : ∀ (j : Nat) v, (wipe σ (ow.map (·.2)))[j]? = some (some v) → σ8[j]? = some (some v) := fun j v e => by
        rw [← hw8] at e
        exact (wipe_some e).1
      have hk9 : ∀ (j : Nat) v, (wipe σ (ow.map (·.2)))[j]? = some (some v) → (wipe σ8 vs1)[j]? = some (some v) := fun j v e => by
        rw [← hw8] at e
        obtain ⟨e1, e2⟩ := wipe_some e
        rw [wipe_out fun z => e2 (hv j z)]
        exact e1
      cases b with
      | false =>
        simp only [Bool.false_eq_true, if_false] at q9 ⊢
        exact fne I9 hl8 hk8 q9
      | true =>
        simp only [if_true] at q9 ⊢
        refine thnF (pi1.run _ s9 σ8 H9 _ I9 q9) fun xv s10 hx => thnF hx fun itv s11 h11 => ?_
        obtain ⟨it1, fp1, tn1, J1, H11, e1, I11, T1, st11, f11, W1, ⟨m1, w1⟩, trn1⟩ := h11
        subst e1
        have stt1 : ∀ {H' : Hp}, (∀ b ∈ fp1, H' b = none) → ∀ b ∈ fp1, FpOk (X.blk s3 H3 scp ce fp) ([] ++ pinsAt fp s7.heap) H' b := fun hn b hb => ⟨hn b hb, (f11 b hb).2⟩
        have lop1 : codeAny (model X.prog X.w) X.A (.compLoop (.DictComp kx vx [⟨tg, itr, cs, 0⟩, ⟨tg1, itr1, cs1, 0⟩] scp pos) 1 (.ref it1) (.ref D) ce)
            (fun r s' => match r with
              | .ok _ => ∃ m, m < n ∧ ∃ i H', L2.Inv (X.blk s3 H3 scp ce fp) [] (wipe σ (ow.map (·.2))) H' s' ∧ tn i s'.heap ∧ (∀ b ∈ fp, H' b = none) ∧ W i m H'
              | .error _ => False) s11 := by
          refine dLoop_in (fun k s' => ∃ j H', L2.Inv (X.blk s3 H3 scp ce fp) ([] ++ pinsAt fp s7.heap) (wipe σ8 vs1) H' s' ∧ tn1 j s'.heap ∧ (∀ b ∈ fp1, H' b = none) ∧ W1 j k H') ?_ m1 ⟨0, H11, I11.weak (wipe_length _ _) (fun j v e => (wipe_some e).1), st11, fun b hb => (f11 b hb).1, w1⟩
          rintro k s12 ⟨j, H12, I12, st12, n12, w12⟩
          rcases trn1 j k H12 w12 with ⟨stq1, nx1⟩ | ⟨go1, Nx1, hNx1, stp1⟩
          · refine thnF (T1.done (X.blk s3 H3 scp ce fp) rfl rfl rfl hc j _ s12 (wipe σ8 vs1) H12 (fun _ _ => False) I12 (stt1 n12) st12 stq1) fun r s13 ⟨hr, I13⟩ => ?_
            subst hr
            exact fne I13 (hl8.trans (wipe_length σ8 vs1).symm) hk9 nx1
          · refine thnF (T1.item (X.blk s3 H3 scp ce fp) rfl rfl rfl hc j _ s12 (wipe σ8 vs1) H12 (fun _ _ => False) I12 (stt1 n12) st12 go1) fun r s13 ⟨u1, hr, h13⟩ => ?_
            subst hr
            refine thnF h13 fun _ s14 ⟨x1, H14, I14, r14, y14, st14, n14⟩ => ?_
            have I14' := I14.pinned (stt1 n14) (T1.obj _ _ st14)
            refine thnF (pg1.run _ s14 (wipe σ8 vs1) H14 x1 u1 _ I14' r14 (stp1 x1 H14 y14)) fun _ s15 ⟨σ15, H15, I15, hw15, q15⟩ => ?_
            refine thnF (pt1.run _ s15 σ15 H15 _ I15 q15) fun b1 s16 ⟨H16, I16, q16⟩ => ?_
            have fne1 : ∀ {s' : Shared} {H' : Hp}, L2.Inv (X.blk s3 H3 scp ce fp) (([] ++ pinsAt fp s7.heap) ++ pinsAt fp1 s14.heap) σ15 H' s' → Nx1 H' → ∃ m, m < k ∧ ∃ j H', L2.Inv (X.blk s3 H3 scp ce fp) ([] ++ pinsAt fp s7.heap) (wipe σ8 vs1) H' s' ∧ tn1 j s'.heap ∧ (∀ b ∈ fp1, H' b = none) ∧ W1 j m H' := fun {s' H'} I' nx => by
              obtain ⟨m', hm, w'⟩ := hNx1 H' nx
              have pjn : ∀ b ∈ fp1, ∀ o, s14.heap.get? b = some o → s'.heap.get? b = some o ∧ H' b = none := fun b hb o e =>
                let z := I'.pin (b, o) (List.mem_append_right _ (List.mem_append_right _ (mem_pinsAt hb e)))
                ⟨z.1, z.2.1⟩
              refine ⟨m', hm, j + 1, H', I'.unpinned.weak (by rw [← hw15, wipe_length]) (fun j v e => by rw [← hw15] at e; exact (wipe_some e).1), T1.keep _ _ _ st14 fun b hb o e => (pjn b hb o e).1, fun b hb => ?_, w'⟩
              obtain ⟨o, e, _⟩ := T1.obj _ _ st14 b hb
              exact (pjn b hb o e).2
            cases b1 with
            | false =>
              simp only [Bool.false_eq_true, if_false] at q16 ⊢
              exact fne1 I16 q16
            | true =>
              simp only [if_true] at q16 ⊢
              refine thnF (pe.run _ s16 σ15 H16 _ I16 q16) fun zk s17 ⟨yk, H17, I17, r17, q17⟩ => ?_
              refine thnF (pv.run _ s17 σ15 H17 _ I17 q17) fun zv s18 ⟨yv, H18, I18, r18, kvs, ky, ek, hD18, hz18, nx⟩ => ?_
              subst ek
              exact d_dictSet (X := X.blk s3 H3 scp ce fp) I18 hD18 hz18 r17 r18 fun s19 I19 => fne1 I19 nx
        exact dStart_ok lop1 (T1.self X.A 0 _ _ _ st11 lop1)
  exact codeAny_compStart_dict lop (T.self X.A 0 _ _ _ st4 lop)
theorem pe_dc2 {kx vx tg itr tg1 itr1 : Expr} {cs cs1 : List Expr} {scp : Scope} {ow : List (Str × Nat)} {vs1 : List Nat} {pos : Pos} {wi wi1 : TI} {g g1 : TG} {tt tt1 : TT} {tk tv : TE} (hc : X.calm = true) (hN : X.N.Nodup) (hi : PI X tg itr wi) (ok : BlkOk X.N X.env.scope scp ow) (hv : ∀ i ∈ vs1, i ∈ ow.map (·.2))
    (hg : ∀ (s : Shared) (H : Hp) (C : Addr) (cl : List (Str × Addr)) (fp : List Addr), PG (X.blk s H scp (compEnvC scp cl C X.env) fp) tg g) (ht : ∀ (s : Shared) (H : Hp) (C : Addr) (cl : List (Str × Addr)) (fp : List Addr), PTs (X.blk s H scp (compEnvC scp cl C X.env) fp) cs tt)
    (hi1 : ∀ (s : Shared) (H : Hp) (C : Addr) (cl : List (Str × Addr)) (fp : List Addr), PI (X.blk s H scp (compEnvC scp cl C X.env) fp) tg1 itr1 wi1)
    (hg1 : ∀ (s : Shared) (H : Hp) (C : Addr) (cl : List (Str × Addr)) (fp : List Addr), PG (X.blk s H scp (compEnvC scp cl C X.env) fp) tg1 g1) (ht1 : ∀ (s : Shared) (H : Hp) (C : Addr) (cl : List (Str × Addr)) (fp : List Addr), PTs (X.blk s H scp (compEnvC scp cl C X.env) fp) cs1 tt1)
    (he : ∀ (s : Shared) (H : Hp) (C : Addr) (cl : List (Str × Addr)) (fp : List Addr), PE (X.blk s H scp (compEnvC scp cl C X.env) fp) kx tk) (hv2 : ∀ (s : Shared) (H : Hp) (C : Addr) (cl : List (Str × Addr)) (fp : List Addr), PE (X.blk s H scp (compEnvC scp cl C X.env) fp) vx tv) (hs : ∀ x, foldedSetIterable itr X.env x = pure x := by intro _; rfl) (hs1 : ∀ ev x, foldedSetIterable itr1 ev x = pure x := by intro _ _; rfl) :
    PE X (.DictComp kx vx [⟨tg, itr, cs, 0⟩, ⟨tg1, itr1, cs1, 0⟩] scp pos) (tDc2 wi g tt wi1 g1 tt1 tk tv (ow.map (·.2)) vs1) := by
  refine ⟨fun pn s σ H Q Iv h => ?_⟩
  rw [arm_eval_DictComp]
  refine dc2_core hc hN Iv hi ok hv hg ht he hv2 hs hi1 hg1 ht1 hs1 h fun D C s' m H' I' q hn f => ⟨m, hn, fun h'' sb => ?_⟩
  obtain ⟨f0, f1, f2, f3, f4, f5⟩ := f
  exact ⟨.ref D, H', I'.turned (t' := s'.toks) (fun b o hb e => (sb.2 b hb).trans e) f0 f1 f3 f4 f5, rfl, q⟩
theorem ps_setDc2 {i : Nat} {y : Str} {py : Pos} {kx vx tg itr tg1 itr1 : Expr} {cs cs1 : List Expr} {scp : Scope} {ow : List (Str × Nat)} {vs1 : List Nat} {pos spos : Pos} {wi wi1 : TI} {g g1 : TG} {tt tt1 : TT} {tk tv : TE} (hc : X.calm = true) (hN : X.N.Nodup) (hy : X.N[i]? = some y) (hyl : X.env.scope.names.lookup y = some .local)
    (hsw : swapsWith (.DictComp kx vx [⟨tg, itr, cs, 0⟩, ⟨tg1, itr1, cs1, 0⟩] scp pos) (some (.Name y py)) spos.line X.env = pure true) (hi : PI X tg itr wi) (ok : BlkOk X.N X.env.scope scp ow) (hv : ∀ i ∈ vs1, i ∈ ow.map (·.2))
    (hg : ∀ (s : Shared) (H : Hp) (C : Addr) (cl : List (Str × Addr)) (fp : List Addr), PG (X.blk s H scp (compEnvC scp cl C X.env) fp) tg g) (ht : ∀ (s : Shared) (H : Hp) (C : Addr) (cl : List (Str × Addr)) (fp : List Addr), PTs (X.blk s H scp (compEnvC scp cl C X.env) fp) cs tt)
    (hi1 : ∀ (s : Shared) (H : Hp) (C : Addr) (cl : List (Str × Addr)) (fp : List Addr), PI (X.blk s H scp (compEnvC scp cl C X.env) fp) tg1 itr1 wi1)
    (hg1 : ∀ (s : Shared) (H : Hp) (C : Addr) (cl : List (Str × Addr)) (fp : List Addr), PG (X.blk s H scp (compEnvC scp cl C X.env) fp) tg1 g1) (ht1 : ∀ (s : Shared) (H : Hp) (C : Addr) (cl : List (Str × Addr)) (fp : List Addr), PTs (X.blk s H scp (compEnvC scp cl C X.env) fp) cs1 tt1)
    (he : ∀ (s : Shared) (H : Hp) (C : Addr) (cl : List (Str × Addr)) (fp : List Addr), PE (X.blk s H scp (compEnvC scp cl C X.env) fp) kx tk) (hv2 : ∀ (s : Shared) (H : Hp) (C : Addr) (cl : List (Str × Addr)) (fp : List Addr), PE (X.blk s H scp (compEnvC scp cl C X.env) fp) vx tv) (hs : ∀ x, foldedSetIterable itr X.env x = pure x := by intro _; rfl) (hs1 : ∀ ev x, foldedSetIterable itr1 ev x = pure x := by intro _ _; rfl) :
    PS X (.Assign [.Name y py] (.DictComp kx vx [⟨tg, itr, cs, 0⟩, ⟨tg1, itr1, cs1, 0⟩] scp pos) spos) (tAsg (tDc2 wi g tt wi1 g1 tt1 tk tv (ow.map (·.2)) vs1) (gName i)) := by
  refine ⟨fun pn s σ H D Iv h => ?_⟩
  rw [exec_Assign_Name_used _ _ _ _ hsw]
  refine wpAny_bind (wpAny_standAt (wpAny_bind ?_))
  show wpAny _ X.A (do let _ ← comprehension (.DictComp kx vx [⟨tg, itr, cs, 0⟩, ⟨tg1, itr1, cs1, 0⟩] scp pos) scp X.env (firstIterPos [⟨tg, itr, cs, 0⟩, ⟨tg1, itr1, cs1, 0⟩] pos) newDict false (eval itr X.env) (some (assign (.Name y py) X.env))) _ _ s
  have h : tDc2 wi g tt wi1 g1 tt1 tk tv (ow.map (·.2)) vs1 σ H (fun x H1 => gName i x σ H1 D.nx) := h
  refine wpAny_bind (thn (dc2_core (Qf := fun _ s' => SP X pn D .next s') hc hN Iv hi ok hv hg ht he hv2 hs hi1 hg1 ht1 hs1 h fun L C s' m H' I' q hn f => ?_) fun _ s' hq => wpAny_pure (wpAny_pure hq))
  show wpAny _ _ (assign (.Name y py) X.env (.ref L)) _ _ _
  refine wpAny_assign_Name (store_ok2 (v := V.ref L) I' hN hy (.inl hyl) rfl (fun s2 Iv2 ⟨a, sb, ha⟩ => ?_) (.inr hyl))
  obtain ⟨f0, f1, f2, f3, f4, f5⟩ := f
  have haC : C ≠ a := by
    rcases ha with z | z
    · rw [z]; exact f1
    · exact fun e => f4 y a z e.symm
  refine ⟨m, hn.sameBut sb haC, fun h3 sb3 => ?_⟩
  exact ⟨_, H', Iv2.turned (t' := s2.toks) (fun b o hb e => (sb3.2 b hb).trans e) f0 f1 f3 f4 f5, q⟩
theorem ps_setDc {i : Nat} {y : Str} {py : Pos} {kx vx tg itr : Expr} {cs : List Expr} {scp : Scope} {ow : List (Str × Nat)} {pos spos : Pos} {wi : TI} {g : TG} {tt : TT} {tk tv : TE} (hc : X.calm = true) (hN : X.N.Nodup) (hy : X.N[i]? = some y) (hyl : X.env.scope.names.lookup y = some .local)
    (hsw : swapsWith (.DictComp kx vx [⟨tg, itr, cs, 0⟩] scp pos) (some (.Name y py)) spos.line X.env = pure true) (hi : PI X tg itr wi) (ok : BlkOk X.N X.env.scope scp ow)
    (hg : ∀ (s : Shared) (H : Hp) (C : Addr) (cl : List (Str × Addr)) (fp : List Addr), PG (X.blk s H scp (compEnvC scp cl C X.env) fp) tg g) (ht : ∀ (s : Shared) (H : Hp) (C : Addr) (cl : List (Str × Addr)) (fp : List Addr), PTs (X.blk s H scp (compEnvC scp cl C X.env) fp) cs tt)
    (he : ∀ (s : Shared) (H : Hp) (C : Addr) (cl : List (Str × Addr)) (fp : List Addr), PE (X.blk s H scp (compEnvC scp cl C X.env) fp) kx tk) (hv2 : ∀ (s : Shared) (H : Hp) (C : Addr) (cl : List (Str × Addr)) (fp : List Addr), PE (X.blk s H scp (compEnvC scp cl C X.env) fp) vx tv) (hs : ∀ x, foldedSetIterable itr X.env x = pure x := by intro _; rfl) :
    PS X (.Assign [.Name y py] (.DictComp kx vx [⟨tg, itr, cs, 0⟩] scp pos) spos) (tAsg (tDc wi g tt tk tv (ow.map (·.2))) (gName i)) := by
  refine ⟨fun pn s σ H D Iv h => ?_⟩
  rw [exec_Assign_Name_used _ _ _ _ hsw]
  refine wpAny_bind (wpAny_standAt (wpAny_bind ?_))
  show wpAny _ X.A (do let _ ← comprehension (.DictComp kx vx [⟨tg, itr, cs, 0⟩] scp pos) scp X.env (firstIterPos [⟨tg, itr, cs, 0⟩] pos) newDict false (eval itr X.env) (some (assign (.Name y py) X.env))) _ _ s
  have h : tDc wi g tt tk tv (ow.map (·.2)) σ H (fun x H1 => gName i x σ H1 D.nx) := h
  refine wpAny_bind (thn (dc_core (Qf := fun _ s' => SP X pn D .next s') hc hN Iv hi ok hg ht he hv2 hs h fun L C s' m H' I' q hn f => ?_) fun _ s' hq => wpAny_pure (wpAny_pure hq))
  show wpAny _ _ (assign (.Name y py) X.env (.ref L)) _ _ _
  refine wpAny_assign_Name (store_ok2 (v := V.ref L) I' hN hy (.inl hyl) rfl (fun s2 Iv2 ⟨a, sb, ha⟩ => ?_) (.inr hyl))
  obtain ⟨f0, f1, f2, f3, f4, f5⟩ := f
  have haC : C ≠ a := by
    rcases ha with z | z
    · rw [z]; exact f1
    · exact fun e => f4 y a z e.symm
  refine ⟨m, hn.sameBut sb haC, fun h3 sb3 => ?_⟩
  exact ⟨_, H', Iv2.turned (t' := s2.toks) (fun b o hb e => (sb3.2 b hb).trans e) f0 f1 f3 f4 f5, q⟩
end
end Pw
set_option Elab.async false
set_option linter.all false
set_option maxRecDepth 100000
set_option maxHeartbeats 2000000
namespace Pw
open PySem PySem.Spec PyProof.Rows L2
section
variable {X : Cx} {xk : XD} {W : WX} {G : Gc} {C : Ct} {Γ : String → SpD} {k : Nat} {pos : Pos}
theorem dc_read {ρ : Rho} {S own : List Nat} {wi : St → Mp → (List D → (Mp → Prop) → Mp → Prop) → Prop} {wg : D → St → Mp → (St → Mp → Prop) → Prop} {wt : St → Mp → (Bool → Mp → Prop) → Prop} {wk we : St → Mp → DK → Prop} {m : Bool} (hS : ∀ i ∈ S, i ∈ own) {σ : L2.St} {H : Hp} {Q : VK}
    (h : LE X xk W (fun δ M Q => wi δ M fun ds still M1 => compL wg wt (fun δ1 _ acc M' K => wk δ1 M' fun y M2 => we δ1 M2 fun x M3 => match keyOf y with
      | some k => acc.length < LIM ∧ K (setK acc k x) M3
      | none => False) still (wipeD δ own) (fun acc M2 => mkND m acc M2 Q) ds [] M1) σ H Q) :
    tDc (LI ρ X xk W wi) (LG ρ X never W0 S wg) (LT X never W0 wt) (LE X never W0 wk) (LE X never W0 we) own σ H Q := by
  obtain ⟨δ, M, U, R, r, xo, h, out⟩ := h
  refine ⟨δ, M, U, _, r, xo, h, fun ds still M1 U1 H1 J g1 hC hz jok D hD => ?_⟩
  have hU1 := g1.kp.vw.none hD
  generalize hcL : compL wg wt (fun δ1 _ acc M' K => wk δ1 M' fun y M2 => we δ1 M2 fun x M3 => match keyOf y with
      | some k => acc.length < LIM ∧ K (setK acc k x) M3
      | none => False) still (wipeD δ own) (fun acc M2 => mkND m acc M2 R) = cL at hC
  have start : Go X.K M1 U1 H1 M1 U1 (upd H1 D (.dK [])) := ⟨.refl, ⟨fun a o ha n => by
    rw [upd_ne (ne_of_none ha hD)]
    exact ⟨ha, n⟩, fun a o ha => by
    rw [upd_ne (ne_of_none ha hU1)]
    exact g1.kp.vw _ _ ha⟩, g1.rm⟩
  refine ⟨fun i n Hc => n = ds.length - i ∧ i ≤ ds.length ∧ ∃ M' U' acc vs, Go X.K M1 U1 H1 M' U' Hc ∧ U' D = none ∧ Hc D = some (.dK vs) ∧ RKs X.K M' U' acc vs ∧ cL (ds.drop i) acc M', ⟨ds.length, by simp, Nat.zero_le _, M1, U1, [], [], start, hU1, upd_same, by simp only [RKs], by simpa using hC⟩, ?_⟩
  rintro i n Hc ⟨rfl, hi, M', U', acc, vs, g2, hU, hHc, ra, hC⟩
  cases hd : ds.drop i with
  | nil =>
    rw [hd, ← hcL] at hC
    have hi' : i = ds.length := by
      have := List.drop_eq_nil_iff.mp hd
      omega
    obtain ⟨st, hk⟩ := hC
    refine .inl ⟨(jok M' U' Hc g2.ex g2.kp.vw g2.rm st i).1 hi'.symm, ?_⟩
    have g12 := g1.trans g2
    have kp : Kp U H (upd U' D (.dK vs)) Hc := ⟨fun a o ha n => by
      have q := g12.kp.st a o ha n
      have q1 := g1.kp.st a o ha n
      have ne := ne_of_none q1.1 hD
      rw [upd_ne ne]
      exact q, fun a o ha => by
      by_cases e : a = D
      · subst e
        rw [upd_same] at ha
        rw [hHc]; exact ha
      · rw [upd_ne e] at ha
        exact g2.kp.vw _ _ ha⟩
    cases m with
    | false =>
      exact out (.dic acc) M' (.ref D) _ Hc (g12.ex.trans (Ext.new hU)) kp (g2.rm.new hU) (by
        simp only [RV]
        exact ⟨D, vs, rfl, upd_same, g2.rm.none_of hU, RKs.mono (Ext.new hU) g2.rm _ _ ra⟩) hk
    | true =>
      exact out (.ref D) (up M' D (.dic acc)) (.ref D) _ Hc (g12.ex.trans (Ext.newM hU)) kp (g2.rm.newM hU ⟨vs, upd_same, RKs.mono (Ext.newM hU) g2.rm _ _ ra⟩) (by simp only [RV]) (hk D (g2.rm.none_of hU))
  | cons d rest =>
    rw [hd, ← hcL] at hC
    obtain ⟨st, hC⟩ := hC
    have hlt : i < ds.length := by
      have : (ds.drop i).length = ds.length - i := List.length_drop
      rw [hd] at this
      simp at this
      omega
    have hdi : ds[i]? = some d := by
      have := congrArg (fun l : List Pw.D => l[0]?) hd
      simpa using this
    have hrest : ds.drop (i + 1) = rest := by
      have := congrArg List.tail hd
      simpa [List.tail_drop] using this
    obtain ⟨go, yl⟩ := (jok M' U' Hc g2.ex g2.kp.vw g2.rm st i).2 d hdi
    refine .inr ⟨go, fun H' => ∃ M'' U'' acc' vs', Go X.K M1 U1 H1 M'' U'' H' ∧ U'' D = none ∧ H' D = some (.dK vs') ∧ RKs X.K M'' U'' acc' vs' ∧ cL rest acc' M'', ?_, ?_⟩
    · rintro H' ⟨M'', U'', acc', vs', q1, q2, q3, q4, q6⟩
      exact ⟨ds.length - (i + 1), by omega, rfl, hlt, M'', U'', acc', vs', q1, q2, q3, q4, by rw [hrest]; exact q6⟩
    · intro x H' hy
      obtain ⟨U2, g3, rx⟩ := yl x H' hy
      have hD2 := g3.kp.st D _ hHc hU
      have rs2 := (r.mono (g1.trans (g2.trans g3))).rs.wipe2 own
      refine ⟨wipeD δ own, M', U2, _, d, ⟨g3.kp.vw, g3.rm, rs2⟩, XOk.no, rx, hC, fun δ1 M3 σ2 U3 H3 g4 rs4 sm hT => ⟨sm.wipe hS, ?_⟩⟩
      have hD3 := g4.kp.st D _ hD2.1 hD2.2
      refine ⟨δ1, M3, U3, _, ⟨g4.kp.vw, g4.rm, rs4⟩, XOk.no, hT, fun q M4 U4 H4 g5 hb => ?_⟩
      have hD4 := g5.kp.st D _ hD3.1 hD3.2
      have g25 := g2.trans (g3.trans (g4.trans g5))
      have ra4 := RKs.mono (g3.trans (g4.trans g5)).ex g2.rm _ _ ra
      cases q with
      | false =>
        dsimp only
        rw [if_neg Bool.false_ne_true]
        exact ⟨M4, U4, acc, vs, g25, hD4.2, hD4.1, ra4, by rw [← hcL]; exact hb⟩
      | true =>
        dsimp only
        rw [if_pos rfl]
        refine ⟨δ1, M4, U4, _, ⟨g5.kp.vw, g5.rm, rs4.mono g5.ex g4.rm⟩, XOk.no, hb, fun dk Mk vk Uk Hk ek kk rmk rvk hRk => ?_⟩
        have gk : Go X.K M4 U4 H4 Mk Uk Hk := ⟨ek, kk, rmk⟩
        refine ⟨δ1, Mk, Uk, _, ⟨kk.vw, rmk, (rs4.mono g5.ex g4.rm).mono ek g5.rm⟩, XOk.no, hRk, fun d5 M5 v5 U5 H5 e5 k5 rm5 rv5 hR5 => ?_⟩
        split at hR5
        · rename_i key hkey
          have hDk := kk.st D _ hD4.1 hD4.2
          have hD5 := k5.st D _ hDk.1 hDk.2
          have g26 := (g25.trans gk).trans ⟨e5, k5, rm5⟩
          have ra5 := RKs.mono e5 rmk _ _ (RKs.mono ek g5.rm _ _ ra4)
          refine ⟨vs, key, keyOf_kV hkey rvk, hD5.1, by rw [ra.length, lineLIM]; exact hR5.1, M5, U5, setK acc key d5, putK vs key v5, ⟨g26.ex, ⟨fun a o ha n => ?_, fun a o ha => ?_⟩, rm5⟩, hD5.2, upd_same, ra5.put rv5, by rw [← hcL]; exact hR5.2⟩
          · rw [upd_ne (ne_of_none ha hD)]
            exact g26.kp.st a o ha n
          · rw [upd_ne (ne_of_none ha hD5.2)]
            exact k5.vw _ _ ha
        · exact hR5.elim
theorem dc2_read {ρ ρ1 : Rho} {S S1 own own1 : List Nat} {wi wi1 : St → Mp → (List D → (Mp → Prop) → Mp → Prop) → Prop} {wg wg1 : D → St → Mp → (St → Mp → Prop) → Prop} {wt wt1 : St → Mp → (Bool → Mp → Prop) → Prop} {wk we : St → Mp → DK → Prop} {m : Bool}
    (hS : ∀ i ∈ S, i ∈ own) (hS1 : ∀ i ∈ S1, i ∈ own1) {σ : L2.St} {H : Hp} {Q : VK}
    (h : LE X xk W (fun δ M Q => wi δ M fun ds still M1 => compL wg wt (fun δ1 _ acc M2 K => wi1 δ1 M2 fun ds2 still2 M3 => compL wg1 wt1 (fun δ3 _ acc M' K' => wk δ3 M' fun y M4 => we δ3 M4 fun x M5 => match keyOf y with
      | some k => acc.length < LIM ∧ K' (setK acc k x) M5
      | none => False) still2 (wipeD δ1 own1) K ds2 acc M3) still (wipeD δ own) (fun acc M2 => mkND m acc M2 Q) ds [] M1) σ H Q) :
    tDc2 (LI ρ X xk W wi) (LG ρ X never W0 S wg) (LT X never W0 wt) (LI ρ1 X never W0 wi1) (LG ρ1 X never W0 S1 wg1) (LT X never W0 wt1) (LE X never W0 wk) (LE X never W0 we) own own1 σ H Q := by
  obtain ⟨δ, M, U, R, r, xo, h, out⟩ := h
  refine ⟨δ, M, U, _, r, xo, h, fun ds still M1 U1 H1 J g1 hC hz jok D hD => ?_⟩
  have hU1 := g1.kp.vw.none hD
  generalize hcL : compL wg wt (fun δ1 _ acc M2 K => wi1 δ1 M2 fun ds2 still2 M3 => compL wg1 wt1 (fun δ3 _ acc M' K' => wk δ3 M' fun y M4 => we δ3 M4 fun x M5 => match keyOf y with
      | some k => acc.length < LIM ∧ K' (setK acc k x) M5
      | none => False) still2 (wipeD δ1 own1) K ds2 acc M3) still (wipeD δ own) (fun acc M2 => mkND m acc M2 R) = cL at hC
  have start : Go X.K M1 U1 H1 M1 U1 (upd H1 D (.dK [])) := ⟨.refl, ⟨fun a o ha n => by
    rw [upd_ne (ne_of_none ha hD)]
    exact ⟨ha, n⟩, fun a o ha => by
    rw [upd_ne (ne_of_none ha hU1)]
    exact g1.kp.vw _ _ ha⟩, g1.rm⟩
  refine ⟨fun i n Hc => n = ds.length - i ∧ i ≤ ds.length ∧ ∃ M' U' acc vs, Go X.K M1 U1 H1 M' U' Hc ∧ U' D = none ∧ Hc D = some (.dK vs) ∧ RKs X.K M' U' acc vs ∧ cL (ds.drop i) acc M', ⟨ds.length, by simp, Nat.zero_le _, M1, U1, [], [], start, hU1, upd_same, by simp only [RKs], by simpa using hC⟩, ?_⟩
  rintro i n Hc ⟨rfl, hi, M', U', acc, vs, g2, hU, hHc, ra, hC⟩
  cases hd : ds.drop i with
  | nil =>
    rw [hd, ← hcL] at hC
    have hi' : i = ds.length := by
      have := List.drop_eq_nil_iff.mp hd
      omega
    obtain ⟨st, hk⟩ := hC
    refine .inl ⟨(jok M' U' Hc g2.ex g2.kp.vw g2.rm st i).1 hi'.symm, ?_⟩
    have g12 := g1.trans g2
    have kp : Kp U H (upd U' D (.dK vs)) Hc := ⟨fun a o ha n => by
      have q := g12.kp.st a o ha n
      have q1 := g1.kp.st a o ha n
      have ne := ne_of_none q1.1 hD
      rw [upd_ne ne]
      exact q, fun a o ha => by
      by_cases e : a = D
      · subst e
        rw [upd_same] at ha
        rw [hHc]; exact ha
      · rw [upd_ne e] at ha
        exact g2.kp.vw _ _ ha⟩
    cases m with
    | false =>
      exact out (.dic acc) M' (.ref D) _ Hc (g12.ex.trans (Ext.new hU)) kp (g2.rm.new hU) (by
        simp only [RV]
        exact ⟨D, vs, rfl, upd_same, g2.rm.none_of hU, RKs.mono (Ext.new hU) g2.rm _ _ ra⟩) hk
    | true =>
      exact out (.ref D) (up M' D (.dic acc)) (.ref D) _ Hc (g12.ex.trans (Ext.newM hU)) kp (g2.rm.newM hU ⟨vs, upd_same, RKs.mono (Ext.newM hU) g2.rm _ _ ra⟩) (by simp only [RV]) (hk D (g2.rm.none_of hU))
  | cons d rest =>
    rw [hd, ← hcL] at hC
    obtain ⟨st, hC⟩ := hC
    have hlt : i < ds.length := by
      have : (ds.drop i).length = ds.length - i := List.length_drop
      rw [hd] at this
      simp at this
      omega
    have hdi : ds[i]? = some d := by
      have := congrArg (fun l : List Pw.D => l[0]?) hd
      simpa using this
    have hrest : ds.drop (i + 1) = rest := by
      have := congrArg List.tail hd
      simpa [List.tail_drop] using this
    obtain ⟨go, yl⟩ := (jok M' U' Hc g2.ex g2.kp.vw g2.rm st i).2 d hdi
    refine .inr ⟨go, fun H' => ∃ M'' U'' acc' vs', Go X.K M1 U1 H1 M'' U'' H' ∧ U'' D = none ∧ H' D = some (.dK vs') ∧ RKs X.K M'' U'' acc' vs' ∧ cL rest acc' M'', ?_, ?_⟩
    · rintro H' ⟨M'', U'', acc', vs', q1, q2, q3, q4, q6⟩
      exact ⟨ds.length - (i + 1), by omega, rfl, hlt, M'', U'', acc', vs', q1, q2, q3, q4, by rw [hrest]; exact q6⟩
    · intro x H' hy
      obtain ⟨U2, g3, rx⟩ := yl x H' hy
      have hD2 := g3.kp.st D _ hHc hU
      have rs2 := (r.mono (g1.trans (g2.trans g3))).rs.wipe2 own
      refine ⟨wipeD δ own, M', U2, _, d, ⟨g3.kp.vw, g3.rm, rs2⟩, XOk.no, rx, hC, fun δ1 M3 σ2 U3 H3 g4 rs4 sm hT => ⟨sm.wipe hS, ?_⟩⟩
      have hD3 := g4.kp.st D _ hD2.1 hD2.2
      refine ⟨δ1, M3, U3, _, ⟨g4.kp.vw, g4.rm, rs4⟩, XOk.no, hT, fun q M4 U4 H4 g5 hb => ?_⟩
      have hD4 := g5.kp.st D _ hD3.1 hD3.2
      have g25 := g2.trans (g3.trans (g4.trans g5))
      have ra4 := RKs.mono (g3.trans (g4.trans g5)).ex g2.rm _ _ ra
      cases q with
      | false =>
        dsimp only
        rw [if_neg Bool.false_ne_true]
        exact ⟨M4, U4, acc, vs, g25, hD4.2, hD4.1, ra4, by rw [← hcL]; exact hb⟩
      | true =>
        dsimp only
        rw [if_pos rfl]
        refine ⟨δ1, M4, U4, _, ⟨g5.kp.vw, g5.rm, rs4.mono g5.ex g4.rm⟩, XOk.no, hb, fun ds2 still2 M5 U5 H5 J1 g6 hC2 hz2 jok2 => ?_⟩
        have hD5 := g6.kp.st D _ hD4.1 hD4.2
        have g26 := g25.trans g6
        have ra5 := RKs.mono g6.ex g5.rm _ _ ra4
        have rs5 := (rs4.mono g5.ex g4.rm).mono g6.ex g5.rm
        generalize hcI : compL wg1 wt1 (fun δ3 _ acc M' K' => wk δ3 M' fun y M4 => we δ3 M4 fun x M5 => match keyOf y with
      | some k => acc.length < LIM ∧ K' (setK acc k x) M5
      | none => False) still2 (wipeD δ1 own1) (fun acc' M3 => compL wg wt (fun δ1 _ acc M2 K => wi1 δ1 M2 fun ds2 still2 M3 => compL wg1 wt1 (fun δ3 _ acc M' K' => wk δ3 M' fun y M4 => we δ3 M4 fun x M5 => match keyOf y with
      | some k => acc.length < LIM ∧ K' (setK acc k x) M5
      | none => False) still2 (wipeD δ1 own1) K ds2 acc M3) still (wipeD δ own) (fun acc M2 => mkND m acc M2 R) rest acc' M3) = cI at hC2
        refine ⟨fun j n Hc => n = ds2.length - j ∧ j ≤ ds2.length ∧ ∃ M' U' acc vs, Go X.K M1 U1 H1 M' U' Hc ∧ Ext M5 U5 M' U' ∧ U' D = none ∧ Hc D = some (.dK vs) ∧ RKs X.K M' U' acc vs ∧ cI (ds2.drop j) acc M', ⟨ds2.length, by simp, Nat.zero_le _, M5, U5, acc, vs, g26, .refl, hD5.2, hD5.1, ra5, by simpa using hC2⟩, ?_⟩
        rintro j n Hc2 ⟨rfl, hj, M7, U7, acc7, vs7, g7, x7, hU7, hHc7, ra7, hC7⟩
        cases hd2 : ds2.drop j with
        | nil =>
          rw [hd2, ← hcI] at hC7
          have hj' : j = ds2.length := by
            have := List.drop_eq_nil_iff.mp hd2
            omega
          obtain ⟨st2, hk2⟩ := hC7
          exact .inl ⟨(jok2 M7 U7 Hc2 x7 g7.kp.vw g7.rm st2 j).1 hj'.symm, M7, U7, acc7, vs7, g7, hU7, hHc7, ra7, by rw [← hcL]; exact hk2⟩
        | cons d2 rest2 =>
          rw [hd2, ← hcI] at hC7
          obtain ⟨st2, hC7⟩ := hC7
          have hlt2 : j < ds2.length := by
            have : (ds2.drop j).length = ds2.length - j := List.length_drop
            rw [hd2] at this
            simp at this
            omega
          have hdj : ds2[j]? = some d2 := by
            have := congrArg (fun l : List Pw.D => l[0]?) hd2
            simpa using this
          have hrest2 : ds2.drop (j + 1) = rest2 := by
            have := congrArg List.tail hd2
            simpa [List.tail_drop] using this
          obtain ⟨go2, yl2⟩ := (jok2 M7 U7 Hc2 x7 g7.kp.vw g7.rm st2 j).2 d2 hdj
          refine .inr ⟨go2, fun H' => ∃ M'' U'' acc' vs', Go X.K M1 U1 H1 M'' U'' H' ∧ Ext M5 U5 M'' U'' ∧ U'' D = none ∧ H' D = some (.dK vs') ∧ RKs X.K M'' U'' acc' vs' ∧ cI rest2 acc' M'', ?_, ?_⟩
          · rintro H' ⟨M'', U'', acc', vs', q1, q2, q3, q4, q5, q6⟩
            exact ⟨ds2.length - (j + 1), by omega, rfl, hlt2, M'', U'', acc', vs', q1, q2, q3, q4, q5, by rw [hrest2]; exact q6⟩
          · intro x2 H2 hy2
            obtain ⟨U8, g8, rx2⟩ := yl2 x2 H2 hy2
            have hD8 := g8.kp.st D _ hHc7 hU7
            have rs8 := ((rs5.mono x7 g6.rm).mono g8.ex g7.rm).wipe2 own1
            refine ⟨wipeD δ1 own1, M7, U8, _, d2, ⟨g8.kp.vw, g8.rm, rs8⟩, XOk.no, rx2, hC7, fun δ3 M9 σ3 U9 H9 g9 rs9 sm9 hT9 => ⟨sm9.wipe hS1, ?_⟩⟩
            have hD9 := g9.kp.st D _ hD8.1 hD8.2
            refine ⟨δ3, M9, U9, _, ⟨g9.kp.vw, g9.rm, rs9⟩, XOk.no, hT9, fun q M10 U10 H10 g10 hb10 => ?_⟩
            have hD10 := g10.kp.st D _ hD9.1 hD9.2
            have g810 := g8.trans (g9.trans g10)
            have ra10 := RKs.mono g810.ex g7.rm _ _ ra7
            cases q with
            | false =>
              dsimp only
              rw [if_neg Bool.false_ne_true]
              exact ⟨M10, U10, acc7, vs7, g7.trans g810, x7.trans g810.ex, hD10.2, hD10.1, ra10, by rw [← hcI]; exact hb10⟩
            | true =>
              dsimp only
              rw [if_pos rfl]
              refine ⟨δ3, M10, U10, _, ⟨g10.kp.vw, g10.rm, rs9.mono g10.ex g9.rm⟩, XOk.no, hb10, fun dk Mk vk Uk Hk ek kk rmk rvk hRk => ?_⟩
              have gk : Go X.K M10 U10 H10 Mk Uk Hk := ⟨ek, kk, rmk⟩
              refine ⟨δ3, Mk, Uk, _, ⟨kk.vw, rmk, (rs9.mono g10.ex g9.rm).mono ek g10.rm⟩, XOk.no, hRk, fun d11 M11 v11 U11 H11 e11 k11 rm11 rv11 hR11 => ?_⟩
              split at hR11
              · rename_i key hkey
                have hDk := kk.st D _ hD10.1 hD10.2
                have hD11 := k11.st D _ hDk.1 hDk.2
                have g11 := ((g7.trans g810).trans gk).trans ⟨e11, k11, rm11⟩
                have ra11 := RKs.mono e11 rmk _ _ (RKs.mono ek g10.rm _ _ ra10)
                refine ⟨vs7, key, keyOf_kV hkey rvk, hD11.1, by rw [ra7.length, lineLIM]; exact hR11.1, M11, U11, setK acc7 key d11, putK vs7 key v11, ⟨g11.ex, ⟨fun a o ha n => ?_, fun a o ha => ?_⟩, rm11⟩, ((x7.trans g810.ex).trans ek).trans e11, hD11.2, upd_same, ra11.put rv11, by rw [← hcI]; exact hR11.2⟩
                · rw [upd_ne (ne_of_none ha hD)]
                  exact g11.kp.st a o ha n
                · rw [upd_ne (ne_of_none ha hD11.2)]
                  exact k11.vw _ _ ha
              · exact hR11.elim
section
variable {ρ : Rho} {S own : List Nat} {wi : St → Mp → (List D → (Mp → Prop) → Mp → Prop) → Prop} {wg : D → St → Mp → (St → Mp → Prop) → Prop} {wt : St → Mp → (Bool → Mp → Prop) → Prop} {wk we : St → Mp → DK → Prop} {m : Bool} {kx vx tg iter : Expr} {ifs : List Expr} {sc : Scope}
theorem r_dc1 (g : GX X G C Γ k W) (hok : blkC C.N C.sc sc (ownOf C.N own) = true) (hS : ∀ i ∈ S, i ∈ own) (hs : noSet iter = true) (hi : PI X tg iter (LI ρ X xk W wi))
    (hg : ∀ (s : Shared) (H : Hp) (Ca : Addr) (cl : List (Str × Addr)) (fp : List Addr), PG (X.blk s H sc (compEnvC sc cl Ca X.env) fp) tg (LG ρ X never W0 S wg)) (ht : ∀ (s : Shared) (H : Hp) (Ca : Addr) (cl : List (Str × Addr)) (fp : List Addr), PTs (X.blk s H sc (compEnvC sc cl Ca X.env) fp) ifs (LT X never W0 wt))
    (hk : ∀ (s : Shared) (H : Hp) (Ca : Addr) (cl : List (Str × Addr)) (fp : List Addr), PE (X.blk s H sc (compEnvC sc cl Ca X.env) fp) kx (LE X never W0 wk))
    (he : ∀ (s : Shared) (H : Hp) (Ca : Addr) (cl : List (Str × Addr)) (fp : List Addr), PE (X.blk s H sc (compEnvC sc cl Ca X.env) fp) vx (LE X never W0 we)) :
    PE X (.DictComp kx vx [⟨tg, iter, ifs, 0⟩] sc pos) (LE X xk W fun δ M Q => wi δ M fun ds still M1 => compL wg wt (fun δ1 _ acc M' K => wk δ1 M' fun y M2 => we δ1 M2 fun x M3 => match keyOf y with
      | some k => acc.length < LIM ∧ K (setK acc k x) M3
      | none => False) still (wipeD δ own) (fun acc M2 => mkND m acc M2 Q) ds [] M1) := by
  rw [← g.N, ← g.sc] at hok
  refine pe_imp (pe_dc g.calm g.nd hi (blkOk_by hok) hg ht hk he (set_fold hs)) fun σ H Q h => ?_
  rw [ownOf_map]
  exact dc_read hS h
end
section
variable {ρ ρ1 : Rho} {S S1 own own1 : List Nat} {wi wi1 : St → Mp → (List D → (Mp → Prop) → Mp → Prop) → Prop} {wg wg1 : D → St → Mp → (St → Mp → Prop) → Prop} {wt wt1 : St → Mp → (Bool → Mp → Prop) → Prop} {wk we : St → Mp → DK → Prop} {m : Bool} {kx vx tg iter tg1 iter1 : Expr} {ifs ifs1 : List Expr} {sc : Scope}
theorem r_dc2 (g : GX X G C Γ k W) (hok : blkC C.N C.sc sc (ownOf C.N own) = true) (hS : ∀ i ∈ S, i ∈ own) (hS1 : ∀ i ∈ S1, i ∈ own1) (ho : ∀ i ∈ own1, i ∈ own) (hs : noSet iter = true) (hs1 : noSet iter1 = true) (hi : PI X tg iter (LI ρ X xk W wi))
    (hg : ∀ (s : Shared) (H : Hp) (Ca : Addr) (cl : List (Str × Addr)) (fp : List Addr), PG (X.blk s H sc (compEnvC sc cl Ca X.env) fp) tg (LG ρ X never W0 S wg)) (ht : ∀ (s : Shared) (H : Hp) (Ca : Addr) (cl : List (Str × Addr)) (fp : List Addr), PTs (X.blk s H sc (compEnvC sc cl Ca X.env) fp) ifs (LT X never W0 wt))
    (hi1 : ∀ (s : Shared) (H : Hp) (Ca : Addr) (cl : List (Str × Addr)) (fp : List Addr), PI (X.blk s H sc (compEnvC sc cl Ca X.env) fp) tg1 iter1 (LI ρ1 X never W0 wi1))
    (hg1 : ∀ (s : Shared) (H : Hp) (Ca : Addr) (cl : List (Str × Addr)) (fp : List Addr), PG (X.blk s H sc (compEnvC sc cl Ca X.env) fp) tg1 (LG ρ1 X never W0 S1 wg1)) (ht1 : ∀ (s : Shared) (H : Hp) (Ca : Addr) (cl : List (Str × Addr)) (fp : List Addr), PTs (X.blk s H sc (compEnvC sc cl Ca X.env) fp) ifs1 (LT X never W0 wt1))
    (hk : ∀ (s : Shared) (H : Hp) (Ca : Addr) (cl : List (Str × Addr)) (fp : List Addr), PE (X.blk s H sc (compEnvC sc cl Ca X.env) fp) kx (LE X never W0 wk))
    (he : ∀ (s : Shared) (H : Hp) (Ca : Addr) (cl : List (Str × Addr)) (fp : List Addr), PE (X.blk s H sc (compEnvC sc cl Ca X.env) fp) vx (LE X never W0 we)) :
    PE X (.DictComp kx vx [⟨tg, iter, ifs, 0⟩, ⟨tg1, iter1, ifs1, 0⟩] sc pos) (LE X xk W fun δ M Q => wi δ M fun ds still M1 => compL wg wt (fun δ1 _ acc M2 K => wi1 δ1 M2 fun ds2 still2 M3 => compL wg1 wt1 (fun δ3 _ acc M' K' => wk δ3 M' fun y M4 => we δ3 M4 fun x M5 => match keyOf y with
      | some k => acc.length < LIM ∧ K' (setK acc k x) M5
      | none => False) still2 (wipeD δ1 own1) K ds2 acc M3) still (wipeD δ own) (fun acc M2 => mkND m acc M2 Q) ds [] M1) := by
  rw [← g.N, ← g.sc] at hok
  refine pe_imp (pe_dc2 (vs1 := own1) g.calm g.nd hi (blkOk_by hok) (by rw [ownOf_map]; exact ho) hg ht hi1 hg1 ht1 hk he (set_fold hs) (set_foldE hs1)) fun σ H Q h => ?_
  rw [ownOf_map]
  exact dc2_read hS hS1 h
end
section
theorem s_setLc2 {ρ ρ1 : Rho} {T T1 own own1 : List Nat} {wi wi1 : St → Mp → (List D → (Mp → Prop) → Mp → Prop) → Prop} {wh wh1 : D → St → Mp → (St → Mp → Prop) → Prop} {wt wt1 : St → Mp → (Bool → Mp → Prop) → Prop} {we : St → Mp → DK → Prop} {m : Bool} {elt ctg iter ctg1 iter1 : Expr} {ifs ifs1 : List Expr} {sc : Scope} {i : Nat} {y : Str} {py lpos : Pos}
    (g : GS X G C Γ k W) (hok : blkC C.N C.sc sc (ownOf C.N own) = true) (hS : ∀ i ∈ T, i ∈ own) (hS1 : ∀ i ∈ T1, i ∈ own1) (ho : ∀ i ∈ own1, i ∈ own) (hs : noSet iter = true) (hs1 : noSet iter1 = true) (hy : C.N[i]? = some y) (hb : swB C.sc (.Name y py) (.ListComp elt [⟨ctg, iter, ifs, 0⟩, ⟨ctg1, iter1, ifs1, 0⟩] sc lpos) = true) (hi : PI X ctg iter (LI ρ X xk W wi))
    (hg : ∀ (s : Shared) (H : Hp) (Ca : Addr) (cl : List (Str × Addr)) (fp : List Addr), PG (X.blk s H sc (compEnvC sc cl Ca X.env) fp) ctg (LG ρ X never W0 T wh)) (ht : ∀ (s : Shared) (H : Hp) (Ca : Addr) (cl : List (Str × Addr)) (fp : List Addr), PTs (X.blk s H sc (compEnvC sc cl Ca X.env) fp) ifs (LT X never W0 wt))
    (hi1 : ∀ (s : Shared) (H : Hp) (Ca : Addr) (cl : List (Str × Addr)) (fp : List Addr), PI (X.blk s H sc (compEnvC sc cl Ca X.env) fp) ctg1 iter1 (LI ρ1 X never W0 wi1))
    (hg1 : ∀ (s : Shared) (H : Hp) (Ca : Addr) (cl : List (Str × Addr)) (fp : List Addr), PG (X.blk s H sc (compEnvC sc cl Ca X.env) fp) ctg1 (LG ρ1 X never W0 T1 wh1)) (ht1 : ∀ (s : Shared) (H : Hp) (Ca : Addr) (cl : List (Str × Addr)) (fp : List Addr), PTs (X.blk s H sc (compEnvC sc cl Ca X.env) fp) ifs1 (LT X never W0 wt1))
    (he : ∀ (s : Shared) (H : Hp) (Ca : Addr) (cl : List (Str × Addr)) (fp : List Addr), PE (X.blk s H sc (compEnvC sc cl Ca X.env) fp) elt (LE X never W0 we)) :
    PS X (.Assign [.Name y py] (.ListComp elt [⟨ctg, iter, ifs, 0⟩, ⟨ctg1, iter1, ifs1, 0⟩] sc lpos) pos) (LS X xk W fun E δ M => wi δ M fun ds still M1 => compL wh wt (fun δ1 _ acc M2 K => wi1 δ1 M2 fun ds2 still2 M3 => compL wh1 wt1 (fun δ3 _ acc M' K' => we δ3 M' fun x M'' => acc.length < LIM ∧ K' (acc ++ [x]) M'') still2 (wipeD δ1 own1) K ds2 acc M3) still (wipeD δ own) (fun acc M2 => mkN m acc M2 fun x M3 => E.nx (δ.set i (some x)) M3) ds [] M1) := by
  have hsw := sw_of (tg := .Name y py) (e := .ListComp elt [⟨ctg, iter, ifs, 0⟩, ⟨ctg1, iter1, ifs1, 0⟩] sc lpos) (l := pos.line) g.kd rfl
  rw [g.sc, hb] at hsw
  have hl : X.env.scope.names.lookup y = some .local := by
    have : isLoc C.sc y = true := by
      unfold swB at hb
      simp only [Bool.and_eq_true] at hb
      exact hb.1.1
    rw [g.sc]
    unfold isLoc at this
    split at this
    · assumption
    · cases this
  rw [← g.N, ← g.sc] at hok
  refine ps_imp (ps_setLc2 (vs1 := own1) g.calm g.nd (by rw [g.N]; exact hy) hl hsw hi (blkOk_by hok) (by rw [ownOf_map]; exact ho) hg ht hi1 hg1 ht1 he (set_fold hs) (set_foldE hs1)) fun D σ H h => ?_
  rw [ownOf_map]
  obtain ⟨δ, M, U, E, r, xo, h, out⟩ := h
  refine lc2_read (m := m) hS hS1 ⟨δ, M, U, fun x M3 => E.nx (δ.set i (some x)) M3, r, xo, h, fun d M1 v U1 H1 e k rm rv hR => ?_⟩
  have g1 := Go.mk e k rm
  exact out.nx _ M1 _ U1 H1 g1 ((r.mono g1).rs.set i rv) hR
theorem s_setDc1 {ρ : Rho} {T own : List Nat} {wi : St → Mp → (List D → (Mp → Prop) → Mp → Prop) → Prop} {wh : D → St → Mp → (St → Mp → Prop) → Prop} {wt : St → Mp → (Bool → Mp → Prop) → Prop} {wk we : St → Mp → DK → Prop} {m : Bool} {kx vx ctg iter : Expr} {ifs : List Expr} {sc : Scope} {i : Nat} {y : Str} {py lpos : Pos}
    (g : GS X G C Γ k W) (hok : blkC C.N C.sc sc (ownOf C.N own) = true) (hS : ∀ i ∈ T, i ∈ own) (hs : noSet iter = true) (hy : C.N[i]? = some y) (hb : swB C.sc (.Name y py) (.DictComp kx vx [⟨ctg, iter, ifs, 0⟩] sc lpos) = true) (hi : PI X ctg iter (LI ρ X xk W wi))
    (hg : ∀ (s : Shared) (H : Hp) (Ca : Addr) (cl : List (Str × Addr)) (fp : List Addr), PG (X.blk s H sc (compEnvC sc cl Ca X.env) fp) ctg (LG ρ X never W0 T wh)) (ht : ∀ (s : Shared) (H : Hp) (Ca : Addr) (cl : List (Str × Addr)) (fp : List Addr), PTs (X.blk s H sc (compEnvC sc cl Ca X.env) fp) ifs (LT X never W0 wt))
    (hk : ∀ (s : Shared) (H : Hp) (Ca : Addr) (cl : List (Str × Addr)) (fp : List Addr), PE (X.blk s H sc (compEnvC sc cl Ca X.env) fp) kx (LE X never W0 wk))
    (he : ∀ (s : Shared) (H : Hp) (Ca : Addr) (cl : List (Str × Addr)) (fp : List Addr), PE (X.blk s H sc (compEnvC sc cl Ca X.env) fp) vx (LE X never W0 we)) :
    PS X (.Assign [.Name y py] (.DictComp kx vx [⟨ctg, iter, ifs, 0⟩] sc lpos) pos) (LS X xk W fun E δ M => wi δ M fun ds still M1 => compL wh wt (fun δ1 _ acc M' K => wk δ1 M' fun y M2 => we δ1 M2 fun x M3 => match keyOf y with
      | some k => acc.length < LIM ∧ K (setK acc k x) M3
      | none => False) still (wipeD δ own) (fun acc M2 => mkND m acc M2 fun x M3 => E.nx (δ.set i (some x)) M3) ds [] M1) := by
  have hsw := sw_of (tg := .Name y py) (e := .DictComp kx vx [⟨ctg, iter, ifs, 0⟩] sc lpos) (l := pos.line) g.kd rfl
  rw [g.sc, hb] at hsw
  have hl : X.env.scope.names.lookup y = some .local := by
    have : isLoc C.sc y = true := by
      unfold swB at hb
      simp only [Bool.and_eq_true] at hb
      exact hb.1.1
    rw [g.sc]
    unfold isLoc at this
    split at this
    · assumption
    · cases this
  rw [← g.N, ← g.sc] at hok
  refine ps_imp (ps_setDc g.calm g.nd (by rw [g.N]; exact hy) hl hsw hi (blkOk_by hok) hg ht hk he (set_fold hs)) fun D σ H h => ?_
  rw [ownOf_map]
  obtain ⟨δ, M, U, E, r, xo, h, out⟩ := h
  refine dc_read (m := m) hS ⟨δ, M, U, fun x M3 => E.nx (δ.set i (some x)) M3, r, xo, h, fun d M1 v U1 H1 e k rm rv hR => ?_⟩
  have g1 := Go.mk e k rm
  exact out.nx _ M1 _ U1 H1 g1 ((r.mono g1).rs.set i rv) hR
theorem s_setDc2 {ρ ρ1 : Rho} {T T1 own own1 : List Nat} {wi wi1 : St → Mp → (List D → (Mp → Prop) → Mp → Prop) → Prop} {wh wh1 : D → St → Mp → (St → Mp → Prop) → Prop} {wt wt1 : St → Mp → (Bool → Mp → Prop) → Prop} {wk we : St → Mp → DK → Prop} {m : Bool} {kx vx ctg iter ctg1 iter1 : Expr} {ifs ifs1 : List Expr} {sc : Scope} {i : Nat} {y : Str} {py lpos : Pos}
    (g : GS X G C Γ k W) (hok : blkC C.N C.sc sc (ownOf C.N own) = true) (hS : ∀ i ∈ T, i ∈ own) (hS1 : ∀ i ∈ T1, i ∈ own1) (ho : ∀ i ∈ own1, i ∈ own) (hs : noSet iter = true) (hs1 : noSet iter1 = true) (hy : C.N[i]? = some y) (hb : swB C.sc (.Name y py) (.DictComp kx vx [⟨ctg, iter, ifs, 0⟩, ⟨ctg1, iter1, ifs1, 0⟩] sc lpos) = true) (hi : PI X ctg iter (LI ρ X xk W wi))
    (hg : ∀ (s : Shared) (H : Hp) (Ca : Addr) (cl : List (Str × Addr)) (fp : List Addr), PG (X.blk s H sc (compEnvC sc cl Ca X.env) fp) ctg (LG ρ X never W0 T wh)) (ht : ∀ (s : Shared) (H : Hp) (Ca : Addr) (cl : List (Str × Addr)) (fp : List Addr), PTs (X.blk s H sc (compEnvC sc cl Ca X.env) fp) ifs (LT X never W0 wt))
    (hi1 : ∀ (s : Shared) (H : Hp) (Ca : Addr) (cl : List (Str × Addr)) (fp : List Addr), PI (X.blk s H sc (compEnvC sc cl Ca X.env) fp) ctg1 iter1 (LI ρ1 X never W0 wi1))
    (hg1 : ∀ (s : Shared) (H : Hp) (Ca : Addr) (cl : List (Str × Addr)) (fp : List Addr), PG (X.blk s H sc (compEnvC sc cl Ca X.env) fp) ctg1 (LG ρ1 X never W0 T1 wh1)) (ht1 : ∀ (s : Shared) (H : Hp) (Ca : Addr) (cl : List (Str × Addr)) (fp : List Addr), PTs (X.blk s H sc (compEnvC sc cl Ca X.env) fp) ifs1 (LT X never W0 wt1))
    (hk : ∀ (s : Shared) (H : Hp) (Ca : Addr) (cl : List (Str × Addr)) (fp : List Addr), PE (X.blk s H sc (compEnvC sc cl Ca X.env) fp) kx (LE X never W0 wk))
    (he : ∀ (s : Shared) (H : Hp) (Ca : Addr) (cl : List (Str × Addr)) (fp : List Addr), PE (X.blk s H sc (compEnvC sc cl Ca X.env) fp) vx (LE X never W0 we)) :
    PS X (.Assign [.Name y py] (.DictComp kx vx [⟨ctg, iter, ifs, 0⟩, ⟨ctg1, iter1, ifs1, 0⟩] sc lpos) pos) (LS X xk W fun E δ M => wi δ M fun ds still M1 => compL wh wt (fun δ1 _ acc M2 K => wi1 δ1 M2 fun ds2 still2 M3 => compL wh1 wt1 (fun δ3 _ acc M' K' => wk δ3 M' fun y M4 => we δ3 M4 fun x M5 => match keyOf y with
      | some k => acc.length < LIM ∧ K' (setK acc k x) M5
      | none => False) still2 (wipeD δ1 own1) K ds2 acc M3) still (wipeD δ own) (fun acc M2 => mkND m acc M2 fun x M3 => E.nx (δ.set i (some x)) M3) ds [] M1) := by
  have hsw := sw_of (tg := .Name y py) (e := .DictComp kx vx [⟨ctg, iter, ifs, 0⟩, ⟨ctg1, iter1, ifs1, 0⟩] sc lpos) (l := pos.line) g.kd rfl
  rw [g.sc, hb] at hsw
  have hl : X.env.scope.names.lookup y = some .local := by
    have : isLoc C.sc y = true := by
      unfold swB at hb
      simp only [Bool.and_eq_true] at hb
      exact hb.1.1
    rw [g.sc]
    unfold isLoc at this
    split at this
    · assumption
    · cases this
  rw [← g.N, ← g.sc] at hok
  refine ps_imp (ps_setDc2 (vs1 := own1) g.calm g.nd (by rw [g.N]; exact hy) hl hsw hi (blkOk_by hok) (by rw [ownOf_map]; exact ho) hg ht hi1 hg1 ht1 hk he (set_fold hs) (set_foldE hs1)) fun D σ H h => ?_
  rw [ownOf_map]
  obtain ⟨δ, M, U, E, r, xo, h, out⟩ := h
  refine dc2_read (m := m) hS hS1 ⟨δ, M, U, fun x M3 => E.nx (δ.set i (some x)) M3, r, xo, h, fun d M1 v U1 H1 e k rm rv hR => ?_⟩
  have g1 := Go.mk e k rm
  exact out.nx _ M1 _ U1 H1 g1 ((r.mono g1).rs.set i rv) hR
end
end
end Pw
set_option Elab.async false
set_option linter.all false
set_option maxRecDepth 100000
set_option maxHeartbeats 2000000
namespace Pw
open PySem PySem.Spec PyProof.Rows L2

/-! ### exceptions that are kept -/
section
variable {X : Cx} {pins : List (Addr × Obj)} {σ : L2.St} {H : Hp} {sI s' : Shared} {B : Heap} {a : Addr} {oe : Obj} {vs : Array Value} {cls : Value}
theorem excHv_ok {P : Program} {w : World} {h : Heap} (e : h.get? a = some oe) (z : Zc cls none oe) (d : oe.data = .fields vs) : ObjOk P w H h a (ExcHv cls a) :=
  ⟨⟨oe, vs, e, z, d⟩, ⟨oe, e⟩, fun _ _ ⟨o, v, q, r⟩ k => ⟨o, v, k o q, r⟩⟩
/-- the exception has landed, and is known from here on -/
theorem inv_caught (I : L2.Inv X pins σ H sI) (nb : ∀ b o, sI.heap.get? b = some o → b ∉ frs X.stack → B.get? b = some o) (hst : B.StaysIn s'.heap) (hup : sI.heap.UpToSlots s'.heap) (hos : s'.os = sI.os) (hag : AllBare s'.gens)
    (hB : B.get? a = none) (ha : a ∉ frs X.stack) (na : H a = none) (he : s'.heap.get? a = some oe) (hz : Zc cls none oe) (hd : oe.data = .fields vs) : L2.Inv X pins σ (upd H a (ExcHv cls a)) s' := by
  have onFrame : ∀ b ∈ frs X.stack, ∀ o, sI.heap.get? b = some o → ∃ sl, s'.heap.get? b = some { o with slots := sl } := fun b hb o e => by
    obtain ⟨_, o', e', hnf⟩ := I.stack.mem hb
    rw [e] at e'; cases e'
    exact hup b o e hnf
  have nea : ∀ b o, sI.heap.get? b = some o → b ≠ a := fun b o e z => by
    subst z
    have := nb _ o e ha
    rw [hB] at this; cases this
  have J := I.call (ch := []) (h' := s'.heap) (g' := s'.gens) (t' := s'.toks) (d' := s'.drawn) (H' := upd H a (ExcHv cls a))
    ⟨fun b o e _ hb _ => hst b o (nb b o e hb), fun b o e _ hb _ => onFrame b hb o e, fun b o e n _ => by rw [upd_ne (nea b o e)]; exact n, fun b o e _ => by
      by_cases hb : b ∈ frs X.stack
      · obtain ⟨sl, q⟩ := onFrame b hb o e
        exact ⟨_, q⟩
      · exact ⟨o, hst b o (nb b o e hb)⟩, fun b xs e => by rw [upd_ne (ne_of_none e na)]; exact e, fun b o u e => by rw [upd_ne (ne_of_none e na)]; exact e, fun b ps e => ⟨#[], by rw [upd_ne (ne_of_none e na), e]; simp⟩⟩
    (((I.inGround nb).kept hst).laidN (fun _ _ h => h) na (excHv_ok he hz hd)) hag (fun _ z => nomatch z)
  obtain ⟨h1, h2, h3, h4, h5⟩ := s'
  have e5 : h5 = sI.os := hos
  subst e5
  exact J
theorem inv_suite (I : L2.Inv X pins σ H sI) (a : Addr) : L2.Inv (X.suite a (X.pn ++ pins)) [] σ H sI :=
  ⟨I.ok.suite _ _, I.os, I.bare, I.base, I.loc, I.cell, I.free, I.freeC, fun p hp => I.pin p (by rw [List.append_nil] at hp; exact hp), I.hok, I.len⟩
theorem inv_unsuite {pn' : List (Addr × Obj)} (I : L2.Inv (X.suite a (X.pn ++ pins)) pn' σ H sI) (ok : X.Ok) : L2.Inv X pins σ H sI :=
  ⟨ok, I.os, I.bare, I.base, I.loc, I.cell, I.free, I.freeC, fun p hp => I.pin p (List.mem_append_left _ hp), I.hok, I.len⟩
end
/-- what the clause 'except c as n: y = n' wishes; every exception that may come is one of c -/
def wKeep (K : PySem.W.Frag) (c : Value) (i j : Nat) (D : Ends) : WX := fun cls d σ H => d = none ∧ PySem.W.exmOne K cls c = some true ∧ ∀ a, H a = none → D.nx ((σ.set j (some (.ref a))).set i none) (upd H a (ExcHv cls a))
section
variable {X : Cx} {x n y : Str} {c : Value} {i j : Nat} {body : List Stmt} {np yp zp ap hp pos : Pos} {tb : WX → TS}
theorem ps_tryKeep (hs : X.stack = X.env :: X.outer) (hf : X.env.frame = some X.env.locals) (hN : X.N.Nodup) (hi : X.N[i]? = some n) (hln : X.env.kindOf n = some .local) (hd1 : (n == ("__debug__" : Str)) = false) (hd2 : (n == ("__classdict__" : Str)) = false) (hj : X.N[j]? = some y) (hly : X.env.kindOf y = some .local) (hc : Names X x c)
    (hb : ∀ (W : WX) (pn : List (Addr × Obj)) (xe : Value → Shared → Prop), Takes (X.tr pn xe) W → PassesOwn (model X.prog X.w) X.A X.env xe → PSs (X.tr pn xe) body (tb W)) :
    PS X (.Try body [.ExceptHandler (some (.Name x np)) (some n) [.Assign [.Name y yp] (.Name n zp) ap] hp] [] [] pos) (fun D σ H => tb (wKeep X.K c i j D) D σ H) := by
  refine ⟨fun pins s σ H D I h => ?_⟩
  have ok := I.ok
  have hframes : X.A.frames = some (X.env :: X.outer) := by rw [ok.frames, hs]
  have hloc : Loc X.env.scope n := .inl hln
  refine wpAny_Try_except ?_
  refine wpAny_mono ((hb (wKeep X.K c i j D) (X.pn ++ pins) (fun e s₁ => wpAny (model X.prog X.w) X.A (noteFrame e X.env) (fun _ s₂ => wpAny (model X.prog X.w) X.A (setFlight e none) (fun _ s₃ =>
    wpAny (model X.prog X.w) X.A (handleBy e X.env [.ExceptHandler (some (.Name x np)) (some n) [.Assign [.Name y yp] (.Name n zp) ap] hp]) (SP X pins D) X.xe s₃) X.xe s₂) X.xe s₁) (fun u s' air => ?_) PassesOwn.looking).run [] s σ H D (I.toTry _) h) (fun f s1 hsp => ?_) (fun e s1 he => he)
  · obtain ⟨a, B, sI, pins', σ', H', cls, d, rfl, J', nb, up, sky, na, os, ag, dn, hb1, hyes⟩ := air
    subst dn
    have J : L2.Inv X pins σ' H' sI := J'.ofTry ok
    have skyX : Sky B (X.env :: X.outer) a (Zc cls none) X.env.locals s'.heap := by rw [← hs]; exact sky
    show wpAny (model X.prog X.w) X.A (noteFrame (.ref a) X.env) _ _ _
    refine Sky.land Zc.steady hframes hf skyX fun h3 fl3 up3 => ?_
    have J3 : L2.Inv X pins σ' H' { s' with heap := h3 } := J.landed nb fl3.1 (up.trans up3) os ag
    obtain ⟨oe3, vs3, he3, hz3, hd3⟩ := fl3.there
    have nfr : a ∉ frs (X.env :: X.outer) := fun hm => by
      obtain ⟨_, o', e', hnf⟩ := fl3.2.2.1.mem hm
      rw [he3] at e'; cases e'
      exact hnf _ hd3
    have S3 := inv_suite J3 a
    refine wpAny_handleBy_cons (codeAny_handlers_test ?_) (by intro q; cases q)
    have looksT : PySem.W.Looks (model X.prog X.w) h3 (typeOf (.ref a)) cls := fun A Q E s k q => wpAny_typeOf_ref (k _ _ he3) (by rw [hz3.1]; exact q)
    have looksM := PySem.W.exm_one (M := model X.prog X.w) (J3.kIn) looksT hb1
    have named : ∀ {Q : Value → Shared → Prop} {E : Value → Shared → Prop}, Q c { s' with heap := h3 } → wpAny (model X.prog X.w) (X.A.mark (some (.ref a))) (eval (.Name x np) X.env) Q E { s' with heap := h3 } := fun {Q E} q => by
      obtain ⟨hg, hdbg, hm | ⟨hm, hv, hnn⟩⟩ := hc
      · exact ld_glob (X := X.suite a (X.pn ++ pins)) S3 hg hm q hdbg
      · exact ld_blt (X := X.suite a (X.pn ++ pins)) S3 hg hm hv q hnn hdbg
    refine named (looksM.here ?_)
    refine codeAny_handlers_suite_as ?_
    refine HandSPX.lands_againZ fl3 fun h4 fl4 up4 => ?_
    obtain ⟨oe4, vs4, he4, hz4, hd4⟩ := fl4.there
    have J4 : L2.Inv X pins σ' (upd H' a (ExcHv cls a)) { s' with heap := h4 } := inv_caught J nb fl4.1 ((up.trans up3).trans up4) os ag fl4.2.1 (by rw [hs]; exact nfr) na he4 hz4 hd4
    have S4 := inv_suite J4 a
    refine store_ok (X := X.suite a (X.pn ++ pins)) (v := .ref a) S4 hN hi hloc rfl (fun s5 S5 => ?_) (.inr hln)
    have hlen : i < σ'.length := by
      have e1 := S4.len
      have e2 := (List.getElem?_eq_some_iff.mp hi).1
      have e3 : σ'.length = X.N.length := e1
      omega
    have suiteP : PSs (X.suite a (X.pn ++ pins)) [.Assign [.Name y yp] (.Name n zp) ap] (tAsg (tVar i) (gName j)) :=
      pss_one (ps_asg (pe_var (i := i) hi (.inl hln) hd1 hd2) (pg_name hN hj (.inl hly) (.inr hly)) rfl rfl rfl)
    refine wpAny_mono (suiteP.run [] s5 _ _ { nx := fun σ6 H6 => D.nx (σ6.set i none) H6, rt := D.rt, bk := fun σ6 H6 => D.bk (σ6.set i none) H6, ct := fun σ6 H6 => D.ct (σ6.set i none) H6 } S5 ?_) (fun f s6 hsp => ?_) (fun _ _ z => False.elim z)
    · refine ⟨.ref a, List.getElem?_set_self hlen, ?_⟩
      have e := hyes a na
      show D.nx (((σ'.set i (some (V.ref a))).set j (some (V.ref a))).set i none) (upd H' a (ExcHv cls a))
      have e2 : ((σ'.set i (some (V.ref a))).set j (some (V.ref a))).set i none = (σ'.set j (some (V.ref a))).set i none := by
        by_cases hij : j = i
        · subst hij; simp [List.set_set]
        · rw [List.set_comm _ _ (Ne.symm hij), List.set_set]
      rw [e2]
      exact e
    have goneE : ∀ {σ6 : L2.St} {H6 : Hp} {Q : Shared → Prop}, L2.Inv (X.suite a (X.pn ++ pins)) [] σ6 H6 s6 → (∀ s7, L2.Inv X pins (σ6.set i none) H6 s7 → Q s7) →
        wpAny (model X.prog X.w) X.A (do bindName X.env n .none; unbindBehindTheSuite X.env n hp) (fun _ s7 => Q s7) X.xe s6 := fun {σ6 H6 Q} S6 hq => gone_ok (inv_unsuite S6 ok) hN hi hln hq
    cases f with
    | next =>
      obtain ⟨σ6, H6, S6, q6⟩ := hsp
      exact goneE S6 fun s7 J7 => ⟨_, _, J7, q6⟩
    | brk =>
      obtain ⟨σ6, H6, S6, q6⟩ := hsp
      exact goneE S6 fun s7 J7 => ⟨_, _, J7, q6⟩
    | cont =>
      obtain ⟨σ6, H6, S6, q6⟩ := hsp
      exact goneE S6 fun s7 J7 => ⟨_, _, J7, q6⟩
    | ret u =>
      obtain ⟨v6, σ6, H6, S6, r6, q6⟩ := hsp
      exact goneE S6 fun s7 J7 => ⟨_, _, _, J7, r6, q6⟩
  · cases f with
    | next =>
      obtain ⟨σ', H', J', q⟩ := hsp
      exact wpAny_execs_nil ⟨σ', H', J'.ofTry ok, q⟩
    | brk =>
      obtain ⟨σ', H', J', q⟩ := hsp
      exact ⟨σ', H', J'.ofTry ok, q⟩
    | cont =>
      obtain ⟨σ', H', J', q⟩ := hsp
      exact ⟨σ', H', J'.ofTry ok, q⟩
    | ret u =>
      obtain ⟨v, σ', H', J', r, q⟩ := hsp
      exact ⟨v, σ', H', J'.ofTry ok, r, q⟩
end
/-! ### by terms -/
section
variable {X : Cx} {xk : XD} {W : WX} {G : Gc} {C : Ct} {Γ : String → SpD} {k : Nat} {a : Expr} {wa : St → Mp → DK → Prop} {pos : Pos}
theorem isx_facts (g : GX X G C Γ k W) (hne : G.clss.isEmpty = false) {c : Str} (hc : c ∈ G.excs) : ExcC X.K (He.ga X.K c) ∧ ∀ t ∈ ("ValueError" : Str) :: G.clss, PySem.W.kitOne X.K (.ref (He.ga X.K c)) (clsV X.K t) = some (excIs c t) ∧ (t ≠ ("ValueError" : Str) → PySem.W.exmOne X.K (.ref (He.ga X.K c)) (clsV X.K t) = some (excIs c t)) := by
  have h := g.xis
  unfold isxB at h
  rw [hne, Bool.false_or] at h
  have h1 := List.all_eq_true.mp h c hc
  simp only [Bool.and_eq_true] at h1
  obtain ⟨h2, h3⟩ := h1
  refine ⟨?_, fun t ht => ?_⟩
  · unfold excCB at h2
    simp only [Bool.and_eq_true, decide_eq_true_eq] at h2
    obtain ⟨q1, q2, q3, q4, q5, q6, q7, q8⟩ := h2
    exact ⟨q1, q2, q3, q4, q5, q6, q7, q8⟩
  · have h4 := List.all_eq_true.mp h3 t ht
    simp only [Bool.and_eq_true, Bool.or_eq_true, decide_eq_true_eq] at h4
    exact ⟨h4.1, fun n => h4.2.resolve_left n⟩
def clsVv (K : PySem.W.Frag) (t : Str) : V := if t = ("ValueError" : Str) then .ty "ValueError" else .ref (He.ga K t)
theorem cls_clsV {K : PySem.W.Frag} {t : Str} : ClsV (clsVv K t) (clsV K t) := by
  unfold clsVv clsV
  split
  · exact .ty _
  · exact .own _
theorem boot_ve : bootBuiltins ("ValueError" : Str) = some (.type "ValueError") := by decide +kernel
theorem cls_one (g : GX X G C Γ k W) (hv : ("ValueError" : Str) ∉ G.clss) {t : Str} {e : Expr} (h : clsN C G t e = true) : (∃ p, e = .Name t p) ∧ PE X e (tC (clsVv X.K t)) ∧ t ∈ ("ValueError" : Str) :: G.clss := by
  unfold clsN at h
  split at h
  · rename_i x p
    simp only [Bool.and_eq_true, Bool.or_eq_true, decide_eq_true_eq] at h
    obtain ⟨rfl, h2, h3⟩ := h
    rw [← g.sc] at h2
    obtain ⟨q1, q2, q3⟩ := glB_gl h2
    rcases h3 with h3 | ⟨rfl, h3⟩
    · have ne : x ≠ ("ValueError" : Str) := fun z => hv (by rw [← z]; exact h3)
      refine ⟨⟨p, rfl⟩, ?_, List.mem_cons_of_mem _ h3⟩
      unfold clsVv
      rw [if_neg ne]
      exact pe_glob q1 (g.gcl x (List.mem_append_right _ h3)) rfl q2
    · refine ⟨⟨p, rfl⟩, ?_, List.mem_cons_self⟩
      unfold clsVv
      rw [if_pos rfl]
      exact pe_bltn q1 (g.free _ h3) boot_ve rfl q3 q2
  · cases h
theorem cls_all (g : GX X G C Γ k W) (hv : ("ValueError" : Str) ∉ G.clss) : ∀ {ts : List Str} {es : List Expr}, es.length = ts.length → (∀ p ∈ ts.zip es, clsN C G p.1 p.2 = true) → PA X es (fun _ H Q => Q (ts.map (clsVv X.K)) H) ∧ ∀ t ∈ ts, t ∈ ("ValueError" : Str) :: G.clss
  | [], [], _, _ => ⟨pa_imp pa_nil fun _ _ _ h => h, by simp⟩
  | t :: ts, e :: es, hl, h => by
    have h1 : clsN C G t e = true := h (t, e) (by simp)
    obtain ⟨h2, h3⟩ := cls_all g hv (ts := ts) (es := es) (by simpa using hl) fun p hp => h p (by simp [hp])
    obtain ⟨⟨p, e1⟩, h4, h5⟩ := cls_one g hv h1
    refine ⟨pa_imp (pa_cons h4 h2 (star_cons (by rw [e1]; rfl))) fun _ _ _ h => h, fun u hu => ?_⟩
    rcases List.mem_cons.mp hu with rfl | hu
    · exact h5
    · exact h3 u hu
  | [], _ :: _, hl, _ => by simp at hl
  | _ :: _, [], hl, _ => by simp at hl
theorem clsX_map (K : PySem.W.Frag) : ∀ ts : List Str, Paired ClsV (ts.map (clsVv K)) (ts.map (clsV K))
  | [] => .nil
  | t :: ts => .cons cls_clsV (clsX_map K ts)
theorem kit_anyX {K : PySem.W.Frag} {v : Value} {c : Str} : ∀ {ts : List Str}, (∀ t ∈ ts, PySem.W.kitOne K v (clsV K t) = some (excIs c t)) → PySem.W.kitAny K v (ts.map (clsV K)) = some (ts.any fun t => excIs c t)
  | [], _ => rfl
  | t :: ts, h => by
    have h1 := h t (by simp)
    have h2 := kit_anyX (ts := ts) fun t ht => h t (by simp [ht])
    rw [List.map_cons, PySem.W.kitAny, h1, List.any_cons]
    cases excIs c t
    · exact h2
    · rfl
/-- isinstance of an exception that is kept -/
def rIsX (K : PySem.W.Frag) : List V → Hp → VK → Prop := fun xs H Q => ∃ (a D : Addr) (c : V) (u : Value) (b : Bool), xs = [.ref a, c] ∧ H a = some (ExcHv (.ref D) a) ∧ ExcC K D ∧ ClsV c u ∧ PySem.W.kitOne K (.ref D) u = some b ∧ Q (.bl b) H
def rIsXT (K : PySem.W.Frag) : List V → Hp → VK → Prop := fun xs H Q => ∃ (a D tp : Addr) (cs : List V) (us : List Value) (b : Bool), xs = [.ref a, .ref tp] ∧ H tp = some (.tup cs) ∧ Paired ClsV cs us ∧ H a = some (ExcHv (.ref D) a) ∧ ExcC K D ∧ PySem.W.kitAny K (.ref D) us = some b ∧ Q (.bl b) H
theorem exc_at {pins : List (Addr × Obj)} {σ : L2.St} {H : Hp} {s : Shared} {a D : Addr} (I : L2.Inv X pins σ H s) (e : H a = some (ExcHv (.ref D) a)) : ∃ oe, PySem.W.InstAt s.heap a oe D none := by
  obtain ⟨⟨oe, vs, q1, q2, q3⟩, _⟩ := (show ObjOk X.prog X.w H s.heap a (ExcHv (.ref D) a) from I.hok a _ e)
  obtain ⟨oc, od, oda, osl⟩ := oe
  obtain ⟨h1, h2⟩ := q2
  dsimp only at h1 h2 q3
  subst h1 h2 q3
  exact ⟨_, q1, rfl, rfl, trivial⟩
theorem call_isX : CallR X (.builtin "isinstance") (rIsX X.K) := by
  intro pins s σ H xs us Q I r h
  obtain ⟨a, D, c, u, b, rfl, hD, C, k, e, q⟩ := h
  obtain ⟨u1, u2, rfl, r1, r2⟩ := vals2 r
  have e2 := k.eq r2
  subst e2
  cases (show u1 = Value.ref a from r1)
  obtain ⟨oe, J⟩ := exc_at I hD
  exact PySem.W.kia_one (PySem.W.handS_kitx_exc C.hg C.hk C.hs C.hd C.ha C.hn C.ht C.hm) I.kIn J e (fun z => nomatch z) fun tk => ⟨.bl b, H, I.kept (t' := tk) fun _ _ z => z, rfl, q⟩
theorem call_isXT : CallR X (.builtin "isinstance") (rIsXT X.K) := by
  intro pins s σ H xs us Q I r h
  obtain ⟨a, D, tp, cs, ws, b, rfl, hT, k, hD, C, e, q⟩ := h
  obtain ⟨u1, u2, rfl, r1, r2⟩ := vals2 r
  cases (show u2 = Value.ref tp from r2)
  cases (show u1 = Value.ref a from r1)
  obtain ⟨oe, J⟩ := exc_at I hD
  obtain ⟨_, its, rv, o, h1, h2, n, h3⟩ := (show ObjOk X.prog X.w H s.heap tp (.tup cs) from I.hok tp _ hT)
  have e3 := ClsV.all k rv
  subst e3
  obtain ⟨oc, od, dt, sl⟩ := o
  simp only at h2 h3
  subst h2 h3
  exact PySem.W.kia_tup (PySem.W.handS_kitx_exc C.hg C.hk C.hs C.hd C.ha C.hn C.ht C.hm) I.kIn J h1 e (fun z => nomatch z) fun tk => ⟨.bl b, H, I.kept (t' := tk) fun _ _ z => z, rfl, q⟩
theorem r_isx (g : GX X G C Γ k W) (hv : ("ValueError" : Str) ∉ G.clss) (hne : G.clss.isEmpty = false) {xs cs : List Str} {f t : Expr} (hx : (xs.all fun q => decide (q ∈ G.excs)) = true) (hf : nameB C G "isinstance" f = true) (ht : clssB C G cs t = true) (hn : noStar a = true) (ha : PE X a (LE X xk W wa)) :
    PE X (.Call f [a, t] [] pos) (LE X xk W fun δ M Q => wa δ M fun x M1 => match x with
      | .exc c => c ∈ xs ∧ Q (.bl (cs.any fun t => excIs c t)) M1
      | _ => False) := by
  obtain ⟨p, rfl, q1, q2, q3, q4⟩ := nameB_of g hf
  unfold clssB at ht
  split at ht
  · rename_i x p' t'
    obtain ⟨_, pt, hm⟩ := cls_one g hv ht
    refine pe_imp (pe_callB call_isX q1 q2 boot_isi (pa_cons ha (pa_cons pt pa_nil (star_cons rfl)) (star_cons hn)) q4 q3 (star_cons hn) (star_any rfl)) fun σ H Q h => ?_
    obtain ⟨δ, M, U, R, r, xo, h, out⟩ := h
    refine ⟨δ, M, U, _, r, xo, h, fun d M1 v U1 H1 e k rm rv hR => ?_⟩
    split at hR
    · rename_i c
      simp only [RV] at rv
      obtain ⟨ad, rfl, hH, hM⟩ := rv
      have hc : c ∈ G.excs := by
        have := List.all_eq_true.mp hx c hR.1
        simpa using this
      obtain ⟨ec, kf⟩ := isx_facts g hne hc
      exact ⟨ad, _, _, _, _, rfl, k.vw _ _ hH, ec, cls_clsV, (kf _ hm).1, (out.mono e k).bl k.vw rm (by simpa using hR.2)⟩
    · exact hR.elim
  · rename_i es j p'
    simp only [Bool.and_eq_true, decide_eq_true_eq, List.all_eq_true] at ht
    obtain ⟨pt, hm⟩ := cls_all g hv ht.1 ht.2.2
    refine pe_imp (pe_callB call_isXT q1 q2 boot_isi (pa_cons ha (pa_cons (pe_tup pt) pa_nil (star_cons rfl)) (star_cons hn)) q4 q3 (star_cons hn) (star_any rfl)) fun σ H Q h => ?_
    obtain ⟨δ, M, U, R, r, xo, h, out⟩ := h
    refine ⟨δ, M, U, _, r, xo, h, fun d M1 v U1 H1 e k rm rv hR => ?_⟩
    split at hR
    · rename_i c
      simp only [RV] at rv
      obtain ⟨ad, rfl, hH, hM⟩ := rv
      have hc : c ∈ G.excs := by
        have := List.all_eq_true.mp hx c hR.1
        simpa using this
      obtain ⟨ec, kf⟩ := isx_facts g hne hc
      have few : (cs.map (clsVv X.K)).length ≤ sizeLine := by
        rw [List.length_map, lineLIM]
        exact Nat.le_trans ht.2.1 (by decide)
      refine ⟨few, fun p hp => ⟨ad, _, p, _, _, _, rfl, upd_same, clsX_map X.K cs, by rw [upd_ne (ne_of_none (k.vw _ _ hH) hp)]; exact k.vw _ _ hH, ec, kit_anyX fun t ht' => (kf t (hm t ht')).1, ?_⟩⟩
      exact out (.bl _) M1 _ _ _ (e.trans (Ext.new (k.vw.none hp))) (k.trans (Kp.new k.vw hp)) (rm.new (k.vw.none hp)) (by simp only [RV]) hR.2
    · exact hR.elim
  · cases ht
theorem rs_drop {K : PySem.W.Frag} {M : Mp} {H : Hp} {δ : St} {σ : L2.St} (h : RS K M H δ σ) (i : Nat) : RS K M H (δ.set i none) (σ.set i none) := by
  refine ⟨by simp [h.1], fun j d e => ?_⟩
  rw [List.getElem?_set] at e ⊢
  split at e
  · split at e <;> cases e
  · rename_i hi
    rw [if_neg hi]
    exact h.2 j d e
/-- the context of a try's body -/
theorem gs_tr (g : GS X G C Γ k W) {W' : WX} {pn : List (Addr × Obj)} {xe : Value → Shared → Prop} (tk : Takes (X.tr pn xe) W') (own : PassesOwn (model X.prog X.w) X.A X.env xe) : GS (X.tr pn xe) G C Γ k W' :=
  { room := g.room, calm := g.calm, sys := g.sys, isi := g.isi, N := g.N, nd := g.nd, sc := g.sc, fnB := g.fnB, free := g.free, const := g.const, fns := g.fns,
    exc := fun c hc => by
      obtain ⟨A, bmB, B, ni, ii, F, q, gC, kC, rs⟩ := g.exc c hc
      exact ⟨A, bmB, B, ni, ii, F, q, gC, kC, rs⟩,
    xis := g.xis, gcl := g.gcl, nve := g.nve, ins := g.ins, tk := tk, kd := g.kd, own := own, stk := g.stk, frm := g.frm }
theorem s_try (g : GS X G C Γ k W) (hv : ("ValueError" : Str) ∉ G.clss) {xs : List Str} {c n y : Str} {i j : Nat} {np yp zp ap hp : Pos} {b : List Stmt} {wb : XD → En → St → Mp → Prop}
    (hg : glB C.sc c = true) (hc : c ∈ G.clss) (hi : C.N[i]? = some n) (hn : isLoc C.sc n = true) (hd1 : (n == ("__debug__" : Str)) = false) (hd2 : (n == ("__classdict__" : Str)) = false) (hj : C.N[j]? = some y) (hy : isLoc C.sc y = true)
    (hx : (xs.all fun q => decide (q ∈ G.excs) && excIs q c) = true)
    (hb : ∀ (xk' : XD) (X' : Cx) (W' : WX), GS X' G C Γ k W' → PSs X' b (LS X' xk' W' (wb xk'))) :
    PS X (.Try b [.ExceptHandler (some (.Name c np)) (some n) [.Assign [.Name y yp] (.Name n zp) ap] hp] [] [] pos)
      (LS X xk W fun E δ M => wb (fun q δ' M' => q ∈ xs ∧ E.nx ((δ'.set j (some (.exc q))).set i none) M') E δ M) := by
  have loc : ∀ {z : Str}, isLoc C.sc z = true → X.env.kindOf z = some .local := by
    intro z h
    show X.env.scope.names.lookup z = _
    rw [g.sc]
    unfold isLoc at h
    split at h
    · assumption
    · cases h
  have nev : c ≠ ("ValueError" : Str) := fun z => hv (by rw [← z]; exact hc)
  have hne : G.clss.isEmpty = false := by
    cases e : G.clss with
    | nil => rw [e] at hc; cases hc
    | cons _ _ => rfl
  rw [← g.sc] at hg
  obtain ⟨q1, q2, q3⟩ := glB_gl hg
  have nm : Names X c (clsV X.K c) := by
    refine ⟨q1, q2, .inl ?_⟩
    unfold clsV
    rw [if_neg nev]
    exact g.gcl c (List.mem_append_right _ hc)
  refine ps_imp (ps_tryKeep (tb := fun W' D σ H => ∃ xk', LS X xk' W' (wb xk') D σ H) g.stk g.frm g.nd (by rw [g.N]; exact hi) (loc hn) hd1 hd2 (by rw [g.N]; exact hj) (loc hy) nm fun W' pn xe tk own => ⟨fun pins s σ H D I q => ?_⟩) fun D σ H h => ?_
  · obtain ⟨xk', q⟩ := q
    exact (hb xk' (X.tr pn xe) W' (gs_tr g tk own)).run pins s σ H D I q
  · obtain ⟨δ, M, U, E, r, xo, h, out⟩ := h
    refine ⟨_, δ, M, U, E, r, ?_, h, out⟩
    rintro q δ' M' U' H' σ' g' rs' ⟨hq, hE⟩ A hA
    have hqx := List.all_eq_true.mp hx q hq
    simp only [Bool.and_eq_true, decide_eq_true_eq] at hqx
    have eA := g.gcl q (List.mem_append_left _ hqx.1)
    rw [hA] at eA
    cases eA
    refine ⟨rfl, ?_, fun a ha => ?_⟩
    · have := ((isx_facts g.toGX hne hqx.1).2 c (List.mem_cons_of_mem _ hc)).2 nev
      rw [this, hqx.2]
    · have hU := g'.kp.vw.none ha
      have gn : Go X.K M' U' H' M' (upd U' a (ExcH X.K q a)) (upd H' a (ExcH X.K q a)) := ⟨Ext.new hU, Kp.new g'.kp.vw ha, g'.rm.new hU⟩
      have rs2 := rs'.mono gn.ex g'.rm
      exact out.nx _ M' _ _ _ (g'.trans gn) (rs_drop (rs2.set j (d := .exc q) (v := .ref a) (by simp only [RV]; exact ⟨a, rfl, upd_same, g'.rm.none_of hU⟩)) i) hE
end
end Pw
set_option Elab.async false
set_option linter.all false
set_option maxRecDepth 100000
set_option maxHeartbeats 2000000
namespace Pw
open PySem PySem.Spec PyProof.Rows L2
/-! ### displays with spread items -/
def OutX (K : PySem.W.Frag) (M : Mp) (U H : Hp) (R : List D → Mp → Prop) (Q : List V → Hp → Prop) : Prop := ∀ ds M' vs U' H', Go K M U H M' U' H' → RVs K M' U' ds vs → R ds M' → Q vs H'
def LXs (X : Cx) (xk : XD) (W : WX) (wp : St → Mp → (List D → Mp → Prop) → Prop) : TA := fun σ H Q => ∃ δ M U R, Rel X.K M U H δ σ ∧ XOk X xk W M U H ∧ wp δ M R ∧ OutX X.K M U H R Q
section
variable {X : Cx} {xk : XD} {W : WX} {a : Expr} {wa : St → Mp → DK → Prop} {pos : Pos} {es : List Expr} {wl : St → Mp → (List D → Mp → Prop) → Prop} {j : Nat}
theorem x_nil : PA X [] (LXs X xk W fun _ M Q => Q [] M) := pa_imp pa_nil fun σ H Q h => by
  obtain ⟨δ, M, U, R, r, xo, h, out⟩ := h
  exact out [] M [] U H r.here (by simp only [RVs]) h
theorem x_cons (hn : noStar a = true) (ha : PE X a (LE X xk W wa)) (hl : PA X es (LXs X xk W wl)) : PA X (a :: es) (LXs X xk W fun δ M Q => wa δ M fun x M1 => wl δ M1 fun xs M2 => Q (x :: xs) M2) :=
  pa_imp (pa_cons ha hl (star_cons hn)) fun σ H Q h => by
    obtain ⟨δ, M, U, R, r, xo, h, out⟩ := h
    refine ⟨δ, M, U, _, r, xo, h, fun d M1 v U1 H1 e k rm rv hR => ⟨δ, M1, U1, _, r.mono ⟨e, k, rm⟩, xo.mono ⟨e, k, rm⟩, hR, fun ds M2 vs U2 H2 g2 rvs hR2 => ?_⟩⟩
    refine out (d :: ds) M2 (v :: vs) U2 H2 ((Go.mk e k rm).trans g2) ?_ hR2
    simp only [RVs]
    exact ⟨v, vs, rfl, RV.mono g2.ex rm d v rv, rvs⟩
theorem x_star {p : Pos} (ha : PE X a (LE X xk W wa)) (hl : PA X es (LXs X xk W wl)) : PA X (.Starred a p :: es) (LXs X xk W fun δ M Q => wa δ M fun x M1 => match seqOf M1 x with
    | some ds => wl δ M1 fun xs M2 => Q (ds ++ xs) M2
    | none => False) :=
  pa_imp (StX.pa_star ha hl) fun σ H Q h => by
    obtain ⟨δ, M, U, R, r, xo, h, out⟩ := h
    refine ⟨δ, M, U, _, r, xo, h, fun d M1 v U1 H1 e k rm rv hR => ?_⟩
    split at hR
    · rename_i ds eds
      obtain ⟨a, vs, rfl, hq, rvs⟩ := seqOf_at k.vw rm eds rv
      refine ⟨a, vs, rfl, hq.symm, δ, M1, U1, _, r.mono ⟨e, k, rm⟩, xo.mono ⟨e, k, rm⟩, hR, fun ds2 M2 vs2 U2 H2 g2 rvs2 hR2 => ?_⟩
      exact out (ds ++ ds2) M2 (vs ++ vs2) U2 H2 ((Go.mk e k rm).trans g2) ((RVs.mono g2.ex rm _ _ rvs).app rvs2) hR2
    · exact hR.elim
theorem r_tups (hl : PA X es (LXs X xk W wl)) : PE X (.Tuple es j pos) (LE X xk W fun δ M Q => wl δ M fun ds M1 => ds.length ≤ LIM ∧ Q (.tup ds) M1) :=
  pe_imp (pe_tupF hl) fun σ H Q h => by
    obtain ⟨δ, M, U, R, r, xo, h, out⟩ := h
    refine ⟨δ, M, U, _, r, xo, h, fun ds M1 vs U1 H1 g rv hR => ⟨?_, (out.mono g.ex g.kp).tup g.kp.vw g.rm rv hR.2⟩⟩
    rw [rv.length, lineLIM]
    exact hR.1
end
end Pw
set_option Elab.async false
set_option linter.all false
set_option maxRecDepth 100000
set_option maxHeartbeats 2000000
namespace Pw
open PySem PySem.Spec PyProof.Rows L2
/-! len(dict(pairs)), the keys different tuples of whole numbers -/
def pairT (k : List Int) : D := .tup [.tup (k.map D.int), .bl true]
theorem intsOf_D : ∀ {k : List Int}, intsOf (k.map D.int) = some k
  | [] => rfl
  | i :: k => by rw [List.map_cons, intsOf, intsOf_D]; rfl
theorem itemsAre_ints {prog : Program} {w : World} : ∀ {k : List Int} {us : List Value}, Vals (k.map V.int) us → ItemsAre (intKind prog w) k us
  | [], _, .nil => .nil
  | i :: k, _, .cons r t => by
    obtain ⟨tk, rfl⟩ := r
    exact .cons (intKind_is prog w i tk) (itemsAre_ints t)
section
variable {X : Cx} {pins : List (Addr × Obj)} {σ : L2.St} {s : Shared} {M : Mp} {U H : Hp}
theorem pairs_at (I : L2.Inv X pins σ H s) (vw : Vw U H) : ∀ {ks : List (List Int)} {vs : List V} {us : List Value}, RVs X.K M U (ks.map pairT) vs → Vals vs us →
    ∃ L : List (Addr × Addr), L.length = ks.length ∧ us = L.map (fun x => Value.ref x.1) ∧ ∀ (j : Nat) (x : Addr × Addr) (k : List Int), L[j]? = some x → ks[j]? = some k → s.heap.IsTuple x.1 #[Value.ref x.2, Value.bool true] ∧ IsTupleKey (intKind X.prog X.w) s.heap k x.2
  | [], vs, us, rv, r => by
    simp only [List.map_nil, RVs] at rv
    subst rv
    cases r
    exact ⟨[], rfl, rfl, fun j x k h => by simp at h⟩
  | k :: ks, vs, us, rv, r => by
    simp only [List.map_cons, RVs] at rv
    obtain ⟨v, q, rfl, h1, h2⟩ := rv
    cases r with
    | cons r1 r2 =>
      obtain ⟨L, e1, e2, e3⟩ := pairs_at I vw h2 r2
      simp only [pairT, RV, RVs] at h1
      obtain ⟨a, ws, rfl, hq, v1, q1, rfl, ⟨b, xs, rfl, hb, hx⟩, v2, q2, rfl, rfl, rfl⟩ := h1
      have r1' := r1
      obtain rfl : _ = Value.ref a := r1
      obtain ⟨its, g1, g2, _⟩ := I.tuple (vw.sqT hq)
      obtain ⟨its2, g3, g4, _⟩ := I.tuple (vw.sqT hb)
      obtain ⟨ex, _⟩ := RVs.ints_of (intsOf_D (k := k)) hx
      subst ex
      have gi : its = [Value.ref b, Value.bool true] := by
        cases g1 with
        | cons z1 z2 =>
          cases z2 with
          | cons z3 z4 =>
            cases z4
            have w1 : _ = Value.ref b := z1
            have w2 : _ = Value.bool true := z3
            rw [w1, w2]
      subst gi
      refine ⟨(a, b) :: L, by simp [e1], by simp [e2], fun j x k' hx' hk' => ?_⟩
      cases j with
      | zero =>
        simp at hx' hk'
        subst hx' hk'
        refine ⟨g2, ?_⟩
        obtain ⟨o, o1, o2, n, o3⟩ := g4
        exact ⟨o, its2.toArray, n, o1, o2, o3, by simpa using itemsAre_ints g3⟩
      | succ j => exact e3 j x k' (by simpa using hx') (by simpa using hk')
end
theorem pairsOf_eq : ∀ {ds : List D} {ks : List (List Int)}, pairsOf ds = some ks → ds = ks.map pairT
  | [], ks, h => by
    simp only [pairsOf, Option.some.injEq] at h
    subst h; rfl
  | d :: ds, ks, h => by
    unfold pairsOf at h
    split at h
    · rename_i e; cases e
    · rename_i xs ds' e
      cases e
      split at h
      · rename_i r rs e1 e2
        cases h
        rw [pairsOf_eq e2, intsOf_inv e1]; rfl
      · cases h
    · cases h
theorem merged_nodup {K : Type} [DecidableEq K] : ∀ {more acc : List (K × Value)}, (more.map Prod.fst).Nodup → (∀ x ∈ more, ∀ y ∈ acc, y.1 ≠ x.1) → merged acc more = acc ++ more
  | [], acc, _, _ => by simp [merged]
  | (k, v) :: more, acc, hn, hd => by
    rw [List.map_cons, List.nodup_cons] at hn
    have hs : stored acc k v = acc ++ [(k, v)] := by
      unfold stored
      rw [if_neg]
      intro h2
      obtain ⟨x, hx, e⟩ := List.any_eq_true.mp h2
      exact hd (k, v) (List.mem_cons_self ..) x hx (by simpa using e)
    have ih := merged_nodup (more := more) (acc := acc ++ [(k, v)]) hn.2 fun x hx y hy => by
      rcases List.mem_append.mp hy with hy | hy
      · exact hd x (List.mem_cons_of_mem _ hx) y hy
      · rw [List.mem_singleton.mp hy]
        intro e
        exact hn.1 (by rw [show k = x.1 from e]; exact List.mem_map.mpr ⟨x, hx, rfl⟩)
    show merged (stored acc k v) more = _
    rw [hs, ih]; simp
theorem boot_len : bootBuiltins "len" = some (.builtin "len") := rfl
theorem boot_dict : bootBuiltins "dict" = some (.type "dict") := rfl
theorem size_sys {X : Cx} {pins : List (Addr × Obj)} {σ : L2.St} {s : Shared} {H : Hp} (sd : SysD X.K) (I : L2.Inv X pins σ H s) : (s.heap.objs.size == sysModules) = false := by
  obtain ⟨u, hu, hc⟩ := sd.1
  have := Heap.lt_size (I.kIn _ _ hu)
  exact beq_eq_false_iff_ne.mpr (Nat.ne_of_gt this)
section
variable {X : Cx} {pins : List (Addr × Obj)} {σ : L2.St} {s : Shared} {M : Mp} {U H : Hp} {Q : VK} {a : Addr} {vs : List V} {u : Value}
theorem call_dict_tups (hc : X.calm = true) (hu : X.A.units + 64 < cLine) (I : L2.Inv X pins σ H s) (vw : Vw U H) (hq : SqL X.K H a vs) {ks : List (List Int)} (rv : RVs X.K M U (ks.map pairT) vs) (ru : RelV (.ref a) u) (hn : ks.Nodup) (hl : ks.length ≤ 1000)
    {Q : Value → Shared → Prop} (q : ∀ (h' : Heap) (tk : Nat) (kvs : List (List Int × Value)), kvs.length = ks.length → h'.DictKeyed (tupleKind (intKind X.prog X.w)) s.heap.objs.size kvs → (∀ (b : Addr) (o : Obj), s.heap.get? b = some o → h'.get? b = some o) →
      Q (.ref s.heap.objs.size) { heap := h', gens := s.gens, drawn := s.drawn, toks := tk, os := s.os }) : wpAny (model X.prog X.w) X.A (call (.type "dict") [u]) Q X.xe s := by
  obtain rfl : u = Value.ref a := ru
  obtain ⟨its, rvs, z, _⟩ := I.list hq
  obtain ⟨L, e1, e2, e3⟩ := pairs_at I vw rv rvs
  have hz1 : ∀ (j : Nat) (x : Addr × Addr), L[j]? = some x → ∃ k, ks[j]? = some k ∧ s.heap.IsTuple x.1 #[Value.ref x.2, Value.bool true] ∧ IsTupleKey (intKind X.prog X.w) s.heap k x.2 := fun j x hx => by
    have hj := (List.getElem?_eq_some_iff.mp hx).1
    have hk : ks[j]? = some ks[j] := List.getElem?_eq_getElem (by omega)
    exact ⟨_, hk, e3 j x _ hx hk⟩
  have hps : (L.map fun x => (Value.ref x.2, Value.bool true)).length = ks.length := by simp [e1]
  refine dict_keyed (knd := tupleKind (intKind X.prog X.w)) (kvs := ks.map fun k => (k, Value.bool true)) tupleKind_stays (PairArg.list a its.toArray (fun j => (L.getD j (0, 0)).1) (L.map fun x => (Value.ref x.2, Value.bool true))) (I.ok.hd hc) ?_ ⟨z, ?_⟩ ?_ (tupleKind_stays.all (h := s.heap)) ?_ ?_
  · show X.A.in1.in1.units < cLine
    show X.A.units + 1 + 1 < cLine
    omega
  · refine ⟨by rw [e2]; simp, fun j k v hj => ?_⟩
    rw [List.getElem?_map] at hj
    obtain ⟨x, hx, e⟩ := Option.map_eq_some_iff.mp hj
    cases e
    obtain ⟨k, hk, h3, h4⟩ := hz1 j x hx
    have hg : L.getD j (0, 0) = x := by rw [List.getD_eq_getElem?_getD, hx]; rfl
    refine ⟨?_, .inl ?_⟩
    · rw [e2]
      simp only [List.getElem?_toArray, List.getElem?_map, hx, Option.map_some, hg]
    · show s.heap.IsTuple (L.getD j (0, 0)).1 #[Value.ref x.2, Value.bool true]
      rw [hg]; exact h3
  · refine ⟨(ks.zip L).map fun p => (p.1, p.2.2, Value.bool true), ?_, ⟨by simp [e1], ?_⟩, ?_⟩
    · unfold pairsH
      rw [List.map_map]
      have : ((fun (x : List Int × Addr × Value) => (x.1, x.2.2)) ∘ fun (p : List Int × Addr × Addr) => (p.1, p.2.2, Value.bool true)) = fun p => (p.1, Value.bool true) := rfl
      rw [this]
      have h2 : (ks.zip L).map (fun p => (p.1, Value.bool true)) = ((ks.zip L).map Prod.fst).map fun k => (k, Value.bool true) := by rw [List.map_map]; rfl
      rw [h2, List.map_fst_zip (by omega)]
    · intro i key v hi
      have hi : (L.map fun x => (Value.ref x.2, Value.bool true))[i]? = some (key, v) := hi
      rw [List.getElem?_map] at hi
      obtain ⟨x, hx, e⟩ := Option.map_eq_some_iff.mp hi
      cases e
      obtain ⟨k, hk, h3, h4⟩ := hz1 i x hx
      refine ⟨k, x.2, ?_, rfl⟩
      rw [List.getElem?_map]
      have : (ks.zip L)[i]? = some (k, x) := by rw [List.getElem?_zip_eq_some]; exact ⟨hk, hx⟩
      rw [this]; rfl
    · intro x hx
      obtain ⟨p, hp, rfl⟩ := List.mem_map.mp hx
      obtain ⟨i, hi⟩ := List.mem_iff_getElem?.mp hp
      obtain ⟨h1, h2⟩ := List.getElem?_zip_eq_some.mp (show (ks.zip L)[i]? = some (p.1, p.2) from hi)
      exact (e3 i p.2 p.1 h2 h1).2
  · have : (1000 : Nat) ≤ sizeLine := by decide
    simp [e1]; omega
  · intro h' tk hm hk
    have hme := merged_nodup (K := List Int) (acc := []) (more := ks.map fun k => (k, Value.bool true)) (by rw [List.map_map]; simpa [Function.comp_def] using hn) (by simp)
    rw [hme] at hm
    exact q h' tk _ (by simp) hm (fun b o h => hk b o (by simp) h)
end
section
variable {X : Cx} {e : Expr} {te : TE} {p pos pos2 q : Pos}
def tLdct (K : PySem.W.Frag) (te : TE) : TE := fun σ H Q => te σ H fun v H1 => ∃ (a : Addr) (vs : List V) (ks : List (List Int)) (M : Mp) (U : Hp), v = .ref a ∧ SqL K H1 a vs ∧ Vw U H1 ∧ RVs K M U (ks.map pairT) vs ∧ ks.Nodup ∧ ks.length ≤ 1000 ∧ Q (.int (ks.length : Nat)) H1
theorem pe_ldct (hc : X.calm = true) (hu : X.A.units + 64 < cLine) (sd : SysD X.K) (hg : Gl X "len") (hm : X.mg "len" = none) (hg2 : Gl X "dict") (hm2 : X.mg "dict" = none) (he : PE X e te) (hs : starEach [e] X.env = (false, eval e X.env) :: starEach [] X.env) :
    PE X (.Call (.Name "len" p) [.Call (.Name "dict" q) [e] [] pos2] [] pos) (tLdct X.K te) := by
  refine ⟨fun pins s σ H Q I h => ?_⟩
  refine Call_ (ld_blt I hg hm boot_len (PyProof.Rows.callWith_builtin1 (args_cons (Call_ (ld_blt I hg2 hm2 boot_dict (PyProof.Rows.callWith_type1 (args_cons (thn (he.run pins s σ H _ I h) fun u s1 ⟨v, H1, I1, r1, q1⟩ => args_nil ?_) hs) hs rfl))) rfl) rfl rfl))
  obtain ⟨a, vs, ks, M, U, ev, hq, vw, rv, hn, hl, qq⟩ := q1
  subst ev
  refine call_dict_tups hc hu I1 vw hq rv r1 hn hl fun h' tk kvs hkl hm hk => args_nil ?_
  have hz : ((kvs.length : Nat) : Int) ≤ 1000 := by rw [hkl]; omega
  refine PyProof.Rows.call_len_slot (n := (kvs.length : Nat)) hm.typeIs F.slot_dict_len (fun Q' hq => len_keyed (size_sys sd I1) hm hq) (by omega) (by omega) ?_
  exact ⟨.int (ks.length : Nat), H1, I1.kept hk, ⟨_, by rw [hkl]⟩, qq⟩
end
section
variable {X : Cx} {xk : XD} {W : WX} {G : Gc} {C : Ct} {Γ : String → SpD} {k : Nat} {a : Expr} {wa : St → Mp → DK → Prop} {pos q : Pos}
theorem r_ldct (g : GX X G C Γ k W) {f h : Expr} (hf : nameB C G "len" f = true) (hh : nameB C G "dict" h = true) (hn : noStar a = true) (ha : PE X a (LE X xk W wa)) :
    PE X (.Call f [.Call h [a] [] q] [] pos) (LE X xk W fun δ M Q => wa δ M fun x M1 => ldctD x M1 Q) := by
  obtain ⟨p1, rfl, q1, q2, q3, q4⟩ := nameB_of g hf
  obtain ⟨p2, rfl, s1, s2, s3, s4⟩ := nameB_of g hh
  refine pe_imp (pe_ldct g.calm g.hu g.sys q1 q2 s1 s2 ha (star_cons hn)) fun σ H Q hx => ?_
  obtain ⟨δ, M, U, R, r, xo, hx, out⟩ := hx
  refine ⟨δ, M, U, _, r, xo, hx, fun d M1 v U1 H1 e k rm rv hR => ?_⟩
  unfold ldctD at hR
  split at hR
  · rename_i ds
    split at hR
    · rename_i ks hks
      obtain ⟨h1, h2, h3⟩ := hR
      obtain ⟨a, vs, rfl, hq, rr⟩ := lstOf_at k.vw rm (ds := ds) rfl rv
      rw [pairsOf_eq hks] at rr
      exact ⟨a, vs, ks, M1, U1, rfl, hq, k.vw, rr, h1, h2, (out.mono e k).int k.vw rm h3⟩
    · exact hR.elim
  · exact hR.elim
end
end Pw
set_option Elab.async false
set_option linter.all false
set_option maxRecDepth 100000
set_option maxHeartbeats 2000000
namespace Pw
open PySem PySem.Spec PyProof.Rows L2
/-! len(set(x)) of whole numbers -/
section
variable {X : Cx} {e : Expr} {te : TE} {p pos pos2 q : Pos}
def tLset (K : PySem.W.Frag) (te : TE) : TE := fun σ H Q => te σ H fun v H1 => (∃ (a : Addr) (ns : List Int), v = .ref a ∧ (SqT K H1 a (ns.map V.int) ∨ SqL K H1 a (ns.map V.int)) ∧ ns.length ≤ 1000 ∧ ∀ ms : List Int, ms.Nodup → (∀ k, k ∈ ms ↔ k ∈ ns) → Q (.int (ms.length : Nat)) H1) ∨
  ∃ (a : Addr) (xs : List Str), v = .ref a ∧ SqL K H1 a (xs.map V.str) ∧ xs.length ≤ 1000 ∧ ∀ ms : List Str, ms.Nodup → (∀ k, k ∈ ms ↔ k ∈ xs) → Q (.int (ms.length : Nat)) H1
theorem pe_lset (hc : X.calm = true) (hg : Gl X "len") (hm : X.mg "len" = none) (hg2 : Gl X "set") (hm2 : X.mg "set" = none) (he : PE X e te) (hs : starEach [e] X.env = (false, eval e X.env) :: starEach [] X.env) :
    PE X (.Call (.Name "len" p) [.Call (.Name "set" q) [e] [] pos2] [] pos) (tLset X.K te) := by
  refine ⟨fun pins s σ H Q I h => ?_⟩
  refine Call_ (ld_blt I hg hm boot_len (PyProof.Rows.callWith_builtin1 (args_cons (Call_ (ld_blt I hg2 hm2 boot_set (PyProof.Rows.callWith_type1 (args_cons (thn (he.run pins s σ H _ I h) fun u s1 ⟨v, H1, I1, r1, q1⟩ => args_nil ?_) hs) hs rfl))) rfl) rfl rfl))
  rcases q1 with ⟨a, ns, ev, hq, hl, q⟩ | ⟨a, xs, ev, hq, hl, q⟩
  rotate_left
  · subst ev
    obtain rfl : u = Value.ref a := r1
    obtain ⟨us, r, z, _⟩ := I1.list hq
    refine call_set_lstT xs (I1.ok.hd hc) z.isList (L2.strsAre_of r) (Nat.lt_of_le_of_lt (Nat.add_le_add_right hl 1) (by decide)) fun h' tk hS hk => ?_
    obtain ⟨o, es, ep, t, ho, hex, hd, _, hnd, hkey, hlen, _, hf, _⟩ := hS
    refine args_nil ?_
    have I2 : L2.Inv X pins σ H1 { heap := h', gens := s1.gens, drawn := s1.drawn, toks := tk, os := s1.os } := I1.kept hk
    have hb : (1000 : Int) < 2 ^ 63 := by decide
    exact call_len_set ho hex hd hf (by omega) ⟨.int ((es.toList.map keyT).length : Nat), H1, I2.tok _, ⟨tk + 1, by simp⟩, q _ hnd fun k => (hkey k).symm⟩
  subst ev
  obtain rfl : u = Value.ref a := r1
  have fin : ∀ (h' : Heap) (tk c : Nat), SetR X.w h' s1.heap.objs.size (fun j => decide (j ∈ ns)) c → c ≤ ns.length → (∀ (b : Addr) (o : Obj), s1.heap.get? b = some o → h'.get? b = some o) →
      wpAny (model X.prog X.w) X.A (spliced (backTo pos (starEach [] X.env))) (fun vs s₂ => wpAny (model X.prog X.w) X.A (call (.builtin "len") (Value.ref s1.heap.objs.size :: vs)) (EP X pins σ Q) X.xe s₂) X.xe { heap := h', gens := s1.gens, drawn := s1.drawn, toks := tk, os := s1.os } := by
    intro h' tk c hS hcl hk
    refine args_nil ?_
    obtain ⟨o, es, ep, t, ho, hex, hd, _, hnd, hkey, _, hf, hn, _⟩ := hS
    have I2 : L2.Inv X pins σ H1 { heap := h', gens := s1.gens, drawn := s1.drawn, toks := tk, os := s1.os } := I1.kept hk
    have hb : (1000 : Int) < 2 ^ 63 := by decide
    refine call_len_set ho hex hd hf (by rw [hn]; omega) ⟨.int ((es.toList.map L2.keyOf).length : Nat), H1, I2.tok _, ⟨tk + 1, by simp⟩, q _ hnd fun k => ?_⟩
    rw [← hkey k]; simp
  rcases hq with hq | hq
  · obtain ⟨us, r, z, _⟩ := I1.tuple hq
    exact call_set_tupI ns (I1.ok.hd hc) (show s1.heap.IsTuple a us.toArray from z) (intsAre_of r) (Nat.lt_of_le_of_lt (Nat.add_le_add_right hl 1) (by decide)) fin
  · obtain ⟨us, r, z, _⟩ := I1.list hq
    exact call_set_lstI ns (I1.ok.hd hc) z.isList (intsAre_of r) (Nat.lt_of_le_of_lt (Nat.add_le_add_right hl 1) (by decide)) fin
end
section
variable {X : Cx} {xk : XD} {W : WX} {G : Gc} {C : Ct} {Γ : String → SpD} {k : Nat} {a : Expr} {wa : St → Mp → DK → Prop} {pos q : Pos}
theorem r_lset (g : GX X G C Γ k W) {f h : Expr} (hf : nameB C G "len" f = true) (hh : nameB C G "set" h = true) (hn : noStar a = true) (ha : PE X a (LE X xk W wa)) :
    PE X (.Call f [.Call h [a] [] q] [] pos) (LE X xk W fun δ M Q => wa δ M fun x M1 => lsetD x M1 Q) := by
  obtain ⟨p1, rfl, q1, q2, q3, q4⟩ := nameB_of g hf
  obtain ⟨p2, rfl, s1, s2, s3, s4⟩ := nameB_of g hh
  refine pe_imp (pe_lset g.calm q1 q2 s1 s2 ha (star_cons hn)) fun σ H Q hx => ?_
  obtain ⟨δ, M, U, R, r, xo, hx, out⟩ := hx
  refine ⟨δ, M, U, _, r, xo, hx, fun d M1 v U1 H1 e k rm rv hR => ?_⟩
  unfold lsetD at hR
  split at hR
  · rename_i ds
    split at hR
    · rename_i ns hns
      simp only [RV] at rv
      obtain ⟨a, vs, rfl, hq, rr⟩ := rv
      obtain ⟨rfl, rfl⟩ := RVs.ints_of hns rr
      obtain ⟨hl, hR⟩ := hR
      exact .inl ⟨a, ns, rfl, .inl (k.vw.sqT hq), hl, fun ms h1 h2 => (out.mono e k).int k.vw rm (hR ms h1 h2)⟩
    · exact hR.elim
  · split at hR
    · rename_i ds hds
      split at hR
      · rename_i ns hns
        obtain ⟨a, vs, rfl, hq, rr⟩ := lstOf_at k.vw rm hds rv
        obtain ⟨rfl, rfl⟩ := RVs.ints_of hns rr
        obtain ⟨hl, hR⟩ := hR
        exact .inl ⟨a, ns, rfl, .inr hq, hl, fun ms h1 h2 => (out.mono e k).int k.vw rm (hR ms h1 h2)⟩
      · split at hR
        · rename_i xs hxs
          obtain ⟨a, vs, rfl, hq, rr⟩ := lstOf_at k.vw rm hds rv
          obtain rfl := RVs.strs_of hxs rr
          obtain ⟨hl, hR⟩ := hR
          exact .inr ⟨a, xs, rfl, hq, hl, fun ms h1 h2 => (out.mono e k).int k.vw rm (hR ms h1 h2)⟩
        · exact hR.elim
    · exact hR.elim
end
end Pw
set_option Elab.async false
set_option linter.all false
set_option maxRecDepth 100000
set_option maxHeartbeats 2000000
namespace Pw
open PySem PySem.Spec PyProof.Rows L2
/-! instances of the program's own classes -/
section
variable {K : PySem.W.Frag} {M : Mp} {H : Hp}
theorem RFs.look {f : Str} : ∀ {fs : List (Str × D)} {us : List (Str × V)}, RFs K M H fs us → match fs.lookup f with
    | some d => ∃ v, us.lookup f = some v ∧ RV K M H d v
    | none => us.lookup f = none
  | [], us, h => by
    simp only [RFs] at h
    subst h
    simp
  | (g, d) :: fs, us, h => by
    simp only [RFs] at h
    obtain ⟨v, r, rfl, h1, h2⟩ := h
    have ih := h2.look (f := f)
    by_cases e : f = g
    · subst e
      simp only [List.lookup_cons, beq_self_eq_true]
      exact ⟨v, rfl, h1⟩
    · have e2 : (f == g) = false := beq_eq_false_iff_ne.mpr e
      simp only [List.lookup_cons, e2]
      exact ih
theorem RFs.len : ∀ {fs : List (Str × D)} {us : List (Str × V)}, RFs K M H fs us → us.length = fs.length
  | [], us, h => by simp only [RFs] at h; subst h; rfl
  | (g, d) :: fs, us, h => by
    simp only [RFs] at h
    obtain ⟨v, r, rfl, h1, h2⟩ := h
    simp [h2.len]
theorem RFs.put {f : Str} {y : D} {v : V} (hv : RV K M H y v) : ∀ {fs : List (Str × D)} {us : List (Str × V)}, RFs K M H fs us → RFs K M H (setF f y fs) (putF f v us)
  | [], us, h => by
    simp only [RFs] at h
    subst h
    exact ⟨v, [], rfl, hv, rfl⟩
  | (g, d) :: fs, us, h => by
    simp only [RFs] at h
    obtain ⟨w, r, rfl, h1, h2⟩ := h
    unfold setF putF
    by_cases e : g = f
    · rw [if_pos e, if_pos e]
      exact ⟨v, r, rfl, hv, h2⟩
    · rw [if_neg e, if_neg e]
      exact ⟨w, _, rfl, h1, h2.put hv⟩
theorem look_memF {f : Str} {d : D} : ∀ {fs : List (Str × D)}, fs.lookup f = some d → (f, d) ∈ fs
  | [], h => by simp at h
  | (g, x) :: fs, h => by
    simp only [List.lookup_cons] at h
    by_cases e : f = g
    · subst e
      simp only [beq_self_eq_true] at h
      cases h; simp
    · have e2 : (f == g) = false := beq_eq_false_iff_ne.mpr e
      simp only [e2] at h
      exact List.mem_cons_of_mem _ (look_memF h)
theorem setF_mem {f g : Str} {y d : D} : ∀ {fs : List (Str × D)}, (g, d) ∈ setF f y fs → g = f ∨ ∃ d', (g, d') ∈ fs
  | [], h => by
    simp only [setF, List.mem_singleton, Prod.mk.injEq] at h
    exact .inl h.1
  | (q, x) :: fs, h => by
    unfold setF at h
    by_cases e : q = f
    · rw [if_pos e] at h
      rcases List.mem_cons.mp h with h | h
      · simp only [Prod.mk.injEq] at h
        exact .inl (h.1.trans e)
      · exact .inr ⟨d, List.mem_cons_of_mem _ h⟩
    · rw [if_neg e] at h
      rcases List.mem_cons.mp h with h | h
      · simp only [Prod.mk.injEq] at h
        exact .inr ⟨x, by rw [h.1]; simp⟩
      · rcases setF_mem h with h | ⟨d', h⟩
        · exact .inl h
        · exact .inr ⟨d', List.mem_cons_of_mem _ h⟩
end
section
variable {X : Cx} {xk : XD} {W : WX} {G : Gc} {C : Ct} {Γ : String → SpD} {k : Nat} {a b c : Expr} {wa wb : St → Mp → DK → Prop} {pos apos : Pos}
theorem r_attr (f : Str) (hb : plainTo a = true) (ha : PE X a (LE X xk W wa)) : PE X (.Attribute a f pos) (LE X xk W fun δ M Q => wa δ M fun x M1 => attrD f x M1 Q) :=
  pe_imp (pe_fld ha (base_of hb)) fun σ H Q h => by
    obtain ⟨δ, M, U, R, r, xo, h, out⟩ := h
    refine ⟨δ, M, U, _, r, xo, h, fun d M1 v U1 H1 e k rm rv hR => ?_⟩
    unfold attrD at hR
    split at hR
    · rename_i p
      split at hR
      · rename_i cc fs hM
        obtain ⟨dx, us, e1, e2, e3, e4⟩ := rm p _ hM
        simp only [RV] at rv
        subst rv
        have hl := e2.look (f := f)
        split at hR
        · rename_i y hy
          rw [hy] at hl
          obtain ⟨w, h1, h2⟩ := hl
          exact ⟨p, _, dx, us, w, rfl, k.vw _ _ e1, e3, e4 f y (look_memF hy), h1, out y M1 w U1 H1 e k rm h2 hR⟩
        · exact hR.elim
      · exact hR.elim
    · exact hR.elim
theorem methCall_eq {a : Expr} {m : Str} {args : List Expr} {env : Env} (hb : plainTo a = true) (hp : allPlain args = true) (hn : args.length ≤ 20) (hl : (apos.endLine == pos.line) = true) : ∃ pl : Sem Bool, eval (.Call (.Attribute a m apos) args [] pos) env = (do
      let ov ← eval a env
      standAt apos.atName
      let (f, first) ← holding [ov] (getMethod ov m pl)
      callWith pos f first (backTo pos (starEach args env)) (backToKw pos (keywordEach [] env))) := by
  refine ⟨do return (← importBound a env).getD true, ?_⟩
  rw [arm_eval_Call, base_of hb]
  have few : methodCallForm (args.length + ([] : List Keyword).length) (backTo pos (starEach args env)) (backToKw pos (keywordEach [] env)) = true := by
    unfold methodCallForm
    rw [star_all hp]
    simp only [keywordEach, backToKw, List.map_nil, List.all_nil, Bool.true_and, decide_eq_true_eq, List.length_nil, List.isEmpty_nil, if_true]
    omega
  have e : ∀ ov, methodCall a m apos pos env ov (args.length + ([] : List Keyword).length) (backTo pos (starEach args env)) (backToKw pos (keywordEach [] env)) = (do
      let (f, first) ← holding [ov] (getMethod ov m (do return (← importBound a env).getD true))
      callWith pos f first (backTo pos (starEach args env)) (backToKw pos (keywordEach [] env))) := fun ov => by
    unfold methodCall calleeOf methodCallPos
    rw [few]
    simp only [hl, Bool.not_true, Bool.false_or, if_true, pure_bind]
  simp only [e]
/-- the callee, a method, runs -/
theorem run_meth (g : GX X G C Γ k W) {key : String} {I : FnI} {M0 M2 : Mp} {U0 H0 U2 : Hp} {δ : St} {σ : L2.St} {R : DK} {Q : VK} {ad : Addr} {fd : FuncData} {ds : List D} {vs : List V} {us : List Value} {pins : List (Addr × Obj)} {s : Shared} {H : Hp}
    (F : FnG X.prog X.w X.K X.mg X.base k ad fd I.ps (spOf X.K X.mg (Γ key))) (hb : Binds X.K fd I.ps []) (In : L2.Inv X pins σ H s) (r : Vals vs us) (q : spOf X.K X.mg (Γ key) vs H Q (WE W σ)) :
    wpAny (model X.prog X.w) X.A (call (.ref ad) us) (EP X pins σ Q) X.xe s := by
  have hl := F.ar _ _ _ _ q
  have hbb := hb s us In.kIn (by rw [List.append_nil, ← r.length]; exact hl)
  rw [List.append_nil] at hbb
  exact wpAny_call (goG F g.room.toRoomG hbb (passAt g.tk σ) In r q)
theorem binds_nil {K : PySem.W.Frag} {fd : FuncData} {I : FnI} (hd : I.dfl = []) (hk : I.kwn = false) (hps : (I.kwn = true → I.dfl ≠ []) → ∃ (dvs : List V) (ds : List Value), flatDVs I.dfl dvs = true ∧ Vals dvs ds ∧ Binds K fd I.ps ds) : Binds K fd I.ps [] := by
  obtain ⟨dvs, dus, hfl, hv, hb2⟩ := hps (fun z => by rw [hk] at z; cases z)
  rw [hd] at hfl
  obtain rfl : dvs = [] := by cases dvs with
    | nil => rfl
    | cons => simp [flatDVs] at hfl
  cases hv
  exact hb2
theorem insOk_at {K : PySem.W.Frag} {M : Mp} {U H : Hp} {cc m : Str} {d : D} {v : V} (vw : Vw U H) (rm : RM K M U) (rv : RV K M U d v) (hi : insOk cc m d M) : ∃ p dx us, d = .ref p ∧ v = .ref p ∧ H p = some (.ins (He.ga K cc) dx us) ∧ Cls K (He.ga K cc) ∧ us.lookup m = none := by
  unfold insOk at hi
  split at hi
  · rename_i p
    split at hi
    · rename_i c' fs hM
      obtain ⟨rfl, hlk⟩ := hi
      obtain ⟨dx, us, e1, e2, e3, e4⟩ := rm p _ hM
      simp only [RV] at rv
      have hlu := e2.look (f := m)
      rw [hlk] at hlu
      exact ⟨p, dx, us, rfl, rv, vw _ _ e1, e3, hlu⟩
    · exact hi.elim
  · exact hi.elim
/-- o.m(e, ..) -/
theorem r_mcall (g : GX X G C Γ k W) {key : String} {cc m : Str} {I : FnI} {e : Expr} {es : List Expr} {n : Nat} {wl : St → Mp → (List D → Mp → Prop) → Prop} (hI : G.fns.lookup key = some I) (hat : I.at_ = some (cc, m)) (hd : I.dfl = []) (hk : I.kwn = false)
    (hb : plainTo a = true) (hl : (apos.endLine == pos.line) = true) (hp : allPlain (e :: es) = true) (hn : (e :: es).length = n) (hn2 : n ≤ 20) (ha : PE X a (LE X xk W wa)) (hes : PA X (e :: es) (LL X xk W n wl)) :
    PE X (.Call (.Attribute a m apos) (e :: es) [] pos) (LE X xk W fun δ M Q => wa δ M fun x M1 => insOk cc m x M1 ∧ wl δ M1 fun ds M2 => Γ key (x :: ds) M2 Q fun c' M' => xk c' δ M') := by
  obtain ⟨pl, he⟩ := methCall_eq (apos := apos) (pos := pos) (m := m) (args := e :: es) (env := X.env) hb hp (by omega) hl
  obtain ⟨⟨ad, fd, hfa, F, hps, _⟩, har⟩ := g.fns key I hI
  have hm := hfa.meth hat
  have hbn := binds_nil hd hk hps
  refine ⟨fun pins s σ H Q In h => ?_⟩
  obtain ⟨δ, M, U, R, r, xo, h, out⟩ := h
  refine PySem.W.methodCall_KW (pl := pl) (thn (ha.run pins s σ H (fun v H1 => ∃ d M1 U1, Go X.K M U H M1 U1 H1 ∧ RV X.K M1 U1 d v ∧ (insOk cc m d M1 ∧ wl δ M1 fun ds M2 => Γ key (d :: ds) M2 R fun c' M' => xk c' δ M')) In
    ⟨δ, M, U, _, r, xo, h, fun d M1 v U1 H1 e k rm rv hR => ⟨d, M1, U1, ⟨e, k, rm⟩, rv, hR⟩⟩) fun u s1 ⟨v, H1, I1, r1, d, M1, U1, g1, rv, hi, hw⟩ => ?_) he
  obtain ⟨p, dx, us, rfl, rfl, e1, e3, hlu⟩ := insOk_at g1.kp.vw g1.rm rv hi
  obtain rfl : u = Value.ref p := r1
  refine getmeth_ok I1 e1 e3 hm hlu ?_
  have q0 : LL X xk W n wl σ H1 (fun vs H2 => spOf X.K X.mg (Γ key) (V.ref p :: vs) H2 Q (WE W σ)) := ⟨δ, M1, U1, _, r.mono g1, xo.mono g1, hw, fun ds M2 vs U2 H2 g2 rvs _ hR2 =>
    sp_of r xo (g1.trans g2) out (by simp only [RVs]; exact ⟨_, _, rfl, by simp only [RV], rvs⟩) hR2⟩
  have hst := star_any (env := X.env) (pos := pos) hp
  simp only [allPlain, Bool.and_eq_true] at hp
  refine PySem.W.callWith_K (first := [.ref p]) (h₀ := X.base) I1.ok.mod.kin hm.kp (thn (hes.run pos pins s1 σ H1 _ I1 q0) fun us2 s2 ⟨vs, H2, I2, r2, q2⟩ => ⟨I2.kIn, ?_⟩) (star_cons hp.1) (star_any hp.2)
  exact run_meth (M0 := M) (M2 := M) (U0 := U) (H0 := H) (U2 := U) (δ := δ) (R := R) (ds := []) g F hbn I2 (.cons (show L2.RelV (V.ref p) (Value.ref p) from rfl) r2) q2
/-- o.m() -/
theorem r_mcall0 (g : GX X G C Γ k W) {key : String} {cc m : Str} {I : FnI} (hI : G.fns.lookup key = some I) (hat : I.at_ = some (cc, m)) (hd : I.dfl = []) (hk : I.kwn = false)
    (hb : plainTo a = true) (hl : (apos.endLine == pos.line) = true) (ha : PE X a (LE X xk W wa)) :
    PE X (.Call (.Attribute a m apos) [] [] pos) (LE X xk W fun δ M Q => wa δ M fun x M1 => insOk cc m x M1 ∧ Γ key [x] M1 Q fun c' M' => xk c' δ M') := by
  obtain ⟨pl, he⟩ := methCall_eq (apos := apos) (pos := pos) (m := m) (args := []) (env := X.env) hb rfl (by decide) hl
  obtain ⟨⟨ad, fd, hfa, F, hps, _⟩, har⟩ := g.fns key I hI
  have hm := hfa.meth hat
  have hbn := binds_nil hd hk hps
  refine ⟨fun pins s σ H Q In h => ?_⟩
  obtain ⟨δ, M, U, R, r, xo, h, out⟩ := h
  refine PySem.W.methodCall_KW (pl := pl) (thn (ha.run pins s σ H (fun v H1 => ∃ d M1 U1, Go X.K M U H M1 U1 H1 ∧ RV X.K M1 U1 d v ∧ (insOk cc m d M1 ∧ Γ key [d] M1 R fun c' M' => xk c' δ M')) In
    ⟨δ, M, U, _, r, xo, h, fun d M1 v U1 H1 e k rm rv hR => ⟨d, M1, U1, ⟨e, k, rm⟩, rv, hR⟩⟩) fun u s1 ⟨v, H1, I1, r1, d, M1, U1, g1, rv, hi, hw⟩ => ?_) he
  obtain ⟨p, dx, us, rfl, rfl, e1, e3, hlu⟩ := insOk_at g1.kp.vw g1.rm rv hi
  obtain rfl : u = Value.ref p := r1
  refine getmeth_ok I1 e1 e3 hm hlu ?_
  have q0 : spOf X.K X.mg (Γ key) [V.ref p] H1 Q (WE W σ) := sp_of r xo g1 out (by simp only [RVs]; exact ⟨_, _, rfl, by simp only [RV], rfl⟩) hw
  exact PySem.W.callWith_K0 (first := [.ref p]) I1.kIn hm.kp (run_meth (M0 := M) (M2 := M) (U0 := U) (H0 := H) (U2 := U) (δ := δ) (R := R) (ds := []) g F hbn I1 (.cons (show L2.RelV (V.ref p) (Value.ref p) from rfl) .nil) q0)
/-- a new instance, its __init__ run -/
theorem go_make (g : GX X G C Γ k W) {key : String} {cc : Str} {fs : List Str} {I : FnI} {M0 M1 : Mp} {U0 H0 U1 : Hp} {δ : St} {σ : L2.St} {R : DK} {Q : VK} {ad : Addr} {fd : FuncData} {ds : List D} {vs : List V} {us : List Value} {pins : List (Addr × Obj)} {s : Shared} {H1 : Hp}
    (hin : InsF X.mg X.K cc fs) (hm : Meth X.K (He.ga X.K cc) "__init__" ad) (F : FnG X.prog X.w X.K X.mg X.base k ad fd I.ps (spOf X.K X.mg (Γ key))) (hb : Binds X.K fd I.ps []) (In : L2.Inv X pins σ H1 s) (r : Vals vs us)
    (rel : Rel X.K M0 U0 H0 δ σ) (xo : XOk X xk W M0 U0 H0) (out : Out X.K M0 U0 H0 R Q) (g1 : Go X.K M0 U0 H0 M1 U1 H1) (rvs : RVs X.K M1 U1 ds vs)
    (q : ∀ p, M1 p = none → Γ key (.ref p :: ds) (up M1 p (.ins cc [])) (fun v M2 => v = .non ∧ R (.ref p) M2) fun c' M' => xk c' δ M') :
    wpAny (model X.prog X.w) X.A (call (.ref (He.ga X.K cc)) us) (EP X pins σ Q) X.xe s := by
  have hx : H1 (s.heap.objs.size + 1) = none := In.hok.fresh (Nat.le_succ _)
  have hdx : H1 s.heap.objs.size = none := In.hok.fresh (Nat.le_refl _)
  have nxd : s.heap.objs.size ≠ s.heap.objs.size + 1 := Nat.ne_of_lt (Nat.lt_succ_self _)
  have I2 := Inv.made (C := He.ga X.K cc) In
  generalize hX : s.heap.objs.size + 1 = x at hx nxd I2
  generalize hD : s.heap.objs.size = dx at hdx nxd I2
  have ux : U1 x = none := g1.kp.vw.none hx
  have mx : M1 x = none := g1.rm.none_of ux
  have hH2x : (upd H1 dx (.own x)) x = none := by rw [upd_ne (Ne.symm nxd)]; exact hx
  -- the new world
  have ga : Go X.K M1 U1 H1 M1 U1 (upd H1 dx (.own x)) := ⟨.refl, ⟨fun a o ha n => by
    rw [upd_ne (ne_of_none ha hdx)]
    exact ⟨ha, n⟩, fun a o ha => by
    rw [upd_ne (ne_of_none ha (g1.kp.vw.none hdx))]
    exact g1.kp.vw _ _ ha⟩, g1.rm⟩
  have hro : RO X.K (up M1 x (.ins cc [])) (upd U1 x (.ins (He.ga X.K cc) dx [])) x (.ins cc []) := ⟨dx, [], upd_same, rfl, hin.cls, fun f d h => by cases h⟩
  have gb : Go X.K M1 U1 (upd H1 dx (.own x)) (up M1 x (.ins cc [])) (upd U1 x (.ins (He.ga X.K cc) dx [])) (upd (upd H1 dx (.own x)) x (.ins (He.ga X.K cc) dx [])) := ⟨Ext.newM ux, Kp.new ga.kp.vw hH2x, g1.rm.newM ux hro⟩
  have g2 := (g1.trans ga).trans gb
  have gab := ga.trans gb
  have q2 : spOf X.K X.mg (Γ key) (V.ref x :: vs) (upd (upd H1 dx (.own x)) x (.ins (He.ga X.K cc) dx [])) (fun v H2 => v = .non ∧ Q (.ref x) H2) (WE W σ) :=
    ⟨_, _, .ref x :: ds, _, _, g2.kp.vw, g2.rm, by simp only [RVs]; exact ⟨_, _, rfl, by simp only [RV], RVs.mono gab.ex g1.rm _ _ rvs⟩, q x mx, fun d M' v U' H' e k rm rv hR => by
      obtain ⟨rfl, hR⟩ := hR
      simp only [RV] at rv
      refine ⟨rv, ?_⟩
      have g3 := g2.trans ⟨e, k, rm⟩
      exact out (.ref x) M' (.ref x) U' H' g3.ex g3.kp g3.rm (by simp only [RV]) hR, fun c M' U' H' g' hx' => xo c δ M' U' H' σ (g2.trans g') (rel.mono (g2.trans g')).rs hx'⟩
  have r2 : Vals (V.ref x :: vs) (Value.ref x :: us) := .cons rfl r
  have hl := F.ar _ _ _ _ q2
  subst hD
  subst hX
  have hbb := hb _ (Value.ref (s.heap.objs.size + 1) :: us) I2.kIn (by rw [List.append_nil, ← r2.length]; exact hl)
  rw [List.append_nil] at hbb
  refine wpAny_call (make_map (f := ad) In.kIn hin.makes hm.at_ (beq_iff_eq.mp hm.fn) (codeAny_mono (F.go _ X.stack _ _ ⟨Value.ref (s.heap.objs.size + 1) :: us, []⟩ (Value.ref (s.heap.objs.size + 1) :: us) _ _ (WE W σ) (g.room.make (He.ga X.K cc) us)
    (I2.env0.make (He.ga X.K cc) us []) hbb r2 q2) fun rr s' hq' => ?_))
  cases rr with
  | error e => exact passAt g.tk σ pins _ _ e s' I2 hq'
  | ok fl =>
    cases fl with
    | ret u =>
      obtain ⟨v, H', I3, rv, ev, q3⟩ := I2.after hq'
      subst ev
      exact ⟨rv, ⟨V.ref (s.heap.objs.size + 1), H', I3, rfl, q3⟩⟩
    | next => exact False.elim hq'
    | brk => exact False.elim hq'
    | cont => exact False.elim hq'
theorem r_make (g : GX X G C Γ k W) {key : String} {cc : Str} {fs : List Str} {I : FnI} {p : Pos} {e : Expr} {es : List Expr} {n : Nat} {wl : St → Mp → (List D → Mp → Prop) → Prop} (hI : G.fns.lookup key = some I) (hat : I.at_ = some (cc, ("__init__" : Str))) (hd : I.dfl = []) (hk : I.kwn = false)
    (hin : G.inst.lookup cc = some fs) (hg : glB C.sc cc = true) (hp : allPlain (e :: es) = true) (hes : PA X (e :: es) (LL X xk W n wl)) :
    PE X (.Call (.Name cc p) (e :: es) [] pos) (LE X xk W fun δ M Q => wl δ M fun ds M1 => ∀ p, M1 p = none → Γ key (.ref p :: ds) (up M1 p (.ins cc [])) (fun v M2 => v = .non ∧ Q (.ref p) M2) fun c' M' => xk c' δ M') := by
  rw [← g.sc] at hg
  obtain ⟨q1, q2, q3⟩ := glB_gl hg
  obtain ⟨⟨ad, fd, hfa, F, hps, _⟩, har⟩ := g.fns key I hI
  have hm := hfa.meth hat
  have hbn := binds_nil hd hk hps
  have hif := g.ins cc fs hin
  simp only [allPlain, Bool.and_eq_true] at hp
  refine ⟨fun pins s σ H Q In h => ?_⟩
  obtain ⟨δ, M, U, R, r, xo, h, out⟩ := h
  refine wpAny_Call_Name_kw (ld_glob In q1 hif.glo ?_ q2)
  refine PySem.W.callWith_K (h₀ := X.base) In.ok.mod.kin hif.kp (thn (hes.run pos pins s σ H (fun vs H1 => ∃ ds M1 U1, Go X.K M U H M1 U1 H1 ∧ RVs X.K M1 U1 ds vs ∧ ∀ p, M1 p = none → Γ key (.ref p :: ds) (up M1 p (.ins cc [])) (fun v M2 => v = .non ∧ R (.ref p) M2) fun c' M' => xk c' δ M') In
    ⟨δ, M, U, _, r, xo, h, fun ds M1 vs U1 H1 g1 rvs _ hR => ⟨ds, M1, U1, g1, rvs, hR⟩⟩) fun us s1 ⟨vs, H1, I1, r1, ds, M1, U1, g1, rvs, q⟩ => ⟨I1.kIn, ?_⟩) (star_cons hp.1) (star_any hp.2)
  exact go_make g hif hm F hbn I1 r1 r xo out g1 rvs q
theorem r_make0 (g : GX X G C Γ k W) {key : String} {cc : Str} {fs : List Str} {I : FnI} {p : Pos} (hI : G.fns.lookup key = some I) (hat : I.at_ = some (cc, ("__init__" : Str))) (hd : I.dfl = []) (hk : I.kwn = false)
    (hin : G.inst.lookup cc = some fs) (hg : glB C.sc cc = true) :
    PE X (.Call (.Name cc p) [] [] pos) (LE X xk W fun δ M Q => ∀ p, M p = none → Γ key [.ref p] (up M p (.ins cc [])) (fun v M2 => v = .non ∧ Q (.ref p) M2) fun c' M' => xk c' δ M') := by
  rw [← g.sc] at hg
  obtain ⟨q1, q2, q3⟩ := glB_gl hg
  obtain ⟨⟨ad, fd, hfa, F, hps, _⟩, har⟩ := g.fns key I hI
  have hm := hfa.meth hat
  have hbn := binds_nil hd hk hps
  have hif := g.ins cc fs hin
  refine ⟨fun pins s σ H Q In h => ?_⟩
  obtain ⟨δ, M, U, R, r, xo, h, out⟩ := h
  refine wpAny_Call_Name_kw (ld_glob In q1 hif.glo ?_ q2)
  exact PySem.W.callWith_K0 In.kIn hif.kp (go_make (ds := []) g hif hm F hbn In .nil r xo out r.here (by simp only [RVs]) h)
/-- o.f = a -/
theorem s_sattr (g : GS X G C Γ k W) {cc f : Str} {fs : List Str} {b : Expr} {wb : St → Mp → DK → Prop} {ap : Pos} (hs : swOk a = true) (hs2 : noLc a = true) (hin : G.inst.lookup cc = some fs) (hf : f ∈ fs) (ha : PE X a (LE X xk W wa)) (hb : PE X b (LE X xk W wb)) :
    PS X (.Assign [.Attribute b f ap] a pos) (LS X xk W fun E δ M => wa δ M fun y M1 => wb δ M1 fun x M2 => sattrD cc f y x M2 fun M3 => E.nx δ M3) := by
  have hif := g.ins cc fs hin
  refine ps_imp (ps_fld hb ha (noSw hs hs2)) fun D σ H h => ?_
  obtain ⟨δ, M, U, E, r, xo, h, out⟩ := h
  refine ⟨δ, M, U, _, r, xo, h, fun y M1 v U1 H1 e1 k1 rm1 rv1 hR => ?_⟩
  have g1 : Go X.K M U H M1 U1 H1 := ⟨e1, k1, rm1⟩
  refine ⟨δ, M1, U1, _, r.mono g1, xo.mono g1, hR, fun x M2 w U2 H2 e2 k2 rm2 rv2 hR2 => ?_⟩
  have g2 := g1.trans ⟨e2, k2, rm2⟩
  unfold sattrD at hR2
  split at hR2
  · rename_i p
    split at hR2
    · rename_i c' fs' hM
      obtain ⟨rfl, hlen, hR2⟩ := hR2
      obtain ⟨dx, us, q1, q2, q3, q4⟩ := rm2 p _ hM
      simp only [RV] at rv2
      refine ⟨p, _, dx, us, rv2, k2.vw _ _ q1, q3, hif.no f hf, by rw [q2.len]; exact hlen, ?_⟩
      have ew : Ext M2 U2 (up M2 p (.ins c' (setF f y fs'))) (upd U2 p (.ins (He.ga X.K c') dx (putF f v us))) := Ext.wr hM
      have hro : RO X.K (up M2 p (.ins c' (setF f y fs'))) (upd U2 p (.ins (He.ga X.K c') dx (putF f v us))) p (.ins c' (setF f y fs')) :=
        ⟨dx, _, upd_same, RFs.put (RV.mono (e2.trans ew) rm1 y v rv1) (RFs.mono ew rm2 _ _ q2), q3, fun g d hd => by
          rcases setF_mem hd with rfl | ⟨d', hd'⟩
          · exact hif.no _ hf
          · exact q4 g d' hd'⟩
      have g3 : Go X.K M U H (up M2 p (.ins c' (setF f y fs'))) (upd U2 p (.ins (He.ga X.K c') dx (putF f v us))) (upd H2 p (.ins (He.ga X.K c') dx (putF f v us))) :=
        g2.trans ⟨ew, Kp.wr k2.vw q1, rm2.wr hM hro⟩
      exact out.nx _ _ _ _ _ g3 (r.mono g3).rs hR2
    · exact hR2.elim
  · exact hR2.elim
end
end Pw
set_option Elab.async false
set_option linter.all false
set_option maxRecDepth 100000
set_option maxHeartbeats 2000000
/-! dicts with keys that are tuples of whole numbers: {} and for k in d -/
namespace Pw
open PySem PySem.Spec PyProof.Rows L2
theorem rvs_ints {K : PySem.W.Frag} {M : Mp} {U : Hp} : ∀ {ks : List Int}, RVs K M U (ks.map D.int) (ks.map V.int)
  | [] => by simp [RVs]
  | k :: ks => by
    simp only [List.map_cons, RVs]
    exact ⟨_, _, rfl, by simp only [RV], rvs_ints⟩
theorem jok_q {K : PySem.W.Frag} {M1 : Mp} {U1 : Hp} {p : Addr} {o : Obj} {kvs : List (List Int × D)} : JOk RV K (Itq p o) M1 U1 (kvs.map fun q => .tup (q.1.map D.int)) (fun M => M p = some (.dicT (some o) kvs)) := by
  intro M U H x vw rm st i
  obtain ⟨trip, hU, hT⟩ := rm p _ st
  have hH : H p = some (.frz o (DictT p trip)) := vw _ _ hU
  have hl := hT.length
  refine ⟨fun h => ⟨trip, hH, by rw [List.length_map] at h; omega⟩, fun d hd => ?_⟩
  rw [List.getElem?_map] at hd
  obtain ⟨c, hc, rfl⟩ := Option.map_eq_some_iff.mp hd
  obtain ⟨q, v, h1, h2⟩ := RTs.get (i := i) hT hc
  refine ⟨⟨trip, hH, by have := (List.getElem?_eq_some_iff.mp hc).1; omega⟩, fun y H' hy => ?_⟩
  obtain ⟨rfl, hy⟩ := hy
  obtain ⟨p', hp', rfl⟩ := hy trip hH
  rw [h1] at hp'
  cases hp'
  refine ⟨U, .refl vw rm, ?_⟩
  simp only [RV]
  exact ⟨q, _, rfl, h2, rvs_ints⟩
section
variable {X : Cx} {xk : XD} {W : WX} {G : Gc} {C : Ct} {Γ : String → SpD} {k : Nat} {a : Expr} {wa : St → Mp → DK → Prop} {pos : Pos}
theorem r_dctT : PE X (.Dict [] [] pos) (LE X xk W fun _ M Q => ∀ p, M p = none → Q (.ref p) (up M p (.dicT none []))) :=
  pe_imp pe_dnewQ fun σ H Q h => by
    obtain ⟨δ, M, U, R, r, xo, h, out⟩ := h
    intro p hp
    have hv := r.vw.none hp
    have n := r.rm.none_of hv
    exact out (.ref p) (up M p (.dicT none [])) (.ref p) _ _ (Ext.newM hv) (Kp.new r.vw hp) (r.rm.newM hv ⟨[], upd_same, by simp only [RTs]⟩) (by simp only [RV]) (h p n)
theorem w_itk {tg : Expr} (ha : PE X a (LE X xk W wa)) : PI X tg a (LI RV X xk W fun δ M Q => wa δ M fun x M1 => onT x M1 fun a lk kvs => kvs.length ≤ LIM ∧ (match lk with
    | some o => Q (kvs.map fun p => .tup (p.1.map D.int)) (fun M => M a = some (.dicT (some o) kvs)) M1
    | none => ∀ o, Q (kvs.map fun p => .tup (p.1.map D.int)) (fun M => M a = some (.dicT (some o) kvs)) (up M1 a (.dicT (some o) kvs)))) :=
  pi_imp (pi_keysQ ha) fun σ H Q h => by
    obtain ⟨δ, M, U, R, r, xo, h, out⟩ := h
    refine ⟨δ, M, U, _, r, xo, h, fun d M1 v U1 H1 e k rm rv hR => ?_⟩
    unfold onT at hR
    split at hR
    · rename_i p
      split at hR
      · rename_i lk kvs hM
        obtain ⟨hl, hR⟩ := hR
        obtain ⟨trip, hU, hT⟩ := rm p _ hM
        simp only [RV] at rv
        subst rv
        cases lk with
        | some o =>
          exact ⟨p, trip, rfl, .inl ⟨o, k.vw _ _ hU, out _ _ M1 U1 H1 _ ⟨e, k, rm⟩ hR (by simpa using hl) jok_q⟩⟩
        | none =>
          refine ⟨p, trip, rfl, .inr ⟨k.vw _ _ hU, fun o => ?_⟩⟩
          have g : Go X.K M U H (up M1 p (.dicT (some o) kvs)) (upd U1 p (.frz o (DictT p trip))) (upd H1 p (.frz o (DictT p trip))) :=
            (⟨e, k, rm⟩ : Go X.K M U H M1 U1 H1).trans ⟨Ext.wr hM, Kp.wr k.vw hU, rm.wr hM ⟨trip, upd_same, RTs.mono (Ext.wr hM) rm _ _ hT⟩⟩
          exact out _ _ _ _ _ _ g (hR o) (by simpa using hl) jok_q
      · exact hR.elim
    · exact hR.elim
end
end Pw
set_option Elab.async false
set_option linter.all false
set_option maxRecDepth 100000
set_option maxHeartbeats 2000000
/-! d.items() and d.values(), walked: the dict is locked from then on -/
namespace Pw
open PySem PySem.Spec PyProof.Rows L2
theorem RKs.at_ {K : PySem.W.Frag} {M : Mp} {U : Hp} {c : Key × D} : ∀ {kvs : List (Key × D)} {us : List (Key × V)} {i : Nat}, RKs K M U kvs us → kvs[i]? = some c → ∃ v, us[i]? = some (c.1, v) ∧ RV K M U c.2 v
  | [], us, i, h, e => by simp at e
  | (k, d) :: ds, us, i, h, e => by
    simp only [RKs] at h
    obtain ⟨v, r, rfl, h1, h2⟩ := h
    cases i with
    | zero => simp at e; subst e; exact ⟨v, rfl, h1⟩
    | succ i => simp at e; simpa using RKs.at_ h2 e
theorem rv_kD {K : PySem.W.Frag} {M : Mp} {U : Hp} (k : Key) : RV K M U (kD k) (kV k) := by
  cases k <;> simp only [kD, kV, RV]
theorem RKs.uniq {K : PySem.W.Frag} {M : Mp} {U : Hp} : ∀ {kvs : List (Key × D)} {us : List (Key × V)}, (intsOf (kvs.map fun p => p.2)).isSome = true → RKs K M U kvs us → us = kvs.map fun p => (p.1, match p.2 with
    | .int i => V.int i
    | _ => V.non)
  | [], us, h, e => by simp only [RKs] at e; simpa using e
  | (k, d) :: ds, us, h, e => by
    simp only [RKs] at e
    obtain ⟨v, r, rfl, h1, h2⟩ := e
    cases d <;> simp only [List.map_cons, intsOf] at h <;> try cases h
    rename_i i
    simp only [RV] at h1
    subst h1
    have h' : (intsOf (ds.map fun p => p.2)).isSome = true := by
      cases z : intsOf (ds.map fun p => p.2) with
      | none => rw [z] at h; cases h
      | some _ => rfl
    rw [RKs.uniq h' h2]
    rfl
theorem jok_itm {K : PySem.W.Frag} {M1 : Mp} {U1 : Hp} {p : Addr} {o : Obj} {kvs : List (Key × D)} {us : List (Key × V)} (hu : ∀ M U, Ext M1 U1 M U → RM K M U → M p = some (.dicL o kvs) → U p = some (.frz o (.dK us)) ∧ RKs K M U kvs us) : JOk RW K (Iti p o us) M1 U1 (kvs.map fun q => .tup [kD q.1, q.2]) (fun M => M p = some (.dicL o kvs)) := by
  intro M U H x vw rm st i
  obtain ⟨hU, hT⟩ := hu M U x rm st
  have hH : H p = some (.frz o (.dK us)) := vw _ _ hU
  have hl := hT.length
  refine ⟨fun h => ⟨hH, by rw [List.length_map] at h; omega⟩, fun d hd => ?_⟩
  rw [List.getElem?_map] at hd
  obtain ⟨c, hc, rfl⟩ := Option.map_eq_some_iff.mp hd
  obtain ⟨v, h1, h2⟩ := RKs.at_ (i := i) hT hc
  refine ⟨⟨hH, (List.getElem?_eq_some_iff.mp h1).1⟩, fun y H' hy => ?_⟩
  obtain ⟨T, k', v', e, rfl, hT', rfl⟩ := hy
  rw [h1] at e
  cases e
  refine ⟨_, ⟨Ext.new (vw.none hT'), Kp.new vw hT', rm.new (vw.none hT')⟩, ⟨T, _, rfl, .inl (.inl upd_same), ?_⟩⟩
  simp only [RVs]
  exact ⟨_, _, rfl, rv_kD _, _, _, rfl, RV.mono (Ext.new (vw.none hT')) rm _ _ h2, rfl⟩
theorem jok_vls {K : PySem.W.Frag} {M1 : Mp} {U1 : Hp} {p : Addr} {o : Obj} {kvs : List (Key × D)} {us : List (Key × V)} (hu : ∀ M U, Ext M1 U1 M U → RM K M U → M p = some (.dicL o kvs) → U p = some (.frz o (.dK us)) ∧ RKs K M U kvs us) : JOk RV K (Itd p o us) M1 U1 (kvs.map fun q => q.2) (fun M => M p = some (.dicL o kvs)) := by
  intro M U H x vw rm st i
  obtain ⟨hU, hT⟩ := hu M U x rm st
  have hH : H p = some (.frz o (.dK us)) := vw _ _ hU
  have hl := hT.length
  refine ⟨fun h => ⟨hH, by rw [List.length_map] at h; omega⟩, fun d hd => ?_⟩
  rw [List.getElem?_map] at hd
  obtain ⟨c, hc, rfl⟩ := Option.map_eq_some_iff.mp hd
  obtain ⟨v, h1, h2⟩ := RKs.at_ (i := i) hT hc
  refine ⟨⟨hH, (List.getElem?_eq_some_iff.mp h1).1⟩, fun y H' hy => ?_⟩
  obtain ⟨rfl, k', e⟩ := hy
  rw [h1] at e
  cases e
  exact ⟨U, .refl vw rm, h2⟩
section
variable {X : Cx} {xk : XD} {W : WX} {G : Gc} {C : Ct} {Γ : String → SpD} {k : Nat} {a e : Expr} {wa : St → Mp → DK → Prop} {td : TE} {pos : Pos}
/-- the dict that e gives, locked from now on -/
def tLk (td : TE) : TE := fun σ H Q => td σ H fun x H1 => ∃ d us, x = .ref d ∧ H1 d = some (.dK us) ∧ ∀ o, Q x (upd H1 d (.frz o (.dK us)))
theorem pe_lk (h : PE X e td) : PE X e (tLk td) := by
  refine ⟨fun pins s σ H Q I hw => ?_⟩
  refine thn (h.run pins s σ H _ I hw) fun v s1 ⟨x, H1, I1, r, d, us, ex, hd, q⟩ => ?_
  obtain ⟨o, I2⟩ := I1.lock hd True.intro
  exact ⟨x, _, I2, r, q o⟩
theorem lk_at {K : PySem.W.Frag} {M1 : Mp} {U1 : Hp} {p : Addr} {o : Obj} {kvs : List (Key × D)} {us : List (Key × V)} (hi : (intsOf (kvs.map fun p => p.2)).isSome = true) (q : RKs K M1 U1 kvs us) : ∀ M U, Ext M1 U1 M U → RM K M U → M p = some (.dicL o kvs) → U p = some (.frz o (.dK us)) ∧ RKs K M U kvs us := fun M U _ rm st => by
  obtain ⟨us', h1, h2⟩ := rm p _ st
  have e : us' = us := (RKs.uniq hi h2).trans (RKs.uniq hi q).symm
  subst e
  exact ⟨h1, h2⟩
theorem w_iitm {tg : Expr} {ap cp : Pos} (hb : plainTo e = true) (hl : (ap.endLine == cp.line) = true) (ht : isTupE tg = true) (ha : PE X e (LE X xk W wa)) : PI X tg (.Call (.Attribute e "items" ap) [] [] cp) (LI RW X xk W fun δ M Q => wa δ M fun x M1 => onDW x M1 fun a kvs => kvs.length ≤ LIM ∧ (intsOf (kvs.map fun p => p.2)).isSome = true ∧ ∀ o, Q (kvs.map fun p => .tup [kD p.1, p.2]) (fun M => M a = some (.dicL o kvs)) (up M1 a (.dicL o kvs))) := by
  cases tg <;> first
    | cases ht
    | skip
  refine pi_imp (pi_items (pe_lk ha) (base_of hb) hl) fun σ H Q h => ?_
  obtain ⟨δ, M, U, R, r, xo, h, out⟩ := h
  refine ⟨δ, M, U, _, r, xo, h, fun d M1 v U1 H1 g k rm rv hR => ?_⟩
  unfold onDW at hR
  split at hR
  · rename_i p
    split at hR
    · rename_i kvs hM
      obtain ⟨hz, hi, hR⟩ := hR
      obtain ⟨us, hU, q⟩ := rm p _ hM
      simp only [RV] at rv
      subst rv
      refine ⟨p, us, rfl, k.vw _ _ hU, fun o => ⟨p, o, us, rfl, upd_same, ?_⟩⟩
      have gg : Go X.K M U H (up M1 p (.dicL o kvs)) (upd U1 p (.frz o (.dK us))) (upd H1 p (.frz o (.dK us))) :=
        (⟨g, k, rm⟩ : Go X.K M U H M1 U1 H1).trans ⟨Ext.wr hM, Kp.wr k.vw hU, rm.wr hM ⟨us, upd_same, RKs.mono (Ext.wr hM) rm _ _ q⟩⟩
      exact out _ _ _ _ _ _ gg (hR o) (by simpa using hz) (jok_itm (lk_at hi (RKs.mono (Ext.wr hM) rm _ _ q)))
    · exact hR.elim
  · exact hR.elim
theorem w_ivls {tg : Expr} {ap cp : Pos} (hb : plainTo e = true) (hl : (ap.endLine == cp.line) = true) (ha : PE X e (LE X xk W wa)) : PI X tg (.Call (.Attribute e "values" ap) [] [] cp) (LI RV X xk W fun δ M Q => wa δ M fun x M1 => onDW x M1 fun a kvs => kvs.length ≤ LIM ∧ (intsOf (kvs.map fun p => p.2)).isSome = true ∧ ∀ o, Q (kvs.map fun p => p.2) (fun M => M a = some (.dicL o kvs)) (up M1 a (.dicL o kvs))) := by
  refine pi_imp (pi_values (pe_lk ha) (base_of hb) hl) fun σ H Q h => ?_
  obtain ⟨δ, M, U, R, r, xo, h, out⟩ := h
  refine ⟨δ, M, U, _, r, xo, h, fun d M1 v U1 H1 g k rm rv hR => ?_⟩
  unfold onDW at hR
  split at hR
  · rename_i p
    split at hR
    · rename_i kvs hM
      obtain ⟨hz, hi, hR⟩ := hR
      obtain ⟨us, hU, q⟩ := rm p _ hM
      simp only [RV] at rv
      subst rv
      refine ⟨p, us, rfl, k.vw _ _ hU, fun o => ⟨p, o, us, rfl, upd_same, ?_⟩⟩
      have gg : Go X.K M U H (up M1 p (.dicL o kvs)) (upd U1 p (.frz o (.dK us))) (upd H1 p (.frz o (.dK us))) :=
        (⟨g, k, rm⟩ : Go X.K M U H M1 U1 H1).trans ⟨Ext.wr hM, Kp.wr k.vw hU, rm.wr hM ⟨us, upd_same, RKs.mono (Ext.wr hM) rm _ _ q⟩⟩
      exact out _ _ _ _ _ _ gg (hR o) (by simpa using hz) (jok_vls (lk_at hi (RKs.mono (Ext.wr hM) rm _ _ q)))
    · exact hR.elim
  · exact hR.elim
end
end Pw
set_option Elab.async false
set_option linter.all false
set_option maxRecDepth 100000
set_option maxHeartbeats 2000000
/-! sorted(d.values(), reverse=True) of whole numbers -/
namespace Pw
open PySem PySem.Spec PyProof.Rows L2
/-- the view d.values() at p -/
def valsO (p d : Addr) : HO := .ext fun h => h.IsValuesView p d
theorem valsO_ok {P : Program} {w : World} {H : Hp} {h : Heap} {p d : Addr} (e : h.get? p = some { cls := .type "dict_values", data := .fields #[.ref d] }) : ObjOk P w H h p (valsO p d) :=
  ⟨⟨_, e, rfl, rfl⟩, ⟨_, e⟩, fun h1 h2 x k => let ⟨o, ho, r⟩ := x; ⟨o, k o ho, r⟩⟩
/-- the values collected: the heap has grown -/
theorem collectV {P : Program} {w : World} {A : Around} {E : Value → Shared → Prop} {s : Shared} {T : String} {r d : Addr} {n : Nat} {Pi : Nat → Value → Prop} {OK : Heap → Prop} {R : List Value → Shared → Prop} (K : PySem.W.KdlSrc P w T r d n Pi OK) (hh : A.handled = none) (hok : OK s.heap) (hn : n ≤ sizeLine)
    (h : ∀ (h' : Heap) (tk : Nat) (acc : Array Value), (∀ b o, s.heap.get? b = some o → h'.get? b = some o) → s.heap.objs.size < h'.objs.size → PySem.ItemsOf Pi acc n → R acc.toList { s with heap := h', toks := tk }) :
    wpAny (model P w) A (collect (.ref r)) R E s := by
  have hlt := K.there _ hok
  let s1 : Shared := { s with heap := s.heap.push { cls := .type "list", data := .seq ([] : List Value).toArray } }
  have hS : s1.heap.get? s.heap.objs.size = some { cls := .type "list", data := .seq #[] } := Heap.get?_push_size _ rfl
  have grown := PySem.W.kdl_extend (A := A) (s := s1)
    (R := fun (q : Result) (s' : Shared) => ∃ (h' : Heap) (tk : Nat) (acc : Array Value) (c : Nat), q = .ok (.ret (.ref s.heap.objs.size)) ∧ s' = { s with heap := h', toks := tk } ∧
      (∀ b o, s.heap.get? b = some o → h'.get? b = some o) ∧ h'.get? s.heap.objs.size = some { cls := .type "list", dict := none, data := .seq acc c, slots := #[] } ∧ PySem.ItemsOf Pi acc n)
    K hh (K.keep _ _ hok fun b _ o e => Heap.get?_push_of_some _ e) s.heap.objs.size (Nat.ne_of_gt hlt.1) (Nat.ne_of_gt hlt.2) (.ref s.heap.objs.size) 0 hS
    (fun h' tk acc c hk hS' hacc => ⟨h', tk, acc, c, rfl, rfl, fun b o e => hk b o (Nat.ne_of_lt (Heap.lt_size e)) (Heap.get?_push_of_some _ e), hS', hacc⟩) hn
  have last : ∀ {q : Result} {s' : Shared}, (∃ (h' : Heap) (tk : Nat) (acc : Array Value) (c : Nat), q = .ok (.ret (.ref s.heap.objs.size)) ∧ s' = { s with heap := h', toks := tk } ∧
      (∀ b o, s.heap.get? b = some o → h'.get? b = some o) ∧ h'.get? s.heap.objs.size = some { cls := .type "list", dict := none, data := .seq acc c, slots := #[] } ∧ PySem.ItemsOf Pi acc n) → ∃ (h' : Heap) (tk : Nat) (acc : Array Value) (c : Nat), q = .ok (.ret (.ref s.heap.objs.size)) ∧ s' = { s with heap := h', toks := tk } ∧ h'.get? s.heap.objs.size = some { cls := .type "list", dict := none, data := .seq acc c, slots := #[] } ∧ R acc.toList s' := fun ⟨h', tk, acc, c, e, es, hk, hS', hacc⟩ =>
    ⟨h', tk, acc, c, e, es, hS', by rw [es]; exact h h' tk acc hk (Heap.lt_size hS') hacc⟩
  unfold collect
  refine wpAny_bind (wpAny_runValue (codeAny_builtin entry_proto_collect' ?_))
  rw [Around.under_plainId PySem.F.plain_proto_collect _]
  show wpAny _ A.in1 (newList [] >>= fun l => again (.builtin "list.__iadd__" ⟨[l, .ref r], []⟩)) _ _ s
  refine wpAny_bind (wpAny_newObj_type (wpAny_pure ⟨plainId_quiet PySem.F.plain_list_iadd _, codeAny_builtin entry_list_iadd' ?_⟩))
  rw [Around.under_plainId PySem.F.plain_list_iadd _]
  show wpAny _ A.in1 (Builtin.List.listExtendWith (.ref s.heap.objs.size) (.ref r) (.ref s.heap.objs.size)) _ _ _
  refine wpAny_mono grown (fun fin s' x => ?_) fun _ _ x => by obtain ⟨_, _, _, _, e', _⟩ := x; cases e'
  cases fin with
  | done f =>
    obtain ⟨h', tk, acc, c, e, rfl, hS', hr⟩ := last x
    cases e
    show wpAny _ A (load s.heap.objs.size >>= _) _ _ _
    exact wpAny_bind (wpAny_load hS' (wpAny_pure hr))
  | again c₁ =>
    refine ⟨x.1, codeAny_mono x.2 fun q s₂ y => ?_⟩
    obtain ⟨h', tk, acc, c, rfl, rfl, hS', hr⟩ := last y
    show wpAny _ A (load s.heap.objs.size >>= _) _ _ _
    exact wpAny_bind (wpAny_load hS' (wpAny_pure hr))
theorem kv_vals : ∀ {kvs : List (Key × V)} {vs : List (Key × Value)}, KV kvs vs → Vals (kvs.map (·.2)) (vs.map (·.2))
  | _, _, .nil => .nil
  | _, _, .cons h t => .cons h.2 (kv_vals t)
section
variable {X : Cx} {e : Expr} {td : TE} {apos cpos : Pos}
theorem pe_vals (he : PE X e td) (hbase : attributeBase e "values" X.env (eval e X.env) = eval e X.env) (hline : (apos.endLine == cpos.line) = true) : PE X (.Call (.Attribute e "values" apos) [] [] cpos) (fun σ H Q => td σ H fun x H1 => ∃ d kvs, x = .ref d ∧ H1 d = some (.dK kvs) ∧ ∀ p, H1 p = none → Q (.ref p) (upd H1 p (valsO p d))) := by
  refine ⟨fun pins s σ H Q I h => ?_⟩
  refine wpAny_Call_method (T := "dict") (id := "dict.values") hbase rfl hline F.plainAttrs_dict F.slot_dict_values F.type_dict_values (thn (he.run pins s σ H _ I h) fun u s1 ⟨x, H1, I1, rx, d, kvs, ex, hd, q⟩ => ?_)
  subst ex
  obtain rfl : u = Value.ref d := rx
  obtain ⟨hl, hs, vs, kv, hm⟩ := I1.hok d _ hd
  refine ⟨hm.typeIs, hm.mapOf.noDict, ?_⟩
  have fin : EP X pins σ Q (.ref s1.heap.objs.size) { s1 with heap := s1.heap.push { cls := .type "dict_values", data := .fields #[.ref d] } } :=
    ⟨.ref s1.heap.objs.size, upd H1 s1.heap.objs.size (valsO s1.heap.objs.size d), I1.laid (t' := s1.toks) (fun b u e => Heap.get?_push_of_some _ e) (Nat.le_refl _) (valsO_ok (Heap.get?_push_size _ rfl)), rfl, q _ (I1.hok.fresh (Nat.le_refl _))⟩
  show wpAny _ _ (callWith cpos (.builtin "dict.values") [.ref d] [] []) _ X.xe s1
  exact method_meetsIn F.slot_dict_values F.entry_dict_values rfl (PySem.evalArgs_none ⟨rfl, hm.typeIs, F.args_dict_values_1 _, _, meets_dict_values (mixKind X.prog X.w) d hs, ⟨vs, hm⟩, fin⟩)
theorem cr_sortedVals (hc : X.calm = true) : CallRK X (.builtin "sorted") [Str.ofString "reverse"] (fun xs zs H Q => ∃ (p d : Addr) (kvs : List (Key × V)) (ns : List Int), xs = [V.ref p] ∧ zs = [.bl true] ∧ H p = some (valsO p d) ∧ H d = some (.dK kvs) ∧ kvs.map (·.2) = ns.map V.int ∧
    ∀ (ns' : List Int) (q : Addr), ns'.Perm ns → ns'.Pairwise (· ≥ ·) → H q = none → Q (.ref q) (upd H q (.lst (ns'.map V.int)))) := by
  intro pins s σ H xs zs us ws Q I r rz h
  obtain ⟨p, d, kvs, ns, rfl, rfl, hp, hd, hn, q⟩ := h
  obtain rfl := Vals.ref1 r
  obtain ⟨w1, rfl, e1⟩ := vals1 rz
  obtain rfl : w1 = Value.bool true := e1
  have view : s.heap.IsValuesView p d := (show ObjOk X.prog X.w H s.heap p (valsO p d) from I.hok p _ hp).1
  obtain ⟨hl, hs, vs, kv, hm⟩ := I.hok d _ hd
  have l2 : kvs.length = vs.length := Paired.length kv
  obtain ⟨ep, hat⟩ : ∃ ep, s.heap.DictAt (mixKind X.prog X.w) d vs ep := by
    obtain ⟨o', es, ep, ho, hx, hdt, r⟩ := hm
    exact ⟨ep, o', es, ho, hx, hdt, r⟩
  show wpAny _ _ (call (.builtin "sorted") [.ref p] [(Str.ofString "reverse", .bool true)]) _ _ _
  refine PyProof.Rows.call_function_entry_kw kind_sorted plain_sorted entry_sorted (args_sorted_rev _ _) ?_
  unfold Builtin.«sorted»
  refine wpAny_bind (m := checkCount "sorted" 1 1 _) (wpAny_pure ?_)
  refine wpAny_bind (collectV (A := X.A.in1) (PySem.W.kdl_values (knd := mixKind X.prog X.w) (kvs := vs) (ep := ep)) (I.ok.hd hc) ⟨view, hat⟩ (by rw [← l2]; exact hl) fun h' tk acc hk hgr hacc => ?_)
  have hal : acc.toList.length = vs.length := by rw [Array.length_toList]; exact hacc.1
  have hz : acc.toList.length ≤ sizeLine := by rw [hal, ← l2]; exact hl
  have ea : acc.toList = vs.map (·.2) := by
    refine List.ext_getElem? fun j => ?_
    rw [Array.getElem?_toList, List.getElem?_map]
    cases hj : acc[j]? with
    | none =>
      have h1 := Array.getElem?_eq_none_iff.mp hj
      rw [List.getElem?_eq_none (by rw [← hacc.1]; exact h1)]; rfl
    | some v =>
      obtain ⟨k, hk'⟩ := hacc.2 j v hj
      rw [hk']; rfl
  have hV : Vals (ns.map V.int) acc.toList := by rw [ea, ← hn]; exact kv_vals kv
  have hI : IntsAre acc.toList ns := intsAre_of hV
  refine wpAny_bind (wpAny_newList ?_ hz)
  have hoL : (h'.push (seqObj "list" acc.toList.toArray 0)).get? h'.objs.size = some (seqObj "list" acc.toList.toArray 0) := Heap.get?_push_size _ rfl
  refine wpAny_bind (wpAny_holding (wpAny_call_entry_kw slot_list_sort ⟨_, hoL, rfl⟩ entry_list_sort (SrtR.list_sort_ordR (b := true) SrtO.swo_int hoL hz (fun h2 => SrtO.ints_sortable hI h2) fun out h1 h2 => ⟨_, rfl, ?_⟩) (args_list_sort_rev _ _)))
  obtain ⟨ns', k1, k2, k3⟩ := SrtR.ints_outR (b := true) hI h1 h2
  obtain ⟨c, hcc⟩ := sortedHeap_at (vs := acc.toList) (out := if true = true then out.toArray.reverse else out.toArray) hoL
  have hlen : (ns'.map V.int).length ≤ sizeLine := by
    rw [List.length_map, k2.length_eq]
    have := hV.length
    rw [List.length_map] at this
    omega
  have hle : s.heap.objs.size ≤ h'.objs.size := Nat.le_of_lt hgr
  have e0 : ((if true = true then out.toArray.reverse else out.toArray).toList).toArray = (if true = true then out.toArray.reverse else out.toArray) := by rw [Array.toArray_toList]
  refine wpAny_pure ⟨_, rfl, .ref h'.objs.size, upd H h'.objs.size (.lst (ns'.map V.int)), I.laid (t' := tk) (fun b u e => ?_) hle ⟨hlen, _, c, vals_of_ints k1, by rw [e0]; exact hcc⟩, rfl, q _ _ k2 k3 (I.hok.fresh hle)⟩
  have q := hk b u e
  have hlt := Heap.lt_size q
  show (sortedHeap (h'.push (seqObj "list" acc.toList.toArray 0)) h'.objs.size acc.toList _).get? b = some u
  rw [sortedHeap_old (Nat.ne_of_lt hlt) (by rw [size_push']; exact Nat.lt_succ_of_lt hlt)]
  exact Heap.get?_push_of_some _ q
end
theorem RKs.ints {K : PySem.W.Frag} {M : Mp} {U : Hp} : ∀ {kvs : List (Key × D)} {us : List (Key × V)} {ns : List Int}, intsOf (kvs.map fun p => p.2) = some ns → RKs K M U kvs us → us.map (·.2) = ns.map V.int
  | [], us, ns, h, e => by
    simp only [RKs] at e
    simp only [List.map_nil, intsOf] at h
    cases h
    simp [e]
  | (k, d) :: ds, us, ns, h, e => by
    simp only [RKs] at e
    obtain ⟨v, r, rfl, h1, h2⟩ := e
    cases d <;> simp only [List.map_cons, intsOf] at h <;> try cases h
    rename_i i
    simp only [RV] at h1
    subst h1
    cases z : intsOf (ds.map fun p => p.2) with
    | none => rw [z] at h; cases h
    | some ms =>
      rw [z] at h
      cases h
      have := RKs.ints z h2
      simp only [List.map_cons, this]
section
variable {X : Cx} {xk : XD} {W : WX} {G : Gc} {C : Ct} {Γ : String → SpD} {k : Nat} {e v : Expr} {wa : St → Mp → DK → Prop} {pos q : Pos}
theorem r_srtv (g : GX X G C Γ k W) (m : Bool) {f : Expr} {ap cp kp : Pos} (hf : nameB C G "sorted" f = true) (hb : plainTo e = true) (hl : (ap.endLine == cp.line) = true) (ha : PE X e (LE X xk W wa)) (hv : PE X v (LE X xk W fun _ M Q => Q (.bl true) M)) :
    PE X (.Call f [.Call (.Attribute e "values" ap) [] [] cp] [⟨some (Str.ofString "reverse"), v, kp⟩] pos) (LE X xk W fun δ M Q => wa δ M fun x M1 => srtvD m x M1 Q) := by
  obtain ⟨p1, rfl, q1, q2, q3, q4⟩ := nameB_of g hf
  refine pe_imp (pe_callBK (cr_sortedVals g.calm) q1 q2 rfl (pa_cons (pe_vals ha (base_of hb) hl) pa_nil) (pk_cons hv pk_nil)) fun σ H Q hx => ?_
  obtain ⟨δ, M, U, R, r, xo, hx, out⟩ := hx
  refine ⟨δ, M, U, _, r, xo, hx, fun d M1 v U1 H1 e k rm rv hR => ?_⟩
  unfold srtvD onDW at hR
  split at hR
  · rename_i p
    split at hR
    · rename_i kvs hM
      split at hR
      · rename_i ns hns
        obtain ⟨us, hU, qk⟩ := rm p _ hM
        simp only [RV] at rv
        subst rv
        refine ⟨p, us, rfl, k.vw _ _ hU, fun b hb1 => ?_⟩
        have hUb := k.vw.none hb1
        have start : Go X.K M1 U1 H1 M1 U1 (upd H1 b (valsO b p)) := ⟨.refl, ⟨fun a o ha n => by
          rw [upd_ne (ne_of_none ha hb1)]
          exact ⟨ha, n⟩, fun a o ha => by
          rw [upd_ne (ne_of_none ha hUb)]
          exact k.vw _ _ ha⟩, rm⟩
        have g1 : Go X.K M U H M1 U1 (upd H1 b (valsO b p)) := (⟨e, k, rm⟩ : Go X.K M U H M1 U1 H1).trans start
        refine ⟨δ, M1, U1, (fun d M2 => d = .bl true ∧ M2 = M1), r.mono g1, xo.mono g1, ⟨rfl, rfl⟩, fun d2 M2 w U2 H2 e2 k2 rm2 rw2 hR2 => ?_⟩
        obtain ⟨rfl, rfl⟩ := hR2
        simp only [RV] at rw2
        subst rw2
        obtain ⟨us2, hU2, qk2⟩ := rm2 p _ hM
        have hb2 : H2 b = some (valsO b p) := (k2.1 b _ upd_same hUb).1
        refine ⟨b, p, us2, ns, rfl, rfl, hb2, k2.vw _ _ hU2, RKs.ints hns qk2, fun ns' q hp' ho hq => ?_⟩
        have es : ns' = (sortI ns).reverse := by
          have := sortI_of (ns' := ns'.reverse) ((List.reverse_perm _).trans hp') (by rw [List.pairwise_reverse]; exact ho)
          rw [← this, List.reverse_reverse]
        subst es
        have g2 : Go X.K M U H M2 U2 H2 := g1.trans ⟨e2, k2, rm2⟩
        exact (out.mono g2.ex g2.kp).lst g2.kp.vw g2.rm RVs.ints hR hq
      · exact hR.elim
    · exact hR.elim
  · exact hR.elim
end
end Pw
set_option Elab.async false
set_option linter.all false
set_option maxRecDepth 100000
set_option maxHeartbeats 2000000
namespace Pw
open PySem PySem.Spec PyProof.Rows L2

def rhoI : T → Rho
  | .ienum _ => RW
  | .izip _ => RW
  | .iitm _ => RW
  | _ => RV
section
variable {G : Gc} {Γ : String → SpD} {k : Nat}
theorem gx_blk {X : Cx} {C : Ct} {W : WX} (g : GX X G C Γ k W) (s : Shared) (H : Hp) (sc : Scope) (Ca : Addr) (cl : List (Str × Addr)) (fp : List Addr) :
    GX (X.blk s H sc (compEnvC sc cl Ca X.env) fp) G ⟨C.N, relS sc C.sc, fun x => sc.names.lookup x == some .cell⟩ Γ k W0 where
  room := g.room
  calm := g.calm
  sys := g.sys
  isi := g.isi
  N := g.N
  nd := g.nd
  sc := by show relS sc X.env.scope = _; rw [g.sc]
  fnB := fun x h => h
  free := g.free
  const := g.const
  fns := g.fns
  exc := fun c hc => by
    obtain ⟨A, bmB, B, ni, ii, F, q, gC, kC, rs⟩ := g.exc c hc
    exact ⟨A, bmB, B, ni, ii, F, q, gC, kC, rs⟩
  xis := g.xis
  gcl := g.gcl
  nve := g.nve
  ins := g.ins
  tk := fun u s' h => by
    obtain ⟨_, _, _, _, _, _, _, _, _, _, _, _, _, _, _, _, w⟩ := h
    exact w.elim
theorem and_l {a b : Bool} (h : (a && b) = true) : a = true := by simp only [Bool.and_eq_true] at h; exact h.1
theorem and_r {a b : Bool} (h : (a && b) = true) : b = true := by simp only [Bool.and_eq_true] at h; exact h.2
theorem tg_sub {S own : List Nat} (h : (S.all fun i => own.contains i) = true) : ∀ i ∈ S, i ∈ own := fun i hi => by
  have := List.all_eq_true.mp h i hi
  simpa using this
end
theorem rho_pick {G : Gc} {X : Cx} {C2 : Ct} {xk : XD} {W : WX} {S : List Nat} {wp : D → St → Mp → (St → Mp → Prop) → Prop} (it : T) {tg e : Expr} (hi : chI G it C2 tg e = true) (h1 : PG X tg (LG RV X xk W S wp)) (h2 : isTupE tg = true → PG X tg (LG RW X xk W S wp)) : PG X tg (LG (rhoI it) X xk W S wp) := by
  cases it with
  | ienum a =>
    simp only [chI] at hi
    split at hi
    · simp only [Bool.and_eq_true] at hi
      exact h2 hi.1.2
    · cases hi
  | izip a =>
    simp only [chI] at hi
    split at hi
    · simp only [Bool.and_eq_true] at hi
      exact h2 hi.1.2
    · cases hi
  | iitm a =>
    simp only [chI] at hi
    split at hi
    · simp only [Bool.and_eq_true] at hi
      exact h2 hi.2
    · cases hi
  | _ => exact h1
mutual
theorem sE {G : Gc} {Γ : String → SpD} {k : Nat} : ∀ (t : T) {X : Cx} {C : Ct} {xk : XD} {W : WX} (g : GX X G C Γ k W) (e : Expr), chE G t C e = true → PE X e (LE X xk W (wpE Γ xk t))
  | .var i, X, C, xk, W, g, e, h => by
    simp only [chE] at h
    split at h
    · simp only [Bool.and_eq_true, decide_eq_true_eq, Bool.not_eq_true'] at h
      exact r_var g h.1.1.1 h.1.1.2 h.1.2 h.2
    · cases h
  | .lit d, X, C, xk, W, g, e, h => r_lit g h
  | .bin m op a b, X, C, xk, W, g, e, h => by
    simp only [chE] at h
    split at h
    · simp only [Bool.and_eq_true] at h
      rw [binB_eq h.1.1]
      exact r_bin m op (sE a g _ h.1.2) (sE b g _ h.2)
    · cases h
  | .neg a, X, C, xk, W, g, e, h => by
    simp only [chE] at h
    split at h
    · exact r_neg (sE a g _ h)
    · cases h
  | .not a, X, C, xk, W, g, e, h => by
    simp only [chE] at h
    split at h
    · exact r_not (sE a g _ h)
    · cases h
  | .and a b, X, C, xk, W, g, e, h => by
    simp only [chE] at h
    split at h
    · simp only [Bool.and_eq_true] at h
      exact r_and (sE a g _ h.1) (pe_one (sE b g _ h.2))
    · simp only [Bool.and_eq_true] at h
      exact r_and (sE a g _ h.1) (sE b g _ h.2)
    · cases h
  | .or a b, X, C, xk, W, g, e, h => by
    simp only [chE] at h
    split at h
    · simp only [Bool.and_eq_true] at h
      exact r_or (sE a g _ h.1) (pe_one (sE b g _ h.2))
    · simp only [Bool.and_eq_true] at h
      exact r_or (sE a g _ h.1) (sE b g _ h.2)
    · cases h
  | .tst a, X, C, xk, W, g, e, h => by simp [chE] at h
  | .cmp op a b, X, C, xk, W, g, e, h => by
    simp only [chE] at h
    split at h
    · simp only [Bool.and_eq_true] at h
      rw [cmpB_eq h.1.1.1]
      exact r_cmp g op h.2 (sE a g _ h.1.1.2) (sE b g _ h.1.2)
    · cases h
  | .chain o1 o2 a b c, X, C, xk, W, g, e, h => by
    simp only [chE] at h
    split at h
    · simp only [Bool.and_eq_true] at h
      rw [cmpB_eq h.1.1.1.1.1, cmpB_eq h.1.1.1.1.2]
      exact r_chain g o1 o2 h.2 (sE a g _ h.1.1.1.2) (sE b g _ h.1.1.2) (sE c g _ h.1.2)
    · cases h
  | .ite c a b, X, C, xk, W, g, e, h => by
    simp only [chE] at h
    split at h
    · simp only [Bool.and_eq_true] at h
      exact r_ite (sT c g _ h.1.1) (sE a g _ h.1.2) (sE b g _ h.2)
    · cases h
  | .tup es, X, C, xk, W, g, e, h => by
    simp only [chE] at h
    split at h
    · simp only [Bool.and_eq_true, decide_eq_true_eq] at h
      exact r_tup h.2 (sL es g _ h.1).1
    · cases h
  | .tups es, X, C, xk, W, g, e, h => by
    simp only [chE] at h
    split at h
    · exact r_tups (sX es g _ h)
    · cases h
  | .lst m es, X, C, xk, W, g, e, h => by
    simp only [chE] at h
    split at h
    · simp only [Bool.and_eq_true, decide_eq_true_eq] at h
      exact r_lst m h.2 (sL es g _ h.1).1
    · cases h
  | .dct m, X, C, xk, W, g, e, h => by
    simp only [chE] at h
    split at h
    · exact r_dct m
    · cases h
  | .dctT, X, C, xk, W, g, e, h => by
    simp only [chE] at h
    split at h
    · exact r_dctT
    · cases h
  | .call f es dfl, X, C, xk, W, g, e, h => by
    simp only [chE] at h
    split at h
    · rename_i x p xs pos
      simp only [Bool.and_eq_true, decide_eq_true_eq] at h
      obtain ⟨⟨⟨h1, h2⟩, h3⟩, h4⟩ := h
      split at h4
      · rename_i I hI
        simp only [Bool.and_eq_true, decide_eq_true_eq] at h4
        have ed := eqFlats_eq h4.1.1.2
        have hat : I.at_ = none := by simpa using h4.2
        have hw : I.kwn = true → I.dfl ≠ [] := fun z e => by simp [z, e] at h4
        subst ed
        obtain ⟨l1, l2, l3⟩ := sL (xk := xk) (W := W) es g _ h3
        cases xs with
        | nil =>
          cases es with
          | nil => exact r_call0 g hI hat hw h1 h2
          | _ => simp only [chL] at h3; cases h3
        | cons y ys => exact r_call g hI hat hw h1 h2 l2 l1
      · cases h4
    · cases h
  | .callk f es y a, X, C, xk, W, g, e, h => by
    simp only [chE] at h
    split at h
    · rename_i x p xs z v q pos
      simp only [Bool.and_eq_true, decide_eq_true_eq] at h
      obtain ⟨⟨⟨⟨⟨h1, h2⟩, h3⟩, h4⟩, h5⟩, h6⟩ := h
      split at h6
      · rename_i I hI
        simp only [Bool.and_eq_true, decide_eq_true_eq] at h6
        obtain ⟨⟨⟨⟨k1, k2⟩, k3⟩, k4⟩, k5⟩ := h6
        have hat : I.at_ = none := by simpa using k5
        obtain ⟨l1, l2, l3⟩ := sL (xk := xk) (W := W) es g _ h4
        cases xs with
        | nil => simp at k4
        | cons w ws => exact r_callk g hI hat h1 h3 l2 (by rw [← l3]; exact k1) k2 k3 l1 (sE a g _ h5)
      · cases h6
    · cases h
  | .blt m f es, X, C, xk, W, g, e, h => by
    simp only [chE] at h
    split at h
    · simp only [Bool.and_eq_true] at h
      obtain ⟨l1, l2, l3⟩ := sL (xk := xk) (W := W) es g _ h.2
      have hn := h.1
      unfold nameB at hn
      split at hn
      · simp only [Bool.and_eq_true, decide_eq_true_eq] at hn
        exact r_blt g m f hn.1.1 hn.1.2 hn.2 l2 l1
      · cases hn
    · cases h
  | .isi a tys, X, C, xk, W, g, e, h => by
    simp only [chE] at h
    split at h
    · simp only [Bool.and_eq_true] at h
      exact r_isi g h.1.1.1 h.2 h.1.1.2 (sE a g _ h.1.2)
    · cases h
  | .conv m l a, X, C, xk, W, g, e, h => by
    simp only [chE] at h
    split at h
    · simp only [Bool.and_eq_true] at h
      cases l with
      | true => exact r_convL g m (by simpa using h.1.1) h.1.2 (sE a g _ h.2)
      | false => exact r_convT g m (by simpa using h.1.1) h.1.2 (sE a g _ h.2)
    · cases h
  | .convr m l es, X, C, xk, W, g, e, h => by
    simp only [chE] at h
    split at h
    · simp only [Bool.and_eq_true, Bool.or_eq_true, decide_eq_true_eq] at h
      obtain ⟨l1, l2, l3⟩ := sL (xk := xk) (W := W) es g _ h.1.2
      cases l with
      | true => exact r_convLR g m (by simpa using h.1.1.1) h.1.1.2 l2 h.2 l1
      | false => exact r_convTR g (by simpa using h.1.1.1) h.1.1.2 l2 h.2 l1
    · cases h
  | .convv a, X, C, xk, W, g, e, h => by
    simp only [chE] at h
    split at h
    · simp only [Bool.and_eq_true] at h
      exact r_convv g h.1.1.1 h.1.1.2 h.1.2 (sE a g _ h.2)
    · cases h
  | .meth m f o es, X, C, xk, W, g, e, h => by
    simp only [chE] at h
    split at h
    · rename_i x n ap xs cp
      simp only [Bool.and_eq_true, decide_eq_true_eq] at h
      obtain ⟨⟨⟨⟨⟨h1, h2⟩, h3⟩, h4⟩, h5⟩, h6⟩ := h
      subst h1
      obtain ⟨l1, l2, l3⟩ := sL (xk := xk) (W := W) es g _ h3
      cases xs with
      | nil =>
        cases es with
        | nil => exact r_meth0 g m f h4 h5 (sE o g _ h2)
        | _ => simp only [chL] at h3; cases h3
      | cons y ys => exact r_meth g m f h4 h5 l2 h6 l3 (sE o g _ h2) l1
    · cases h
  | .idx a i, X, C, xk, W, g, e, h => by
    simp only [chE] at h
    split at h
    · simp only [Bool.and_eq_true] at h
      exact r_idx g h.2 (sE a g _ h.1.1) (sE i g _ h.1.2)
    · cases h
  | .slc m a lo hi, X, C, xk, W, g, e, h => by
    simp only [chE] at h
    split at h
    · simp only [Bool.and_eq_true] at h
      exact r_slc m (sE a g _ h.1.1) (sO lo g _ h.1.2) (sO hi g _ h.2)
    · cases h
  | .revs m a, X, C, xk, W, g, e, h => by
    simp only [chE] at h
    split at h
    · exact r_revs m (sE a g _ h)
    · cases h
  | .comp m own elt t it ifs, X, C, xk, W, g, e, h => by
    simp only [chE] at h
    split at h
    · rename_i x tg iter cs sc p
      simp only [Bool.and_eq_true] at h
      obtain ⟨⟨⟨⟨⟨⟨h1, h2⟩, h3⟩, h4⟩, h5⟩, h6⟩, h7⟩ := h
      have pg : ∀ (s : Shared) (H : Hp) (Ca : Addr) (cl : List (Str × Addr)) (fp : List Addr), PG (X.blk s H sc (compEnvC sc cl Ca X.env) fp) tg (LG (rhoI it) X never W0 (tgSl t) (wpG Γ never t)) := fun s H Ca cl fp =>
        rho_pick it h1 (sG t (gx_blk g s H sc Ca cl fp) tg h5) (sGw t (gx_blk g s H sc Ca cl fp) tg h5)
      exact r_comp g h2 (tg_sub h3) h4 (sI it g _ _ h1) pg (fun s H Ca cl fp => sTs ifs (gx_blk g s H sc Ca cl fp) _ h6) (fun s H Ca cl fp => sE elt (gx_blk g s H sc Ca cl fp) _ h7)
    · cases h
  | .comp2 m own own2 elt t it ifs t2 it2 ifs2, X, C, xk, W, g, e, h => by
    simp only [chE] at h
    split at h
    · rename_i x tg iter cs tg2 iter2 cs2 sc p
      simp only [Bool.and_eq_true] at h
      obtain ⟨h1, h2, h3, h4, h5, h6, h7, h8, h9, h10, h11, h12, h13⟩ := h
      have pg : ∀ (s : Shared) (H : Hp) (Ca : Addr) (cl : List (Str × Addr)) (fp : List Addr), PG (X.blk s H sc (compEnvC sc cl Ca X.env) fp) tg (LG (rhoI it) X never W0 (tgSl t) (wpG Γ never t)) := fun s H Ca cl fp =>
        rho_pick it h1 (sG t (gx_blk g s H sc Ca cl fp) tg h8) (sGw t (gx_blk g s H sc Ca cl fp) tg h8)
      have pg2 : ∀ (s : Shared) (H : Hp) (Ca : Addr) (cl : List (Str × Addr)) (fp : List Addr), PG (X.blk s H sc (compEnvC sc cl Ca X.env) fp) tg2 (LG (rhoI it2) X never W0 (tgSl t2) (wpG Γ never t2)) := fun s H Ca cl fp =>
        rho_pick it2 h10 (sG t2 (gx_blk g s H sc Ca cl fp) tg2 h11) (sGw t2 (gx_blk g s H sc Ca cl fp) tg2 h11)
      exact r_comp2 g h2 (tg_sub h3) (tg_sub h4) (tg_sub h5) h6 h7 (sI it g _ _ h1) pg (fun s H Ca cl fp => sTs ifs (gx_blk g s H sc Ca cl fp) _ h9) (fun s H Ca cl fp => sI it2 (gx_blk g s H sc Ca cl fp) _ _ h10) pg2 (fun s H Ca cl fp => sTs ifs2 (gx_blk g s H sc Ca cl fp) _ h12) (fun s H Ca cl fp => sE elt (gx_blk g s H sc Ca cl fp) _ h13)
    · cases h
  | .dc1 m own kx vx t it ifs, X, C, xk, W, g, e, h => by
    simp only [chE] at h
    split at h
    · rename_i x y tg iter cs sc p
      simp only [Bool.and_eq_true] at h
      obtain ⟨h1, h2, h3, h4, hG1, h6, h7, h8⟩ := h
      have pg : ∀ (s : Shared) (H : Hp) (Ca : Addr) (cl : List (Str × Addr)) (fp : List Addr), PG (X.blk s H sc (compEnvC sc cl Ca X.env) fp) tg (LG (rhoI it) X never W0 (tgSl t) (wpG Γ never t)) := fun s H Ca cl fp =>
        rho_pick it h1 (sG t (gx_blk g s H sc Ca cl fp) tg hG1) (sGw t (gx_blk g s H sc Ca cl fp) tg hG1)
      exact r_dc1 g h2 (tg_sub h3) h4 (sI it g _ _ h1) pg (fun s H Ca cl fp => sTs ifs (gx_blk g s H sc Ca cl fp) _ h6) (fun s H Ca cl fp => sE kx (gx_blk g s H sc Ca cl fp) _ h7) (fun s H Ca cl fp => sE vx (gx_blk g s H sc Ca cl fp) _ h8)
    · cases h
  | .dc2 m own own2 kx vx t it ifs t2 it2 ifs2, X, C, xk, W, g, e, h => by
    simp only [chE] at h
    split at h
    · rename_i x y tg iter cs tg2 iter2 cs2 sc p
      simp only [Bool.and_eq_true] at h
      obtain ⟨h1, h2, h3, h4, h5, h6, h7, hG1, h9, hI2, hG2, h12, h13, h14⟩ := h
      have pg : ∀ (s : Shared) (H : Hp) (Ca : Addr) (cl : List (Str × Addr)) (fp : List Addr), PG (X.blk s H sc (compEnvC sc cl Ca X.env) fp) tg (LG (rhoI it) X never W0 (tgSl t) (wpG Γ never t)) := fun s H Ca cl fp =>
        rho_pick it h1 (sG t (gx_blk g s H sc Ca cl fp) tg hG1) (sGw t (gx_blk g s H sc Ca cl fp) tg hG1)
      have pg2 : ∀ (s : Shared) (H : Hp) (Ca : Addr) (cl : List (Str × Addr)) (fp : List Addr), PG (X.blk s H sc (compEnvC sc cl Ca X.env) fp) tg2 (LG (rhoI it2) X never W0 (tgSl t2) (wpG Γ never t2)) := fun s H Ca cl fp =>
        rho_pick it2 hI2 (sG t2 (gx_blk g s H sc Ca cl fp) tg2 hG2) (sGw t2 (gx_blk g s H sc Ca cl fp) tg2 hG2)
      exact r_dc2 g h2 (tg_sub h3) (tg_sub h4) (tg_sub h5) h6 h7 (sI it g _ _ h1) pg (fun s H Ca cl fp => sTs ifs (gx_blk g s H sc Ca cl fp) _ h9) (fun s H Ca cl fp => sI it2 (gx_blk g s H sc Ca cl fp) _ _ hI2) pg2 (fun s H Ca cl fp => sTs ifs2 (gx_blk g s H sc Ca cl fp) _ h12) (fun s H Ca cl fp => sE kx (gx_blk g s H sc Ca cl fp) _ h13) (fun s H Ca cl fp => sE vx (gx_blk g s H sc Ca cl fp) _ h14)
    · cases h
  | .isx xs a cs, X, C, xk, W, g, e, h => by
    simp only [chE] at h
    split at h
    · simp only [Bool.and_eq_true] at h
      obtain ⟨h1, h2, h3, h4, h5, h6⟩ := h
      exact r_isx g g.nve (by simpa using h5) h6 h1 h4 h2 (sE a g _ h3)
    · cases h
  | .frz a, X, C, xk, W, g, e, h => by
    simp only [chE] at h
    exact r_frz (sE a g _ h)
  | .srtv m a, X, C, xk, W, g, e, h => by
    simp only [chE] at h
    split at h
    · rename_i f x n ap cp r v kp pos
      simp only [Bool.and_eq_true, decide_eq_true_eq] at h
      obtain ⟨⟨⟨⟨⟨⟨h1, h2⟩, h3⟩, h4⟩, h5⟩, h6⟩, h7⟩ := h
      subst h2 h3
      exact r_srtv g m h1 h4 h5 (sE a g _ h6) (r_lit g h7)
    · cases h
  | .sset m a, X, C, xk, W, g, e, h => by
    simp only [chE] at h
    split at h
    · simp only [Bool.and_eq_true] at h
      exact r_sset g m h.1.1.1 h.1.1.2 h.1.2 (sE a g _ h.2)
    · cases h
  | .ldct a, X, C, xk, W, g, e, h => by
    simp only [chE] at h
    split at h
    · simp only [Bool.and_eq_true] at h
      exact r_ldct g h.1.1.1 h.1.1.2 h.1.2 (sE a g _ h.2)
    · cases h
  | .lset a, X, C, xk, W, g, e, h => by
    simp only [chE] at h
    split at h
    · simp only [Bool.and_eq_true] at h
      exact r_lset g h.1.1.1 h.1.1.2 h.1.2 (sE a g _ h.2)
    · cases h
  | .attr f o, X, C, xk, W, g, e, h => by
    simp only [chE] at h
    split at h
    · simp only [Bool.and_eq_true, decide_eq_true_eq] at h
      obtain ⟨rfl, h2, h3⟩ := h
      exact r_attr _ h2 (sE o g _ h3)
    · cases h
  | .mcall key c m o es, X, C, xk, W, g, e, h => by
    simp only [chE] at h
    split at h
    · rename_i x n ap xs cp
      simp only [Bool.and_eq_true, decide_eq_true_eq] at h
      obtain ⟨rfl, h2, ⟨⟨h3, h4⟩, h5⟩, h6, h7⟩ := h
      split at h7
      · rename_i I hI
        simp only [Bool.and_eq_true, decide_eq_true_eq] at h7
        obtain ⟨k1, k2, k3, k4⟩ := h7
        obtain ⟨l1, l2, l3⟩ := sL (xk := xk) (W := W) es g _ h6
        have hd : I.dfl = [] := by simpa using k3
        have hk : I.kwn = false := by simpa using k4
        cases xs with
        | nil =>
          cases es with
          | nil => exact r_mcall0 g hI k1 hd hk h2 h3 (sE o g _ h5)
          | _ => simp only [chL] at h6; cases h6
        | cons y ys => exact r_mcall g hI k1 hd hk h2 h3 l2 l3 h4 (sE o g _ h5) l1
      · cases h7
    · cases h
  | .make key c es, X, C, xk, W, g, e, h => by
    simp only [chE] at h
    split at h
    · rename_i x p xs cp
      simp only [Bool.and_eq_true, decide_eq_true_eq] at h
      obtain ⟨rfl, h2, h3, h4, h5⟩ := h
      obtain ⟨fs, hfs⟩ := Option.isSome_iff_exists.mp h4
      split at h5
      · rename_i I hI
        simp only [Bool.and_eq_true, decide_eq_true_eq] at h5
        obtain ⟨k1, k2, k3, k4⟩ := h5
        obtain ⟨l1, l2, l3⟩ := sL (xk := xk) (W := W) es g _ h3
        have hd : I.dfl = [] := by simpa using k3
        have hk : I.kwn = false := by simpa using k4
        cases xs with
        | nil =>
          cases es with
          | nil => exact r_make0 g hI k1 hd hk hfs h2
          | _ => simp only [chL] at h3; cases h3
        | cons y ys => exact r_make g hI k1 hd hk hfs h2 l2 l1
      · cases h5
    · cases h
  | .nil, _, _, _, _, _, _, h
  | .cons .., _, _, _, _, _, _, h
  | .star .., _, _, _, _, _, _, h
  | .ival .., _, _, _, _, _, _, h
  | .irng .., _, _, _, _, _, _, h
  | .ienum .., _, _, _, _, _, _, h
  | .izip .., _, _, _, _, _, _, h
  | .irev .., _, _, _, _, _, _, h
  | .itk .., _, _, _, _, _, _, h
  | .iitm .., _, _, _, _, _, _, h
  | .ivls .., _, _, _, _, _, _, h
  | .gname .., _, _, _, _, _, _, h
  | .gtup .., _, _, _, _, _, _, h
  | .gsub .., _, _, _, _, _, _, h
  | .asg .., _, _, _, _, _, _, h
  | .par .., _, _, _, _, _, _, h
  | .aug .., _, _, _, _, _, _, h
  | .augs .., _, _, _, _, _, _, h
  | .doc, _, _, _, _, _, _, h
  | .expr .., _, _, _, _, _, _, h
  | .ret .., _, _, _, _, _, _, h
  | .retn, _, _, _, _, _, _, h
  | .ifs .., _, _, _, _, _, _, h
  | .for_ .., _, _, _, _, _, _, h
  | .while_ .., _, _, _, _, _, _, h
  | .pass, _, _, _, _, _, _, h
  | .brk, _, _, _, _, _, _, h
  | .cont, _, _, _, _, _, _, h
  | .raise .., _, _, _, _, _, _, h
  | .tryx .., _, _, _, _, _, _, h
  | .sattr .., _, _, _, _, _, _, h => by simp [chE] at h
theorem sT {G : Gc} {Γ : String → SpD} {k : Nat} : ∀ (t : T) {X : Cx} {C : Ct} {xk : XD} {W : WX} (g : GX X G C Γ k W) (e : Expr), chT G t C e = true → PT X e (LT X xk W (wpT Γ xk t))
  | .not a, X, C, xk, W, g, e, h => by
    simp only [chT] at h
    split at h
    · exact q_not (sT a g _ h)
    · cases h
  | .and a b, X, C, xk, W, g, e, h => by
    simp only [chT] at h
    split at h
    · simp only [Bool.and_eq_true] at h
      exact q_and (sT a g _ h.1) (pw_and1 (sT b g _ h.2))
    · simp only [Bool.and_eq_true] at h
      exact q_and (sT a g _ h.1) (bool_pw (sT b g _ h.2))
    · cases h
  | .or a b, X, C, xk, W, g, e, h => by
    simp only [chT] at h
    split at h
    · simp only [Bool.and_eq_true] at h
      exact q_or (sT a g _ h.1) (pw_or1 (sT b g _ h.2))
    · simp only [Bool.and_eq_true] at h
      exact q_or (sT a g _ h.1) (bool_pw (sT b g _ h.2))
    · cases h
  | .cmp op a b, X, C, xk, W, g, e, h => by
    simp only [chT] at h
    split at h
    · simp only [Bool.and_eq_true] at h
      rw [cmpB_eq h.1.1.1]
      exact q_cmp g op h.2 (sE a g _ h.1.1.2) (sE b g _ h.1.2)
    · cases h
  | .chain o1 o2 a b c, X, C, xk, W, g, e, h => by
    simp only [chT] at h
    split at h
    · simp only [Bool.and_eq_true] at h
      rw [cmpB_eq h.1.1.1.1.1, cmpB_eq h.1.1.1.1.2]
      exact q_chain g o1 o2 h.2 (sE a g _ h.1.1.1.2) (sE b g _ h.1.1.2) (sE c g _ h.1.2)
    · cases h
  | .tst a, X, C, xk, W, g, e, h => by
    simp only [chT, Bool.and_eq_true] at h
    exact q_tst h.1 (sE a g _ h.2)
  | .nil, _, _, _, _, _, _, h
  | .cons .., _, _, _, _, _, _, h
  | .var .., _, _, _, _, _, _, h
  | .lit .., _, _, _, _, _, _, h
  | .bin .., _, _, _, _, _, _, h
  | .neg .., _, _, _, _, _, _, h
  | .ite .., _, _, _, _, _, _, h
  | .tup .., _, _, _, _, _, _, h
  | .lst .., _, _, _, _, _, _, h
  | .dct .., _, _, _, _, _, _, h
  | .dctT, _, _, _, _, _, _, h
  | .call .., _, _, _, _, _, _, h
  | .callk .., _, _, _, _, _, _, h
  | .blt .., _, _, _, _, _, _, h
  | .isi .., _, _, _, _, _, _, h
  | .conv .., _, _, _, _, _, _, h
  | .convr .., _, _, _, _, _, _, h
  | .convv .., _, _, _, _, _, _, h
  | .meth .., _, _, _, _, _, _, h
  | .idx .., _, _, _, _, _, _, h
  | .slc .., _, _, _, _, _, _, h
  | .revs .., _, _, _, _, _, _, h
  | .sset .., _, _, _, _, _, _, h
  | .srtv .., _, _, _, _, _, _, h
  | .ldct .., _, _, _, _, _, _, h
  | .lset .., _, _, _, _, _, _, h
  | .attr .., _, _, _, _, _, _, h
  | .mcall .., _, _, _, _, _, _, h
  | .make .., _, _, _, _, _, _, h
  | .comp .., _, _, _, _, _, _, h
  | .comp2 .., _, _, _, _, _, _, h
  | .tups .., _, _, _, _, _, _, h
  | .star .., _, _, _, _, _, _, h
  | .dc1 .., _, _, _, _, _, _, h
  | .dc2 .., _, _, _, _, _, _, h
  | .isx .., _, _, _, _, _, _, h
  | .frz .., _, _, _, _, _, _, h
  | .ival .., _, _, _, _, _, _, h
  | .irng .., _, _, _, _, _, _, h
  | .ienum .., _, _, _, _, _, _, h
  | .izip .., _, _, _, _, _, _, h
  | .irev .., _, _, _, _, _, _, h
  | .itk .., _, _, _, _, _, _, h
  | .iitm .., _, _, _, _, _, _, h
  | .ivls .., _, _, _, _, _, _, h
  | .gname .., _, _, _, _, _, _, h
  | .gtup .., _, _, _, _, _, _, h
  | .gsub .., _, _, _, _, _, _, h
  | .asg .., _, _, _, _, _, _, h
  | .par .., _, _, _, _, _, _, h
  | .aug .., _, _, _, _, _, _, h
  | .augs .., _, _, _, _, _, _, h
  | .doc, _, _, _, _, _, _, h
  | .expr .., _, _, _, _, _, _, h
  | .ret .., _, _, _, _, _, _, h
  | .retn, _, _, _, _, _, _, h
  | .ifs .., _, _, _, _, _, _, h
  | .for_ .., _, _, _, _, _, _, h
  | .while_ .., _, _, _, _, _, _, h
  | .pass, _, _, _, _, _, _, h
  | .brk, _, _, _, _, _, _, h
  | .cont, _, _, _, _, _, _, h
  | .raise .., _, _, _, _, _, _, h
  | .tryx .., _, _, _, _, _, _, h
  | .sattr .., _, _, _, _, _, _, h => by simp [chT] at h
theorem sTs {G : Gc} {Γ : String → SpD} {k : Nat} : ∀ (t : T) {X : Cx} {C : Ct} {xk : XD} {W : WX} (g : GX X G C Γ k W) (es : List Expr), chTs G t C es = true → PTs X es (LT X xk W (wpTs Γ xk t))
  | .nil, X, C, xk, W, g, es, h => by
    simp only [chTs] at h
    split at h
    · exact q_nilTs
    · cases h
  | .cons a r, X, C, xk, W, g, es, h => by
    simp only [chTs] at h
    split at h
    · exact pts_one (sT a g _ h)
    · cases h
  | .var .., _, _, _, _, _, _, h
  | .lit .., _, _, _, _, _, _, h
  | .bin .., _, _, _, _, _, _, h
  | .neg .., _, _, _, _, _, _, h
  | .not .., _, _, _, _, _, _, h
  | .and .., _, _, _, _, _, _, h
  | .or .., _, _, _, _, _, _, h
  | .tst .., _, _, _, _, _, _, h
  | .cmp .., _, _, _, _, _, _, h
  | .chain .., _, _, _, _, _, _, h
  | .ite .., _, _, _, _, _, _, h
  | .tup .., _, _, _, _, _, _, h
  | .lst .., _, _, _, _, _, _, h
  | .dct .., _, _, _, _, _, _, h
  | .dctT, _, _, _, _, _, _, h
  | .call .., _, _, _, _, _, _, h
  | .callk .., _, _, _, _, _, _, h
  | .blt .., _, _, _, _, _, _, h
  | .isi .., _, _, _, _, _, _, h
  | .conv .., _, _, _, _, _, _, h
  | .convr .., _, _, _, _, _, _, h
  | .convv .., _, _, _, _, _, _, h
  | .meth .., _, _, _, _, _, _, h
  | .idx .., _, _, _, _, _, _, h
  | .slc .., _, _, _, _, _, _, h
  | .revs .., _, _, _, _, _, _, h
  | .sset .., _, _, _, _, _, _, h
  | .srtv .., _, _, _, _, _, _, h
  | .ldct .., _, _, _, _, _, _, h
  | .lset .., _, _, _, _, _, _, h
  | .attr .., _, _, _, _, _, _, h
  | .mcall .., _, _, _, _, _, _, h
  | .make .., _, _, _, _, _, _, h
  | .comp .., _, _, _, _, _, _, h
  | .comp2 .., _, _, _, _, _, _, h
  | .tups .., _, _, _, _, _, _, h
  | .star .., _, _, _, _, _, _, h
  | .dc1 .., _, _, _, _, _, _, h
  | .dc2 .., _, _, _, _, _, _, h
  | .isx .., _, _, _, _, _, _, h
  | .frz .., _, _, _, _, _, _, h
  | .ival .., _, _, _, _, _, _, h
  | .irng .., _, _, _, _, _, _, h
  | .ienum .., _, _, _, _, _, _, h
  | .izip .., _, _, _, _, _, _, h
  | .irev .., _, _, _, _, _, _, h
  | .itk .., _, _, _, _, _, _, h
  | .iitm .., _, _, _, _, _, _, h
  | .ivls .., _, _, _, _, _, _, h
  | .gname .., _, _, _, _, _, _, h
  | .gtup .., _, _, _, _, _, _, h
  | .gsub .., _, _, _, _, _, _, h
  | .asg .., _, _, _, _, _, _, h
  | .par .., _, _, _, _, _, _, h
  | .aug .., _, _, _, _, _, _, h
  | .augs .., _, _, _, _, _, _, h
  | .doc, _, _, _, _, _, _, h
  | .expr .., _, _, _, _, _, _, h
  | .ret .., _, _, _, _, _, _, h
  | .retn, _, _, _, _, _, _, h
  | .ifs .., _, _, _, _, _, _, h
  | .for_ .., _, _, _, _, _, _, h
  | .while_ .., _, _, _, _, _, _, h
  | .pass, _, _, _, _, _, _, h
  | .brk, _, _, _, _, _, _, h
  | .cont, _, _, _, _, _, _, h
  | .raise .., _, _, _, _, _, _, h
  | .tryx .., _, _, _, _, _, _, h
  | .sattr .., _, _, _, _, _, _, h => by simp [chTs] at h
theorem sL {G : Gc} {Γ : String → SpD} {k : Nat} : ∀ (t : T) {X : Cx} {C : Ct} {xk : XD} {W : WX} (g : GX X G C Γ k W) (es : List Expr), chL G t C es = true → PA X es (LL X xk W (cntL t) (wpL Γ xk t)) ∧ allPlain es = true ∧ es.length = cntL t
  | .nil, X, C, xk, W, g, es, h => by
    simp only [chL] at h
    split at h
    · exact ⟨r_nil, rfl, rfl⟩
    · cases h
  | .cons a r, X, C, xk, W, g, es, h => by
    simp only [chL] at h
    split at h
    · simp only [Bool.and_eq_true] at h
      obtain ⟨l1, l2, l3⟩ := sL (xk := xk) (W := W) r g _ h.2
      exact ⟨r_cons h.1.2 (sE a g _ h.1.1) l1, by simp only [allPlain, h.1.2, l2, Bool.and_self], by simp [cntL, l3]⟩
    · cases h
  | .var .., _, _, _, _, _, _, h
  | .lit .., _, _, _, _, _, _, h
  | .bin .., _, _, _, _, _, _, h
  | .neg .., _, _, _, _, _, _, h
  | .not .., _, _, _, _, _, _, h
  | .and .., _, _, _, _, _, _, h
  | .or .., _, _, _, _, _, _, h
  | .tst .., _, _, _, _, _, _, h
  | .cmp .., _, _, _, _, _, _, h
  | .chain .., _, _, _, _, _, _, h
  | .ite .., _, _, _, _, _, _, h
  | .tup .., _, _, _, _, _, _, h
  | .lst .., _, _, _, _, _, _, h
  | .dct .., _, _, _, _, _, _, h
  | .dctT, _, _, _, _, _, _, h
  | .call .., _, _, _, _, _, _, h
  | .callk .., _, _, _, _, _, _, h
  | .blt .., _, _, _, _, _, _, h
  | .isi .., _, _, _, _, _, _, h
  | .conv .., _, _, _, _, _, _, h
  | .convr .., _, _, _, _, _, _, h
  | .convv .., _, _, _, _, _, _, h
  | .meth .., _, _, _, _, _, _, h
  | .idx .., _, _, _, _, _, _, h
  | .slc .., _, _, _, _, _, _, h
  | .revs .., _, _, _, _, _, _, h
  | .sset .., _, _, _, _, _, _, h
  | .srtv .., _, _, _, _, _, _, h
  | .ldct .., _, _, _, _, _, _, h
  | .lset .., _, _, _, _, _, _, h
  | .attr .., _, _, _, _, _, _, h
  | .mcall .., _, _, _, _, _, _, h
  | .make .., _, _, _, _, _, _, h
  | .comp .., _, _, _, _, _, _, h
  | .comp2 .., _, _, _, _, _, _, h
  | .tups .., _, _, _, _, _, _, h
  | .star .., _, _, _, _, _, _, h
  | .dc1 .., _, _, _, _, _, _, h
  | .dc2 .., _, _, _, _, _, _, h
  | .isx .., _, _, _, _, _, _, h
  | .frz .., _, _, _, _, _, _, h
  | .ival .., _, _, _, _, _, _, h
  | .irng .., _, _, _, _, _, _, h
  | .ienum .., _, _, _, _, _, _, h
  | .izip .., _, _, _, _, _, _, h
  | .irev .., _, _, _, _, _, _, h
  | .itk .., _, _, _, _, _, _, h
  | .iitm .., _, _, _, _, _, _, h
  | .ivls .., _, _, _, _, _, _, h
  | .gname .., _, _, _, _, _, _, h
  | .gtup .., _, _, _, _, _, _, h
  | .gsub .., _, _, _, _, _, _, h
  | .asg .., _, _, _, _, _, _, h
  | .par .., _, _, _, _, _, _, h
  | .aug .., _, _, _, _, _, _, h
  | .augs .., _, _, _, _, _, _, h
  | .doc, _, _, _, _, _, _, h
  | .expr .., _, _, _, _, _, _, h
  | .ret .., _, _, _, _, _, _, h
  | .retn, _, _, _, _, _, _, h
  | .ifs .., _, _, _, _, _, _, h
  | .for_ .., _, _, _, _, _, _, h
  | .while_ .., _, _, _, _, _, _, h
  | .pass, _, _, _, _, _, _, h
  | .brk, _, _, _, _, _, _, h
  | .cont, _, _, _, _, _, _, h
  | .raise .., _, _, _, _, _, _, h
  | .tryx .., _, _, _, _, _, _, h
  | .sattr .., _, _, _, _, _, _, h => by simp [chL] at h
theorem sX {G : Gc} {Γ : String → SpD} {k : Nat} : ∀ (t : T) {X : Cx} {C : Ct} {xk : XD} {W : WX} (g : GX X G C Γ k W) (es : List Expr), chX G t C es = true → PA X es (LXs X xk W (wpX Γ xk t))
  | .nil, X, C, xk, W, g, es, h => by
    simp only [chX] at h
    split at h
    · exact x_nil
    · cases h
  | .star a r, X, C, xk, W, g, es, h => by
    simp only [chX] at h
    split at h
    · simp only [Bool.and_eq_true] at h
      exact x_star (sE a g _ h.1) (sX r g _ h.2)
    · cases h
  | .cons a r, X, C, xk, W, g, es, h => by
    simp only [chX] at h
    split at h
    · simp only [Bool.and_eq_true] at h
      exact x_cons h.2.1 (sE a g _ h.1) (sX r g _ h.2.2)
    · cases h
  | .var .., _, _, _, _, _, _, h
  | .lit .., _, _, _, _, _, _, h
  | .bin .., _, _, _, _, _, _, h
  | .neg .., _, _, _, _, _, _, h
  | .not .., _, _, _, _, _, _, h
  | .and .., _, _, _, _, _, _, h
  | .or .., _, _, _, _, _, _, h
  | .tst .., _, _, _, _, _, _, h
  | .cmp .., _, _, _, _, _, _, h
  | .chain .., _, _, _, _, _, _, h
  | .ite .., _, _, _, _, _, _, h
  | .tup .., _, _, _, _, _, _, h
  | .lst .., _, _, _, _, _, _, h
  | .dct .., _, _, _, _, _, _, h
  | .dctT, _, _, _, _, _, _, h
  | .call .., _, _, _, _, _, _, h
  | .callk .., _, _, _, _, _, _, h
  | .blt .., _, _, _, _, _, _, h
  | .isi .., _, _, _, _, _, _, h
  | .conv .., _, _, _, _, _, _, h
  | .convr .., _, _, _, _, _, _, h
  | .convv .., _, _, _, _, _, _, h
  | .meth .., _, _, _, _, _, _, h
  | .idx .., _, _, _, _, _, _, h
  | .slc .., _, _, _, _, _, _, h
  | .revs .., _, _, _, _, _, _, h
  | .sset .., _, _, _, _, _, _, h
  | .srtv .., _, _, _, _, _, _, h
  | .ldct .., _, _, _, _, _, _, h
  | .lset .., _, _, _, _, _, _, h
  | .attr .., _, _, _, _, _, _, h
  | .mcall .., _, _, _, _, _, _, h
  | .make .., _, _, _, _, _, _, h
  | .comp .., _, _, _, _, _, _, h
  | .comp2 .., _, _, _, _, _, _, h
  | .tups .., _, _, _, _, _, _, h
  | .dc1 .., _, _, _, _, _, _, h
  | .dc2 .., _, _, _, _, _, _, h
  | .isx .., _, _, _, _, _, _, h
  | .frz .., _, _, _, _, _, _, h
  | .ival .., _, _, _, _, _, _, h
  | .irng .., _, _, _, _, _, _, h
  | .ienum .., _, _, _, _, _, _, h
  | .izip .., _, _, _, _, _, _, h
  | .irev .., _, _, _, _, _, _, h
  | .itk .., _, _, _, _, _, _, h
  | .iitm .., _, _, _, _, _, _, h
  | .ivls .., _, _, _, _, _, _, h
  | .gname .., _, _, _, _, _, _, h
  | .gtup .., _, _, _, _, _, _, h
  | .gsub .., _, _, _, _, _, _, h
  | .asg .., _, _, _, _, _, _, h
  | .par .., _, _, _, _, _, _, h
  | .aug .., _, _, _, _, _, _, h
  | .augs .., _, _, _, _, _, _, h
  | .doc, _, _, _, _, _, _, h
  | .expr .., _, _, _, _, _, _, h
  | .ret .., _, _, _, _, _, _, h
  | .retn, _, _, _, _, _, _, h
  | .ifs .., _, _, _, _, _, _, h
  | .for_ .., _, _, _, _, _, _, h
  | .while_ .., _, _, _, _, _, _, h
  | .pass, _, _, _, _, _, _, h
  | .brk, _, _, _, _, _, _, h
  | .cont, _, _, _, _, _, _, h
  | .raise .., _, _, _, _, _, _, h
  | .tryx .., _, _, _, _, _, _, h
  | .sattr .., _, _, _, _, _, _, h => by simp [chX] at h
theorem sO {G : Gc} {Γ : String → SpD} {k : Nat} : ∀ (t : T) {X : Cx} {C : Ct} {xk : XD} {W : WX} (g : GX X G C Γ k W) (e : Option Expr), chO G t C e = true → PO X e (LO X xk W (wpO Γ xk t))
  | .nil, X, C, xk, W, g, e, h => by
    simp only [chO] at h
    split at h
    · exact r_onone
    · cases h
  | .cons a r, X, C, xk, W, g, e, h => by
    simp only [chO] at h
    split at h
    · exact r_osome (sE a g _ h)
    · cases h
  | .var .., _, _, _, _, _, _, h
  | .lit .., _, _, _, _, _, _, h
  | .bin .., _, _, _, _, _, _, h
  | .neg .., _, _, _, _, _, _, h
  | .not .., _, _, _, _, _, _, h
  | .and .., _, _, _, _, _, _, h
  | .or .., _, _, _, _, _, _, h
  | .tst .., _, _, _, _, _, _, h
  | .cmp .., _, _, _, _, _, _, h
  | .chain .., _, _, _, _, _, _, h
  | .ite .., _, _, _, _, _, _, h
  | .tup .., _, _, _, _, _, _, h
  | .lst .., _, _, _, _, _, _, h
  | .dct .., _, _, _, _, _, _, h
  | .dctT, _, _, _, _, _, _, h
  | .call .., _, _, _, _, _, _, h
  | .callk .., _, _, _, _, _, _, h
  | .blt .., _, _, _, _, _, _, h
  | .isi .., _, _, _, _, _, _, h
  | .conv .., _, _, _, _, _, _, h
  | .convr .., _, _, _, _, _, _, h
  | .convv .., _, _, _, _, _, _, h
  | .meth .., _, _, _, _, _, _, h
  | .idx .., _, _, _, _, _, _, h
  | .slc .., _, _, _, _, _, _, h
  | .revs .., _, _, _, _, _, _, h
  | .sset .., _, _, _, _, _, _, h
  | .srtv .., _, _, _, _, _, _, h
  | .ldct .., _, _, _, _, _, _, h
  | .lset .., _, _, _, _, _, _, h
  | .attr .., _, _, _, _, _, _, h
  | .mcall .., _, _, _, _, _, _, h
  | .make .., _, _, _, _, _, _, h
  | .comp .., _, _, _, _, _, _, h
  | .comp2 .., _, _, _, _, _, _, h
  | .tups .., _, _, _, _, _, _, h
  | .star .., _, _, _, _, _, _, h
  | .dc1 .., _, _, _, _, _, _, h
  | .dc2 .., _, _, _, _, _, _, h
  | .isx .., _, _, _, _, _, _, h
  | .frz .., _, _, _, _, _, _, h
  | .ival .., _, _, _, _, _, _, h
  | .irng .., _, _, _, _, _, _, h
  | .ienum .., _, _, _, _, _, _, h
  | .izip .., _, _, _, _, _, _, h
  | .irev .., _, _, _, _, _, _, h
  | .itk .., _, _, _, _, _, _, h
  | .iitm .., _, _, _, _, _, _, h
  | .ivls .., _, _, _, _, _, _, h
  | .gname .., _, _, _, _, _, _, h
  | .gtup .., _, _, _, _, _, _, h
  | .gsub .., _, _, _, _, _, _, h
  | .asg .., _, _, _, _, _, _, h
  | .par .., _, _, _, _, _, _, h
  | .aug .., _, _, _, _, _, _, h
  | .augs .., _, _, _, _, _, _, h
  | .doc, _, _, _, _, _, _, h
  | .expr .., _, _, _, _, _, _, h
  | .ret .., _, _, _, _, _, _, h
  | .retn, _, _, _, _, _, _, h
  | .ifs .., _, _, _, _, _, _, h
  | .for_ .., _, _, _, _, _, _, h
  | .while_ .., _, _, _, _, _, _, h
  | .pass, _, _, _, _, _, _, h
  | .brk, _, _, _, _, _, _, h
  | .cont, _, _, _, _, _, _, h
  | .raise .., _, _, _, _, _, _, h
  | .tryx .., _, _, _, _, _, _, h
  | .sattr .., _, _, _, _, _, _, h => by simp [chO] at h
theorem sI {G : Gc} {Γ : String → SpD} {k : Nat} : ∀ (t : T) {X : Cx} {C : Ct} {xk : XD} {W : WX} (g : GX X G C Γ k W) (tg e : Expr), chI G t C tg e = true → PI X tg e (LI (rhoI t) X xk W (wpI Γ xk t))
  | .ival a, X, C, xk, W, g, tg, e, h => by
    simp only [chI] at h
    exact w_ival (sE a g _ h)
  | .irng es, X, C, xk, W, g, tg, e, h => by
    simp only [chI] at h
    split at h
    · simp only [Bool.and_eq_true, Bool.or_eq_true, decide_eq_true_eq] at h
      obtain ⟨l1, l2, l3⟩ := sL (xk := xk) (W := W) es g _ h.1.2
      exact w_irng g h.1.1 l2 l3 h.2 l1
    · cases h
  | .irev a, X, C, xk, W, g, tg, e, h => by
    simp only [chI] at h
    split at h
    · simp only [Bool.and_eq_true] at h
      exact w_irev g h.1.1 h.2 (sE a g _ h.1.2)
    · cases h
  | .ienum a, X, C, xk, W, g, tg, e, h => by
    simp only [chI] at h
    split at h
    · simp only [Bool.and_eq_true] at h
      exact w_ienum g h.1.1.1 h.1.2 h.2 (sE a g _ h.1.1.2)
    · cases h
  | .itk a, X, C, xk, W, g, tg, e, h => by
    simp only [chI] at h
    exact w_itk (sE a g _ h)
  | .iitm a, X, C, xk, W, g, tg, e, h => by
    simp only [chI] at h
    split at h
    · simp only [Bool.and_eq_true, decide_eq_true_eq] at h
      obtain ⟨⟨⟨⟨h1, h2⟩, h3⟩, h4⟩, h5⟩ := h
      subst h1
      exact w_iitm h3 h4 h5 (sE a g _ h2)
    · cases h
  | .ivls a, X, C, xk, W, g, tg, e, h => by
    simp only [chI] at h
    split at h
    · simp only [Bool.and_eq_true, decide_eq_true_eq] at h
      obtain ⟨⟨⟨h1, h2⟩, h3⟩, h4⟩ := h
      subst h1
      exact w_ivls h3 h4 (sE a g _ h2)
    · cases h
  | .izip es, X, C, xk, W, g, tg, e, h => by
    simp only [chI] at h
    split at h
    · simp only [Bool.and_eq_true, decide_eq_true_eq] at h
      obtain ⟨l1, l2, l3⟩ := sL (xk := xk) (W := W) es g _ h.1.1.2
      exact w_izip g h.1.1.1 h.1.2 l2 l3 h.2 l1
    · cases h
  | .nil, _, _, _, _, _, _, _, h
  | .cons .., _, _, _, _, _, _, _, h
  | .var .., _, _, _, _, _, _, _, h
  | .lit .., _, _, _, _, _, _, _, h
  | .bin .., _, _, _, _, _, _, _, h
  | .neg .., _, _, _, _, _, _, _, h
  | .not .., _, _, _, _, _, _, _, h
  | .and .., _, _, _, _, _, _, _, h
  | .or .., _, _, _, _, _, _, _, h
  | .tst .., _, _, _, _, _, _, _, h
  | .cmp .., _, _, _, _, _, _, _, h
  | .chain .., _, _, _, _, _, _, _, h
  | .ite .., _, _, _, _, _, _, _, h
  | .tup .., _, _, _, _, _, _, _, h
  | .lst .., _, _, _, _, _, _, _, h
  | .dct .., _, _, _, _, _, _, _, h
  | .dctT, _, _, _, _, _, _, _, h
  | .call .., _, _, _, _, _, _, _, h
  | .callk .., _, _, _, _, _, _, _, h
  | .blt .., _, _, _, _, _, _, _, h
  | .isi .., _, _, _, _, _, _, _, h
  | .conv .., _, _, _, _, _, _, _, h
  | .convr .., _, _, _, _, _, _, _, h
  | .convv .., _, _, _, _, _, _, _, h
  | .meth .., _, _, _, _, _, _, _, h
  | .idx .., _, _, _, _, _, _, _, h
  | .slc .., _, _, _, _, _, _, _, h
  | .revs .., _, _, _, _, _, _, _, h
  | .sset .., _, _, _, _, _, _, _, h
  | .srtv .., _, _, _, _, _, _, _, h
  | .ldct .., _, _, _, _, _, _, _, h
  | .lset .., _, _, _, _, _, _, _, h
  | .attr .., _, _, _, _, _, _, _, h
  | .mcall .., _, _, _, _, _, _, _, h
  | .make .., _, _, _, _, _, _, _, h
  | .comp .., _, _, _, _, _, _, _, h
  | .comp2 .., _, _, _, _, _, _, _, h
  | .tups .., _, _, _, _, _, _, _, h
  | .star .., _, _, _, _, _, _, _, h
  | .dc1 .., _, _, _, _, _, _, _, h
  | .dc2 .., _, _, _, _, _, _, _, h
  | .isx .., _, _, _, _, _, _, _, h
  | .frz .., _, _, _, _, _, _, _, h
  | .gname .., _, _, _, _, _, _, _, h
  | .gtup .., _, _, _, _, _, _, _, h
  | .gsub .., _, _, _, _, _, _, _, h
  | .asg .., _, _, _, _, _, _, _, h
  | .par .., _, _, _, _, _, _, _, h
  | .aug .., _, _, _, _, _, _, _, h
  | .augs .., _, _, _, _, _, _, _, h
  | .doc, _, _, _, _, _, _, _, h
  | .expr .., _, _, _, _, _, _, _, h
  | .ret .., _, _, _, _, _, _, _, h
  | .retn, _, _, _, _, _, _, _, h
  | .ifs .., _, _, _, _, _, _, _, h
  | .for_ .., _, _, _, _, _, _, _, h
  | .while_ .., _, _, _, _, _, _, _, h
  | .pass, _, _, _, _, _, _, _, h
  | .brk, _, _, _, _, _, _, _, h
  | .cont, _, _, _, _, _, _, _, h
  | .raise .., _, _, _, _, _, _, _, h
  | .tryx .., _, _, _, _, _, _, _, h
  | .sattr .., _, _, _, _, _, _, _, h => by simp [chI] at h
theorem sG {G : Gc} {Γ : String → SpD} {k : Nat} : ∀ (t : T) {X : Cx} {C : Ct} {xk : XD} {W : WX} (g : GX X G C Γ k W) (e : Expr), chG G t C e = true → PG X e (LG RV X xk W (tgSl t) (wpG Γ xk t))
  | .gname i, X, C, xk, W, g, e, h => by
    simp only [chG] at h
    split at h
    · simp only [Bool.and_eq_true, decide_eq_true_eq] at h
      exact t_name g h.1 h.2
    · cases h
  | .gtup gs, X, C, xk, W, g, e, h => by
    simp only [chG] at h
    split at h
    · obtain ⟨l1, l2, l3⟩ := sGs (xk := xk) (W := W) gs g _ h
      exact LG.of (t_tup g l2 l3 l1)
    · cases h
  | .gsub o i, X, C, xk, W, g, e, h => by
    simp only [chG] at h
    split at h
    · simp only [Bool.and_eq_true] at h
      exact t_sub g h.2 (sE o g _ h.1.1) (sE i g _ h.1.2)
    · cases h
  | .nil, _, _, _, _, _, _, h
  | .cons .., _, _, _, _, _, _, h
  | .var .., _, _, _, _, _, _, h
  | .lit .., _, _, _, _, _, _, h
  | .bin .., _, _, _, _, _, _, h
  | .neg .., _, _, _, _, _, _, h
  | .not .., _, _, _, _, _, _, h
  | .and .., _, _, _, _, _, _, h
  | .or .., _, _, _, _, _, _, h
  | .tst .., _, _, _, _, _, _, h
  | .cmp .., _, _, _, _, _, _, h
  | .chain .., _, _, _, _, _, _, h
  | .ite .., _, _, _, _, _, _, h
  | .tup .., _, _, _, _, _, _, h
  | .lst .., _, _, _, _, _, _, h
  | .dct .., _, _, _, _, _, _, h
  | .dctT, _, _, _, _, _, _, h
  | .call .., _, _, _, _, _, _, h
  | .callk .., _, _, _, _, _, _, h
  | .blt .., _, _, _, _, _, _, h
  | .isi .., _, _, _, _, _, _, h
  | .conv .., _, _, _, _, _, _, h
  | .convr .., _, _, _, _, _, _, h
  | .convv .., _, _, _, _, _, _, h
  | .meth .., _, _, _, _, _, _, h
  | .idx .., _, _, _, _, _, _, h
  | .slc .., _, _, _, _, _, _, h
  | .revs .., _, _, _, _, _, _, h
  | .sset .., _, _, _, _, _, _, h
  | .srtv .., _, _, _, _, _, _, h
  | .ldct .., _, _, _, _, _, _, h
  | .lset .., _, _, _, _, _, _, h
  | .attr .., _, _, _, _, _, _, h
  | .mcall .., _, _, _, _, _, _, h
  | .make .., _, _, _, _, _, _, h
  | .comp .., _, _, _, _, _, _, h
  | .comp2 .., _, _, _, _, _, _, h
  | .tups .., _, _, _, _, _, _, h
  | .star .., _, _, _, _, _, _, h
  | .dc1 .., _, _, _, _, _, _, h
  | .dc2 .., _, _, _, _, _, _, h
  | .isx .., _, _, _, _, _, _, h
  | .frz .., _, _, _, _, _, _, h
  | .ival .., _, _, _, _, _, _, h
  | .irng .., _, _, _, _, _, _, h
  | .ienum .., _, _, _, _, _, _, h
  | .izip .., _, _, _, _, _, _, h
  | .irev .., _, _, _, _, _, _, h
  | .itk .., _, _, _, _, _, _, h
  | .iitm .., _, _, _, _, _, _, h
  | .ivls .., _, _, _, _, _, _, h
  | .asg .., _, _, _, _, _, _, h
  | .par .., _, _, _, _, _, _, h
  | .aug .., _, _, _, _, _, _, h
  | .augs .., _, _, _, _, _, _, h
  | .doc, _, _, _, _, _, _, h
  | .expr .., _, _, _, _, _, _, h
  | .ret .., _, _, _, _, _, _, h
  | .retn, _, _, _, _, _, _, h
  | .ifs .., _, _, _, _, _, _, h
  | .for_ .., _, _, _, _, _, _, h
  | .while_ .., _, _, _, _, _, _, h
  | .pass, _, _, _, _, _, _, h
  | .brk, _, _, _, _, _, _, h
  | .cont, _, _, _, _, _, _, h
  | .raise .., _, _, _, _, _, _, h
  | .tryx .., _, _, _, _, _, _, h
  | .sattr .., _, _, _, _, _, _, h => by simp [chG] at h
theorem sGw {G : Gc} {Γ : String → SpD} {k : Nat} : ∀ (t : T) {X : Cx} {C : Ct} {xk : XD} {W : WX} (g : GX X G C Γ k W) (e : Expr), chG G t C e = true → isTupE e = true → PG X e (LG RW X xk W (tgSl t) (wpG Γ xk t))
  | .gname i, X, C, xk, W, g, e, h, hw => by
    simp only [chG] at h
    split at h
    · cases hw
    · cases h
  | .gtup gs, X, C, xk, W, g, e, h, hw => by
    simp only [chG] at h
    split at h
    · obtain ⟨l1, l2, l3⟩ := sGs (xk := xk) (W := W) gs g _ h
      exact t_tup g l2 l3 l1
    · cases h
  | .gsub o i, X, C, xk, W, g, e, h, hw => by
    simp only [chG] at h
    split at h
    · cases hw
    · cases h
  | .nil, _, _, _, _, _, _, h, _
  | .cons .., _, _, _, _, _, _, h, _
  | .var .., _, _, _, _, _, _, h, _
  | .lit .., _, _, _, _, _, _, h, _
  | .bin .., _, _, _, _, _, _, h, _
  | .neg .., _, _, _, _, _, _, h, _
  | .not .., _, _, _, _, _, _, h, _
  | .and .., _, _, _, _, _, _, h, _
  | .or .., _, _, _, _, _, _, h, _
  | .tst .., _, _, _, _, _, _, h, _
  | .cmp .., _, _, _, _, _, _, h, _
  | .chain .., _, _, _, _, _, _, h, _
  | .ite .., _, _, _, _, _, _, h, _
  | .tup .., _, _, _, _, _, _, h, _
  | .lst .., _, _, _, _, _, _, h, _
  | .dct .., _, _, _, _, _, _, h, _
  | .dctT, _, _, _, _, _, _, h, _
  | .call .., _, _, _, _, _, _, h, _
  | .callk .., _, _, _, _, _, _, h, _
  | .blt .., _, _, _, _, _, _, h, _
  | .isi .., _, _, _, _, _, _, h, _
  | .conv .., _, _, _, _, _, _, h, _
  | .convr .., _, _, _, _, _, _, h, _
  | .convv .., _, _, _, _, _, _, h, _
  | .meth .., _, _, _, _, _, _, h, _
  | .idx .., _, _, _, _, _, _, h, _
  | .slc .., _, _, _, _, _, _, h, _
  | .revs .., _, _, _, _, _, _, h, _
  | .sset .., _, _, _, _, _, _, h, _
  | .srtv .., _, _, _, _, _, _, h, _
  | .ldct .., _, _, _, _, _, _, h, _
  | .lset .., _, _, _, _, _, _, h, _
  | .attr .., _, _, _, _, _, _, h, _
  | .mcall .., _, _, _, _, _, _, h, _
  | .make .., _, _, _, _, _, _, h, _
  | .comp .., _, _, _, _, _, _, h, _
  | .comp2 .., _, _, _, _, _, _, h, _
  | .tups .., _, _, _, _, _, _, h, _
  | .star .., _, _, _, _, _, _, h, _
  | .dc1 .., _, _, _, _, _, _, h, _
  | .dc2 .., _, _, _, _, _, _, h, _
  | .isx .., _, _, _, _, _, _, h, _
  | .frz .., _, _, _, _, _, _, h, _
  | .ival .., _, _, _, _, _, _, h, _
  | .irng .., _, _, _, _, _, _, h, _
  | .ienum .., _, _, _, _, _, _, h, _
  | .izip .., _, _, _, _, _, _, h, _
  | .irev .., _, _, _, _, _, _, h, _
  | .itk .., _, _, _, _, _, _, h, _
  | .iitm .., _, _, _, _, _, _, h, _
  | .ivls .., _, _, _, _, _, _, h, _
  | .asg .., _, _, _, _, _, _, h, _
  | .par .., _, _, _, _, _, _, h, _
  | .aug .., _, _, _, _, _, _, h, _
  | .augs .., _, _, _, _, _, _, h, _
  | .doc, _, _, _, _, _, _, h, _
  | .expr .., _, _, _, _, _, _, h, _
  | .ret .., _, _, _, _, _, _, h, _
  | .retn, _, _, _, _, _, _, h, _
  | .ifs .., _, _, _, _, _, _, h, _
  | .for_ .., _, _, _, _, _, _, h, _
  | .while_ .., _, _, _, _, _, _, h, _
  | .pass, _, _, _, _, _, _, h, _
  | .brk, _, _, _, _, _, _, h, _
  | .cont, _, _, _, _, _, _, h, _
  | .raise .., _, _, _, _, _, _, h, _
  | .tryx .., _, _, _, _, _, _, h, _
  | .sattr .., _, _, _, _, _, _, h, _ => by simp [chG] at h
theorem sGs {G : Gc} {Γ : String → SpD} {k : Nat} : ∀ (t : T) {X : Cx} {C : Ct} {xk : XD} {W : WX} (g : GX X G C Γ k W) (es : List Expr), chGs G t C es = true → PGs X es (LGs X xk W (tgSl t) (wpGs Γ xk t)) ∧ allPlain es = true ∧ es.length = cntL t
  | .nil, X, C, xk, W, g, es, h => by
    simp only [chGs] at h
    split at h
    · exact ⟨t_nil, rfl, rfl⟩
    · cases h
  | .cons a r, X, C, xk, W, g, es, h => by
    simp only [chGs] at h
    split at h
    · simp only [Bool.and_eq_true] at h
      obtain ⟨l1, l2, l3⟩ := sGs (xk := xk) (W := W) r g _ h.2
      exact ⟨t_cons h.1.2 (sG a g _ h.1.1) l1, by simp only [allPlain, h.1.2, l2, Bool.and_self], by simp [cntL, l3]⟩
    · cases h
  | .var .., _, _, _, _, _, _, h
  | .lit .., _, _, _, _, _, _, h
  | .bin .., _, _, _, _, _, _, h
  | .neg .., _, _, _, _, _, _, h
  | .not .., _, _, _, _, _, _, h
  | .and .., _, _, _, _, _, _, h
  | .or .., _, _, _, _, _, _, h
  | .tst .., _, _, _, _, _, _, h
  | .cmp .., _, _, _, _, _, _, h
  | .chain .., _, _, _, _, _, _, h
  | .ite .., _, _, _, _, _, _, h
  | .tup .., _, _, _, _, _, _, h
  | .lst .., _, _, _, _, _, _, h
  | .dct .., _, _, _, _, _, _, h
  | .dctT, _, _, _, _, _, _, h
  | .call .., _, _, _, _, _, _, h
  | .callk .., _, _, _, _, _, _, h
  | .blt .., _, _, _, _, _, _, h
  | .isi .., _, _, _, _, _, _, h
  | .conv .., _, _, _, _, _, _, h
  | .convr .., _, _, _, _, _, _, h
  | .convv .., _, _, _, _, _, _, h
  | .meth .., _, _, _, _, _, _, h
  | .idx .., _, _, _, _, _, _, h
  | .slc .., _, _, _, _, _, _, h
  | .revs .., _, _, _, _, _, _, h
  | .sset .., _, _, _, _, _, _, h
  | .srtv .., _, _, _, _, _, _, h
  | .ldct .., _, _, _, _, _, _, h
  | .lset .., _, _, _, _, _, _, h
  | .attr .., _, _, _, _, _, _, h
  | .mcall .., _, _, _, _, _, _, h
  | .make .., _, _, _, _, _, _, h
  | .comp .., _, _, _, _, _, _, h
  | .comp2 .., _, _, _, _, _, _, h
  | .tups .., _, _, _, _, _, _, h
  | .star .., _, _, _, _, _, _, h
  | .dc1 .., _, _, _, _, _, _, h
  | .dc2 .., _, _, _, _, _, _, h
  | .isx .., _, _, _, _, _, _, h
  | .frz .., _, _, _, _, _, _, h
  | .ival .., _, _, _, _, _, _, h
  | .irng .., _, _, _, _, _, _, h
  | .ienum .., _, _, _, _, _, _, h
  | .izip .., _, _, _, _, _, _, h
  | .irev .., _, _, _, _, _, _, h
  | .itk .., _, _, _, _, _, _, h
  | .iitm .., _, _, _, _, _, _, h
  | .ivls .., _, _, _, _, _, _, h
  | .gname .., _, _, _, _, _, _, h
  | .gtup .., _, _, _, _, _, _, h
  | .gsub .., _, _, _, _, _, _, h
  | .asg .., _, _, _, _, _, _, h
  | .par .., _, _, _, _, _, _, h
  | .aug .., _, _, _, _, _, _, h
  | .augs .., _, _, _, _, _, _, h
  | .doc, _, _, _, _, _, _, h
  | .expr .., _, _, _, _, _, _, h
  | .ret .., _, _, _, _, _, _, h
  | .retn, _, _, _, _, _, _, h
  | .ifs .., _, _, _, _, _, _, h
  | .for_ .., _, _, _, _, _, _, h
  | .while_ .., _, _, _, _, _, _, h
  | .pass, _, _, _, _, _, _, h
  | .brk, _, _, _, _, _, _, h
  | .cont, _, _, _, _, _, _, h
  | .raise .., _, _, _, _, _, _, h
  | .tryx .., _, _, _, _, _, _, h
  | .sattr .., _, _, _, _, _, _, h => by simp [chGs] at h
end
end Pw
set_option Elab.async false
set_option linter.all false
set_option maxRecDepth 100000
set_option maxHeartbeats 2000000
namespace Pw
open PySem PySem.Spec PyProof.Rows L2

theorem swB_name {sc : Scope} {tg e : Expr} (hb : swB sc tg e = true) : ∃ y py, tg = .Name y py := by
  unfold swB at hb
  split at hb
  · split at hb
    · exact ⟨_, _, rfl⟩
    · cases hb
  · split at hb
    · exact ⟨_, _, rfl⟩
    · cases hb
  · cases hb
mutual
theorem sS {G : Gc} {Γ : String → SpD} {k : Nat} : ∀ (t : T) {X : Cx} {C : Ct} {xk : XD} {W : WX} (g : GS X G C Γ k W) (s : Stmt), chS G t C s = true → PS X s (LS X xk W (wpS Γ xk t))
  | .asg tg a, X, C, xk, W, g, s, h => by
    simp only [chS] at h
    split at h
    · rename_i e1 e pos
      simp only [Bool.and_eq_true] at h
      obtain ⟨⟨⟨⟨⟨h1, h2⟩, h3⟩, h4⟩, h5⟩, h6⟩ := h
      have hw : swappedStores [e1] e X.env = pure none := by
        split at h5
        · rename_i q
          exact swp_ok g.kd (by rw [g.sc]; exact q)
        · cases h5
      cases hb : swB C.sc e1 e with
      | false => exact s_asg g h3 hb hw h4 (sE a g.toGX _ h2) (sG tg g.toGX _ h1)
      | true =>
        rw [hb] at h6
        cases a with
        | comp m own elt t it ifs =>
          obtain ⟨y, py, rfl⟩ := swB_name hb
          cases tg with
          | gname i =>
            simp only [chE] at h2
            split at h2
            · rename_i x ctg iter cs sc p
              simp only [Bool.and_eq_true] at h2
              obtain ⟨⟨⟨⟨⟨⟨k1, k2⟩, k3⟩, k4⟩, k5⟩, k6⟩, k7⟩ := h2
              simp only [chG, Bool.and_eq_true, decide_eq_true_eq] at h1
              have pg : ∀ (s : Shared) (H : Hp) (Ca : Addr) (cl : List (Str × Addr)) (fp : List Addr), PG (X.blk s H sc (compEnvC sc cl Ca X.env) fp) ctg (LG (rhoI it) X never W0 (tgSl t) (wpG Γ never t)) := fun s H Ca cl fp =>
                rho_pick it k1 (sG t (gx_blk g.toGX s H sc Ca cl fp) ctg k5) (sGw t (gx_blk g.toGX s H sc Ca cl fp) ctg k5)
              exact s_setLc g k2 (tg_sub k3) k4 h1.1 hb (sI it g.toGX _ _ k1) pg (fun s H Ca cl fp => sTs ifs (gx_blk g.toGX s H sc Ca cl fp) _ k6) (fun s H Ca cl fp => sE elt (gx_blk g.toGX s H sc Ca cl fp) _ k7)
            · cases h2
          | _ => simp [chG] at h1
        | comp2 m own own2 elt t it ifs t2 it2 ifs2 =>
          obtain ⟨y, py, rfl⟩ := swB_name hb
          cases tg with
          | gname i =>
            simp only [chE] at h2
            split at h2
            · rename_i x ctg iter cs ctg2 iter2 cs2 sc p
              simp only [Bool.and_eq_true] at h2
              obtain ⟨k1, k2, k3, k4, k5, k6, k7, kG1, k9, kI2, kG2, k12, k13⟩ := h2
              simp only [chG, Bool.and_eq_true, decide_eq_true_eq] at h1
              have pg : ∀ (s : Shared) (H : Hp) (Ca : Addr) (cl : List (Str × Addr)) (fp : List Addr), PG (X.blk s H sc (compEnvC sc cl Ca X.env) fp) ctg (LG (rhoI it) X never W0 (tgSl t) (wpG Γ never t)) := fun s H Ca cl fp =>
                rho_pick it k1 (sG t (gx_blk g.toGX s H sc Ca cl fp) ctg kG1) (sGw t (gx_blk g.toGX s H sc Ca cl fp) ctg kG1)
              have pg2 : ∀ (s : Shared) (H : Hp) (Ca : Addr) (cl : List (Str × Addr)) (fp : List Addr), PG (X.blk s H sc (compEnvC sc cl Ca X.env) fp) ctg2 (LG (rhoI it2) X never W0 (tgSl t2) (wpG Γ never t2)) := fun s H Ca cl fp =>
                rho_pick it2 kI2 (sG t2 (gx_blk g.toGX s H sc Ca cl fp) ctg2 kG2) (sGw t2 (gx_blk g.toGX s H sc Ca cl fp) ctg2 kG2)
              exact s_setLc2 g k2 (tg_sub k3) (tg_sub k4) (tg_sub k5) k6 k7 h1.1 hb (sI it g.toGX _ _ k1) pg (fun s H Ca cl fp => sTs ifs (gx_blk g.toGX s H sc Ca cl fp) _ k9) (fun s H Ca cl fp => sI it2 (gx_blk g.toGX s H sc Ca cl fp) _ _ kI2) pg2 (fun s H Ca cl fp => sTs ifs2 (gx_blk g.toGX s H sc Ca cl fp) _ k12) (fun s H Ca cl fp => sE elt (gx_blk g.toGX s H sc Ca cl fp) _ k13)
            · cases h2
          | _ => simp [chG] at h1
        | dc1 m own kx vx t it ifs =>
          obtain ⟨y, py, rfl⟩ := swB_name hb
          cases tg with
          | gname i =>
            simp only [chE] at h2
            split at h2
            · rename_i x y2 ctg iter cs sc p
              simp only [Bool.and_eq_true] at h2
              obtain ⟨k1, k2, k3, k4, kG1, k6, k7, k8⟩ := h2
              simp only [chG, Bool.and_eq_true, decide_eq_true_eq] at h1
              have pg : ∀ (s : Shared) (H : Hp) (Ca : Addr) (cl : List (Str × Addr)) (fp : List Addr), PG (X.blk s H sc (compEnvC sc cl Ca X.env) fp) ctg (LG (rhoI it) X never W0 (tgSl t) (wpG Γ never t)) := fun s H Ca cl fp =>
                rho_pick it k1 (sG t (gx_blk g.toGX s H sc Ca cl fp) ctg kG1) (sGw t (gx_blk g.toGX s H sc Ca cl fp) ctg kG1)
              exact s_setDc1 g k2 (tg_sub k3) k4 h1.1 hb (sI it g.toGX _ _ k1) pg (fun s H Ca cl fp => sTs ifs (gx_blk g.toGX s H sc Ca cl fp) _ k6) (fun s H Ca cl fp => sE kx (gx_blk g.toGX s H sc Ca cl fp) _ k7) (fun s H Ca cl fp => sE vx (gx_blk g.toGX s H sc Ca cl fp) _ k8)
            · cases h2
          | _ => simp [chG] at h1
        | dc2 m own own2 kx vx t it ifs t2 it2 ifs2 =>
          obtain ⟨y, py, rfl⟩ := swB_name hb
          cases tg with
          | gname i =>
            simp only [chE] at h2
            split at h2
            · rename_i x y2 ctg iter cs ctg2 iter2 cs2 sc p
              simp only [Bool.and_eq_true] at h2
              obtain ⟨k1, k2, k3, k4, k5, k6, k7, kG1, k9, kI2, kG2, k12, k13, k14⟩ := h2
              simp only [chG, Bool.and_eq_true, decide_eq_true_eq] at h1
              have pg : ∀ (s : Shared) (H : Hp) (Ca : Addr) (cl : List (Str × Addr)) (fp : List Addr), PG (X.blk s H sc (compEnvC sc cl Ca X.env) fp) ctg (LG (rhoI it) X never W0 (tgSl t) (wpG Γ never t)) := fun s H Ca cl fp =>
                rho_pick it k1 (sG t (gx_blk g.toGX s H sc Ca cl fp) ctg kG1) (sGw t (gx_blk g.toGX s H sc Ca cl fp) ctg kG1)
              have pg2 : ∀ (s : Shared) (H : Hp) (Ca : Addr) (cl : List (Str × Addr)) (fp : List Addr), PG (X.blk s H sc (compEnvC sc cl Ca X.env) fp) ctg2 (LG (rhoI it2) X never W0 (tgSl t2) (wpG Γ never t2)) := fun s H Ca cl fp =>
                rho_pick it2 kI2 (sG t2 (gx_blk g.toGX s H sc Ca cl fp) ctg2 kG2) (sGw t2 (gx_blk g.toGX s H sc Ca cl fp) ctg2 kG2)
              exact s_setDc2 g k2 (tg_sub k3) (tg_sub k4) (tg_sub k5) k6 k7 h1.1 hb (sI it g.toGX _ _ k1) pg (fun s H Ca cl fp => sTs ifs (gx_blk g.toGX s H sc Ca cl fp) _ k9) (fun s H Ca cl fp => sI it2 (gx_blk g.toGX s H sc Ca cl fp) _ _ kI2) pg2 (fun s H Ca cl fp => sTs ifs2 (gx_blk g.toGX s H sc Ca cl fp) _ k12) (fun s H Ca cl fp => sE kx (gx_blk g.toGX s H sc Ca cl fp) _ k13) (fun s H Ca cl fp => sE vx (gx_blk g.toGX s H sc Ca cl fp) _ k14)
            · cases h2
          | _ => simp [chG] at h1
        | _ => simp [isCompT] at h6
    · cases h
  | .par is es, X, C, xk, W, g, s, h => by
    simp only [chS] at h
    split at h
    · rename_i x px y py kt pt a b k2 p2 pos
      simp only [Bool.and_eq_true] at h
      obtain ⟨h1, h2⟩ := h
      split at h2
      · rename_i i j
        simp only [Bool.and_eq_true, decide_eq_true_eq] at h2
        obtain ⟨⟨⟨⟨⟨k1, k2⟩, k3⟩, k4⟩, k5⟩, k6⟩ := h2
        split at k6
        · rename_i ns q
          simp only [decide_eq_true_eq] at k6
          subst k6
          exact s_par g k1 k2 k3 k4 k5 (swp_ok g.kd (by rw [g.sc]; exact q)) (sL es g.toGX _ h1).1
        · cases k6
      · cases h2
    · cases h
  | .aug op i a, X, C, xk, W, g, s, h => by
    simp only [chS] at h
    split at h
    · simp only [Bool.and_eq_true, decide_eq_true_eq] at h
      rw [binB_eq h.1.1.1.1]
      exact s_aug g op h.1.1.1.2 h.1.1.2 (sE a g.toGX _ h.2)
    · cases h
  | .augs op o i a, X, C, xk, W, g, s, h => by
    simp only [chS] at h
    split at h
    · simp only [Bool.and_eq_true] at h
      rw [binB_eq h.1.1.1.1]
      exact s_augs g op h.2 (sE o g.toGX _ h.1.1.1.2) (sE i g.toGX _ h.1.1.2) (sE a g.toGX _ h.1.2)
    · cases h
  | .sattr c f o a, X, C, xk, W, g, s, h => by
    simp only [chS] at h
    split at h
    · rename_i x n ap e pos
      simp only [Bool.and_eq_true, decide_eq_true_eq] at h
      obtain ⟨rfl, h2, h3, h4, h5, h6⟩ := h
      split at h6
      · rename_i fs hfs
        exact s_sattr g h2 h3 hfs (by simpa using h6) (sE a g.toGX _ h4) (sE o g.toGX _ h5)
      · cases h6
    · cases h
  | .doc, X, C, xk, W, g, s, h => by
    simp only [chS] at h
    split at h
    · exact s_doc
    · cases h
  | .expr a, X, C, xk, W, g, s, h => by
    simp only [chS] at h
    split at h
    · simp only [Bool.and_eq_true] at h
      exact s_expr (noSw h.1.2 h.2) (sE a g.toGX _ h.1.1)
    · cases h
  | .ret a, X, C, xk, W, g, s, h => by
    simp only [chS] at h
    split at h
    · exact s_ret (sE a g.toGX _ h)
    · cases h
  | .retn, X, C, xk, W, g, s, h => by
    simp only [chS] at h
    split at h
    · exact s_retn
    · cases h
  | .ifs c a b, X, C, xk, W, g, s, h => by
    simp only [chS] at h
    split at h
    · simp only [Bool.and_eq_true] at h
      exact s_if (sT c g.toGX _ h.1.1) (sSs a g _ h.1.2) (sSs b g _ h.2)
    · cases h
  | .for_ clr t it body, X, C, xk, W, g, s, h => by
    simp only [chS] at h
    split at h
    · simp only [Bool.and_eq_true] at h
      exact s_for g h.2 (sI it g.toGX _ _ h.1.1.2) (rho_pick it h.1.1.2 (sG t g.toGX _ h.1.1.1) (sGw t g.toGX _ h.1.1.1)) (sSs body g _ h.1.2)
    · cases h
  | .while_ clr c body, X, C, xk, W, g, s, h => by
    simp only [chS] at h
    split at h
    · simp only [Bool.and_eq_true] at h
      exact s_while g (sT c g.toGX _ h.1) (sSs body g _ h.2)
    · cases h
  | .pass, X, C, xk, W, g, s, h => by
    simp only [chS] at h
    split at h
    · exact s_pass
    · cases h
  | .brk, X, C, xk, W, g, s, h => by
    simp only [chS] at h
    split at h
    · exact s_brk
    · cases h
  | .cont, X, C, xk, W, g, s, h => by
    simp only [chS] at h
    split at h
    · exact s_cont
    · cases h
  | .raise c m, X, C, xk, W, g, s, h => by
    simp only [chS] at h
    split at h
    · simp only [Bool.and_eq_true, decide_eq_true_eq] at h
      obtain ⟨⟨⟨h1, h2⟩, h3⟩, h4⟩ := h
      subst h1
      exact s_raise g h4 h3
    · cases h
  | .tryx xs c i j body, X, C, xk, W, g, s, h => by
    simp only [chS] at h
    split at h
    · rename_i b x np n y yp z zp ap hp pos
      simp only [Bool.and_eq_true, decide_eq_true_eq, Bool.not_eq_true'] at h
      obtain ⟨rfl, h2, h3, h4, h5, rfl, h7, h8, h9, h10, h11, h12, h13⟩ := h
      exact s_try (wb := fun xk' => wpSs Γ xk' body) g g.nve h2 h3 h4 h5 h7 h8 h9 h10 (by simpa using h12) fun xk' X' W' g' => sSs body g' _ h13
    · cases h
  | .nil, _, _, _, _, _, _, h
  | .cons .., _, _, _, _, _, _, h
  | .var .., _, _, _, _, _, _, h
  | .lit .., _, _, _, _, _, _, h
  | .bin .., _, _, _, _, _, _, h
  | .neg .., _, _, _, _, _, _, h
  | .not .., _, _, _, _, _, _, h
  | .and .., _, _, _, _, _, _, h
  | .or .., _, _, _, _, _, _, h
  | .tst .., _, _, _, _, _, _, h
  | .cmp .., _, _, _, _, _, _, h
  | .chain .., _, _, _, _, _, _, h
  | .ite .., _, _, _, _, _, _, h
  | .tup .., _, _, _, _, _, _, h
  | .lst .., _, _, _, _, _, _, h
  | .dct .., _, _, _, _, _, _, h
  | .dctT, _, _, _, _, _, _, h
  | .call .., _, _, _, _, _, _, h
  | .callk .., _, _, _, _, _, _, h
  | .blt .., _, _, _, _, _, _, h
  | .isi .., _, _, _, _, _, _, h
  | .conv .., _, _, _, _, _, _, h
  | .convr .., _, _, _, _, _, _, h
  | .convv .., _, _, _, _, _, _, h
  | .meth .., _, _, _, _, _, _, h
  | .idx .., _, _, _, _, _, _, h
  | .slc .., _, _, _, _, _, _, h
  | .revs .., _, _, _, _, _, _, h
  | .sset .., _, _, _, _, _, _, h
  | .srtv .., _, _, _, _, _, _, h
  | .ldct .., _, _, _, _, _, _, h
  | .lset .., _, _, _, _, _, _, h
  | .attr .., _, _, _, _, _, _, h
  | .mcall .., _, _, _, _, _, _, h
  | .make .., _, _, _, _, _, _, h
  | .comp .., _, _, _, _, _, _, h
  | .comp2 .., _, _, _, _, _, _, h
  | .tups .., _, _, _, _, _, _, h
  | .star .., _, _, _, _, _, _, h
  | .dc1 .., _, _, _, _, _, _, h
  | .dc2 .., _, _, _, _, _, _, h
  | .isx .., _, _, _, _, _, _, h
  | .frz .., _, _, _, _, _, _, h
  | .ival .., _, _, _, _, _, _, h
  | .irng .., _, _, _, _, _, _, h
  | .ienum .., _, _, _, _, _, _, h
  | .izip .., _, _, _, _, _, _, h
  | .irev .., _, _, _, _, _, _, h
  | .itk .., _, _, _, _, _, _, h
  | .iitm .., _, _, _, _, _, _, h
  | .ivls .., _, _, _, _, _, _, h
  | .gname .., _, _, _, _, _, _, h
  | .gtup .., _, _, _, _, _, _, h
  | .gsub .., _, _, _, _, _, _, h => by simp [chS] at h
theorem sSs {G : Gc} {Γ : String → SpD} {k : Nat} : ∀ (t : T) {X : Cx} {C : Ct} {xk : XD} {W : WX} (g : GS X G C Γ k W) (ss : List Stmt), chSs G t C ss = true → PSs X ss (LS X xk W (wpSs Γ xk t))
  | .nil, X, C, xk, W, g, ss, h => by
    simp only [chSs] at h
    split at h
    · exact s_nil
    · cases h
  | .cons a r, X, C, xk, W, g, ss, h => by
    simp only [chSs] at h
    split at h
    · simp only [Bool.and_eq_true] at h
      exact s_cons (w1 := wpS Γ xk a) (w2 := wpSs Γ xk r) (sS a g _ h.1) (sSs r g _ h.2)
    · cases h
  | .var .., _, _, _, _, _, _, h
  | .lit .., _, _, _, _, _, _, h
  | .bin .., _, _, _, _, _, _, h
  | .neg .., _, _, _, _, _, _, h
  | .not .., _, _, _, _, _, _, h
  | .and .., _, _, _, _, _, _, h
  | .or .., _, _, _, _, _, _, h
  | .tst .., _, _, _, _, _, _, h
  | .cmp .., _, _, _, _, _, _, h
  | .chain .., _, _, _, _, _, _, h
  | .ite .., _, _, _, _, _, _, h
  | .tup .., _, _, _, _, _, _, h
  | .lst .., _, _, _, _, _, _, h
  | .dct .., _, _, _, _, _, _, h
  | .dctT, _, _, _, _, _, _, h
  | .call .., _, _, _, _, _, _, h
  | .callk .., _, _, _, _, _, _, h
  | .blt .., _, _, _, _, _, _, h
  | .isi .., _, _, _, _, _, _, h
  | .conv .., _, _, _, _, _, _, h
  | .convr .., _, _, _, _, _, _, h
  | .convv .., _, _, _, _, _, _, h
  | .meth .., _, _, _, _, _, _, h
  | .idx .., _, _, _, _, _, _, h
  | .slc .., _, _, _, _, _, _, h
  | .revs .., _, _, _, _, _, _, h
  | .sset .., _, _, _, _, _, _, h
  | .srtv .., _, _, _, _, _, _, h
  | .ldct .., _, _, _, _, _, _, h
  | .lset .., _, _, _, _, _, _, h
  | .attr .., _, _, _, _, _, _, h
  | .mcall .., _, _, _, _, _, _, h
  | .make .., _, _, _, _, _, _, h
  | .comp .., _, _, _, _, _, _, h
  | .comp2 .., _, _, _, _, _, _, h
  | .tups .., _, _, _, _, _, _, h
  | .star .., _, _, _, _, _, _, h
  | .dc1 .., _, _, _, _, _, _, h
  | .dc2 .., _, _, _, _, _, _, h
  | .isx .., _, _, _, _, _, _, h
  | .frz .., _, _, _, _, _, _, h
  | .ival .., _, _, _, _, _, _, h
  | .irng .., _, _, _, _, _, _, h
  | .ienum .., _, _, _, _, _, _, h
  | .izip .., _, _, _, _, _, _, h
  | .irev .., _, _, _, _, _, _, h
  | .itk .., _, _, _, _, _, _, h
  | .iitm .., _, _, _, _, _, _, h
  | .ivls .., _, _, _, _, _, _, h
  | .gname .., _, _, _, _, _, _, h
  | .gtup .., _, _, _, _, _, _, h
  | .gsub .., _, _, _, _, _, _, h
  | .asg .., _, _, _, _, _, _, h
  | .par .., _, _, _, _, _, _, h
  | .aug .., _, _, _, _, _, _, h
  | .augs .., _, _, _, _, _, _, h
  | .doc, _, _, _, _, _, _, h
  | .expr .., _, _, _, _, _, _, h
  | .ret .., _, _, _, _, _, _, h
  | .retn, _, _, _, _, _, _, h
  | .ifs .., _, _, _, _, _, _, h
  | .for_ .., _, _, _, _, _, _, h
  | .while_ .., _, _, _, _, _, _, h
  | .pass, _, _, _, _, _, _, h
  | .brk, _, _, _, _, _, _, h
  | .cont, _, _, _, _, _, _, h
  | .raise .., _, _, _, _, _, _, h
  | .tryx .., _, _, _, _, _, _, h
  | .sattr .., _, _, _, _, _, _, h => by simp [chSs] at h
end
/-! ### a def of the text, by its term -/
structure EnvX (P : Program) (w : World) (K : PySem.W.Frag) (mg : Str → Option Value) (base : Heap) (G : Gc) (Γ : String → SpD) (k : Nat) : Prop where
  sys : SysD K
  isi : isiB K = true
  free : ∀ x ∈ G.free, mg x = none
  const : ∀ x d, G.consts.lookup x = some d → ∃ v u, mg x = some u ∧ RelV v u ∧ flatDV d v = true
  fns : ∀ f I, G.fns.lookup f = some I → FnX P w K mg base k f I (Γ f)
  exc : ∀ c ∈ G.excs, ∃ (A : Addr) (bmB : List Value) (B newId initId : String), ExcBaseFacts B newId initId bmB ∧ PySem.W.excIn K A bmB newId = true ∧ mg c = some (.ref A) ∧ PySem.W.keepIn K (.ref A) = true ∧
    PySem.W.subIn K (.ref A) (.type "BaseException") = some true ∧ PySem.W.typeIn K (.ref A) = some (.type "type")
  xis : isxB G K = true
  gcl : ∀ c ∈ G.excs ++ G.clss, mg c = some (.ref (He.ga K c))
  nve : ("ValueError" : Str) ∉ G.clss
  ins : ∀ c fs, G.inst.lookup c = some fs → InsF mg K c fs
theorem fn_sound {P : Program} {w : World} {K : PySem.W.Frag} {mg : Str → Option Value} {base : Heap} {G : Gc} {Γ : String → SpD} {k : Nat} {fa : Addr} {x qual : Str} {params : Arguments} {body : List Stmt} {scope : Scope} {dvs : List V} {kws : List (Str × V)} {fd : FuncData} {N ps : List Str} {f : Fn}
    (Ev : EnvX P w K mg base G Γ k) (F : FunD K x qual params body scope dvs kws fa fd) (S : FnScope N ps scope) (h1 : f.ar = ps.length) (h2 : f.sl = N.length) (hb : chSs G f.body ⟨N, scope, fun _ => true⟩ body = true) :
    FnG P w K mg base (k + 1) fa fd ps (spOf K mg (wpF Γ f)) := by
  refine fnG_of F S (fun vs H Q E h => ?_) fun cdv A outer s H vs Q E room h => ?_
  · obtain ⟨U, M, ds, R, Xc, vw, rm, rv, hw, _⟩ := h
    rw [rv.length, hw.1, h1]
  · obtain ⟨U, M, ds, R, Xc, vw, rm, rv, ⟨hl, hw⟩, out, xout⟩ := h
    have g : GS (cxOf (L2.CX P w) P w K mg base N qual scope fa cdv A outer s H E) G ⟨N, scope, fun _ => true⟩ Γ k (fun cls d _ H => E cls d H) :=
      { room := room, calm := rfl, sys := Ev.sys, isi := Ev.isi, N := rfl, nd := S.nd, sc := rfl, fnB := fun _ _ => rfl, free := Ev.free, const := Ev.const, fns := Ev.fns,
        exc := fun c hc => by
          obtain ⟨A, bmB, B, ni, ii, F, q, gC, kC, r1, r2⟩ := Ev.exc c hc
          exact ⟨A, bmB, B, ni, ii, F, q, gC, kC, raises_own r1 r2⟩,
        xis := Ev.xis, gcl := Ev.gcl, nve := Ev.nve, ins := Ev.ins, tk := takes_of rfl rfl rfl rfl, kd := S.kind, own := passes_of rfl, stk := rfl, frm := rfl }
    refine ⟨_, sSs (xk := fun c _ M' => Lv (Xc c) M') f.body g body hb, ds.map some ++ List.replicate (f.sl - f.ar) none, M, U, _, ⟨vw, rm, ?_⟩, ?_, hw, ⟨?_, ?_, ?_, ?_⟩⟩
    · refine ⟨by simp [L2.start, rv.length, h2, hl], fun i d e => ?_⟩
      have hi : i < ds.length := by
        by_cases hi : i < ds.length
        · exact hi
        · rw [List.getElem?_append_right (by simpa using hi)] at e
          rw [List.getElem?_replicate] at e
          split at e <;> cases e
      rw [List.getElem?_append_left (by simpa using hi), List.getElem?_map] at e
      obtain ⟨d', e1, e2⟩ := Option.map_eq_some_iff.mp e
      cases e2
      obtain ⟨v, e3, q⟩ := rv.get e1
      refine ⟨v, ?_, q⟩
      unfold L2.start
      rw [List.getElem?_append_left (by rw [List.length_map, rv.length]; exact hi), List.getElem?_map, e3]
      rfl
    · rintro c δ' M' U' H' σ' g' rs ⟨M'', s, hx⟩ A hA
      exact xout c M'' U' H' ⟨g'.ex.trans (Ext.sub s), g'.kp, g'.rm.sub s⟩ hx A hA
    · rintro δ' M' σ' U' H' g' rs ⟨M'', s, hx⟩
      exact out .non M'' V.non U' H' (g'.ex.trans (Ext.sub s)) g'.kp (g'.rm.sub s) rvNon hx
    · rintro d M' v U' H' e k rm' rv' ⟨M'', s, hx⟩
      exact out d M'' v U' H' (e.trans (Ext.sub s)) k (rm'.sub s) (RV.mono (Ext.sub s) rm' d v rv') hx
    · rintro δ' M' σ' U' H' g' rs h
      exact h.elim
    · rintro δ' M' σ' U' H' g' rs h
      exact h.elim
end Pw
set_option Elab.async false
set_option linter.all false
set_option maxRecDepth 100000
set_option maxHeartbeats 2000000
namespace Pw
open PySem PySem.Spec PyProof.Rows L2

/-! ### the defs of a text, as data -/
structure Df where
  name : String
  d : He.DefD
  N : List Str
  ps : List Str
  fn : Fn
  dfl : List D
  kwn : Bool
structure Prg where
  dfs : List Df
  consts : List (Str × D)
  free : List Str
  excs : List Str
  clss : List Str
  /-- classes that are made, the attributes of their instances -/
  inst : List (Str × List Str)
/-- a method's class and name -/
def Df.at_ (f : Df) : Option (Str × Str) := f.d.at_.2.map fun m => (f.d.at_.1, m)
def Prg.gc (p : Prg) : Gc := ⟨p.dfs.map fun f => (f.name, ⟨f.ps, f.dfl, f.kwn, f.at_⟩), p.consts, p.free, p.excs, p.clss, p.inst⟩
def Prg.fns (p : Prg) : List (String × Fn) := p.dfs.map fun f => (f.name, f.fn)
def cFa : Str × D → List He.Fa
  | (x, .int i) => [.int x i]
  | (x, .str z) => [.str x z]
  | _ => []
def cOk : D → Bool
  | .int _ => true
  | .str _ => true
  | _ => false
def dFa (f : Df) : He.Fa := match f.at_ with
  | none => .glo (Str.ofString f.name)
  | some (c, m) => .meth c m
def iFa (q : Str × List Str) : List He.Fa := [.glo q.1, .cls q.1, .mkr q.1] ++ q.2.map fun f => .noat q.1 f
def Prg.fa (p : Prg) : List He.Fa := p.dfs.map dFa ++ p.free.map .free ++ p.consts.flatMap cFa ++ p.excs.map .exc ++ (p.excs ++ p.clss).map .glo ++ p.inst.flatMap iFa
def Prg.fnD (p : Prg) : List He.DefD := p.dfs.map (·.d)
/-- what a def's text must be -/
def scopeB (f : Df) : Bool := decide (f.d.scope.kind = .function) && (!f.d.scope.isCoroutine && (!f.d.scope.isGenerator && (decide f.N.Nodup && (decide (f.N.take f.ps.length = f.ps) &&
  (f.ps.all (fun x => match f.d.scope.names.lookup x with | some .local => true | some .cell => true | _ => false) && f.d.scope.names.all fun y => decide (y.2 ≠ .free))))))
def dfB (G : Gc) (f : Df) : Bool := (f.at_.isSome || decide (f.d.at_ = (Str.ofString f.name, none))) && (scopeB f && (decide (f.fn.ar = f.ps.length) && (decide (f.fn.sl = f.N.length) && chSs G f.fn.body ⟨f.N, f.d.scope, fun _ => true⟩ f.d.body)))
def Prg.okB (p : Prg) : Bool := ((p.consts.all fun c => cOk c.2) && decide (p.clss.contains ("ValueError" : Str) = false)) && p.dfs.all (dfB p.gc)
theorem scope_of {f : Df} (h : scopeB f = true) : FnScope f.N f.ps f.d.scope := by
  unfold scopeB at h
  simp only [Bool.and_eq_true, decide_eq_true_eq, Bool.not_eq_true', List.all_eq_true] at h
  obtain ⟨h1, h2, h3, h4, h5, h6, h7⟩ := h
  refine ⟨h1, h2, h3, h4, h5, fun x hx => ?_, fun y hy => h7 y hy⟩
  have := h6 x hx
  split at this
  · left; assumption
  · right; assumption
  · cases this
/-- how a def is called -/
structure BindOk (K : PySem.W.Frag) (f : Df) (fd : FuncData) : Prop where
  pos : (f.kwn = true → f.dfl ≠ []) → ∃ (dvs : List V) (ds : List Value), flatDVs f.dfl dvs = true ∧ Vals dvs ds ∧ Binds K fd f.ps ds
  kw : ∀ z, f.kwn = true → f.ps.getLast? = some z → KBn K fd f.ps (f.ps.length - 1) [z] (fun us ws => us ++ ws) (fun vs zs => vs ++ zs)
theorem bind_plain {K : PySem.W.Frag} {f : Df} {fd : FuncData} (hd : f.dfl = []) (hk : f.kwn = false) (h : Binds K fd f.ps []) : BindOk K f fd :=
  ⟨fun _ => ⟨[], [], by rw [hd]; rfl, .nil, h⟩, fun z h1 _ => by rw [hk] at h1; cases h1⟩
/-- a def called with its last parameter by name -/
theorem kbn_of {K : PySem.W.Frag} {x qual : Str} {params : Arguments} {body : List Stmt} {scope : Scope} {kws : List (Str × V)} {f : Addr} {fd : FuncData} {ps : List Str} {n : Nat} {z : Str} (F : FunD K x qual params body scope [] kws f fd)
    (h : ∀ (kV doc pm : Value) (an : Option Addr) (cdv ct : Value) (us : List Value) (w : Value), us.length = n → bindArgs (PySem.W.fnOf x qual params body scope .none kV doc pm an cdv ct) { pos := us, kw := [(z, w)] } = pure (ps.zip (us ++ [w]))) :
    KBn K fd ps n [z] (fun us ws => us ++ ws) (fun vs zs => vs ++ zs) := by
  obtain ⟨oc, od, dV, kV, doc, pm, an, cdv, ct, osl, rfl, lk, hcd, hd, _⟩ := F.ex
  have e : dV = .none := by
    rcases hd with ⟨_, h⟩ | ⟨h, _⟩
    · exact h
    · exact absurd rfl h
  subst e
  refine ⟨fun s us ws X hl hk => ?_, fun a b => a.append b⟩
  match ws, hk with
  | [w], _ =>
    intro M A E Q hQ
    show wpAny M A (bindArgs _ { pos := us, kw := [(z, w)] }) Q E s
    rw [h _ _ _ _ _ _ us w hl]
    exact wpAny_pure hQ
theorem look_fns {f : String} : ∀ {dfs : List Df} {I : FnI}, (dfs.map fun f => (f.name, (⟨f.ps, f.dfl, f.kwn, f.at_⟩ : FnI))).lookup f = some I → ∃ df ∈ dfs, df.name = f ∧ I = ⟨df.ps, df.dfl, df.kwn, df.at_⟩ ∧ (dfs.map fun f => (f.name, f.fn)).lookup f = some df.fn
  | [], I, h => by simp at h
  | df :: r, I, h => by
    simp only [List.map_cons, List.lookup_cons] at h ⊢
    by_cases e : f = df.name
    · subst e
      simp only [beq_self_eq_true] at h ⊢
      cases h
      exact ⟨df, by simp, rfl, rfl, rfl⟩
    · have e' : (f == df.name) = false := by simpa using e
      simp only [e'] at h ⊢
      obtain ⟨d, h1, h2, h3, h4⟩ := look_fns h
      exact ⟨d, by simp [h1], h2, h3, h4⟩
theorem look_mem {α β : Type} [BEq α] [LawfulBEq α] {x : α} {y : β} : ∀ {l : List (α × β)}, l.lookup x = some y → (x, y) ∈ l
  | [], h => by simp at h
  | (a, b) :: r, h => by
    simp only [List.lookup_cons] at h
    by_cases e : x = a
    · subst e
      simp only [beq_self_eq_true] at h
      cases h; simp
    · have e' : (x == a) = false := by simpa using e
      simp only [e'] at h
      simp [look_mem h]
section
variable {P : Program} {w : World} {K : PySem.W.Frag} {mg : Str → Option Value} {base h : Heap}
/-- everything of the text, at any depth -/
theorem run_sound (p : Prg) (X : K.In h) (Gm : h.Ns mainGlobals mg) (c : He.SaysD p.fa p.fnD K) (sys : SysD K) (isi : isiB K = true) (xis : isxB p.gc K = true) (ok : p.okB = true) (bi : ∀ f ∈ p.dfs, ∀ fd, FunD K f.d.name f.d.qual f.d.params f.d.body f.d.scope (f.d.dvs K) (f.d.kws K) (He.fAd K f.d.at_) fd → BindOk K f fd) :
    ∀ n, EnvX P w K mg base p.gc (run p.fns n) n := by
  unfold Prg.okB at ok
  simp only [Bool.and_eq_true, List.all_eq_true, decide_eq_true_eq] at ok
  have mem : ∀ {f : He.Fa}, f ∈ p.fa → f.ok K = true := fun h => c.facts h
  have rest : ∀ n, (∀ f I, p.gc.fns.lookup f = some I → FnX P w K mg base n f I (run p.fns n f)) → EnvX P w K mg base p.gc (run p.fns n) n := by
    intro n hf
    refine ⟨sys, isi, fun x hx => He.free_ok X Gm (mem (f := .free x) ?_), fun x d hx => ?_, hf, fun x hx => ?_, xis, fun x hx => He.glo_ok X Gm (mem (f := .glo x) ?_), fun z => ?_, fun cc fs hin => ?_⟩
    · unfold Prg.fa
      simp only [List.mem_append, List.mem_map]
      exact .inl (.inl (.inl (.inl (.inr ⟨x, hx, rfl⟩))))
    · have hm := look_mem hx
      have hc := ok.1.1 _ hm
      have inn : ∀ f ∈ cFa (x, d), f ∈ p.fa := fun f hf => by
        unfold Prg.fa
        simp only [List.mem_append, List.mem_flatMap]
        exact .inl (.inl (.inl (.inr ⟨_, hm, hf⟩)))
      cases d <;> simp only [cOk] at hc <;> try cases hc
      · rename_i i
        obtain ⟨t, e⟩ := He.int_ok X Gm (mem (inn _ (by simp [cFa])) : (He.Fa.int x i).ok K = true)
        exact ⟨.int i, _, e, ⟨t, rfl⟩, by simp [flatDV]⟩
      · rename_i i
        obtain ⟨t, e⟩ := He.str_ok X Gm (mem (inn _ (by simp [cFa])) : (He.Fa.str x i).ok K = true)
        exact ⟨.str i, _, e, ⟨t, rfl⟩, by simp [flatDV]⟩
    · have h1 : He.Fa.exc x ∈ p.fa := by
        unfold Prg.fa
        simp only [List.mem_append, List.mem_map]
        exact .inl (.inl (.inr ⟨x, hx, rfl⟩))
      have h2 : He.Fa.glo x ∈ p.fa := by
        unfold Prg.fa
        simp only [List.mem_append, List.mem_map]
        exact .inl (.inr ⟨x, .inl hx, rfl⟩)
      obtain ⟨e1, e2, e3, e4⟩ := He.exc_ok (mem h1)
      exact ⟨He.ga K x, He.veBase, _, _, _, PySem.F.excBase_ValueError, e1, He.glo_ok X Gm (mem h2), e2, e3, e4⟩
    · have hx' : x ∈ p.excs ++ p.clss := hx
      unfold Prg.fa
      simp only [List.mem_append, List.mem_map] at hx' ⊢
      exact .inl (.inr ⟨x, hx', rfl⟩)
    · have := ok.1.2
      have z' : ("ValueError" : Str) ∈ p.clss := z
      simp [z'] at this
    · have hm : (cc, fs) ∈ p.inst := look_mem hin
      have inn : ∀ f ∈ iFa (cc, fs), f ∈ p.fa := fun f hf => by
        unfold Prg.fa
        simp only [List.mem_append, List.mem_flatMap]
        exact .inr ⟨_, hm, hf⟩
      have mk := He.mkr_ok (mem (inn (.mkr cc) (by simp [iFa])))
      exact ⟨He.glo_ok X Gm (mem (inn (.glo cc) (by simp [iFa]))), He.cls_ok (mem (inn (.cls cc) (by simp [iFa]))), mk.makes, mk.kp, fun f hf => He.noat_ok (mem (inn (.noat cc f) (by
        simp only [iFa, List.mem_append, List.mem_map]
        exact .inr ⟨f, hf, rfl⟩)))⟩
  have each : ∀ f I, p.gc.fns.lookup f = some I → ∃ df ∈ p.dfs, df.name = f ∧ I = ⟨df.ps, df.dfl, df.kwn, df.at_⟩ ∧ p.fns.lookup f = some df.fn ∧ ∃ fd, FunD K df.d.name df.d.qual df.d.params df.d.body df.d.scope (df.d.dvs K) (df.d.kws K) (He.fAd K df.d.at_) fd ∧ FnAt mg K f I (He.fAd K df.d.at_) ∧ BindOk K df fd ∧ dfB p.gc df = true := by
    intro f I hI
    obtain ⟨df, hm, hn, hi, hl⟩ := look_fns hI
    obtain ⟨fd, F⟩ := c.defs (d := df.d) (by unfold Prg.fnD; exact List.mem_map.mpr ⟨df, hm, rfl⟩)
    have hb := bi df hm fd F
    have hd := ok.2 df hm
    refine ⟨df, hm, hn, hi, hl, fd, F, ?_, hb, hd⟩
    have hd1 := hd
    unfold dfB at hd1
    simp only [Bool.and_eq_true, Bool.or_eq_true, decide_eq_true_eq] at hd1
    have inn : dFa df ∈ p.fa := by
      unfold Prg.fa
      simp only [List.mem_append, List.mem_map]
      exact .inl (.inl (.inl (.inl (.inl ⟨df, hm, rfl⟩))))
    unfold FnAt
    cases e : df.at_ with
    | none =>
      have ea : I.at_ = none := by rw [hi]; exact e
      rw [ea]
      have hda : df.d.at_ = (Str.ofString df.name, none) := by
        rcases hd1.1 with z | z
        · rw [e] at z; cases z
        · exact z
      have hf : He.fAd K df.d.at_ = He.ga K (Str.ofString f) := by rw [hda, hn]; rfl
      have hk := F.kp
      have inn2 : He.Fa.glo (Str.ofString f) ∈ p.fa := by
        have := inn
        unfold dFa at this
        rw [e, hn] at this
        exact this
      rw [hf] at hk ⊢
      exact ⟨He.glo_ok X Gm (mem inn2), hk⟩
    | some q =>
      obtain ⟨cc, m⟩ := q
      have ea : I.at_ = some (cc, m) := by rw [hi]; exact e
      rw [ea]
      have inn2 : He.Fa.meth cc m ∈ p.fa := by
        have := inn
        unfold dFa at this
        rw [e] at this
        exact this
      have hda : df.d.at_ = (cc, some m) := by
        unfold Df.at_ at e
        obtain ⟨m', h1, h2⟩ := Option.map_eq_some_iff.mp e
        cases h2
        rw [← h1]
      have hf : He.fAd K df.d.at_ = He.ma K (He.ga K cc) m := by rw [hda]; rfl
      rw [hf]
      exact He.meth_ok (mem inn2)
  intro n
  induction n with
  | zero =>
    refine rest 0 fun f I hI => ?_
    obtain ⟨df, hm, hn, rfl, hl, fd, F, hg, hb, hd⟩ := each f I hI
    refine ⟨⟨_, fd, hg, ⟨fun vs H Q E h => ?_, fun A outer s H args us vs Q E room env bind rel h => ?_⟩, hb.pos, hb.kw⟩, fun ds M R Xc h => False.elim h⟩
    · obtain ⟨_, _, _, _, _, _, _, _, h, _⟩ := h
      exact False.elim h
    · obtain ⟨_, _, _, _, _, _, _, _, h, _⟩ := h
      exact False.elim h
  | succ n ih =>
    refine rest (n + 1) fun f I hI => ?_
    obtain ⟨df, hm, hn, rfl, hl, fd, F, hg, hb, hd⟩ := each f I hI
    unfold dfB at hd
    simp only [Bool.and_eq_true, decide_eq_true_eq] at hd
    obtain ⟨_, h2, h3, h4, h5⟩ := hd
    have er : run p.fns (n + 1) f = wpF (run p.fns n) df.fn := by
      funext ds M Q Xc
      simp only [run, hl]
    rw [er]
    exact ⟨⟨_, fd, hg, fn_sound ih F (scope_of h2) h3 h4 h5, hb.pos, hb.kw⟩, fun ds M R Xc h => h.1.trans h3⟩
end

/-! ### the law's call, with no repr under way -/
theorem law_go {P : Program} {w : World} {K : PySem.W.Frag} {mg mb : Str → Option Value} {k : Nat} {fa a : Addr} {fd : FuncData} {x : Str} {sp : Sp} {st : Shared} {us : List Value} {ns : List Int}
    (hK : K.In st.heap) (hG : st.heap.Ns mainGlobals mg) (hB : st.heap.Ns builtinsNs mb) (hBb : ∀ x : Str, x ≠ "__name__" → mb x = bootBuiltins x) (hL : st.heap.NoLimit) (hgen : st.gens = #[])
    (hobj : st.heap.get? a = some { cls := .type "list", data := .seq us.toArray }) (hints : IntsAre us ns) (hlen : ns.length ≤ sizeLine) (room : RoomG k callerA)
    (F : ∀ base : Heap, K.In base → base.Ns mainGlobals mg → FnG P w K mg base k fa fd [x] sp) (bind : ∀ u : Value, BindsTo st fd ⟨[u], []⟩ [(x, u)])
    (want : ∀ H : Hp, Only H → SqL K H a (ns.map V.int) → sp [.ref a] H (fun v _ => v = .bl true) fun _ _ _ => False) :
    codeAny (model P w) callerA (.call (.ref fa) ⟨[.ref a], []⟩) (fun r s' => r = .ok (.ret (.bool true)) ∧ OldK st.heap s'.heap ∧ s'.os = st.os ∧ AllBare s'.gens) st := by
  have rel := vals_ints hints
  have lenV := hints.length
  have main : ∀ T : Hp, Only T → SqL K T a (ns.map V.int) → HOk P w T st.heap → (∀ b, T b ≠ none → b = a) → (T a ≠ none → K.lookup a = none) →
      codeAny (model P w) callerA (.call (.ref fa) ⟨[.ref a], []⟩) (fun r s' => r = .ok (.ret (.bool true)) ∧ OldK st.heap s'.heap ∧ s'.os = st.os ∧ AllBare s'.gens) st := by
    intro T only hS hT one apart
    have isA : ∀ {b : Addr} {u : HO}, T b = some u → b = a := fun q => one _ (by rw [q]; exact fun z => by cases z)
    have noDict : ∀ {b : Addr} {o : Obj} {es : Array DictEntry} {ep : Nat}, st.heap.get? b = some o → o.data = .dict es ep → T b = none := by
      intro b o es ep e d
      cases q : T b with
      | none => rfl
      | some u =>
        have eb := isA q
        subst eb
        rw [hobj] at e
        cases e
        cases (show Data.seq us.toArray _ = Data.dict es ep from d)
    have ns' : ∀ {b : Addr} {m : Str → Option Value}, st.heap.Ns b m → (hidT st.heap T).Ns b m := by
      rintro b m ⟨o, es, ep, e, d, r⟩
      exact ⟨o, es, ep, hidT_get e (noDict e d), d, r⟩
    have baseK : K.In (hidT st.heap T) := by
      intro b o e
      refine hidT_get (hK b o e) ?_
      cases q : T b with
      | none => rfl
      | some u =>
        have eb := isA q
        subst eb
        rw [apart (by rw [q]; exact fun z => by cases z)] at e
        cases e
    obtain ⟨mc, l1, l2⟩ := hL
    have md : Mod K mg (hidT st.heap T) := ⟨baseK, ns' hG, ⟨mb, ns' hB, hBb⟩, mc, ns' l1, l2⟩
    have env : Env0 P w K mg (hidT st.heap T) callerA [] st T :=
      ⟨rfl, md, fun b o e => of_hidT e, Nat.le_of_eq (hidT_size _ _), trivial, fun b hb => absurd (show b ∈ ([] : List Addr) from hb) (by simp), hT, .of_eq hgen⟩
    refine codeAny_mono ((F _ baseK (ns' hG)).go callerA [] st T ⟨[.ref a], []⟩ [.ref a] [.ref a] _ _ room env (bind (.ref a)) (.cons rfl .nil) (want T only hS)) fun r s' out => ?_
    match r, out with
    | .error e, out =>
      obtain ⟨_, _, _, _, _, _, _, _, _, _, _, _, z⟩ := out
      exact z.elim
    | .ok .next, out => exact False.elim out
    | .ok .brk, out => exact False.elim out
    | .ok .cont, out => exact False.elim out
    | .ok (.ret u), ⟨v, T', hos, hbare, un, hT', rv, hv⟩ =>
      have hv' : v = .bl true := hv
      subst hv'
      cases (show u = Value.bool true from rv)
      refine ⟨rfl, OldK.of_keep fun b o e => ?_, hos, hbare⟩
      cases q : T b with
      | none => exact un.keep b o e q (fun z => by cases (show b ∈ ([] : List Addr) from z)) (by simp)
      | some u =>
        rcases only b with z | ⟨ob, xs, z⟩
        · rw [q] at z
          cases z
        · obtain ⟨g1, _⟩ := hT b _ z
          obtain ⟨g2, _⟩ := hT' b _ (un.frzs b ob _ z)
          rw [e] at g1
          cases g1
          exact g2
  cases hk : K.lookup a with
  | some o =>
    have e := hK a o hk
    rw [hobj] at e
    cases e
    refine main (fun _ => none) (fun _ => .inl rfl) (.inr ⟨_, us.toArray, _, hk, rfl, rfl, rfl, ?_, ?_⟩) ?_ (fun b z => absurd rfl z) fun z => absurd rfl z
    · rw [List.size_toArray, lenV]
      exact hlen
    · simpa using rel
    · intro b u z
      cases (show (none : Option HO) = some u from z)
  | none =>
    refine main (fun b => if b = a then some (.frz { cls := .type "list", data := .seq us.toArray } (.lst (ns.map V.int))) else none) ?_ (.inl (.inr ⟨{ cls := .type "list", data := .seq us.toArray }, if_pos rfl⟩)) ?_ ?_ fun _ => hk
    · intro b
      by_cases eb : b = a
      · exact .inr ⟨_, _, if_pos eb⟩
      · exact .inl (if_neg eb)
    · intro b u z
      by_cases eb : b = a
      · cases (if_pos eb).symm.trans z
        subst eb
        exact ⟨hobj, by rw [List.length_map]; exact hlen, us, _, rel, hobj⟩
      · cases (if_neg eb).symm.trans z
    · intro b z
      by_cases eb : b = a
      · exact eb
      · exact absurd (if_neg eb) z

/-! ### the hook: with the table of modules -/
def sysB (G : Gc) (K : PySem.W.Frag) : Bool := (match K.lookup sysModules with
  | some o => o.cls == .type "dict" && (PySem.W.nsIn K cStatics "sys.int_max_str_digits" == some none)
  | none => false) && isiB K && isxB G K
def asP (g : Addr → Option Obj) (n : Nat) : List Addr := sysModules :: cStatics :: He.asD g n
abbrev AlP : Type := He.AlD × Bool
def obsP (fa : List He.Fa) (fn : List He.DefD) (G : Gc) (K : PySem.W.Frag) : AlP := (He.obsD fa fn K, sysB G K)
def obsPG (n : Nat) (fa : List He.Fa) (fn : List He.DefD) (G : Gc) (g : Addr → Option Obj) : AlP := obsP fa fn G (He.frG g (asP g n))
def hookP (n : Nat) (fa : List He.Fa) (fn : List He.DefD) (G : Gc) : PySem.W.Hook where
  α := AlP
  obs := fun s => obsPG n fa fn G s.heap.get?
  val := fun _ => (He.valD fn, true)
  says := fun _ h => ∃ K : PySem.W.Frag, K.In h ∧ He.SaysD fa fn K ∧ sysB G K = true
  of := fun _ _ e => ⟨_, He.frG_in, congrArg Prod.fst e, congrArg Prod.snd e⟩
  keeps := fun _ _ _ ⟨K, hK, c⟩ k => ⟨K, PySem.W.Frag.In.keeps hK k, c⟩
theorem obsPG_eq {n : Nat} {fa : List He.Fa} {fn : List He.DefD} {G : Gc} {g : Addr → Option Obj} {s : Shared} (h : ∀ a, g a = s.heap.get? a) : obsPG n fa fn G g = (hookP n fa fn G).obs s := by
  have e : g = s.heap.get? := funext h
  rw [e]
  rfl
theorem sysB_of {G : Gc} {K : PySem.W.Frag} (h : sysB G K = true) : SysD K ∧ isiB K = true ∧ isxB G K = true := by
  unfold sysB at h
  simp only [Bool.and_eq_true] at h
  obtain ⟨⟨h1, h2⟩, h3⟩ := h
  refine ⟨?_, h2, h3⟩
  split at h1
  · rename_i o e
    rw [Bool.and_eq_true] at h1
    exact ⟨⟨o, e, eq_of_beq h1.1⟩, eq_of_beq h1.2⟩
  · cases h1

/-! ### the end -/
theorem law_end {l : PySem.W.OpenLaw} {n k : Nat} {q : Program} {loose : List Str} {XP : (Str → Option Value) → Heap → Prop} {d : DefRec} {m : Nat} (p : Prg) (x : Str)
    (hn : l.most = some n) (hn2 : n ≤ sizeLine) (hdf : d.params.defaults = []) (hr : RoomG (k + 1) callerA) (hlaw : d.name = Str.ofString "law") (ok : p.okB = true)
    (bi : ∀ (K : PySem.W.Frag), ∀ f ∈ p.dfs, ∀ fd, FunD K f.d.name f.d.qual f.d.params f.d.body f.d.scope (f.d.dvs K) (f.d.kws K) (He.fAd K f.d.at_) fd → BindOk K f fd)
    (hlk : p.gc.fns.lookup "law" = some ⟨[x], [], false, none⟩)
    (goal : ∀ ns : List Int, ns.length ≤ n → run p.fns (k + 1) "law" [.scr (ns.map D.int)] (fun _ => none) (fun d _ => d = .bl true) fun _ _ => False) :
    PySem.W.WalkO q loose XP (fun _ h => ∃ K : PySem.W.Frag, K.In h ∧ He.SaysD p.fa p.fnD K ∧ sysB p.gc K = true) l.row.toRowW d [] (fun f vs => PySem.call f vs) := by
  refine Att.attach_call hn hdf fun w s₀ s₁ mg mb fa o pm cd doc a vs ns G Y ho hd hcd hmg hobj hints hlen hg => ?_
  obtain ⟨K, KX, c, sb⟩ := Y
  obtain ⟨sys, isi, xis⟩ := sysB_of sb
  have E := fun base => run_sound (P := l.prog) (w := w) (base := base) p KX G.T.g c sys isi xis ok (bi K) k
  obtain ⟨df, hm, hnm, hI, hl⟩ := look_fns (dfs := p.dfs) hlk
  obtain ⟨fd, F⟩ := c.defs (d := df.d) (by unfold Prg.fnD; exact List.mem_map.mpr ⟨df, hm, rfl⟩)
  have hps : df.ps = [x] := (congrArg FnI.ps hI).symm
  have hdl : df.dfl = [] := (congrArg FnI.dfl hI).symm
  have ok' := ok
  unfold Prg.okB at ok'
  simp only [Bool.and_eq_true, List.all_eq_true] at ok'
  have hd' := ok'.2 df hm
  unfold dfB at hd'
  simp only [Bool.and_eq_true, decide_eq_true_eq] at hd'
  obtain ⟨h1, h2, h3, h4, h5⟩ := hd'
  obtain ⟨dvs, ds, f1, f2, f3⟩ := (bi K df hm fd F).pos fun z => by
    have hkn : df.kwn = false := (congrArg FnI.kwn hI).symm
    rw [hkn] at z; cases z
  rw [hdl] at f1
  have ed : dvs = [] := by
    cases dvs with
    | nil => rfl
    | cons _ _ => simp [flatDVs] at f1
  subst ed
  cases f2
  have ea : He.fAd K df.d.at_ = fa := by
    have hat : df.at_ = none := (congrArg FnI.at_ hI).symm
    have h1 : df.d.at_ = (Str.ofString df.name, none) := by
      simp only [Bool.or_eq_true, decide_eq_true_eq] at h1
      rcases h1 with z | z
      · rw [hat] at z; cases z
      · exact z
    rw [h1, hnm]
    have g0 : (He.Fa.glo (Str.ofString "law")).ok K = true := c.facts (by
      unfold Prg.fa
      simp only [List.mem_append, List.mem_map]
      refine .inl (.inl (.inl (.inl (.inl ⟨df, hm, ?_⟩))))
      unfold dFa
      rw [hat, hnm])
    have g1 := He.glo_ok KX G.T.g g0
    rw [← hlaw] at g1
    rw [hmg] at g1
    have g2 : fa = He.ga K d.name := by
      cases g1; rfl
    rw [g2, hlaw]
    rfl
  rw [ea] at F
  have er : run p.fns (k + 1) "law" = wpF (run p.fns k) df.fn := by
    funext ds M Q Xc
    have hl' : p.fns.lookup "law" = some df.fn := hl
    simp only [run, hl']
  have hF : ∀ base, FnG l.prog w K mg base (k + 1) fa fd [x] (spOf K mg (run p.fns (k + 1) "law")) := by
    intro base
    rw [er, ← hps]
    exact fn_sound (E base) F (scope_of h2) h3 h4 h5
  have hb : ∀ u : Value, BindsTo s₁ fd ⟨[u], []⟩ [(x, u)] := by
    intro u
    have := f3 s₁ [u] KX (by rw [hps]; rfl)
    rw [hps] at this
    exact this
  refine law_go KX G.T.g G.T.b G.T.builtins G.T.nolimit hg hobj hints (Nat.le_trans hlen hn2) hr (fun base _ _ => hF base) hb fun H hO hS => ?_
  refine ⟨H, fun _ => none, [.scr (ns.map D.int)], fun d _ => d = .bl true, fun _ _ => False, .refl, ?_, ?_, goal ns hlen, ?_, fun c M' U' H' _ hx => hx.elim⟩
  · intro a o e
    cases (show (none : Option DO) = some o from e)
  · simp only [RVs]
    refine ⟨.ref a, [], rfl, ?_, rfl⟩
    simp only [RV]
    refine ⟨a, ns.map V.int, rfl, ?_, RVs.ints⟩
    rcases hS with (h | ⟨o, h⟩) | h
    · rcases hO a with z | ⟨o, xs, z⟩
      · rw [h] at z; cases z
      · rw [h] at z; cases z
    · exact .inl ⟨o, h⟩
    · exact .inr h
  · intro d M' v U' H' _ _ _ rv hd
    subst hd
    simpa only [RV] using rv
end Pw
set_option Elab.async false
set_option linter.all false
set_option maxRecDepth 100000
set_option maxHeartbeats 0
namespace Pw
open PySem PySem.Spec PyProof.Rows L2

/- is_int: 0=value -/
def t_is_int : T := .cons (.ret (.and (.isi (.var 0) ["int"]) (.not (.isi (.var 0) ["bool"])))) .nil
def f_is_int : Fn := ⟨1, 1, t_is_int⟩
/- in_range: 0=value 1=low 2=high -/
def t_in_range : T := .cons (.ret (.and (.call "is_int" (.cons (.var 0) .nil) []) (.chain .le .le (.var 1) (.var 0) (.var 2)))) .nil
def f_in_range : Fn := ⟨3, 3, t_in_range⟩
/- is_entry: 0=value -/
def t_is_entry : T := .cons (.ret (.call "in_range" (.cons (.var 0) (.cons (.neg (.lit (.int 1000000000000000000000000000000))) (.cons (.lit (.int 1000000000000000000000000000000)) .nil))) [])) .nil
def f_is_entry : Fn := ⟨1, 1, t_is_entry⟩
/- is_column: 0=value 1=entry -/
def t_is_column : T := .cons (.ifs (.or (.not (.tst (.isi (.var 0) ["tuple"]))) (.not (.chain .le .le (.lit (.int 1)) (.blt false .len (.cons (.var 0) .nil)) (.lit (.int 60))))) (.cons (.ret (.lit (.bl false))) .nil) .nil) (.cons (.ret (.blt false .all (.cons (.comp false [1] (.call "is_entry" (.cons (.var 1) .nil) []) (.gname 1) (.ival (.var 0)) .nil) .nil))) .nil)
def f_is_column : Fn := ⟨1, 2, t_is_column⟩
/- require_column: 0=value -/
def t_require_column : T := .cons (.ifs (.not (.tst (.call "is_column" (.cons (.var 0) .nil) []))) (.cons (.raise "InvalidColumn" "not a column") .nil) .nil) .nil
def f_require_column : Fn := ⟨1, 1, t_require_column⟩
/- count_in: 0=column 1=seen 2=found 3=entry -/
def t_count_in : T := .cons (.asg (.gname 1) (.dct true)) (.cons (.asg (.gname 2) (.lst true .nil)) (.cons (.for_ [3] (.gname 3) (.ival (.var 0)) (.cons (.expr (.meth false .append (.var 2) (.cons (.meth false .get (.var 1) (.cons (.var 3) (.cons (.lit (.int 0)) .nil))) .nil))) (.cons (.asg (.gsub (.var 1) (.var 3)) (.bin false .add (.idx (.var 2) (.neg (.lit (.int 1)))) (.lit (.int 1)))) .nil))) (.cons (.ret (.conv false false (.var 2))) .nil)))
def f_count_in : Fn := ⟨1, 4, t_count_in⟩
/- running_count: 0=column -/
def t_running_count : T := .cons (.expr (.call "require_column" (.cons (.var 0) .nil) [])) (.cons (.ret (.call "count_in" (.cons (.var 0) .nil) [])) .nil)
def f_running_count : Fn := ⟨1, 1, t_running_count⟩
/- is_name: 0=value 1=letter -/
def t_is_name : T := .cons (.ifs (.or (.not (.tst (.isi (.var 0) ["str"]))) (.not (.chain .le .le (.lit (.int 1)) (.blt false .len (.cons (.var 0) .nil)) (.lit (.int 20))))) (.cons (.ret (.lit (.bl false))) .nil) .nil) (.cons (.ret (.blt false .all (.cons (.comp false [1] (.cmp .in_ (.var 1) (.lit (.str "abcdefghijklmnopqrstuvwxyz"))) (.gname 1) (.ival (.var 0)) .nil) .nil))) .nil)
def f_is_name : Fn := ⟨1, 2, t_is_name⟩
/- are_names: 0=value 1=name -/
def t_are_names : T := .cons (.ret (.and (.isi (.var 0) ["list"]) (.and (.chain .le .le (.lit (.int 1)) (.blt false .len (.cons (.var 0) .nil)) (.lit (.int 60))) (.blt false .all (.cons (.comp false [1] (.call "is_name" (.cons (.var 1) .nil) []) (.gname 1) (.ival (.var 0)) .nil) .nil))))) .nil
def f_are_names : Fn := ⟨1, 2, t_are_names⟩
/- labels_in: 0=names 1=found 2=counts 3=name -/
def t_labels_in : T := .cons (.par [1, 2] (.cons (.lst true .nil) (.cons (.dct true) .nil))) (.cons (.for_ [3] (.gname 3) (.ival (.var 0)) (.cons (.asg (.gsub (.var 2) (.var 3)) (.bin false .add (.meth false .get (.var 2) (.cons (.var 3) (.cons (.lit (.int 0)) .nil))) (.lit (.int 1)))) (.cons (.expr (.meth false .append (.var 1) (.cons (.ite (.cmp .eq (.idx (.var 2) (.var 3)) (.lit (.int 1))) (.var 3) (.bin false .add (.bin false .add (.bin false .add (.var 3) (.lit (.str " ("))) (.blt false .str (.cons (.idx (.var 2) (.var 3)) .nil))) (.lit (.str ")")))) .nil))) .nil))) (.cons (.ret (.var 1)) .nil))
def f_labels_in : Fn := ⟨1, 4, t_labels_in⟩
/- labels_of: 0=names -/
def t_labels_of : T := .cons (.ifs (.not (.tst (.call "are_names" (.cons (.var 0) .nil) []))) (.cons (.raise "InvalidNames" "not a list of names") .nil) .nil) (.cons (.ret (.call "labels_in" (.cons (.var 0) .nil) [])) .nil)
def f_labels_of : Fn := ⟨1, 1, t_labels_of⟩
/- names_of: 0=labels 1=label 2=names -/
def t_names_of : T := .cons (.ifs (.or (.not (.tst (.isi (.var 0) ["list"]))) (.not (.tst (.blt false .all (.cons (.comp false [1] (.isi (.var 1) ["str"]) (.gname 1) (.ival (.var 0)) .nil) .nil))))) (.cons (.raise "InvalidLabels" "not a list of texts") .nil) .nil) (.cons (.asg (.gname 2) (.comp true [1] (.idx (.meth false .split (.var 1) (.cons (.lit (.str " ")) .nil)) (.lit (.int 0))) (.gname 1) (.ival (.var 0)) .nil)) (.cons (.ifs (.or (.not (.tst (.call "are_names" (.cons (.var 2) .nil) []))) (.cmp .ne (.call "labels_in" (.cons (.var 2) .nil) []) (.var 0))) (.cons (.raise "InvalidLabels" "not the labels of a list of names") .nil) .nil) (.cons (.ret (.var 2)) .nil)))
def f_names_of : Fn := ⟨1, 3, t_names_of⟩
/- _law_fount: 0=_law_script 1=_law_k 2=_law_cell -/
def t__law_fount : T := .cons (.asg (.gname 2) (.lit (.int 0))) (.cons (.ifs (.cmp .lt (.var 1) (.blt false .len (.cons (.var 0) .nil))) (.cons (.asg (.gname 2) (.idx (.var 0) (.var 1))) .nil) .nil) (.cons (.ret (.lst true (.cons (.blt false .max (.cons (.lit (.int 0)) (.cons (.bin false .sub (.var 2) (.bin false .pow (.lit (.int 10)) (.lit (.int 18)))) .nil))) (.cons (.bin false .add (.bin false .mul (.bin false .mod (.var 2) (.bin false .add (.bin false .pow (.lit (.int 10)) (.lit (.int 38))) (.lit (.int 133)))) (.lit (.int 256))) (.var 1)) (.cons (.lit (.int 0)) .nil))))) .nil))
def f__law_fount : Fn := ⟨2, 3, t__law_fount⟩
/- _law_sip: 0=_law_fount_here 1=_law_many 2=_law_found 3=_law_mixed_here -/
def t__law_sip : T := .cons (.ifs (.cmp .gt (.idx (.var 0) (.lit (.int 0))) (.lit (.int 0))) (.cons (.asg (.gname 2) (.bin false .mod (.idx (.var 0) (.lit (.int 0))) (.var 1))) (.cons (.asg (.gsub (.var 0) (.lit (.int 0))) (.bin false .fdiv (.idx (.var 0) (.lit (.int 0))) (.var 1))) (.cons (.ret (.var 2)) .nil))) .nil) (.cons (.asg (.gsub (.var 0) (.lit (.int 2))) (.bin false .add (.idx (.var 0) (.lit (.int 2))) (.lit (.int 1)))) (.cons (.asg (.gname 3) (.bin false .mod (.bin false .pow (.bin false .add (.idx (.var 0) (.lit (.int 1))) (.bin false .mul (.lit (.int 122949823)) (.idx (.var 0) (.lit (.int 2))))) (.lit (.int 3))) (.bin false .add (.bin false .pow (.lit (.int 10)) (.lit (.int 43))) (.lit (.int 57))))) (.cons (.asg (.gname 3) (.bin false .mod (.bin false .pow (.bin false .add (.var 3) (.bin false .mul (.lit (.int 67867979)) (.idx (.var 0) (.lit (.int 2))))) (.lit (.int 3))) (.bin false .add (.bin false .pow (.lit (.int 10)) (.lit (.int 41))) (.lit (.int 109))))) (.cons (.ret (.bin false .mod (.bin false .fdiv (.var 3) (.lit (.int 131071))) (.var 1))) .nil))))
def f__law_sip : Fn := ⟨2, 4, t__law_sip⟩
/- _law_names: 0=_law_fount_here 1=_law_most 2=_law_letters 3=_law_few 4=_law_turn 5=_law_size 6=_law_spot 7=_law_wide 8=_law_count -/
def t__law_names : T := .cons (.asg (.gtup (.cons (.gname 2) (.cons (.gname 3) .nil))) (.tup (.cons (.lit (.str "abcdefghijklmnopqrstuvwxyz")) (.cons (.lst true (.cons (.lit (.str "a")) (.cons (.lit (.str "aa")) (.cons (.lit (.str "aaa")) (.cons (.lit (.str "ab")) (.cons (.lit (.str "b")) (.cons (.bin false .mul (.lit (.str "z")) (.lit (.int 20))) (.cons (.bin false .mul (.lit (.str "z")) (.lit (.int 19))) (.cons (.bin false .mul (.lit (.str "y")) (.lit (.int 20))) .nil))))))))) .nil)))) (.cons (.for_ [4, 5] (.gname 4) (.irng (.cons (.lit (.int 4)) .nil)) (.cons (.asg (.gname 5) (.bin false .add (.lit (.int 1)) (.call "_law_sip" (.cons (.var 0) (.cons (.idx (.lst false (.cons (.lit (.int 3)) (.cons (.lit (.int 20)) .nil))) (.call "_law_sip" (.cons (.var 0) (.cons (.lit (.int 2)) .nil)) [])) .nil)) []))) (.cons (.expr (.meth false .append (.var 3) (.cons (.meth false .join (.lit (.str "")) (.cons (.comp false [6] (.idx (.var 2) (.call "_law_sip" (.cons (.var 0) (.cons (.lit (.int 26)) .nil)) [])) (.gname 6) (.irng (.cons (.var 5) .nil)) .nil) .nil)) .nil))) .nil))) (.cons (.asg (.gname 7) (.bin false .add (.lit (.int 1)) (.call "_law_sip" (.cons (.var 0) (.cons (.blt false .len (.cons (.var 3) .nil)) .nil)) []))) (.cons (.asg (.gname 8) (.idx (.lst false (.cons (.bin false .add (.lit (.int 1)) (.call "_law_sip" (.cons (.var 0) (.cons (.var 1) .nil)) [])) (.cons (.var 1) (.cons (.bin false .add (.lit (.int 1)) (.call "_law_sip" (.cons (.var 0) (.cons (.blt false .min (.cons (.var 1) (.cons (.lit (.int 6)) .nil))) .nil)) [])) .nil)))) (.call "_law_sip" (.cons (.var 0) (.cons (.lit (.int 3)) .nil)) []))) (.cons (.ret (.comp false [4] (.idx (.var 3) (.bin false .mod (.bin false .mul (.call "_law_sip" (.cons (.var 0) (.cons (.var 7) .nil)) []) (.lit (.int 5))) (.blt false .len (.cons (.var 3) .nil)))) (.gname 4) (.irng (.cons (.var 8) .nil)) .nil)) .nil))))
def f__law_names : Fn := ⟨2, 9, t__law_names⟩
/- _law_labels: 0=_law_names_here 1=_law_found 2=_law_place 3=_law_name 4=_law_many -/
def t__law_labels : T := .cons (.asg (.gname 1) (.lst true .nil)) (.cons (.for_ [2, 3, 4] (.gtup (.cons (.gname 2) (.cons (.gname 3) .nil))) (.ienum (.var 0)) (.cons (.asg (.gname 4) (.meth false .count (.slc false (.var 0) .nil (.cons (.bin false .add (.var 2) (.lit (.int 1))) .nil)) (.cons (.var 3) .nil))) (.cons (.expr (.meth false .append (.var 1) (.cons (.ite (.cmp .eq (.var 4) (.lit (.int 1))) (.var 3) (.bin false .add (.bin false .add (.bin false .add (.var 3) (.lit (.str " ("))) (.blt false .str (.cons (.var 4) .nil))) (.lit (.str ")")))) .nil))) .nil))) (.cons (.ret (.frz (.var 1))) .nil))
def f__law_labels : Fn := ⟨1, 5, t__law_labels⟩
/- _law_right: 0=_law_names_here 1=_law_kept 2=_law_due 3=_law_again 4=_law_found 5=_law_back 6=_law_places 7=_law_counts 8=_law_name 9=_law_label 10=_law_many -/
def t__law_right : T := .cons (.par [1, 2] (.cons (.blt false .repr (.cons (.var 0) .nil)) (.cons (.call "_law_labels" (.cons (.var 0) .nil) []) .nil))) (.cons (.for_ [3, 4, 5] (.gname 3) (.irng (.cons (.lit (.int 2)) .nil)) (.cons (.par [4, 5] (.cons (.call "labels_of" (.cons (.var 0) .nil) []) (.cons (.call "names_of" (.cons (.var 2) .nil) []) .nil))) (.cons (.ifs (.or (.cmp .ne (.blt false .repr (.cons (.lst false (.cons (.var 4) (.cons (.var 5) .nil))) .nil)) (.blt false .repr (.cons (.lst false (.cons (.var 2) (.cons (.var 0) .nil))) .nil))) (.cmp .ne (.blt false .repr (.cons (.var 0) .nil)) (.var 1))) (.cons (.ret (.lit (.bl false))) .nil) .nil) (.cons (.expr (.meth false .append (.var 4) (.cons (.lit (.str "more")) .nil))) (.cons (.expr (.meth false .append (.var 5) (.cons (.lit (.str "more")) .nil))) .nil))))) (.cons (.asg (.gname 6) (.sset false (.var 0))) (.cons (.asg (.gname 7) (.call "running_count" (.cons (.conv false false (.comp false [8] (.meth false .index (.var 6) (.cons (.var 8) .nil)) (.gname 8) (.ival (.var 0)) .nil)) .nil) [])) (.cons (.for_ [8, 9, 10] (.gtup (.cons (.gname 8) (.cons (.gname 9) (.cons (.gname 10) .nil)))) (.izip (.cons (.var 0) (.cons (.var 2) (.cons (.var 7) .nil)))) (.cons (.ifs (.cmp .ne (.var 9) (.ite (.cmp .eq (.var 10) (.lit (.int 0))) (.var 8) (.bin false .add (.bin false .add (.bin false .add (.var 8) (.lit (.str " ("))) (.blt false .str (.cons (.bin false .add (.var 10) (.lit (.int 1))) .nil))) (.lit (.str ")"))))) (.cons (.ret (.lit (.bl false))) .nil) .nil) .nil)) (.cons (.ret (.cmp .eq (.lset (.var 2)) (.blt false .len (.cons (.var 2) .nil)))) .nil)))))
def f__law_right : Fn := ⟨1, 11, t__law_right⟩
/- law: 0=_law_script 1=_law_letters 2=_law_k 3=_law_fount_here 4=_law_turn 5=_law_sign 6=_law_other -/
def t_law : T := .cons (.asg (.gname 1) (.lit (.str "abcdefghijklmnopqrstuvwxyz"))) (.cons (.for_ [2, 3, 4, 5] (.gname 2) (.irng (.cons (.blt false .max (.cons (.lit (.int 1)) (.cons (.blt false .min (.cons (.lit (.int 6)) (.cons (.blt false .len (.cons (.var 0) .nil)) .nil))) .nil))) .nil)) (.cons (.asg (.gname 3) (.call "_law_fount" (.cons (.var 0) (.cons (.var 2) .nil)) [])) (.cons (.for_ [4] (.gname 4) (.irng (.cons (.lit (.int 3)) .nil)) (.cons (.ifs (.not (.tst (.call "_law_right" (.cons (.call "_law_names" (.cons (.var 3) (.cons (.lit (.int 60)) .nil)) []) .nil) []))) (.cons (.ret (.lit (.bl false))) .nil) .nil) .nil)) (.cons (.asg (.gname 5) (.idx (.var 1) (.call "_law_sip" (.cons (.var 3) (.cons (.lit (.int 26)) .nil)) []))) (.cons (.ifs (.or (.not (.tst (.call "_law_right" (.cons (.bin false .mul (.lst false (.cons (.var 5) .nil)) (.lit (.int 60))) .nil) []))) (.not (.tst (.call "_law_right" (.cons (.bin false .mul (.comp false [6] (.bin false .add (.var 5) (.var 6)) (.gname 6) (.ival (.var 1)) .nil) (.lit (.int 2))) .nil) [])))) (.cons (.ret (.lit (.bl false))) .nil) .nil) .nil))))) (.cons (.ret (.cmp .eq (.call "labels_of" (.cons (.lst false (.cons (.lit (.str "a")) (.cons (.lit (.str "b")) (.cons (.lit (.str "a")) (.cons (.lit (.str "a")) .nil))))) .nil) []) (.lst false (.cons (.lit (.str "a")) (.cons (.lit (.str "b")) (.cons (.lit (.str "a (2)")) (.cons (.lit (.str "a (3)")) .nil))))))) .nil))
def f_law : Fn := ⟨1, 7, t_law⟩
def PG : List (String × Fn) := [("is_int", f_is_int), ("in_range", f_in_range), ("is_entry", f_is_entry), ("is_column", f_is_column), ("require_column", f_require_column), ("count_in", f_count_in), ("running_count", f_running_count), ("is_name", f_is_name), ("are_names", f_are_names), ("labels_in", f_labels_in), ("labels_of", f_labels_of), ("names_of", f_names_of), ("_law_fount", f__law_fount), ("_law_sip", f__law_sip), ("_law_names", f__law_names), ("_law_labels", f__law_labels), ("_law_right", f__law_right), ("law", f_law)]
theorem run_is_int (n : Nat) : run PG (n + 1) "is_int" = wpF (run PG n) f_is_int := rfl
theorem run_in_range (n : Nat) : run PG (n + 1) "in_range" = wpF (run PG n) f_in_range := rfl
theorem run_is_entry (n : Nat) : run PG (n + 1) "is_entry" = wpF (run PG n) f_is_entry := rfl
theorem run_is_column (n : Nat) : run PG (n + 1) "is_column" = wpF (run PG n) f_is_column := rfl
theorem run_require_column (n : Nat) : run PG (n + 1) "require_column" = wpF (run PG n) f_require_column := rfl
theorem run_count_in (n : Nat) : run PG (n + 1) "count_in" = wpF (run PG n) f_count_in := rfl
theorem run_running_count (n : Nat) : run PG (n + 1) "running_count" = wpF (run PG n) f_running_count := rfl
theorem run_is_name (n : Nat) : run PG (n + 1) "is_name" = wpF (run PG n) f_is_name := rfl
theorem run_are_names (n : Nat) : run PG (n + 1) "are_names" = wpF (run PG n) f_are_names := rfl
theorem run_labels_in (n : Nat) : run PG (n + 1) "labels_in" = wpF (run PG n) f_labels_in := rfl
theorem run_labels_of (n : Nat) : run PG (n + 1) "labels_of" = wpF (run PG n) f_labels_of := rfl
theorem run_names_of (n : Nat) : run PG (n + 1) "names_of" = wpF (run PG n) f_names_of := rfl
theorem run__law_fount (n : Nat) : run PG (n + 1) "_law_fount" = wpF (run PG n) f__law_fount := rfl
theorem run__law_sip (n : Nat) : run PG (n + 1) "_law_sip" = wpF (run PG n) f__law_sip := rfl
theorem run__law_names (n : Nat) : run PG (n + 1) "_law_names" = wpF (run PG n) f__law_names := rfl
theorem run__law_labels (n : Nat) : run PG (n + 1) "_law_labels" = wpF (run PG n) f__law_labels := rfl
theorem run__law_right (n : Nat) : run PG (n + 1) "_law_right" = wpF (run PG n) f__law_right := rfl
theorem run_law (n : Nat) : run PG (n + 1) "law" = wpF (run PG n) f_law := rfl
end Pw
set_option Elab.async false
set_option linter.all false
set_option maxRecDepth 100000
set_option maxHeartbeats 0
namespace Pw
open PySem PySem.Spec PyProof.Rows L2
def top (i : Nat) : Stmt := PySem.Challenge.pw_runningcount_k54_labels.main.body.getD i (.Pass ⟨0, 0, 0, 0⟩)
def topM (i j : Nat) : Stmt := match top i with
  | .ClassDef _ _ _ body .. => body.getD j (.Pass ⟨0, 0, 0, 0⟩)
  | _ => .Pass ⟨0, 0, 0, 0⟩
def d_is_int : He.DefD := ⟨(Str.ofString "is_int", none), "is_int", "is_int", defArgs (top 8), defBody (top 8), defScope (top 8), [], []⟩
def df_is_int : Df := ⟨"is_int", d_is_int, ["value"], ["value"], f_is_int, [], false⟩
def d_in_range : He.DefD := ⟨(Str.ofString "in_range", none), "in_range", "in_range", defArgs (top 9), defBody (top 9), defScope (top 9), [], []⟩
def df_in_range : Df := ⟨"in_range", d_in_range, ["value", "low", "high"], ["value", "low", "high"], f_in_range, [], false⟩
def d_is_entry : He.DefD := ⟨(Str.ofString "is_entry", none), "is_entry", "is_entry", defArgs (top 10), defBody (top 10), defScope (top 10), [], []⟩
def df_is_entry : Df := ⟨"is_entry", d_is_entry, ["value"], ["value"], f_is_entry, [], false⟩
def d_is_column : He.DefD := ⟨(Str.ofString "is_column", none), "is_column", "is_column", defArgs (top 11), defBody (top 11), defScope (top 11), [], []⟩
def df_is_column : Df := ⟨"is_column", d_is_column, ["value", "entry"], ["value"], f_is_column, [], false⟩
def d_require_column : He.DefD := ⟨(Str.ofString "require_column", none), "require_column", "require_column", defArgs (top 12), defBody (top 12), defScope (top 12), [], []⟩
def df_require_column : Df := ⟨"require_column", d_require_column, ["value"], ["value"], f_require_column, [], false⟩
def d_count_in : He.DefD := ⟨(Str.ofString "count_in", none), "count_in", "count_in", defArgs (top 13), defBody (top 13), defScope (top 13), [], []⟩
def df_count_in : Df := ⟨"count_in", d_count_in, ["column", "seen", "found", "entry"], ["column"], f_count_in, [], false⟩
def d_running_count : He.DefD := ⟨(Str.ofString "running_count", none), "running_count", "running_count", defArgs (top 14), defBody (top 14), defScope (top 14), [], []⟩
def df_running_count : Df := ⟨"running_count", d_running_count, ["column"], ["column"], f_running_count, [], false⟩
def d_is_name : He.DefD := ⟨(Str.ofString "is_name", none), "is_name", "is_name", defArgs (top 19), defBody (top 19), defScope (top 19), [], []⟩
def df_is_name : Df := ⟨"is_name", d_is_name, ["value", "letter"], ["value"], f_is_name, [], false⟩
def d_are_names : He.DefD := ⟨(Str.ofString "are_names", none), "are_names", "are_names", defArgs (top 20), defBody (top 20), defScope (top 20), [], []⟩
def df_are_names : Df := ⟨"are_names", d_are_names, ["value", "name"], ["value"], f_are_names, [], false⟩
def d_labels_in : He.DefD := ⟨(Str.ofString "labels_in", none), "labels_in", "labels_in", defArgs (top 21), defBody (top 21), defScope (top 21), [], []⟩
def df_labels_in : Df := ⟨"labels_in", d_labels_in, ["names", "found", "counts", "name"], ["names"], f_labels_in, [], false⟩
def d_labels_of : He.DefD := ⟨(Str.ofString "labels_of", none), "labels_of", "labels_of", defArgs (top 22), defBody (top 22), defScope (top 22), [], []⟩
def df_labels_of : Df := ⟨"labels_of", d_labels_of, ["names"], ["names"], f_labels_of, [], false⟩
def d_names_of : He.DefD := ⟨(Str.ofString "names_of", none), "names_of", "names_of", defArgs (top 23), defBody (top 23), defScope (top 23), [], []⟩
def df_names_of : Df := ⟨"names_of", d_names_of, ["labels", "label", "names"], ["labels"], f_names_of, [], false⟩
def d__law_fount : He.DefD := ⟨(Str.ofString "_law_fount", none), "_law_fount", "_law_fount", defArgs (top 25), defBody (top 25), defScope (top 25), [], []⟩
def df__law_fount : Df := ⟨"_law_fount", d__law_fount, ["_law_script", "_law_k", "_law_cell"], ["_law_script", "_law_k"], f__law_fount, [], false⟩
def d__law_sip : He.DefD := ⟨(Str.ofString "_law_sip", none), "_law_sip", "_law_sip", defArgs (top 26), defBody (top 26), defScope (top 26), [], []⟩
def df__law_sip : Df := ⟨"_law_sip", d__law_sip, ["_law_fount_here", "_law_many", "_law_found", "_law_mixed_here"], ["_law_fount_here", "_law_many"], f__law_sip, [], false⟩
def d__law_names : He.DefD := ⟨(Str.ofString "_law_names", none), "_law_names", "_law_names", defArgs (top 28), defBody (top 28), defScope (top 28), [], []⟩
def df__law_names : Df := ⟨"_law_names", d__law_names, ["_law_fount_here", "_law_most", "_law_letters", "_law_few", "_law_turn", "_law_size", "_law_spot", "_law_wide", "_law_count"], ["_law_fount_here", "_law_most"], f__law_names, [], false⟩
def d__law_labels : He.DefD := ⟨(Str.ofString "_law_labels", none), "_law_labels", "_law_labels", defArgs (top 29), defBody (top 29), defScope (top 29), [], []⟩
def df__law_labels : Df := ⟨"_law_labels", d__law_labels, ["_law_names_here", "_law_found", "_law_place", "_law_name", "_law_many"], ["_law_names_here"], f__law_labels, [], false⟩
def d__law_right : He.DefD := ⟨(Str.ofString "_law_right", none), "_law_right", "_law_right", defArgs (top 30), defBody (top 30), defScope (top 30), [], []⟩
def df__law_right : Df := ⟨"_law_right", d__law_right, ["_law_names_here", "_law_kept", "_law_due", "_law_again", "_law_found", "_law_back", "_law_places", "_law_counts", "_law_name", "_law_label", "_law_many"], ["_law_names_here"], f__law_right, [], false⟩
def d_law : He.DefD := ⟨(Str.ofString "law", none), "law", "law", defArgs (top 31), defBody (top 31), defScope (top 31), [], []⟩
def df_law : Df := ⟨"law", d_law, ["_law_script", "_law_letters", "_law_k", "_law_fount_here", "_law_turn", "_law_sign", "_law_other"], ["_law_script"], f_law, [], false⟩
def prg : Prg := ⟨[df_is_int, df_in_range, df_is_entry, df_is_column, df_require_column, df_count_in, df_running_count, df_is_name, df_are_names, df_labels_in, df_labels_of, df_names_of, df__law_fount, df__law_sip, df__law_names, df__law_labels, df__law_right, df_law], [("GREATEST", .int 1000000000000000000000000000000), ("LETTERS", .str "abcdefghijklmnopqrstuvwxyz"), ("MOST_ENTRIES", .int 60), ("MOST_LETTERS", .int 20), ("MOST_NAMES", .int 60)], ["all", "bool", "enumerate", "int", "isinstance", "len", "list", "max", "min", "range", "repr", "set", "sorted", "str", "tuple", "zip"], ["InvalidColumn", "InvalidLabels", "InvalidNames"], [], []⟩
theorem prg_fns : prg.fns = PG := rfl
theorem bi_is_int {K : PySem.W.Frag} {fa : Addr} {fd : FuncData} (F : FunD K d_is_int.name d_is_int.qual d_is_int.params d_is_int.body d_is_int.scope (d_is_int.dvs K) (d_is_int.kws K) fa fd) : BindOk K df_is_int fd := bind_plain rfl rfl (FunD.bindsN (ps := ["value"]) F fun _ _ _ _ _ _ us hl => match us, hl with | [_], _ => rfl)
theorem bi_in_range {K : PySem.W.Frag} {fa : Addr} {fd : FuncData} (F : FunD K d_in_range.name d_in_range.qual d_in_range.params d_in_range.body d_in_range.scope (d_in_range.dvs K) (d_in_range.kws K) fa fd) : BindOk K df_in_range fd := bind_plain rfl rfl (FunD.bindsN (ps := ["value", "low", "high"]) F fun _ _ _ _ _ _ us hl => match us, hl with | [_, _, _], _ => rfl)
theorem bi_is_entry {K : PySem.W.Frag} {fa : Addr} {fd : FuncData} (F : FunD K d_is_entry.name d_is_entry.qual d_is_entry.params d_is_entry.body d_is_entry.scope (d_is_entry.dvs K) (d_is_entry.kws K) fa fd) : BindOk K df_is_entry fd := bind_plain rfl rfl (FunD.bindsN (ps := ["value"]) F fun _ _ _ _ _ _ us hl => match us, hl with | [_], _ => rfl)
theorem bi_is_column {K : PySem.W.Frag} {fa : Addr} {fd : FuncData} (F : FunD K d_is_column.name d_is_column.qual d_is_column.params d_is_column.body d_is_column.scope (d_is_column.dvs K) (d_is_column.kws K) fa fd) : BindOk K df_is_column fd := bind_plain rfl rfl (FunD.bindsN (ps := ["value"]) F fun _ _ _ _ _ _ us hl => match us, hl with | [_], _ => rfl)
theorem bi_require_column {K : PySem.W.Frag} {fa : Addr} {fd : FuncData} (F : FunD K d_require_column.name d_require_column.qual d_require_column.params d_require_column.body d_require_column.scope (d_require_column.dvs K) (d_require_column.kws K) fa fd) : BindOk K df_require_column fd := bind_plain rfl rfl (FunD.bindsN (ps := ["value"]) F fun _ _ _ _ _ _ us hl => match us, hl with | [_], _ => rfl)
theorem bi_count_in {K : PySem.W.Frag} {fa : Addr} {fd : FuncData} (F : FunD K d_count_in.name d_count_in.qual d_count_in.params d_count_in.body d_count_in.scope (d_count_in.dvs K) (d_count_in.kws K) fa fd) : BindOk K df_count_in fd := bind_plain rfl rfl (FunD.bindsN (ps := ["column"]) F fun _ _ _ _ _ _ us hl => match us, hl with | [_], _ => rfl)
theorem bi_running_count {K : PySem.W.Frag} {fa : Addr} {fd : FuncData} (F : FunD K d_running_count.name d_running_count.qual d_running_count.params d_running_count.body d_running_count.scope (d_running_count.dvs K) (d_running_count.kws K) fa fd) : BindOk K df_running_count fd := bind_plain rfl rfl (FunD.bindsN (ps := ["column"]) F fun _ _ _ _ _ _ us hl => match us, hl with | [_], _ => rfl)
theorem bi_is_name {K : PySem.W.Frag} {fa : Addr} {fd : FuncData} (F : FunD K d_is_name.name d_is_name.qual d_is_name.params d_is_name.body d_is_name.scope (d_is_name.dvs K) (d_is_name.kws K) fa fd) : BindOk K df_is_name fd := bind_plain rfl rfl (FunD.bindsN (ps := ["value"]) F fun _ _ _ _ _ _ us hl => match us, hl with | [_], _ => rfl)
theorem bi_are_names {K : PySem.W.Frag} {fa : Addr} {fd : FuncData} (F : FunD K d_are_names.name d_are_names.qual d_are_names.params d_are_names.body d_are_names.scope (d_are_names.dvs K) (d_are_names.kws K) fa fd) : BindOk K df_are_names fd := bind_plain rfl rfl (FunD.bindsN (ps := ["value"]) F fun _ _ _ _ _ _ us hl => match us, hl with | [_], _ => rfl)
theorem bi_labels_in {K : PySem.W.Frag} {fa : Addr} {fd : FuncData} (F : FunD K d_labels_in.name d_labels_in.qual d_labels_in.params d_labels_in.body d_labels_in.scope (d_labels_in.dvs K) (d_labels_in.kws K) fa fd) : BindOk K df_labels_in fd := bind_plain rfl rfl (FunD.bindsN (ps := ["names"]) F fun _ _ _ _ _ _ us hl => match us, hl with | [_], _ => rfl)
theorem bi_labels_of {K : PySem.W.Frag} {fa : Addr} {fd : FuncData} (F : FunD K d_labels_of.name d_labels_of.qual d_labels_of.params d_labels_of.body d_labels_of.scope (d_labels_of.dvs K) (d_labels_of.kws K) fa fd) : BindOk K df_labels_of fd := bind_plain rfl rfl (FunD.bindsN (ps := ["names"]) F fun _ _ _ _ _ _ us hl => match us, hl with | [_], _ => rfl)
theorem bi_names_of {K : PySem.W.Frag} {fa : Addr} {fd : FuncData} (F : FunD K d_names_of.name d_names_of.qual d_names_of.params d_names_of.body d_names_of.scope (d_names_of.dvs K) (d_names_of.kws K) fa fd) : BindOk K df_names_of fd := bind_plain rfl rfl (FunD.bindsN (ps := ["labels"]) F fun _ _ _ _ _ _ us hl => match us, hl with | [_], _ => rfl)
theorem bi__law_fount {K : PySem.W.Frag} {fa : Addr} {fd : FuncData} (F : FunD K d__law_fount.name d__law_fount.qual d__law_fount.params d__law_fount.body d__law_fount.scope (d__law_fount.dvs K) (d__law_fount.kws K) fa fd) : BindOk K df__law_fount fd := bind_plain rfl rfl (FunD.bindsN (ps := ["_law_script", "_law_k"]) F fun _ _ _ _ _ _ us hl => match us, hl with | [_, _], _ => rfl)
theorem bi__law_sip {K : PySem.W.Frag} {fa : Addr} {fd : FuncData} (F : FunD K d__law_sip.name d__law_sip.qual d__law_sip.params d__law_sip.body d__law_sip.scope (d__law_sip.dvs K) (d__law_sip.kws K) fa fd) : BindOk K df__law_sip fd := bind_plain rfl rfl (FunD.bindsN (ps := ["_law_fount_here", "_law_many"]) F fun _ _ _ _ _ _ us hl => match us, hl with | [_, _], _ => rfl)
theorem bi__law_names {K : PySem.W.Frag} {fa : Addr} {fd : FuncData} (F : FunD K d__law_names.name d__law_names.qual d__law_names.params d__law_names.body d__law_names.scope (d__law_names.dvs K) (d__law_names.kws K) fa fd) : BindOk K df__law_names fd := bind_plain rfl rfl (FunD.bindsN (ps := ["_law_fount_here", "_law_most"]) F fun _ _ _ _ _ _ us hl => match us, hl with | [_, _], _ => rfl)
theorem bi__law_labels {K : PySem.W.Frag} {fa : Addr} {fd : FuncData} (F : FunD K d__law_labels.name d__law_labels.qual d__law_labels.params d__law_labels.body d__law_labels.scope (d__law_labels.dvs K) (d__law_labels.kws K) fa fd) : BindOk K df__law_labels fd := bind_plain rfl rfl (FunD.bindsN (ps := ["_law_names_here"]) F fun _ _ _ _ _ _ us hl => match us, hl with | [_], _ => rfl)
theorem bi__law_right {K : PySem.W.Frag} {fa : Addr} {fd : FuncData} (F : FunD K d__law_right.name d__law_right.qual d__law_right.params d__law_right.body d__law_right.scope (d__law_right.dvs K) (d__law_right.kws K) fa fd) : BindOk K df__law_right fd := bind_plain rfl rfl (FunD.bindsN (ps := ["_law_names_here"]) F fun _ _ _ _ _ _ us hl => match us, hl with | [_], _ => rfl)
theorem bi_law {K : PySem.W.Frag} {fa : Addr} {fd : FuncData} (F : FunD K d_law.name d_law.qual d_law.params d_law.body d_law.scope (d_law.dvs K) (d_law.kws K) fa fd) : BindOk K df_law fd := bind_plain rfl rfl (FunD.bindsN (ps := ["_law_script"]) F fun _ _ _ _ _ _ us hl => match us, hl with | [_], _ => rfl)
end Pw
set_option Elab.async false
set_option linter.all false
set_option maxRecDepth 100000
/-! plain laws for the maths side: what is shown, what is equal, loops by an invariant. -/
namespace Pw
open PySem PySem.Spec PyProof.Rows L2

/-! ### what is shown -/
theorem textFrom_le : ∀ (ts : List Str) (k : Nat) (acc : Str), (textFrom k acc ts).length ≤ acc.length + piled ts
  | [], k, acc => by show acc.length ≤ _; omega
  | t :: r, k, acc => by
    have ih := textFrom_le r (k + 1) (acc ++ (if k > 0 then ", " else "" : String) ++ t)
    have e : (acc ++ (if k > 0 then ", " else "" : String) ++ t).length = acc.length + (if k > 0 then 2 else 0) + t.length := by
      rw [strLen_append, strLen_append]
      split <;> rfl
    rw [e] at ih
    show (textFrom (k + 1) _ r).length ≤ _
    rw [piled_cons]
    have e2 : (if k > 0 then 2 else 0 : Nat) ≤ 2 := by split <;> decide
    omega
def Sm (b : Nat) (d : D) : Prop := (toP d).showable = true ∧ (toP d).shown.length ≤ b
abbrev rp (d : D) : Str := (toP d).shown
theorem Sm.mono {b c : Nat} {d : D} (h : Sm b d) (hb : b ≤ c) : Sm c d := ⟨h.1, Nat.le_trans h.2 hb⟩
theorem sm_non : Sm 4 .non := ⟨rfl, by decide⟩
theorem sm_bl : ∀ b : Bool, Sm 5 (.bl b)
  | true => ⟨rfl, by decide⟩
  | false => ⟨rfl, by decide⟩
theorem sm_int {i : Int} (k : Nat) (hk : 0 < k) (h2 : k ≤ 500) (h : i.natAbs < 10 ^ k) : Sm (k + 1) (.int i) := by
  refine ⟨?_, ?_⟩
  · show decide (i.natAbs.log2 < 1920) = true
    refine decide_eq_true ?_
    by_cases h0 : i.natAbs = 0
    · rw [h0]; decide
    · refine (Nat.log2_lt h0).mpr (Nat.lt_of_lt_of_le h (Nat.le_trans (Nat.pow_le_pow_right (by decide) h2) ?_))
      decide +kernel
  · show (Str.ofString (toString i)).length ≤ _
    rw [PySem.ofString_length]
    exact int_text_length_le10 hk h
theorem toPs_len : ∀ xs : List D, (toPs xs).length = xs.length
  | [] => rfl
  | x :: xs => by simp [toPs, toPs_len xs]
theorem shownAll_len : ∀ xs : List PyData, (PyData.shownAll xs).length = xs.length
  | [] => rfl
  | x :: xs => by simp [PyData.shownAll, shownAll_len xs]
theorem piled_toPs {b : Nat} : ∀ xs : List D, (∀ x ∈ xs, Sm b x) → PyData.showableAll (toPs xs) = true ∧ piled (PyData.shownAll (toPs xs)) ≤ xs.length * (b + 2)
  | [], _ => ⟨rfl, by simp [toPs, PyData.shownAll, piled_nil]⟩
  | x :: xs, h => by
    obtain ⟨h1, h2⟩ := piled_toPs xs fun y hy => h y (List.mem_cons_of_mem _ hy)
    obtain ⟨h3, h4⟩ := h x (List.mem_cons_self ..)
    refine ⟨by simp [toPs, PyData.showableAll, h1, h3], ?_⟩
    simp only [toPs, PyData.shownAll, piled_cons, List.length_cons, Nat.add_mul, Nat.one_mul]
    omega
theorem listText_le (ts : List Str) : (listText ts).length ≤ 2 + piled ts := by
  unfold listText
  rw [strLen_append]
  have := textFrom_le ts 0 "["
  have e1 : (("[" : String) : Str).length = 1 := rfl
  have e2 : (("]" : String) : Str).length = 1 := rfl
  omega
theorem join_le (ts : List Str) : (Str.join ", " ts).length ≤ piled ts := by
  by_cases h : ts = []
  · subst h; simp [Str.join]; decide
  · have := join_length_add ts h; omega
theorem tupleText_le (ts : List Str) : (tupleText ts).length ≤ 3 + piled ts := by
  unfold tupleText
  rw [strLen_append, strLen_append]
  have := join_le ts
  have e1 : (("(" : String) : Str).length = 1 := rfl
  have e2 : ((if ts.length == 1 then ",)" else ")" : String) : Str).length ≤ 2 := by split <;> decide
  omega
theorem sm_lst {xs : List D} {n b : Nat} (h : ∀ x ∈ xs, Sm b x) (hn : xs.length ≤ n) : Sm (2 + n * (b + 2)) (.lst xs) := by
  obtain ⟨h1, h2⟩ := piled_toPs xs h
  refine ⟨h1, Nat.le_trans (listText_le _) (Nat.add_le_add_left (Nat.le_trans h2 (Nat.mul_le_mul_right _ hn)) _)⟩
theorem sm_tup {xs : List D} {n b : Nat} (h : ∀ x ∈ xs, Sm b x) (hn : xs.length ≤ n) : Sm (3 + n * (b + 2)) (.tup xs) := by
  obtain ⟨h1, h2⟩ := piled_toPs xs h
  refine ⟨h1, Nat.le_trans (tupleText_le _) (Nat.add_le_add_left (Nat.le_trans h2 (Nat.mul_le_mul_right _ hn)) _)⟩
theorem sm_ints {ns : List Int} {k : Nat} (hk : 0 < k) (h2 : k ≤ 500) (h : ∀ n ∈ ns, n.natAbs < 10 ^ k) : ∀ x ∈ ns.map D.int, Sm (k + 1) x := fun x hx => by
  obtain ⟨i, hi, rfl⟩ := List.mem_map.mp hx
  exact sm_int k hk h2 (h i hi)
theorem bfn_repr {m : Bool} {d : D} {M : Mp} {Q : DK} {b : Nat} (h0 : isD true (see M d) 30 = true) (hs : Sm b (see M d)) (hb : b ≤ LIM) (h : Q (.str (rp (see M d))) M) : bfn m .repr [d] M Q :=
  .inr ⟨_, .inl rfl, h0, hs.1, Nat.le_trans hs.2 hb, h⟩
theorem bfn_reprD {m : Bool} {d y : D} {l : List Addr} {M : Mp} {Q : DK} {b : Nat} (he : settle M 8 d = some (y, l)) (h0 : isD true y 30 = true) (hs : Sm b y) (hb : b ≤ LIM) (h : Q (.str (rp y)) M) : bfn m .repr [d] M Q :=
  .inr ⟨_, .inr ⟨l, he⟩, h0, hs.1, Nat.le_trans hs.2 hb, h⟩
/-- a great whole number, shown -/
theorem bfn_reprI {m : Bool} {i : Int} {M : Mp} {Q : DK} (hi : i.natAbs < 10 ^ 4300) (h : Q (.str (toString i)) M) : bfn m .repr [.int i] M Q := .inl ⟨hi, h⟩

/-! ### data -/
theorem isDs_of {w : Bool} {n : Nat} : ∀ {xs : List D}, (∀ x ∈ xs, isD w x n = true) → isDs w xs n = true
  | [], _ => rfl
  | x :: xs, h => by
    simp only [isDs, Bool.and_eq_true]
    exact ⟨h x (List.mem_cons_self ..), isDs_of fun y hy => h y (List.mem_cons_of_mem _ hy)⟩
@[simp] theorem isD_int {w : Bool} {n : Nat} {i : Int} : isD w (.int i) n = true := by unfold isD; rfl
@[simp] theorem isD_bl {w : Bool} {n : Nat} {i : Bool} : isD w (.bl i) n = true := by unfold isD; rfl
@[simp] theorem isD_str {w : Bool} {n : Nat} {i : Str} : isD w (.str i) n = true := by unfold isD; rfl
@[simp] theorem isD_non {w : Bool} {n : Nat} : isD w .non n = true := by unfold isD; rfl
@[simp] theorem isD_tup {w : Bool} {n : Nat} {xs : List D} : isD w (.tup xs) (n + 1) = isDs w xs n := by simp only [isD]
@[simp] theorem isD_lst {w : Bool} {n : Nat} {xs : List D} : isD w (.lst xs) (n + 1) = isDs w xs n := by simp only [isD]
@[simp] theorem isDs_nil {w : Bool} {n : Nat} : isDs w [] n = true := rfl
@[simp] theorem isDs_cons {w : Bool} {n : Nat} {x : D} {xs : List D} : isDs w (x :: xs) n = (isD w x n && isDs w xs n) := by simp only [isDs]
@[simp] theorem isDs_ints {w : Bool} {n : Nat} {ns : List Int} : isDs w (ns.map D.int) n = true := isDs_of fun x hx => by
  obtain ⟨i, _, rfl⟩ := List.mem_map.mp hx
  exact isD_int
@[simp] theorem isDs_app {w : Bool} {n : Nat} {ys : List D} : ∀ {xs : List D}, isDs w (xs ++ ys) n = (isDs w xs n && isDs w ys n)
  | [] => by simp
  | x :: xs => by simp [isDs_app (xs := xs), Bool.and_assoc]

/-! ### equal -/
@[simp] theorem eqD_int {i j : Int} : eqD (.int i) (.int j) = decide (i = j) := by
  simp only [eqD, toP, PyData.eqv]; exact Bool.eq_iff_iff.mpr (by simp)
@[simp] theorem eqD_bl {i j : Bool} : eqD (.bl i) (.bl j) = decide (i = j) := by
  simp only [eqD, toP, PyData.eqv]; exact Bool.eq_iff_iff.mpr (by simp)
theorem str_beq {a b : Str} : (a == b) = decide (a = b) := Bool.eq_iff_iff.mpr (by simp)
@[simp] theorem eqD_str {i j : Str} : eqD (.str i) (.str j) = decide (i = j) := by
  simp only [eqD, toP, PyData.eqv]; exact str_beq
theorem eqvAll_ints : ∀ {ns ms : List Int}, PyData.eqvAll (toPs (ns.map D.int)) (toPs (ms.map D.int)) = decide (ns = ms)
  | [], [] => by simp [toPs, PyData.eqvAll]
  | [], _ :: _ => by simp [toPs, PyData.eqvAll]
  | _ :: _, [] => by simp [toPs, PyData.eqvAll]
  | n :: ns, m :: ms => by
    have e : PyData.eqv (toP (.int n)) (toP (.int m)) = decide (n = m) := eqD_int
    show (PyData.eqv (toP (.int n)) (toP (.int m)) && PyData.eqvAll (toPs (ns.map D.int)) (toPs (ms.map D.int))) = _
    rw [eqvAll_ints, e]
    exact Bool.eq_iff_iff.mpr (by simp only [Bool.and_eq_true, decide_eq_true_eq, List.cons.injEq])
@[simp] theorem eqD_lst_ints {ns ms : List Int} : eqD (.lst (ns.map D.int)) (.lst (ms.map D.int)) = decide (ns = ms) := by
  simp only [eqD, toP, PyData.eqv]; exact eqvAll_ints
@[simp] theorem eqD_tup_ints {ns ms : List Int} : eqD (.tup (ns.map D.int)) (.tup (ms.map D.int)) = decide (ns = ms) := by
  simp only [eqD, toP, PyData.eqv]; exact eqvAll_ints

/-! ### numbers that may be reckoned -/
theorem mulOk_of {i j : Int} (a b : Nat) (h1 : i.natAbs < 2 ^ a) (h2 : j.natAbs < 2 ^ b) (ha : 0 < a) (hb : 0 < b) (h : a + b ≤ 1000000) : MulOk i j := ⟨a, b, h1, h2, ha, hb, h⟩
theorem divOk_of {j : Int} (a : Nat) (h0 : 0 < j) (h1 : j.natAbs < 2 ^ a) (ha : 0 < a) (h : a ≤ 9000) : DivOk j := ⟨h0, a, h1, ha, h⟩
@[simp] theorem mulOk_lit {i j : Int} (h1 : i.natAbs < 1606938044258990275541962092341162602522202993782792835301376) (h2 : j.natAbs < 1606938044258990275541962092341162602522202993782792835301376) : MulOk i j = True :=
  eq_true (mulOk_of 200 200 h1 h2 (by decide) (by decide) (by decide))
@[simp] theorem divOk_lit {j : Int} (h0 : 0 < j) (h1 : j.natAbs < 1606938044258990275541962092341162602522202993782792835301376) : DivOk j = True :=
  eq_true (divOk_of 200 h0 h1 (by decide) (by decide))
@[simp] theorem powOk_lit {i j : Int} (h0 : 0 ≤ j) (h1 : i.natAbs < 1048576) (h2 : j ≤ 10000) : PowOk i j = True :=
  eq_true ⟨h0, 20, h1, by decide, by omega⟩
/-! ### what is left -/
theorem Lv.here {Q : Mp → Prop} {M : Mp} (h : Q M) : Lv Q M := ⟨M, Sub.refl, h⟩
theorem Lv.new {Q : Mp → Prop} {M : Mp} {p : Addr} {o : DO} (hp : M p = none) (h : Q M) : Lv Q (up M p o) := ⟨M, Sub.up hp, h⟩
theorem Sub.upup {M' M : Mp} {a : Addr} {o : DO} (s : Sub M' M) : Sub (Pw.up M' a o) (Pw.up M a o) := fun b x e => by
  by_cases h : b = a
  · subst h; rw [up_same] at e ⊢; exact e
  · rw [up_ne h] at e ⊢; exact s b x e
theorem up_comm {M : Mp} {a b : Addr} {o o' : DO} (h : a ≠ b) : up (up M a o) b o' = up (up M b o') a o := by
  funext c; unfold up; split <;> rename_i h1 <;> split <;> rename_i h2 <;> first | rfl | (exact absurd (h2.symm.trans h1) h)
@[simp] theorem up_same' {M : Mp} {a : Addr} {o : DO} : up M a o a = some o := up_same
@[simp] theorem up_up' {M : Mp} {a : Addr} {o o' : DO} : up (up M a o) a o' = up M a o' := up_up

theorem up_id {M : Mp} {a : Addr} {o : DO} (h : M a = some o) : up M a o = M := by
  funext b; unfold up; split
  · rename_i e; rw [e, h]
  · rfl
theorem mapP_id {f : D → Option (D × List Addr)} : ∀ {ds : List D}, (∀ d ∈ ds, f d = some (d, [])) → mapP f ds = some (ds, [])
  | [], _ => rfl
  | d :: ds, h => by
    simp only [mapP, h d (List.mem_cons_self ..), mapP_id fun x hx => h x (List.mem_cons_of_mem _ hx)]; rfl
theorem settle_data {M : Mp} {n : Nat} {d : D} (h : isD true d 30 = true) : settle M (n + 1) d = some (d, []) := by
  unfold settle; rw [h]
theorem settle_ref {M : Mp} {n : Nat} {a : Addr} {ds : List D} (h : M a = some (.lst ds)) (hd : ∀ d ∈ ds, isD true d 30 = true) : settle M (n + 2) (.ref a) = some (.lst ds, [a]) := by
  have e : isD true (.ref a) 30 = false := by simp [isD]
  unfold settle
  rw [e]
  simp only [h, mapP_id fun d hm => settle_data (M := M) (n := n) (hd d hm)]
  rfl
/-! ### loops -/
theorem flatMap_one {α β : Type} (f : α → β) : ∀ xs : List α, (xs.flatMap fun d => [f d]) = xs.map f
  | [] => rfl
  | x :: xs => by rw [List.flatMap_cons, flatMap_one f xs]; rfl
theorem forL_inv {step : D → (St → Mp → Prop) → St → Mp → Prop} {clr : List Nat} {still : Mp → Prop} {nx : St → Mp → Prop} (I : List D → St → Mp → Prop)
    (h1 : ∀ d ds δ M, I (d :: ds) δ M → still M ∧ ∀ k : St → Mp → Prop, (∀ δ' M', I ds (wipeD δ' clr) M' → k δ' M') → step d k δ M)
    (h2 : ∀ δ M, I [] δ M → still M ∧ nx δ M) : ∀ ds δ M, I ds δ M → forL step clr still nx ds δ M
  | [], δ, M, h => h2 δ M h
  | d :: ds, δ, M, h => ⟨(h1 d ds δ M h).1, (h1 d ds δ M h).2 _ fun δ' M' h' => forL_inv I h1 h2 ds (wipeD δ' clr) M' h'⟩
theorem compL_inv {α : Type} {g : D → St → Mp → (St → Mp → Prop) → Prop} {tt : St → Mp → (Bool → Mp → Prop) → Prop} {te : St → Mp → (α → Mp → (α → Mp → Prop) → Prop)} {still : Mp → Prop} {δ : St} {K : α → Mp → Prop}
    (I : List D → α → Mp → Prop)
    (h1 : ∀ d ds acc M, I (d :: ds) acc M → still M ∧ ∀ k : α → Mp → Prop, (∀ acc' M', I ds acc' M' → k acc' M') → g d δ M fun δ1 M1 => tt δ1 M1 fun b M2 => match b with
      | true => te δ1 M2 acc M2 k
      | false => k acc M2)
    (h2 : ∀ acc M, I [] acc M → still M ∧ K acc M) : ∀ ds acc M, I ds acc M → compL g tt te still δ K ds acc M
  | [], acc, M, h => h2 acc M h
  | d :: ds, acc, M, h => by
    refine ⟨(h1 d ds acc M h).1, ?_⟩
    have z := (h1 d ds acc M h).2 (fun acc' M' => compL g tt te still δ K ds acc' M') fun acc' M' h' => compL_inv I h1 h2 ds acc' M' h'
    exact z
/-- a comprehension that changes nothing -/
theorem compL_pure {g : D → St → Mp → (St → Mp → Prop) → Prop} {tt : St → Mp → (Bool → Mp → Prop) → Prop} {te : St → Mp → (List D → Mp → (List D → Mp → Prop) → Prop)} {still : Mp → Prop} {δ : St} {K : List D → Mp → Prop} {M : Mp} {ds : List D}
    (f : D → List D) (hs : still M)
    (h1 : ∀ d ∈ ds, ∀ acc, ∀ k : List D → Mp → Prop, k (acc ++ f d) M → g d δ M fun δ1 M1 => tt δ1 M1 fun b M2 => match b with
      | true => te δ1 M2 acc M2 k
      | false => k acc M2)
    (h2 : K (ds.flatMap f) M) : compL g tt te still δ K ds [] M := by
  refine compL_inv (I := fun ds' acc M' => M' = M ∧ (∀ d ∈ ds', d ∈ ds) ∧ acc ++ ds'.flatMap f = ds.flatMap f) ?_ ?_ ds [] M ⟨rfl, fun _ h => h, rfl⟩
  · intro d ds' acc M' ⟨e, hm, ha⟩
    subst e
    refine ⟨hs, fun k hk => h1 d (hm d (List.mem_cons_self ..)) acc k (hk _ _ ⟨rfl, fun x hx => hm x (List.mem_cons_of_mem _ hx), ?_⟩)⟩
    rw [← ha]; simp
  · intro acc M' ⟨e, _, ha⟩
    subst e
    refine ⟨hs, ?_⟩
    have : acc = ds.flatMap f := by simpa using ha
    rw [this]; exact h2

@[simp] theorem rep_one {xs : List D} : rep 1 xs = xs := by simp [rep]
@[simp] theorem rep_zero {xs : List D} : rep 0 xs = [] := by simp [rep]
@[simp ↓] theorem mkN_false {ds : List D} {M : Mp} {Q : DK} : mkN false ds M Q = Q (.lst ds) M := rfl
@[simp ↓] theorem mkN_true {ds : List D} {M : Mp} {Q : DK} : mkN true ds M Q = ∀ p, M p = none → Q (.ref p) (up M p (.lst ds)) := rfl
end Pw
set_option Elab.async false
set_option linter.all false
set_option maxRecDepth 100000
/-! the equations of the wp functions, for simp (printed by gen_eq.py) -/
namespace Pw
open PySem PySem.Spec PyProof.Rows L2
variable {Γ : String → SpD} {xk : XD}
/-- what simp shall not look into -/
inductive Hid {α : Type} (q : α) : Type where
  | mk
/-- the wp functions, locked: nothing can unfold them but the equations below (else the kernel runs through them) -/
structure Funs where
  E : (String → SpD) → XD → T → St → Mp → DK → Prop
  T' : (String → SpD) → XD → T → St → Mp → (Bool → Mp → Prop) → Prop
  Ts : (String → SpD) → XD → T → St → Mp → (Bool → Mp → Prop) → Prop
  L : (String → SpD) → XD → T → St → Mp → (List D → Mp → Prop) → Prop
  O : (String → SpD) → XD → T → St → Mp → (Option Int → Mp → Prop) → Prop
  X : (String → SpD) → XD → T → St → Mp → (List D → Mp → Prop) → Prop
  I : (String → SpD) → XD → T → St → Mp → (List D → (Mp → Prop) → Mp → Prop) → Prop
  G : (String → SpD) → XD → T → D → St → Mp → (St → Mp → Prop) → Prop
  Gs : (String → SpD) → XD → T → List D → St → Mp → (St → Mp → Prop) → Prop
  S : (String → SpD) → XD → T → En → St → Mp → Prop
  Ss : (String → SpD) → XD → T → En → St → Mp → Prop
def funs0 : Funs := ⟨wpE, wpT, wpTs, wpL, wpO, wpX, wpI, wpG, wpGs, wpS, wpSs⟩
theorem funs_ex : ∃ f : Funs, f = funs0 := ⟨_, rfl⟩
noncomputable def zf : Funs := Classical.choose funs_ex
theorem zf_eq : zf = funs0 := Classical.choose_spec funs_ex
noncomputable def zE := zf.E
theorem zE_eq : zE = wpE := by unfold zE; rw [zf_eq]; rfl
noncomputable def zT := zf.T'
theorem zT_eq : zT = wpT := by unfold zT; rw [zf_eq]; rfl
noncomputable def zTs := zf.Ts
theorem zTs_eq : zTs = wpTs := by unfold zTs; rw [zf_eq]; rfl
noncomputable def zL := zf.L
theorem zL_eq : zL = wpL := by unfold zL; rw [zf_eq]; rfl
noncomputable def zO := zf.O
theorem zO_eq : zO = wpO := by unfold zO; rw [zf_eq]; rfl
noncomputable def zX := zf.X
theorem zX_eq : zX = wpX := by unfold zX; rw [zf_eq]; rfl
noncomputable def zI := zf.I
theorem zI_eq : zI = wpI := by unfold zI; rw [zf_eq]; rfl
noncomputable def zG := zf.G
theorem zG_eq : zG = wpG := by unfold zG; rw [zf_eq]; rfl
noncomputable def zGs := zf.Gs
theorem zGs_eq : zGs = wpGs := by unfold zGs; rw [zf_eq]; rfl
noncomputable def zS := zf.S
theorem zS_eq : zS = wpS := by unfold zS; rw [zf_eq]; rfl
noncomputable def zSs := zf.Ss
theorem zSs_eq : zSs = wpSs := by unfold zSs; rw [zf_eq]; rfl

def runH (Γ : String → SpD) (f : String) (ds : List D) (M : Mp) (Q : DK) (X : Str → Mp → Prop) (_ : Hid Q) (_ : Hid X) : Prop := Γ f ds M Q X
def forH (step : D → (St → Mp → Prop) → St → Mp → Prop) (clr : List Nat) (still : Mp → Prop) (nx : St → Mp → Prop) (ds : List D) (δ : St) (M : Mp) (_ : Hid step) (_ : Hid nx) : Prop := forL step clr still nx ds δ M
def compH {α : Type} (g : D → St → Mp → (St → Mp → Prop) → Prop) (tt : St → Mp → (Bool → Mp → Prop) → Prop) (te : St → Mp → (α → Mp → (α → Mp → Prop) → Prop)) (still : Mp → Prop) (δ : St) (K : α → Mp → Prop) (ds : List D) (acc : α) (M : Mp) (_ : Hid g) (_ : Hid tt) (_ : Hid te) (_ : Hid K) : Prop := compL g tt te still δ K ds acc M

@[simp ↓] theorem wpE_var {i : Nat} {δ : St} {M : Mp} {Q : DK} : zE Γ xk (.var i) δ M Q = ((match δ[i]? with
    | some (some d) => Q d M
    | _ => False)) := by dsimp only [zE, zT, zTs, zL, zO, zX, zI, zG, zGs, zS, zSs]; generalize hz : zf = f; (have e := hz.symm.trans zf_eq); subst e; rfl
@[simp ↓] theorem wpE_lit {d : D} {u0 : St} {M : Mp} {Q : DK} : zE Γ xk (.lit d) u0 M Q = (Q d M) := by dsimp only [zE, zT, zTs, zL, zO, zX, zI, zG, zGs, zS, zSs]; generalize hz : zf = f; (have e := hz.symm.trans zf_eq); subst e; rfl
@[simp ↓] theorem wpE_bin {m : Bool} {op : BinO} {a : T} {b : T} {δ : St} {M : Mp} {Q : DK} : zE Γ xk (.bin m op a b) δ M Q = (zE Γ xk a δ M fun x M1 => zE Γ xk b δ M1 fun y M2 => bop m op x y M2 Q) := by dsimp only [zE, zT, zTs, zL, zO, zX, zI, zG, zGs, zS, zSs]; generalize hz : zf = f; (have e := hz.symm.trans zf_eq); subst e; rfl
@[simp ↓] theorem wpE_neg {a : T} {δ : St} {M : Mp} {Q : DK} : zE Γ xk (.neg a) δ M Q = (zE Γ xk a δ M fun x M1 => (match x with
    | .int i => Q (.int (-i)) M1
    | _ => False)) := by dsimp only [zE, zT, zTs, zL, zO, zX, zI, zG, zGs, zS, zSs]; generalize hz : zf = f; (have e := hz.symm.trans zf_eq); subst e; rfl
@[simp ↓] theorem wpE_not {a : T} {δ : St} {M : Mp} {Q : DK} : zE Γ xk (.not a) δ M Q = (zE Γ xk a δ M fun x M1 => (match x with
    | .bl b => Q (.bl (!b)) M1
    | _ => False)) := by dsimp only [zE, zT, zTs, zL, zO, zX, zI, zG, zGs, zS, zSs]; generalize hz : zf = f; (have e := hz.symm.trans zf_eq); subst e; rfl
@[simp ↓] theorem wpE_and {a : T} {b : T} {δ : St} {M : Mp} {Q : DK} : zE Γ xk (.and a b) δ M Q = (zE Γ xk a δ M fun x M1 => (match x with
    | .bl true => zE Γ xk b δ M1 Q
    | .bl false => Q (.bl false) M1
    | _ => False)) := by dsimp only [zE, zT, zTs, zL, zO, zX, zI, zG, zGs, zS, zSs]; generalize hz : zf = f; (have e := hz.symm.trans zf_eq); subst e; rfl
@[simp ↓] theorem wpE_or {a : T} {b : T} {δ : St} {M : Mp} {Q : DK} : zE Γ xk (.or a b) δ M Q = (zE Γ xk a δ M fun x M1 => (match x with
    | .bl true => Q (.bl true) M1
    | .bl false => zE Γ xk b δ M1 Q
    | _ => False)) := by dsimp only [zE, zT, zTs, zL, zO, zX, zI, zG, zGs, zS, zSs]; generalize hz : zf = f; (have e := hz.symm.trans zf_eq); subst e; rfl
@[simp ↓] theorem wpE_cmp {op : CmpO} {a : T} {b : T} {δ : St} {M : Mp} {Q : DK} : zE Γ xk (.cmp op a b) δ M Q = (zE Γ xk a δ M fun x M1 => zE Γ xk b δ M1 fun y M2 => cop op x y M2 fun k => Q (.bl k) M2) := by dsimp only [zE, zT, zTs, zL, zO, zX, zI, zG, zGs, zS, zSs]; generalize hz : zf = f; (have e := hz.symm.trans zf_eq); subst e; rfl
@[simp ↓] theorem wpE_chain {o1 : CmpO} {o2 : CmpO} {a : T} {b : T} {c : T} {δ : St} {M : Mp} {Q : DK} : zE Γ xk (.chain o1 o2 a b c) δ M Q = (zE Γ xk a δ M fun x M1 => zE Γ xk b δ M1 fun y M2 => cop o1 x y M2 fun k => (match k with
    | true => zE Γ xk c δ M2 fun z M3 => cop o2 y z M3 fun k => Q (.bl k) M3
    | false => Q (.bl false) M2)) := by dsimp only [zE, zT, zTs, zL, zO, zX, zI, zG, zGs, zS, zSs]; generalize hz : zf = f; (have e := hz.symm.trans zf_eq); subst e; rfl
@[simp ↓] theorem wpE_ite {c : T} {a : T} {b : T} {δ : St} {M : Mp} {Q : DK} : zE Γ xk (.ite c a b) δ M Q = (zT Γ xk c δ M fun k M1 => (match k with
    | true => zE Γ xk a δ M1 Q
    | false => zE Γ xk b δ M1 Q)) := by dsimp only [zE, zT, zTs, zL, zO, zX, zI, zG, zGs, zS, zSs]; generalize hz : zf = f; (have e := hz.symm.trans zf_eq); subst e; rfl
@[simp ↓] theorem wpE_tup {es : T} {δ : St} {M : Mp} {Q : DK} : zE Γ xk (.tup es) δ M Q = (zL Γ xk es δ M fun ds M1 => Q (.tup ds) M1) := by dsimp only [zE, zT, zTs, zL, zO, zX, zI, zG, zGs, zS, zSs]; generalize hz : zf = f; (have e := hz.symm.trans zf_eq); subst e; rfl
@[simp ↓] theorem wpE_tups {es : T} {δ : St} {M : Mp} {Q : DK} : zE Γ xk (.tups es) δ M Q = (zX Γ xk es δ M fun ds M1 => ds.length ≤ LIM ∧ Q (.tup ds) M1) := by dsimp only [zE, zT, zTs, zL, zO, zX, zI, zG, zGs, zS, zSs]; generalize hz : zf = f; (have e := hz.symm.trans zf_eq); subst e; rfl
@[simp ↓] theorem wpE_lst {m : Bool} {es : T} {δ : St} {M : Mp} {Q : DK} : zE Γ xk (.lst m es) δ M Q = (zL Γ xk es δ M fun ds M1 => mkN m ds M1 Q) := by dsimp only [zE, zT, zTs, zL, zO, zX, zI, zG, zGs, zS, zSs]; generalize hz : zf = f; (have e := hz.symm.trans zf_eq); subst e; rfl
@[simp ↓] theorem wpE_dct {m : Bool} {u0 : St} {M : Mp} {Q : DK} : zE Γ xk (.dct m) u0 M Q = ((match m with
    | true => ∀ p, M p = none → Q (.ref p) (up M p (.dic []))
    | false => Q (.dic []) M)) := by dsimp only [zE, zT, zTs, zL, zO, zX, zI, zG, zGs, zS, zSs]; generalize hz : zf = f; (have e := hz.symm.trans zf_eq); subst e; rfl
@[simp ↓] theorem wpE_dctT {u0 : St} {M : Mp} {Q : DK} : zE Γ xk (.dctT) u0 M Q = (∀ p, M p = none → Q (.ref p) (up M p (.dicT none []))) := by dsimp only [zE, zT, zTs, zL, zO, zX, zI, zG, zGs, zS, zSs]; generalize hz : zf = f; (have e := hz.symm.trans zf_eq); subst e; rfl
@[simp ↓] theorem wpE_call {f : String} {es : T} {dfl : List D} {δ : St} {M : Mp} {Q : DK} : zE Γ xk (.call f es dfl) δ M Q = (zL Γ xk es δ M fun ds M1 => runH Γ f (ds ++ dfl) M1 Q (fun c M' => xk c δ M') .mk .mk) := by dsimp only [zE, zT, zTs, zL, zO, zX, zI, zG, zGs, zS, zSs]; generalize hz : zf = f; (have e := hz.symm.trans zf_eq); subst e; rfl
@[simp ↓] theorem wpE_callk {f : String} {es : T} {u0 : Str} {e : T} {δ : St} {M : Mp} {Q : DK} : zE Γ xk (.callk f es u0 e) δ M Q = (zL Γ xk es δ M fun ds M1 => zE Γ xk e δ M1 fun d M2 => runH Γ f (ds ++ [d]) M2 Q (fun c M' => xk c δ M') .mk .mk) := by dsimp only [zE, zT, zTs, zL, zO, zX, zI, zG, zGs, zS, zSs]; generalize hz : zf = f; (have e := hz.symm.trans zf_eq); subst e; rfl
@[simp ↓] theorem wpE_blt {m : Bool} {f : BF} {es : T} {δ : St} {M : Mp} {Q : DK} : zE Γ xk (.blt m f es) δ M Q = (zL Γ xk es δ M fun ds M1 => bfn m f ds M1 Q) := by dsimp only [zE, zT, zTs, zL, zO, zX, zI, zG, zGs, zS, zSs]; generalize hz : zf = f; (have e := hz.symm.trans zf_eq); subst e; rfl
@[simp ↓] theorem wpE_isi {e : T} {tys : List String} {δ : St} {M : Mp} {Q : DK} : zE Γ xk (.isi e tys) δ M Q = (zE Γ xk e δ M fun x M1 => (match nm (see M1 x) with
    | some n => Q (.bl (tys.any fun t => isI1 n t)) M1
    | none => False)) := by dsimp only [zE, zT, zTs, zL, zO, zX, zI, zG, zGs, zS, zSs]; generalize hz : zf = f; (have e := hz.symm.trans zf_eq); subst e; rfl
@[simp ↓] theorem wpE_conv {m : Bool} {l : Bool} {e : T} {δ : St} {M : Mp} {Q : DK} : zE Γ xk (.conv m l e) δ M Q = (zE Γ xk e δ M fun x M1 => convD m l x M1 Q) := by dsimp only [zE, zT, zTs, zL, zO, zX, zI, zG, zGs, zS, zSs]; generalize hz : zf = f; (have e := hz.symm.trans zf_eq); subst e; rfl
@[simp ↓] theorem wpE_convr {m : Bool} {l : Bool} {es : T} {δ : St} {M : Mp} {Q : DK} : zE Γ xk (.convr m l es) δ M Q = (zL Γ xk es δ M fun ds M1 => rngV (fun ds M2 => match l with
    | true => mkN m ds M2 Q
    | false => Q (.tup ds) M2) ds M1) := by dsimp only [zE, zT, zTs, zL, zO, zX, zI, zG, zGs, zS, zSs]; generalize hz : zf = f; (have e := hz.symm.trans zf_eq); subst e; rfl
@[simp ↓] theorem wpE_convv {e : T} {δ : St} {M : Mp} {Q : DK} : zE Γ xk (.convv e) δ M Q = (zE Γ xk e δ M fun x M1 => (match lstOf M1 x with
    | some ds => Q (.tup ds.reverse) M1
    | none => False)) := by dsimp only [zE, zT, zTs, zL, zO, zX, zI, zG, zGs, zS, zSs]; generalize hz : zf = f; (have e := hz.symm.trans zf_eq); subst e; rfl
@[simp ↓] theorem wpE_meth {m : Bool} {f : MF} {o : T} {es : T} {δ : St} {M : Mp} {Q : DK} : zE Γ xk (.meth m f o es) δ M Q = (zE Γ xk o δ M fun x M1 => (match rcv M1 f x with
    | some k => zL Γ xk es δ M1 fun ds M2 => mth m k f x ds M2 Q
    | none => False)) := by dsimp only [zE, zT, zTs, zL, zO, zX, zI, zG, zGs, zS, zSs]; generalize hz : zf = f; (have e := hz.symm.trans zf_eq); subst e; rfl
@[simp ↓] theorem wpE_idx {a : T} {i : T} {δ : St} {M : Mp} {Q : DK} : zE Γ xk (.idx a i) δ M Q = (zE Γ xk a δ M fun x M1 => zE Γ xk i δ M1 fun y M2 => ixD x y M2 Q) := by dsimp only [zE, zT, zTs, zL, zO, zX, zI, zG, zGs, zS, zSs]; generalize hz : zf = f; (have e := hz.symm.trans zf_eq); subst e; rfl
@[simp ↓] theorem wpE_slc {m : Bool} {a : T} {lo : T} {hi : T} {δ : St} {M : Mp} {Q : DK} : zE Γ xk (.slc m a lo hi) δ M Q = (zE Γ xk a δ M fun x M1 => zO Γ xk lo δ M1 fun l M2 => zO Γ xk hi δ M2 fun h M3 => slD m x l h M3 Q) := by dsimp only [zE, zT, zTs, zL, zO, zX, zI, zG, zGs, zS, zSs]; generalize hz : zf = f; (have e := hz.symm.trans zf_eq); subst e; rfl
@[simp ↓] theorem wpE_revs {m : Bool} {a : T} {δ : St} {M : Mp} {Q : DK} : zE Γ xk (.revs m a) δ M Q = (zE Γ xk a δ M fun x M1 => (match see M1 x with
    | .tup ds => Q (.tup ds.reverse) M1
    | .lst ds => mkN m ds.reverse M1 Q
    | _ => False)) := by dsimp only [zE, zT, zTs, zL, zO, zX, zI, zG, zGs, zS, zSs]; generalize hz : zf = f; (have e := hz.symm.trans zf_eq); subst e; rfl
@[simp ↓] theorem wpE_srtv {m : Bool} {a : T} {δ : St} {M : Mp} {Q : DK} : zE Γ xk (.srtv m a) δ M Q = (zE Γ xk a δ M fun x M1 => srtvD m x M1 Q) := by dsimp only [zE, zT, zTs, zL, zO, zX, zI, zG, zGs, zS, zSs]; generalize hz : zf = f; (have e := hz.symm.trans zf_eq); subst e; rfl
@[simp ↓] theorem wpE_sset {m : Bool} {a : T} {δ : St} {M : Mp} {Q : DK} : zE Γ xk (.sset m a) δ M Q = (zE Γ xk a δ M fun x M1 => ssetD m x M1 Q) := by dsimp only [zE, zT, zTs, zL, zO, zX, zI, zG, zGs, zS, zSs]; generalize hz : zf = f; (have e := hz.symm.trans zf_eq); subst e; rfl
@[simp ↓] theorem wpE_ldct {a : T} {δ : St} {M : Mp} {Q : DK} : zE Γ xk (.ldct a) δ M Q = (zE Γ xk a δ M fun x M1 => ldctD x M1 Q) := by dsimp only [zE, zT, zTs, zL, zO, zX, zI, zG, zGs, zS, zSs]; generalize hz : zf = f; (have e := hz.symm.trans zf_eq); subst e; rfl
@[simp ↓] theorem wpE_lset {a : T} {δ : St} {M : Mp} {Q : DK} : zE Γ xk (.lset a) δ M Q = (zE Γ xk a δ M fun x M1 => lsetD x M1 Q) := by dsimp only [zE, zT, zTs, zL, zO, zX, zI, zG, zGs, zS, zSs]; generalize hz : zf = f; (have e := hz.symm.trans zf_eq); subst e; rfl
@[simp ↓] theorem wpE_attr {f : Str} {o : T} {δ : St} {M : Mp} {Q : DK} : zE Γ xk (.attr f o) δ M Q = (zE Γ xk o δ M fun x M1 => attrD f x M1 Q) := by dsimp only [zE, zT, zTs, zL, zO, zX, zI, zG, zGs, zS, zSs]; generalize hz : zf = f; (have e := hz.symm.trans zf_eq); subst e; rfl
@[simp ↓] theorem wpE_mcall {key : String} {c : Str} {m : Str} {o : T} {es : T} {δ : St} {M : Mp} {Q : DK} : zE Γ xk (.mcall key c m o es) δ M Q = (zE Γ xk o δ M fun x M1 => insOk c m x M1 ∧ zL Γ xk es δ M1 fun ds M2 => runH Γ key (x :: ds) M2 Q (fun c' M' => xk c' δ M') .mk .mk) := by dsimp only [zE, zT, zTs, zL, zO, zX, zI, zG, zGs, zS, zSs]; generalize hz : zf = f; (have e := hz.symm.trans zf_eq); subst e; rfl
@[simp ↓] theorem wpE_make {key : String} {c : Str} {es : T} {δ : St} {M : Mp} {Q : DK} : zE Γ xk (.make key c es) δ M Q = (zL Γ xk es δ M fun ds M1 => ∀ p, M1 p = none → runH Γ key (.ref p :: ds) (up M1 p (.ins c [])) (fun v M2 => v = .non ∧ Q (.ref p) M2) (fun c' M' => xk c' δ M') .mk .mk) := by dsimp only [zE, zT, zTs, zL, zO, zX, zI, zG, zGs, zS, zSs]; generalize hz : zf = f; (have e := hz.symm.trans zf_eq); subst e; rfl
@[simp ↓] theorem wpE_comp {m : Bool} {own : List Nat} {elt : T} {t : T} {it : T} {ifs : T} {δ : St} {M : Mp} {Q : DK} : zE Γ xk (.comp m own elt t it ifs) δ M Q = (zI Γ xk it δ M fun ds still M1 => compH (zG Γ never t) (zTs Γ never ifs) (fun δ1 M acc M' K => zE Γ never elt δ1 M' fun x M'' => K (acc ++ [x]) M'') still (wipeD δ own)
      (fun acc M2 => mkN m acc M2 Q) ds [] M1 .mk .mk .mk .mk) := by dsimp only [zE, zT, zTs, zL, zO, zX, zI, zG, zGs, zS, zSs]; generalize hz : zf = f; (have e := hz.symm.trans zf_eq); subst e; rfl
@[simp ↓] theorem wpE_comp2 {m : Bool} {own : List Nat} {own2 : List Nat} {elt : T} {t : T} {it : T} {ifs : T} {t2 : T} {it2 : T} {ifs2 : T} {δ : St} {M : Mp} {Q : DK} : zE Γ xk (.comp2 m own own2 elt t it ifs t2 it2 ifs2) δ M Q = (zI Γ xk it δ M fun ds still M1 => compH (zG Γ never t) (zTs Γ never ifs)
      (fun δ1 _ acc M2 K => zI Γ never it2 δ1 M2 fun ds2 still2 M3 => compH (zG Γ never t2) (zTs Γ never ifs2) (fun δ3 _ acc M' K' => zE Γ never elt δ3 M' fun x M'' => acc.length < LIM ∧ K' (acc ++ [x]) M'') still2 (wipeD δ1 own2) K ds2 acc M3 .mk .mk .mk .mk) still (wipeD δ own)
      (fun acc M2 => mkN m acc M2 Q) ds [] M1 .mk .mk .mk .mk) := by dsimp only [zE, zT, zTs, zL, zO, zX, zI, zG, zGs, zS, zSs]; generalize hz : zf = f; (have e := hz.symm.trans zf_eq); subst e; rfl
@[simp ↓] theorem wpE_dc1 {m : Bool} {own : List Nat} {kx : T} {vx : T} {t : T} {it : T} {ifs : T} {δ : St} {M : Mp} {Q : DK} : zE Γ xk (.dc1 m own kx vx t it ifs) δ M Q = (zI Γ xk it δ M fun ds still M1 => compH (zG Γ never t) (zTs Γ never ifs)
      (fun δ1 _ acc M' K => zE Γ never kx δ1 M' fun y M2 => zE Γ never vx δ1 M2 fun x M3 => (match keyOf y with
        | some k => acc.length < LIM ∧ K (setK acc k x) M3
        | none => False)) still (wipeD δ own) (fun acc M2 => mkND m acc M2 Q) ds [] M1 .mk .mk .mk .mk) := by dsimp only [zE, zT, zTs, zL, zO, zX, zI, zG, zGs, zS, zSs]; generalize hz : zf = f; (have e := hz.symm.trans zf_eq); subst e; rfl
@[simp ↓] theorem wpE_dc2 {m : Bool} {own : List Nat} {own2 : List Nat} {kx : T} {vx : T} {t : T} {it : T} {ifs : T} {t2 : T} {it2 : T} {ifs2 : T} {δ : St} {M : Mp} {Q : DK} : zE Γ xk (.dc2 m own own2 kx vx t it ifs t2 it2 ifs2) δ M Q = (zI Γ xk it δ M fun ds still M1 => compH (zG Γ never t) (zTs Γ never ifs)
      (fun δ1 _ acc M2 K => zI Γ never it2 δ1 M2 fun ds2 still2 M3 => compH (zG Γ never t2) (zTs Γ never ifs2)
        (fun δ3 _ acc M' K' => zE Γ never kx δ3 M' fun y M4 => zE Γ never vx δ3 M4 fun x M5 => (match keyOf y with
          | some k => acc.length < LIM ∧ K' (setK acc k x) M5
          | none => False)) still2 (wipeD δ1 own2) K ds2 acc M3 .mk .mk .mk .mk) still (wipeD δ own) (fun acc M2 => mkND m acc M2 Q) ds [] M1 .mk .mk .mk .mk) := by dsimp only [zE, zT, zTs, zL, zO, zX, zI, zG, zGs, zS, zSs]; generalize hz : zf = f; (have e := hz.symm.trans zf_eq); subst e; rfl
@[simp ↓] theorem wpE_isx {xs : List Str} {e : T} {cs : List Str} {δ : St} {M : Mp} {Q : DK} : zE Γ xk (.isx xs e cs) δ M Q = (zE Γ xk e δ M fun x M1 => (match x with
    | .exc c => c ∈ xs ∧ Q (.bl (cs.any fun t => excIs c t)) M1
    | _ => False)) := by dsimp only [zE, zT, zTs, zL, zO, zX, zI, zG, zGs, zS, zSs]; generalize hz : zf = f; (have e := hz.symm.trans zf_eq); subst e; rfl
@[simp ↓] theorem wpE_frz {e : T} {δ : St} {M : Mp} {Q : DK} : zE Γ xk (.frz e) δ M Q = (zE Γ xk e δ M fun x M1 => (match settle M1 8 x with
    | some d => ∃ M2, Sub M2 M1 ∧ (∀ a ∈ d.2, M2 a = none) ∧ Q d.1 M2
    | none => False)) := by dsimp only [zE, zT, zTs, zL, zO, zX, zI, zG, zGs, zS, zSs]; generalize hz : zf = f; (have e := hz.symm.trans zf_eq); subst e; rfl
@[simp ↓] theorem wpT_not {a : T} {δ : St} {M : Mp} {Q : Bool → Mp → Prop} : zT Γ xk (.not a) δ M Q = (zT Γ xk a δ M fun k M1 => Q (!k) M1) := by dsimp only [zE, zT, zTs, zL, zO, zX, zI, zG, zGs, zS, zSs]; generalize hz : zf = f; (have e := hz.symm.trans zf_eq); subst e; rfl
@[simp ↓] theorem wpT_and {a : T} {b : T} {δ : St} {M : Mp} {Q : Bool → Mp → Prop} : zT Γ xk (.and a b) δ M Q = (zT Γ xk a δ M fun k M1 => (match k with
    | true => zT Γ xk b δ M1 Q
    | false => Q false M1)) := by dsimp only [zE, zT, zTs, zL, zO, zX, zI, zG, zGs, zS, zSs]; generalize hz : zf = f; (have e := hz.symm.trans zf_eq); subst e; rfl
@[simp ↓] theorem wpT_or {a : T} {b : T} {δ : St} {M : Mp} {Q : Bool → Mp → Prop} : zT Γ xk (.or a b) δ M Q = (zT Γ xk a δ M fun k M1 => (match k with
    | true => Q true M1
    | false => zT Γ xk b δ M1 Q)) := by dsimp only [zE, zT, zTs, zL, zO, zX, zI, zG, zGs, zS, zSs]; generalize hz : zf = f; (have e := hz.symm.trans zf_eq); subst e; rfl
@[simp ↓] theorem wpT_ite {c : T} {a : T} {b : T} {δ : St} {M : Mp} {Q : Bool → Mp → Prop} : zT Γ xk (.ite c a b) δ M Q = (zT Γ xk c δ M fun k M1 => (match k with
    | true => zT Γ xk a δ M1 Q
    | false => zT Γ xk b δ M1 Q)) := by dsimp only [zE, zT, zTs, zL, zO, zX, zI, zG, zGs, zS, zSs]; generalize hz : zf = f; (have e := hz.symm.trans zf_eq); subst e; rfl
@[simp ↓] theorem wpT_cmp {op : CmpO} {a : T} {b : T} {δ : St} {M : Mp} {Q : Bool → Mp → Prop} : zT Γ xk (.cmp op a b) δ M Q = (zE Γ xk a δ M fun x M1 => zE Γ xk b δ M1 fun y M2 => cop op x y M2 fun k => Q k M2) := by dsimp only [zE, zT, zTs, zL, zO, zX, zI, zG, zGs, zS, zSs]; generalize hz : zf = f; (have e := hz.symm.trans zf_eq); subst e; rfl
@[simp ↓] theorem wpT_chain {o1 : CmpO} {o2 : CmpO} {a : T} {b : T} {c : T} {δ : St} {M : Mp} {Q : Bool → Mp → Prop} : zT Γ xk (.chain o1 o2 a b c) δ M Q = (zE Γ xk a δ M fun x M1 => zE Γ xk b δ M1 fun y M2 => cop o1 x y M2 fun k => (match k with
    | true => zE Γ xk c δ M2 fun z M3 => cop o2 y z M3 fun k => Q k M3
    | false => Q false M2)) := by dsimp only [zE, zT, zTs, zL, zO, zX, zI, zG, zGs, zS, zSs]; generalize hz : zf = f; (have e := hz.symm.trans zf_eq); subst e; rfl
@[simp ↓] theorem wpT_tst {e : T} {δ : St} {M : Mp} {Q : Bool → Mp → Prop} : zT Γ xk (.tst e) δ M Q = (zE Γ xk e δ M fun x M1 => (match tru M1 x with
    | some k => Q k M1
    | none => False)) := by dsimp only [zE, zT, zTs, zL, zO, zX, zI, zG, zGs, zS, zSs]; generalize hz : zf = f; (have e := hz.symm.trans zf_eq); subst e; rfl
@[simp ↓] theorem wpTs_nil {u0 : St} {M : Mp} {Q : Bool → Mp → Prop} : zTs Γ xk (.nil) u0 M Q = (Q true M) := by dsimp only [zE, zT, zTs, zL, zO, zX, zI, zG, zGs, zS, zSs]; generalize hz : zf = f; (have e := hz.symm.trans zf_eq); subst e; rfl
@[simp ↓] theorem wpTs_cons {a : T} {u0 : T} {δ : St} {M : Mp} {Q : Bool → Mp → Prop} : zTs Γ xk (.cons a u0) δ M Q = (zT Γ xk a δ M Q) := by dsimp only [zE, zT, zTs, zL, zO, zX, zI, zG, zGs, zS, zSs]; generalize hz : zf = f; (have e := hz.symm.trans zf_eq); subst e; rfl
@[simp ↓] theorem wpL_nil {u0 : St} {M : Mp} {Q : List D → Mp → Prop} : zL Γ xk (.nil) u0 M Q = (Q [] M) := by dsimp only [zE, zT, zTs, zL, zO, zX, zI, zG, zGs, zS, zSs]; generalize hz : zf = f; (have e := hz.symm.trans zf_eq); subst e; rfl
@[simp ↓] theorem wpL_cons {a : T} {r : T} {δ : St} {M : Mp} {Q : List D → Mp → Prop} : zL Γ xk (.cons a r) δ M Q = (zE Γ xk a δ M fun x M1 => zL Γ xk r δ M1 fun xs M2 => Q (x :: xs) M2) := by dsimp only [zE, zT, zTs, zL, zO, zX, zI, zG, zGs, zS, zSs]; generalize hz : zf = f; (have e := hz.symm.trans zf_eq); subst e; rfl
@[simp ↓] theorem wpX_nil {u0 : St} {M : Mp} {Q : List D → Mp → Prop} : zX Γ xk (.nil) u0 M Q = (Q [] M) := by dsimp only [zE, zT, zTs, zL, zO, zX, zI, zG, zGs, zS, zSs]; generalize hz : zf = f; (have e := hz.symm.trans zf_eq); subst e; rfl
@[simp ↓] theorem wpX_star {a : T} {r : T} {δ : St} {M : Mp} {Q : List D → Mp → Prop} : zX Γ xk (.star a r) δ M Q = (zE Γ xk a δ M fun x M1 => (match seqOf M1 x with
    | some ds => zX Γ xk r δ M1 fun xs M2 => Q (ds ++ xs) M2
    | none => False)) := by dsimp only [zE, zT, zTs, zL, zO, zX, zI, zG, zGs, zS, zSs]; generalize hz : zf = f; (have e := hz.symm.trans zf_eq); subst e; rfl
@[simp ↓] theorem wpX_cons {a : T} {r : T} {δ : St} {M : Mp} {Q : List D → Mp → Prop} : zX Γ xk (.cons a r) δ M Q = (zE Γ xk a δ M fun x M1 => zX Γ xk r δ M1 fun xs M2 => Q (x :: xs) M2) := by dsimp only [zE, zT, zTs, zL, zO, zX, zI, zG, zGs, zS, zSs]; generalize hz : zf = f; (have e := hz.symm.trans zf_eq); subst e; rfl
@[simp ↓] theorem wpO_nil {u0 : St} {M : Mp} {Q : Option Int → Mp → Prop} : zO Γ xk (.nil) u0 M Q = (Q none M) := by dsimp only [zE, zT, zTs, zL, zO, zX, zI, zG, zGs, zS, zSs]; generalize hz : zf = f; (have e := hz.symm.trans zf_eq); subst e; rfl
@[simp ↓] theorem wpO_cons {a : T} {u0 : T} {δ : St} {M : Mp} {Q : Option Int → Mp → Prop} : zO Γ xk (.cons a u0) δ M Q = (zE Γ xk a δ M fun x M1 => (match x with
    | .int i => Q (some i) M1
    | _ => False)) := by dsimp only [zE, zT, zTs, zL, zO, zX, zI, zG, zGs, zS, zSs]; generalize hz : zf = f; (have e := hz.symm.trans zf_eq); subst e; rfl
@[simp ↓] theorem wpI_ival {e : T} {δ : St} {M : Mp} {Q : List D → (Mp → Prop) → Mp → Prop} : zI Γ xk (.ival e) δ M Q = (zE Γ xk e δ M fun x M1 => (match x with
    | .tup ds => Q ds (fun _ => True) M1
    | .lst ds => Q ds (fun _ => True) M1
    | .scr ds => Q ds (fun _ => True) M1
    | .str z => z.length ≤ LIM ∧ Q (chars z) (fun _ => True) M1
    | .ref a => (match M1 a with
      | some (.lst ds) => Q ds (fun M => M a = some (.lst ds)) M1
      | _ => False)
    | _ => False)) := by dsimp only [zE, zT, zTs, zL, zO, zX, zI, zG, zGs, zS, zSs]; generalize hz : zf = f; (have e := hz.symm.trans zf_eq); subst e; rfl
@[simp ↓] theorem wpI_irng {es : T} {δ : St} {M : Mp} {Q : List D → (Mp → Prop) → Mp → Prop} : zI Γ xk (.irng es) δ M Q = (zL Γ xk es δ M fun ds M1 => rngD Q ds M1) := by dsimp only [zE, zT, zTs, zL, zO, zX, zI, zG, zGs, zS, zSs]; generalize hz : zf = f; (have e := hz.symm.trans zf_eq); subst e; rfl
@[simp ↓] theorem wpI_izip {es : T} {δ : St} {M : Mp} {Q : List D → (Mp → Prop) → Mp → Prop} : zI Γ xk (.izip es) δ M Q = (zL Γ xk es δ M fun ds M1 => zipD Q ds M1) := by dsimp only [zE, zT, zTs, zL, zO, zX, zI, zG, zGs, zS, zSs]; generalize hz : zf = f; (have e := hz.symm.trans zf_eq); subst e; rfl
@[simp ↓] theorem wpI_ienum {e : T} {δ : St} {M : Mp} {Q : List D → (Mp → Prop) → Mp → Prop} : zI Γ xk (.ienum e) δ M Q = (zE Γ xk e δ M fun x M1 => (match x with
    | .tup ds => Q (ds.zipIdx.map fun p => .tup [.int (p.2 : Nat), p.1]) (fun _ => True) M1
    | .lst ds => Q (ds.zipIdx.map fun p => .tup [.int (p.2 : Nat), p.1]) (fun _ => True) M1
    | .ref a => (match M1 a with
      | some (.lst ds) => Q (ds.zipIdx.map fun p => .tup [.int (p.2 : Nat), p.1]) (fun M => M a = some (.lst ds)) M1
      | _ => False)
    | _ => False)) := by dsimp only [zE, zT, zTs, zL, zO, zX, zI, zG, zGs, zS, zSs]; generalize hz : zf = f; (have e := hz.symm.trans zf_eq); subst e; rfl
@[simp ↓] theorem wpI_iitm {e : T} {δ : St} {M : Mp} {Q : List D → (Mp → Prop) → Mp → Prop} : zI Γ xk (.iitm e) δ M Q = (zE Γ xk e δ M fun x M1 => onDW x M1 fun a kvs => kvs.length ≤ LIM ∧ (intsOf (kvs.map fun p => p.2)).isSome = true ∧ ∀ o, Q (kvs.map fun p => .tup [kD p.1, p.2]) (fun M => M a = some (.dicL o kvs)) (up M1 a (.dicL o kvs))) := by dsimp only [zE, zT, zTs, zL, zO, zX, zI, zG, zGs, zS, zSs]; generalize hz : zf = f; (have e := hz.symm.trans zf_eq); subst e; rfl
@[simp ↓] theorem wpI_ivls {e : T} {δ : St} {M : Mp} {Q : List D → (Mp → Prop) → Mp → Prop} : zI Γ xk (.ivls e) δ M Q = (zE Γ xk e δ M fun x M1 => onDW x M1 fun a kvs => kvs.length ≤ LIM ∧ (intsOf (kvs.map fun p => p.2)).isSome = true ∧ ∀ o, Q (kvs.map fun p => p.2) (fun M => M a = some (.dicL o kvs)) (up M1 a (.dicL o kvs))) := by dsimp only [zE, zT, zTs, zL, zO, zX, zI, zG, zGs, zS, zSs]; generalize hz : zf = f; (have e := hz.symm.trans zf_eq); subst e; rfl
@[simp ↓] theorem wpI_itk {e : T} {δ : St} {M : Mp} {Q : List D → (Mp → Prop) → Mp → Prop} : zI Γ xk (.itk e) δ M Q = (zE Γ xk e δ M fun x M1 => onT x M1 fun a lk kvs => kvs.length ≤ LIM ∧ (match lk with
    | some o => Q (kvs.map fun p => .tup (p.1.map D.int)) (fun M => M a = some (.dicT (some o) kvs)) M1
    | none => ∀ o, Q (kvs.map fun p => .tup (p.1.map D.int)) (fun M => M a = some (.dicT (some o) kvs)) (up M1 a (.dicT (some o) kvs)))) := by dsimp only [zE, zT, zTs, zL, zO, zX, zI, zG, zGs, zS, zSs]; generalize hz : zf = f; (have e := hz.symm.trans zf_eq); subst e; rfl
@[simp ↓] theorem wpI_irev {e : T} {δ : St} {M : Mp} {Q : List D → (Mp → Prop) → Mp → Prop} : zI Γ xk (.irev e) δ M Q = (zE Γ xk e δ M fun x M1 => (match x with
    | .tup ds => Q ds.reverse (fun _ => True) M1
    | .lst ds => Q ds.reverse (fun _ => True) M1
    | .ref a => (match M1 a with
      | some (.lst ds) => Q ds.reverse (fun M => M a = some (.lst ds)) M1
      | _ => False)
    | _ => False)) := by dsimp only [zE, zT, zTs, zL, zO, zX, zI, zG, zGs, zS, zSs]; generalize hz : zf = f; (have e := hz.symm.trans zf_eq); subst e; rfl
@[simp ↓] theorem wpG_gname {i : Nat} {d : D} {δ : St} {M : Mp} {Q : St → Mp → Prop} : zG Γ xk (.gname i) d δ M Q = (Q (δ.set i (some d)) M) := by dsimp only [zE, zT, zTs, zL, zO, zX, zI, zG, zGs, zS, zSs]; generalize hz : zf = f; (have e := hz.symm.trans zf_eq); subst e; rfl
@[simp ↓] theorem wpG_gtup {gs : T} {d : D} {δ : St} {M : Mp} {Q : St → Mp → Prop} : zG Γ xk (.gtup gs) d δ M Q = ((match d with
    | .tup ds => ds.length = cntL gs ∧ zGs Γ xk gs ds δ M Q
    | _ => False)) := by dsimp only [zE, zT, zTs, zL, zO, zX, zI, zG, zGs, zS, zSs]; generalize hz : zf = f; (have e := hz.symm.trans zf_eq); subst e; rfl
@[simp ↓] theorem wpG_gsub {o : T} {i : T} {d : D} {δ : St} {M : Mp} {Q : St → Mp → Prop} : zG Γ xk (.gsub o i) d δ M Q = (zE Γ xk o δ M fun x M1 => zE Γ xk i δ M1 fun y M2 => stD x y d M2 fun M3 => Q δ M3) := by dsimp only [zE, zT, zTs, zL, zO, zX, zI, zG, zGs, zS, zSs]; generalize hz : zf = f; (have e := hz.symm.trans zf_eq); subst e; rfl
@[simp ↓] theorem wpGs_nil {ds : List D} {δ : St} {M : Mp} {Q : St → Mp → Prop} : zGs Γ xk (.nil) ds δ M Q = ((match ds with
    | [] => Q δ M
    | _ => False)) := by dsimp only [zE, zT, zTs, zL, zO, zX, zI, zG, zGs, zS, zSs]; generalize hz : zf = f; (have e := hz.symm.trans zf_eq); subst e; rfl
@[simp ↓] theorem wpGs_cons {g : T} {r : T} {ds : List D} {δ : St} {M : Mp} {Q : St → Mp → Prop} : zGs Γ xk (.cons g r) ds δ M Q = ((match ds with
    | d :: ds => zG Γ xk g d δ M fun δ1 M1 => zGs Γ xk r ds δ1 M1 Q
    | _ => False)) := by dsimp only [zE, zT, zTs, zL, zO, zX, zI, zG, zGs, zS, zSs]; generalize hz : zf = f; (have e := hz.symm.trans zf_eq); subst e; rfl
@[simp ↓] theorem wpS_asg {g : T} {e : T} {E : En} {δ : St} {M : Mp} : zS Γ xk (.asg g e) E δ M = (zE Γ xk e δ M fun x M1 => zG Γ xk g x δ M1 E.nx) := by dsimp only [zE, zT, zTs, zL, zO, zX, zI, zG, zGs, zS, zSs]; generalize hz : zf = f; (have e := hz.symm.trans zf_eq); subst e; rfl
@[simp ↓] theorem wpS_par {is : List Nat} {es : T} {E : En} {δ : St} {M : Mp} : zS Γ xk (.par is es) E δ M = (zL Γ xk es δ M fun ds M1 => ds.length = is.length ∧ E.nx ((is.zip ds).foldl (fun δ p => δ.set p.1 (some p.2)) δ) M1) := by dsimp only [zE, zT, zTs, zL, zO, zX, zI, zG, zGs, zS, zSs]; generalize hz : zf = f; (have e := hz.symm.trans zf_eq); subst e; rfl
@[simp ↓] theorem wpS_aug {op : BinO} {i : Nat} {e : T} {E : En} {δ : St} {M : Mp} : zS Γ xk (.aug op i e) E δ M = ((match δ[i]? with
    | some (some x) => zE Γ xk e δ M fun y M1 => iopD op x y M1 fun z M2 => E.nx (δ.set i (some z)) M2
    | _ => False)) := by dsimp only [zE, zT, zTs, zL, zO, zX, zI, zG, zGs, zS, zSs]; generalize hz : zf = f; (have e := hz.symm.trans zf_eq); subst e; rfl
@[simp ↓] theorem wpS_augs {op : BinO} {o : T} {i : T} {e : T} {E : En} {δ : St} {M : Mp} : zS Γ xk (.augs op o i e) E δ M = (zE Γ xk o δ M fun x M1 => zE Γ xk i δ M1 fun y M2 => ixD x y M2 fun z M3 => zE Γ xk e δ M3 fun u M4 => iopD op z u M4 fun v M5 => stD x y v M5 fun M6 => E.nx δ M6) := by dsimp only [zE, zT, zTs, zL, zO, zX, zI, zG, zGs, zS, zSs]; generalize hz : zf = f; (have e := hz.symm.trans zf_eq); subst e; rfl
@[simp ↓] theorem wpS_doc {E : En} {δ : St} {M : Mp} : zS Γ xk (.doc) E δ M = (E.nx δ M) := by dsimp only [zE, zT, zTs, zL, zO, zX, zI, zG, zGs, zS, zSs]; generalize hz : zf = f; (have e := hz.symm.trans zf_eq); subst e; rfl
@[simp ↓] theorem wpS_expr {e : T} {E : En} {δ : St} {M : Mp} : zS Γ xk (.expr e) E δ M = (zE Γ xk e δ M fun _ M1 => E.nx δ M1) := by dsimp only [zE, zT, zTs, zL, zO, zX, zI, zG, zGs, zS, zSs]; generalize hz : zf = f; (have e := hz.symm.trans zf_eq); subst e; rfl
@[simp ↓] theorem wpS_ret {e : T} {E : En} {δ : St} {M : Mp} : zS Γ xk (.ret e) E δ M = (zE Γ xk e δ M E.rt) := by dsimp only [zE, zT, zTs, zL, zO, zX, zI, zG, zGs, zS, zSs]; generalize hz : zf = f; (have e := hz.symm.trans zf_eq); subst e; rfl
@[simp ↓] theorem wpS_retn {E : En} {u0 : St} {M : Mp} : zS Γ xk (.retn) E u0 M = (E.rt .non M) := by dsimp only [zE, zT, zTs, zL, zO, zX, zI, zG, zGs, zS, zSs]; generalize hz : zf = f; (have e := hz.symm.trans zf_eq); subst e; rfl
@[simp ↓] theorem wpS_ifs {c : T} {a : T} {b : T} {E : En} {δ : St} {M : Mp} : zS Γ xk (.ifs c a b) E δ M = (zT Γ xk c δ M fun k M1 => (match k with
    | true => zSs Γ xk a E δ M1
    | false => zSs Γ xk b E δ M1)) := by dsimp only [zE, zT, zTs, zL, zO, zX, zI, zG, zGs, zS, zSs]; generalize hz : zf = f; (have e := hz.symm.trans zf_eq); subst e; rfl
@[simp ↓] theorem wpS_for_ {clr : List Nat} {g : T} {it : T} {body : T} {E : En} {δ : St} {M : Mp} : zS Γ xk (.for_ clr g it body) E δ M = (zI Γ xk it δ M fun ds still M1 => forH (fun d k δ M => zG Γ xk g d δ M fun δ' M' => zSs Γ xk body { nx := k, ct := k, bk := fun δ'' M'' => E.nx δ'' M'', rt := E.rt } δ' M') clr still E.nx ds (wipeD δ clr) M1 .mk .mk) := by dsimp only [zE, zT, zTs, zL, zO, zX, zI, zG, zGs, zS, zSs]; generalize hz : zf = f; (have e := hz.symm.trans zf_eq); subst e; rfl
def whileW (Γ : String → SpD) (xk : XD) (clr : List Nat) (c body : T) (E : En) (δ : St) (M : Mp) (_ : Hid E) (_ : Hid xk) : Prop := ∃ W : Nat → St → Mp → Prop, (∃ n, W n (wipeD δ clr) M) ∧ ∀ n δ M, W n δ M → zT Γ xk c δ M fun k M1 => (match k with
    | true => zSs Γ xk body { nx := fun δ' M' => ∃ n', n' < n ∧ W n' (wipeD δ' clr) M', ct := fun δ' M' => ∃ n', n' < n ∧ W n' (wipeD δ' clr) M', bk := E.nx, rt := E.rt } δ M1
    | false => E.nx δ M1)
@[simp ↓] theorem wpS_while_ {clr : List Nat} {c body : T} {E : En} {δ : St} {M : Mp} : zS Γ xk (.while_ clr c body) E δ M = whileW Γ xk clr c body E δ M .mk .mk := by unfold whileW; dsimp only [zE, zT, zTs, zL, zO, zX, zI, zG, zGs, zS, zSs]; generalize hz : zf = f; (have e := hz.symm.trans zf_eq); subst e; rfl
theorem while_inv {clr : List Nat} {c body : T} {E : En} (W : Nat → St → Mp → Prop) (h : ∀ n δ M, W n δ M → zT Γ xk c δ M fun k M1 => (match k with
    | true => zSs Γ xk body { nx := fun δ' M' => ∃ n', n' < n ∧ W n' (wipeD δ' clr) M', ct := fun δ' M' => ∃ n', n' < n ∧ W n' (wipeD δ' clr) M', bk := E.nx, rt := E.rt } δ M1
    | false => E.nx δ M1)) {δ : St} {M : Mp} (n : Nat) (h0 : W n (wipeD δ clr) M) : whileW Γ xk clr c body E δ M .mk .mk := ⟨W, ⟨n, h0⟩, h⟩
@[simp ↓] theorem wpS_pass {E : En} {δ : St} {M : Mp} : zS Γ xk (.pass) E δ M = (E.nx δ M) := by dsimp only [zE, zT, zTs, zL, zO, zX, zI, zG, zGs, zS, zSs]; generalize hz : zf = f; (have e := hz.symm.trans zf_eq); subst e; rfl
@[simp ↓] theorem wpS_brk {E : En} {δ : St} {M : Mp} : zS Γ xk (.brk) E δ M = (E.bk δ M) := by dsimp only [zE, zT, zTs, zL, zO, zX, zI, zG, zGs, zS, zSs]; generalize hz : zf = f; (have e := hz.symm.trans zf_eq); subst e; rfl
@[simp ↓] theorem wpS_cont {E : En} {δ : St} {M : Mp} : zS Γ xk (.cont) E δ M = (E.ct δ M) := by dsimp only [zE, zT, zTs, zL, zO, zX, zI, zG, zGs, zS, zSs]; generalize hz : zf = f; (have e := hz.symm.trans zf_eq); subst e; rfl
@[simp ↓] theorem wpS_raise {c : Str} {u0 : Str} {u1 : En} {δ : St} {M : Mp} : zS Γ xk (.raise c u0) u1 δ M = (xk c δ M) := by dsimp only [zE, zT, zTs, zL, zO, zX, zI, zG, zGs, zS, zSs]; generalize hz : zf = f; (have e := hz.symm.trans zf_eq); subst e; rfl
@[simp ↓] theorem wpS_sattr {c : Str} {f : Str} {o : T} {a : T} {E : En} {δ : St} {M : Mp} : zS Γ xk (.sattr c f o a) E δ M = (zE Γ xk a δ M fun y M1 => zE Γ xk o δ M1 fun x M2 => sattrD c f y x M2 fun M3 => E.nx δ M3) := by dsimp only [zE, zT, zTs, zL, zO, zX, zI, zG, zGs, zS, zSs]; generalize hz : zf = f; (have e := hz.symm.trans zf_eq); subst e; rfl
@[simp ↓] theorem wpS_tryx {xs : List Str} {u0 : Str} {i : Nat} {j : Nat} {body : T} {E : En} {δ : St} {M : Mp} : zS Γ xk (.tryx xs u0 i j body) E δ M = (zSs Γ (fun q δ' M' => q ∈ xs ∧ E.nx ((δ'.set j (some (.exc q))).set i none) M') body E δ M) := by dsimp only [zE, zT, zTs, zL, zO, zX, zI, zG, zGs, zS, zSs]; generalize hz : zf = f; (have e := hz.symm.trans zf_eq); subst e; rfl
@[simp ↓] theorem wpSs_nil {E : En} {δ : St} {M : Mp} : zSs Γ xk (.nil) E δ M = (E.nx δ M) := by dsimp only [zE, zT, zTs, zL, zO, zX, zI, zG, zGs, zS, zSs]; generalize hz : zf = f; (have e := hz.symm.trans zf_eq); subst e; rfl
@[simp ↓] theorem wpSs_cons {s : T} {r : T} {E : En} {δ : St} {M : Mp} : zSs Γ xk (.cons s r) E δ M = (zS Γ xk s { E with nx := fun δ' M' => zSs Γ xk r E δ' M' } δ M) := by dsimp only [zE, zT, zTs, zL, zO, zX, zI, zG, zGs, zS, zSs]; generalize hz : zf = f; (have e := hz.symm.trans zf_eq); subst e; rfl
end Pw
set_option Elab.async false
set_option linter.all false
set_option maxRecDepth 100000
/-! the equations of the helpers, for simp (printed by gen_eq.py) -/
namespace Pw
open PySem PySem.Spec PyProof.Rows L2

@[simp ↓] theorem ixD_eq {x y : D} {M : Mp} {Q : DK} : ixD x y M Q = (match see M x with
  | .scr ds => (match y with
    | .int i => (match atD ds i with
      | some d => Q d M
      | none => False)
    | _ => False)
  | .tup ds => (match y with
    | .int i => (match atD ds i with
      | some d => Q d M
      | none => False)
    | _ => False)
  | .lst ds => (match y with
    | .int i => (match atD ds i with
      | some d => Q d M
      | none => False)
    | _ => False)
  | .str z => (match y with
    | .int i => z.length ≤ LIM ∧ (match (ixAt z.cps.toList.length i).bind fun j => z.cps.toList[j]? with
      | some c => Q (.str ⟨#[c]⟩) M
      | none => False)
    | _ => False)
  | .dic kvs => (match keyOf y with
    | some k => (match getK kvs k with
      | some d => Q d M
      | none => False)
    | none => False)
  | .ref a => (match M a with
    | some (.dicT _ kvs) => (match tkD y with
      | some k => (match getT kvs k with
        | some d => Q d M
        | none => False)
      | none => False)
    | _ => False)
  | _ => False) := rfl
@[simp ↓] theorem stD_eq {o i v : D} {M : Mp} {Q : Mp → Prop} : stD o i v M Q = (match o with
  | .ref a => (match M a with
    | some (.lst ds) => (match i with
      | .int i => (match ixAt ds.length i with
        | some j => Q (up M a (.lst (ds.set j v)))
        | none => False)
      | _ => False)
    | some (.dic kvs) => (match keyOf i with
      | some k => kvs.length < LIM ∧ Q (up M a (.dic (setK kvs k v)))
      | none => False)
    | some (.dicT none kvs) => (match tkD i with
      | some k => kvs.length < LIM ∧ Q (up M a (.dicT none (setT kvs k v)))
      | none => False)
    | _ => False)
  | _ => False) := rfl
@[simp ↓] theorem slD_eq {m : Bool} {x : D} {lo hi : Option Int} {M : Mp} {Q : DK} : slD m x lo hi M Q = (match see M x with
  | .tup ds => Q (.tup (cutD ds lo hi)) M
  | .lst ds => mkN m (cutD ds lo hi) M Q
  | .scr ds => mkN m (cutD ds lo hi) M Q
  | .str z => z.length ≤ LIM ∧ Q (.str (cutStr z lo hi)) M
  | _ => False) := rfl
@[simp ↓] theorem tru_eq {M : Mp} {d : D} : tru M d = (match see M d with
  | .non => some false
  | .bl b => some b
  | .int i => some (i != 0)
  | .tup ds => some (!ds.isEmpty)
  | .lst ds => some (!ds.isEmpty)
  | .scr ds => some (!ds.isEmpty)
  | .dic ds => some (!ds.isEmpty)
  | _ => none) := rfl
@[simp ↓] theorem memC_eq {x y : D} {M : Mp} {Q : Bool → Prop} : memC x y M Q = (match see M y with
  | .tup ys => memOk (see M x) ys = true ∧ Q (memD (see M x) ys)
  | .lst ys => memOk (see M x) ys = true ∧ Q (memD (see M x) ys)
  | .str b => (match x with
    | .str a => Q (!(Builtin.Str.occurrences b a 0 b.length 1).isEmpty)
    | _ => False)
  | .dic kvs => (match keyOf x with
    | some k => Q (getK kvs k).isSome
    | none => False)
  | _ => False) := rfl
@[simp ↓] theorem onL_eq {o : D} {M : Mp} {g : Addr → List D → Prop} : onL o M g = (match o with
  | .ref a => (match M a with
    | some (.lst ds) => g a ds
    | _ => False)
  | _ => False) := rfl
@[simp ↓] theorem onD_eq {o : D} {M : Mp} {g : List (Key × D) → Prop} : onD o M g = (match see M o with
  | .dic kvs => g kvs
  | _ => False) := rfl
@[simp ↓] theorem onDW_eq {o : D} {M : Mp} {g : Addr → List (Key × D) → Prop} : onDW o M g = (match o with
  | .ref a => (match M a with
    | some (.dic kvs) => g a kvs
    | _ => False)
  | _ => False) := rfl
@[simp ↓] theorem mkL_eq {m : Bool} {ds : List D} {M : Mp} {Q : DK} : mkL m ds M Q = (ds.length ≤ LIM ∧ mkN m ds M Q) := rfl
@[simp ↓] theorem rcv_eq {M : Mp} {f : MF} {d : D} : rcv M f d = (match see M d with
  | .lst _ => if okM .lst f then some .lst else none
  | .scr _ => if okM .lst f then some .lst else none
  | .tup _ => if okM .tup f then some .tup else none
  | .dic _ => if okM .dic f then some .dic else none
  | .str _ => if okM .str f then some .str else none
  | .ref a => (match M a with
    | some (.dicT _ _) => if f = .get then some .dic else none
    | _ => none)
  | _ => none) := rfl
@[simp ↓] theorem bop_add {m : Bool} {x y : D} {M : Mp} {Q : DK} : bop m .add x y M Q = ((match x, y with
    | .int i, .int j => Q (.int (i + j)) M
    | .str a, .str b => a.length + b.length ≤ LIM ∧ Q (.str (a ++ b)) M
    | .tup a, .tup b => a.length + b.length ≤ LIM ∧ Q (.tup (a ++ b)) M
    | x, y => (match lstM M x, lstM M y with
      | some a, some b => mkL m (a ++ b) M Q
      | _, _ => False))) := rfl
@[simp ↓] theorem bop_sub {m : Bool} {x y : D} {M : Mp} {Q : DK} : bop m .sub x y M Q = ((match x, y with
    | .int i, .int j => Q (.int (i - j)) M
    | _, _ => False)) := rfl
@[simp ↓] theorem bop_mul {m : Bool} {x y : D} {M : Mp} {Q : DK} : bop m .mul x y M Q = ((match x, y with
    | .int i, .int j => MulOk i j ∧ Q (.int (i * j)) M
    | .tup a, .int j => a ≠ [] ∧ -1000 ≤ j ∧ j ≤ 1000 ∧ a.length ≤ 1000 ∧ Q (.tup (rep j a)) M
    | .str a, .int j => 2 ≤ j ∧ j ≤ 10000 ∧ a.length ≤ 1000 ∧ Q (.str (Txt.mul a j)) M
    | x, .int j => (match lstM M x with
      | some a => -(2 ^ 62) ≤ j ∧ j < 2 ^ 62 ∧ a.length * j.toNat ≤ LIM ∧ mkN m (rep j a) M Q
      | _ => False)
    | _, _ => False)) := rfl
@[simp ↓] theorem bop_fdiv {m : Bool} {x y : D} {M : Mp} {Q : DK} : bop m .fdiv x y M Q = ((match x, y with
    | .int i, .int j => DivOk j ∧ Q (.int (i / j)) M
    | _, _ => False)) := rfl
@[simp ↓] theorem bop_mod {m : Bool} {x y : D} {M : Mp} {Q : DK} : bop m .mod x y M Q = ((match x, y with
    | .int i, .int j => 0 < j ∧ Q (.int (i % j)) M
    | _, _ => False)) := rfl
@[simp ↓] theorem bop_pow {m : Bool} {x y : D} {M : Mp} {Q : DK} : bop m .pow x y M Q = ((match x, y with
    | .int i, .int j => PowOk i j ∧ Q (.int (i ^ j.toNat)) M
    | _, _ => False)) := rfl
@[simp ↓] theorem cop_eq {x y : D} {M : Mp} {Q : Bool → Prop} : cop .eq x y M Q = (eqOkE (see M x) (see M y) = true ∧ Q (eqD (see M x) (see M y))) := rfl
@[simp ↓] theorem cop_ne {x y : D} {M : Mp} {Q : Bool → Prop} : cop .ne x y M Q = (eqOk (see M x) (see M y) = true ∧ Q (!eqD (see M x) (see M y))) := rfl
@[simp ↓] theorem cop_lt {x y : D} {M : Mp} {Q : Bool → Prop} : cop .lt x y M Q = (ltD x y Q) := rfl
@[simp ↓] theorem cop_le {x y : D} {M : Mp} {Q : Bool → Prop} : cop .le x y M Q = ((match x, y with
    | .int i, .int j => Q (decide (i ≤ j))
    | _, _ => False)) := rfl
@[simp ↓] theorem cop_gt {x y : D} {M : Mp} {Q : Bool → Prop} : cop .gt x y M Q = ((match x, y with
    | .int i, .int j => Q (decide (j < i))
    | _, _ => False)) := rfl
@[simp ↓] theorem cop_ge {x y : D} {M : Mp} {Q : Bool → Prop} : cop .ge x y M Q = ((match x, y with
    | .int i, .int j => Q (decide (j ≤ i))
    | _, _ => False)) := rfl
@[simp ↓] theorem cop_is_ {x y : D} {M : Mp} {Q : Bool → Prop} : cop .is_ x y M Q = ((match y with
    | .non => Q (isN x)
    | .bl b => (match x with
      | .bl a => Q (decide (a = b))
      | _ => False)
    | _ => False)) := rfl
@[simp ↓] theorem cop_isnot {x y : D} {M : Mp} {Q : Bool → Prop} : cop .isnot x y M Q = ((match y with
    | .non => Q (!isN x)
    | .bl b => (match x with
      | .bl a => Q (!decide (a = b))
      | _ => False)
    | _ => False)) := rfl
@[simp ↓] theorem cop_in_ {x y : D} {M : Mp} {Q : Bool → Prop} : cop .in_ x y M Q = (memC x y M Q) := rfl
@[simp ↓] theorem cop_notin {x y : D} {M : Mp} {Q : Bool → Prop} : cop .notin x y M Q = (memC x y M fun k => Q (!k)) := rfl
@[simp ↓] theorem bfn_e1 {m : Bool} {M : Mp} {Q : DK} {x : D} : bfn m .len [x] M Q = ((match see M x with
    | .tup ds => Q (.int ds.length) M
    | .lst ds => Q (.int ds.length) M
    | .scr ds => Q (.int ds.length) M
    | .str z => z.length ≤ LIM ∧ Q (.int z.length) M
    | .dic kvs => Q (.int kvs.length) M
    | _ => False)) := by first | rfl | (cases x <;> rfl)
@[simp ↓] theorem bfn_e2 {m : Bool} {M : Mp} {Q : DK} {i : Int} {j : Int} : bfn m .max [.int i, .int j] M Q = (Q (.int (if j > i then j else i)) M) := by first | rfl | (cases x <;> rfl)
@[simp ↓] theorem bfn_e3 {m : Bool} {M : Mp} {Q : DK} {i : Int} {j : Int} : bfn m .min [.int i, .int j] M Q = (Q (.int (if j < i then j else i)) M) := by first | rfl | (cases x <;> rfl)
@[simp ↓] theorem bfn_e4 {m : Bool} {M : Mp} {Q : DK} {x : D} : bfn m .max [x] M Q = ((match (seqOf M x).bind intsOf with
    | some ns => ns ≠ [] ∧ Q (.int (maxI ns)) M
    | none => False)) := by first | rfl | (cases x <;> rfl)
@[simp ↓] theorem bfn_e5 {m : Bool} {M : Mp} {Q : DK} {x : D} : bfn m .min [x] M Q = ((match (seqOf M x).bind intsOf with
    | some ns => ns ≠ [] ∧ Q (.int (minI ns)) M
    | none => False)) := by first | rfl | (cases x <;> rfl)
@[simp ↓] theorem bfn_e6 {m : Bool} {M : Mp} {Q : DK} {x : D} : bfn m .sum [x] M Q = ((match (seqOf M x).bind intsOf with
    | some ns => Q (.int ns.sum) M
    | none => False)) := by first | rfl | (cases x <;> rfl)
@[simp ↓] theorem bfn_e7 {m : Bool} {M : Mp} {Q : DK} {x : D} : bfn m .all [x] M Q = ((match (lstOf M x).bind blsOf with
    | some bs => Q (.bl (bs.all id)) M
    | none => False)) := by first | rfl | (cases x <;> rfl)
@[simp ↓] theorem bfn_e8 {m : Bool} {M : Mp} {Q : DK} {x : D} : bfn m .any [x] M Q = ((match (lstOf M x).bind blsOf with
    | some bs => Q (.bl (bs.any id)) M
    | none => False)) := by first | rfl | (cases x <;> rfl)
@[simp ↓] theorem bfn_e9 {m : Bool} {M : Mp} {Q : DK} {i : Int} : bfn m .abs [.int i] M Q = (Q (.int (if i < 0 then -i else i)) M) := by first | rfl | (cases x <;> rfl)
@[simp ↓] theorem bfn_e10 {m : Bool} {M : Mp} {Q : DK} {i : Int} : bfn m .int [.int i] M Q = (Q (.int i) M) := by first | rfl | (cases x <;> rfl)
@[simp ↓] theorem bfn_e11 {m : Bool} {M : Mp} {Q : DK} {b : Bool} : bfn m .int [.bl b] M Q = (Q (.int (if b then 1 else 0)) M) := by first | rfl | (cases x <;> rfl)
@[simp ↓] theorem bfn_e12 {m : Bool} {M : Mp} {Q : DK} {i : Int} : bfn m .str [.int i] M Q = (i.natAbs.log2 < 1920 ∧ Q (.str (toString i)) M) := by first | rfl | (cases x <;> rfl)
theorem bfn_e13 {m : Bool} {M : Mp} {Q : DK} {x : D} : bfn m .repr [x] M Q = (reprI x M Q ∨ ∃ y, deepV M x y ∧ isD true y 30 = true ∧ (toP y).showable = true ∧ (toP y).shown.length ≤ LIM ∧ Q (.str (toP y).shown) M) := by first | rfl | (cases x <;> rfl)
@[simp ↓] theorem bfn_e14 {m : Bool} {M : Mp} {Q : DK} {x : D} : bfn m .sorted [x] M Q = ((match (lstOf M x).bind intsOf with
    | some ns => mkN m ((sortI ns).map D.int) M Q
    | none => sortT m ((lstOf M x).bind tupsOf) x M Q)) := by first | rfl | (cases x <;> rfl)
@[simp ↓] theorem bfn_e15 {m : Bool} {M : Mp} {Q : DK} {i : Int} {j : Int} : bfn m .divmod [.int i, .int j] M Q = (DivOk j ∧ Q (.tup [.int (i / j), .int (i % j)]) M) := by first | rfl | (cases x <;> rfl)
@[simp ↓] theorem mth_e16 {m : Bool} {M : Mp} {Q : DK} {o : D} {x : D} : mth m .lst .append o [x] M Q = (onL o M fun a ds => ds.length < LIM ∧ Q .non (up M a (.lst (ds ++ [x])))) := by first | rfl | (cases x <;> rfl)
@[simp ↓] theorem mth_e17 {m : Bool} {M : Mp} {Q : DK} {o : D} : mth m .lst .pop o [] M Q = (onL o M fun a ds => (match ds[ds.length - 1]? with
    | some y => Q y (up M a (.lst ds.dropLast))
    | none => False)) := by first | rfl | (cases x <;> rfl)
@[simp ↓] theorem mth_e18 {m : Bool} {M : Mp} {Q : DK} {o : D} {i : Int} : mth m .lst .pop o [.int i] M Q = (onL o M fun a ds => (match ixAt ds.length i with
    | some k => (match ds[k]? with
      | some y => -(2 ^ 62) ≤ i ∧ i < 2 ^ 62 ∧ Q y (up M a (.lst (ds.eraseIdx k)))
      | none => False)
    | none => False)) := by first | rfl | (cases x <;> rfl)
@[simp ↓] theorem mth_e19 {m : Bool} {M : Mp} {Q : DK} {o : D} {i : Int} {x : D} : mth m .lst .insert o [.int i, x] M Q = (onL o M fun a ds => 0 ≤ i ∧ i < 2 ^ 62 ∧ ds.length < LIM ∧ Q .non (up M a (.lst (ds.take i.toNat ++ [x] ++ ds.drop i.toNat)))) := by first | rfl | (cases x <;> rfl)
@[simp ↓] theorem mth_e20 {m : Bool} {M : Mp} {Q : DK} {o : D} {x : D} : mth m .lst .extend o [x] M Q = (onL o M fun a ds => (match lstM M x with
    | some es => ds.length + es.length ≤ LIM ∧ Q .non (up M a (.lst (ds ++ es)))
    | none => False)) := by first | rfl | (cases x <;> rfl)
@[simp ↓] theorem mth_e21 {m : Bool} {M : Mp} {Q : DK} {o : D} : mth m .lst .clear o [] M Q = (onL o M fun a ds => Q .non (up M a (.lst []))) := by first | rfl | (cases x <;> rfl)
@[simp ↓] theorem mth_e22 {m : Bool} {M : Mp} {Q : DK} {o : D} : mth m .lst .reverse o [] M Q = (onL o M fun a ds => Q .non (up M a (.lst ds.reverse))) := by first | rfl | (cases x <;> rfl)
@[simp ↓] theorem mth_e23 {m : Bool} {M : Mp} {Q : DK} {o : D} {x : D} : mth m .lst .remove o [x] M Q = (onL o M fun a ds => memOk (see M x) ds = true ∧ (match placeD (see M x) ds with
    | some j => Q .non (up M a (.lst (ds.eraseIdx j)))
    | none => False)) := by first | rfl | (cases x <;> rfl)
@[simp ↓] theorem mth_e24 {m : Bool} {M : Mp} {Q : DK} {o : D} {x : D} : mth m .lst .count o [x] M Q = ((match lstM M o with
    | some ds => memOk (see M x) ds = true ∧ Q (.int (countD (see M x) ds : Nat)) M
    | none => False)) := by first | rfl | (cases x <;> rfl)
@[simp ↓] theorem mth_e25 {m : Bool} {M : Mp} {Q : DK} {o : D} {x : D} : mth m .tup .count o [x] M Q = ((match o with
    | .tup ds => memOk (see M x) ds = true ∧ Q (.int (countD (see M x) ds : Nat)) M
    | _ => False)) := by first | rfl | (cases x <;> rfl)
@[simp ↓] theorem mth_e26 {m : Bool} {M : Mp} {Q : DK} {o : D} {x : Int} : mth m .lst .index o [.int x] M Q = ((match (lstOf M o).bind intsOf with
    | some ns => x ∈ ns ∧ Q (.int (ns.idxOf x : Nat)) M
    | none => False)) := by first | rfl | (cases x <;> rfl)
@[simp ↓] theorem mth_e27 {m : Bool} {M : Mp} {Q : DK} {o : D} {b : Bool} : mth m .lst .index o [.bl b] M Q = ((match lstM M o with
    | some ds => memOk (.bl b) ds = true ∧ (match placeD (.bl b) ds with
      | some j => Q (.int (j : Nat)) M
      | none => False)
    | none => False)) := by first | rfl | (cases x <;> rfl)
@[simp ↓] theorem mth_e28 {m : Bool} {M : Mp} {Q : DK} {o : D} {z : Str} : mth m .lst .index o [.str z] M Q = ((match lstM M o with
    | some ds => memOk (.str z) ds = true ∧ (match placeD (.str z) ds with
      | some j => Q (.int (j : Nat)) M
      | none => False)
    | none => False)) := by first | rfl | (cases x <;> rfl)
@[simp ↓] theorem mth_e29 {m : Bool} {M : Mp} {Q : DK} {o : D} {x : Int} : mth m .tup .index o [.int x] M Q = ((match (match o with
    | .tup ds => intsOf ds
    | _ => none) with
    | some ns => x ∈ ns ∧ Q (.int (ns.idxOf x : Nat)) M
    | none => False)) := by first | rfl | (cases x <;> rfl)
@[simp ↓] theorem mth_e30 {m : Bool} {M : Mp} {Q : DK} {o : D} {y : D} {x : D} : mth m .dic .get o [y, x] M Q = ((match see M o with
    | .dic kvs => (match keyOf y with
      | some k => Q ((getK kvs k).getD x) M
      | none => False)
    | .ref a => (match M a with
      | some (.dicT _ kvs) => (match tkD y with
        | some k => Q ((getT kvs k).getD x) M
        | none => False)
      | _ => False)
    | _ => False)) := by first | rfl | (cases x <;> rfl)
@[simp ↓] theorem mth_e31 {m : Bool} {M : Mp} {Q : DK} {o : D} {y : D} : mth m .dic .get o [y] M Q = (onD o M fun kvs => (match keyOf y with
    | some k => Q ((getK kvs k).getD .non) M
    | none => False)) := by first | rfl | (cases x <;> rfl)
@[simp ↓] theorem mth_e32 {m : Bool} {M : Mp} {Q : DK} {o : D} {y : D} {x : D} : mth m .dic .setdefault o [y, x] M Q = (onDW o M fun a kvs => (match keyOf y with
    | some k => kvs.length < LIM ∧ (match getK kvs k with
      | some d => Q d M
      | none => Q x (up M a (.dic (setK kvs k x))))
    | none => False)) := by first | rfl | (cases x <;> rfl)
@[simp ↓] theorem mth_e33 {m : Bool} {M : Mp} {Q : DK} {o : D} {x : D} : mth m .str .join o [x] M Q = ((match o, (seqOf M x).bind strsOf with
    | .str a, some ys => (ys.map (·.length)).sum + ys.length * a.length ≤ LIM ∧ Q (.str (Txt.join a ys)) M
    | _, _ => False)) := by first | rfl | (cases x <;> rfl)
@[simp ↓] theorem mth_e34 {m : Bool} {M : Mp} {Q : DK} {o : D} {b : Str} : mth m .str .split o [.str b] M Q = ((match o with
    | .str a => (b.length == 0) = false ∧ a.length + 2 ≤ LIM ∧ mkN m ((Txt.split a b).map D.str) M Q
    | _ => False)) := by first | rfl | (cases x <;> rfl)
@[simp ↓] theorem mth_e35 {m : Bool} {M : Mp} {Q : DK} {o : D} {b : Str} : mth m .str .strip o [.str b] M Q = ((match o with
    | .str a => a.length ≤ LIM ∧ Q (.str (Txt.stripChars a b)) M
    | _ => False)) := by first | rfl | (cases x <;> rfl)
@[simp ↓] theorem mth_e36 {m : Bool} {M : Mp} {Q : DK} {o : D} : mth m .str .upper o [] M Q = ((match o with
    | .str a => a.length ≤ 5592405 ∧ Q (.str (Txt.upper a)) M
    | _ => False)) := by first | rfl | (cases x <;> rfl)
@[simp ↓] theorem iopD_add {i j : Int} {M : Mp} {Q : DK} : iopD .add (.int i) (.int j) M Q = (Q (.int (i + j)) M) := rfl
@[simp ↓] theorem iopD_sub {i j : Int} {M : Mp} {Q : DK} : iopD .sub (.int i) (.int j) M Q = (Q (.int (i - j)) M) := rfl
@[simp ↓] theorem iopD_mul {i j : Int} {M : Mp} {Q : DK} : iopD .mul (.int i) (.int j) M Q = (MulOk i j ∧ Q (.int (i * j)) M) := rfl
@[simp ↓] theorem iopD_fdiv {i j : Int} {M : Mp} {Q : DK} : iopD .fdiv (.int i) (.int j) M Q = (DivOk j ∧ Q (.int (i / j)) M) := rfl
@[simp ↓] theorem iopD_mod {i j : Int} {M : Mp} {Q : DK} : iopD .mod (.int i) (.int j) M Q = (0 < j ∧ Q (.int (i % j)) M) := rfl
@[simp ↓] theorem seeS_ref {M : Mp} {a : Addr} : see M (.ref a) = (match M a with
    | some (.lst ds) => .lst ds
    | some (.dic kvs) => .dic kvs
    | _ => .ref a) := rfl
@[simp ↓] theorem seeS_non {M : Mp} : see M (.non) = .non := rfl
@[simp ↓] theorem seeS_bl {M : Mp} {x : Bool} : see M (.bl x) = .bl x := rfl
@[simp ↓] theorem seeS_int {M : Mp} {x : Int} : see M (.int x) = .int x := rfl
@[simp ↓] theorem seeS_str {M : Mp} {x : Str} : see M (.str x) = .str x := rfl
@[simp ↓] theorem seeS_tup {M : Mp} {x : List D} : see M (.tup x) = .tup x := rfl
@[simp ↓] theorem seeS_lst {M : Mp} {x : List D} : see M (.lst x) = .lst x := rfl
@[simp ↓] theorem seeS_dic {M : Mp} {x : List (Key × D)} : see M (.dic x) = .dic x := rfl
@[simp ↓] theorem seeS_ty {M : Mp} {x : String} : see M (.ty x) = .ty x := rfl
@[simp ↓] theorem seeS_scr {M : Mp} {x : List D} : see M (.scr x) = .scr x := rfl
@[simp ↓] theorem convD_t {m : Bool} {x : D} {M : Mp} {Q : DK} : convD m true x M Q = (match x with
  | .tup ds => mkN m ds M Q
  | .lst ds => mkN m ds M Q
  | .scr ds => mkN m ds M Q
  | .ref a => (match M a with
    | some (.lst ds) => mkN m ds M Q
    | _ => False)
  | _ => False) := rfl
@[simp ↓] theorem convD_f {m : Bool} {x : D} {M : Mp} {Q : DK} : convD m false x M Q = (match x with
  | .tup ds => Q (.tup ds) M
  | .lst ds => Q (.tup ds) M
  | .scr ds => Q (.tup ds) M
  | .ref a => (match M a with
    | some (.lst ds) => Q (.tup ds) M
    | _ => False)
  | _ => False) := rfl
@[simp ↓] theorem rngD_1 {j : Int} {M : Mp} {Q : List D → (Mp → Prop) → Mp → Prop} : rngD Q [.int j] M = (-(2 ^ 62) ≤ j ∧ j ≤ LIM ∧ Q ((List.range j.toNat).map fun k => .int (k : Nat)) (fun _ => True) M) := rfl
@[simp ↓] theorem rngD_2 {i j : Int} {M : Mp} {Q : List D → (Mp → Prop) → Mp → Prop} : rngD Q [.int i, .int j] M = (-(2 ^ 62) ≤ i ∧ i < 2 ^ 62 ∧ -(2 ^ 62) ≤ j ∧ j < 2 ^ 62 ∧ j - i ≤ LIM ∧ Q ((List.range (j - i).toNat).map fun k => .int (i + (k : Nat))) (fun _ => True) M) := rfl
@[simp ↓] theorem ltD_ii {i j : Int} {Q : Bool → Prop} : ltD (.int i) (.int j) Q = Q (decide (i < j)) := rfl
@[simp ↓] theorem ltD_tt {a b : List D} {Q : Bool → Prop} : ltD (.tup a) (.tup b) Q = (match intsOf a, intsOf b with
      | some r, some t => Q (decide (r < t))
      | _, _ => False) := rfl
@[simp ↓] theorem zipD_ttt {a b c : List D} {M : Mp} {Q : List D → (Mp → Prop) → Mp → Prop} : zipD Q [.tup a, .tup b, .tup c] M = Q ((a.zip (b.zip c)).map fun p => .tup [p.1, p.2.1, p.2.2]) (fun M => seqOf M (.tup a) = some a ∧ seqOf M (.tup b) = some b ∧ seqOf M (.tup c) = some c) M := rfl
@[simp ↓] theorem zipD_tt {a b : List D} {M : Mp} {Q : List D → (Mp → Prop) → Mp → Prop} : zipD Q [.tup a, .tup b] M = Q ((a.zip b).map fun p => .tup [p.1, p.2]) (fun _ => True) M := rfl
@[simp ↓] theorem zipD_lt {a b : List D} {M : Mp} {Q : List D → (Mp → Prop) → Mp → Prop} : zipD Q [.lst a, .tup b] M = Q ((a.zip b).map fun p => .tup [p.1, p.2]) (fun M => lstOf M (.lst a) = some a) M := rfl
@[simp ↓] theorem zipD_tl {a b : List D} {M : Mp} {Q : List D → (Mp → Prop) → Mp → Prop} : zipD Q [.tup a, .lst b] M = Q ((a.zip b).map fun p => .tup [p.1, p.2]) (fun M => lstOf M (.lst b) = some b) M := rfl
@[simp ↓] theorem zipD_ll {a b : List D} {M : Mp} {Q : List D → (Mp → Prop) → Mp → Prop} : zipD Q [.lst a, .lst b] M = Q ((a.zip b).map fun p => .tup [p.1, p.2]) (fun M => lstOf M (.lst a) = some a ∧ lstOf M (.lst b) = some b) M := rfl
@[simp ↓] theorem rngV_eq {ds : List D} {M : Mp} {Q : List D → Mp → Prop} : rngV Q ds M = rngD (fun ds _ M => Q ds M) ds M := rfl
@[simp ↓] theorem cntL_cons {a r : T} : cntL (.cons a r) = cntL r + 1 := rfl
@[simp ↓] theorem cntL_nil : cntL .nil = 0 := rfl
@[simp ↓] theorem wipeD_nil {δ : St} : wipeD δ [] = δ := rfl
@[simp ↓] theorem wipeD_cons {δ : St} {v : Nat} {vs : List Nat} : wipeD δ (v :: vs) = (wipeD δ vs).set v none := rfl
theorem up_app {M : Mp} {a b : Addr} {o : DO} : up M a o b = if b = a then some o else M b := rfl
@[simp ↓] theorem wpF_eq {Γ : String → SpD} {f : Fn} {ds : List D} {M : Mp} {Q : DK} {X : Str → Mp → Prop} : wpF Γ f ds M Q X = (ds.length = f.ar ∧
  zSs Γ (fun c _ M' => Lv (X c) M') f.body { nx := fun _ M' => Lv (Q .non) M', rt := fun d M' => Lv (Q d) M', bk := fun _ _ => False, ct := fun _ _ => False } (ds.map some ++ List.replicate (f.sl - f.ar) none) M) := by rw [zSs_eq]; rfl
theorem ixAt_eq {n : Nat} {i : Int} : ixAt n i = if 0 ≤ i then (if i < n then some i.toNat else none) else if -(n : Int) ≤ i then some (i + n).toNat else none := rfl
@[simp] theorem ixAt_nat {n k : Nat} : ixAt n (k : Int) = if k < n then some k else none := by
  unfold ixAt
  rw [if_pos (by omega)]
  by_cases h : k < n
  · rw [if_pos h, if_pos (by omega)]; rfl
  · rw [if_neg h, if_neg (by omega)]
@[simp] theorem atD_nat {xs : List D} {k : Nat} : atD xs (k : Int) = xs[k]? := by
  unfold atD
  rw [ixAt_nat]
  by_cases h : k < xs.length
  · rw [if_pos h]; rfl
  · rw [if_neg h]; exact (List.getElem?_eq_none (by omega)).symm
@[simp] theorem atD_succ {xs : List D} {k : Nat} : atD xs ((k : Int) + 1) = xs[k + 1]? := atD_nat (k := k + 1)
@[simp] theorem atD_onep {xs : List D} {k : Nat} : atD xs (1 + (k : Int)) = xs[k + 1]? := by rw [Int.add_comm]; exact atD_succ
@[simp] theorem ixAt_succ {n k : Nat} : ixAt n ((k : Int) + 1) = if k + 1 < n then some (k + 1) else none := ixAt_nat (k := k + 1)
@[simp] theorem LIM_eq : LIM = 16777216 := rfl
theorem atD_pos {xs : List D} {i : Int} (h : 0 ≤ i) : atD xs i = xs[i.toNat]? := by
  have := atD_nat (xs := xs) (k := i.toNat)
  rwa [Int.toNat_of_nonneg h] at this
theorem ixAt_pos {n : Nat} {i : Int} (h : 0 ≤ i) (h2 : i < n) : ixAt n i = some i.toNat := by
  unfold ixAt
  rw [if_pos h, if_pos h2]
theorem ixAt_neg {n : Nat} {i : Int} (h : i < 0) (h2 : -(n : Int) ≤ i) : ixAt n i = some (i + n).toNat := by
  unfold ixAt
  rw [if_neg (by omega), if_pos h2]
theorem atD_neg {xs : List D} {i : Int} (h : i < 0) (h2 : -(xs.length : Int) ≤ i) : atD xs i = xs[(i + xs.length).toNat]? := by
  unfold atD
  rw [ixAt_neg h h2]; rfl
@[simp] theorem okM_lst_append : okM .lst .append = true := rfl
@[simp] theorem okM_lst_pop : okM .lst .pop = true := rfl
@[simp] theorem okM_lst_insert : okM .lst .insert = true := rfl
@[simp] theorem okM_lst_remove : okM .lst .remove = true := rfl
@[simp] theorem okM_lst_index : okM .lst .index = true := rfl
@[simp] theorem okM_lst_count : okM .lst .count = true := rfl
@[simp] theorem okM_lst_extend : okM .lst .extend = true := rfl
@[simp] theorem okM_lst_clear : okM .lst .clear = true := rfl
@[simp] theorem okM_lst_reverse : okM .lst .reverse = true := rfl
@[simp] theorem okM_tup_count : okM .tup .count = true := rfl
@[simp] theorem okM_tup_index : okM .tup .index = true := rfl
@[simp] theorem okM_dic_get : okM .dic .get = true := rfl
@[simp] theorem okM_dic_setdefault : okM .dic .setdefault = true := rfl
@[simp] theorem okM_str_join : okM .str .join = true := rfl
@[simp] theorem okM_str_split : okM .str .split = true := rfl
@[simp] theorem okM_str_strip : okM .str .strip = true := rfl
@[simp] theorem okM_str_upper : okM .str .upper = true := rfl
@[simp] theorem eqOkE_eq {x y : D} : eqOkE x y = (isD false x 30 && isD false y 30 || eq0 x y) := rfl
@[simp] theorem eqOk_eq {x y : D} : eqOk x y = (isD false x 30 && isD false y 30) := rfl
@[simp] theorem memOk_eq {x : D} {ys : List D} : memOk x ys = (isD false x 30 && isDs false ys 30) := rfl
@[simp] theorem atD_0 {xs : List D} : atD xs 0 = xs[0]? := atD_nat (k := 0)
@[simp] theorem ixAt_0 {n : Nat} : ixAt n 0 = if 0 < n then some 0 else none := ixAt_nat (k := 0)
@[simp] theorem atD_1 {xs : List D} : atD xs 1 = xs[1]? := atD_nat (k := 1)
@[simp] theorem ixAt_1 {n : Nat} : ixAt n 1 = if 1 < n then some 1 else none := ixAt_nat (k := 1)
@[simp] theorem atD_2 {xs : List D} : atD xs 2 = xs[2]? := atD_nat (k := 2)
@[simp] theorem ixAt_2 {n : Nat} : ixAt n 2 = if 2 < n then some 2 else none := ixAt_nat (k := 2)
@[simp] theorem atD_3 {xs : List D} : atD xs 3 = xs[3]? := atD_nat (k := 3)
@[simp] theorem ixAt_3 {n : Nat} : ixAt n 3 = if 3 < n then some 3 else none := ixAt_nat (k := 3)
@[simp] theorem atD_4 {xs : List D} : atD xs 4 = xs[4]? := atD_nat (k := 4)
@[simp] theorem ixAt_4 {n : Nat} : ixAt n 4 = if 4 < n then some 4 else none := ixAt_nat (k := 4)
@[simp] theorem atD_5 {xs : List D} : atD xs 5 = xs[5]? := atD_nat (k := 5)
@[simp] theorem ixAt_5 {n : Nat} : ixAt n 5 = if 5 < n then some 5 else none := ixAt_nat (k := 5)
@[simp] theorem atD_6 {xs : List D} : atD xs 6 = xs[6]? := atD_nat (k := 6)
@[simp] theorem ixAt_6 {n : Nat} : ixAt n 6 = if 6 < n then some 6 else none := ixAt_nat (k := 6)
@[simp] theorem atD_7 {xs : List D} : atD xs 7 = xs[7]? := atD_nat (k := 7)
@[simp] theorem ixAt_7 {n : Nat} : ixAt n 7 = if 7 < n then some 7 else none := ixAt_nat (k := 7)
@[simp] theorem atD_8 {xs : List D} : atD xs 8 = xs[8]? := atD_nat (k := 8)
@[simp] theorem ixAt_8 {n : Nat} : ixAt n 8 = if 8 < n then some 8 else none := ixAt_nat (k := 8)
@[simp] theorem atD_9 {xs : List D} : atD xs 9 = xs[9]? := atD_nat (k := 9)
@[simp] theorem ixAt_9 {n : Nat} : ixAt n 9 = if 9 < n then some 9 else none := ixAt_nat (k := 9)
@[simp] theorem atD_10 {xs : List D} : atD xs 10 = xs[10]? := atD_nat (k := 10)
@[simp] theorem ixAt_10 {n : Nat} : ixAt n 10 = if 10 < n then some 10 else none := ixAt_nat (k := 10)
@[simp] theorem atD_11 {xs : List D} : atD xs 11 = xs[11]? := atD_nat (k := 11)
@[simp] theorem ixAt_11 {n : Nat} : ixAt n 11 = if 11 < n then some 11 else none := ixAt_nat (k := 11)
@[simp] theorem atD_12 {xs : List D} : atD xs 12 = xs[12]? := atD_nat (k := 12)
@[simp] theorem ixAt_12 {n : Nat} : ixAt n 12 = if 12 < n then some 12 else none := ixAt_nat (k := 12)
end Pw
set_option Elab.async false
set_option linter.all false
set_option maxRecDepth 100000
/-! texts: how long they are when shown -/
namespace Pw
open PySem PySem.Spec PyProof.Rows L2
def OkC (x : Str) : Prop := ∀ c ∈ x.cps.toList, c < 16 ^ 8
theorem okC_of (s : String) : OkC (Str.ofString s) := fun c hc => by
  rw [Str.ofString_eq_toList] at hc
  simp only [List.mem_map] at hc
  obtain ⟨d, _, rfl⟩ := hc
  have h := d.valid
  have e : d.toNat < 1114112 := by
    unfold Char.toNat
    unfold UInt32.isValidChar Nat.isValidChar at h
    omega
  omega
theorem okC_int (i : Int) : OkC (toString i) := okC_of _
theorem okC_app {a b : Str} (ha : OkC a) (hb : OkC b) : OkC (a ++ b) := fun c hc => by
  have e : (a ++ b).cps = a.cps ++ b.cps := rfl
  rw [e] at hc
  simp only [Array.toList_append, List.mem_append] at hc
  exact hc.elim (ha c) (hb c)
theorem okC_sjoin {sep : Str} (hs : OkC sep) : ∀ l : List Str, (∀ a ∈ l, OkC a) → OkC (Str.join sep l)
  | [], _ => by intro c hc; exact absurd hc (by simp [Str.join, Str.empty])
  | [x], h => h x (List.mem_cons_self ..)
  | x :: y :: r, h => by
    show OkC (x ++ sep ++ Str.join sep (y :: r))
    exact okC_app (okC_app (h x (List.mem_cons_self ..)) hs) (okC_sjoin hs (y :: r) fun a ha => h a (List.mem_cons_of_mem _ ha))
theorem txt_join_eq {sep : Str} {l : List Str} : Txt.join sep l = Str.join sep l := by
  show Builtin.Str.glued sep l = _
  rw [StrLaws.glued_eq_join]
theorem okC_join {sep : Str} {l : List Str} (hs : OkC sep) (h : ∀ a ∈ l, OkC a) : OkC (Txt.join sep l) := by
  rw [txt_join_eq]; exact okC_sjoin hs l h
theorem sjoin_len {sep : Str} : ∀ l : List Str, (Str.join sep l).length ≤ (l.map (·.length)).sum + l.length * sep.length
  | [] => by show (0 : Nat) ≤ _; omega
  | [x] => by show x.length ≤ _; simp
  | x :: y :: r => by
    have ih := sjoin_len (sep := sep) (y :: r)
    show (x ++ sep ++ Str.join sep (y :: r)).length ≤ _
    rw [strLen_append, strLen_append]
    simp only [List.map_cons, List.sum_cons, List.length_cons, Nat.add_mul, Nat.one_mul] at ih ⊢
    omega
theorem join_len {sep : Str} {l : List Str} : (Txt.join sep l).length ≤ (l.map (·.length)).sum + l.length * sep.length := by
  rw [txt_join_eq]; exact sjoin_len l
theorem sm_str {x : Str} (h : OkC x) : Sm (10 * x.length + 2) (.str x) := ⟨rfl, StrLaws.reprText_len x h⟩
theorem sum_len_le {b : Nat} : ∀ {l : List Str}, (∀ a ∈ l, a.length ≤ b) → (l.map (·.length)).sum ≤ l.length * b
  | [], _ => by simp
  | x :: l, h => by
    have ih := sum_len_le (l := l) fun a ha => h a (List.mem_cons_of_mem _ ha)
    have := h x (List.mem_cons_self ..)
    simp only [List.map_cons, List.sum_cons, List.length_cons, Nat.add_mul, Nat.one_mul]
    omega
theorem int_len {i : Int} (k : Nat) (hk : 0 < k) (h : i.natAbs < 10 ^ k) : (toString i : Str).length ≤ k + 1 := by
  show (Str.ofString (toString i)).length ≤ _
  rw [PySem.ofString_length]
  exact int_text_length_le10 hk h
theorem strsOf_map : ∀ {l : List Str}, strsOf (l.map D.str) = some l
  | [] => rfl
  | x :: l => by simp [strsOf, strsOf_map (l := l)]
end Pw
set_option Elab.async false
set_option linter.all false
set_option maxRecDepth 100000
/-! more small laws for simp -/
namespace Pw
open PySem PySem.Spec PyProof.Rows L2
@[simp] theorem intsOf_nil : intsOf [] = some [] := rfl
@[simp] theorem intsOf_icons {i : Int} {ds : List D} : intsOf (.int i :: ds) = (intsOf ds).map (i :: ·) := by
  simp only [intsOf, intOf]
  cases intsOf ds <;> rfl
@[simp] theorem intsOf_maps {ns : List Int} : intsOf (ns.map D.int) = some ns := by
  induction ns with
  | nil => rfl
  | cons a r ih => simp [ih]
@[simp] theorem intsOf_mapf {α : Type} {f : α → Int} {ns : List α} : intsOf (ns.map fun x => D.int (f x)) = some (ns.map f) := by
  have : (ns.map fun x => D.int (f x)) = (ns.map f).map D.int := by simp
  rw [this, intsOf_maps]
@[simp] theorem intsOf_append {xs ys : List D} : intsOf (xs ++ ys) = (intsOf xs).bind fun a => (intsOf ys).map (a ++ ·) := by
  induction xs with
  | nil => simp
  | cons x xs ih =>
    cases x with
    | int i =>
      rw [List.cons_append, intsOf_icons, intsOf_icons, ih]
      cases intsOf xs <;> simp
      cases intsOf ys <;> simp
    | _ => simp [intsOf, intOf]
@[simp] theorem seqOf_tup {M : Mp} {ds : List D} : seqOf M (.tup ds) = some ds := rfl
@[simp] theorem seqOf_lst {M : Mp} {ds : List D} : seqOf M (.lst ds) = some ds := rfl
@[simp] theorem seqOf_ref {M : Mp} {a : Addr} : seqOf M (.ref a) = lstOf M (.ref a) := rfl
@[simp] theorem lstOf_lst {M : Mp} {ds : List D} : lstOf M (.lst ds) = some ds := rfl
@[simp] theorem lstOf_scr {M : Mp} {ds : List D} : lstOf M (.scr ds) = some ds := rfl
@[simp] theorem lstM_lst {M : Mp} {ds : List D} : lstM M (.lst ds) = some ds := rfl
theorem lstOf_ref {M : Mp} {a : Addr} {ds : List D} (h : M a = some (.lst ds)) : lstOf M (.ref a) = some ds := by simp [lstOf, h]
theorem lstM_ref {M : Mp} {a : Addr} {ds : List D} (h : M a = some (.lst ds)) : lstM M (.ref a) = some ds := by simp [lstM, h]
@[simp] theorem blsOf_nil : blsOf [] = some [] := rfl
@[simp] theorem blsOf_icons {b : Bool} {ds : List D} : blsOf (.bl b :: ds) = (blsOf ds).map (b :: ·) := by
  simp only [blsOf]
  cases blsOf ds <;> rfl
@[simp] theorem blsOf_maps {α : Type} {f : α → Bool} : ∀ {xs : List α}, blsOf (xs.map fun x => .bl (f x)) = some (xs.map f)
  | [] => rfl
  | x :: xs => by simp [blsOf_maps (xs := xs)]
@[simp] theorem strsOf_nil : strsOf [] = some [] := rfl
@[simp] theorem strsOf_icons {b : Str} {ds : List D} : strsOf (.str b :: ds) = (strsOf ds).map (b :: ·) := by
  simp only [strsOf]
  cases strsOf ds <;> rfl
@[simp] theorem strsOf_maps {α : Type} {f : α → Str} : ∀ {xs : List α}, strsOf (xs.map fun x => .str (f x)) = some (xs.map f)
  | [] => rfl
  | x :: xs => by simp [strsOf_maps (xs := xs)]
@[simp] theorem maxI_cons {a : Int} {r : List Int} : maxI (a :: r) = r.foldl max a := rfl
theorem eqD_lnil {xs : List D} : eqD (.lst xs) (.lst []) = decide (xs = []) := by
  simp only [eqD, toP, PyData.eqv]
  cases xs <;> simp [toPs, PyData.eqvAll]
theorem eqD_tnil {xs : List D} : eqD (.tup xs) (.tup []) = decide (xs = []) := by
  simp only [eqD, toP, PyData.eqv]
  cases xs <;> simp [toPs, PyData.eqvAll]
/-! slices as take and drop -/
theorem cutD_to {ds : List D} {i : Int} (h : 0 ≤ i) : cutD ds none (some i) = ds.take i.toNat := by
  have h1 : ¬ i < 0 := by omega
  simp only [cutD, cutIx, h1, if_false]
  rw [List.drop_zero, Nat.sub_zero]
  by_cases h2 : i.toNat ≤ ds.length
  · rw [Nat.min_eq_left h2]
  · rw [Nat.min_eq_right (by omega), List.take_of_length_le (Nat.le_refl _), List.take_of_length_le (by omega)]
theorem cutD_from {ds : List D} {i : Int} (h : 0 ≤ i) : cutD ds (some i) none = ds.drop i.toNat := by
  have h1 : ¬ i < 0 := by omega
  simp only [cutD, cutIx, h1, if_false]
  by_cases h2 : i.toNat ≤ ds.length
  · rw [Nat.min_eq_left h2, List.take_of_length_le (by rw [List.length_drop]; omega)]
  · rw [Nat.min_eq_right (by omega), List.drop_of_length_le (by omega : ds.length ≤ i.toNat), List.drop_of_length_le (Nat.le_refl _)]; simp
@[simp] theorem cutD_to_nat {ds : List D} {k : Nat} : cutD ds none (some (k : Int)) = ds.take k := cutD_to (by omega)
@[simp] theorem cutD_to_succ {ds : List D} {k : Nat} : cutD ds none (some ((k : Int) + 1)) = ds.take (k + 1) := by rw [cutD_to (by omega)]; congr 1
@[simp] theorem cutD_to_lit {ds : List D} {k : Nat} : cutD ds none (some (no_index (OfNat.ofNat k))) = ds.take k := cutD_to (i := (k : Int)) (by omega)
@[simp] theorem cutD_to_one {ds : List D} : cutD ds none (some 1) = ds.take 1 := cutD_to (by omega)
@[simp] theorem cutD_to_zero {ds : List D} : cutD ds none (some 0) = [] := by rw [cutD_to (by omega)]; rfl
@[simp] theorem cutD_from_nat {ds : List D} {k : Nat} : cutD ds (some (k : Int)) none = ds.drop k := cutD_from (by omega)
@[simp] theorem cutD_from_succ {ds : List D} {k : Nat} : cutD ds (some ((k : Int) + 1)) none = ds.drop (k + 1) := by rw [cutD_from (by omega)]; congr 1
@[simp] theorem cutD_from_lit {ds : List D} {k : Nat} : cutD ds (some (no_index (OfNat.ofNat k))) none = ds.drop k := cutD_from (i := (k : Int)) (by omega)
@[simp] theorem cutD_from_one {ds : List D} : cutD ds (some 1) none = ds.drop 1 := cutD_from (by omega)
theorem cutD_back {ds : List D} {i : Int} (h : i < 0) : cutD ds none (some i) = ds.take (i + ds.length).toNat := by
  simp only [cutD, cutIx, h, if_true]
  rw [List.drop_zero, Nat.sub_zero]
@[simp] theorem cutD_m1 {ds : List D} : cutD ds none (some (-1)) = ds.take (ds.length - 1) := by
  rw [cutD_back (by omega)]; congr 1; omega
theorem cutD_last {ds : List D} : cutD ds (some (-1)) none = ds.drop (ds.length - 1) := by
  simp only [cutD, cutIx]
  rw [if_pos (by omega)]
  have : ((-1 : Int) + ds.length).toNat = ds.length - 1 := by omega
  rw [this, List.take_of_length_le (by rw [List.length_drop]; omega)]
@[simp] theorem atD_m1 {ds : List D} (h : ds ≠ []) : atD ds (-1) = some (ds.getLast h) := by
  have h1 : 0 < ds.length := List.length_pos_iff.mpr h
  rw [atD_neg (by omega) (by omega)]
  have : ((-1 : Int) + ds.length).toNat = ds.length - 1 := by omega
  rw [this, List.getLast_eq_getElem, List.getElem?_eq_getElem (by omega)]
end Pw
set_option Elab.async false
set_option linter.all false
set_option maxRecDepth 100000
/-! values that may be shown and compared: atoms (V0), rows of atoms (V1), rows of these (V2) -/
namespace Pw
open PySem PySem.Spec PyProof.Rows L2
theorem isD_le {w : Bool} {d : D} {n m : Nat} (h : isD w d n = true) (hm : n ≤ m) : isD w d m = true := by
  induction m with
  | zero => cases n with
    | zero => exact h
    | succ n => omega
  | succ m ih =>
    by_cases e : n = m + 1
    · subst e; exact h
    · exact isD_upw _ _ (ih (by omega))
where
  isD_upw : ∀ (d : D) (n : Nat), isD w d n = true → isD w d (n + 1) = true
  | .tup ds, n, h => by
    cases n with
    | zero => simp [isD] at h
    | succ n => simp only [isD] at h ⊢; exact isDs_upw ds n h
  | .lst ds, n, h => by
    cases n with
    | zero => simp [isD] at h
    | succ n => simp only [isD] at h ⊢; exact isDs_upw ds n h
  | .dic ds, n, h => by
    cases n with
    | zero => simp [isD] at h
    | succ n => simp only [isD, Bool.and_eq_true] at h ⊢; exact ⟨h.1, isDk_upw ds n h.2⟩
  | .non, n, h => by simp [isD]
  | .bl _, n, h => by simp [isD]
  | .int _, n, h => by simp [isD]
  | .str _, n, h => by simp [isD]
  | .ref _, n, h => by simp [isD] at h
  | .ty _, n, h => by simp [isD] at h
  | .exc _, n, h => by simp [isD] at h
  | .scr _, n, h => by simp [isD] at h
  isDs_upw : ∀ (ds : List D) (n : Nat), isDs w ds n = true → isDs w ds (n + 1) = true
  | [], n, h => rfl
  | d :: ds, n, h => by
    simp only [isDs, Bool.and_eq_true] at h ⊢; exact ⟨isD_upw d n h.1, isDs_upw ds n h.2⟩
  isDk_upw : ∀ (ds : List (Key × D)) (n : Nat), isDk w ds n = true → isDk w ds (n + 1) = true
  | [], n, h => rfl
  | (k, d) :: ds, n, h => by
    simp only [isDk, Bool.and_eq_true] at h ⊢; exact ⟨isD_upw d n h.1, isDk_upw ds n h.2⟩
structure V0 (d : D) : Prop where
  isd : isD true d 10 = true
  sm : Sm 100 d
structure V1 (d : D) : Prop where
  isd : isD true d 12 = true
  sm : Sm 31000 d
structure V2 (d : D) : Prop where
  isd : isD true d 14 = true
  sm : Sm 6000000 d
theorem V0.v1 {d : D} (h : V0 d) : V1 d := ⟨isD_le h.1 (by decide), h.2.mono (by decide)⟩
theorem V1.v2 {d : D} (h : V1 d) : V2 d := ⟨isD_le h.1 (by decide), h.2.mono (by decide)⟩
theorem V0.v2 {d : D} (h : V0 d) : V2 d := h.v1.v2
theorem V0.d {d : D} (h : V0 d) : isD true d 30 = true := isD_le h.1 (by decide)
theorem V1.d {d : D} (h : V1 d) : isD true d 30 = true := isD_le h.1 (by decide)
theorem V2.d {d : D} (h : V2 d) : isD true d 30 = true := isD_le h.1 (by decide)
@[simp] theorem V0_non : V0 .non := ⟨by simp, sm_non.mono (by decide)⟩
@[simp] theorem V0_bl {b : Bool} : V0 (.bl b) := ⟨by simp, (sm_bl b).mono (by decide)⟩
theorem V0_int {i : Int} (h : i.natAbs < 10 ^ 90) : V0 (.int i) := ⟨by simp, (sm_int 90 (by decide) (by decide) h).mono (by decide)⟩
theorem V0_intR {i : Int} (h1 : -(10 ^ 80) < i) (h2 : i < 10 ^ 80) : V0 (.int i) := V0_int (by omega)
@[simp] theorem V0_ints {i : Int} (h1 : -1000000000000000000000000000000000000000000000000000000000000000000000000000000000 < i) (h2 : i < 1000000000000000000000000000000000000000000000000000000000000000000000000000000000) : V0 (.int i) := V0_int (by omega)
@[simp] theorem V0_nil : V0 (.tup []) := ⟨by simp, ⟨rfl, by decide⟩⟩
@[simp] theorem V0_lnil : V0 (.lst []) := ⟨by simp, ⟨rfl, by decide⟩⟩
@[simp] theorem V0_dnil : V0 (.dic []) := ⟨by simp [isD, isDk], ⟨rfl, by decide⟩⟩
theorem V0_str {x : Str} (h : OkC x) (hl : x.length ≤ 9) : V0 (.str x) := ⟨by simp, (sm_str h).mono (by omega)⟩
@[simp] theorem V0_strS {s : String} (h : (Str.ofString s).length ≤ 9) : V0 (.str (Str.ofString s)) := V0_str (okC_of s) h
theorem V1_str {x : Str} (h : OkC x) (hl : x.length ≤ 3000) : V1 (.str x) := ⟨by simp, (sm_str h).mono (by omega)⟩
theorem V2_str {x : Str} (h : OkC x) (hl : x.length ≤ 500000) : V2 (.str x) := ⟨by simp, (sm_str h).mono (by omega)⟩
theorem V1_tup {xs : List D} (h : ∀ x ∈ xs, V0 x) (hl : xs.length ≤ 300) : V1 (.tup xs) := ⟨by
  rw [show (12 : Nat) = 11 + 1 from rfl, isD_tup]; exact isDs_of fun x hx => isD_le (h x hx).1 (by decide), (sm_tup (fun x hx => (h x hx).2) hl).mono (by decide)⟩
theorem V1_lst {xs : List D} (h : ∀ x ∈ xs, V0 x) (hl : xs.length ≤ 300) : V1 (.lst xs) := ⟨by
  rw [show (12 : Nat) = 11 + 1 from rfl, isD_lst]; exact isDs_of fun x hx => isD_le (h x hx).1 (by decide), (sm_lst (fun x hx => (h x hx).2) hl).mono (by decide)⟩
theorem V2_tup {xs : List D} (h : ∀ x ∈ xs, V1 x) (hl : xs.length ≤ 190) : V2 (.tup xs) := ⟨by
  rw [show (14 : Nat) = 13 + 1 from rfl, isD_tup]; exact isDs_of fun x hx => isD_le (h x hx).1 (by decide), (sm_tup (fun x hx => (h x hx).2) hl).mono (by decide)⟩
theorem V2_lst {xs : List D} (h : ∀ x ∈ xs, V1 x) (hl : xs.length ≤ 190) : V2 (.lst xs) := ⟨by
  rw [show (14 : Nat) = 13 + 1 from rfl, isD_lst]; exact isDs_of fun x hx => isD_le (h x hx).1 (by decide), (sm_lst (fun x hx => (h x hx).2) hl).mono (by decide)⟩
theorem V0_t1 {d : D} (h : isD true d 9 = true ∧ Sm 90 d) : V0 (.tup [d]) := ⟨by
  rw [show (10 : Nat) = 9 + 1 from rfl, isD_tup]; simp [h.1], (sm_tup (n := 1) (b := 90) (by simpa using h.2) (by simp)).mono (by decide)⟩
theorem V0_l1 {d : D} (h : isD true d 9 = true ∧ Sm 90 d) : V0 (.lst [d]) := ⟨by
  rw [show (10 : Nat) = 9 + 1 from rfl, isD_lst]; simp [h.1], (sm_lst (n := 1) (b := 90) (by simpa using h.2) (by simp)).mono (by decide)⟩
theorem V0_map {ns : List Int} (h : ∀ i ∈ ns, -(10 ^ 80) < i ∧ i < 10 ^ 80) : ∀ d ∈ ns.map D.int, V0 d := fun d hd => by
  obtain ⟨i, hi, rfl⟩ := List.mem_map.mp hd
  exact V0_intR (h i hi).1 (h i hi).2
theorem all_take {p : D → Prop} {xs : List D} {k : Nat} (h : ∀ x ∈ xs, p x) : ∀ x ∈ xs.take k, p x := fun x hx => h x (List.mem_of_mem_take hx)
theorem all_drop {p : D → Prop} {xs : List D} {k : Nat} (h : ∀ x ∈ xs, p x) : ∀ x ∈ xs.drop k, p x := fun x hx => h x (List.mem_of_mem_drop hx)
theorem all_rev {p : D → Prop} {xs : List D} (h : ∀ x ∈ xs, p x) : ∀ x ∈ xs.reverse, p x := fun x hx => h x (List.mem_reverse.mp hx)
theorem all_app {p : D → Prop} {xs ys : List D} (h : ∀ x ∈ xs, p x) (h' : ∀ x ∈ ys, p x) : ∀ x ∈ xs ++ ys, p x := fun x hx => (List.mem_append.mp hx).elim (h x) (h' x)
theorem all_cons {p : D → Prop} {x : D} {ys : List D} (h : p x) (h' : ∀ x ∈ ys, p x) : ∀ y ∈ x :: ys, p y := fun y hy => (List.mem_cons.mp hy).elim (fun e => e ▸ h) (h' y)
theorem all_nil {p : D → Prop} : ∀ x ∈ ([] : List D), p x := fun x hx => by cases hx
theorem all_rep {p : D → Prop} {xs : List D} {i : Int} (h : ∀ x ∈ xs, p x) : ∀ x ∈ rep i xs, p x := fun x hx => by
  obtain ⟨l, hl, hx⟩ := List.mem_flatten.mp hx
  rw [List.mem_replicate] at hl
  exact h x (hl.2 ▸ hx)
theorem rep_length {xs : List D} {i : Int} : (rep i xs).length = i.toNat * xs.length := by
  unfold rep
  rw [List.length_flatten, List.map_replicate, List.sum_replicate_nat]
theorem bfn_repr2 {m : Bool} {d : D} {M : Mp} {Q : DK} (h : V2 (see M d)) (hq : Q (.str (rp (see M d))) M) : bfn m .repr [d] M Q :=
  bfn_repr h.d h.2 (by decide) hq
theorem atD_ex {ds : List D} {i : Int} (h0 : 0 ≤ i) (h1 : i < ds.length) : ∃ d ∈ ds, atD ds i = some d := by
  rw [atD_pos h0]
  have : i.toNat < ds.length := by omega
  exact ⟨ds[i.toNat], List.getElem_mem this, List.getElem?_eq_getElem this⟩
theorem fmax_mem : ∀ (r : List Int) (a : Int), r.foldl max a ∈ a :: r
  | [], a => by simp
  | b :: r, a => by
    rw [List.foldl_cons]
    have := fmax_mem r (max a b)
    rcases List.mem_cons.mp this with h | h
    · rw [h]
      rcases Int.le_total a b with g | g
      · rw [Int.max_eq_right g]; simp
      · rw [Int.max_eq_left g]; simp
    · simp [h]
theorem fmax_ge : ∀ (r : List Int) (a : Int), ∀ x ∈ a :: r, x ≤ r.foldl max a
  | [], a, x, h => by simp at h; subst h; exact Int.le_refl _
  | b :: r, a, x, h => by
    rw [List.foldl_cons]
    have ih := fmax_ge r (max a b)
    rcases List.mem_cons.mp h with h | h
    · subst h
      have := ih _ (List.mem_cons_self ..)
      exact Int.le_trans (Int.le_max_left ..) this
    · rcases List.mem_cons.mp h with h | h
      · subst h
        have := ih _ (List.mem_cons_self ..)
        exact Int.le_trans (Int.le_max_right ..) this
      · exact ih x (List.mem_cons_of_mem _ h)
/-- small atoms -/
structure Va (d : D) : Prop where
  isd : isD true d 5 = true
  sm : Sm 80 d
theorem Va.v0 {d : D} (h : Va d) : V0 d := ⟨isD_le h.1 (by decide), h.2.mono (by decide)⟩
theorem Va_non : Va .non := ⟨by simp, sm_non.mono (by decide)⟩
theorem Va_bl {b : Bool} : Va (.bl b) := ⟨by simp, (sm_bl b).mono (by decide)⟩
theorem Va_intR {i : Int} (h1 : -(10 ^ 70) < i) (h2 : i < 10 ^ 70) : Va (.int i) := ⟨by simp, (sm_int 71 (by decide) (by decide) (by omega)).mono (by decide)⟩
theorem Va_ints {i : Int} (h1 : -10000000000000000000000000000000000000000000000000000000000000000000000 < i) (h2 : i < 10000000000000000000000000000000000000000000000000000000000000000000000) : Va (.int i) := Va_intR (by omega) (by omega)
theorem Va_nil : Va (.tup []) := ⟨by simp, ⟨rfl, by decide⟩⟩
theorem Va_lnil : Va (.lst []) := ⟨by simp, ⟨rfl, by decide⟩⟩
theorem Va_dnil : Va (.dic []) := ⟨by simp [isD, isDk], ⟨rfl, by decide⟩⟩
theorem Va_strS {s : String} (h : (Str.ofString s).length ≤ 7) : Va (.str (Str.ofString s)) := ⟨by simp, (sm_str (okC_of s)).mono (by omega)⟩
theorem V0_ta {d : D} (h : Va d) : V0 (.tup [d]) := V0_t1 ⟨isD_le h.1 (by decide), h.2.mono (by decide)⟩
theorem V0_la {d : D} (h : Va d) : V0 (.lst [d]) := V0_l1 ⟨isD_le h.1 (by decide), h.2.mono (by decide)⟩
theorem all_map {α : Type} {p : D → Prop} {f : α → D} {l : List α} (h : ∀ a ∈ l, p (f a)) : ∀ x ∈ l.map f, p x := fun x hx => by
  obtain ⟨a, ha, rfl⟩ := List.mem_map.mp hx
  exact h a ha
theorem all_range {k : Nat} (h : k ≤ 1000000) : ∀ x ∈ (List.range k).map (fun (k : Nat) => D.int (k : Int)), V0 x := all_map fun a ha => by
  have := List.mem_range.mp ha
  exact V0_intR (by omega) (by omega)
theorem all_ints {p : D → Prop} {ns : List Int} (h : ∀ i ∈ ns, p (.int i)) : ∀ x ∈ ns.map D.int, p x := all_map h
/-! a text, many times -/
theorem foldl_app_toList {α : Type} : ∀ (l : List (Array α)) (a : Array α), (l.foldl (· ++ ·) a).toList = a.toList ++ (l.map Array.toList).flatten
  | [], a => by simp
  | x :: l, a => by
    rw [List.foldl_cons, foldl_app_toList l (a ++ x)]
    simp
theorem txt_mul_cps {x : Str} {j : Int} (hj : 2 ≤ j) : (Txt.mul x j).cps.toList = (List.replicate j.toNat x.cps.toList).flatten ∨ Txt.mul x j = x := by
  unfold Txt.mul
  rw [if_neg (by omega)]
  split
  · exact .inr rfl
  · left
    show ((List.replicate j.toNat x.cps).foldl (· ++ ·) #[]).toList = _
    rw [foldl_app_toList]
    simp
theorem txt_mul_okC {x : Str} {j : Int} (hj : 2 ≤ j) (h : OkC x) : OkC (Txt.mul x j) := fun c hc => by
  rcases txt_mul_cps (x := x) hj with e | e
  · rw [e] at hc
    obtain ⟨l, hl, hx⟩ := List.mem_flatten.mp hc
    rw [List.mem_replicate] at hl
    rw [hl.2] at hx
    exact h c hx
  · rw [e] at hc; exact h c hc
theorem txt_mul_len {x : Str} {j : Int} (hj : 2 ≤ j) : (Txt.mul x j).length ≤ j.toNat * x.length := by
  rcases txt_mul_cps (x := x) hj with e | e
  · have : (Txt.mul x j).length = (Txt.mul x j).cps.toList.length := by simp [Str.length]
    rw [this, e]
    simp [Str.length]
  · rw [e]
    have : 1 * x.length ≤ j.toNat * x.length := Nat.mul_le_mul_right _ (by omega)
    omega
theorem V2_mulS {s : String} {j : Int} (hj : 2 ≤ j) (hl : j.toNat * (Str.ofString s).length ≤ 500000) : V2 (.str (Txt.mul (Str.ofString s) j)) :=
  V2_str (txt_mul_okC hj (okC_of s)) (Nat.le_trans (txt_mul_len hj) hl)
theorem bfn_repr3 {m : Bool} {d y : D} {l : List Addr} {M : Mp} {Q : DK} (he : settle M 8 d = some (y, l)) (h : V2 y) (hq : Q (.str (rp y)) M) : bfn m .repr [d] M Q :=
  bfn_reprD he h.d h.2 (by decide) hq
theorem all_tail {p : D → Prop} {xs : List D} (h : ∀ x ∈ xs, p x) : ∀ x ∈ xs.tail, p x := fun x hx => h x (List.mem_of_mem_tail hx)
end Pw
set_option Elab.async false
set_option linter.all false
set_option maxRecDepth 100000
/-! loops by places; comprehensions over typed lists -/
namespace Pw
open PySem PySem.Spec PyProof.Rows L2
section
variable {step : D → (St → Mp → Prop) → St → Mp → Prop} {clr : List Nat} {still : Mp → Prop} {nx : St → Mp → Prop}
/-- a loop over the list that enc makes of l: I j holds ahead of item j -/
theorem forL_map {α : Type} {enc : α → D} {l : List α} {δ : St} {M : Mp} (I : Nat → St → Mp → Prop)
    (h1 : ∀ j a δ M, l[j]? = some a → j < l.length → I j δ M → still M ∧ ∀ k : St → Mp → Prop, (∀ δ' M', I (j + 1) (wipeD δ' clr) M' → k δ' M') → step (enc a) k δ M)
    (h2 : ∀ δ M, I l.length δ M → still M ∧ nx δ M) (h0 : I 0 δ M) : forL step clr still nx (l.map enc) δ M := by
  refine forL_inv (I := fun ds δ M => ∃ a, a ≤ l.length ∧ ds = (l.drop a).map enc ∧ I a δ M) ?_ ?_ _ _ _ ⟨0, by omega, by simp, h0⟩
  · rintro d ds δ M ⟨a, ha, e, hI⟩
    by_cases h : a < l.length
    · rw [List.drop_eq_getElem_cons h, List.map_cons] at e
      obtain ⟨rfl, rfl⟩ := List.cons.inj e
      have := h1 a _ δ M (List.getElem?_eq_getElem h) h hI
      exact ⟨this.1, fun k hk => this.2 k fun δ' M' h' => hk δ' M' ⟨a + 1, h, rfl, h'⟩⟩
    · rw [List.drop_of_length_le (by omega)] at e
      simp at e
  · rintro δ M ⟨a, ha, e, hI⟩
    have : a = l.length := by
      have := congrArg List.length e
      simp at this; omega
    subst this
    exact h2 δ M hI
theorem forL_ints {ns : List Int} {δ : St} {M : Mp} (I : Nat → St → Mp → Prop)
    (h1 : ∀ j i δ M, ns[j]? = some i → j < ns.length → I j δ M → still M ∧ ∀ k : St → Mp → Prop, (∀ δ' M', I (j + 1) (wipeD δ' clr) M' → k δ' M') → step (.int i) k δ M)
    (h2 : ∀ δ M, I ns.length δ M → still M ∧ nx δ M) (h0 : I 0 δ M) : forL step clr still nx (ns.map D.int) δ M := forL_map I h1 h2 h0
theorem forL_rng {n : Nat} {δ : St} {M : Mp} (I : Nat → St → Mp → Prop)
    (h1 : ∀ j δ M, j < n → I j δ M → still M ∧ ∀ k : St → Mp → Prop, (∀ δ' M', I (j + 1) (wipeD δ' clr) M' → k δ' M') → step (.int (j : Nat)) k δ M)
    (h2 : ∀ δ M, I n δ M → still M ∧ nx δ M) (h0 : I 0 δ M) : forL step clr still nx ((List.range n).map fun (k : Nat) => D.int (k : Int)) δ M := by
  refine forL_map I (fun j a δ M e hj hI => ?_) (fun δ M hI => h2 δ M (by simpa using hI)) h0
  rw [List.length_range] at hj
  rw [List.getElem?_range hj] at e
  obtain rfl := Option.some.inj e
  exact h1 j δ M hj hI
/-- range(a, b) -/
theorem forL_rng2 {a : Int} {n : Nat} {δ : St} {M : Mp} (I : Nat → St → Mp → Prop)
    (h1 : ∀ j δ M, j < n → I j δ M → still M ∧ ∀ k : St → Mp → Prop, (∀ δ' M', I (j + 1) (wipeD δ' clr) M' → k δ' M') → step (.int (a + (j : Nat))) k δ M)
    (h2 : ∀ δ M, I n δ M → still M ∧ nx δ M) (h0 : I 0 δ M) : forL step clr still nx ((List.range n).map fun (k : Nat) => D.int (a + (k : Int))) δ M := by
  refine forL_map I (fun j b δ M e hj hI => ?_) (fun δ M hI => h2 δ M (by simpa using hI)) h0
  rw [List.length_range] at hj
  rw [List.getElem?_range hj] at e
  obtain rfl := Option.some.inj e
  exact h1 j δ M hj hI
theorem forL_enum {xs : List D} {δ : St} {M : Mp} (I : Nat → St → Mp → Prop)
    (h1 : ∀ j x δ M, xs[j]? = some x → j < xs.length → I j δ M → still M ∧ ∀ k : St → Mp → Prop, (∀ δ' M', I (j + 1) (wipeD δ' clr) M' → k δ' M') → step (.tup [.int (j : Nat), x]) k δ M)
    (h2 : ∀ δ M, I xs.length δ M → still M ∧ nx δ M) (h0 : I 0 δ M) : forL step clr still nx (xs.zipIdx.map fun p => D.tup [.int (p.2 : Nat), p.1]) δ M := by
  refine forL_map I (fun j a δ M e hj hI => ?_) (fun δ M hI => h2 δ M (by simpa using hI)) h0
  rw [List.length_zipIdx] at hj
  rw [List.getElem?_zipIdx] at e
  obtain ⟨x, hx, rfl⟩ := Option.map_eq_some_iff.mp e
  have := h1 j x δ M hx hj hI
  simpa using this
theorem forL_list {xs : List D} {δ : St} {M : Mp} (I : Nat → St → Mp → Prop)
    (h1 : ∀ j x δ M, xs[j]? = some x → j < xs.length → I j δ M → still M ∧ ∀ k : St → Mp → Prop, (∀ δ' M', I (j + 1) (wipeD δ' clr) M' → k δ' M') → step x k δ M)
    (h2 : ∀ δ M, I xs.length δ M → still M ∧ nx δ M) (h0 : I 0 δ M) : forL step clr still nx xs δ M := by
  have := forL_map (enc := id) (l := xs) (step := step) (clr := clr) (still := still) (nx := nx) (δ := δ) (M := M) I h1 h2 h0
  simpa using this
/-- a loop that keeps I, whatever the item is -/
theorem forL_all {xs : List D} {δ : St} {M : Mp} (I : St → Mp → Prop)
    (h1 : ∀ x δ M, x ∈ xs → I δ M → still M ∧ ∀ k : St → Mp → Prop, (∀ δ' M', I (wipeD δ' clr) M' → k δ' M') → step x k δ M)
    (h2 : ∀ δ M, I δ M → still M ∧ nx δ M) (h0 : I δ M) : forL step clr still nx xs δ M :=
  forL_list (fun _ => I) (fun j x δ M e _ hI => h1 x δ M (List.mem_of_getElem? e) hI) h2 h0
end
section
variable {g : D → St → Mp → (St → Mp → Prop) → Prop} {tt : St → Mp → (Bool → Mp → Prop) → Prop} {te : St → Mp → (List D → Mp → (List D → Mp → Prop) → Prop)} {still : Mp → Prop} {δ : St} {K : List D → Mp → Prop} {M : Mp}
theorem filter_map_flat {α : Type} {p : α → Bool} {f : α → D} : ∀ {l : List α}, (l.flatMap fun a => if p a then [f a] else []) = (l.filter p).map f
  | [] => rfl
  | a :: l => by
    rw [List.flatMap_cons, filter_map_flat (l := l), List.filter_cons]
    cases p a <;> simp
/-- a comprehension that changes nothing: the items that pass, mapped -/
theorem compL_filter {α : Type} (l : List α) (enc : α → D) (p : α → Bool) (f : α → D) (hs : still M)
    (h1 : ∀ a ∈ l, ∀ acc, ∀ k : List D → Mp → Prop, (p a = true → k (acc ++ [f a]) M) → (p a = false → k acc M) → g (enc a) δ M fun δ1 M1 => tt δ1 M1 fun b M2 => match b with
      | true => te δ1 M2 acc M2 k
      | false => k acc M2)
    (h2 : K ((l.filter p).map f) M) : compL g tt te still δ K (l.map enc) [] M := by
  refine compL_inv (I := fun ds' acc M' => M' = M ∧ ∃ a, ds' = (l.drop a).map enc ∧ acc ++ ((l.drop a).filter p).map f = (l.filter p).map f) ?_ ?_ _ [] M ⟨rfl, 0, by simp, by simp⟩
  · rintro d ds' acc M' ⟨rfl, a, e, ha⟩
    by_cases h : a < l.length
    · rw [List.drop_eq_getElem_cons h] at e ha
      rw [List.map_cons] at e
      obtain ⟨rfl, rfl⟩ := List.cons.inj e
      refine ⟨hs, fun k hk => h1 _ (List.getElem_mem h) acc k (fun hp => hk _ _ ⟨rfl, a + 1, rfl, ?_⟩) fun hp => hk _ _ ⟨rfl, a + 1, rfl, ?_⟩⟩
      · rw [← ha, List.filter_cons, hp]; simp
      · rw [← ha, List.filter_cons, hp]; simp
    · rw [List.drop_of_length_le (by omega)] at e
      simp at e
  · rintro acc M' ⟨rfl, a, e, ha⟩
    refine ⟨hs, ?_⟩
    have : l.drop a = [] := List.map_eq_nil_iff.mp e.symm
    rw [this] at ha
    simp at ha
    rw [ha]; exact h2
theorem compL_map {α : Type} (l : List α) (enc : α → D) (f : α → D) (hs : still M)
    (h1 : ∀ a ∈ l, ∀ acc, ∀ k : List D → Mp → Prop, k (acc ++ [f a]) M → g (enc a) δ M fun δ1 M1 => tt δ1 M1 fun b M2 => match b with
      | true => te δ1 M2 acc M2 k
      | false => k acc M2)
    (h2 : K (l.map f) M) : compL g tt te still δ K (l.map enc) [] M :=
  compL_filter l enc (fun _ => true) f hs (fun a ha acc k hk _ => h1 a ha acc k (hk rfl)) (by rw [List.filter_eq_self.mpr (fun _ _ => rfl)]; exact h2)
theorem compL_filterD (xs : List D) (p : D → Bool) (f : D → D) (hs : still M)
    (h1 : ∀ a ∈ xs, ∀ acc, ∀ k : List D → Mp → Prop, (p a = true → k (acc ++ [f a]) M) → (p a = false → k acc M) → g a δ M fun δ1 M1 => tt δ1 M1 fun b M2 => match b with
      | true => te δ1 M2 acc M2 k
      | false => k acc M2)
    (h2 : K ((xs.filter p).map f) M) : compL g tt te still δ K xs [] M := by
  have := compL_filter (g := g) (tt := tt) (te := te) (δ := δ) (K := K) xs id p f hs h1 h2
  rwa [List.map_id] at this
theorem compL_mapD (xs : List D) (f : D → D) (hs : still M)
    (h1 : ∀ a ∈ xs, ∀ acc, ∀ k : List D → Mp → Prop, k (acc ++ [f a]) M → g a δ M fun δ1 M1 => tt δ1 M1 fun b M2 => match b with
      | true => te δ1 M2 acc M2 k
      | false => k acc M2)
    (h2 : K (xs.map f) M) : compL g tt te still δ K xs [] M := by
  have := compL_map (g := g) (tt := tt) (te := te) (δ := δ) (K := K) xs id f hs h1 h2
  rwa [List.map_id] at this
/-- enumerate -/
theorem compL_enum (xs : List D) (p : Nat → D → Bool) (f : Nat → D → D) (hs : still M)
    (h1 : ∀ j x, xs[j]? = some x → j < xs.length → ∀ acc, ∀ k : List D → Mp → Prop, (p j x = true → k (acc ++ [f j x]) M) → (p j x = false → k acc M) → g (.tup [.int (j : Nat), x]) δ M fun δ1 M1 => tt δ1 M1 fun b M2 => match b with
      | true => te δ1 M2 acc M2 k
      | false => k acc M2)
    (h2 : K ((xs.zipIdx.filter fun q => p q.2 q.1).map fun q => f q.2 q.1) M) : compL g tt te still δ K (xs.zipIdx.map fun p => D.tup [.int (p.2 : Nat), p.1]) [] M := by
  refine compL_filter xs.zipIdx _ (fun q => p q.2 q.1) (fun q => f q.2 q.1) hs (fun a ha acc k hk1 hk0 => ?_) h2
  obtain ⟨x, j⟩ := a
  have e := List.mem_zipIdx_iff_getElem?.mp ha
  have hj : j < xs.length := (List.getElem?_eq_some_iff.mp e).1
  exact h1 j x e hj acc k hk1 hk0
theorem compL_rng (n : Nat) (p : Nat → Bool) (f : Nat → D) (hs : still M)
    (h1 : ∀ j, j < n → ∀ acc, ∀ k : List D → Mp → Prop, (p j = true → k (acc ++ [f j]) M) → (p j = false → k acc M) → g (.int (j : Nat)) δ M fun δ1 M1 => tt δ1 M1 fun b M2 => match b with
      | true => te δ1 M2 acc M2 k
      | false => k acc M2)
    (h2 : K (((List.range n).filter p).map f) M) : compL g tt te still δ K ((List.range n).map fun (k : Nat) => D.int (k : Int)) [] M :=
  compL_filter (List.range n) _ p f hs (fun a ha => h1 a (List.mem_range.mp ha)) h2
theorem compL_rng2 (a : Int) (n : Nat) (p : Nat → Bool) (f : Nat → D) (hs : still M)
    (h1 : ∀ j, j < n → ∀ acc, ∀ k : List D → Mp → Prop, (p j = true → k (acc ++ [f j]) M) → (p j = false → k acc M) → g (.int (a + (j : Nat))) δ M fun δ1 M1 => tt δ1 M1 fun b M2 => match b with
      | true => te δ1 M2 acc M2 k
      | false => k acc M2)
    (h2 : K (((List.range n).filter p).map f) M) : compL g tt te still δ K ((List.range n).map fun (k : Nat) => D.int (a + (k : Int))) [] M :=
  compL_filter (List.range n) _ p f hs (fun a ha => h1 a (List.mem_range.mp ha)) h2
end
/-! what gathers anything (lists, dicts) -/
section
variable {α : Type} {g : D → St → Mp → (St → Mp → Prop) → Prop} {tt : St → Mp → (Bool → Mp → Prop) → Prop} {te : St → Mp → (α → Mp → (α → Mp → Prop) → Prop)} {still : Mp → Prop} {δ : St} {K : α → Mp → Prop} {M : Mp}
/-- by places, nothing changes but what is gathered: A j is what stands ahead of item j -/
theorem compL_at (xs : List D) (A : Nat → α) {a0 : α} (h0 : a0 = A 0) (hs : still M)
    (h1 : ∀ j x, xs[j]? = some x → j < xs.length → ∀ k : α → Mp → Prop, k (A (j + 1)) M → g x δ M fun δ1 M1 => tt δ1 M1 fun b M2 => match b with
      | true => te δ1 M2 (A j) M2 k
      | false => k (A j) M2)
    (h2 : K (A xs.length) M) : compL g tt te still δ K xs a0 M := by
  refine compL_inv (I := fun ds acc M' => M' = M ∧ ∃ a, a ≤ xs.length ∧ ds = xs.drop a ∧ acc = A a) ?_ ?_ _ _ _ ⟨rfl, 0, by omega, by simp, h0⟩
  · rintro d ds acc M' ⟨rfl, a, ha, e, rfl⟩
    by_cases h : a < xs.length
    · rw [List.drop_eq_getElem_cons h] at e
      obtain ⟨rfl, rfl⟩ := List.cons.inj e
      exact ⟨hs, fun k hk => h1 a _ (List.getElem?_eq_getElem h) h k (hk _ _ ⟨rfl, a + 1, h, rfl, rfl⟩)⟩
    · rw [List.drop_of_length_le (by omega)] at e; cases e
  · rintro acc M' ⟨rfl, a, ha, e, rfl⟩
    have : a = xs.length := by
      have := congrArg List.length e
      simp at this; omega
    subst this
    exact ⟨hs, h2⟩
end
section
variable {g : D → St → Mp → (St → Mp → Prop) → Prop} {tt : St → Mp → (Bool → Mp → Prop) → Prop} {te : St → Mp → (List D → Mp → (List D → Mp → Prop) → Prop)} {still : Mp → Prop} {δ : St} {K : List D → Mp → Prop} {M : Mp}
/-- mapped, behind what stands already -/
theorem compL_mapA {α : Type} (l : List α) (enc : α → D) (f : α → D) (acc0 : List D) (hs : still M)
    (h1 : ∀ a ∈ l, ∀ acc : List D, acc.length < acc0.length + l.length → ∀ k : List D → Mp → Prop, k (acc ++ [f a]) M → g (enc a) δ M fun δ1 M1 => tt δ1 M1 fun b M2 => match b with
      | true => te δ1 M2 acc M2 k
      | false => k acc M2)
    (h2 : K (acc0 ++ l.map f) M) : compL g tt te still δ K (l.map enc) acc0 M := by
  refine compL_inv (I := fun ds acc M' => M' = M ∧ ∃ a, a ≤ l.length ∧ ds = (l.drop a).map enc ∧ acc = acc0 ++ (l.take a).map f) ?_ ?_ _ _ _ ⟨rfl, 0, by omega, by simp, by simp⟩
  · rintro d ds acc M' ⟨rfl, a, ha, e, hacc⟩
    by_cases h : a < l.length
    · rw [List.drop_eq_getElem_cons h, List.map_cons] at e
      obtain ⟨rfl, rfl⟩ := List.cons.inj e
      refine ⟨hs, fun k hk => h1 _ (List.getElem_mem h) acc ?_ k (hk _ _ ⟨rfl, a + 1, h, rfl, ?_⟩)⟩
      · rw [hacc]; simp; omega
      · have e9 : l.take (a + 1) = l.take a ++ [l[a]] := by rw [List.take_succ, List.getElem?_eq_getElem h]; rfl
        rw [e9, hacc, List.map_append, List.append_assoc]; rfl
    · rw [List.drop_of_length_le (by omega)] at e; cases e
  · rintro acc M' ⟨rfl, a, ha, e, hacc⟩
    have : a = l.length := by
      have := congrArg List.length e
      simp at this; omega
    subst this
    rw [List.take_length] at hacc
    exact ⟨hs, by rw [hacc]; exact h2⟩
theorem compL_mapAD (xs : List D) (f : D → D) (acc0 : List D) (hs : still M)
    (h1 : ∀ a ∈ xs, ∀ acc : List D, acc.length < acc0.length + xs.length → ∀ k : List D → Mp → Prop, k (acc ++ [f a]) M → g a δ M fun δ1 M1 => tt δ1 M1 fun b M2 => match b with
      | true => te δ1 M2 acc M2 k
      | false => k acc M2)
    (h2 : K (acc0 ++ xs.map f) M) : compL g tt te still δ K xs acc0 M := by
  have := compL_mapA (g := g) (tt := tt) (te := te) (δ := δ) (K := K) xs id f acc0 hs h1 h2
  rwa [List.map_id] at this
/-- each item gives some -/
theorem compL_flat {α : Type} (l : List α) (enc : α → D) (f : α → List D) (hs : still M)
    (h1 : ∀ j a, l[j]? = some a → j < l.length → ∀ acc : List D, acc = (l.take j).flatMap f → ∀ k : List D → Mp → Prop, k (acc ++ f a) M → g (enc a) δ M fun δ1 M1 => tt δ1 M1 fun b M2 => match b with
      | true => te δ1 M2 acc M2 k
      | false => k acc M2)
    (h2 : K (l.flatMap f) M) : compL g tt te still δ K (l.map enc) [] M := by
  refine compL_inv (I := fun ds acc M' => M' = M ∧ ∃ a, a ≤ l.length ∧ ds = (l.drop a).map enc ∧ acc = (l.take a).flatMap f) ?_ ?_ _ _ _ ⟨rfl, 0, by omega, by simp, by simp⟩
  · rintro d ds acc M' ⟨rfl, a, ha, e, hacc⟩
    by_cases h : a < l.length
    · rw [List.drop_eq_getElem_cons h, List.map_cons] at e
      obtain ⟨rfl, rfl⟩ := List.cons.inj e
      refine ⟨hs, fun k hk => h1 a _ (List.getElem?_eq_getElem h) h acc hacc k (hk _ _ ⟨rfl, a + 1, h, rfl, ?_⟩)⟩
      have e9 : l.take (a + 1) = l.take a ++ [l[a]] := by rw [List.take_succ, List.getElem?_eq_getElem h]; rfl
      rw [e9, hacc, List.flatMap_append]
      simp only [List.flatMap_cons, List.flatMap_nil, List.append_nil]
    · rw [List.drop_of_length_le (by omega)] at e; cases e
  · rintro acc M' ⟨rfl, a, ha, e, hacc⟩
    have : a = l.length := by
      have := congrArg List.length e
      simp at this; omega
    subst this
    rw [List.take_length] at hacc
    exact ⟨hs, by rw [hacc]; exact h2⟩
theorem flatMap_len {α : Type} {f : α → List D} {b : Nat} : ∀ {l : List α}, (∀ a ∈ l, (f a).length ≤ b) → (l.flatMap f).length ≤ l.length * b
  | [], _ => by simp
  | a :: l, h => by
    have ih := flatMap_len (l := l) fun x hx => h x (List.mem_cons_of_mem _ hx)
    have := h a (List.mem_cons_self ..)
    rw [List.flatMap_cons, List.length_append, List.length_cons, Nat.add_mul, Nat.one_mul]
    omega
end
end Pw
set_option Elab.async false
set_option linter.all false
set_option maxRecDepth 100000
set_option maxHeartbeats 1000000
/-! names and labels -/
namespace Pw
open PySem PySem.Spec PyProof.Rows L2
structure NameP (x : Str) : Prop where
  lo : 1 ≤ x.length
  hi : x.length ≤ 20
  az : ∀ c ∈ x.cps.toList, 97 ≤ c ∧ c < 123
theorem NameP.sp {x : Str} (h : NameP x) : 32 ∉ TL.tl x := fun hm => by
  have := h.az 32 hm
  omega
/-- the label of a name's k-th place -/
def lab (x : Str) (k : Nat) : Str := if k = 1 then x else ((x ++ (" (" : Str)) ++ (toString (k : Int) : Str)) ++ (")" : Str)
theorem lab_one {x : Str} : lab x 1 = x := rfl
theorem tl_lab {x : Str} {k : Nat} (hk : k ≠ 1) : TL.tl (lab x k) = TL.tl x ++ 32 :: 40 :: (TL.numL k ++ [41]) := by
  unfold lab
  rw [if_neg hk, TL.tl_append, TL.tl_append, TL.tl_append]
  have e : TL.tl (Str.ofString (toString (k : Int))) = TL.numL k := TL.tl_num k
  have e1 : TL.tl (Str.ofString " (") = [32, 40] := by rw [TL.tl_ofString]; rfl
  have e2 : TL.tl (Str.ofString ")") = [41] := by rw [TL.tl_ofString]; rfl
  rw [e, e1, e2]
  simp
theorem split_lab {x : Str} {k : Nat} (h : 32 ∉ TL.tl x) : ∃ r, Txt.split (lab x k) (" " : Str) = x :: r := by
  have e1 : TL.tl (Str.ofString " ") = [32] := by rw [TL.tl_ofString]; rfl
  have key := TL.split_spl (lab x k) (Str.ofString " ") (by rw [e1]; simp) (TL.kind_ok (by decide +kernel))
  rw [e1] at key
  have : ∃ r', (Txt.split (lab x k) (Str.ofString " ")).map TL.tl = TL.tl x :: r' := by
    by_cases hk : k = 1
    · subst hk
      rw [lab_one] at key ⊢
      rw [key, TL.spl_last1 h]
      exact ⟨_, rfl⟩
    · rw [key, tl_lab hk]
      have q := TL.spl_part1 (s := 32) (S := []) (p := TL.tl x) (rest := 40 :: (TL.numL k ++ [41])) (acc := []) h
      rw [show TL.tl x ++ 32 :: 40 :: (TL.numL k ++ [41]) = TL.tl x ++ ([32] ++ 40 :: (TL.numL k ++ [41])) from rfl, q]
      exact ⟨_, rfl⟩
  obtain ⟨r', e⟩ := this
  cases hs : Txt.split (lab x k) (Str.ofString " ") with
  | nil => rw [hs] at e; cases e
  | cons a r =>
    rw [hs] at e
    injection e with a1 _
    rw [TL.ext_tl a1]
    exact ⟨r, rfl⟩
theorem lab_inj {x y : Str} {k l : Nat} (hx : 32 ∉ TL.tl x) (hy : 32 ∉ TL.tl y) (h : lab x k = lab y l) : x = y ∧ k = l := by
  obtain ⟨r, e⟩ := split_lab (k := k) hx
  obtain ⟨r', e'⟩ := split_lab (k := l) hy
  have hxy : x = y := by
    rw [h, e'] at e
    injection e with a _
    exact a.symm
  subst hxy
  refine ⟨rfl, ?_⟩
  by_cases hk : k = 1
  · by_cases hl : l = 1
    · omega
    · subst hk
      have q := congrArg List.length (congrArg TL.tl h)
      rw [lab_one, tl_lab hl] at q
      simp at q
  · by_cases hl : l = 1
    · subst hl
      have q := congrArg List.length (congrArg TL.tl h)
      rw [lab_one, tl_lab hk] at q
      simp at q
    · have q := congrArg TL.tl h
      rw [tl_lab hk, tl_lab hl] at q
      have q := List.append_cancel_left q
      injection q with _ q
      injection q with _ q
      exact TL.numL_inj (List.append_cancel_right q)
theorem lab_len {x : Str} {k : Nat} (h : x.length ≤ 20) (hk : k < 100) : (lab x k).length ≤ 25 := by
  by_cases h1 : k = 1
  · subst h1; rw [lab_one]; omega
  · rw [TL.len_tl, tl_lab h1]
    have := TL.numL_len (n := k) (k := 2) (by decide) (by omega)
    rw [TL.len_tl] at h
    simp only [List.length_append, List.length_cons, List.length_nil]
    omega
/-- the label at place i -/
def labA (ns : List Str) (i : Nat) : Str := lab (ns.getD i ⟨#[]⟩) ((ns.take (i + 1)).count (ns.getD i ⟨#[]⟩))
def labs (ns : List Str) : List Str := (List.range ns.length).map (labA ns)
theorem labs_len {ns : List Str} : (labs ns).length = ns.length := by simp [labs]
theorem labA_at {ns : List Str} {i : Nat} {x : Str} (h : ns[i]? = some x) : labA ns i = lab x ((ns.take i).count x + 1) := by
  unfold labA
  have e : ns.getD i ⟨#[]⟩ = x := by rw [List.getD_eq_getElem?_getD, h]; rfl
  rw [e, List.take_add_one, h]
  simp [List.count_append]
theorem count_take_le {x : Str} {ns : List Str} {i j : Nat} (h : i ≤ j) : (ns.take i).count x ≤ (ns.take j).count x := by
  have : ns.take i = (ns.take j).take i := by rw [List.take_take, Nat.min_eq_left h]
  rw [this]
  exact List.Sublist.count_le _ (List.take_sublist i (ns.take j))
theorem labs_nodup {ns : List Str} (h : ∀ x ∈ ns, NameP x) : (labs ns).Nodup := by
  unfold labs
  rw [List.Nodup, List.pairwise_map]
  refine List.Pairwise.imp_of_mem ?_ List.pairwise_lt_range
  intro i j hi hj hij e
  have hi := List.mem_range.mp hi
  have hj := List.mem_range.mp hj
  have ei := List.getElem?_eq_getElem hi
  have ej := List.getElem?_eq_getElem hj
  rw [labA_at ei, labA_at ej] at e
  obtain ⟨e1, e2⟩ := lab_inj (h _ (List.getElem_mem hi)).sp (h _ (List.getElem_mem hj)).sp e
  rw [← e1] at e2 ej
  have c1 : (ns.take (i + 1)).count ns[i] ≤ (ns.take j).count ns[i] := count_take_le hij
  rw [List.take_add_one, ei, List.count_append] at c1
  simp at c1
  omega
theorem lab_S {x : Str} {c : Nat} (h : c ≠ 0) : lab x (c + 1) = ((x ++ (Str.ofString " (")) ++ (Str.ofString ((c : Int) + 1).repr)) ++ (Str.ofString ")") := by
  unfold lab
  rw [if_neg (by omega)]
  rfl
theorem app_len {a b : Str} : (a ++ b).length = a.length + b.length := by
  rw [TL.len_tl, TL.len_tl a, TL.len_tl b, TL.tl_append, List.length_append]
theorem num_len {c : Nat} (h : c + 1 < 10 ^ 2) : (Str.ofString ((c : Int) + 1).repr).length ≤ 2 := by
  have e : Str.ofString ((c : Int) + 1).repr = Str.ofString (toString ((c + 1 : Nat) : Int)) := rfl
  rw [e, TL.len_tl, TL.tl_num]
  exact TL.numL_len (by decide) h
end Pw
set_option Elab.async false
set_option linter.all false
set_option maxRecDepth 100000
set_option maxHeartbeats 1000000
/-! == of a thing and itself; rows of whole numbers -/
namespace Pw
open PySem PySem.Spec PyProof.Rows L2
mutual
theorem eqv_self : ∀ (d : D) (n : Nat), isD false d n = true → PyData.eqv (toP d) (toP d) = true
  | .non, n, h => by simp [toP, PyData.eqv]
  | .bl b, n, h => by have := eqD_bl (i := b) (j := b); simpa [eqD] using this
  | .int i, n, h => by have := eqD_int (i := i) (j := i); simpa [eqD] using this
  | .str s, n, h => by have := eqD_str (i := s) (j := s); simpa [eqD] using this
  | .tup ds, n, h => by
    cases n with
    | zero => simp [isD] at h
    | succ n =>
      simp only [isD] at h
      simp only [toP, PyData.eqv]
      exact eqvs_self ds n h
  | .lst ds, n, h => by
    cases n with
    | zero => simp [isD] at h
    | succ n =>
      simp only [isD] at h
      simp only [toP, PyData.eqv]
      exact eqvs_self ds n h
  | .dic ds, n, h => by simp [isD] at h
  | .ref _, n, h => by simp [isD] at h
  | .ty _, n, h => by simp [isD] at h
  | .exc _, n, h => by simp [isD] at h
  | .scr _, n, h => by simp [isD] at h
theorem eqvs_self : ∀ (ds : List D) (n : Nat), isDs false ds n = true → PyData.eqvAll (toPs ds) (toPs ds) = true
  | [], n, h => by simp [toPs, PyData.eqvAll]
  | d :: ds, n, h => by
    simp only [isDs, Bool.and_eq_true] at h
    simp only [toPs, PyData.eqvAll, eqv_self d n h.1, eqvs_self ds n h.2, Bool.and_self]
end
theorem eqD_self {d : D} (h : isD false d 30 = true) : eqD d d = true := eqv_self d 30 h
theorem memD_int {i : Int} {row : List Int} : memD (.int i) (row.map D.int) = decide (i ∈ row) := by
  unfold memD
  rw [List.any_map, Bool.eq_iff_iff]
  simp [Function.comp_def]
theorem isD_rowsD {rows : List (List Int)} : isD false (.lst (rows.map fun r => .lst (r.map D.int))) 30 = true := by
  rw [show (30 : Nat) = 29 + 1 from rfl, isD_lst]
  refine isDs_of fun x hx => ?_
  obtain ⟨r, _, rfl⟩ := List.mem_map.mp hx
  simp
end Pw
set_option Elab.async false
set_option linter.all false
set_option maxRecDepth 100000
set_option maxHeartbeats 1000000
namespace Pw
open PySem PySem.Spec PyProof.Rows L2
/-! ### entries, columns -/
def isInt : D → Bool
  | .int _ => true
  | _ => false
def inR (d : D) (lo hi : Int) : Bool := match d with
  | .int i => decide (lo ≤ i) && decide (i ≤ hi)
  | _ => false
abbrev TOP : Int := 1000000000000000000000000000000
def isEnt (d : D) : Bool := inR d (-TOP) TOP
def isCol (d : D) : Bool := match d with
  | .tup xs => decide (1 ≤ xs.length) && decide (xs.length ≤ 60) && xs.all isEnt
  | _ => false
theorem isD_of_mem {w : Bool} {n : Nat} : ∀ {xs : List D}, isDs w xs n = true → ∀ x ∈ xs, isD w x n = true
  | [], _, x, h => by cases h
  | y :: ys, e, x, h => by
    simp only [isDs, Bool.and_eq_true] at e
    rcases List.mem_cons.mp h with rfl | h
    · exact e.1
    · exact isD_of_mem e.2 x h
mutual
theorem isD_up {w : Bool} : ∀ (d : D) (n : Nat), isD w d n = true → isD w d (n + 1) = true
  | .tup ds, n, h => by
    cases n with
    | zero => simp [isD] at h
    | succ n => simp only [isD] at h ⊢; exact isDs_up ds n h
  | .lst ds, n, h => by
    cases n with
    | zero => simp [isD] at h
    | succ n => simp only [isD] at h ⊢; exact isDs_up ds n h
  | .dic ds, n, h => by
    cases n with
    | zero => simp [isD] at h
    | succ n =>
      simp only [isD, Bool.and_eq_true] at h ⊢; exact ⟨h.1, isDk_up ds n h.2⟩
  | .non, n, h => by simp [isD]
  | .bl _, n, h => by simp [isD]
  | .int _, n, h => by simp [isD]
  | .str _, n, h => by simp [isD]
  | .ref _, n, h => by simp [isD] at h
  | .ty _, n, h => by simp [isD] at h
  | .exc _, n, h => by simp [isD] at h
  | .scr _, n, h => by simp [isD] at h
theorem isDs_up {w : Bool} : ∀ (ds : List D) (n : Nat), isDs w ds n = true → isDs w ds (n + 1) = true
  | [], n, h => rfl
  | d :: ds, n, h => by
    simp only [isDs, Bool.and_eq_true] at h ⊢; exact ⟨isD_up d n h.1, isDs_up ds n h.2⟩
theorem isDk_up {w : Bool} : ∀ (ds : List (Key × D)) (n : Nat), isDk w ds n = true → isDk w ds (n + 1) = true
  | [], n, h => rfl
  | (k, d) :: ds, n, h => by
    simp only [isDk, Bool.and_eq_true] at h ⊢; exact ⟨isD_up d n h.1, isDk_up ds n h.2⟩
end
theorem isD_see {w : Bool} {n : Nat} {d : D} {M : Mp} (h : isD w d n = true) : see M d = d := by
  cases d <;> simp [isD] at h <;> rfl
theorem blsOf_map {α : Type} {f : α → Bool} : ∀ {xs : List α}, blsOf (xs.map fun x => .bl (f x)) = some (xs.map f)
  | [] => rfl
  | x :: xs => by simp [blsOf, blsOf_map (xs := xs)]
theorem isCol_ints {d : D} (h : isCol d = true) : ∃ ns : List Int, d = .tup (ns.map D.int) ∧ 1 ≤ ns.length ∧ ns.length ≤ 60 ∧ ∀ i ∈ ns, -TOP ≤ i ∧ i ≤ TOP := by
  cases d <;> simp [isCol] at h
  rename_i xs
  obtain ⟨⟨h1, h2⟩, h3⟩ := h
  have key : ∀ xs : List D, (∀ x ∈ xs, isEnt x = true) → ∃ ns : List Int, xs = ns.map D.int ∧ ∀ i ∈ ns, -TOP ≤ i ∧ i ≤ TOP := by
    intro xs
    induction xs with
    | nil => intro _; exact ⟨[], rfl, by simp⟩
    | cons x xs ih =>
      intro h
      obtain ⟨ns, e, hn⟩ := ih fun y hy => h y (List.mem_cons_of_mem _ hy)
      have hx := h x (List.mem_cons_self ..)
      cases x <;> simp [isEnt, inR] at hx
      rename_i i
      exact ⟨i :: ns, by simp [e], by simp; exact ⟨hx, hn⟩⟩
  obtain ⟨ns, rfl, hn⟩ := key xs h3
  exact ⟨ns, rfl, by simpa using h1, by simpa using h2, hn⟩
/-! ### stairs -/
def okAt (pre : List Int) (e : Int) : Bool := decide (0 ≤ e) && (decide (e ≤ 0) || decide (pre.count e + 1 ≤ pre.count (e - 1)))
def stairFrom (pre : List Int) : List Int → Bool
  | [] => true
  | e :: r => okAt pre e && stairFrom (pre ++ [e]) r
def isStairI (ns : List Int) : Bool := stairFrom [] ns
def isStairD (d : D) : Bool := isCol d && (match d with
  | .tup xs => (match intsOf xs with
    | some ns => isStairI ns
    | none => false)
  | _ => false)
theorem intsOf_map : ∀ {ns : List Int}, intsOf (ns.map D.int) = some ns
  | [] => rfl
  | n :: ns => by simp [intsOf, intOf, intsOf_map (ns := ns)]
def tots (pre : List Int) (L : Nat) : List D := (List.range L).map fun (v : Nat) => .int ((pre.count (v : Int) : Nat) : Int)
def AntiC (pre : List Int) (L : Nat) : Prop := (∀ v : Nat, L ≤ v → pre.count (v : Int) = 0) ∧ ∀ v : Nat, pre.count ((v : Int) + 1) ≤ pre.count (v : Int)
theorem tots_length {pre : List Int} {L : Nat} : (tots pre L).length = L := by simp [tots]
theorem tots_get {pre : List Int} {L k : Nat} (h : k < L) : (tots pre L)[k]? = some (.int ((pre.count (k : Int) : Nat) : Int)) := by simp [tots, h]
@[simp] theorem tots_getE {pre : List Int} {L k : Nat} (h : k < (tots pre L).length) : (tots pre L)[k] = .int ((pre.count (k : Int) : Nat) : Int) := by simp [tots]
theorem tots_snoc {pre : List Int} {L : Nat} (h : AntiC pre L) : tots pre L ++ [.int 0] = tots pre (L + 1) := by
  unfold tots
  rw [List.range_succ, List.map_append]
  simp [h.1 L (Nat.le_refl _)]
theorem tots_set {pre : List Int} {L k : Nat} (h : k < L) : (tots pre L).set k (.int (((pre.count (k : Int) : Nat) : Int) + 1)) = tots (pre ++ [(k : Int)]) L := by
  apply List.ext_getElem?
  intro i
  rw [List.getElem?_set]
  by_cases hi : i < L
  · rw [tots_get hi, tots_get hi, tots_length]
    by_cases hk : k = i
    · subst hk
      simp [h, List.count_append]
    · have : ¬ (k : Int) = (i : Int) := by omega
      simp [hk, List.count_append, List.count_cons, this]
  · have e1 : (tots pre L)[i]? = none := List.getElem?_eq_none (by rw [tots_length]; omega)
    have e2 : (tots (pre ++ [(k : Int)]) L)[i]? = none := List.getElem?_eq_none (by rw [tots_length]; omega)
    rw [e1, e2]
    split
    · rename_i hk
      subst hk; omega
    · rfl
theorem antiC_snoc {pre : List Int} {L' j : Nat} (hj : j < L') (hA' : AntiC pre L') (ho : okAt pre j = true) : AntiC (pre ++ [(j : Int)]) L' := by
  refine ⟨fun v hv => ?_, fun v => ?_⟩
  · have := hA'.1 v hv
    have e3 : ¬ (j : Int) = v := by omega
    simp [List.count_append, List.count_cons, this, e3]
  · have h3 := hA'.2 v
    simp only [List.count_append, List.count_cons, List.count_nil]
    by_cases hv : (j : Int) = (v : Int) + 1
    · unfold okAt at ho
      have e4 : ¬ (j : Int) ≤ 0 := by omega
      have e5 : (v : Int) + 1 - 1 = v := by omega
      simp [hv, e4, e5] at ho
      have h5 : ¬ (v : Int) + 1 ≤ 0 := by omega
      have := ho.2.resolve_left h5
      simp [hv]
      omega
    · simp [hv]
      omega
theorem stairFrom_snoc {e : Int} : ∀ {r pre : List Int}, stairFrom pre (r ++ [e]) = (stairFrom pre r && okAt (pre ++ r) e)
  | [], pre => by simp [stairFrom]
  | x :: r, pre => by simp [stairFrom, stairFrom_snoc (r := r), Bool.and_assoc]
theorem stairFrom_bound : ∀ {r pre : List Int}, stairFrom pre r = true → (∀ i ∈ pre, 0 ≤ i ∧ i < pre.length) → ∀ i ∈ pre ++ r, 0 ≤ i ∧ i < (pre ++ r).length
  | [], pre, _, h => by simpa using h
  | e :: r, pre, h, hp => by
    simp only [stairFrom, Bool.and_eq_true] at h
    obtain ⟨ho, hr⟩ := h
    have e1 : pre ++ e :: r = (pre ++ [e]) ++ r := by simp
    rw [e1]
    refine stairFrom_bound hr fun i hi => ?_
    rw [List.length_append]
    rcases List.mem_append.mp hi with hi | hi
    · have := hp i hi
      simp; omega
    · have := List.mem_singleton.mp hi
      subst this
      unfold okAt at ho
      simp only [Bool.and_eq_true, Bool.or_eq_true, decide_eq_true_eq] at ho
      rcases ho.2 with h0 | h0
      · simp; omega
      · have hm : i - 1 ∈ pre := List.count_pos_iff.mp (by omega)
        have := hp _ hm
        simp; omega
theorem stair_bound {ns : List Int} (h : isStairI ns = true) : ∀ i ∈ ns, 0 ≤ i ∧ i < ns.length := by
  have := stairFrom_bound (pre := []) h (by simp)
  simpa using this
end Pw
set_option Elab.async false
set_option linter.all false
set_option maxRecDepth 100000
set_option maxHeartbeats 1000000
namespace Pw
open PySem PySem.Spec PyProof.Rows L2
def ColI (ns : List Int) : Prop := 1 ≤ ns.length ∧ ns.length ≤ 60 ∧ ∀ i ∈ ns, -TOP ≤ i ∧ i ≤ TOP
theorem isCol_ints_of {ns : List Int} (h : ColI ns) : isCol (.tup (ns.map D.int)) = true := by
  obtain ⟨h1, h2, h3⟩ := h
  simp [isCol, h1, h2]
  intro i hi
  have := h3 i hi
  simp [isEnt, inR, this]
theorem isD_tup_ints {w : Bool} {ns : List Int} : isD w (.tup (ns.map D.int)) 30 = true := by simp
theorem V0_of_top {ns : List Int} (h : ∀ i ∈ ns, -TOP ≤ i ∧ i ≤ TOP) : ∀ d ∈ ns.map D.int, V0 d := V0_map fun i hi => by
  have := h i hi
  unfold TOP at this
  omega
theorem ColI.v1 {ns : List Int} (h : ColI ns) : V1 (.tup (ns.map D.int)) := V1_tup (V0_of_top h.2.2) (by simp; have := h.2.1; omega)
end Pw
set_option Elab.async false
set_option linter.all false
set_option maxRecDepth 100000
set_option maxHeartbeats 1000000
/-! running counts -/
namespace Pw
open PySem PySem.Spec PyProof.Rows L2
def rcF (pre : List Int) : List Int → List Int
  | [] => []
  | e :: r => ((pre.count e : Nat) : Int) :: rcF (pre ++ [e]) r
def rc (ns : List Int) : List Int := rcF [] ns
theorem rcF_length : ∀ {ns pre : List Int}, (rcF pre ns).length = ns.length
  | [], _ => rfl
  | e :: r, pre => by simp [rcF, rcF_length (ns := r)]
@[simp] theorem rc_length {ns : List Int} : (rc ns).length = ns.length := rcF_length
theorem rcF_app {b : List Int} : ∀ {a pre : List Int}, rcF pre (a ++ b) = rcF pre a ++ rcF (pre ++ a) b
  | [], pre => by simp [rcF]
  | e :: a, pre => by simp [rcF, rcF_app (a := a)]
theorem rc_snoc {pre : List Int} {e : Int} : rc (pre ++ [e]) = rc pre ++ [((pre.count e : Nat) : Int)] := by
  unfold rc; rw [rcF_app]; simp [rcF]
theorem rc_app {a b : List Int} : rc (a ++ b) = rc a ++ rcF a b := by
  unfold rc; rw [rcF_app]; simp
theorem count_map_inj {f : Int → Int} {e : Int} : ∀ {l : List Int}, (∀ x ∈ l, f x = f e → x = e) → (l.map f).count (f e) = l.count e
  | [], _ => rfl
  | a :: l, h => by
    have ih := count_map_inj (f := f) (e := e) (l := l) fun x hx => h x (List.mem_cons_of_mem _ hx)
    rw [List.map_cons, List.count_cons, List.count_cons, ih]
    by_cases c : a = e
    · subst c; simp
    · have : ¬ f a = f e := fun z => c (h a (List.mem_cons_self ..) z)
      simp [c, this]
theorem rcF_map {f : Int → Int} : ∀ {ns pre : List Int}, (∀ x ∈ pre ++ ns, ∀ y ∈ pre ++ ns, f x = f y → x = y) → rcF (pre.map f) (ns.map f) = rcF pre ns
  | [], _, _ => rfl
  | e :: r, pre, h => by
    rw [List.map_cons, rcF, rcF, count_map_inj fun x hx => h x (by simp [hx]) e (by simp)]
    have := rcF_map (f := f) (ns := r) (pre := pre ++ [e]) (by simpa using h)
    rw [List.map_append] at this
    rw [show pre.map f ++ [f e] = pre.map f ++ [e].map f from rfl, this]
theorem rc_map {f : Int → Int} {ns : List Int} (h : ∀ x ∈ ns, ∀ y ∈ ns, f x = f y → x = y) : rc (ns.map f) = rc ns := rcF_map (pre := []) (by simpa using h)
theorem rc_take {ns : List Int} {k : Nat} : rc (ns.take k) = (rc ns).take k := by
  have h : rc ns = rc (ns.take k) ++ rcF (ns.take k) (ns.drop k) := by rw [← rc_app, List.take_append_drop]
  have hl : (rc (ns.take k)).length = min k ns.length := by simp
  by_cases c : k ≤ ns.length
  · rw [h, List.take_append_of_le_length (by rw [hl]; omega)]
    exact (List.take_of_length_le (by rw [hl]; omega)).symm
  · rw [List.take_of_length_le (l := ns) (by omega), List.take_of_length_le (l := rc ns) (by simp; omega)]
theorem rc_get {ns : List Int} {k : Nat} {e : Int} (h : ns[k]? = some e) : (rc ns)[k]? = some (((ns.take k).count e : Nat) : Int) := by
  have hk := (List.getElem?_eq_some_iff.mp h).1
  have e1 : ns = ns.take k ++ e :: ns.drop (k + 1) := by
    have := List.getElem?_eq_some_iff.mp h
    obtain ⟨_, rfl⟩ := this
    simp
  have e2 : rc ns = rc (ns.take k) ++ rcF (ns.take k) (e :: ns.drop (k + 1)) := by rw [← rc_app, ← e1]
  have hl : (rc (ns.take k)).length = k := by simp; omega
  rw [e2, List.getElem?_append_right (by omega), hl]
  simp [rcF]
theorem rc_mem {ns : List Int} {i : Int} (h : i ∈ rc ns) : 0 ≤ i ∧ i < ns.length := by
  obtain ⟨k, hk, rfl⟩ := List.getElem_of_mem h
  have hk' : k < ns.length := by simpa using hk
  have := rc_get (List.getElem?_eq_getElem hk')
  rw [List.getElem?_eq_getElem hk] at this
  rw [Option.some.inj this]
  have h1 : (ns.take k).count ns[k] ≤ k := by
    have := List.count_le_length (a := ns[k]) (l := ns.take k)
    simp at this; omega
  omega
theorem rc_colI {ns : List Int} (h : ColI ns) : ColI (rc ns) := ⟨by simpa using h.1, by simpa using h.2.1, fun i hi => by
  have h1 := rc_mem hi
  have h2 := h.2.1
  unfold TOP
  omega⟩
/-- the numbers of different entries that occur more than v times -/
theorem countP_upd {p q : Int → Bool} {e : Int} : ∀ {U : List Int}, U.Nodup → (∀ x ∈ U, x ≠ e → p x = q x) → U.countP q + (if e ∈ U ∧ p e = true then 1 else 0) = U.countP p + (if e ∈ U ∧ q e = true then 1 else 0)
  | [], _, _ => by simp
  | a :: U, hn, h => by
    rw [List.nodup_cons] at hn
    have ih := countP_upd (p := p) (q := q) (e := e) (U := U) hn.2 fun x hx => h x (List.mem_cons_of_mem _ hx)
    rw [List.countP_cons, List.countP_cons]
    by_cases c : a = e
    · subst c
      have : ¬ a ∈ U := hn.1
      simp [this] at ih
      simp [ih]
      cases p a <;> cases q a <;> simp
    · have hp := h a (List.mem_cons_self ..) c
      have c' : ¬ e = a := fun z => c z.symm
      simp [hp, c'] at ih ⊢
      omega
theorem nodup_cover : ∀ ns : List Int, ∃ U : List Int, U.Nodup ∧ ∀ x ∈ ns, x ∈ U
  | [] => ⟨[], by simp, by simp⟩
  | a :: ns => by
    obtain ⟨U, h1, h2⟩ := nodup_cover ns
    by_cases c : a ∈ U
    · exact ⟨U, h1, fun x hx => (List.mem_cons.mp hx).elim (fun e => e ▸ c) (h2 x)⟩
    · exact ⟨a :: U, List.nodup_cons.mpr ⟨c, h1⟩, fun x hx => (List.mem_cons.mp hx).elim (fun e => by simp [e]) fun h => List.mem_cons_of_mem _ (h2 x h)⟩
theorem rev_ind {P : List Int → Prop} (h0 : P []) (h1 : ∀ l e, P l → P (l ++ [e])) (l : List Int) : P l := by
  have : ∀ m : List Int, P m.reverse := by
    intro m
    induction m with
    | nil => exact h0
    | cons a m ih => rw [List.reverse_cons]; exact h1 _ _ ih
  simpa using this l.reverse
theorem rc_count {U : List Int} (hU : U.Nodup) (v : Nat) (ns : List Int) : (∀ x ∈ ns, x ∈ U) → (rc ns).count (v : Int) = U.countP fun x => decide (v < ns.count x) := by
  induction ns using rev_ind with
  | h0 => intro _; simp [rc, rcF]
  | h1 l e ih =>
    intro h
    have he : e ∈ U := h e (by simp)
    have ih := ih fun x hx => h x (by simp [hx])
    have := countP_upd (p := fun x => decide (v < l.count x)) (q := fun x => decide (v < (l ++ [e]).count x)) (e := e) hU fun x _ hx => by
      have : ¬ e = x := fun z => hx z.symm
      simp [List.count_append, List.count_cons, this]
    rw [rc_snoc, List.count_append, ih]
    have e1 : List.count (v : Int) [((l.count e : Nat) : Int)] = if l.count e = v then 1 else 0 := by
      rw [List.count_cons, List.count_nil]
      by_cases c : l.count e = v
      · simp [c]
      · have : ¬ ((l.count e : Nat) : Int) = v := by omega
        simp [c, this]
    rw [e1]
    have e2 : (l ++ [e]).count e = l.count e + 1 := by simp
    simp only [he, e2, true_and, decide_eq_true_eq] at this
    by_cases c1 : v < l.count e
    · have c2 : v < l.count e + 1 := by omega
      have c3 : ¬ l.count e = v := by omega
      simp only [c1, c2, c3, if_true, if_false] at this ⊢
      omega
    · by_cases c3 : l.count e = v
      · have c2 : v < l.count e + 1 := by omega
        rw [if_neg c1, if_pos c2] at this
        rw [if_pos c3]
        omega
      · have c2 : ¬ v < l.count e + 1 := by omega
        simp only [c1, c2, c3, if_false] at this ⊢
        omega
theorem rc_anti {ns : List Int} (v : Nat) : (rc ns).count ((v : Int) + 1) ≤ (rc ns).count (v : Int) := by
  obtain ⟨U, h1, h2⟩ := nodup_cover ns
  have e : (v : Int) + 1 = ((v + 1 : Nat) : Int) := by omega
  rw [e, rc_count h1 _ _ h2, rc_count h1 _ _ h2]
  refine List.countP_mono_left fun x _ h => ?_
  simp at h ⊢; omega
theorem rc_okAt {l : List Int} {e : Int} : okAt (rc l) ((l.count e : Nat) : Int) = true := by
  obtain ⟨U, h1, h2⟩ := nodup_cover (l ++ [e])
  have h3 : ∀ x ∈ l, x ∈ U := fun x hx => h2 x (by simp [hx])
  unfold okAt
  by_cases c : l.count e = 0
  · simp [c]
  · have e1 : ((l.count e : Nat) : Int) - 1 = ((l.count e - 1 : Nat) : Int) := by omega
    have e2 : (0 : Int) ≤ ((l.count e : Nat) : Int) := by omega
    rw [e1, rc_count h1 _ _ h3, rc_count h1 _ _ h3]
    simp only [e2, decide_true, Bool.true_and, Bool.or_eq_true, decide_eq_true_eq]
    right
    have he : e ∈ U := h2 e (by simp)
    have := countP_upd (p := fun x => decide (l.count e < l.count x)) (q := fun x => decide (l.count e < l.count x) || decide (x = e)) (e := e) h1 fun x _ hx => by simp [hx]
    simp [he] at this
    have h4 : U.countP (fun x => decide (l.count e < l.count x) || decide (x = e)) ≤ U.countP fun x => decide (l.count e - 1 < l.count x) := List.countP_mono_left fun x _ h => by
      simp at h ⊢
      rcases h with h | rfl <;> omega
    omega
theorem stairFrom_app : ∀ {r s pre : List Int}, stairFrom pre (r ++ s) = (stairFrom pre r && stairFrom (pre ++ r) s)
  | [], s, pre => by simp [stairFrom]
  | x :: r, s, pre => by simp [stairFrom, stairFrom_app (r := r), Bool.and_assoc]
theorem rc_stair (ns : List Int) : isStairI (rc ns) = true := by
  induction ns using rev_ind with
  | h0 => rfl
  | h1 l e ih =>
    rw [rc_snoc]
    unfold isStairI at ih ⊢
    rw [stairFrom_app, ih]
    simp [stairFrom, rc_okAt]
/-- replaced again and again -/
def rcN : Nat → List Int → List Int
  | 0, ns => ns
  | n + 1, ns => rcN n (rc ns)
theorem rcN_take {k : Nat} : ∀ {n : Nat} {ns : List Int}, rcN n (ns.take k) = (rcN n ns).take k
  | 0, _ => rfl
  | n + 1, ns => by rw [rcN, rcN, rc_take, rcN_take]
theorem rcN_snoc : ∀ {n : Nat} {ns : List Int}, rcN (n + 1) ns = rc (rcN n ns)
  | 0, _ => rfl
  | n + 1, ns => by rw [rcN, rcN_snoc, rcN]
theorem rcN_colI : ∀ {n : Nat} {ns : List Int}, ColI ns → ColI (rcN n ns)
  | 0, _, h => h
  | n + 1, ns, h => rcN_colI (n := n) (rc_colI h)
@[simp] theorem rcN_length : ∀ {n : Nat} {ns : List Int}, (rcN n ns).length = ns.length
  | 0, _ => rfl
  | n + 1, ns => by rw [rcN, rcN_length, rc_length]
theorem rcF_skip : ∀ {r pre pre' : List Int}, (∀ e ∈ r, pre.count e = pre'.count e) → rcF pre r = rcF pre' r
  | [], _, _, _ => rfl
  | e :: r, pre, pre', h => by
    rw [rcF, rcF, h e (List.mem_cons_self ..), rcF_skip (r := r) (pre := pre ++ [e]) (pre' := pre' ++ [e]) fun x hx => by
      rw [List.count_append, List.count_append, h x (List.mem_cons_of_mem _ hx)]]
theorem rc_odd {ns : List Int} {odd : Int} {a : Nat} (h : odd ∉ ns) (ha : a ≤ ns.length) : rc (ns.take a ++ odd :: ns.drop a) = (rc ns).take a ++ 0 :: (rc ns).drop a := by
  have e1 : rc ns = rc (ns.take a) ++ rcF (ns.take a) (ns.drop a) := by rw [← rc_app, List.take_append_drop]
  have hl : (rc (ns.take a)).length = a := by simp; omega
  have e2 : (rc ns).take a = rc (ns.take a) := rc_take.symm
  have e3 : (rc ns).drop a = rcF (ns.take a) (ns.drop a) := by
    rw [e1, List.drop_append_of_le_length (by omega), List.drop_of_length_le (by omega), List.nil_append]
  rw [rc_app, e2, e3, rcF]
  have h0 : (ns.take a).count odd = 0 := List.count_eq_zero.mpr fun z => h (List.mem_of_mem_take z)
  rw [h0]
  congr 2
  refine rcF_skip fun e he => ?_
  have : ¬ odd = e := fun z => h (z ▸ List.mem_of_mem_drop he)
  simp [List.count_append, List.count_cons, this]
end Pw
set_option Elab.async false
set_option linter.all false
set_option maxRecDepth 100000
set_option maxHeartbeats 1000000
namespace Pw
open PySem PySem.Spec PyProof.Rows L2
/-- what has been seen: each entry of pre with its number -/
structure Seen (kvs : List (Key × D)) (pre : List Int) : Prop where
  len : kvs.length ≤ pre.length
  get : ∀ e : Int, getK kvs (.inl e) = if pre.count e = 0 then none else some (.int ((pre.count e : Nat) : Int))
theorem getK_setK {kvs : List (Key × D)} {k k' : Key} {v : D} : getK (setK kvs k v) k' = if k = k' then some v else getK kvs k' := by
  unfold setK
  split
  · rename_i h
    induction kvs with
    | nil => simp at h
    | cons p kvs ih =>
      obtain ⟨c, d⟩ := p
      by_cases hc : c = k
      · subst hc
        by_cases hk : c = k'
        · subst hk; simp [getK]
        · simp only [List.map_cons, if_true, if_neg hk]
          have : ∀ l : List (Key × D), getK (l.map fun p => if p.1 = c then (p.1, v) else p) k' = getK l k' := by
            intro l
            induction l with
            | nil => rfl
            | cons q l ih =>
              obtain ⟨a, b⟩ := q
              by_cases ha : a = c
              · subst ha
                simpa [getK, hk] using ih
              · by_cases hb : a = k'
                · subst hb; simp [getK, ha]
                · simpa [getK, ha, hb] using ih
          have h2 := this kvs
          simpa [getK, hk] using h2
      · simp [hc] at h
        have ih := ih (by simpa using h)
        by_cases hk : k = k'
        · subst hk
          simpa [getK, hc] using ih
        · rw [if_neg hk] at ih ⊢
          by_cases ha : c = k'
          · subst ha; simp [getK, hc]
          · simpa [getK, hc, ha] using ih
  · rename_i h
    simp at h
    unfold getK
    rw [List.find?_append]
    by_cases hk : k = k'
    · subst hk
      have : (kvs.find? fun p => decide (p.1 = k)) = none := by
        rw [List.find?_eq_none]
        intro p hp
        simp
        obtain ⟨a, b⟩ := p
        exact fun z => h b (z ▸ hp)
      simp [this]
    · cases hf : (kvs.find? fun p => decide (p.1 = k')) <;> simp [hk]
theorem setK_len {kvs : List (Key × D)} {k : Key} {v : D} : (setK kvs k v).length ≤ kvs.length + 1 := by
  unfold setK
  split <;> simp
theorem Seen.snoc {kvs : List (Key × D)} {pre : List Int} (h : Seen kvs pre) (e : Int) : Seen (setK kvs (.inl e) (.int (((pre.count e : Nat) : Int) + 1))) (pre ++ [e]) := by
  refine ⟨?_, fun x => ?_⟩
  · have := setK_len (kvs := kvs) (k := .inl e) (v := .int (((pre.count e : Nat) : Int) + 1))
    have := h.len
    simp; omega
  · rw [getK_setK, h.get]
    by_cases c : e = x
    · subst c; simp
    · have c' : ¬ (Sum.inl e : Key) = .inl x := fun z => c (Sum.inl.inj z)
      simp [c', List.count_append, List.count_cons, c]
theorem Lv.new2 {Q : Mp → Prop} {M : Mp} {p q : Addr} {a b : DO} (hp : M p = none) (hq : M q = none) (h : Q M) : Lv Q (up (up M p a) q b) := ⟨M, (Sub.up hp).up2 hq, h⟩
theorem sp_count_in {n : Nat} {ns : List Int} {M : Mp} {Q : DK} {X : Str → Mp → Prop} (hl : ns.length ≤ 60) (h : Q (.tup ((rc ns).map D.int)) M) (hn : 1 ≤ n := by omega) : run PG n "count_in" [.tup (ns.map D.int)] M Q X := by
  obtain ⟨n, rfl⟩ : ∃ m, n = m + 1 := ⟨n - 1, by omega⟩
  rw [run_count_in]
  simp [f_count_in, t_count_in]
  intro p hp q hq
  have nqp : q ≠ p := fun e => by rw [e] at hq; simp at hq
  have hq' : M q = none := by rwa [up_ne nqp] at hq
  refine forL_ints (I := fun j δ M' => ∃ kvs, Seen kvs (ns.take j) ∧ δ = [some (.tup (ns.map D.int)), some (.ref p), some (.ref q), none] ∧ M' = up (up M p (.dic kvs)) q (.lst ((rc (ns.take j)).map D.int))) ?_ ?_ ⟨[], ⟨by simp, by simp [getK]⟩, rfl, by simp [rc, rcF]⟩
  · rintro j e δ M' he hj ⟨kvs, hs, rfl, rfl⟩
    refine ⟨trivial, fun k hk => ?_⟩
    have hkl := hs.len
    have htk : ns.take (j + 1) = ns.take j ++ [e] := by
      rw [List.take_succ, he]; rfl
    have hjl : (ns.take j).length ≤ 60 := by simp; omega
    have hg : (getK kvs (.inl e)).getD (.int 0) = .int (((ns.take j).count e : Nat) : Int) := by
      rw [hs.get]
      by_cases c : (ns.take j).count e = 0 <;> simp [c]
    simp [up_ne (Ne.symm nqp), keyOf, hg]
    refine ⟨by omega, by omega, hk _ _ ⟨_, by rw [htk]; exact hs.snoc e, rfl, ?_⟩⟩
    have hc : ((ns.take j).count e : Nat) = ((ns.take j).count e : Nat) := rfl
    rw [htk, rc_snoc, up_comm nqp, up_up]
    simp [up_comm nqp]
  · rintro δ M' ⟨kvs, hs, rfl, rfl⟩
    refine ⟨trivial, ?_⟩
    simp
    exact Lv.new2 hp hq' h
end Pw
set_option Elab.async false
set_option linter.all false
set_option maxRecDepth 100000
set_option maxHeartbeats 1000000
namespace Pw
open PySem PySem.Spec PyProof.Rows L2
theorem isDs_strs {w : Bool} {n : Nat} : ∀ {ns : List Str}, isDs w (ns.map D.str) n = true
  | [] => rfl
  | x :: ns => by simp [isDs, isDs_strs (ns := ns)]
theorem az_in {c : Nat} (h : 97 ≤ c ∧ c < 123) : Builtin.Str.occurrences (Str.ofString "abcdefghijklmnopqrstuvwxyz") ⟨#[c]⟩ 0 (Str.ofString "abcdefghijklmnopqrstuvwxyz").length 1 ≠ [] := by
  have : ∀ c, c < 123 → 97 ≤ c → (Builtin.Str.occurrences (Str.ofString "abcdefghijklmnopqrstuvwxyz") ⟨#[c]⟩ 0 (Str.ofString "abcdefghijklmnopqrstuvwxyz").length 1).isEmpty = false := by decide +kernel
  have q := this c h.2 h.1
  intro e
  rw [e] at q
  cases q
theorem log_small {c : Nat} (h : c < 1000) : ((c : Int) + 1).natAbs.log2 < 1920 := by
  have e : ((c : Int) + 1).natAbs = c + 1 := by omega
  rw [e]
  exact (Nat.log2_lt (by omega)).mpr (Nat.lt_of_le_of_lt (show c + 1 ≤ 2 ^ 10 by omega) (Nat.pow_lt_pow_right (by decide) (by decide)))
theorem blsOf_const {α : Type} : ∀ {l : List α}, blsOf (l.map fun _ => D.bl true) = some (l.map fun _ => true)
  | [] => rfl
  | _ :: l => by simp [blsOf, blsOf_const (l := l)]
theorem sp_is_name {n : Nat} {x : Str} {M : Mp} {Q : DK} {X : Str → Mp → Prop} (hx : NameP x) (h : Q (.bl true) M) (hn : 1 ≤ n := by omega) : run PG n "is_name" [.str x] M Q X := by
  obtain ⟨n, rfl⟩ := Nat.exists_eq_add_of_le' hn
  have h1 := hx.lo
  have h2 := hx.hi
  have h1' : ((1 : Int) ≤ (x.length : Int)) := by omega
  have h2' : ((x.length : Int) ≤ 20) := by omega
  rw [run_is_name]
  simp [f_is_name, t_is_name, nm, isI1, h1', h2']
  repeat refine ⟨by omega, ?_⟩
  refine compL_map (l := x.cps.toList) (enc := fun c => D.str ⟨#[c]⟩) (f := fun _ => .bl true) trivial ?_ ?_
  · intro c hc acc k hk
    have e : (!(Builtin.Str.occurrences (Str.ofString "abcdefghijklmnopqrstuvwxyz") ⟨#[c]⟩ 0 (Str.ofString "abcdefghijklmnopqrstuvwxyz").length 1).isEmpty) = true := by
      cases q : Builtin.Str.occurrences (Str.ofString "abcdefghijklmnopqrstuvwxyz") ⟨#[c]⟩ 0 (Str.ofString "abcdefghijklmnopqrstuvwxyz").length 1 with
      | nil => exact absurd q (az_in (hx.az c hc))
      | cons a l => rfl
    have e2 : Builtin.Str.occurrences (Str.ofString "abcdefghijklmnopqrstuvwxyz") ⟨#[c]⟩ 0 (Str.ofString "abcdefghijklmnopqrstuvwxyz").length 1 ≠ [] := az_in (hx.az c hc)
    simp [memC]
    rw [e]
    exact hk
  · simp [blsOf_const]
    have e : (x.cps.all fun x => true) = true := by simp
    rw [e]
    exact Lv.here h
theorem sp_are_names {n : Nat} {ns : List Str} {d : D} {M : Mp} {Q : DK} {X : Str → Mp → Prop} (hd : d = .lst (ns.map D.str) ∨ ∃ r, d = .ref r ∧ M r = some (.lst (ns.map D.str))) (h1 : 1 ≤ ns.length) (h2 : ns.length ≤ 60) (hns : ∀ x ∈ ns, NameP x) (h : Q (.bl true) M) (hn : 2 ≤ n := by omega) : run PG n "are_names" [d] M Q X := by
  obtain ⟨n, rfl⟩ := Nat.exists_eq_add_of_le' hn
  have h1' : ((1 : Int) ≤ (ns.length : Int)) := by omega
  have h2' : ((ns.length : Int) ≤ 60) := by omega
  rw [run_are_names]
  rcases hd with rfl | ⟨r, rfl, hr⟩
  · simp [f_are_names, t_are_names, nm, isI1, h1', h2']
    refine compL_map (l := ns) (enc := D.str) (f := fun _ => .bl true) trivial ?_ ?_
    · intro x hx acc k hk
      simp
      refine sp_is_name (hns x hx) ?_
      exact hk
    · simp [blsOf_const]
      have e : (ns.all fun x => true) = true := by simp
      rw [e]
      exact Lv.here h
  · simp [f_are_names, t_are_names, nm, isI1, hr, h1', h2']
    refine compL_map (l := ns) (enc := D.str) (f := fun _ => .bl true) hr ?_ ?_
    · intro x hx acc k hk
      simp
      refine sp_is_name (hns x hx) ?_
      exact hk
    · simp [blsOf_const]
      have e : (ns.all fun x => true) = true := by simp
      rw [e]
      exact Lv.here h
/-- what has been seen: each text of pre with its number -/
structure SeenS (kvs : List (Key × D)) (pre : List Str) : Prop where
  len : kvs.length ≤ pre.length
  get : ∀ e : Str, getK kvs (.inr e) = if pre.count e = 0 then none else some (.int ((pre.count e : Nat) : Int))
theorem SeenS.snoc {kvs : List (Key × D)} {pre : List Str} (h : SeenS kvs pre) (e : Str) : SeenS (setK kvs (.inr e) (.int (((pre.count e : Nat) : Int) + 1))) (pre ++ [e]) := by
  refine ⟨?_, fun x => ?_⟩
  · have := setK_len (kvs := kvs) (k := .inr e) (v := .int (((pre.count e : Nat) : Int) + 1))
    have := h.len
    simp; omega
  · rw [getK_setK, h.get]
    by_cases c : e = x
    · subst c; simp
    · have c' : ¬ (Sum.inr e : Key) = .inr x := fun z => c (Sum.inr.inj z)
      simp [c', List.count_append, List.count_cons, c]
theorem sp_labels_in {n : Nat} {ns : List Str} {d : D} {M : Mp} {Q : DK} {X : Str → Mp → Prop} (hd : d = .lst (ns.map D.str) ∨ ∃ r, d = .ref r ∧ M r = some (.lst (ns.map D.str))) (h1 : 1 ≤ ns.length) (h2 : ns.length ≤ 60) (hns : ∀ x ∈ ns, NameP x)
    (h : ∀ p, M p = none → Q (.ref p) (up M p (.lst ((labs ns).map D.str)))) (hn : 2 ≤ n := by omega) : run PG n "labels_in" [d] M Q X := by
  obtain ⟨n, rfl⟩ := Nat.exists_eq_add_of_le' hn
  rw [run_labels_in]
  rcases hd with rfl | ⟨r, rfl, hr⟩
  · simp [f_labels_in, t_labels_in]
    intro p hp q hq
    have nqp : q ≠ p := fun e => by rw [e] at hq; simp at hq
    have hq' : M q = none := by rwa [up_ne nqp] at hq
    refine forL_map (enc := D.str) (l := ns) (I := fun j δ M' => ∃ kvs, SeenS kvs (ns.take j) ∧ δ = [some (.lst (ns.map D.str)), some (.ref p), some (.ref q), none] ∧ M' = up (up M p (.lst (((List.range j).map (labA ns)).map D.str))) q (.dic kvs)) ?_ ?_ ⟨[], ⟨by simp, by simp [getK]⟩, rfl, by simp⟩
    · rintro j e δ M' he hj ⟨kvs, hs, rfl, rfl⟩
      refine ⟨trivial, fun k hk => ?_⟩
      have hkl := hs.len
      have htk : ns.take (j + 1) = ns.take j ++ [e] := by
        rw [List.take_succ, he]; rfl
      have hg : (getK kvs (.inr e)).getD (.int 0) = .int (((ns.take j).count e : Nat) : Int) := by
        rw [hs.get]
        by_cases c : (ns.take j).count e = 0 <;> simp [c]
      have hcl : (ns.take j).count e ≤ j := Nat.le_trans List.count_le_length (by simp; omega)
      have hel := (hns e (List.mem_of_getElem? he)).hi
      have hlab : labA ns j = lab e ((ns.take j).count e + 1) := labA_at he
      have hsn := hs.snoc e
      rw [← htk] at hsn
      simp at hkl
      generalize hc : (ns.take j).count e = c at hg hcl hlab hsn
      simp [up_ne (Ne.symm nqp), keyOf, hg, hc, getK_setK]
      refine ⟨by omega, ?_⟩
      by_cases c0 : c = 0
      · subst c0
        simp [up_ne (Ne.symm nqp)]
        refine ⟨by omega, hk _ _ ⟨_, hsn, rfl, ?_⟩⟩
        rw [up_comm nqp, up_up, List.range_succ]
        simp [hlab, lab]
      · have c1 : ¬ ((c : Int) + 1 = 1) := by omega
        have hcl2 : c + 1 < 10 ^ 2 := by omega
        simp [c1, up_ne (Ne.symm nqp), nm]
        have l1 : (Str.ofString " (").length = 2 := by decide +kernel
        have l2 : (Str.ofString ")").length = 1 := by decide +kernel
        have l3 := num_len hcl2
        rw [app_len, app_len, app_len, l1, l2]
        refine ⟨by omega, log_small (by omega), by omega, by omega, by omega, hk _ _ ⟨_, hsn, rfl, ?_⟩⟩
        rw [up_comm nqp, up_up, List.range_succ]
        simp [hlab, lab_S c0]
    · rintro δ M' ⟨kvs, hs, rfl, rfl⟩
      refine ⟨trivial, ?_⟩
      simp
      have z := h p hp
      simp [labs] at z
      exact ⟨_, Sub.up (by rw [up_ne nqp]; exact hq'), z⟩
  · simp [f_labels_in, t_labels_in, hr]
    intro p hp q hq
    have nqp : q ≠ p := fun e => by rw [e] at hq; simp at hq
    have hq' : M q = none := by rwa [up_ne nqp] at hq
    have nrp : r ≠ p := fun e => by rw [e, hp] at hr; cases hr
    have nrq : r ≠ q := fun e => by rw [e, hq'] at hr; cases hr
    simp [up_ne nrq, up_ne nrp, hr]
    refine forL_map (enc := D.str) (l := ns) (I := fun j δ M' => ∃ kvs, SeenS kvs (ns.take j) ∧ δ = [some (.ref r), some (.ref p), some (.ref q), none] ∧ M' = up (up M p (.lst (((List.range j).map (labA ns)).map D.str))) q (.dic kvs)) ?_ ?_ ⟨[], ⟨by simp, by simp [getK]⟩, rfl, by simp⟩
    · rintro j e δ M' he hj ⟨kvs, hs, rfl, rfl⟩
      refine ⟨by rw [up_ne nrq, up_ne nrp]; exact hr, fun k hk => ?_⟩
      have hkl := hs.len
      have htk : ns.take (j + 1) = ns.take j ++ [e] := by
        rw [List.take_succ, he]; rfl
      have hg : (getK kvs (.inr e)).getD (.int 0) = .int (((ns.take j).count e : Nat) : Int) := by
        rw [hs.get]
        by_cases c : (ns.take j).count e = 0 <;> simp [c]
      have hcl : (ns.take j).count e ≤ j := Nat.le_trans List.count_le_length (by simp; omega)
      have hel := (hns e (List.mem_of_getElem? he)).hi
      have hlab : labA ns j = lab e ((ns.take j).count e + 1) := labA_at he
      have hsn := hs.snoc e
      rw [← htk] at hsn
      simp at hkl
      generalize hc : (ns.take j).count e = c at hg hcl hlab hsn
      simp [up_ne (Ne.symm nqp), keyOf, hg, hc, getK_setK]
      refine ⟨by omega, ?_⟩
      by_cases c0 : c = 0
      · subst c0
        simp [up_ne (Ne.symm nqp)]
        refine ⟨by omega, hk _ _ ⟨_, hsn, rfl, ?_⟩⟩
        rw [up_comm nqp, up_up, List.range_succ]
        simp [hlab, lab]
      · have c1 : ¬ ((c : Int) + 1 = 1) := by omega
        have hcl2 : c + 1 < 10 ^ 2 := by omega
        simp [c1, up_ne (Ne.symm nqp), nm]
        have l1 : (Str.ofString " (").length = 2 := by decide +kernel
        have l2 : (Str.ofString ")").length = 1 := by decide +kernel
        have l3 := num_len hcl2
        rw [app_len, app_len, app_len, l1, l2]
        refine ⟨by omega, log_small (by omega), by omega, by omega, by omega, hk _ _ ⟨_, hsn, rfl, ?_⟩⟩
        rw [up_comm nqp, up_up, List.range_succ]
        simp [hlab, lab_S c0]
    · rintro δ M' ⟨kvs, hs, rfl, rfl⟩
      refine ⟨by rw [up_ne nrq, up_ne nrp]; exact hr, ?_⟩
      simp
      have z := h p hp
      simp [labs] at z
      exact ⟨_, Sub.up (by rw [up_ne nqp]; exact hq'), z⟩
theorem sp_labels_of {n : Nat} {ns : List Str} {d : D} {M : Mp} {Q : DK} {X : Str → Mp → Prop} (hd : d = .lst (ns.map D.str) ∨ ∃ r, d = .ref r ∧ M r = some (.lst (ns.map D.str))) (h1 : 1 ≤ ns.length) (h2 : ns.length ≤ 60) (hns : ∀ x ∈ ns, NameP x)
    (h : ∀ p, M p = none → Q (.ref p) (up M p (.lst ((labs ns).map D.str)))) (hn : 3 ≤ n := by omega) : run PG n "labels_of" [d] M Q X := by
  obtain ⟨n, rfl⟩ := Nat.exists_eq_add_of_le' hn
  rw [run_labels_of]
  simp [f_labels_of, t_labels_of]
  refine sp_are_names hd h1 h2 hns ?_
  simp
  refine sp_labels_in hd h1 h2 hns fun p hp => ?_
  exact Lv.here (h p hp)
theorem labs_get {ns : List Str} {i : Nat} {y : Str} (h : (labs ns)[i]? = some y) : ∃ x k, ns[i]? = some x ∧ y = lab x (k + 1) ∧ k = (ns.take i).count x := by
  unfold labs at h
  rw [List.getElem?_map] at h
  have hi : i < ns.length := by
    by_cases c : i < ns.length
    · exact c
    · rw [List.getElem?_eq_none (by simp; omega)] at h; cases h
  rw [List.getElem?_range hi] at h
  have e := List.getElem?_eq_getElem hi
  refine ⟨ns[i], _, e, ?_, rfl⟩
  rw [← labA_at e]
  exact (Option.some.inj h).symm
theorem sp_names_of {n : Nat} {ns : List Str} {M : Mp} {Q : DK} {X : Str → Mp → Prop} (h1 : 1 ≤ ns.length) (h2 : ns.length ≤ 60) (hns : ∀ x ∈ ns, NameP x)
    (h : ∀ p, M p = none → Q (.ref p) (up M p (.lst (ns.map D.str)))) (hn : 3 ≤ n := by omega) : run PG n "names_of" [.lst ((labs ns).map D.str)] M Q X := by
  obtain ⟨n, rfl⟩ := Nat.exists_eq_add_of_le' hn
  rw [run_names_of]
  simp [f_names_of, t_names_of, nm, isI1]
  refine compL_map (l := labs ns) (enc := D.str) (f := fun _ => .bl true) trivial ?_ ?_
  · intro y hy acc k hk
    simp [nm, isI1]
    exact hk
  · simp [blsOf_const]
    have e : ((labs ns).all fun x => true) = true := by simp
    simp only [e]
    simp
    have e2 : (labs ns).map D.str = (List.range ns.length).map (fun i => D.str (labA ns i)) := by
      rw [labs, List.map_map]; rfl
    have e3 : (List.range ns.length).map (fun i => D.str (ns.getD i ⟨#[]⟩)) = ns.map D.str := by
      apply List.ext_getElem?
      intro i
      by_cases hi : i < ns.length
      · simp [hi]
      · simp [hi]
    rw [e2]
    refine compL_map (l := List.range ns.length) (enc := fun i => D.str (labA ns i)) (f := fun i => D.str (ns.getD i ⟨#[]⟩)) trivial ?_ ?_
    · intro i hi acc k hk
      have hi := List.mem_range.mp hi
      have ex := List.getElem?_eq_getElem hi
      have eg : ns.getD i ⟨#[]⟩ = ns[i] := by rw [List.getD_eq_getElem?_getD, ex]; rfl
      have hx := hns _ (List.getElem_mem hi)
      have hcl : (ns.take i).count ns[i] ≤ i := Nat.le_trans List.count_le_length (by simp; omega)
      obtain ⟨r, er⟩ := split_lab (k := (ns.take i).count ns[i] + 1) hx.sp
      have hl := lab_len (x := ns[i]) (k := (ns.take i).count ns[i] + 1) hx.hi (by omega)
      rw [labA_at ex]
      rw [eg] at hk
      generalize lab ns[i] ((ns.take i).count ns[i] + 1) = y at er hl
      have e9 : (Str.ofString " ").length = 1 := by decide +kernel
      simp [er, e9]
      refine ⟨by omega, ?_⟩
      exact hk
    · rw [e3]
      simp
      intro p hp
      refine sp_are_names (.inr ⟨p, rfl, up_same⟩) h1 h2 hns ?_
      simp
      refine sp_labels_in (.inr ⟨p, rfl, up_same⟩) h1 h2 hns fun q hq => ?_
      have nqp : q ≠ p := fun e => by rw [e] at hq; simp at hq
      simp [up_ne (Ne.symm nqp)]
      rw [← e2]
      have e8 : eqD (.lst ((labs ns).map D.str)) (.lst ((labs ns).map D.str)) = true := eqD_self (by rw [show (30 : Nat) = 29 + 1 from rfl, isD_lst]; exact isDs_strs)
      simp [e8, isDs_strs]
      exact ⟨_, Sub.up hq, h p hp⟩
end Pw
set_option Elab.async false
set_option linter.all false
set_option maxRecDepth 100000
set_option maxHeartbeats 1000000
/-! lists of naturals as data -/
namespace Pw
open PySem PySem.Spec PyProof.Rows L2
/-- three ints: the digits, a number to mix, a counter -/
def MillO (o : DO) (t : Nat) : Prop := ∃ a b c : Int, o = .lst [.int a, .int b, .int c] ∧ b.natAbs < 2 ^ 200 ∧ c.natAbs ≤ t
theorem MillO.mono {o : DO} {t t' : Nat} (h : MillO o t) (ht : t ≤ t') : MillO o t' := by
  obtain ⟨a, b, c, e, h1, h2⟩ := h
  exact ⟨a, b, c, e, h1, by omega⟩
theorem powOk3 {i : Int} (h : i.natAbs < 2 ^ 300) : PowOk i 3 := ⟨by decide, 300, h, by decide, by decide⟩
abbrev nD (k : Nat) : D := .int (k : Int)
def natsD (f : List Nat) : List D := f.map nD
@[simp] theorem natsD_len {f : List Nat} : (natsD f).length = f.length := by simp [natsD]
@[simp] theorem natsD_get {f : List Nat} {i : Nat} : (natsD f)[i]? = (f[i]?).map nD := by simp [natsD]
@[simp] theorem natsD_nil : natsD [] = [] := rfl
@[simp] theorem natsD_cons {a : Nat} {f : List Nat} : natsD (a :: f) = .int (a : Int) :: natsD f := rfl
@[simp] theorem natsD_app {a f : List Nat} : natsD (a ++ f) = natsD a ++ natsD f := by simp [natsD]
theorem natsD_ints {f : List Nat} : natsD f = (f.map fun (k : Nat) => (k : Int)).map D.int := by simp [natsD]
@[simp] theorem intsOf_natsD {f : List Nat} : intsOf (natsD f) = some (f.map fun (k : Nat) => (k : Int)) := by rw [natsD_ints, intsOf_maps]
@[simp] theorem isDs_natsD {w : Bool} {n : Nat} {f : List Nat} : isDs w (natsD f) n = true := by rw [natsD_ints]; exact isDs_ints
theorem natsD_range {n : Nat} : ((List.range n).map fun (k : Nat) => D.int (k : Int)) = natsD (List.range n) := rfl
theorem natsD_set {f : List Nat} {i k : Nat} : (natsD f).set i (.int (k : Int)) = natsD (f.set i k) := by
  unfold natsD
  rw [List.map_set]
theorem natsD_erase {f : List Nat} {i : Nat} : (natsD f).eraseIdx i = natsD (f.eraseIdx i) := by
  unfold natsD
  induction f generalizing i with
  | nil => rfl
  | cons a f ih => cases i <;> simp [ih]
theorem natsD_getLast {f : List Nat} (h : natsD f ≠ []) : ∃ k, k ∈ f ∧ (natsD f).getLast h = nD k := by
  have hm := List.getLast_mem h
  obtain ⟨k, hk, e⟩ := List.mem_map.mp (show (natsD f).getLast h ∈ f.map nD from hm)
  exact ⟨k, hk, e.symm⟩
theorem natsD_ne {f : List Nat} : natsD f = [] ↔ f = [] := by simp [natsD]
theorem placeD_natsD {x : Nat} : ∀ {f : List Nat}, placeD (.int (x : Int)) (natsD f) = f.findIdx? (fun y => y == x)
  | [] => rfl
  | a :: f => by
    have ih := placeD_natsD (x := x) (f := f)
    unfold placeD at ih ⊢
    rw [natsD_cons, List.findIdx?_cons, List.findIdx?_cons, ih]
    have : eqD (.int (a : Int)) (.int (x : Int)) = (a == x) := by
      rw [eqD_int, Bool.eq_iff_iff]; simp; omega
    rw [this]
theorem natsD_inj {f g : List Nat} : natsD f = natsD g ↔ f = g := by
  unfold natsD
  refine ⟨fun h => ?_, fun h => h ▸ rfl⟩
  exact (List.map_inj_right (f := nD) (fun a b e => by
    have := D.int.inj e; omega)).mp h
theorem eqD_tup_nats {f g : List Nat} : eqD (.tup (natsD f)) (.tup (natsD g)) = decide (f = g) := by
  rw [natsD_ints, natsD_ints, eqD_tup_ints, Bool.eq_iff_iff]
  simp only [decide_eq_true_eq]
  rw [← natsD_inj, natsD_ints, natsD_ints]
  constructor
  · intro h; rw [h]
  · intro h
    have := congrArg intsOf h
    rw [intsOf_maps, intsOf_maps] at this
    exact Option.some.inj this
theorem V0_nats {f : List Nat} (h : ∀ k ∈ f, k < 10 ^ 60) : ∀ d ∈ natsD f, V0 d := all_map fun k hk => by
  have := h k hk
  exact V0_intR (by omega) (by omega)
/-- own inverse -/
def InvN (f : List Nat) : Prop := ∀ i, i < f.length → ∃ j, f[i]? = some j ∧ f[j]? = some i
theorem InvN.lt {f : List Nat} (h : InvN f) : ∀ k ∈ f, k < f.length := fun k hk => by
  obtain ⟨i, hi⟩ := List.mem_iff_getElem?.mp hk
  have hl := (List.getElem?_eq_some_iff.mp hi).1
  obtain ⟨j, h1, h2⟩ := h i hl
  rw [hi] at h1
  obtain rfl := Option.some.inj h1
  exact (List.getElem?_eq_some_iff.mp h2).1
theorem InvN.range (n : Nat) : InvN (List.range n) := fun i hi => by
  rw [List.length_range] at hi
  exact ⟨i, List.getElem?_range hi, List.getElem?_range hi⟩
theorem InvN.swap {f : List Nat} (h : InvN f) {a b : Nat} (ha : f[a]? = some a) (hb : f[b]? = some b) (hab : a ≠ b) : InvN ((f.set a b).set b a) := fun i hi => by
  simp only [List.length_set] at hi
  have la := (List.getElem?_eq_some_iff.mp ha).1
  have lb := (List.getElem?_eq_some_iff.mp hb).1
  have val : ∀ k, ((f.set a b).set b a)[k]? = if k = b then (if k < f.length then some a else none) else if k = a then (if k < f.length then some b else none) else f[k]? := by
    intro k
    rw [List.getElem?_set, List.getElem?_set, List.length_set]
    by_cases h1 : b = k
    · subst h1; simp
    · have h1' : ¬ k = b := fun z => h1 z.symm
      by_cases h2 : a = k
      · subst h2; simp [h1, h1']
      · have h2' : ¬ k = a := fun z => h2 z.symm
        simp [h1, h1', h2, h2']
  by_cases h1 : i = b
  · subst h1
    exact ⟨a, by rw [val]; simp [lb], by rw [val]; simp [hab, la]⟩
  · by_cases h2 : i = a
    · subst h2
      exact ⟨b, by rw [val]; simp [h1, la], by rw [val]; simp [lb]⟩
    · obtain ⟨j, hj1, hj2⟩ := h i hi
      have e1 : j ≠ b := fun z => by
        subst z; rw [hb] at hj2; exact h1 (Option.some.inj hj2).symm
      have e2 : j ≠ a := fun z => by
        subst z; rw [ha] at hj2; exact h2 (Option.some.inj hj2).symm
      exact ⟨j, by rw [val]; simp [h1, h2, hj1], by rw [val]; simp [e1, e2, hj2]⟩
theorem remove_at {l : List Nat} {z : Nat} (hz : z ∈ l) (hn : l.Nodup) : ∃ j, l.findIdx? (fun y => y == z) = some j ∧ (l.eraseIdx j).Nodup ∧ (l.eraseIdx j).length + 1 = l.length ∧ ∀ x ∈ l.eraseIdx j, x ∈ l ∧ x ≠ z := by
  cases h : l.findIdx? (fun y => y == z) with
  | none =>
    have := List.findIdx?_eq_none_iff.mp h z hz
    simp at this
  | some j =>
    have e : l.eraseIdx j = l.erase z := by
      rw [List.erase_eq_eraseIdx]
      have : l.idxOf? z = some j := h
      rw [this]
    refine ⟨j, rfl, ?_, ?_, ?_⟩
    · rw [e]; exact hn.erase z
    · rw [e, List.length_erase_of_mem hz]
      have := List.length_pos_of_mem hz
      omega
    · rw [e]
      intro x hx
      exact ⟨List.mem_of_mem_erase hx, fun c => by subst c; exact (hn.not_mem_erase) hx⟩
end Pw
namespace Pw
@[simp] theorem natsD_getE {f : List Nat} {i : Nat} (h : i < (natsD f).length) : (natsD f)[i] = nD (f[i]'(by simpa using h)) := by
  simp [natsD]
end Pw
namespace Pw
@[simp] theorem natsD_drop {f : List Nat} {i : Nat} : (natsD f).drop i = natsD (f.drop i) := by unfold natsD; rw [List.map_drop]
@[simp] theorem natsD_take {f : List Nat} {i : Nat} : (natsD f).take i = natsD (f.take i) := by unfold natsD; rw [List.map_take]
end Pw
set_option Elab.async false
set_option linter.all false
set_option maxRecDepth 100000
set_option maxHeartbeats 1000000
namespace Pw
open PySem PySem.Spec PyProof.Rows L2
theorem sp_sip {n : Nat} {p : Addr} {o : DO} {m : Int} {t : Nat} {M : Mp} {Q : DK} {X : Str → Mp → Prop} (hp : M p = some o) (hb : MillO o t) (ht : t < 2 ^ 64) (hm : 0 < m) (hm2 : m < 2 ^ 300)
    (h : ∀ r o', 0 ≤ r → r < m → MillO o' (t + 1) → Q (.int r) (up M p o')) (hn : 1 ≤ n := by omega) : run PG n "_law_sip" [.ref p, .int m] M Q X := by
  obtain ⟨n, rfl⟩ := Nat.exists_eq_add_of_le' hn
  obtain ⟨a, b, c, rfl, hb, hc⟩ := hb
  rw [run__law_sip]
  simp [f__law_sip, t__law_sip, hp]
  have hc' : (c + 1).natAbs ≤ t + 1 := by omega
  by_cases h0 : 0 < a
  · simp only [h0, decide_true]
    exact ⟨hm, divOk_of 300 hm (by omega) (by decide) (by decide), Lv.here (h _ _ (Int.emod_nonneg _ (by omega)) (Int.emod_lt_of_pos _ hm) ⟨_, _, _, rfl, hb, by omega⟩)⟩
  · simp only [h0, decide_false]
    refine ⟨mulOk_of 32 66 (by decide) (by omega) (by decide) (by decide) (by decide), powOk3 (by omega), mulOk_of 32 66 (by decide) (by omega) (by decide) (by decide) (by decide), powOk3 ?_, hm, Lv.here (h _ _ (Int.emod_nonneg _ (by omega)) (Int.emod_lt_of_pos _ hm) ⟨_, _, _, rfl, hb, hc'⟩)⟩
    have e1 := Int.emod_nonneg ((b + 122949823 * (c + 1)) ^ 3) (show (10000000000000000000000000000000000000000057 : Int) ≠ 0 by decide)
    have e2 := Int.emod_lt_of_pos ((b + 122949823 * (c + 1)) ^ 3) (show (0 : Int) < 10000000000000000000000000000000000000000057 by decide)
    omega
theorem sp_fount {n : Nat} {ns : List Int} {k : Nat} {M : Mp} {Q : DK} {X : Str → Mp → Prop} (hk : k < 1000) (hns : ns.length ≤ 1000) (h : ∀ p o, M p = none → MillO o 0 → Q (.ref p) (up M p o)) (hn : 1 ≤ n := by omega) : run PG n "_law_fount" [.scr (ns.map D.int), .int k] M Q X := by
  obtain ⟨n, rfl⟩ := Nat.exists_eq_add_of_le' hn
  rw [run__law_fount]
  simp [f__law_fount, t__law_fount]
  have key : ∀ c : Int, (c % 100000000000000000000000000000000000133 * 256 + (k : Int)).natAbs < 2 ^ 200 := fun c => by
    have e1 := Int.emod_nonneg c (show (100000000000000000000000000000000000133 : Int) ≠ 0 by decide)
    have e2 := Int.emod_lt_of_pos c (show (0 : Int) < 100000000000000000000000000000000000133 by decide)
    omega
  have hm : ∀ c : Int, MulOk (c % 100000000000000000000000000000000000133) 256 := fun c => mulOk_of 200 20 (by
    have e1 := Int.emod_nonneg c (show (100000000000000000000000000000000000133 : Int) ≠ 0 by decide)
    have e2 := Int.emod_lt_of_pos c (show (0 : Int) < 100000000000000000000000000000000000133 by decide)
    omega) (by decide) (by decide) (by decide) (by decide)
  by_cases hk2 : k < ns.length
  · simp [hk2]
    exact ⟨hm _, fun p hp => Lv.here (h p _ hp ⟨_, _, _, rfl, key _, by decide⟩)⟩
  · simp [hk2]
    exact fun p hp => Lv.here (h p _ hp ⟨_, _, _, rfl, by omega, by decide⟩)
def Big30 (r : Int) : Prop := -1000000000000000000000000000000 ≤ r ∧ r ≤ 1000000000000000000000000000000
end Pw
set_option Elab.async false
set_option linter.all false
set_option maxRecDepth 100000
set_option maxHeartbeats 1000000
namespace Pw
open PySem PySem.Spec PyProof.Rows L2
theorem MillO.le {o : DO} {t t' : Nat} (hl : t ≤ t') (h : MillO o t) : MillO o t' := by
  obtain ⟨a, b, c, e, h1, h2⟩ := h
  exact ⟨a, b, c, e, h1, by omega⟩
theorem letter_at {r : Int} (h0 : 0 ≤ r) (h1 : r < 26) : ∃ c, 97 ≤ c ∧ c < 123 ∧ (ixAt (Str.ofString "abcdefghijklmnopqrstuvwxyz").cps.size r).bind (fun j => (Str.ofString "abcdefghijklmnopqrstuvwxyz").cps[j]?) = some c := by
  have e : ∀ k : Nat, k < 26 → ∃ c, 97 ≤ c ∧ c < 123 ∧ (Str.ofString "abcdefghijklmnopqrstuvwxyz").cps[k]? = some c := by
    intro k hk
    refine ⟨97 + k, by omega, by omega, ?_⟩
    have : ∀ k, k < 26 → (Str.ofString "abcdefghijklmnopqrstuvwxyz").cps[k]? = some (97 + k) := by decide +kernel
    exact this k hk
  have hs : (Str.ofString "abcdefghijklmnopqrstuvwxyz").cps.size = 26 := by decide +kernel
  obtain ⟨k, rfl⟩ := Int.eq_ofNat_of_zero_le h0
  obtain ⟨c, h2, h3, h4⟩ := e k (by omega)
  refine ⟨c, h2, h3, ?_⟩
  rw [hs]
  unfold ixAt
  rw [if_pos h0, if_pos (by omega)]
  simpa using h4
def fewS : List Str := [Str.ofString "a", Str.ofString "aa", Str.ofString "aaa", Str.ofString "ab", Str.ofString "b", Txt.mul (Str.ofString "z") 20, Txt.mul (Str.ofString "z") 19, Txt.mul (Str.ofString "y") 20]
def nmB (x : Str) : Bool := decide (1 ≤ x.length) && (decide (x.length ≤ 20) && x.cps.toList.all fun c => decide (97 ≤ c) && decide (c < 123))
theorem nmB_ok {x : Str} (h : nmB x = true) : NameP x := by
  unfold nmB at h
  simp only [Bool.and_eq_true, decide_eq_true_eq, List.all_eq_true] at h
  exact ⟨h.1, h.2.1, h.2.2⟩
theorem fewS_ok : ∀ x ∈ fewS, NameP x := by
  have : fewS.all nmB = true := by decide +kernel
  intro x hx
  exact nmB_ok (List.all_eq_true.mp this x hx)
theorem joinL_nil : ∀ zs : List Nat, TL.joinL [] (zs.map fun c => [c]) = zs
  | [] => rfl
  | [c] => rfl
  | c :: d :: zs => by
    have ih := joinL_nil (d :: zs)
    rw [List.map_cons] at ih
    show [c] ++ ([] ++ TL.joinL [] ([d] :: zs.map fun c => [c])) = _
    rw [ih]; rfl
theorem join_ok {zs : List Nat} (h1 : 1 ≤ zs.length) (h2 : zs.length ≤ 20) (h : ∀ c ∈ zs, 97 ≤ c ∧ c < 123) : NameP (Txt.join (Str.ofString "") (zs.map fun c => (⟨#[c]⟩ : Str))) := by
  have e1 : TL.tl (Str.ofString "") = [] := by rw [TL.tl_ofString]; rfl
  have e : TL.tl (Txt.join (Str.ofString "") (zs.map fun c => (⟨#[c]⟩ : Str))) = zs := by
    rw [TL.join_eq, TL.tl_join, e1, List.map_map]
    exact joinL_nil zs
  refine ⟨?_, ?_, ?_⟩
  · rw [TL.len_tl, e]; exact h1
  · rw [TL.len_tl, e]; exact h2
  · show ∀ c ∈ TL.tl _, _
    rw [e]; exact h
theorem sum_one : ∀ {zs : List Nat}, ((zs.map fun c => (⟨#[c]⟩ : Str)).map (·.length)).sum = zs.length
  | [] => rfl
  | c :: zs => by
    have ih := sum_one (zs := zs)
    simp only [List.map_cons, List.sum_cons, List.length_cons, ih]
    show 1 + zs.length = _
    omega
theorem sp_names {n : Nat} {p : Addr} {o : DO} {t : Nat} {M : Mp} {Q : DK} {X : Str → Mp → Prop} (hp : M p = some o) (hb : MillO o t) (ht : t < 2 ^ 50)
    (h : ∀ (ns : List Str) o', 1 ≤ ns.length → ns.length ≤ 60 → (∀ x ∈ ns, NameP x) → MillO o' (t + 500) → Q (.lst (ns.map D.str)) (up M p o')) (hn : 3 ≤ n := by omega) : run PG n "_law_names" [.ref p, .int 60] M Q X := by
  obtain ⟨n, rfl⟩ := Nat.exists_eq_add_of_le' hn
  rw [run__law_names]
  simp [f__law_names, t__law_names]
  have l1 : (Str.ofString "z").length = 1 := by decide +kernel
  have l2 : (Str.ofString "y").length = 1 := by decide +kernel
  refine ⟨by omega, by omega, fun q hqM => ?_⟩
  have npq : p ≠ q := fun e => by rw [← e, hp] at hqM; cases hqM
  have sw : ∀ {oa ob l}, up (up (up M p oa) q l) p ob = up (up M p ob) q l := fun {oa ob l} => by
    rw [up_comm (Ne.symm npq), up_up]
  have hfew : [D.str (Str.ofString "a"), D.str (Str.ofString "aa"), D.str (Str.ofString "aaa"), D.str (Str.ofString "ab"), D.str (Str.ofString "b"), D.str (Txt.mul (Str.ofString "z") 20), D.str (Txt.mul (Str.ofString "z") 19), D.str (Txt.mul (Str.ofString "y") 20)] = fewS.map D.str := rfl
  refine forL_rng (I := fun j δ M' => ∃ (few : List Str) (o' : DO) (t' : Nat), few.length = 8 + j ∧ (∀ x ∈ few, NameP x) ∧ t' ≤ t + 30 * j ∧ MillO o' t' ∧ M' = up (up M p o') q (.lst (few.map D.str)) ∧ δ = [some (.ref p), some (.int 60), some (.str (Str.ofString "abcdefghijklmnopqrstuvwxyz")), some (.ref q), none, none, none, none, none]) ?_ ?_ ⟨fewS, o, t, rfl, fewS_ok, by omega, hb, by rw [hfew, up_id hp], rfl⟩
  · rintro j δ M' hj ⟨few, oa, ta, hfl, hfn, hta, hba, rfl, rfl⟩
    refine ⟨trivial, fun k hk => ?_⟩
    simp
    refine sp_sip (o := oa) (by rw [up_ne npq, up_same]) hba (by omega) (by omega) (by omega) fun r1 ob r10 r11 hbb => ?_
    rw [sw]
    obtain ⟨m, hm1, hm2, em⟩ : ∃ m : Int, 1 ≤ m ∧ m ≤ 20 ∧ atD [D.int 3, D.int 20] r1 = some (.int m) := by
      have : r1 = 0 ∨ r1 = 1 := by omega
      rcases this with rfl | rfl
      · exact ⟨_, by omega, by omega, rfl⟩
      · exact ⟨_, by omega, by omega, rfl⟩
    simp [em]
    refine sp_sip (o := ob) (by rw [up_ne npq, up_same]) hbb (by omega) (by omega) (by omega) fun sz oc s0 s1 hbc => ?_
    rw [sw]
    simp
    refine ⟨by omega, by omega, compL_inv (I := fun ds acc M' => ∃ (zs : List Nat) (o' : DO), acc = (zs.map fun c => (⟨#[c]⟩ : Str)).map D.str ∧ zs.length + ds.length = (1 + sz).toNat ∧ (∀ c ∈ zs, 97 ≤ c ∧ c < 123) ∧ MillO o' (ta + 2 + zs.length) ∧ M' = up (up M p o') q (.lst (few.map D.str))) ?_ ?_ _ _ _ ⟨[], oc, rfl, by simp, by simp, hbc, rfl⟩⟩
    · rintro d ds acc M2 ⟨zs, o', rfl, hl, hz, hb', rfl⟩
      refine ⟨trivial, fun k1 hk1 => ?_⟩
      simp only [List.length_cons] at hl
      simp
      refine sp_sip (o := o') (by rw [up_ne npq, up_same]) hb' (by omega) (by omega) (by omega) fun x o3 hx0 hx1 hb3 => ?_
      rw [sw]
      obtain ⟨c, g1, g2, g3⟩ := letter_at hx0 hx1
      simp [ixD, g3]
      refine ⟨by decide +kernel, hk1 _ _ ⟨zs ++ [c], o3, by simp, by simp; omega, fun y hy => ?_, by simpa [Nat.add_assoc] using hb3, rfl⟩⟩
      rcases List.mem_append.mp hy with hy | hy
      · exact hz y hy
      · rw [List.mem_singleton.mp hy]; exact ⟨g1, g2⟩
    · rintro acc M2 ⟨zs, o3, rfl, hl, hz, hb3, rfl⟩
      refine ⟨trivial, ?_⟩
      simp only [List.length_nil] at hl
      have l0 : (Str.ofString "").length = 0 := by decide +kernel
      have hs1 := sum_one (zs := zs)
      have hj1 := join_ok (zs := zs) (by omega) (by omega) hz
      generalize (zs.map fun c => (⟨#[c]⟩ : Str)) = ys at hs1 hj1
      simp [strsOf_map, l0]
      rw [hs1]
      refine ⟨by omega, by omega, hk _ _ ⟨few ++ [Txt.join (Str.ofString "") ys], o3, _, by simp; omega, fun y hy => ?_, ?_, hb3, by simp, rfl⟩⟩
      · rcases List.mem_append.mp hy with hy | hy
        · exact hfn y hy
        · rw [List.mem_singleton.mp hy]; exact hj1
      · omega
  · rintro δ M' ⟨few, oa, ta, hfl, hfn, hta, hba, rfl, rfl⟩
    refine ⟨trivial, ?_⟩
    simp
    refine sp_sip (o := oa) (by rw [up_ne npq, up_same]) hba (by omega) (by omega) (by omega) fun wd ob w0 w1 hbb => ?_
    rw [sw]
    simp
    refine sp_sip (o := ob) (by rw [up_ne npq, up_same]) hbb (by omega) (by omega) (by omega) fun c1 oc c10 c11 hbc => ?_
    rw [sw]
    simp
    refine sp_sip (o := oc) (by rw [up_ne npq, up_same]) hbc (by omega) (by omega) (by omega) fun c2 od c20 c21 hbd => ?_
    rw [sw]
    simp
    refine sp_sip (o := od) (by rw [up_ne npq, up_same]) hbd (by omega) (by omega) (by omega) fun c3 oe c30 c31 hbe => ?_
    rw [sw]
    obtain ⟨c, hc1, hc2, ec⟩ : ∃ c : Int, 1 ≤ c ∧ c ≤ 60 ∧ atD [D.int (1 + c1), D.int 60, D.int (1 + c2)] c3 = some (.int c) := by
      have : c3 = 0 ∨ c3 = 1 ∨ c3 = 2 := by omega
      rcases this with rfl | rfl | rfl
      · exact ⟨_, by omega, by omega, rfl⟩
      · exact ⟨_, by omega, by omega, rfl⟩
      · exact ⟨_, by omega, by omega, rfl⟩
    simp [ec]
    refine ⟨by omega, by omega, compL_inv (I := fun ds acc M' => ∃ (ns : List Str) (o' : DO), acc = ns.map D.str ∧ ns.length + ds.length = c.toNat ∧ (∀ x ∈ ns, NameP x) ∧ MillO o' (ta + 4 + ns.length) ∧ M' = up (up M p o') q (.lst (few.map D.str))) ?_ ?_ _ _ _ ⟨[], oe, rfl, by simp, by simp, hbe, rfl⟩⟩
    · rintro d ds acc M2 ⟨ns, o', rfl, hl, hz, hb', rfl⟩
      refine ⟨trivial, fun k1 hk1 => ?_⟩
      simp only [List.length_cons] at hl
      simp
      refine sp_sip (o := o') (by rw [up_ne npq, up_same]) hb' (by omega) (by omega) (by omega) fun x o3 hx0 hx1 hb3 => ?_
      rw [sw]
      have m0 := Int.emod_nonneg (x * 5) (show (few.length : Int) ≠ 0 by omega)
      have m1 := Int.emod_lt_of_pos (x * 5) (show (0 : Int) < (few.length : Int) by omega)
      simp
      generalize x * 5 % (few.length : Int) = y at m0 m1
      obtain ⟨y, rfl⟩ := Int.eq_ofNat_of_zero_le m0
      have hy : y < few.length := by omega
      refine ⟨mulOk_of 20 20 (by omega) (by decide) (by decide) (by decide) (by decide), by omega, ?_⟩
      simp [hy]
      refine hk1 _ _ ⟨ns ++ [few[y]], o3, by simp, by simp; omega, fun z hz' => ?_, by simpa [Nat.add_assoc] using hb3, rfl⟩
      rcases List.mem_append.mp hz' with hz' | hz'
      · exact hz z hz'
      · rw [List.mem_singleton.mp hz']; exact hfn _ (List.getElem_mem hy)
    · rintro acc M2 ⟨ns, o3, rfl, hl, hz, hb3, rfl⟩
      refine ⟨trivial, ?_⟩
      simp only [List.length_nil] at hl
      refine Lv.new ?_ (h ns o3 (by omega) (by omega) hz (hb3.le (by omega)))
      rwa [up_ne (Ne.symm npq)]
end Pw
set_option Elab.async false
set_option linter.all false
set_option maxRecDepth 100000
set_option maxHeartbeats 1000000
namespace Pw
open PySem PySem.Spec PyProof.Rows L2
theorem sp_is_int (n : Nat) {d : D} {M : Mp} {Q : DK} {X : Str → Mp → Prop} (hd : isD true d 30 = true) (h : Q (.bl (isInt d)) M) : run PG (n + 1) "is_int" [d] M Q X := by
  rw [run_is_int]
  cases d <;> simp [isD] at hd <;> simp [f_is_int, t_is_int, nm, isI1] <;> exact Lv.here h
theorem sp_in_range (n : Nat) {d : D} {lo hi : Int} {M : Mp} {Q : DK} {X : Str → Mp → Prop} (hd : isD true d 30 = true) (h : Q (.bl (inR d lo hi)) M) : run PG (n + 2) "in_range" [d, .int lo, .int hi] M Q X := by
  rw [run_in_range]
  simp [f_in_range, t_in_range]
  refine sp_is_int n hd ?_
  cases d <;> simp [isInt] <;> try exact Lv.here h
  rename_i i
  simp only [inR] at h
  by_cases h1 : lo ≤ i
  · by_cases h2 : i ≤ hi <;> simp [h1, h2] at h ⊢ <;> exact Lv.here h
  · simp [h1] at h ⊢; exact Lv.here h
theorem sp_is_entry (n : Nat) {d : D} {M : Mp} {Q : DK} {X : Str → Mp → Prop} (hd : isD true d 30 = true) (h : Q (.bl (isEnt d)) M) : run PG (n + 3) "is_entry" [d] M Q X := by
  rw [run_is_entry]
  simp [f_is_entry, t_is_entry]
  exact sp_in_range n hd (Lv.here h)
theorem sp_is_column (n : Nat) {d : D} {M : Mp} {Q : DK} {X : Str → Mp → Prop} (hd : isD true d 30 = true) (h : Q (.bl (isCol d)) M) : run PG (n + 4) "is_column" [d] M Q X := by
  rw [run_is_column]
  cases d <;> simp [isD] at hd <;> simp [f_is_column, t_is_column, nm, isI1] <;> try exact Lv.here h
  rename_i xs
  by_cases h1 : 1 ≤ xs.length
  · by_cases h2 : xs.length ≤ 60
    · have e1 : (1 : Int) ≤ xs.length := by omega
      have e2 : (xs.length : Int) ≤ 60 := by omega
      simp [e1, e2]
      refine compL_pure (f := fun d => [.bl (isEnt d)]) trivial (fun d hm acc k hk => ?_) ?_
      · simp
        exact sp_is_entry n (isD_up _ _ (isD_of_mem hd d hm)) hk
      · simp [lstOf, flatMap_one, blsOf_map]
        simp [isCol, h1, h2] at h
        refine Lv.here ?_
        have e4 : (xs.map isEnt).all id = xs.all isEnt := by simp [List.all_map]
        simpa [List.all_map, Function.comp_def] using h
    · have e1 : (1 : Int) ≤ xs.length := by omega
      have e2 : ¬ (xs.length : Int) ≤ 60 := by omega
      simp [e1, e2]
      simp [isCol, h2] at h
      exact Lv.here h
  · have e1 : ¬ (1 : Int) ≤ xs.length := by omega
    simp [e1]
    simp [isCol, h1] at h
    exact Lv.here h
end Pw
set_option Elab.async false
set_option linter.all false
set_option maxRecDepth 100000
set_option maxHeartbeats 1000000
namespace Pw
open PySem PySem.Spec PyProof.Rows L2
theorem sp_require_column (n : Nat) {d : D} {M : Mp} {Q : DK} {X : Str → Mp → Prop} (hd : isD true d 30 = true) (hc : isCol d = true) (h : Q .non M) : run PG (n + 5) "require_column" [d] M Q X := by
  rw [run_require_column]
  simp [f_require_column, t_require_column]
  refine sp_is_column n hd ?_
  simp [hc]
  exact Lv.here h
end Pw
set_option Elab.async false
set_option linter.all false
set_option maxRecDepth 100000
set_option maxHeartbeats 1000000
namespace Pw
open PySem PySem.Spec PyProof.Rows L2
theorem sp_running_count {n : Nat} {ns : List Int} {M : Mp} {Q : DK} {X : Str → Mp → Prop} (hc : ColI ns) (h : Q (.tup ((rc ns).map D.int)) M) (hn : 6 ≤ n := by omega) : run PG n "running_count" [.tup (ns.map D.int)] M Q X := by
  obtain ⟨n, rfl⟩ : ∃ m, n = m + 6 := ⟨n - 6, by omega⟩
  rw [run_running_count]
  simp [f_running_count, t_running_count]
  refine sp_require_column n isD_tup_ints (isCol_ints_of hc) ?_
  simp
  exact sp_count_in hc.2.1 (Lv.here h)
end Pw
set_option Elab.async false
set_option linter.all false
set_option maxRecDepth 100000
set_option maxHeartbeats 1000000
namespace Pw
open PySem PySem.Spec PyProof.Rows L2
theorem countD_strs {e : Str} : ∀ {v : List Str}, countD (.str e) (v.map D.str) = v.count e
  | [] => rfl
  | a :: v => by
    have ih := countD_strs (e := e) (v := v)
    unfold countD at ih ⊢
    rw [List.map_cons, List.countP_cons, ih, List.count_cons]
    simp
theorem placeD_strs {e : Str} : ∀ {v : List Str}, e ∈ v → placeD (.str e) (v.map D.str) = some (v.idxOf e)
  | [], h => by simp at h
  | a :: v, h => by
    unfold placeD
    rw [List.map_cons, List.findIdx?_cons]
    by_cases c : a = e
    · subst c; simp
    · have h' : e ∈ v := by
        rcases List.mem_cons.mp h with h | h
        · exact absurd h.symm c
        · exact h
      have ih := placeD_strs (e := e) (v := v) h'
      unfold placeD at ih
      simp only [eqD_str, c, decide_false]
      rw [ih, List.idxOf_cons]
      have : (a == e) = false := by simpa using c
      simp [this]
theorem log_small2 {c : Nat} (h : c < 1000) : (c + 1).log2 < 1920 :=
  (Nat.log2_lt (by omega)).mpr (Nat.lt_of_le_of_lt (show c + 1 ≤ 2 ^ 10 by omega) (Nat.pow_lt_pow_right (by decide) (by decide)))
theorem sp_law_labels {n : Nat} {ns : List Str} {M : Mp} {Q : DK} {X : Str → Mp → Prop} (h1 : 1 ≤ ns.length) (h2 : ns.length ≤ 60) (hns : ∀ x ∈ ns, NameP x)
    (h : Q (.lst ((labs ns).map D.str)) M) (hn : 2 ≤ n := by omega) : run PG n "_law_labels" [.lst (ns.map D.str)] M Q X := by
  obtain ⟨n, rfl⟩ := Nat.exists_eq_add_of_le' hn
  rw [run__law_labels]
  simp [f__law_labels, t__law_labels]
  intro p hp
  refine forL_enum (I := fun j δ M' => δ = [some (.lst (ns.map D.str)), some (.ref p), none, none, none] ∧ M' = up M p (.lst (((List.range j).map (labA ns)).map D.str))) ?_ ?_ ⟨rfl, by simp⟩
  · rintro j d δ M' hx hj ⟨rfl, rfl⟩
    refine ⟨trivial, fun k hk => ?_⟩
    simp at hj
    have he := List.getElem?_eq_getElem hj
    rw [List.getElem?_map, he] at hx
    obtain rfl := Option.some.inj hx
    have hlab := labA_at he
    have hel := (hns _ (List.getElem_mem hj)).hi
    have hcl : (ns.take j).count ns[j] ≤ j := Nat.le_trans List.count_le_length (by simp; omega)
    have htk : (ns.take (j + 1)).count ns[j] = (ns.take j).count ns[j] + 1 := by
      rw [List.take_add_one, he, List.count_append]; simp
    have hcd : countD (D.str ns[j]) ((ns.map D.str).take (j + 1)) = (ns.take j).count ns[j] + 1 := by
      rw [← List.map_take, countD_strs, htk]
    have hid : isDs false ((ns.map D.str).take (j + 1)) 30 = true := by
      rw [← List.map_take]; exact isDs_strs
    simp [memOk, hid, hcd]
    generalize (ns.take j).count ns[j] = c at hlab hcl
    by_cases c0 : c = 0
    · subst c0
      refine ⟨by omega, hk _ _ ⟨rfl, ?_⟩⟩
      rw [List.range_succ]
      simp [hlab, lab]
    · have c1 : ¬ ((c : Int) + 1 = 1) := by omega
      simp only [c1, decide_false]
      have l1 : (Str.ofString " (").length = 2 := by decide +kernel
      have l2 : (Str.ofString ")").length = 1 := by decide +kernel
      have l3 := num_len (c := c) (by omega)
      rw [app_len, app_len, app_len, l1, l2]
      refine ⟨by omega, log_small2 (by omega), by omega, by omega, by omega, hk _ _ ⟨rfl, ?_⟩⟩
      rw [List.range_succ]
      simp [hlab, lab_S c0]
  · rintro δ M' ⟨rfl, rfl⟩
    refine ⟨trivial, ?_⟩
    simp
    have z := settle_ref (M := up M p (.lst ((labs ns).map D.str))) (a := p) (n := 6) up_same (all_map fun x _ => by simp [isD])
    have e9 : List.map (D.str ∘ labA ns) (List.range ns.length) = (labs ns).map D.str := by rw [labs, List.map_map]
    rw [e9, z]
    exact ⟨M, Sub.up hp, by simp [hp], Lv.here h⟩
theorem okC_lab {x : Str} (h : ∀ c ∈ x.cps.toList, c < 16 ^ 8) (k : Nat) : OkC (lab x k) := by
  intro c hc
  by_cases k1 : k = 1
  · subst k1; exact h c hc
  · have e := tl_lab (x := x) k1
    have hc : c ∈ TL.tl (lab x k) := hc
    rw [e] at hc
    have hd := TL.numL_digits k
    simp only [List.mem_append, List.mem_cons, List.not_mem_nil, or_false] at hc
    rcases hc with hc | hc | hc | hc | hc
    · exact h c hc
    · omega
    · omega
    · have := hd c hc
      omega
    · omega
theorem V1_strs {ns : List Str} (h : ∀ x ∈ ns, OkC x ∧ x.length ≤ 25) (hl : ns.length ≤ 60) : V1 (.lst (ns.map D.str)) := ⟨by
  rw [show (12 : Nat) = 11 + 1 from rfl, isD_lst]; exact isDs_strs, (sm_lst (b := 252) (fun d hd => by
    obtain ⟨x, hx, rfl⟩ := List.mem_map.mp hd
    exact (sm_str (h x hx).1).mono (by have := (h x hx).2; omega)) (n := 60) (by simpa using hl)).mono (by decide)⟩
theorem V1_names {ns : List Str} (h2 : ns.length ≤ 60) (hns : ∀ x ∈ ns, NameP x) : V1 (.lst (ns.map D.str)) := V1_strs (fun x hx => ⟨fun c hc => by have := (hns x hx).az c hc; omega, by have := (hns x hx).hi; omega⟩) h2
theorem V1_labs {ns : List Str} (h2 : ns.length ≤ 60) (hns : ∀ x ∈ ns, NameP x) : V1 (.lst ((labs ns).map D.str)) := V1_strs (fun y hy => by
  obtain ⟨i, hi, e⟩ := List.mem_iff_getElem.mp hy
  obtain ⟨x, k, ex, rfl, rfl⟩ := labs_get (List.getElem?_eq_getElem hi ▸ e ▸ rfl : (labs ns)[i]? = some y)
  have hx := hns x (List.mem_of_getElem? ex)
  have hcl : (ns.take i).count x ≤ i := Nat.le_trans List.count_le_length (by simp; omega)
  rw [labs_len] at hi
  exact ⟨okC_lab (fun c hc => by have := hx.az c hc; omega) _, lab_len hx.hi (by omega)⟩) (by rw [labs_len]; exact h2)
theorem intsOf_strs : ∀ {ns : List Str}, 1 ≤ ns.length → intsOf (ns.map D.str) = none
  | [], h => by simp at h
  | x :: ns, _ => by simp [intsOf, intOf]
theorem count_idx {ms : List Str} : ∀ {l : List Str} {x : Str}, x ∈ ms → (∀ y ∈ l, y ∈ ms) → ((l.map fun y => ((ms.idxOf y : Nat) : Int)).count ((ms.idxOf x : Nat) : Int)) = l.count x
  | [], x, _, _ => rfl
  | a :: l, x, hx, h => by
    have ih := count_idx (l := l) hx fun y hy => h y (List.mem_cons_of_mem _ hy)
    rw [List.map_cons, List.count_cons, List.count_cons, ih]
    have e : ((((ms.idxOf a : Nat) : Int) == ((ms.idxOf x : Nat) : Int)) = true) = ((a == x) = true) := by
      refine propext ⟨fun q => ?_, fun q => ?_⟩
      · have q : ms.idxOf a = ms.idxOf x := by
          have := of_decide_eq_true q
          omega
        have ha := h a (List.mem_cons_self ..)
        have e1 := List.getElem_idxOf (List.idxOf_lt_length_of_mem ha)
        have e2 := List.getElem_idxOf (List.idxOf_lt_length_of_mem hx)
        simp only [q] at e1
        rw [e1] at e2
        simp [e2]
      · rw [beq_iff_eq] at q
        rw [q]; simp
    simp only [e]
theorem sp_law_right {n : Nat} {ns : List Str} {M : Mp} {Q : DK} {X : Str → Mp → Prop} (h1 : 1 ≤ ns.length) (h2 : ns.length ≤ 60) (hns : ∀ x ∈ ns, NameP x)
    (h : Q (.bl true) M) (hn : 10 ≤ n := by omega) : run PG n "_law_right" [.lst (ns.map D.str)] M Q X := by
  obtain ⟨n, rfl⟩ := Nat.exists_eq_add_of_le' hn
  rw [run__law_right]
  simp [f__law_right, t__law_right]
  have hVn := V1_names h2 hns
  have hVl := V1_labs h2 hns
  have hsn : ∀ M, see M (.lst (ns.map D.str)) = .lst (ns.map D.str) := fun M => rfl
  refine bfn_repr2 (by rw [hsn]; exact hVn.v2) ?_
  rw [hsn]
  generalize hkept : rp (.lst (ns.map D.str)) = kept
  refine sp_law_labels h1 h2 hns ?_
  simp
  refine forL_rng (I := fun j δ M' => Sub M M' ∧ δ = [some (.lst (ns.map D.str)), some (.str kept), some (.lst ((labs ns).map D.str)), none, none, none, none, none, none, none, none]) ?_ ?_ ⟨Sub.refl, rfl⟩
  · rintro j δ M' hj ⟨hsub, rfl⟩
    refine ⟨trivial, fun k hk => ?_⟩
    simp
    refine sp_labels_of (.inl rfl) h1 h2 hns fun p hp => ?_
    simp
    refine sp_names_of h1 h2 hns fun q hq => ?_
    have nqp : q ≠ p := fun e => by rw [e] at hq; simp at hq
    simp
    have hV2 : V2 (.lst [.lst ((labs ns).map D.str), .lst (ns.map D.str)]) := V2_lst (fun x hx => by
      rcases List.mem_cons.mp hx with rfl | hx
      · exact hVl
      · rw [List.mem_singleton.mp hx]; exact hVn) (by simp)
    have hst : settle (up (up M' p (.lst ((labs ns).map D.str))) q (.lst (ns.map D.str))) 8 (.lst [.ref p, .ref q]) = some (.lst [.lst ((labs ns).map D.str), .lst (ns.map D.str)], [p, q]) := by
      have z1 := settle_ref (M := up (up M' p (.lst ((labs ns).map D.str))) q (.lst (ns.map D.str))) (a := p) (ds := (labs ns).map D.str) (n := 5) (by rw [up_ne (Ne.symm nqp), up_same]) (all_map fun x _ => by simp [isD])
      have z2 := settle_ref (M := up (up M' p (.lst ((labs ns).map D.str))) q (.lst (ns.map D.str))) (a := q) (ds := ns.map D.str) (n := 5) up_same (all_map fun x _ => by simp [isD])
      rw [settle]
      have e : isD true (.lst [.ref p, .ref q]) 30 = false := by rfl
      rw [e]
      simp only [mapP, z1, z2]
      rfl
    refine bfn_repr3 hst hV2 ?_
    refine bfn_repr2 (by rw [isD_see hV2.d]; exact hV2) ?_
    rw [isD_see hV2.d]
    simp
    refine bfn_repr2 (by rw [hsn]; exact hVn.v2) ?_
    rw [hsn, hkept]
    simp [up_ne (Ne.symm nqp)]
    refine ⟨by rw [labs_len]; omega, ?_⟩
    simp [up_ne nqp]
    refine ⟨by omega, hk _ _ ⟨?_, rfl⟩⟩
    have hqM : M' q = none := by rwa [up_ne nqp] at hq
    intro a o ha
    have ha' := hsub a o ha
    have nap : a ≠ p := fun e => by rw [e, hp] at ha'; cases ha'
    have naq : a ≠ q := fun e => by rw [e, hqM] at ha'; cases ha'
    rw [up_ne naq, up_ne nap, up_ne naq, up_ne nap]
    exact ha'
  · rintro δ M' ⟨hsub, rfl⟩
    refine ⟨trivial, ?_⟩
    simp [ssetD, ssetS, strsOf_map, intsOf_strs h1]
    refine ⟨by omega, fun ms hnd hmem hml => ?_⟩
    refine compL_map (l := ns) (enc := D.str) (f := fun x => .int ((ms.idxOf x : Nat) : Int)) trivial ?_ ?_
    · intro x hx acc k hk
      have hx' : x ∈ ms := (hmem x).mpr hx
      simp [memOk, isDs_strs, placeD_strs hx']
      exact hk
    · have e1 : (ns.map fun x => D.int ((ms.idxOf x : Nat) : Int)) = (ns.map fun x => ((ms.idxOf x : Nat) : Int)).map D.int := by rw [List.map_map]; rfl
      rw [e1]
      generalize hI : (ns.map fun x => ((ms.idxOf x : Nat) : Int)) = is
      have hil : is.length = ns.length := by rw [← hI]; simp
      have hcol : ColI is := by
        refine ⟨by omega, by omega, fun i hi => ?_⟩
        rw [← hI] at hi
        obtain ⟨x, hx, rfl⟩ := List.mem_map.mp hi
        have := List.idxOf_lt_length_of_mem ((hmem x).mpr hx)
        unfold TOP
        omega
      simp
      refine sp_running_count hcol ?_
      have hz : (((ns.map D.str).zip (((labs ns).map D.str).zip ((rc is).map D.int))).map fun p => D.tup [p.1, p.2.1, p.2.2]) = (List.range ns.length).map fun i => D.tup [.str (ns.getD i ⟨#[]⟩), .str (labA ns i), .int (((ns.take i).count (ns.getD i ⟨#[]⟩) : Nat) : Int)] := by
        apply List.ext_getElem
        · simp [labs_len, hil]
        · intro i h3 h4
          simp at h4
          have ex := List.getElem?_eq_getElem h4
          have eg : ns.getD i ⟨#[]⟩ = ns[i] := by rw [List.getD_eq_getElem?_getD, ex]; rfl
          have hix : is[i]? = some ((ms.idxOf ns[i] : Nat) : Int) := by rw [← hI, List.getElem?_map, ex]; rfl
          have hr := rc_get hix
          have hm : ∀ y ∈ ns, y ∈ ms := fun y hy => (hmem y).mpr hy
          rw [← hI, ← List.map_take, count_idx (hm _ (List.getElem_mem h4)) (fun y hy => hm y (List.mem_of_mem_take hy)), hI] at hr
          obtain ⟨hl, hr⟩ := List.getElem?_eq_some_iff.mp hr
          simp only [List.getElem_map, List.getElem_zip, List.getElem_range, labs, hr, eg]
      simp [zipD, seqOf, lstOf]
      rw [hz]
      refine forL_map (enc := fun i => D.tup [.str (ns.getD i ⟨#[]⟩), .str (labA ns i), .int (((ns.take i).count (ns.getD i ⟨#[]⟩) : Nat) : Int)]) (l := List.range ns.length) (I := fun j δ M2 => M2 = M' ∧ δ = [some (.lst (ns.map D.str)), some (.str kept), some (.lst ((labs ns).map D.str)), none, none, none, some (.lst (ms.map D.str)), some (.tup ((rc is).map D.int)), none, none, none]) ?_ ?_ ⟨rfl, rfl⟩
      · rintro j i δ M2 hi hj ⟨rfl, rfl⟩
        refine ⟨trivial, fun k hk => ?_⟩
        have hi' : i < ns.length := List.mem_range.mp (List.mem_of_getElem? hi)
        have ex := List.getElem?_eq_getElem hi'
        have eg : ns.getD i ⟨#[]⟩ = ns[i] := by rw [List.getD_eq_getElem?_getD, ex]; rfl
        have hlab := labA_at ex
        have hel := (hns _ (List.getElem_mem hi')).hi
        have hcl : (ns.take i).count ns[i] ≤ i := Nat.le_trans List.count_le_length (by simp; omega)
        rw [eg, hlab]
        generalize (ns.take i).count ns[i] = c at hcl
        have hkk : ∀ δ', wipeD δ' [8, 9, 10] = [some (.lst (ns.map D.str)), some (.str kept), some (.lst ((labs ns).map D.str)), none, none, none, some (.lst (ms.map D.str)), some (.tup ((rc is).map D.int)), none, none, none] → k δ' M2 := fun δ' e => hk _ _ ⟨rfl, e⟩
        by_cases c0 : c = 0
        · subst c0
          simp [lab]
          exact hkk _ rfl
        · simp [c0]
          have l1 : (Str.ofString " (").length = 2 := by decide +kernel
          have l2 : (Str.ofString ")").length = 1 := by decide +kernel
          have l3 := num_len (c := c) (by omega)
          rw [app_len, app_len, app_len, l1, l2]
          refine ⟨by omega, log_small (by omega), by omega, by omega, ?_⟩
          simp [lab_S c0]
          exact hkk _ rfl
      · rintro δ M2 ⟨rfl, rfl⟩
        refine ⟨trivial, ?_⟩
        simp [lsetD, lsetS, lstOf, strsOf_map, intsOf_strs (ns := labs ns) (by rw [labs_len]; exact h1)]
        refine ⟨by rw [labs_len]; omega, fun us hu hm => ?_⟩
        have hp : us.Perm (labs ns) := (List.perm_ext_iff_of_nodup hu (labs_nodup hns)).mpr hm
        simp [hp.length_eq]
        exact ⟨_, hsub, h⟩
theorem law_goal : ∀ ns : List Int, ns.length ≤ 63 → run PG (40 + 1) "law" [.scr (ns.map D.int)] (fun _ => none) (fun d _ => d = .bl true) fun _ _ => False := by
  intro ns hns
  rw [run_law]
  simp [f_law, t_law]
  have hcnt : ∀ c : Int, 0 ≤ c → (1 ≤ (if 1 < if c < 6 then c else 6 then if c < 6 then c else 6 else 1)) ∧ (if 1 < if c < 6 then c else 6 then if c < 6 then c else 6 else 1) ≤ 8 := by
    intro c hc
    by_cases h1 : c < 6
    · simp only [h1, if_true]; split <;> omega
    · simp only [h1, if_false]; decide
  have hcn := hcnt ns.length (by omega)
  generalize (if 1 < if (ns.length : Int) < 6 then (ns.length : Int) else 6 then if (ns.length : Int) < 6 then (ns.length : Int) else 6 else 1) = c at hcn ⊢
  refine ⟨by omega, by omega, ?_⟩
  refine forL_rng (I := fun j δ M' => δ = [some (.scr (ns.map D.int)), some (.str (Str.ofString "abcdefghijklmnopqrstuvwxyz")), none, none, none, none, none]) ?_ ?_ rfl
  · rintro j δ M hj rfl
    refine ⟨trivial, fun k hk => ?_⟩
    simp
    refine sp_fount (by omega) (by omega) fun p o hp hb => ?_
    simp
    refine forL_rng (I := fun i δ M' => ∃ o', MillO o' (1000 * i) ∧ M' = up M p o' ∧ δ = [some (.scr (ns.map D.int)), some (.str (Str.ofString "abcdefghijklmnopqrstuvwxyz")), some (.int (j : Nat)), some (.ref p), none, none, none]) ?_ ?_ ⟨o, hb, rfl, rfl⟩
    · rintro i δ M' hi ⟨oa, hba, rfl, rfl⟩
      refine ⟨trivial, fun k2 hk2 => ?_⟩
      simp
      refine sp_names (o := oa) up_same hba (by omega) fun xs ob h1 h2 hns hbb => ?_
      rw [up_up]
      simp
      refine sp_law_right h1 h2 hns ?_
      simp
      exact hk2 _ _ ⟨ob, hbb.le (by omega), rfl, rfl⟩
    · rintro δ M' ⟨oa, hba, rfl, rfl⟩
      refine ⟨trivial, ?_⟩
      simp
      refine sp_sip (o := oa) up_same hba (by omega) (by omega) (by omega) fun r ob r0 r1 hbb => ?_
      rw [up_up]
      obtain ⟨z, g1, g2, g3⟩ := letter_at r0 r1
      simp [ixD, g3]
      have hlen : (Str.ofString "abcdefghijklmnopqrstuvwxyz").length ≤ 16777216 := by decide +kernel
      have hz1 : NameP ⟨#[z]⟩ := ⟨by show 1 ≤ 1; omega, by show 1 ≤ 20; omega, fun c hc => by
        have : c = z := by simpa using hc
        omega⟩
      have er : ∀ d : D, rep 60 [d] = List.replicate 60 d := fun d => by
        unfold rep
        show (List.replicate 60 [d]).flatten = _
        simp [List.replicate]
      have er2 : List.replicate 60 (D.str ⟨#[z]⟩) = (List.replicate 60 (⟨#[z]⟩ : Str)).map D.str := by rw [List.map_replicate]
      refine ⟨hlen, ?_⟩
      rw [er, er2]
      refine sp_law_right (by simp) (by simp) (fun x hx => by rw [List.mem_replicate] at hx; rw [hx.2]; exact hz1) ?_
      simp
      refine ⟨hlen, ?_⟩
      refine compL_map (l := (Str.ofString "abcdefghijklmnopqrstuvwxyz").cps.toList) (enc := fun c => D.str ⟨#[c]⟩) (f := fun c => .str ((⟨#[z]⟩ : Str) ++ (⟨#[c]⟩ : Str))) trivial ?_ ?_
      · intro c hc acc k3 hk3
        simp
        refine ⟨by show 1 + 1 ≤ _; omega, hk3⟩
      · have hall : ∀ c ∈ (Str.ofString "abcdefghijklmnopqrstuvwxyz").cps.toList, 97 ≤ c ∧ c < 123 := by decide +kernel
        have h26 : (Str.ofString "abcdefghijklmnopqrstuvwxyz").cps.toList.length = 26 := by decide +kernel
        generalize (Str.ofString "abcdefghijklmnopqrstuvwxyz").cps.toList = L at hall h26
        have e1 : rep 2 (L.map fun c => D.str ((⟨#[z]⟩ : Str) ++ (⟨#[c]⟩ : Str))) = ((L ++ L).map fun c => ((⟨#[z]⟩ : Str) ++ (⟨#[c]⟩ : Str))).map D.str := by
          unfold rep
          show (List.replicate 2 _).flatten = _
          simp [List.replicate]
          rfl
        simp
        refine ⟨by omega, ?_⟩
        rw [e1]
        refine sp_law_right (by simp; omega) (by simp; omega) (fun x hx => ?_) ?_
        · obtain ⟨c, hc, rfl⟩ := List.mem_map.mp hx
          have hc' : c ∈ L := by simpa using hc
          have := hall c hc'
          refine ⟨by rw [app_len]; show 1 ≤ 1 + 1; omega, by rw [app_len]; show 1 + 1 ≤ 20; omega, fun y hy => ?_⟩
          have hy : y ∈ TL.tl ((⟨#[z]⟩ : Str) ++ (⟨#[c]⟩ : Str)) := hy
          rw [TL.tl_append] at hy
          have hy : y = z ∨ y = c := by simpa using hy
          omega
        · simp
          exact hk _ _ rfl
  · rintro δ M rfl
    refine ⟨trivial, ?_⟩
    simp
    have e1 : [D.str (Str.ofString "a"), D.str (Str.ofString "b"), D.str (Str.ofString "a"), D.str (Str.ofString "a")] = [Str.ofString "a", Str.ofString "b", Str.ofString "a", Str.ofString "a"].map D.str := rfl
    rw [e1]
    refine sp_labels_of (.inl rfl) (by simp) (by simp) (fun x hx => nmB_ok (by
      have : [Str.ofString "a", Str.ofString "b", Str.ofString "a", Str.ofString "a"].all nmB = true := by decide +kernel
      exact List.all_eq_true.mp this x hx)) fun p hp => ?_
    have e2 : labs [Str.ofString "a", Str.ofString "b", Str.ofString "a", Str.ofString "a"] = [Str.ofString "a", Str.ofString "b", Str.ofString "a (2)", Str.ofString "a (3)"] := by decide +kernel
    rw [e2]
    simp
    have e3 : eqD (.lst [D.str (Str.ofString "a"), D.str (Str.ofString "b"), D.str (Str.ofString "a (2)"), D.str (Str.ofString "a (3)")]) (.lst [D.str (Str.ofString "a"), D.str (Str.ofString "b"), D.str (Str.ofString "a (2)"), D.str (Str.ofString "a (3)")]) = true := by decide +kernel
    exact ⟨_, Sub.up hp, e3⟩
end Pw
set_option Elab.async false
set_option linter.all false
set_option maxRecDepth 100000
set_option maxHeartbeats 0
open PySem PySem.Spec PyProof.Rows L2

namespace Pw
theorem ok_prg : prg.okB = true := by decide +kernel
def loose0 : List Str := ["CountError", "InvalidColumn", "InvalidNames", "InvalidLabels", "MOST_ENTRIES", "GREATEST", "is_int", "in_range", "is_entry", "is_column", "require_column", "count_in", "running_count", "LETTERS", "MOST_LETTERS", "MOST_NAMES", "is_name", "are_names", "labels_in", "labels_of", "names_of", "_law_fount", "_law_sip", "_law_mixed", "_law_names"]
def loose1 : List Str := ["_law_labels", "_law_right"]
def loose : List Str := loose0 ++ loose1
abbrev Rw : PySem.W.OpenRow := PySem.W.OpenLaw.row PySem.Challenge.rw_runningcount_k54_labels
abbrev hkP : PySem.W.Hook := hookP 4 prg.fa prg.fnD prg.gc
def obP (s : PySem.W.SharedT) : AlP := obsPG 4 prg.fa prg.fnD prg.gc (HandSHeadRun.getT s)
theorem obP_eq (s : PySem.W.SharedT) : obP s = hkP.obs s.abs := obsPG_eq (HandSHeadRun.getT_eq s)
theorem runP (w : World) : HandSHeadRun.RunEq Rw (PySem.W.view Rw.prog [31]) hkP obP 6000 loose w := by
  intro os
  kernel_rfl
theorem bi_all (K : PySem.W.Frag) : ∀ f ∈ prg.dfs, ∀ fd, FunD K f.d.name f.d.qual f.d.params f.d.body f.d.scope (f.d.dvs K) (f.d.kws K) (He.fAd K f.d.at_) fd → BindOk K f fd := by
  intro f hf fd F
  simp only [prg, List.mem_cons, List.not_mem_nil, or_false] at hf
  rcases hf with rfl | rfl | rfl | rfl | rfl | rfl | rfl | rfl | rfl | rfl | rfl | rfl | rfl | rfl | rfl | rfl | rfl | rfl
  · exact bi_is_int F
  · exact bi_in_range F
  · exact bi_is_entry F
  · exact bi_is_column F
  · exact bi_require_column F
  · exact bi_count_in F
  · exact bi_running_count F
  · exact bi_is_name F
  · exact bi_are_names F
  · exact bi_labels_in F
  · exact bi_labels_of F
  · exact bi_names_of F
  · exact bi__law_fount F
  · exact bi__law_sip F
  · exact bi__law_names F
  · exact bi__law_labels F
  · exact bi__law_right F
  · exact bi_law F
end Pw
open PySem PySem.W PySem.Calls PyProof.Rows
theorem PySem.Challenge.cw_runningcount_k54_labels_holds : PySem.Challenge.rw_runningcount_k54_labels.Holds := by
  w_on; o_law
  refine HandSHeadRun.head_any (r := OpenLaw.row PySem.Challenge.rw_runningcount_k54_labels) (q := view (OpenLaw.row PySem.Challenge.rw_runningcount_k54_labels).prog [31]) (H := Pw.hkP) (ob := Pw.obP) (M := 6000) (loose := Pw.loose) (d := HandSHeadRun.topDef (OpenLaw.row PySem.Challenge.rw_runningcount_k54_labels).prog 31) (kwd := []) Pw.obP_eq
    (by kernel_rfl) (fun s => by kernel_rfl) Pw.runP (by kernel_rfl) (by kernel_rfl) (by kernel_rfl) (by rfl) (by first | assumption | decide +kernel) (by decide +kernel) ⟨rfl, rfl, rfl, rfl, rfl, by decide +kernel⟩ ?hw ?hc
  case hw => w_witness2
  case hc =>
    refine Pw.law_end (l := PySem.Challenge.rw_runningcount_k54_labels) (n := 63) (k := 40) (m := 0) Pw.prg "_law_script" rfl (by decide) (by kernel_rfl) ⟨⟨rfl, by decide, by decide⟩, rfl⟩ (by kernel_rfl) Pw.ok_prg Pw.bi_all rfl ?goal
    case goal =>
      rw [Pw.prg_fns]
      exact Pw.law_goal
