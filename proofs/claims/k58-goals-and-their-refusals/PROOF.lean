import PyProof.Rows.All
import HandS.Base
import PyProof.EqLayable
import PySem.Spec
import HandS.Strs
import HandS.List
import HandS.ForMost
import HandS.ForExc
import HandS.Wide
import HandS.IsInst
import HandS.OwnEq
import HandS.Defaults
import HandS.HotCalls
import HandS.ExcIs
import HandS.TryOnly
import HandS.ExcField
import HandS.ExcInit
import KE.KOpsOwn
import PyProof.FactsAll.int_1
import PyProof.FactsAll.int_2
import PyProof.FactsAll.int_3
import PyProof.FactsAll.int_5
import HandS.TupAny
import HandS.Text
import HandS.Dict
import HandS.RaiseMore
import HandS.Iter
import HandS.Zip
import HandS.Style
import KE.KExcMore
import HandS.TryMany
import HandS.HeadHook4
import HandS.Head0
import HandS.Head1
import HandS.Head2
import HandS.HeadEnd
import HandS.EndBits
import PySem.Challenge.RW_anymethod_k58_goals_and_their_refusals
set_option Elab.async false
set_option linter.all false
set_option linter.all false
namespace Py
open PySem
/-- names of the text -/
inductive Nm where
  | k
  | «at»
  | Run
  | law
  | one
  | top
  | Goal
  | many
  | over
  | read
  | sees
  | self
  | slip
  | text
  | told
  | wild
  | word
  | NoRun
  | Ratio
  | _wall
  | error
  | items
  | other
  | place
  | power
  | split
  | thing
  | world
  | DIGITS
  | NoGoal
  | NoWild
  | __eq__
  | __ge__
  | __gt__
  | __le__
  | __lt__
  | __ne__
  | __or__
  | append
  | bottom
  | number
  | LETTERS
  | LONGEST
  | NoGoals
  | NoRatio
  | NoWorld
  | __abs__
  | __add__
  | __len__
  | __mod__
  | __mul__
  | __neg__
  | __pos__
  | __pow__
  | __ror__
  | __sub__
  | _law_at
  | effects
  | is_name
  | weights
  | Question
  | Run_sees
  | __call__
  | __init__
  | __name__
  | __radd__
  | __rmod__
  | __rmul__
  | __rpow__
  | __rsub__
  | as_ratio
  | is_world
  | question
  | _law_hand
  | _law_made
  | _law_many
  | _law_pair
  | _law_slip
  | _law_take
  | is_digits
  | is_number
  | NoQuestion
  | NoRun_told
  | Ratio_over
  | Ratio_read
  | Ratio_text
  | Run___eq__
  | ValueError
  | _law_error
  | _law_names
  | _law_rogue
  | is_integer
  | Goal___eq__
  | MOST_DIGITS
  | MethodError
  | NoGoal_told
  | NoWild_told
  | Question_at
  | Ratio_power
  | __getitem__
  | __setitem__
  | _law_number
  | _law_script
  | are_effects
  | are_numbers
  | is_sequence
  | MOST_EFFECTS
  | NoGoals_told
  | NoRatio_told
  | NoWorld_told
  | OtherEffects
  | Ratio___eq__
  | Ratio___ge__
  | Ratio___gt__
  | Ratio___le__
  | Ratio___lt__
  | Run___init__
  | __contains__
  | __floordiv__
  | _law_effects
  | _law_weights
  | Goal___init__
  | Question_over
  | Ratio___abs__
  | Ratio___add__
  | Ratio___mod__
  | Ratio___mul__
  | Ratio___neg__
  | Ratio___pos__
  | Ratio___pow__
  | Ratio___sub__
  | __rfloordiv__
  | _law_fraction
  | _law_question
  | GREATEST_POWER
  | NoRun___init__
  | Ratio___init__
  | Ratio___radd__
  | Ratio___rmod__
  | Ratio___rmul__
  | Ratio___rsub__
  | _law_hand_here
  | common_divisor
  | NoGoal___init__
  | NoQuestion_told
  | Question___eq__
  | MethodError_told
  | NoGoals___init__
  | NoRatio___init__
  | Question___add__
  | Question___mul__
  | Question___neg__
  | Question___sub__
  | OtherEffects_told
  | Question___init__
  | Question___rmul__
  | Ratio___floordiv__
  | _law_question_here
  | NoQuestion___init__
  | Ratio___rfloordiv__
  deriving DecidableEq
end Py

set_option linter.all false
/-! An evaluator of the part of Python that the program and the laws use: values are structures, lists that are never changed are values too, what is changed stands in a heap of its own. -/
namespace Py
open PySem (Str)
abbrev Key := Sum Int Str
/-- values -/
inductive PV where
  | non | bl (b : Bool) | int (i : Int) | str (s : Str) | ty (n : String)
  | tup (xs : List PV) | lst (xs : List PV)
  | dct (kvs : List (Key × PV))
  | obj (c : Nm) (fs : List (Nm × PV))
  | cls (c : Nm) | fn (f : Nm)
  | scr (ns : List Int)
  | loc (n : Nat)
/-- what is changed -/
inductive EO where
  | lst (xs : List PV) | dct (kvs : List (Key × PV)) | ldct (kvs : List (Key × PV)) | ins (c : Nm) (fs : List (Nm × PV)) | dead
abbrev EH := List EO
abbrev Env := List (Option PV)
def hget (n : Nat) : EH → Option EO
  | [] => none
  | o :: h => if n = h.length then some o else hget n h
def hset (n : Nat) (o' : EO) : EH → EH
  | [] => []
  | o :: h => if n = h.length then o' :: h else o :: hset n o' h
structure Exc where
  c : Nm
  fs : List (Nm × PV)
inductive Res (α : Type) where
  | ok (a : α) (h : EH) | err (x : Exc) (h : EH) | stuck
def Res.bind {α β : Type} (r : Res α) (f : α → EH → Res β) : Res β := match r with
  | .ok a h => f a h
  | .err x h => .err x h
  | .stuck => .stuck
inductive BO where
  | add | sub | mul | fdiv | mod | pow | bor
inductive CO where
  | eq | ne | lt | le | gt | ge | isn | isnt | inn | nin
inductive Bu where
  | abs | int | str | len | isinst | list | tuple | dict | set | sorted | sum | any | all | max | min
inductive T where
  | v (i : Nat) | t (is : List Nat)
mutual
inductive E where
  | v (i : Nat) | g (n : Nm) | ty (n : String)
  | i (k : Int) | s (x : Str) | b (x : Bool) | n
  | bin (o : BO) (a b : E) | neg (a : E) | pos (a : E)
  | cmp (o : CO) (a b : E) | chn (o p : CO) (a b c : E)
  | not (a : E) | and (es : List E) | or (es : List E)
  | ite (c a b : E)
  | att (a : E) (f : Nm) | sub (a i : E) | slc (a : E) (lo hi : Option E)
  | tup (es : List E) | lst (m : Bool) (es : List E) | dic (m : Bool) (ks : List E) (vs : List E)
  | call (f : Nm) (es : List E) (kw : List (Nm × E))
  | bu (f : Bu) (es : List E)
  | met (a : E) (m : Nm) (es : List E) (kw : List (Nm × E))
  | lc (m : Bool) (t : T) (it : I) (c : Option E) (x : E)
  | tst (a : E)
  | cat (m : Bool) (a b : E)
  | lof (m : Bool) (a : E) | tof (a : E) | lset (a : E) | rev (a : E) | srt (a : E)
  | ni | binr (o : BO) (a b : E)
  | bad
inductive I where
  | seq (a : E) | enum (a : E) | zip (a b : E) | range (es : List E)
end
/-- what an except suite tells: e.f, e.m(), isinstance(e, c) -/
inductive HX where
  | n | b (x : Bool) | i (k : Int) | s (x : Str) | v (i : Nat) | xf (f : Nm) | xm (m : Nm) | xis (c : Nm)
inductive HE where
  | x (a : HX) | tup (as : List HX)
/-- a test of an except suite: isinstance(e, c), not isinstance(e, c), isinstance(e, (c, ..)) -/
inductive HB where
  | is (neg : Bool) (c : Nm) | isT (cs : List Nm)
inductive HS where
  | asg (i : Nat) (e : HE) | ret (e : HE) | ifa (bs : List HB) (i : Nat) (e : HE)
inductive S where
  | ex (e : E) | asg (t : T) (e : E) | par (is : List Nat) (es : List E)
  | sat (o : E) (f : Nm) (e : E) | sit (o k : E) (e : E)
  | aug (i : Nat) (o : BO) (e : E)
  | ret (e : E) | retn
  | ifs (c : E) (a b : List S) | whl (c : E) (b : List S) | for_ (t : T) (it : I) (b : List S)
  | rai (c : Nm) (es : List E)
  | try_ (b : List S) (c : Nm) (n : Option Nat) (hb : List HS)
  | trym (b : List S) (cs : List (Nm × Option Nat × List HS))
  | pass | brk | cnt
  | bad
/-- the def that a body asks first: if not g(other): return NotImplemented -/
def gE (e : E) : Option Nm := match e with
  | .call g es kw => (match es with
    | [x] => (match x with
      | .v i => if i = 1 then (if kw.isEmpty then some g else none) else none
      | _ => none)
    | _ => none)
  | _ => none
def gC (e : E) : Option Nm := match e with
  | .not t => (match t with
    | .tst e => gE e
    | _ => none)
  | _ => none
def gR (b : List S) : Bool := match b with
  | [r] => (match r with
    | .ret x => (match x with
      | .ni => true
      | _ => false)
    | _ => false)
  | _ => false
def guardOf (b : List S) : Option Nm := match b with
  | s :: _ => (match s with
    | .ifs c a b => if gR a then (if b.isEmpty then gC c else none) else none
    | _ => none)
  | [] => none
structure FDef where
  n : Nm
  ps : List Nm
  np : Nat
  df : List (Option PV)
  ns : Nat
  fz : Bool
  sh : List (Nat × List Nm)
  body : List S
structure CDef where
  n : Nm
  ms : List (Nm × Nm)
  sm : List (Nm × Nm)
  ini : Option Nm
  fz : Bool
  fl : List Nm
  ex : Option (List Nm)
  sup : List Nm
structure Prog where
  fn : Nm → Option FDef
  cls : Nm → Option CDef
  glob : Nm → Option PV
structure Cxt where
  P : Prog
  call : Nm → List PV → EH → Res PV
  mkc : Nm → List PV → EH → Res PV
/-- a builtin stands between -/
abbrev Cxt.low (C : Cxt) : Cxt := ⟨C.P, C.mkc, C.mkc⟩
/-! ### slots, lists of pairs -/
def slot : Nat → Env → Option PV
  | _, [] => none
  | 0, x :: _ => x
  | n + 1, _ :: r => slot n r
def setS : Nat → Option PV → Env → Env
  | _, _, [] => []
  | 0, v, _ :: r => v :: r
  | n + 1, v, x :: r => x :: setS n v r
def look {α : Type} (k : Nm) : List (Nm × α) → Option α
  | [] => none
  | (a, v) :: r => if k = a then some v else look k r
def put {α : Type} (k : Nm) (v : α) : List (Nm × α) → List (Nm × α)
  | [] => [(k, v)]
  | (a, x) :: r => if a = k then (a, v) :: r else (a, x) :: put k v r
def klook (k : Key) : List (Key × PV) → Option PV
  | [] => none
  | (a, v) :: r => if k = a then some v else klook k r
def kput (k : Key) (v : PV) : List (Key × PV) → List (Key × PV)
  | [] => [(k, v)]
  | (a, x) :: r => if a = k then (a, v) :: r else (a, x) :: kput k v r
def kdrop (k : Key) : List (Key × PV) → List (Key × PV)
  | [] => []
  | (a, x) :: r => if a = k then r else (a, x) :: kdrop k r
def keyOf : PV → Option Key
  | .int i => some (.inl i)
  | .str s => some (.inr s)
  | _ => none
def keyV : Key → PV
  | .inl i => .int i
  | .inr s => .str s
/-- the longest list that is reckoned with -/
def big : Nat := 1000000
/-! ### values -/
mutual
def PV.lowB (k : Nat) : PV → Bool
  | .tup xs => lowL k xs
  | .lst xs => lowL k xs
  | .dct kvs => lowK k kvs
  | .obj _ fs => lowF k fs
  | .loc n => decide (n < k)
  | _ => true
def lowL (k : Nat) : List PV → Bool
  | [] => true
  | x :: r => x.lowB k && lowL k r
def lowF (k : Nat) : List (Nm × PV) → Bool
  | [] => true
  | (_, x) :: r => x.lowB k && lowF k r
def lowK (k : Nat) : List (Key × PV) → Bool
  | [] => true
  | (_, x) :: r => x.lowB k && lowK k r
end
/-- a list or tuple -/
def asSeq (h : EH) : PV → Option (List PV)
  | .tup xs => some xs
  | .lst xs => some xs
  | .scr ns => some (ns.map .int)
  | .loc n => match hget n h with
    | some (.lst xs) => some xs
    | _ => none
  | _ => none
def asLst (h : EH) : PV → Option (List PV)
  | .lst xs => some xs
  | .loc n => match hget n h with
    | some (.lst xs) => some xs
    | _ => none
  | _ => none
def asDct (h : EH) : PV → Option (List (Key × PV))
  | .dct xs => some xs
  | .loc n => match hget n h with
    | some (.dct xs) => some xs
    | some (.ldct xs) => some xs
    | _ => none
  | _ => none
def asIns (h : EH) : PV → Option (Nm × List (Nm × PV))
  | .obj c fs => some (c, fs)
  | .loc n => match hget n h with
    | some (.ins c fs) => some (c, fs)
    | _ => none
  | _ => none
/-- a builtin thing's type -/
def tyOf (h : EH) : PV → Option String
  | .non => some "NoneType"
  | .bl _ => some "bool"
  | .int _ => some "int"
  | .str _ => some "str"
  | .tup _ => some "tuple"
  | .lst _ => some "list"
  | .scr _ => some "list"
  | .dct _ => some "dict"
  | .loc n => (match hget n h with
    | some (.lst _) => some "list" | some (.dct _) => some "dict"
    | some (.ldct _) => some "dict"
    | _ => none)
  | _ => none
def truth (h : EH) : PV → Option Bool
  | .non => some false
  | .bl b => some b
  | .int i => some (i != 0)
  | .str s => if s.length ≤ big then some (s.length != 0) else none
  | .tup xs => some !xs.isEmpty
  | .lst xs => some !xs.isEmpty
  | .loc n => match hget n h with
    | some (.lst xs) => some !xs.isEmpty
    | some (.dct xs) => some !xs.isEmpty
    | _ => none
  | _ => none
mutual
/-- == of data -/
def dat : PV → Option PySem.PyData
  | .non => some .none
  | .bl b => some (.bool b)
  | .int i => some (.int i)
  | .str x => some (.str x)
  | .tup xs => (datL xs).map .tuple
  | .lst xs => (datL xs).map .list
  | _ => none
def datL : List PV → Option (List PySem.PyData)
  | [] => some []
  | x :: r => match dat x, datL r with
    | some u, some us => some (u :: us)
    | _, _ => none
end
def datEq (a b : PV) : Option Bool := match dat a, dat b with
  | some x, some y => if PySem.SeqAt.shaped x && PySem.SeqAt.shaped y then some (PySem.PyData.eqv x y) else none
  | _, _ => none
/-- == of what is flat -/
def scalP : PV → PV → Option Bool
  | .non, .non => some true
  | .non, .int _ => some false
  | .int _, .non => some false
  | .non, .bl _ => some false
  | .bl _, .non => some false
  | .non, .str _ => some false
  | .str _, .non => some false
  | .int i, .int j => some (decide (i = j))
  | .bl i, .bl j => some (decide (i = j))
  | .str i, .str j => some (decide (i = j))
  | .int _, .str _ => some false
  | .str _, .int _ => some false
  | .bl _, .str _ => some false
  | .str _, .bl _ => some false
  | _, _ => none
/-- a list that is changed, as it stands -/
def norm (h : EH) (v : PV) : PV := match v with
  | .loc n => match hget n h with
    | some (.lst xs) => .lst xs
    | _ => v
  | v => v
def flatP : PV → Bool
  | .non => true | .bl _ => true | .int _ => true | .str _ => true | _ => false
def eqP : PV → PV → Bool
  | .non, .non => true
  | .bl a, .bl b => a == b
  | .bl a, .int j => (if a then 1 else 0) == j
  | .int i, .bl b => i == (if b then 1 else 0)
  | .int i, .int j => i == j
  | .str x, .str y => x == y
  | _, _ => false
def CO.dun : CO → Nm
  | .eq => .__eq__ | .ne => .__ne__ | .lt => .__lt__ | .le => .__le__ | .gt => .__gt__ | .ge => .__ge__ | _ => .__eq__
def CO.rev : CO → Nm
  | .eq => .__eq__ | .ne => .__ne__ | .lt => .__gt__ | .le => .__ge__ | .gt => .__lt__ | .ge => .__le__ | _ => .__eq__
def BO.dun : BO → Nm
  | .add => .__add__ | .sub => .__sub__ | .mul => .__mul__ | .fdiv => .__floordiv__ | .mod => .__mod__ | .pow => .__pow__ | .bor => .__or__
def BO.rev : BO → Nm
  | .add => .__radd__ | .sub => .__rsub__ | .mul => .__rmul__ | .fdiv => .__rfloordiv__ | .mod => .__rmod__ | .pow => .__rpow__ | .bor => .__ror__
/-- the operators that may stand in op= of an instance -/
def BO.ipB : BO → Bool
  | .add => true | .sub => true | .mul => true | _ => false
section
variable (C : Cxt)
/-- the arguments in the order of the parameters -/
def fill (kw : List (Nm × PV)) : List Nm → List (Option PV) → Option (List PV)
  | p :: ps, d :: ds => (match look p kw with
    | some v => (fill kw ps ds).map (v :: ·)
    | none => match d with
      | some v => (fill kw ps ds).map (v :: ·)
      | none => none)
  | [], _ => some []
  | _, [] => none
def bindA (fd : FDef) (args : List PV) (kw : List (Nm × PV)) : Option (List PV) :=
  if (args.length, kw.map (·.1)) ∈ fd.sh then (fill kw (fd.ps.drop args.length) (fd.df.drop args.length)).map (args ++ ·) else none
/-- a def is called -/
def callD (f : Nm) (args : List PV) (kw : List (Nm × PV)) (h : EH) : Res PV := match C.P.fn f with
  | some fd => (match bindA fd args kw with
    | some as => C.call f as h
    | none => .stuck)
  | none => .stuck
def Prog.meth (P : Prog) (c m : Nm) : Option Nm := match P.cls c with
  | some cd => (match cd.ex with
    | none => look m cd.ms
    | some _ => none)
  | none => none
def Prog.inst (P : Prog) (c : Nm) : Bool := match P.cls c with
  | some cd => cd.ex.isNone
  | none => false
/-- a thing whose type is known -/
def okB (h : EH) (v : PV) : Bool := match asIns h v with
  | some p => C.P.inst p.1
  | none => (tyOf h v).isSome
/-- o.m(..), m a def of o's class -/
def callM (o : PV) (m : Nm) (args : List PV) (kw : List (Nm × PV)) (h : EH) : Res PV := match asIns h o with
  | some (c, fs) => (match look m fs with
    | none => (match C.P.meth c m with
      | some f => callD C f (o :: args) kw h
      | none => .stuck)
    | some _ => .stuck)
  | none => .stuck
def intBin : BO → Int → Int → Option Int
  | .add, i, j => some (i + j)
  | .sub, i, j => some (i - j)
  | .mul, i, j => if i.natAbs.log2 + j.natAbs.log2 < 1000000 then some (i * j) else none
  | .fdiv, i, j => if j ≠ 0 ∧ j.natAbs.log2 < 9000 then some (Int.fdiv i j) else none
  | .mod, i, j => if j ≠ 0 then some (Int.fmod i j) else none
  | .pow, i, j => if 0 ≤ j ∧ j ≤ 1000000 ∧ i.natAbs < 2 ^ 64 then some (i ^ j.toNat) else none
  | .bor, _, _ => none
def opBin (o : BO) (a b : PV) (h : EH) : Res PV := match a, b with
  | .int i, .int j => (match intBin o i j with
    | some k => .ok (.int k) h
    | none => .stuck)
  | .str x, .str y => (match o with
    | .add => if x.length + y.length ≤ big then .ok (.str (x ++ y)) h else .stuck
    | _ => .stuck)
  | .lst x, .lst y => (match o with
    | .add => if x.length + y.length ≤ big then .ok (.lst (x ++ y)) h else .stuck
    | _ => .stuck)
  | .tup x, .tup y => (match o with
    | .add => if x.length + y.length ≤ big then .ok (.tup (x ++ y)) h else .stuck
    | _ => .stuck)
  | .int i, b => (match o with
    | .bor => .stuck
    | o => callM C b o.rev [.int i] [] h)
  | a, b => if okB C h b then callM C a o.dun [b] [] h else .stuck
open Classical in
/-- a's def of the operator declines b -/
noncomputable def declines (a : PV) (m : Nm) (b : PV) (h : EH) : Bool := match asIns h a with
  | some p => (match look m p.2 with
    | none => (match C.P.meth p.1 m with
      | some f => (match C.P.fn f with
        | some fd => (match guardOf fd.body with
          | some g => if (2, []) ∈ fd.sh ∧ fd.ps.length = 2 ∧ (C.P.fn g).isSome ∧ callD C.low g [b] [] h = .ok (.bl false) h then true else false
          | none => false)
        | none => false)
      | none => false)
    | some _ => false)
  | none => false
/-- a op b, where the right one's def may answer -/
noncomputable def opBinR (o : BO) (a b : PV) (h : EH) : Res PV := if declines C a o.dun b h then (match asIns h a with
    | some p => (match asIns h b with
      | some q => if C.P.inst q.1 = true ∧ q.1 ≠ p.1 then callM C b o.rev [a] [] h else .stuck
      | none => .stuck)
    | none => .stuck) else opBin C o a b h
/-- a op= b -/
def opAug (o : BO) (a b : PV) (h : EH) : Res PV := match a, b with
  | .int i, .int j => (match o with
    | .add => .ok (.int (i + j)) h
    | .sub => .ok (.int (i - j)) h
    | _ => .stuck)
  | .str x, .str y => (match o with
    | .add => if x.length + y.length ≤ big then .ok (.str (x ++ y)) h else .stuck
    | _ => .stuck)
  | a, b => (match asIns h a with
    | some _ => if o.ipB then opBin C o a b h else .stuck
    | none => .stuck)
def opNeg (a : PV) (h : EH) : Res PV := match a with
  | .int i => .ok (.int (-i)) h
  | a => callM C a .__neg__ [] [] h
def opPos (a : PV) (h : EH) : Res PV := callM C a .__pos__ [] [] h
def notR (r : Res PV) : Res PV := r.bind fun v h => match v with
  | .bl b => .ok (.bl !b) h
  | _ => .stuck
/-- a thing with an address -/
def refP : PV → Bool
  | .non => false | .bl _ => false | .int _ => false | .str _ => false | .ty _ => false | _ => true
mutual
/-- two things that are not one object -/
def apart : PV → PV → Bool
  | .obj _ fs, y => (match y with
    | .obj _ gs => apartF fs gs
    | y => !refP y)
  | .tup xs, y => (match y with
    | .tup ys => apartL xs ys
    | y => !refP y)
  | .lst xs, y => (match y with
    | .lst ys => apartL xs ys
    | y => !refP y)
  | x, y => (refP x != refP y) || (scalP x y == some false)
def apartL : List PV → List PV → Bool
  | x :: r, ys => (match ys with
    | y :: q => apart x y || apartL r q
    | [] => true)
  | [], ys => !ys.isEmpty
def apartF : List (Nm × PV) → List (Nm × PV) → Bool
  | (_, x) :: r, gs => (match gs with
    | (_, y) :: q => apart x y || apartF r q
    | [] => true)
  | [], gs => !gs.isEmpty
end
/-- == of two items -/
def eqO (x y : PV) (h : EH) : Res PV := match asIns h x with
  | some _ => if okB C h y then callM C x .__eq__ [y] [] h else .stuck
  | none => (match x with
    | .int i => callM C y .__eq__ [.int i] [] h
    | _ => .stuck)
open Classical in
noncomputable def eqI (x y : PV) (h : EH) : Option Bool := match scalP x y with
  | some b => some b
  | none => (match eqO C x y h with
    | .ok (.bl b) h' => if h' = h ∧ (b = true ∨ apart x y = true) then some b else none
    | _ => none)
noncomputable def eqIs (h : EH) : List PV → List PV → Option Bool
  | [], [] => some true
  | [], _ :: _ => some false
  | _ :: _, [] => some false
  | x :: xs, y :: ys => (match eqI C x y h with
    | some true => eqIs h xs ys
    | some false => some false
    | none => none)
/-- two tuples, two lists -/
def sqP : PV → PV → Option (List PV × List PV)
  | .tup xs, .tup ys => some (xs, ys)
  | .lst xs, .lst ys => some (xs, ys)
  | _, _ => none
noncomputable def eqR (a b : PV) (h : EH) : Res PV := match asIns h a with
  | some _ => if okB C h b then callM C a .__eq__ [b] [] h else .stuck
  | none => match scalP a b with
    | some x => .ok (.bl x) h
    | none => match datEq (norm h a) (norm h b) with
      | some x => .ok (.bl x) h
      | none => match sqP a b with
        | some p => (match eqIs C.low h p.1 p.2 with
          | some b => .ok (.bl b) h
          | none => .stuck)
        | none => match a with
          | .int i => callM C b .__eq__ [.int i] [] h
          | _ => .stuck
/-- x in c -/
def inR (c x : PV) (h : EH) : Res PV := match c with
  | .str z => (match x with
    | .str y => (match y.cps.toList with
      | [k] => .ok (.bl (decide (k ∈ z.cps.toList))) h
      | _ => .stuck)
    | _ => .stuck)
  | c => match asSeq h c with
  | some xs => if flatP x && xs.all flatP then .ok (.bl (xs.any fun y => eqP y x)) h else .stuck
  | none => .stuck
def ordR (o : CO) (a b : PV) (h : EH) : Res PV := match a, b with
  | .int i, .int j => (match o with
    | .lt => .ok (.bl (decide (i < j))) h
    | .le => .ok (.bl (decide (i ≤ j))) h
    | .gt => .ok (.bl (decide (j < i))) h
    | .ge => .ok (.bl (decide (j ≤ i))) h
    | _ => .stuck)
  | .int i, b => callM C b o.rev [.int i] [] h
  | a, b => if okB C h b then callM C a o.dun [b] [] h else .stuck
def isNon : PV → Bool
  | .non => true
  | _ => false
noncomputable def opCmp (o : CO) (a b : PV) (h : EH) : Res PV := match o with
  | .eq => eqR C a b h
  | .ne => (match asIns h a with
    | some _ => if okB C h b then notR (callM C.low a .__eq__ [b] [] h) else .stuck
    | none => (match asIns h b with
      | some _ => (match a with
        | .int i => notR (callM C.low b .__eq__ [.int i] [] h)
        | _ => .stuck)
      | none => notR (eqR C a b h)))
  | .isn => (match b with
    | .non => .ok (.bl (isNon a)) h
    | _ => .stuck)
  | .isnt => (match b with
    | .non => .ok (.bl !isNon a) h
    | _ => .stuck)
  | .inn => inR b a h
  | .nin => notR (inR b a h)
  | o => ordR C o a b h
def intCmp : CO → Int → Int → Option Bool
  | .lt, i, j => some (decide (i < j))
  | .le, i, j => some (decide (i ≤ j))
  | .gt, i, j => some (decide (j < i))
  | .ge, i, j => some (decide (j ≤ i))
  | _, _, _ => none
/-- a chain's link: of ints -/
def lnk (o : CO) (x y : PV) (h : EH) : Res Bool := match x, y with
  | .int i, .int j => (match intCmp o i j with
    | some b => .ok b h
    | none => .stuck)
  | _, _ => .stuck
def Prog.fld (P : Prog) (c f : Nm) : Bool := match P.cls c with
  | some cd => (match cd.ex with
    | none => decide (f ∈ cd.fl)
    | some _ => false)
  | none => false
def getAtt (a : PV) (f : Nm) (h : EH) : Res PV := match asIns h a with
  | some (c, fs) => if C.P.fld c f then (match look f fs with
    | some v => .ok v h
    | none => .stuck) else .stuck
  | none => .stuck
def pyIx (i : Int) (n : Nat) : Option Nat := if 0 ≤ i then (if i < n then some i.toNat else none) else if -(n : Int) ≤ i then some (i + n).toNat else none
def getIt (a i : PV) (h : EH) : Res PV := match a with
  | .str z => (match i with
    | .int k => if z.length ≤ big then (match pyIx k z.cps.toList.length with
      | some j => (match z.cps.toList[j]? with
        | some c => .ok (.str ⟨#[c]⟩) h
        | none => .stuck)
      | none => .stuck) else .stuck
    | _ => .stuck)
  | a => match asSeq h a with
  | some xs => (match i with
    | .int k => (match pyIx k xs.length with
      | some j => (match xs[j]? with
        | some v => .ok v h
        | none => .stuck)
      | none => .stuck)
    | _ => .stuck)
  | none => .stuck
def setIt (o k v : PV) (h : EH) : Res Unit := match o with
  | .loc n => (match hget n h with
    | some (.lst xs) => (match k with
      | .int i => (match pyIx i xs.length with
        | some j => .ok () (hset n (.lst (xs.set j v)) h)
        | none => .stuck)
      | _ => .stuck)
    | _ => .stuck)
  | _ => .stuck
def setAt (o : PV) (f : Nm) (v : PV) (h : EH) : Res Unit := match o with
  | .loc n => (match hget n h with
    | some (.ins c fs) => if C.P.fld c f && decide (fs.length < 900) then .ok () (hset n (.ins c (put f v fs)) h) else .stuck
    | _ => .stuck)
  | _ => .stuck
/-! ### classes -/
open Classical in
/-- what a class's call hands back behind __init__ -/
noncomputable def close (cd : CDef) (h0 : EH) (h : EH) : Res PV := match hget h0.length h with
  | some (.ins c fs) => if cd.fz = true then
      (if h = .ins c fs :: h0 ∧ lowF h0.length fs = true then .ok (.obj c fs) h0 else .ok (.obj c fs) (hset h0.length .dead h))
    else .ok (.loc h0.length) h
  | _ => .stuck
noncomputable def make (cd : CDef) (args : List PV) (kw : List (Nm × PV)) (h : EH) : Res PV := match cd.ini with
  | some f => (match C.P.fn f with
    | some fd => (match bindA fd (.loc h.length :: args) kw with
      | some as => (C.mkc f as (.ins cd.n [] :: h)).bind fun r h2 => match r with
        | .non => close cd h h2
        | _ => .stuck
      | none => .stuck)
    | none => .stuck)
  | none => .stuck
noncomputable def callG (f : Nm) (args : List PV) (kw : List (Nm × PV)) (h : EH) : Res PV := match C.P.fn f with
  | some _ => callD C f args kw h
  | none => match C.P.cls f with
    | some cd => (match cd.ex with
      | none => make C cd args kw h
      | some _ => .stuck)
    | none => .stuck
def isSup (c : Nm) (d : Nm) : Bool := if c = d then true else match C.P.cls c with
  | some cd => cd.sup.any fun x => if x = d then true else false
  | none => false
def tyL : List String := ["int", "bool", "str", "list", "tuple", "dict"]
def isOne (h : EH) (v : PV) : PV → Option Bool
  | .ty n => if n ∉ tyL then none else (match asIns h v with
    | some _ => some false
    | none => (match tyOf h v with
      | some m => some (m == n || (m == "bool" && n == "int"))
      | none => none))
  | .cls d => (match C.P.cls d with
    | some _ => (match asIns h v with
      | some p => some (isSup C p.1 d)
      | none => some false)
    | none => none)
  | _ => none
/-- a class -/
def isCT : PV → Bool
  | .ty _ => true
  | .cls _ => true
  | _ => false
def isAny (h : EH) (v : PV) : List PV → Option Bool
  | [] => some false
  | t :: r => (match isOne C h v t with
    | some true => some true
    | some false => isAny h v r
    | none => none)
def bools : List PV → Option (List Bool)
  | [] => some []
  | .bl b :: r => (bools r).map (b :: ·)
  | _ => none
/-- a list of one pair (key, value) -/
def pairP : List PV → Option (Key × PV)
  | [.tup [k, v]] => (keyOf k).map (·, v)
  | _ => none
def bCall (f : Bu) (args : List PV) (h : EH) : Res PV := match f, args with
  | .abs, [.int i] => .ok (.int (if i < 0 then -i else i)) h
  | .abs, [v] => callM C.low v .__abs__ [] [] h
  | .int, [.int i] => .ok (.int i) h
  | .int, [.bl b] => .ok (.int (if b then 1 else 0)) h
  | .isinst, [v, .tup ts] => if okB C h v = true ∧ ts.all isCT = true then (match isAny C h v ts with
    | some b => .ok (.bl b) h
    | none => .stuck) else .stuck
  | .isinst, [v, t] => if okB C h v then (match isOne C h v t with
    | some b => .ok (.bl b) h
    | none => .stuck) else .stuck
  | .len, [v] => (match asSeq h v with
    | some xs => .ok (.int xs.length) h
    | none => match v with
        | .str s => if s.length ≤ big then .ok (.int s.length) h else .stuck
        | v => (match asDct h v with
          | some kvs => .ok (.int kvs.length) h
          | none => (callM C.low v .__len__ [] [] h).bind fun r h => match r with
            | .int n => if 0 ≤ n ∧ n < 2 ^ 63 then .ok (.int n) h else .stuck
            | _ => .stuck))
  | .str, [.str s] => .ok (.str s) h
  | .dict, [v] => (match asLst h v with
    | some xs => (match pairP xs with
      | some kv => .ok (.dct [kv]) h
      | none => .stuck)
    | none => .stuck)
  | .str, [.int i] => if i.natAbs.log2 < 1920 then .ok (.str (toString i)) h else .stuck
  | .all, [v] => (match asLst h v with
    | some xs => (match bools xs with
      | some bs => .ok (.bl (bs.all id)) h
      | none => .stuck)
    | none => .stuck)
  | .any, [v] => (match asLst h v with
    | some xs => (match bools xs with
      | some bs => .ok (.bl (bs.any id)) h
      | none => .stuck)
    | none => .stuck)
  | _, _ => .stuck
/-- what o.m is: a def of the class, a method of a list -/
inductive Cal where
  | d (f : Nm) | app
def resM (o : PV) (m : Nm) (h : EH) : Option Cal := match asIns h o with
  | some p => (match look m p.2 with
    | none => (C.P.meth p.1 m).map .d
    | some _ => none)
  | none => (match o with
    | .loc n => (match m with
      | .append => (match hget n h with
        | some (.lst _) => some .app
        | _ => none)
      | _ => none)
    | _ => none)
def doM (k : Cal) (o : PV) (args : List PV) (kw : List (Nm × PV)) (h : EH) : Res PV := match k with
  | .d f => callD C f (o :: args) kw h
  | .app => (match o, args, kw with
    | .loc n, [v], [] => (match hget n h with
      | some (.lst xs) => if xs.length < big then .ok .non (hset n (.lst (xs ++ [v])) h) else .stuck
      | _ => .stuck)
    | _, _, _ => .stuck)
/-! ### iterables -/
def rangeL (lo : Int) (n : Nat) : List PV := (List.range n).map fun k => .int (lo + (k : Nat))
def enumL (k : Nat) : List PV → List PV
  | [] => []
  | x :: r => .tup [.int k, x] :: enumL (k + 1) r
def zipL : List PV → List PV → List PV
  | x :: r, y :: q => .tup [x, y] :: zipL r q
  | _, _ => []
def setT (t : T) (v : PV) (σ : Env) : Option Env := match t with
  | .v i => some (setS i (some v) σ)
  | .t is => (match v with
    | .tup xs => if xs.length = is.length then some ((is.zip xs).foldl (fun σ p => setS p.1 (some p.2) σ) σ) else none
    | _ => none)
/-! ### expressions -/
def andV (C : Cxt) (rest : EH → Res PV) (last : Bool) (v : PV) (h : EH) : Res PV := if last then .ok v h else match v with
  | .bl true => rest h
  | .bl false => .ok (.bl false) h
  | _ => .stuck
def orV (C : Cxt) (rest : EH → Res PV) (last : Bool) (v : PV) (h : EH) : Res PV := if last then .ok v h else match v with
  | .bl false => rest h
  | .bl true => .ok (.bl true) h
  | _ => .stuck
def truR (v : PV) (h : EH) : Res Bool := match truth h v with
  | some b => .ok b h
  | none => .stuck
def bolR (v : PV) (h : EH) : Res Bool := match v with
  | .bl b => .ok b h
  | _ => .stuck
/-- what a loop walks: a list that is never changed, or one that must stand still -/
inductive Src where
  | std | at (n : Nat) (xs : List PV)
def Src.ok : Src → EH → Prop
  | .std, _ => True
  | .at n xs, h => hget n h = some (.lst xs)
open Classical in
noncomputable def lcL (f : PV → EH → Res (Option PV)) (q : Src) : List PV → EH → Res (List PV)
  | [], h => if q.ok h then .ok [] h else .stuck
  | x :: r, h => if q.ok h then (match f x h with
    | .ok v h => (lcL f q r h).bind fun vs h => .ok (match v with | some v => v :: vs | none => vs) h
    | _ => .stuck) else .stuck
def newL (m : Bool) (xs : List PV) (h : EH) : Res PV := if xs.length ≤ big then (if m then .ok (.loc h.length) (.lst xs :: h) else .ok (.lst xs) h) else .stuck
/-- a cut's places -/
def sIxP (n d : Nat) : Option Int → Nat
  | none => d
  | some i => if i < 0 then (i + (n : Int)).toNat else min i.toNat n
def cutP {α : Type} (xs : List α) (lo hi : Option Int) : List α := (xs.drop (sIxP xs.length 0 lo)).take (sIxP xs.length xs.length hi - sIxP xs.length 0 lo)
/-- a[lo:hi] -/
def sliceR (a : PV) (lo hi : Option Int) (h : EH) : Res PV := match a with
  | .str z => if z.length ≤ big then .ok (.str ⟨(cutP z.cps.toList lo hi).toArray⟩) h else .stuck
  | a => (match asLst h a with
    | some xs => .ok (.lst (cutP xs lo hi)) h
    | none => .stuck)
/-- an int is handed on -/
def intK (f : Int → EH → Res PV) (v : PV) (h : EH) : Res PV := match v with
  | .int i => f i h
  | _ => .stuck
/-- list(a) -/
def listR (m : Bool) (a : PV) (h : EH) : Res PV := match a with
  | .tup xs => newL m xs h
  | a => (match asLst h a with
    | some xs => newL m xs h
    | none => .stuck)
/-- tuple(a) -/
def tupR (a : PV) (h : EH) : Res PV := match a with
  | .tup xs => .ok (.tup xs) h
  | a => (match asLst h a with
    | some xs => .ok (.tup xs) h
    | none => .stuck)
def strsP : List PV → Option (List Str)
  | [] => some []
  | .str s :: r => (strsP r).map (s :: ·)
  | _ => none
/-- how many unlike ones -/
def unl : List Str → List Str → Nat
  | _, [] => 0
  | seen, x :: r => (if seen.any (· == x) then 0 else 1) + unl (seen ++ [x]) r
def cnt (xs : List Str) (i : Nat) : Nat := unl [] (xs.take i)
/-- len(set(a)) -/
def lsetR (a : PV) (h : EH) : Res PV := match asLst h a with
  | some xs => (match strsP xs with
    | some ss => if ss.length ≤ 1000 then .ok (.int (cnt ss ss.length : Nat)) h else .stuck
    | none => .stuck)
  | none => .stuck
/-- a[::-1] -/
def revR (a : PV) (h : EH) : Res PV := match asLst h a with
  | some xs => .ok (.lst xs.reverse) h
  | none => .stuck
/-- the order of texts -/
def leS (a b : Str) : Bool := !PySem.Spec.ltCps b.cps.toList a.cps.toList
def srtS (xs : List Str) : List Str := xs.mergeSort leS
/-- sorted(a) -/
def srtR (a : PV) (h : EH) : Res PV := match asLst h a with
  | some xs => (match strsP xs with
    | some ss => if ss.length < 64 then .ok (.lst ((srtS ss).map .str)) h else .stuck
    | none => .stuck)
  | none => .stuck
/-- list + list -/
def catL (m : Bool) (a b : PV) (h : EH) : Res PV := match asLst h a with
  | some xs => (match asLst h b with
    | some ys => newL m (xs ++ ys) h
    | none => .stuck)
  | none => .stuck
mutual
noncomputable def evE (e : E) (σ : Env) (h : EH) : Res PV := match e with
  | .v i => (match slot i σ with
    | some v => .ok v h
    | none => .stuck)
  | .g n => (match C.P.glob n with
    | some v => .ok v h
    | none => .stuck)
  | .ty n => .ok (.ty n) h
  | .i k => .ok (.int k) h
  | .s x => .ok (.str x) h
  | .b x => .ok (.bl x) h
  | .n => .ok .non h
  | .bin o a b => (evE a σ h).bind fun x h => (evE b σ h).bind fun y h => opBin C o x y h
  | .neg a => (evE a σ h).bind fun x h => opNeg C x h
  | .pos a => (evE a σ h).bind fun x h => opPos C x h
  | .cmp o a b => (evE a σ h).bind fun x h => (evE b σ h).bind fun y h => opCmp C o x y h
  | .chn o p a b c => (evE a σ h).bind fun x h => (evE b σ h).bind fun y h => (lnk o x y h).bind fun t h =>
      if t then (evE c σ h).bind fun z h => (lnk p y z h).bind fun t h => .ok (.bl t) h else .ok (.bl false) h
  | .not a => (evT a σ h).bind fun t h => .ok (.bl !t) h
  | .and es => evAnd es σ h
  | .or es => evOr es σ h
  | .ite c a b => (evT c σ h).bind fun t h => if t then evE a σ h else evE b σ h
  | .att a f => (evE a σ h).bind fun x h => getAtt C x f h
  | .sub a i => (evE a σ h).bind fun x h => (evE i σ h).bind fun y h => getIt x y h
  | .slc a lo hi => (evE a σ h).bind fun x h => (match lo with
    | none => (match hi with
      | none => sliceR x none none h
      | some v => (evE v σ h).bind fun z h => intK (fun j h => sliceR x none (some j) h) z h)
    | some u => (evE u σ h).bind fun y h => (match hi with
      | none => intK (fun i h => sliceR x (some i) none h) y h
      | some v => intK (fun i h => (evE v σ h).bind fun z h => intK (fun j h => sliceR x (some i) (some j) h) z h) y h))
  | .tup es => (evEs es σ h).bind fun xs h => if xs.length ≤ big then .ok (.tup xs) h else .stuck
  | .lst m es => (evEs es σ h).bind fun xs h => newL m xs h
  | .dic m ks vs => (match ks with
    | [] => (match vs with
      | [] => if m then .ok (.loc h.length) (.dct [] :: h) else .ok (.dct []) h
      | _ => .stuck)
    | _ => .stuck)
  | .call f es kw => (evEs es σ h).bind fun xs h => (evKs kw σ h).bind fun ks h => callG C f xs ks h
  | .bu f es => (evEs es σ h).bind fun xs h => bCall C f xs h
  | .met a m es kw => (evE a σ h).bind fun o h => (match resM C o m h with
    | some k => (evEs es σ h).bind fun xs h => (evKs kw σ h).bind fun ks h => doM C k o xs ks h
    | none => .stuck)
  | .lc m t it c x => (evI it σ h).bind fun p h =>
      (lcL (fun v h => match setT t v σ with
        | some σ => (match c with
          | none => (evE x σ h).bind fun y h => .ok (some y) h
          | some c => (evT c σ h).bind fun b h => if b then (evE x σ h).bind fun y h => .ok (some y) h else .ok none h)
        | none => .stuck) p.1 p.2 h).bind fun ys h => newL m ys h
  | .tst _ => .stuck
  | .lof m a => (evE a σ h).bind fun x h => listR m x h
  | .tof a => (evE a σ h).bind fun x h => tupR x h
  | .lset a => (evE a σ h).bind fun x h => lsetR x h
  | .rev a => (evE a σ h).bind fun x h => revR x h
  | .srt a => (evE a σ h).bind fun x h => srtR x h
  | .ni => .stuck
  | .binr o a b => (evE a σ h).bind fun x h => (evE b σ h).bind fun y h => opBinR C o x y h
  | .cat m a b => (evE a σ h).bind fun x h => (evE b σ h).bind fun y h => catL m x y h
  | .bad => .stuck
noncomputable def evT (e : E) (σ : Env) (h : EH) : Res Bool := match e with
  | .not a => (evT a σ h).bind fun t h => .ok (!t) h
  | .and es => evAndT es σ h
  | .or es => evOrT es σ h
  | .cmp o a b => (evE a σ h).bind fun x h => (evE b σ h).bind fun y h => (opCmp C o x y h).bind fun r h => bolR r h
  | .chn o p a b c => (evE a σ h).bind fun x h => (evE b σ h).bind fun y h => (lnk o x y h).bind fun t h =>
      if t then (evE c σ h).bind fun z h => lnk p y z h else .ok false h
  | .tst e => (evE e σ h).bind fun v h => truR v h
  | _ => .stuck
noncomputable def evAnd (es : List E) (σ : Env) (h : EH) : Res PV := match es with
  | [] => .stuck
  | e :: r => (evE e σ h).bind fun v h => andV C (fun h => evAnd r σ h) r.isEmpty v h
noncomputable def evOr (es : List E) (σ : Env) (h : EH) : Res PV := match es with
  | [] => .stuck
  | e :: r => (evE e σ h).bind fun v h => orV C (fun h => evOr r σ h) r.isEmpty v h
noncomputable def evAndT (es : List E) (σ : Env) (h : EH) : Res Bool := match es with
  | [] => .ok true h
  | e :: r => (evT e σ h).bind fun t h => if t then evAndT r σ h else .ok false h
noncomputable def evOrT (es : List E) (σ : Env) (h : EH) : Res Bool := match es with
  | [] => .ok false h
  | e :: r => (evT e σ h).bind fun t h => if t then .ok true h else evOrT r σ h
noncomputable def evEs (es : List E) (σ : Env) (h : EH) : Res (List PV) := match es with
  | [] => .ok [] h
  | e :: r => (evE e σ h).bind fun v h => (evEs r σ h).bind fun vs h => .ok (v :: vs) h
noncomputable def evKs (kw : List (Nm × E)) (σ : Env) (h : EH) : Res (List (Nm × PV)) := match kw with
  | [] => .ok [] h
  | (n, e) :: r => (evE e σ h).bind fun v h => (evKs r σ h).bind fun vs h => .ok ((n, v) :: vs) h
noncomputable def evI (it : I) (σ : Env) (h : EH) : Res (Src × List PV) := match it with
  | .seq a => (evE a σ h).bind fun v h => (match v with
    | .tup xs => .ok (.std, xs) h
    | .lst xs => .ok (.std, xs) h
    | .str z => .ok (.std, z.cps.toList.map fun c => .str ⟨#[c]⟩) h
    | .loc n => (match hget n h with
      | some (.lst xs) => .ok (.at n xs, xs) h
      | _ => .stuck)
    | _ => .stuck)
  | .enum a => (evE a σ h).bind fun v h => (match v with
    | .lst xs => .ok (.std, enumL 0 xs) h
    | .loc n => (match hget n h with
      | some (.lst xs) => .ok (.at n xs, enumL 0 xs) h
      | _ => .stuck)
    | _ => .stuck)
  | .zip a b => (evE a σ h).bind fun v h => (evE b σ h).bind fun w h => (match v, w with
    | .tup xs, .tup ys => .ok (.std, zipL xs ys) h
    | .lst xs, .lst ys => .ok (.std, zipL xs ys) h
    | .tup xs, .lst ys => .ok (.std, zipL xs ys) h
    | .tup xs, .loc n => (match hget n h with
      | some (.lst ys) => .ok (.at n ys, zipL xs ys) h
      | _ => .stuck)
    | .lst xs, .loc n => (match hget n h with
      | some (.lst ys) => .ok (.at n ys, zipL xs ys) h
      | _ => .stuck)
    | _, _ => .stuck)
  | .range es => (evEs es σ h).bind fun xs h => (match xs with
    | [.int n] => if n < 2 ^ 62 ∧ -(2 ^ 62) ≤ n then .ok (.std, rangeL 0 n.toNat) h else .stuck
    | [.int k, .int n] => if (k < 2 ^ 62 ∧ -(2 ^ 62) ≤ k) ∧ n < 2 ^ 62 ∧ -(2 ^ 62) ≤ n then .ok (.std, rangeL k (n - k).toNat) h else .stuck
    | _ => .stuck)
end
end
/-! ### statements -/
inductive Fl where
  | nx | rt (v : PV) | br | ct
inductive RS where
  | ok (f : Fl) (σ : Env) (h : EH) | err (x : Exc) (σ : Env) (h : EH) | stuck
def RS.next (r : RS) (f : Env → EH → RS) : RS := match r with
  | .ok .nx σ h => f σ h
  | r => r
/-- an expression's end in a statement -/
def Res.thn {α : Type} (r : Res α) (σ : Env) (f : α → EH → RS) : RS := match r with
  | .ok a h => f a h
  | .err x h => .err x σ h
  | .stuck => .stuck
open Classical in
noncomputable def forL (t : T) (body : Env → EH → RS) (q : Src) : List PV → Env → EH → RS
  | [], σ, h => if q.ok h then .ok .nx σ h else .stuck
  | x :: r, σ, h => if q.ok h then (match setT t x σ with
    | none => .stuck
    | some σ => match body σ h with
      | .ok .nx σ h => forL t body q r σ h
      | .ok .ct σ h => forL t body q r σ h
      | .ok .br σ h => .ok .nx σ h
      | .ok (.rt v) σ h => .ok (.rt v) σ h
      | .err x σ h => .err x σ h
      | .stuck => .stuck) else .stuck
/-- a while's turns; none: more turns are wanted -/
def whN (c : Env → EH → Res Bool) (b : Env → EH → RS) : Nat → Env → EH → Option RS
  | 0, _, _ => none
  | n + 1, σ, h => match c σ h with
    | .ok true h => (match b σ h with
      | .ok .nx σ h => whN c b n σ h
      | .ok .ct σ h => whN c b n σ h
      | .ok .br σ h => some (.ok .nx σ h)
      | .ok (.rt v) σ h => some (.ok (.rt v) σ h)
      | .err x σ h => some (.err x σ h)
      | .stuck => some .stuck)
    | .ok false h => some (.ok .nx σ h)
    | .err x h => some (.err x σ h)
    | .stuck => some .stuck
open Classical in
noncomputable def whR (c : Env → EH → Res Bool) (b : Env → EH → RS) (σ : Env) (h : EH) : RS :=
  if z : ∃ r n, whN c b n σ h = some r then Classical.choose z else .stuck
/-- a def that only returns a text -/
def constR (b : List S) : Option Str := match b with
  | [s] => (match s with
    | .ret e => (match e with
      | .s t => some t
      | _ => none)
    | _ => none)
  | _ => none
section
variable (C : Cxt)
def hxV (x : Exc) (σ : Env) : HX → Option PV
  | .n => some .non
  | .b k => some (.bl k)
  | .i k => some (.int k)
  | .s k => some (.str k)
  | .v i => slot i σ
  | .xf f => (match C.P.cls x.c with
    | some cd => (match cd.ex with
      | some fs => if fs.any (fun g => decide (g = f)) then look f x.fs else none
      | none => none)
    | none => none)
  | .xm m => (match look m x.fs with
    | some _ => none
    | none => (match C.P.cls x.c with
      | some cd => (match look m cd.ms with
        | some f => (match C.P.fn f with
          | some fd => (constR fd.body).map .str
          | none => none)
        | none => none)
      | none => none))
  | .xis c => (match C.P.cls c with
    | some _ => some (.bl (isSup C x.c c))
    | none => none)
def hxL (x : Exc) (σ : Env) : List HX → Option (List PV)
  | [] => some []
  | a :: r => (match hxV C x σ a with
    | some v => (hxL x σ r).map (v :: ·)
    | none => none)
def heV (x : Exc) (σ : Env) : HE → Option PV
  | .x a => hxV C x σ a
  | .tup as => (match hxL C x σ as with
    | some vs => if vs.length ≤ big then some (.tup vs) else none
    | none => none)
/-- a class of the text -/
def isC (c : Nm) : Bool := (C.P.cls c).isSome
def hbV (x : Exc) : HB → Option Bool
  | .is neg c => if isC C c then some (if neg then !isSup C x.c c else isSup C x.c c) else none
  | .isT cs => if cs.all (isC C) then some (cs.any fun c => isSup C x.c c) else none
/-- some of the tests holds -/
def hbsV (x : Exc) : List HB → Option Bool
  | [] => some false
  | b :: r => (match hbV C x b with
    | some true => some true
    | some false => hbsV x r
    | none => none)
def evHs (x : Exc) : List HS → Env → EH → RS
  | [], σ, h => .ok .nx σ h
  | s :: r, σ, h => (match s with
    | .asg i e => (match heV C x σ e with
      | some v => evHs x r (setS i (some v) σ) h
      | none => .stuck)
    | .ret e => (match heV C x σ e with
      | some v => .ok (.rt v) σ h
      | none => .stuck)
    | .ifa bs i e => (match hbsV C x bs with
      | some true => (match heV C x σ e with
        | some v => evHs x r (setS i (some v) σ) h
        | none => .stuck)
      | some false => evHs x r σ h
      | none => .stuck))
/-- the clause's name goes -/
def offS : Option Nat → Env → Env
  | some i, σ => setS i none σ
  | none, σ => σ
def RS.off (n : Option Nat) : RS → RS
  | .ok f σ h => .ok f (offS n σ) h
  | r => r
/-- .. except c as n: hb -/
def tryR (c : Nm) (n : Option Nat) (hb : List HS) (r : RS) : RS := match r with
  | .err x σ h => (match C.P.cls x.c with
    | some cd => (match cd.ex with
      | some _ => if isSup C x.c c then (evHs C x hb (offS n σ) h).off n else .err x σ h
      | none => .stuck)
    | none => .stuck)
  | r => r
/-- the except clauses, one after the other -/
def clsR (x : Exc) (σ : Env) (h : EH) : List (Nm × Option Nat × List HS) → RS
  | [] => .err x σ h
  | q :: r => (match C.P.cls q.1 with
    | some cd => (match cd.ex with
      | some _ => if isSup C x.c q.1 then (evHs C x q.2.2 (offS q.2.1 σ) h).off q.2.1 else clsR x σ h r
      | none => .stuck)
    | none => .stuck)
def trymR (cs : List (Nm × Option Nat × List HS)) (r : RS) : RS := match r with
  | .err x σ h => (match C.P.cls x.c with
    | some cd => (match cd.ex with
      | some _ => clsR C x σ h cs
      | none => .stuck)
    | none => .stuck)
  | r => r
mutual
noncomputable def evS (s : S) (σ : Env) (h : EH) : RS := match s with
  | .ex e => (evE C e σ h).thn σ fun _ h => .ok .nx σ h
  | .asg t e => (evE C e σ h).thn σ fun v h => (match setT t v σ with
    | some σ => .ok .nx σ h
    | none => .stuck)
  | .par is es => (evEs C es σ h).thn σ fun vs h => if vs.length = is.length then .ok .nx ((is.zip vs).foldl (fun σ p => setS p.1 (some p.2) σ) σ) h else .stuck
  | .sat o f e => (evE C e σ h).thn σ fun v h => (evE C o σ h).thn σ fun o h => (setAt C o f v h).thn σ fun _ h => .ok .nx σ h
  | .sit o k e => (evE C e σ h).thn σ fun v h => (evE C o σ h).thn σ fun o h => (evE C k σ h).thn σ fun k h => (setIt o k v h).thn σ fun _ h => .ok .nx σ h
  | .aug i o e => (match slot i σ with
    | some a => (evE C e σ h).thn σ fun b h => (opAug C o a b h).thn σ fun v h => .ok .nx (setS i (some v) σ) h
    | none => .stuck)
  | .ret e => (evE C e σ h).thn σ fun v h => .ok (.rt v) σ h
  | .retn => .ok (.rt .non) σ h
  | .ifs c a b => (evT C c σ h).thn σ fun t h => if t then evSs a σ h else evSs b σ h
  | .whl c b => whR (fun σ h => evT C c σ h) (fun σ h => evSs b σ h) σ h
  | .for_ t it b => (evI C it σ h).thn σ fun p h => forL t (fun σ h => evSs b σ h) p.1 p.2 σ h
  | .rai c es => (match C.P.cls c with
    | some cd => (match cd.ex with
      | some fs => (match fs with
        | [] => (match es with
          | [] => .err ⟨c, []⟩ σ h
          | _ => .stuck)
        | f :: r => (evEs C es σ h).thn σ fun vs h => if (f :: r).length = vs.length then .err ⟨c, (f :: r).zip vs⟩ σ h else .stuck)
      | none => .stuck)
    | none => .stuck)
  | .try_ b c n hb => (match C.P.cls c with
    | some cd => (match cd.ex with
      | some _ => tryR C c n hb (evSs b σ h)
      | none => .stuck)
    | none => .stuck)
  | .trym b cs => trymR C cs (evSs b σ h)
  | .pass => .ok .nx σ h
  | .brk => .ok .br σ h
  | .cnt => .ok .ct σ h
  | .bad => .stuck
noncomputable def evSs (ss : List S) (σ : Env) (h : EH) : RS := match ss with
  | [] => .ok .nx σ h
  | s :: r => (evS s σ h).next fun σ h => evSs r σ h
end
end
/-! ### defs -/
/-- the new objects are let go -/
def suf (b h : EH) : Prop := ∃ g, h = g ++ b
open Classical in
noncomputable def shut (b : EH) (v : PV) (h : EH) : Res PV :=
  let v' : PV := match v with
    | .loc n => if b.length ≤ n then (match hget n h with
      | some (.lst xs) => .lst xs
      | some (.dct kvs) => .dct kvs
      | _ => v) else v
    | v => v
  if suf b h ∧ v'.lowB b.length = true then .ok v' b else (match v with
    | .loc n => if b.length ≤ n then (match hget n h with
      | some (.lst xs) => .ok (.lst xs) (hset n .dead h)
      | _ => .stuck) else .ok v h
    | v => .ok v h)
open Classical in
noncomputable def endF (fd : FDef) (b : EH) (r : RS) : Res PV := match r with
  | .ok .nx _ h => if fd.fz then shut b .non h else .ok .non h
  | .ok (.rt v) _ h => if fd.fz then shut b v h else .ok v h
  | .ok _ _ _ => .stuck
  | .err x _ h => if fd.fz then (if suf b h ∧ lowF b.length x.fs = true then .err x b else .err x h) else .err x h
  | .stuck => .stuck
def start (n : Nat) (args : List PV) : Env := args.map some ++ List.replicate (n - args.length) none
noncomputable def callF (P : Prog) : Nat → Nm → List PV → EH → Res PV
  | 0, _, _, _ => .stuck
  | d + 1, f, args, h => match P.fn f with
    | none => .stuck
    | some fd => if d < 2 then .stuck else if args.length = fd.ps.length then endF fd h (evSs ⟨P, callF P d, callF P (d - 1)⟩ fd.body (start fd.ns args) h) else .stuck
end Py

set_option linter.all false
/-! The evaluator's equations, one a form. -/
namespace Py
section
variable {C : Cxt} {σ : Env} {h : EH}
@[simp] theorem bind_ok {α β : Type} (a : α) (h : EH) (f : α → EH → Res β) : (Res.ok a h).bind f = f a h := rfl
@[simp] theorem bind_err {α β : Type} (x : Exc) (h : EH) (f : α → EH → Res β) : (Res.err x h : Res α).bind f = .err x h := rfl
@[simp] theorem bind_stuck {α β : Type} (f : α → EH → Res β) : (Res.stuck : Res α).bind f = .stuck := rfl
@[simp] theorem thn_ok {α : Type} (a : α) (h : EH) (σ : Env) (f : α → EH → RS) : (Res.ok a h).thn σ f = f a h := rfl
@[simp] theorem thn_err {α : Type} (x : Exc) (h : EH) (σ : Env) (f : α → EH → RS) : (Res.err x h : Res α).thn σ f = .err x σ h := rfl
@[simp] theorem thn_stuck {α : Type} (σ : Env) (f : α → EH → RS) : (Res.stuck : Res α).thn σ f = .stuck := rfl
@[simp] theorem next_nx (σ : Env) (h : EH) (f : Env → EH → RS) : (RS.ok .nx σ h).next f = f σ h := rfl
@[simp] theorem next_rt (v : PV) (σ : Env) (h : EH) (f : Env → EH → RS) : (RS.ok (.rt v) σ h).next f = .ok (.rt v) σ h := rfl
@[simp] theorem next_br (σ : Env) (h : EH) (f : Env → EH → RS) : (RS.ok .br σ h).next f = .ok .br σ h := rfl
@[simp] theorem next_ct (σ : Env) (h : EH) (f : Env → EH → RS) : (RS.ok .ct σ h).next f = .ok .ct σ h := rfl
@[simp] theorem next_err (x : Exc) (σ : Env) (h : EH) (f : Env → EH → RS) : (RS.err x σ h).next f = .err x σ h := rfl
@[simp] theorem next_stuck (f : Env → EH → RS) : RS.stuck.next f = .stuck := rfl
theorem bind_bind {α β γ : Type} (r : Res α) (f : α → EH → Res β) (g : β → EH → Res γ) : (r.bind f).bind g = r.bind fun a h => (f a h).bind g := by cases r <;> rfl
theorem bind_thn {α β : Type} (r : Res α) (f : α → EH → Res β) (σ : Env) (g : β → EH → RS) : (r.bind f).thn σ g = r.thn σ fun a h => (f a h).thn σ g := by cases r <;> rfl
@[simp] theorem slot_0 (x : Option PV) (r : Env) : slot 0 (x :: r) = x := rfl
@[simp] theorem slot_s (n : Nat) (x : Option PV) (r : Env) : slot (n + 1) (x :: r) = slot n r := rfl
@[simp] theorem setS_0 (v x : Option PV) (r : Env) : setS 0 v (x :: r) = v :: r := rfl
@[simp] theorem setS_s (n : Nat) (v x : Option PV) (r : Env) : setS (n + 1) v (x :: r) = x :: setS n v r := rfl
@[simp] theorem look_nil {α : Type} (k : Nm) : look k ([] : List (Nm × α)) = none := rfl
@[simp] theorem look_cons {α : Type} (k a : Nm) (v : α) (r : List (Nm × α)) : look k ((a, v) :: r) = if k = a then some v else look k r := rfl
@[simp] theorem put_nil {α : Type} (k : Nm) (v : α) : put k v [] = [(k, v)] := rfl
@[simp] theorem put_cons {α : Type} (k a : Nm) (v x : α) (r : List (Nm × α)) : put k v ((a, x) :: r) = if a = k then (a, v) :: r else (a, x) :: put k v r := rfl
@[simp] theorem hget_cons (n : Nat) (o : EO) (h : EH) : hget n (o :: h) = if n = h.length then some o else hget n h := rfl
@[simp] theorem hset_cons (n : Nat) (o o' : EO) (h : EH) : hset n o' (o :: h) = if n = h.length then o' :: h else o :: hset n o' h := rfl
@[simp] theorem hset_length (n : Nat) (o : EO) : ∀ h : EH, (hset n o h).length = h.length
  | [] => rfl
  | a :: h => by rw [hset_cons]; split <;> simp [hset_length n o h]
/-! expressions -/
@[simp] theorem evE_v (i) : evE C (.v i) σ h = (match slot i σ with | some v => .ok v h | none => .stuck) := rfl
@[simp] theorem evE_g (n) : evE C (.g n) σ h = (match C.P.glob n with | some v => .ok v h | none => .stuck) := rfl
@[simp] theorem evE_ty (n) : evE C (.ty n) σ h = .ok (.ty n) h := rfl
@[simp] theorem evE_i (k) : evE C (.i k) σ h = .ok (.int k) h := rfl
@[simp] theorem evE_s (k) : evE C (.s k) σ h = .ok (.str k) h := rfl
@[simp] theorem evE_b (k) : evE C (.b k) σ h = .ok (.bl k) h := rfl
@[simp] theorem evE_n : evE C .n σ h = .ok .non h := rfl
@[simp] theorem evE_bin (o a b) : evE C (.bin o a b) σ h = (evE C a σ h).bind fun x h => (evE C b σ h).bind fun y h => opBin C o x y h := rfl
@[simp] theorem evE_neg (a) : evE C (.neg a) σ h = (evE C a σ h).bind fun x h => opNeg C x h := rfl
@[simp] theorem evE_pos (a) : evE C (.pos a) σ h = (evE C a σ h).bind fun x h => opPos C x h := rfl
@[simp] theorem evE_cmp (o a b) : evE C (.cmp o a b) σ h = (evE C a σ h).bind fun x h => (evE C b σ h).bind fun y h => opCmp C o x y h := rfl
@[simp] theorem evE_chn (o p a b c) : evE C (.chn o p a b c) σ h = (evE C a σ h).bind fun x h => (evE C b σ h).bind fun y h => (lnk o x y h).bind fun t h =>
      if t then (evE C c σ h).bind fun z h => (lnk p y z h).bind fun t h => .ok (.bl t) h else .ok (.bl false) h := rfl
@[simp] theorem evE_not (a) : evE C (.not a) σ h = (evT C a σ h).bind fun t h => .ok (.bl !t) h := rfl
@[simp] theorem evE_and (es) : evE C (.and es) σ h = evAnd C es σ h := rfl
@[simp] theorem evE_or (es) : evE C (.or es) σ h = evOr C es σ h := rfl
@[simp] theorem evE_ite (c a b) : evE C (.ite c a b) σ h = (evT C c σ h).bind fun t h => if t then evE C a σ h else evE C b σ h := rfl
@[simp] theorem evE_att (a f) : evE C (.att a f) σ h = (evE C a σ h).bind fun x h => getAtt C x f h := rfl
@[simp] theorem evE_sub (a i) : evE C (.sub a i) σ h = (evE C a σ h).bind fun x h => (evE C i σ h).bind fun y h => getIt x y h := rfl
@[simp] theorem evE_tup (es) : evE C (.tup es) σ h = (evEs C es σ h).bind fun xs h => if xs.length ≤ big then .ok (.tup xs) h else .stuck := rfl
@[simp] theorem evE_lst (m es) : evE C (.lst m es) σ h = (evEs C es σ h).bind fun xs h => newL m xs h := rfl
@[simp] theorem evE_call (f es kw) : evE C (.call f es kw) σ h = (evEs C es σ h).bind fun xs h => (evKs C kw σ h).bind fun ks h => callG C f xs ks h := rfl
@[simp] theorem evE_bu (f es) : evE C (.bu f es) σ h = (evEs C es σ h).bind fun xs h => bCall C f xs h := rfl
@[simp] theorem evE_met (a m es kw) : evE C (.met a m es kw) σ h = (evE C a σ h).bind fun o h => (match resM C o m h with
    | some k => (evEs C es σ h).bind fun xs h => (evKs C kw σ h).bind fun ks h => doM C k o xs ks h
    | none => .stuck) := rfl
@[simp] theorem resM_obj (c fs m) : resM C (.obj c fs) m h = (match look m fs with
    | none => (C.P.meth c m).map .d
    | some _ => none) := rfl
@[simp] theorem doM_d (f o args kw) : doM C (.d f) o args kw h = callD C f (o :: args) kw h := rfl
@[simp] theorem evE_lc0 (m t it x) : evE C (.lc m t it none x) σ h = (evI C it σ h).bind fun p h =>
      (lcL (fun v h => match setT t v σ with
        | some σ => (evE C x σ h).bind fun y h => .ok (some y) h
        | none => .stuck) p.1 p.2 h).bind fun ys h => newL m ys h := rfl
@[simp] theorem evE_lc1 (m t it c x) : evE C (.lc m t it (some c) x) σ h = (evI C it σ h).bind fun p h =>
      (lcL (fun v h => match setT t v σ with
        | some σ => (evT C c σ h).bind fun b h => if b then (evE C x σ h).bind fun y h => .ok (some y) h else .ok none h
        | none => .stuck) p.1 p.2 h).bind fun ys h => newL m ys h := rfl
@[simp] theorem evT_not (a) : evT C (.not a) σ h = (evT C a σ h).bind fun t h => .ok (!t) h := rfl
@[simp] theorem evT_and (es) : evT C (.and es) σ h = evAndT C es σ h := rfl
@[simp] theorem evT_or (es) : evT C (.or es) σ h = evOrT C es σ h := rfl
@[simp] theorem evT_cmp (o a b) : evT C (.cmp o a b) σ h = (evE C a σ h).bind fun x h => (evE C b σ h).bind fun y h => (opCmp C o x y h).bind fun r h => bolR r h := rfl
@[simp] theorem evT_chn (o p a b c) : evT C (.chn o p a b c) σ h = (evE C a σ h).bind fun x h => (evE C b σ h).bind fun y h => (lnk o x y h).bind fun t h =>
      if t then (evE C c σ h).bind fun z h => lnk p y z h else .ok false h := rfl
@[simp] theorem lnk_int (o i j) : lnk o (.int i) (.int j) h = (match intCmp o i j with | some b => .ok b h | none => .stuck) := rfl
@[simp] theorem intCmp_lt (i j) : intCmp .lt i j = some (decide (i < j)) := rfl
@[simp] theorem intCmp_le (i j) : intCmp .le i j = some (decide (i ≤ j)) := rfl
@[simp] theorem intCmp_gt (i j) : intCmp .gt i j = some (decide (j < i)) := rfl
@[simp] theorem intCmp_ge (i j) : intCmp .ge i j = some (decide (j ≤ i)) := rfl
@[simp] theorem evT_tst (a) : evT C (.tst a) σ h = (evE C a σ h).bind fun v h => truR v h := rfl
@[simp] theorem evAnd_one (e) : evAnd C [e] σ h = (evE C e σ h).bind fun v h => .ok v h := rfl
@[simp] theorem evAnd_cons (e f r) : evAnd C (e :: f :: r) σ h = (evE C e σ h).bind fun v h => andV C (fun h => evAnd C (f :: r) σ h) false v h := rfl
@[simp] theorem evOr_one (e) : evOr C [e] σ h = (evE C e σ h).bind fun v h => .ok v h := rfl
@[simp] theorem evOr_cons (e f r) : evOr C (e :: f :: r) σ h = (evE C e σ h).bind fun v h => orV C (fun h => evOr C (f :: r) σ h) false v h := rfl
@[simp] theorem andV_t (C : Cxt) (f : EH → Res PV) (h : EH) : andV C f false (.bl true) h = f h := rfl
@[simp] theorem andV_f (C : Cxt) (f : EH → Res PV) (h : EH) : andV C f false (.bl false) h = .ok (.bl false) h := rfl
@[simp] theorem orV_f (C : Cxt) (f : EH → Res PV) (h : EH) : orV C f false (.bl false) h = f h := rfl
@[simp] theorem orV_t (C : Cxt) (f : EH → Res PV) (h : EH) : orV C f false (.bl true) h = .ok (.bl true) h := rfl
theorem andV_b (C : Cxt) (f : EH → Res PV) (b : Bool) (h : EH) : andV C f false (.bl b) h = if b then f h else .ok (.bl false) h := by cases b <;> rfl
theorem orV_b (C : Cxt) (f : EH → Res PV) (b : Bool) (h : EH) : orV C f false (.bl b) h = if b then .ok (.bl true) h else f h := by cases b <;> rfl
@[simp] theorem evAndT_nil : evAndT C [] σ h = .ok true h := rfl
@[simp] theorem evAndT_cons (e r) : evAndT C (e :: r) σ h = (evT C e σ h).bind fun t h => if t then evAndT C r σ h else .ok false h := rfl
@[simp] theorem evOrT_nil : evOrT C [] σ h = .ok false h := rfl
@[simp] theorem evOrT_cons (e r) : evOrT C (e :: r) σ h = (evT C e σ h).bind fun t h => if t then .ok true h else evOrT C r σ h := rfl
@[simp] theorem evEs_nil : evEs C [] σ h = .ok [] h := rfl
@[simp] theorem evEs_cons (e r) : evEs C (e :: r) σ h = (evE C e σ h).bind fun v h => (evEs C r σ h).bind fun vs h => .ok (v :: vs) h := rfl
@[simp] theorem evKs_nil : evKs C [] σ h = .ok [] h := rfl
@[simp] theorem evKs_cons (n e r) : evKs C ((n, e) :: r) σ h = (evE C e σ h).bind fun v h => (evKs C r σ h).bind fun vs h => .ok ((n, v) :: vs) h := rfl
@[simp] theorem evI_seq (a) : evI C (.seq a) σ h = (evE C a σ h).bind fun v h => (match v with
    | .tup xs => .ok (.std, xs) h
    | .lst xs => .ok (.std, xs) h
    | .str z => .ok (.std, z.cps.toList.map fun c => .str ⟨#[c]⟩) h
    | .loc n => (match hget n h with
      | some (.lst xs) => .ok (.at n xs, xs) h
      | _ => .stuck)
    | _ => .stuck) := rfl
@[simp] theorem evI_enum (a) : evI C (.enum a) σ h = (evE C a σ h).bind fun v h => (match v with
    | .lst xs => .ok (.std, enumL 0 xs) h
    | .loc n => (match hget n h with
      | some (.lst xs) => .ok (.at n xs, enumL 0 xs) h
      | _ => .stuck)
    | _ => .stuck) := rfl
@[simp] theorem evI_zip (a b) : evI C (.zip a b) σ h = (evE C a σ h).bind fun v h => (evE C b σ h).bind fun w h => (match v, w with
    | .tup xs, .tup ys => .ok (.std, zipL xs ys) h
    | .lst xs, .lst ys => .ok (.std, zipL xs ys) h
    | .tup xs, .lst ys => .ok (.std, zipL xs ys) h
    | .tup xs, .loc n => (match hget n h with
      | some (.lst ys) => .ok (.at n ys, zipL xs ys) h
      | _ => .stuck)
    | .lst xs, .loc n => (match hget n h with
      | some (.lst ys) => .ok (.at n ys, zipL xs ys) h
      | _ => .stuck)
    | _, _ => .stuck) := rfl
@[simp] theorem evI_range2 (a b) : evI C (.range [a, b]) σ h = (evE C a σ h).bind fun v h => (evE C b σ h).bind fun w h => (match v, w with
    | .int k, .int n => if (k < 2 ^ 62 ∧ -(2 ^ 62) ≤ k) ∧ n < 2 ^ 62 ∧ -(2 ^ 62) ≤ n then .ok (.std, rangeL k (n - k).toNat) h else .stuck
    | _, _ => .stuck) := by
  show ((evE C a σ h).bind fun v h => ((evE C b σ h).bind fun w h => (Res.ok ([] : List PV) h).bind fun vs h => Res.ok (w :: vs) h).bind fun vs h => Res.ok (v :: vs) h).bind _ = _
  rw [bind_bind]
  congr 1
  funext v h'
  rw [bind_bind, bind_bind]
  congr 1
  funext w h''
  cases v <;> cases w <;> rfl
@[simp] theorem evI_range1 (e) : evI C (.range [e]) σ h = (evE C e σ h).bind fun v h => (match v with | .int n => if n < 2 ^ 62 ∧ -(2 ^ 62) ≤ n then .ok (.std, rangeL 0 n.toNat) h else .stuck | _ => .stuck) := by
  show ((evE C e σ h).bind fun v h => (Res.ok ([] : List PV) h).bind fun vs h => Res.ok (v :: vs) h).bind _ = _
  rw [bind_bind]
  congr 1
  funext v h'
  cases v <;> rfl
@[simp] theorem bolR_bl (b : Bool) (h : EH) : bolR (.bl b) h = .ok b h := rfl
/-! statements -/
@[simp] theorem evSs_nil : evSs C [] σ h = .ok .nx σ h := rfl
@[simp] theorem evSs_cons (s r) : evSs C (s :: r) σ h = (evS C s σ h).next fun σ h => evSs C r σ h := rfl
@[simp] theorem evS_ex (e) : evS C (.ex e) σ h = (evE C e σ h).thn σ fun _ h => .ok .nx σ h := rfl
@[simp] theorem evS_asg (i e) : evS C (.asg (.v i) e) σ h = (evE C e σ h).thn σ fun v h => .ok .nx (setS i (some v) σ) h := rfl
@[simp] theorem evS_asgt (is e) : evS C (.asg (.t is) e) σ h = (evE C e σ h).thn σ fun v h => (match setT (.t is) v σ with | some σ => .ok .nx σ h | none => .stuck) := rfl
@[simp] theorem evS_par (is es) : evS C (.par is es) σ h = (evEs C es σ h).thn σ fun vs h => if vs.length = is.length then .ok .nx ((is.zip vs).foldl (fun σ p => setS p.1 (some p.2) σ) σ) h else .stuck := rfl
@[simp] theorem evS_sat (o f e) : evS C (.sat o f e) σ h = (evE C e σ h).thn σ fun v h => (evE C o σ h).thn σ fun o h => (setAt C o f v h).thn σ fun _ h => .ok .nx σ h := rfl
@[simp] theorem evS_sit (o k e) : evS C (.sit o k e) σ h = (evE C e σ h).thn σ fun v h => (evE C o σ h).thn σ fun o h => (evE C k σ h).thn σ fun k h => (setIt o k v h).thn σ fun _ h => .ok .nx σ h := rfl
@[simp] theorem evS_aug (i o e) : evS C (.aug i o e) σ h = (match slot i σ with
    | some a => (evE C e σ h).thn σ fun b h => (opAug C o a b h).thn σ fun v h => .ok .nx (setS i (some v) σ) h
    | none => .stuck) := rfl
@[simp] theorem evS_ret (e) : evS C (.ret e) σ h = (evE C e σ h).thn σ fun v h => .ok (.rt v) σ h := rfl
@[simp] theorem evS_retn : evS C .retn σ h = .ok (.rt .non) σ h := rfl
@[simp] theorem evS_ifs (c a b) : evS C (.ifs c a b) σ h = (evT C c σ h).thn σ fun t h => if t then evSs C a σ h else evSs C b σ h := rfl
theorem evS_whl (c b) : evS C (.whl c b) σ h = whR (fun σ h => evT C c σ h) (fun σ h => evSs C b σ h) σ h := rfl
/-- a for's turns -/
noncomputable def forS (C : Cxt) (t : T) (b : List S) (q : Src) (xs : List PV) (σ : Env) (h : EH) : RS := forL t (fun σ h => evSs C b σ h) q xs σ h
@[simp] theorem evS_for (t it b) : evS C (.for_ t it b) σ h = (evI C it σ h).thn σ fun p h => forS C t b p.1 p.2 σ h := rfl
@[simp] theorem src_std : Src.ok .std h = True := rfl
@[simp] theorem src_at (n xs) : Src.ok (.at n xs) h = (hget n h = some (.lst xs)) := rfl
open Classical in
@[simp] theorem forS_nil (t b q) : forS C t b q [] σ h = if q.ok h then .ok .nx σ h else .stuck := rfl
/-- behind a turn -/
def RS.turn (r : RS) (f : Env → EH → RS) : RS := match r with
  | .ok .nx σ h => f σ h
  | .ok .ct σ h => f σ h
  | .ok .br σ h => .ok .nx σ h
  | .ok (.rt v) σ h => .ok (.rt v) σ h
  | .err x σ h => .err x σ h
  | .stuck => .stuck
@[simp] theorem turn_nx (σ : Env) (h : EH) (f : Env → EH → RS) : (RS.ok .nx σ h).turn f = f σ h := rfl
@[simp] theorem turn_ct (σ : Env) (h : EH) (f : Env → EH → RS) : (RS.ok .ct σ h).turn f = f σ h := rfl
@[simp] theorem turn_br (σ : Env) (h : EH) (f : Env → EH → RS) : (RS.ok .br σ h).turn f = .ok .nx σ h := rfl
@[simp] theorem turn_rt (v) (σ : Env) (h : EH) (f : Env → EH → RS) : (RS.ok (.rt v) σ h).turn f = .ok (.rt v) σ h := rfl
@[simp] theorem turn_err (x) (σ : Env) (h : EH) (f : Env → EH → RS) : (RS.err x σ h).turn f = .err x σ h := rfl
@[simp] theorem turn_stuck (f : Env → EH → RS) : RS.stuck.turn f = .stuck := rfl
open Classical in
theorem forS_cons (t b q x r) : forS C t b q (x :: r) σ h = if q.ok h then (match setT t x σ with
    | none => .stuck
    | some σ => (evSs C b σ h).turn fun σ h => forS C t b q r σ h) else .stuck := rfl
@[simp] theorem evS_rai (c es) : evS C (.rai c es) σ h = (match C.P.cls c with
    | some cd => (match cd.ex with
      | some fs => (match fs with
        | [] => (match es with
          | [] => .err ⟨c, []⟩ σ h
          | _ => .stuck)
        | f :: r => (evEs C es σ h).thn σ fun vs h => if (f :: r).length = vs.length then .err ⟨c, (f :: r).zip vs⟩ σ h else .stuck)
      | none => .stuck)
    | none => .stuck) := rfl
@[simp] theorem evS_pass : evS C .pass σ h = .ok .nx σ h := rfl
@[simp] theorem evS_brk : evS C .brk σ h = .ok .br σ h := rfl
@[simp] theorem evS_cnt : evS C .cnt σ h = .ok .ct σ h := rfl
@[simp] theorem setT_v (i v) : setT (.v i) v σ = some (setS i (some v) σ) := rfl
@[simp] theorem setT_t (is xs) : setT (.t is) (.tup xs) σ = if xs.length = is.length then some ((is.zip xs).foldl (fun σ p => setS p.1 (some p.2) σ) σ) else none := rfl
@[simp] theorem newL_f (xs) : newL false xs h = if xs.length ≤ big then .ok (.lst xs) h else .stuck := rfl
@[simp] theorem newL_t (xs) : newL true xs h = if xs.length ≤ big then .ok (.loc h.length) (.lst xs :: h) else .stuck := rfl
theorem big_eq : big = 1000000 := rfl
/-! values -/
@[simp] theorem asIns_obj (c fs) : asIns h (.obj c fs) = some (c, fs) := rfl
@[simp] theorem asIns_int (i) : asIns h (.int i) = none := rfl
@[simp] theorem asIns_str (i) : asIns h (.str i) = none := rfl
@[simp] theorem asIns_non : asIns h .non = none := rfl
@[simp] theorem asIns_bl (b) : asIns h (.bl b) = none := rfl
@[simp] theorem asIns_tup (b) : asIns h (.tup b) = none := rfl
@[simp] theorem asIns_lst (b) : asIns h (.lst b) = none := rfl
@[simp] theorem asSeq_tup (xs) : asSeq h (.tup xs) = some xs := rfl
@[simp] theorem asSeq_lst (xs) : asSeq h (.lst xs) = some xs := rfl
@[simp] theorem asLst_lst (xs) : asLst h (.lst xs) = some xs := rfl
@[simp] theorem opBin_int (o i j) : opBin C o (.int i) (.int j) h = (match intBin o i j with | some k => .ok (.int k) h | none => .stuck) := rfl
@[simp] theorem opBin_obj (o c fs b) : opBin C o (.obj c fs) b h = if okB C h b then callM C (.obj c fs) o.dun [b] [] h else .stuck := rfl
@[simp] theorem opBin_int_obj (o i c fs) : opBin C o (.int i) (.obj c fs) h = (match o with | .bor => .stuck | o => callM C (.obj c fs) o.rev [.int i] [] h) := rfl
@[simp] theorem opAug_add (i j) : opAug C .add (.int i) (.int j) h = .ok (.int (i + j)) h := rfl
@[simp] theorem opAug_sub (i j) : opAug C .sub (.int i) (.int j) h = .ok (.int (i - j)) h := rfl
@[simp] theorem opAug_str (x y) : opAug C .add (.str x) (.str y) h = if x.length + y.length ≤ big then .ok (.str (x ++ y)) h else .stuck := rfl
@[simp] theorem opAug_obj (o c fs b) : opAug C o (.obj c fs) b h = if o.ipB then opBin C o (.obj c fs) b h else .stuck := rfl
@[simp] theorem ipB_add : BO.add.ipB = true := rfl
@[simp] theorem evE_lof (m a) : evE C (.lof m a) σ h = (evE C a σ h).bind fun x h => listR m x h := rfl
@[simp] theorem evE_tof (a) : evE C (.tof a) σ h = (evE C a σ h).bind fun x h => tupR x h := rfl
@[simp] theorem evE_lset (a) : evE C (.lset a) σ h = (evE C a σ h).bind fun x h => lsetR x h := rfl
@[simp] theorem evE_rev (a) : evE C (.rev a) σ h = (evE C a σ h).bind fun x h => revR x h := rfl
@[simp] theorem evE_binr (o a b) : evE C (.binr o a b) σ h = (evE C a σ h).bind fun x h => (evE C b σ h).bind fun y h => opBinR C o x y h := rfl
@[simp] theorem evE_srt (a) : evE C (.srt a) σ h = (evE C a σ h).bind fun x h => srtR x h := rfl
@[simp] theorem evE_slc0 (a) : evE C (.slc a none none) σ h = (evE C a σ h).bind fun x h => sliceR x none none h := rfl
@[simp] theorem evE_slcl (a u) : evE C (.slc a (some u) none) σ h = (evE C a σ h).bind fun x h => (evE C u σ h).bind fun y h => intK (fun i h => sliceR x (some i) none h) y h := rfl
@[simp] theorem evE_slch (a v) : evE C (.slc a none (some v)) σ h = (evE C a σ h).bind fun x h => (evE C v σ h).bind fun z h => intK (fun j h => sliceR x none (some j) h) z h := rfl
@[simp] theorem evE_slcb (a u v) : evE C (.slc a (some u) (some v)) σ h = (evE C a σ h).bind fun x h => (evE C u σ h).bind fun y h => intK (fun i h => (evE C v σ h).bind fun z h => intK (fun j h => sliceR x (some i) (some j) h) z h) y h := rfl
@[simp] theorem intK_int (f i) : intK f (.int i) h = f i h := rfl
@[simp] theorem evE_cat (m a b) : evE C (.cat m a b) σ h = (evE C a σ h).bind fun x h => (evE C b σ h).bind fun y h => catL m x y h := rfl
theorem catL_of {m : Bool} {a b : PV} {xs ys : List PV} (e1 : asLst h a = some xs) (e2 : asLst h b = some ys) : catL m a b h = newL m (xs ++ ys) h := by unfold catL; rw [e1, e2]
@[simp] theorem evE_dic0 (m) : evE C (.dic m [] []) σ h = if m then .ok (.loc h.length) (.dct [] :: h) else .ok (.dct []) h := rfl
@[simp] theorem evS_try (b c n hb) : evS C (.try_ b c n hb) σ h = (match C.P.cls c with
    | some cd => (match cd.ex with
      | some _ => tryR C c n hb (evSs C b σ h)
      | none => .stuck)
    | none => .stuck) := rfl
@[simp] theorem evS_trym (b cs) : evS C (.trym b cs) σ h = trymR C cs (evSs C b σ h) := by rw [evS]
@[simp] theorem trymR_ok (cs f) : trymR C cs (.ok f σ h) = .ok f σ h := rfl
theorem trymR_err (cs x) : trymR C cs (.err x σ h) = (match C.P.cls x.c with
    | some cd => (match cd.ex with
      | some _ => clsR C x σ h cs
      | none => .stuck)
    | none => .stuck) := rfl
@[simp] theorem tryR_ok (c n hb f) : tryR C c n hb (.ok f σ h) = .ok f σ h := rfl
theorem tryR_err (c n hb x) : tryR C c n hb (.err x σ h) = (match C.P.cls x.c with
    | some cd => (match cd.ex with
      | some _ => if isSup C x.c c then (evHs C x hb (offS n σ) h).off n else .err x σ h
      | none => .stuck)
    | none => .stuck) := rfl
theorem callF_eq (P : Prog) (k : Nat) (f : Nm) (args : List PV) (h : EH) : callF P (k + 3) f args h = (match P.fn f with
    | none => .stuck
    | some fd => if args.length = fd.ps.length then endF fd h (evSs ⟨P, callF P (k + 2), callF P (k + 1)⟩ fd.body (start fd.ns args) h) else .stuck) := by
  rw [callF]
  cases P.fn f with
  | none => rfl
  | some fd =>
    dsimp only
    rw [if_neg (by omega)]
    rfl
@[simp] theorem okB_int (i) : okB C h (.int i) = true := rfl
@[simp] theorem okB_bl (i) : okB C h (.bl i) = true := rfl
@[simp] theorem okB_str (i) : okB C h (.str i) = true := rfl
@[simp] theorem okB_non : okB C h .non = true := rfl
@[simp] theorem okB_obj (c fs) : okB C h (.obj c fs) = C.P.inst c := rfl
@[simp] theorem okB_tup (xs) : okB C h (.tup xs) = true := rfl
@[simp] theorem okB_lst (xs) : okB C h (.lst xs) = true := rfl
@[simp] theorem okB_dct (xs) : okB C h (.dct xs) = true := rfl
@[simp] theorem opNeg_int (i) : opNeg C (.int i) h = .ok (.int (-i)) h := rfl
@[simp] theorem opNeg_obj (c fs) : opNeg C (.obj c fs) h = callM C (.obj c fs) .__neg__ [] [] h := rfl
@[simp] theorem ib_add (i j) : intBin .add i j = some (i + j) := rfl
@[simp] theorem ib_sub (i j) : intBin .sub i j = some (i - j) := rfl
@[simp] theorem ib_mul (i j) : intBin .mul i j = if i.natAbs.log2 + j.natAbs.log2 < 1000000 then some (i * j) else none := rfl
@[simp] theorem ib_fdiv (i j) : intBin .fdiv i j = if j ≠ 0 ∧ j.natAbs.log2 < 9000 then some (Int.fdiv i j) else none := rfl
@[simp] theorem ib_mod (i j) : intBin .mod i j = if j ≠ 0 then some (Int.fmod i j) else none := rfl
@[simp] theorem ib_pow (i j) : intBin .pow i j = if 0 ≤ j ∧ j ≤ 1000000 ∧ i.natAbs < 2 ^ 64 then some (i ^ j.toNat) else none := rfl
@[simp] theorem opCmp_eq (a b) : opCmp C .eq a b h = eqR C a b h := rfl
@[simp] theorem opCmp_ne (a b) : opCmp C .ne a b h = (match asIns h a with
    | some _ => if okB C h b then notR (callM C.low a .__eq__ [b] [] h) else .stuck
    | none => (match asIns h b with
      | some _ => (match a with
        | .int i => notR (callM C.low b .__eq__ [.int i] [] h)
        | _ => .stuck)
      | none => notR (eqR C a b h))) := rfl
@[simp] theorem opCmp_isn (a) : opCmp C .isn a .non h = .ok (.bl (isNon a)) h := rfl
@[simp] theorem opCmp_isnt (a) : opCmp C .isnt a .non h = .ok (.bl !isNon a) h := rfl
@[simp] theorem opCmp_lt (a b) : opCmp C .lt a b h = ordR C .lt a b h := rfl
@[simp] theorem opCmp_le (a b) : opCmp C .le a b h = ordR C .le a b h := rfl
@[simp] theorem opCmp_gt (a b) : opCmp C .gt a b h = ordR C .gt a b h := rfl
@[simp] theorem opCmp_ge (a b) : opCmp C .ge a b h = ordR C .ge a b h := rfl
@[simp] theorem ordR_lt (i j) : ordR C .lt (.int i) (.int j) h = .ok (.bl (decide (i < j))) h := rfl
@[simp] theorem ordR_le (i j) : ordR C .le (.int i) (.int j) h = .ok (.bl (decide (i ≤ j))) h := rfl
@[simp] theorem ordR_gt (i j) : ordR C .gt (.int i) (.int j) h = .ok (.bl (decide (j < i))) h := rfl
@[simp] theorem ordR_ge (i j) : ordR C .ge (.int i) (.int j) h = .ok (.bl (decide (j ≤ i))) h := rfl
@[simp] theorem ordR_obj (o c fs b) : ordR C o (.obj c fs) b h = if okB C h b then callM C (.obj c fs) o.dun [b] [] h else .stuck := rfl
@[simp] theorem ordR_int_obj (o i c fs) : ordR C o (.int i) (.obj c fs) h = callM C (.obj c fs) o.rev [.int i] [] h := rfl
@[simp] theorem opCmp_in (a b) : opCmp C .inn a b h = inR b a h := rfl
@[simp] theorem opCmp_nin (a b) : opCmp C .nin a b h = notR (inR b a h) := rfl
@[simp] theorem eqR_int (i j) : eqR C (.int i) (.int j) h = .ok (.bl (decide (i = j))) h := rfl
@[simp] theorem eqR_str (i j) : eqR C (.str i) (.str j) h = .ok (.bl (decide (i = j))) h := rfl
@[simp] theorem eqR_bl (i j) : eqR C (.bl i) (.bl j) h = .ok (.bl (decide (i = j))) h := rfl
@[simp] theorem eqR_obj (c fs b) : eqR C (.obj c fs) b h = if okB C h b then callM C (.obj c fs) .__eq__ [b] [] h else .stuck := rfl
@[simp] theorem eqR_int_obj (i c fs) : eqR C (.int i) (.obj c fs) h = callM C (.obj c fs) .__eq__ [.int i] [] h := rfl
@[simp] theorem isNon_non : isNon .non = true := rfl
@[simp] theorem isNon_int (i) : isNon (.int i) = false := rfl
@[simp] theorem isNon_bl (i) : isNon (.bl i) = false := rfl
@[simp] theorem isNon_str (i) : isNon (.str i) = false := rfl
@[simp] theorem isNon_obj (c fs) : isNon (.obj c fs) = false := rfl
@[simp] theorem isNon_lst (xs) : isNon (.lst xs) = false := rfl
@[simp] theorem isNon_tup (xs) : isNon (.tup xs) = false := rfl
@[simp] theorem isNon_dct (xs) : isNon (.dct xs) = false := rfl
@[simp] theorem isNon_loc (n) : isNon (.loc n) = false := rfl
@[simp] theorem asIns_dct (i) : asIns h (.dct i) = none := rfl
@[simp] theorem asIns_scr (i) : asIns h (.scr i) = none := rfl
@[simp] theorem notR_bl (b) : notR (.ok (.bl b) h) = .ok (.bl !b) h := rfl
@[simp] theorem notR_err (x) : notR (.err x h) = .err x h := rfl
theorem getAtt_obj (c fs f) : getAtt C (.obj c fs) f h = if C.P.fld c f then (match look f fs with | some v => .ok v h | none => .stuck) else .stuck := rfl
theorem callM_obj (c fs m args kw) : callM C (.obj c fs) m args kw h = (match look m fs with
    | none => (match C.P.meth c m with
      | some f => callD C f (.obj c fs :: args) kw h
      | none => .stuck)
    | some _ => .stuck) := rfl
@[simp] theorem truR_bl (b) : truR (.bl b) h = .ok b h := rfl
@[simp] theorem truR_non : truR .non h = .ok false h := rfl
@[simp] theorem truR_int (i) : truR (.int i) h = .ok (i != 0) h := rfl
@[simp] theorem truR_lst (xs) : truR (.lst xs) h = .ok (!xs.isEmpty) h := rfl
@[simp] theorem truR_tup (xs) : truR (.tup xs) h = .ok (!xs.isEmpty) h := rfl
/-! calls -/
@[simp] theorem fill_nil (kw ds) : fill kw [] ds = some [] := by cases ds <;> rfl
@[simp] theorem fill_cons (kw p ps d ds) : fill kw (p :: ps) (d :: ds) = (match look p kw with
    | some v => (fill kw ps ds).map (v :: ·)
    | none => match d with
      | some v => (fill kw ps ds).map (v :: ·)
      | none => none) := rfl
end
/-! ### what a program holds -/
class Has (P : Prog) (d : FDef) : Prop where
  eq : P.fn d.n = some d
class HasC (P : Prog) (c : CDef) : Prop where
  eq : P.cls c.n = some c
  no : P.fn c.n = none
theorem fn_of {P : Prog} (d : FDef) [i : Has P d] : P.fn d.n = some d := i.eq
theorem cls_of {P : Prog} (c : CDef) [i : HasC P c] : P.cls c.n = some c := i.eq
theorem inst_of_cls {P : Prog} {c : Nm} {cd : CDef} (h : P.cls c = some cd) : P.inst c = cd.ex.isNone := by unfold Prog.inst; rw [h]
theorem ncls_of {P : Prog} (c : CDef) [i : HasC P c] : P.fn c.n = none := i.no
/-! ### while -/
theorem whN_mono {c : Env → EH → Res Bool} {b : Env → EH → RS} : ∀ {n m σ h r}, whN c b n σ h = some r → n ≤ m → whN c b m σ h = some r := by
  intro n
  induction n with
  | zero => intro m σ h r e _; simp [whN] at e
  | succ n ih =>
    intro m σ h r e hm
    obtain ⟨m, rfl⟩ : ∃ m', m = m' + 1 := ⟨m - 1, by omega⟩
    have hm' : n ≤ m := by omega
    simp only [whN] at e ⊢
    split at e <;> try exact e
    split at e <;> first | exact ih e hm' | exact e
theorem whR_of {c : Env → EH → Res Bool} {b : Env → EH → RS} {n σ h r} (e : whN c b n σ h = some r) : whR c b σ h = r := by
  have z : ∃ r n, whN c b n σ h = some r := ⟨r, n, e⟩
  unfold whR
  rw [dif_pos z]
  obtain ⟨m, q⟩ := Classical.choose_spec z
  have q1 := whN_mono q (Nat.le_max_left m n)
  have q2 := whN_mono e (Nat.le_max_right m n)
  rw [q1] at q2
  exact Option.some.inj q2
theorem whR_turn {c : Env → EH → Res Bool} {b : Env → EH → RS} {σ h} : whR c b σ h = (match c σ h with
    | .ok true h => (match b σ h with
      | .ok .nx σ h => whR c b σ h
      | .ok .ct σ h => whR c b σ h
      | .ok .br σ h => .ok .nx σ h
      | .ok (.rt v) σ h => .ok (.rt v) σ h
      | .err x σ h => .err x σ h
      | .stuck => .stuck)
    | .ok false h => .ok .nx σ h
    | .err x h => .err x σ h
    | .stuck => .stuck) := by
  by_cases z : ∃ r n, whN c b n σ h = some r
  · obtain ⟨r, n, e⟩ := z
    rw [whR_of e]
    cases n with
    | zero => simp [whN] at e
    | succ n =>
      simp only [whN] at e
      split at e
      · rename_i h1 e1
        try rw [e1]
        try dsimp only
        split at e
        · rename_i e2; (try rw [e2]); exact (whR_of e).symm
        · rename_i e2; (try rw [e2]); exact (whR_of e).symm
        · rename_i e2; (try rw [e2]); exact (Option.some.inj e).symm
        · rename_i e2; (try rw [e2]); exact (Option.some.inj e).symm
        · rename_i e2; (try rw [e2]); exact (Option.some.inj e).symm
        · rename_i e2; (try rw [e2]); exact (Option.some.inj e).symm
      · rename_i e1; (try rw [e1]); exact (Option.some.inj e).symm
      · rename_i e1; (try rw [e1]); exact (Option.some.inj e).symm
      · rename_i e1; (try rw [e1]); exact (Option.some.inj e).symm
  · have none_ : ∀ n, whN c b n σ h = none := fun n => by
      cases q : whN c b n σ h with
      | none => rfl
      | some r => exact absurd ⟨r, n, q⟩ z
    have e : whR c b σ h = .stuck := by unfold whR; rw [dif_neg z]
    rw [e]
    have key : ∀ n, whN c b (n + 1) σ h = none := fun n => none_ _
    simp only [whN] at key
    split
    · rename_i h1 e1
      rw [e1] at key
      dsimp only at key
      have go : ∀ {σ' h'}, (∀ n, whN c b n σ' h' = none) → whR c b σ' h' = .stuck := fun {σ' h'} q => by
        unfold whR
        rw [dif_neg]
        rintro ⟨r, n, e⟩
        rw [q n] at e
        cases e
      split <;> rename_i e2 <;> simp only [e2] at key
      · exact (go key).symm
      · exact (go key).symm
      · exact absurd (key 0) (by simp)
      · exact absurd (key 0) (by simp)
      · exact absurd (key 0) (by simp)
      · rfl
    · rename_i e1; rw [e1] at key; exact absurd (key 0) (by simp)
    · rename_i e1; rw [e1] at key; exact absurd (key 0) (by simp)
    · rename_i e1; rfl
theorem whl_turn {C : Cxt} {c : E} {b : List S} {σ : Env} {h : EH} : evS C (.whl c b) σ h = ((evT C c σ h).thn σ fun t h => if t then (evSs C b σ h).turn fun σ h => evS C (.whl c b) σ h else .ok .nx σ h) := by
  rw [evS_whl, whR_turn]
  cases evT C c σ h with
  | ok t h =>
    cases t with
    | true =>
      dsimp only [thn_ok]
      rw [if_pos rfl]
      cases evSs C b σ h with
      | ok f σ h => cases f <;> rfl
      | err x σ h => rfl
      | stuck => rfl
    | false => rfl
  | err x h => rfl
  | stuck => rfl
/-! ### loops and comprehensions over a list -/
theorem lcL_map {f : PV → EH → Res (Option PV)} {h : EH} {α : Type} (i g : α → PV) {q : Src} (hq : q.ok h) : ∀ {l : List α}, (∀ x ∈ l, f (i x) h = .ok (some (g x)) h) → lcL f q (l.map i) h = .ok (l.map g) h
  | [], _ => by simp [lcL, hq]
  | x :: r, w => by
    rw [List.map_cons, lcL, if_pos hq, w x List.mem_cons_self]
    dsimp only
    rw [lcL_map i g hq fun y hy => w y (List.mem_cons_of_mem _ hy)]
    rfl
theorem lcL_filter {f : PV → EH → Res (Option PV)} {h : EH} {α : Type} (i g : α → PV) (p : α → Bool) {q : Src} (hq : q.ok h) : ∀ {l : List α}, (∀ x ∈ l, f (i x) h = .ok (if p x then some (g x) else none) h) → lcL f q (l.map i) h = .ok ((l.filter p).map g) h
  | [], _ => by simp [lcL, hq]
  | x :: r, w => by
    rw [List.map_cons, lcL, if_pos hq, w x List.mem_cons_self]
    dsimp only
    rw [lcL_filter i g p hq fun y hy => w y (List.mem_cons_of_mem _ hy)]
    cases e : p x <;> simp [e]
end Py

set_option linter.all false
set_option Elab.async false
set_option maxRecDepth 100000
set_option maxHeartbeats 3200000
/-! len(set(xs)), xs a list of texts. -/
namespace Py
open PyProof.Rows PySem.Spec PySem
theorem unl_snoc : ∀ (xs seen : List Str) (x : Str), unl seen (xs ++ [x]) = unl seen xs + (if (seen ++ xs).any (· == x) then 0 else 1)
  | [], seen, x => by simp [unl]
  | y :: r, seen, x => by
    have e := unl_snoc r (seen ++ [y]) x
    simp only [unl, List.cons_append, e, List.append_assoc, List.singleton_append, List.nil_append]
    omega
theorem unl_le : ∀ (xs seen : List Str), unl seen xs ≤ xs.length
  | [], _ => Nat.le_refl _
  | x :: r, seen => by
    have := unl_le r (seen ++ [x])
    simp only [unl, List.length_cons]
    split <;> omega
theorem cnt_succ {xs : List Str} {i : Nat} (h : i < xs.length) : cnt xs (i + 1) = if (xs.take i).any (· == xs.getD i Str.empty) then cnt xs i else cnt xs i + 1 := by
  unfold cnt
  have e : xs.take (i + 1) = xs.take i ++ [xs.getD i Str.empty] := by
    rw [List.take_succ_eq_append_getElem h]
    simp [List.getD, h]
  rw [e, unl_snoc, List.nil_append]
  split <;> rfl
section
variable {A : Around} {prog : Program} {w : World} {R : Result → Shared → Prop} {I Z : Addr} {fp wr : List Addr} {n : Nat}
variable {G : Array GenState → Array GenState → Prop} {P : Nat → Value → Prop} {St : Nat → Shared → Prop} {xs : List Str}
/-- the set at Z holds the first i texts -/
abbrev TxtSet (prog : Program) (w : World) (h : Heap) (Z : Addr) (xs : List Str) (i : Nat) : Prop := h.SetOf (PySem.strKind prog w) Z (fun y => (xs.take i).any (· == y)) (cnt xs i)
theorem TxtSet.moved {G' : Array GenState → Array GenState → Prop} {z z' : Shared} {i : Nat} (k : TxtSet prog w z.heap Z xs i) (m : Moved wr G' z z') (hZ : Z ∉ wr) : TxtSet prog w z'.heap Z xs i := by
  obtain ⟨o, entries, rest⟩ := k
  obtain ⟨ep, tab, at_, rest⟩ := rest
  exact ⟨o, entries, ep, tab, m.heap Z _ hZ at_, rest⟩
theorem cnt_le (xs : List Str) (i : Nat) : cnt xs i ≤ xs.length := Nat.le_trans (unl_le _ _) (by rw [List.length_take]; exact Nat.min_le_right _ _)
/-- one text more -/
theorem TxtSet.next {h2 : Heap} {i : Nat} (lt : i < xs.length) (k : h2.SetOf (PySem.strKind prog w) Z (fun y => (xs.take i).any (· == y) || decide (y = xs.getD i Str.empty)) (if (xs.take i).any (· == xs.getD i Str.empty) then cnt xs i else cnt xs i + 1)) : TxtSet prog w h2 Z xs (i + 1) := by
  refine SetOf_congr k (fun y => ?_) (cnt_succ lt).symm
  have at_ : xs.getD i Str.empty = xs[i] := by simp [List.getD, lt]
  rw [at_, List.take_succ_eq_append_getElem lt, List.any_append]
  by_cases q : y = xs[i]
  · subst q; simp
  · have no : (xs[i] == y) = false := beq_eq_false_iff_ne.mpr fun z => q z.symm
    simp [no, q]
/-- the turns over the texts -/
theorem loopN (W : WalksS prog w A.in1 I fp wr G n P St) (hZ : Z ∉ fp) (len : xs.length = n) (small : n ≤ 1000) (val : ∀ i v, P i v → ∃ t, v = .str (xs.getD i Str.empty) t)
    (fin : Shared → Prop) (ends : ∀ z, fin z → R (.ok (.ret .none)) z) :
    ∀ (left i : Nat) (z : Shared), i + left = n → St i z → TxtSet prog w z.heap Z xs i → (∀ z', Moved (Z :: wr) G z z' → TxtSet prog w z'.heap Z xs n → fin z') →
      codeAny (model prog w) A (.builtin "set.update.loop" ⟨[.ref Z, .ref I], []⟩) R z := by
  have out : Z ∉ wr := fun q => hZ (W.sub _ q)
  have more : ∀ b ∈ wr, b ∈ Z :: wr := fun _ q => .tail _ q
  have enter : ∀ {z : Shared}, wpAny (model prog w) A.in1 (Builtin.«set.update.loop» ⟨[.ref Z, .ref I], []⟩) (fun fin s' => match fin with | .done f => R (.ok f) s' | .again c' => c'.quiet = true ∧ codeAny (model prog w) A c' R s') (fun e s' => R (.error e) s') z →
      codeAny (model prog w) A (.builtin "set.update.loop" ⟨[.ref Z, .ref I], []⟩) R z := fun m => codeAny_builtin PyProof.Rows.F.entry_set_update_loop (by rw [Around.under_plainId PyProof.Rows.F.plain_set_update_loop _]; exact m)
  intro left
  induction left with
  | zero =>
    intro i z hi st has k
    obtain rfl : i = n := hi
    exact enter (wpAny_bind (W.done z _ _ st fun z2 m => wpAny_pure (ends z2 (k z2 (m.mono more) (has.moved m out)))))
  | succ left ih =>
    intro i z hi st has k
    refine enter (wpAny_bind (W.item i z _ _ (by omega) st fun v z2 pv st2 m => ?_))
    obtain ⟨t, rfl⟩ := val i v pv
    have few : cnt xs i ≤ 1000 := Nat.le_trans (cnt_le _ _) (by omega)
    refine wpAny_bind (wpAny_holding (wpAny_holding (wpAny_bind ((PySem.strKind prog w).pyHash (k := xs.getD i Str.empty) (strKind_is _ _ _ _) ?_))))
    refine wpAny_setAddHashed_of (knd := PySem.strKind prog w) (s := { z2 with toks := z2.toks + 1 }) (strKind_is _ _ _ _) rfl (show TxtSet prog w z2.heap Z xs i from has.moved m out) (by unfold scanBound; omega) fun h2 but has2 => ?_
    have stay : ∀ {b : Addr} {o : Obj}, b ≠ Z → z2.heap.get? b = some o → h2.get? b = some o := fun ne e => (but.2 _ ne).trans e
    refine wpAny_pure ⟨plainId_quiet PyProof.Rows.F.plain_set_update_loop _, ih (i + 1) _ (by omega) (W.frame _ z2 _ _ st2 (Nat.le_succ _) fun b hb o e => stay (fun q => hZ (q ▸ hb)) e) (TxtSet.next (by omega) has2) fun z3 m3 has3 => k z3 ?_ has3⟩
    exact Moved.trans W.gtrans ((m.mono more).then_heap (Nat.le_succ _) fun b o hb e => stay (fun q => hb (q ▸ .head _)) e) m3
end
section
variable {A : Around} {prog : Program} {w : World} {s : Shared} {E : Value → Shared → Prop}
/-- a new set, nothing in it yet -/
abbrev newSetO (led : Bool) : Obj := { cls := .type "set", dict := none, data := .set #[] 0 (.fresh 0 0 led) }
/-- set(v): a new set, and what its __init__ makes of it -/
theorem set_call {v : Value} {Q : Value → Shared → Prop} (init : ∀ led, wpAny (model prog w) A.in1.in1 (Builtin.«set.__init__» ⟨[.ref s.heap.objs.size, v], []⟩)
      (fun fin z => ∃ h' tk, fin = .done (.ret .none) ∧ z = { s with heap := h', toks := tk } ∧ Q (.ref s.heap.objs.size) { s with heap := h', toks := tk }) E { s with heap := s.heap.push (newSetO led) }) :
    wpAny (model prog w) A (call (.type "set") [v]) Q E s := by
  obtain ⟨base, bases, order⟩ := PySem.F.called_set.mro
  have made := PySem.F.called_set.made
  have self_ := PySem.F.called_set.sub
  have plain := PySem.F.called_set.notType
  have can := PySem.F.called_set.canCreate
  have args := PySem.F.typeCall_set_1 v
  refine wpAny_call (codeAny_of_tree (show wpAny _ _ (callAny (.type "set") _) _ _ _ from wpAny_pure ⟨Code.quiet_builtin _ (by decide +kernel), codeAny_builtin PySem.F.entry_type_call ?_⟩))
  rw [Around.under_plain (weight_type_call_type "set" [v] []) rfl]
  repeat (any_goals (first | wp_step | assumption))
  refine codeAny_mono (code_set_new_1 v (E := E) (Q₁ := fun o z => ∃ led, o = .ref s.heap.objs.size ∧ z = { s with heap := s.heap.push (newSetO led) }) fun led => ⟨led, rfl, rfl⟩) fun r z hr => ?_
  cases r with
  | error e => exact hr
  | ok fl =>
    cases fl
    case ret o =>
      obtain ⟨led, rfl, rfl⟩ := hr
      have ty : Shared.TypeIs { s with heap := s.heap.push (newSetO led) } (.ref s.heap.objs.size) "set" := ⟨_, Heap.get?_push_size _ rfl, rfl⟩
      have find := PySem.F.called_set.init.lookup
      have bound := PySem.F.called_set.init.bind (.ref s.heap.objs.size)
      repeat (any_goals (first | wp_step | assumption))
      refine codeAny_mono (codeAny_call_builtin (R := wants (fun r z => r = .none ∧ ∃ h' tk, z = { s with heap := h', toks := tk } ∧ Q (.ref s.heap.objs.size) z) E) PySem.F.called_set.init.plain PySem.F.entry_set_init
        (check_set_init_1 ty (wpAny_mono (init led) (fun fin z ⟨h', tk, e, ez, q⟩ => by subst e ez; exact ⟨rfl, h', tk, rfl, q⟩) fun _ _ e => e))) fun r' z' hr' => ?_
      cases r' with
      | error e => exact hr'
      | ok fl' =>
        cases fl'
        case ret o' =>
          obtain ⟨rfl, h', tk, rfl, q⟩ := hr'
          repeat (any_goals (first | wp_step | assumption))
        all_goals exact hr'.elim
    all_goals exact hr.elim
theorem set_of_list {l : Addr} {items : Array Value} {xs : List Str} {Q : Value → Shared → Prop} (calm : A.handled = none) (ls : s.heap.IsList l items) (texts : PyProof.Rows.StrsAre items.toList xs) (few : xs.length ≤ 1000)
    (k : ∀ (h' : Heap) (tk : Nat), TxtSet prog w h' s.heap.objs.size xs xs.length → (∀ b o, s.heap.get? b = some o → h'.get? b = some o) → Q (.ref s.heap.objs.size) { s with heap := h', toks := tk }) : wpAny (model prog w) A (call (.type "set") [.ref l]) Q E s := by
  refine set_call fun led => ?_
  have sAt : (s.heap.push (newSetO led)).get? s.heap.objs.size = some (newSetO led) := Heap.get?_push_size _ rfl
  obtain ⟨⟨oc, od, oa, os⟩, lAt, lc, ln, la⟩ := id ls
  dsimp only at lc la
  subst lc la
  have ll : l < s.heap.objs.size := Heap.lt_size lAt
  have lAt2 : (s.heap.push (newSetO led)).get? l = some ⟨.type "list", od, .seq items ln, os⟩ := Heap.get?_push_of_some _ lAt
  have ls2 : (s.heap.push (newSetO led)).IsList l items := ⟨_, lAt2, rfl, ln, rfl⟩
  have sub1 := PySem.F.sub_list_set
  have sub2 := PySem.F.sub_list_frozenset
  have notDict : (Value.type "list" == Value.type "dict") = false := rfl
  have calm2 : A.in1.in1.handled = none := calm
  have len : xs.length = items.size := by rw [← StrsAre.len_eq texts, Array.length_toList]
  delta Builtin.«set.__init__»
  unfold noKeywords Builtin.Frozenset.updateFrom
  generalize hPI : pyIter = PI
  wp_walk
  subst hPI
  have apart : s.heap.objs.size ∉ [(s.heap.push (newSetO led)).objs.size, l] := by
    intro q
    rcases List.mem_cons.mp q with q | q
    · rw [Heap.size_push] at q; exact Nat.ne_of_lt (Nat.lt_succ_self _) q
    · rw [List.mem_singleton] at q; exact Nat.ne_of_gt ll q
  have item : ∀ (i : Nat) (v : Value), items[i]? = some v → ∃ t, v = .str (xs.getD i Str.empty) t := fun i v e => SS.strs_at texts i v (Array.getElem?_toList.trans e)
  have empty : TxtSet prog w ((s.heap.push (newSetO led)).push { cls := .type "list_iterator", data := .fields #[.ref l, .int 0 0] }) s.heap.objs.size xs 0 :=
    SetOf_congr ((setObjOf_fresh (knd := PySem.strKind prog w) led).setOf (Heap.get?_push_of_some _ sAt) (by unfold scanBound; omega)) (fun _ => rfl) rfl
  refine wpAny_pyIter_list ls2 (wpAny_bind (wpAny_runValue ?_))
  refine loopN ((Walks.list (by exact calm) _ l (by rw [Heap.size_push]; exact Nat.ne_of_lt (Nat.lt_succ_of_lt ll)) items).toS) apart len (by omega) item (fin := fun z => TxtSet prog w z.heap s.heap.objs.size xs xs.length ∧ (∀ b o, s.heap.get? b = some o → z.heap.get? b = some o) ∧ z.gens = s.gens ∧ z.drawn = s.drawn ∧ z.os = s.os)
    (fun z kz => ?_) items.size 0 _ (Nat.zero_add _) ⟨⟨_, Heap.get?_push_size _ rfl, rfl, rfl⟩, ls2.push _⟩ empty fun z m has => ⟨len ▸ has, fun b o e => ?_, m.gens, m.drawn, m.os⟩
  · obtain ⟨has, keep, g, d, os'⟩ := kz
    obtain ⟨zh, zg, zd, zt, zo⟩ := z
    subst g d os'
    exact wpAny_pure (wpAny_pure ⟨_, _, rfl, rfl, k _ _ has keep⟩)
  · have lt := Heap.lt_size e
    refine m.heap b o (fun q => ?_) (Heap.get?_push_of_some _ (Heap.get?_push_of_some _ e))
    rcases List.mem_cons.mp q with q | q
    · exact Nat.ne_of_lt lt q
    · rw [List.mem_singleton, Heap.size_push] at q; exact Nat.ne_of_lt (Nat.lt_succ_of_lt lt) q
end
end Py

set_option linter.all false
set_option Elab.async false
set_option maxRecDepth 100000
set_option maxHeartbeats 3300000
namespace Py
open PyProof.Rows PySem.Spec PySem
/-- len(set(a)), a a list of texts -/
def tLenSetN (K : PySem.W.Frag) (ta : L2.TE) : L2.TE := fun σ H Q => ta σ H fun x H1 => ∃ l, ∃ xs : List Str, x = .ref l ∧ L2.SqL K H1 l (xs.map L2.V.str) ∧ xs.length ≤ 1000 ∧ Q (.int (cnt xs xs.length : Nat)) H1
open L2 in
theorem pe_lenSetN {X : L2.Cx} {a : Expr} {ta : L2.TE} {p p2 q pos : Pos} (hc : X.calm = true) (g1 : L2.Gl X "len") (m1 : X.mg "len" = none) (g2 : L2.Gl X "set") (m2 : X.mg "set" = none) (ha : L2.PE X a ta)
    (na : starEach [a] X.env = (false, eval a X.env) :: starEach [] X.env) : L2.PE X (.Call (.Name "len" p) [.Call (.Name "set" p2) [a] [] q] [] pos) (tLenSetN X.K ta) := by
  constructor
  intro pins s σ H Q I wish
  refine Call_ (L2.ld_blt I g1 m1 (show bootBuiltins "len" = some (.builtin "len") by decide +kernel) (callWith_builtin1 (args_cons (Call_ (L2.ld_blt I g2 m2 (show bootBuiltins "set" = some (.type "set") by decide +kernel) ?_)) rfl) rfl rfl))
  refine callWith_type1 (args_cons (L2.thn (ha.run pins s σ H _ I wish) fun v z ⟨x, H1, I1, r1, l, xs, e, row, few, q1⟩ => args_nil ?_) na) na rfl
  subst e
  cases r1
  obtain ⟨items, vals, isL, _⟩ := I1.list row
  refine set_of_list (I1.ok.hd hc) isL.isList (by simpa using L2.strsAre_of vals) few fun h' tk has keep => args_nil ?_
  have some_ := cnt_le xs xs.length
  obtain ⟨o, es, ep, tab, at_, ex, data, _, _, _, fl, num⟩ := has
  have I2 : Inv X pins σ H1 { z with heap := h', toks := tk } := I1.kept keep
  exact call_len_set at_ ex data fl (by rw [num] <;> omega) ⟨.int (cnt xs xs.length : Nat), H1, I2.tok _, ⟨_, by rw [num]⟩, q1⟩
end Py

set_option linter.all false
set_option Elab.async false
/-! The order of texts: what is sorted stands once. -/
namespace Py
open PyProof.Rows PySem.Spec PySem
theorem lt_irr : ∀ a : List Nat, ltCps a a = false
  | [] => rfl
  | x :: r => by simp [ltCps, lt_irr r]
theorem lt_tri : ∀ a b : List Nat, ltCps a b = true ∨ a = b ∨ ltCps b a = true
  | [], [] => .inr (.inl rfl)
  | [], _ :: _ => .inl rfl
  | _ :: _, [] => .inr (.inr rfl)
  | x :: r, y :: t => by
    rcases Nat.lt_trichotomy x y with h | h | h
    · exact .inl (by simp [ltCps, h])
    · subst h
      rcases lt_tri r t with k | k | k
      · exact .inl (by simp [ltCps, k])
      · exact .inr (.inl (by rw [k]))
      · exact .inr (.inr (by simp [ltCps, k]))
    · exact .inr (.inr (by simp [ltCps, h]))
theorem lt_tr : ∀ a b c : List Nat, ltCps a b = true → ltCps b c = true → ltCps a c = true
  | _, [], [], _, h => by cases h
  | [], [], _ :: _, h, _ => by cases h
  | [], _ :: _, [], _, h => by cases h
  | [], _ :: _, (_ :: _), _, _ => rfl
  | _ :: _, [], _, e, _ => nomatch e
  | _ :: _, _ :: _, [], _, h => by cases h
  | x :: r, y :: t, z :: u, h, k => by
    simp only [ltCps, Bool.or_eq_true, Bool.and_eq_true, decide_eq_true_eq, beq_iff_eq] at h k ⊢
    rcases h with h | ⟨h, h2⟩
    · rcases k with k | ⟨k, _⟩
      · exact .inl (by omega)
      · exact .inl (by omega)
    · rcases k with k | ⟨k, k2⟩
      · exact .inl (by omega)
      · exact .inr ⟨by omega, lt_tr r t u h2 k2⟩
theorem lt_as (a b : List Nat) (h : ltCps a b = true) : ltCps b a = false := by
  cases k : ltCps b a with
  | false => rfl
  | true => rw [← lt_irr a, lt_tr a b a h k]
theorem leS_tr (a b c : Str) (h : leS a b = true) (k : leS b c = true) : leS a c = true := by
  unfold leS at *
  rw [Bool.not_eq_true'] at *
  cases e : ltCps c.cps.toList a.cps.toList with
  | false => rfl
  | true =>
    rcases lt_tri b.cps.toList c.cps.toList with z | z | z
    · rw [lt_tr _ _ _ z e] at h; cases h
    · rw [← z, h] at e; cases e
    · rw [z] at k; cases k
theorem leS_tot (a b : Str) : leS a b = true ∨ leS b a = true := by
  unfold leS
  rcases lt_tri a.cps.toList b.cps.toList with z | z | z
  · exact .inl (by rw [lt_as _ _ z]; rfl)
  · exact .inl (by rw [z, lt_irr]; rfl)
  · exact .inr (by rw [lt_as _ _ z]; rfl)
theorem leS_anti (a b : Str) (h : leS a b = true) (k : leS b a = true) : a = b := by
  unfold leS at *
  rw [Bool.not_eq_true'] at *
  rcases lt_tri a.cps.toList b.cps.toList with z | z | z
  · rw [z] at k; cases k
  · obtain ⟨⟨x⟩⟩ := a
    obtain ⟨⟨y⟩⟩ := b
    have z : x = y := z
    rw [z]
  · rw [z] at h; cases h
theorem rising_pw : ∀ (p : Str) (r : List Str), risingS p r = true → (p :: r).Pairwise (fun a b => leS a b = true)
  | p, [], _ => List.pairwise_singleton _ _
  | p, x :: r, h => by
    have h : (leS p x && risingS x r) = true := h
    rw [Bool.and_eq_true] at h
    have ih := rising_pw x r h.2
    refine List.pairwise_cons.mpr ⟨fun y hy => ?_, ih⟩
    rcases (List.mem_cons.mp hy) with e | hy
    · rw [e]; exact h.1
    · exact leS_tr _ _ _ h.1 ((List.pairwise_cons.mp ih).1 y hy)
theorem sorted_pw {r : List Str} (h : sortedS r = true) : r.Pairwise (fun a b => leS a b = true) := by
  cases r with
  | nil => exact .nil
  | cons x r => exact rising_pw x r h
theorem srtS_pw (r : List Str) : (srtS r).Pairwise (fun a b => leS a b = true) := List.pairwise_mergeSort (le := leS) leS_tr (fun a b => by rw [Bool.or_eq_true]; exact leS_tot a b) r
theorem uniqS {a b : List Str} (p : a.Perm b) (h : a.Pairwise (fun a b => leS a b = true)) (k : b.Pairwise (fun a b => leS a b = true)) : a = b :=
  List.Perm.eq_of_pairwise (le := fun a b => leS a b = true) (fun a b _ _ => leS_anti a b) h k p
theorem srtS_uniq {ys xs : List Str} (p : ys.Perm xs) (h : sortedS ys = true) : ys = srtS xs := uniqS (p.trans (List.mergeSort_perm xs leS).symm) (sorted_pw h) (srtS_pw xs)
theorem srtS_perm {xs ys : List Str} (p : xs.Perm ys) : srtS xs = srtS ys := uniqS ((List.mergeSort_perm xs leS).trans (p.trans (List.mergeSort_perm ys leS).symm)) (srtS_pw xs) (srtS_pw ys)
end Py

set_option linter.all false
set_option Elab.async false
set_option maxRecDepth 100000
set_option maxHeartbeats 1000017
/-! How the evaluator's values stand in the hand layer's heap. -/
namespace Py
open L2 PyProof.Rows PySem.Spec PySem
/-- where the names of the text stand -/
structure Tx where
  K : PySem.W.Frag
  ad : Nm → Addr
  st : Nm → Str
/-- F: what is read alone; m: where the evaluator's heap stands -/
structure Gh where
  F : Hp
  m : List Addr
def mget (n : Nat) : List Addr → Option Addr
  | [] => none
  | a :: r => if n = r.length then some a else mget n r
theorem mget_lt : ∀ {m : List Addr} {n : Nat} {a : Addr}, mget n m = some a → n < m.length
  | b :: r, n, a, h => by
    unfold mget at h
    split at h
    · rename_i e; simp [e]
    · have := mget_lt h; simp; omega
theorem mget_of_lt : ∀ {m : List Addr} {n : Nat}, n < m.length → ∃ a, mget n m = some a
  | b :: r, n, h => by
    unfold mget
    by_cases e : n = r.length
    · exact ⟨b, if_pos e⟩
    · obtain ⟨a, q⟩ := mget_of_lt (m := r) (n := n) (by simp at h; omega)
      exact ⟨a, by rw [if_neg e]; exact q⟩
theorem mget_app : ∀ {e m : List Addr} {n : Nat}, n < m.length → mget n (e ++ m) = mget n m
  | [], m, n, h => rfl
  | a :: e, m, n, h => by
    show (if n = (e ++ m).length then some a else mget n (e ++ m)) = _
    rw [if_neg (by simp; omega)]
    exact mget_app h
theorem mget_mem : ∀ {m : List Addr} {n : Nat} {a : Addr}, mget n m = some a → a ∈ m
  | b :: r, n, a, h => by
    unfold mget at h
    split at h
    · cases h; simp
    · exact List.mem_cons_of_mem _ (mget_mem h)
theorem hget_lt : ∀ {h : EH} {n : Nat} {o : EO}, hget n h = some o → n < h.length
  | b :: r, n, o, h => by
    rw [hget_cons] at h
    split at h
    · rename_i e; simp [e]
    · have := hget_lt h; simp; omega
theorem hget_hset : ∀ {h : EH} {n k : Nat} {o : EO}, hget k (hset n o h) = if k = n ∧ n < h.length then some o else hget k h
  | [], n, k, o => by simp [hset, hget]
  | b :: r, n, k, o => by
    rw [hset_cons]
    by_cases e : n = r.length
    · subst e
      rw [if_pos rfl, hget_cons, hget_cons]
      by_cases e2 : k = r.length
      · subst e2; simp
      · simp [e2]
    · rw [if_neg e, hget_cons, hget_cons, hset_length, hget_hset]
      by_cases e2 : k = r.length
      · subst e2
        have : ¬ (r.length = n) := fun z => e z.symm
        simp [this]
      · rw [if_neg e2, if_neg e2]
        by_cases e3 : k = n
        · subst e3
          by_cases e4 : k < r.length
          · simp [e4]; omega
          · simp [e4]; omega
        · simp [e3]
/-- a tuple: laid by the code, or the module's -/
def TpA (K : PySem.W.Frag) (F : Hp) (a : Addr) (xs : List V) : Prop :=
  F a = some (.tup xs) ∨ ∃ (o : Obj) (its : Array Value) (n : Nat), K.lookup a = some o ∧ o.cls = .type "tuple" ∧ o.data = .seq its n ∧ its.size ≤ sizeLine ∧ Vals xs its.toList
theorem TpA.sq {K : PySem.W.Frag} {F : Hp} {a : Addr} {xs : List V} (h : TpA K F a xs) : SqT K F a xs := h.elim (fun h => .inl (.inl h)) .inr
mutual
def RepV (T : Tx) (G : Gh) : PV → V → Prop
  | .non, v => v = .non
  | .bl b, v => v = .bl b
  | .int i, v => v = .int i
  | .str x, v => v = .str x
  | .ty n, v => v = .ty n
  | .tup xs, v => ∃ a ys, v = .ref a ∧ TpA T.K G.F a ys ∧ RepL T G xs ys
  | .lst xs, v => ∃ a ys, v = .ref a ∧ G.F a = some (.lst ys) ∧ RepL T G xs ys
  | .dct kvs, v => ∃ a ys, v = .ref a ∧ G.F a = some (.dK ys) ∧ RepK T G kvs ys
  | .obj c fs, v => ∃ a dx ys, v = .ref a ∧ G.F a = some (.ins (T.ad c) dx ys) ∧ RepF T G fs ys
  | .cls c, v => v = .ref (T.ad c)
  | .fn f, v => v = .ref (T.ad f)
  | .scr ns, v => ∃ a, v = .ref a ∧ SqL T.K G.F a (ns.map V.int)
  | .loc n, v => ∃ a, v = .ref a ∧ mget n G.m = some a
def RepL (T : Tx) (G : Gh) : List PV → List V → Prop
  | [], ys => ys = []
  | x :: r, ys => ∃ y q, ys = y :: q ∧ RepV T G x y ∧ RepL T G r q
def RepK (T : Tx) (G : Gh) : List (L2.Key × PV) → List (L2.Key × V) → Prop
  | [], ys => ys = []
  | (k, x) :: r, ys => ∃ y q, ys = (k, y) :: q ∧ RepV T G x y ∧ RepK T G r q
def RepF (T : Tx) (G : Gh) : List (Nm × PV) → List (Str × V) → Prop
  | [], ys => ys = []
  | (f, x) :: r, ys => ∃ y q, ys = (T.st f, y) :: q ∧ RepV T G x y ∧ RepF T G r q
end
/-- the ghost grows; H: the heap ahead -/
structure Le (G G' : Gh) : Prop where
  at_ : ∀ a u, G.F a = some u → G'.F a = some u
  m : ∃ e, G'.m = e ++ G.m
theorem Le.rd {G G' : Gh} (x : Le G G') (a : Addr) (u : HO) (h : Rd G.F a u) : Rd G'.F a u := h.elim (fun h => .inl (x.at_ _ _ h)) fun ⟨o, h⟩ => .inr ⟨o, x.at_ _ _ h⟩
theorem Le.refl (G : Gh) : Le G G := ⟨fun _ _ h => h, [], rfl⟩
theorem Le.trans {A B C : Gh} (x : Le A B) (y : Le B C) : Le A C := ⟨fun a u h => y.at_ a u (x.at_ a u h), by
  obtain ⟨e, h1⟩ := x.m
  obtain ⟨e', h2⟩ := y.m
  exact ⟨e' ++ e, by rw [h2, h1, List.append_assoc]⟩⟩
theorem Le.mget {G G' : Gh} (x : Le G G') {n : Nat} {a : Addr} (h : mget n G.m = some a) : mget n G'.m = some a := by
  obtain ⟨e, q⟩ := x.m
  rw [q, mget_app (mget_lt h)]
  exact h
theorem SqL.le {K : PySem.W.Frag} {G G' : Gh} (x : Le G G') {a : Addr} {xs : List V} (h : SqL K G.F a xs) : SqL K G'.F a xs := h.elim (fun h => .inl (x.rd _ _ h)) .inr
theorem TpA.le {K : PySem.W.Frag} {G G' : Gh} (x : Le G G') {a : Addr} {xs : List V} (h : TpA K G.F a xs) : TpA K G'.F a xs := h.elim (fun h => .inl (x.at_ _ _ h)) .inr
section
variable {T : Tx} {G G' : Gh}
mutual
theorem RepV.le (q : Le G G') : ∀ {x : PV} {v : V}, RepV T G x v → RepV T G' x v
  | .non, _, h => h
  | .bl _, _, h => h
  | .int _, _, h => h
  | .str _, _, h => h
  | .ty _, _, h => h
  | .tup xs, _, ⟨a, ys, e, s, r⟩ => ⟨a, ys, e, TpA.le q s, RepL.le q r⟩
  | .lst xs, _, ⟨a, ys, e, s, r⟩ => ⟨a, ys, e, q.at_ _ _ s, RepL.le q r⟩
  | .dct kvs, _, ⟨a, ys, e, s, r⟩ => ⟨a, ys, e, q.at_ _ _ s, RepK.le q r⟩
  | .obj c fs, _, ⟨a, dx, ys, e, s, r⟩ => ⟨a, dx, ys, e, q.at_ _ _ s, RepF.le q r⟩
  | .cls _, _, h => h
  | .fn _, _, h => h
  | .scr _, _, ⟨a, e, h⟩ => ⟨a, e, SqL.le q h⟩
  | .loc _, _, ⟨a, e, h⟩ => ⟨a, e, q.mget h⟩
theorem RepL.le (q : Le G G') : ∀ {xs : List PV} {ys : List V}, RepL T G xs ys → RepL T G' xs ys
  | [], _, h => h
  | _ :: _, _, ⟨y, r, e, h, t⟩ => ⟨y, r, e, RepV.le q h, RepL.le q t⟩
theorem RepK.le (q : Le G G') : ∀ {xs : List (L2.Key × PV)} {ys : List (L2.Key × V)}, RepK T G xs ys → RepK T G' xs ys
  | [], _, h => h
  | (_, _) :: _, _, ⟨y, r, e, h, t⟩ => ⟨y, r, e, RepV.le q h, RepK.le q t⟩
theorem RepF.le (q : Le G G') : ∀ {xs : List (Nm × PV)} {ys : List (Str × V)}, RepF T G xs ys → RepF T G' xs ys
  | [], _, h => h
  | (_, _) :: _, _, ⟨y, r, e, h, t⟩ => ⟨y, r, e, RepV.le q h, RepF.le q t⟩
end
mutual
/-- what only names the older places is told by them alone -/
theorem RepV.low {e m : List Addr} {F : Hp} : ∀ {x : PV} {v : V}, x.lowB m.length = true → RepV T ⟨F, e ++ m⟩ x v → RepV T ⟨F, m⟩ x v
  | .non, _, _, h => h
  | .bl _, _, _, h => h
  | .int _, _, _, h => h
  | .str _, _, _, h => h
  | .ty _, _, _, h => h
  | .tup xs, _, l, ⟨a, ys, e, s, r⟩ => ⟨a, ys, e, s, RepL.low l r⟩
  | .lst xs, _, l, ⟨a, ys, e, s, r⟩ => ⟨a, ys, e, s, RepL.low l r⟩
  | .dct kvs, _, l, ⟨a, ys, e, s, r⟩ => ⟨a, ys, e, s, RepK.low l r⟩
  | .obj c fs, _, l, ⟨a, dx, ys, e, s, r⟩ => ⟨a, dx, ys, e, s, RepF.low l r⟩
  | .cls _, _, _, h => h
  | .fn _, _, _, h => h
  | .scr _, _, _, h => h
  | .loc n, _, l, ⟨a, e, h⟩ => ⟨a, e, by
    have l' : n < m.length := of_decide_eq_true l
    have h' : mget n (_ ++ m) = some a := h
    rw [mget_app l'] at h'
    exact h'⟩
theorem RepL.low {e m : List Addr} {F : Hp} : ∀ {x : List PV} {v : List V}, lowL m.length x = true → RepL T ⟨F, e ++ m⟩ x v → RepL T ⟨F, m⟩ x v
  | [], _, _, h => h
  | _ :: _, _, l, ⟨y, r, e, h, t⟩ => by
    obtain ⟨l1, l2⟩ := Bool.and_eq_true_iff.mp l
    exact ⟨y, r, e, RepV.low l1 h, RepL.low l2 t⟩
theorem RepK.low {e m : List Addr} {F : Hp} : ∀ {x : List (L2.Key × PV)} {v : List (L2.Key × V)}, lowK m.length x = true → RepK T ⟨F, e ++ m⟩ x v → RepK T ⟨F, m⟩ x v
  | [], _, _, h => h
  | (_, _) :: _, _, l, ⟨y, r, e, h, t⟩ => by
    obtain ⟨l1, l2⟩ := Bool.and_eq_true_iff.mp l
    exact ⟨y, r, e, RepV.low l1 h, RepK.low l2 t⟩
theorem RepF.low {e m : List Addr} {F : Hp} : ∀ {x : List (Nm × PV)} {v : List (Str × V)}, lowF m.length x = true → RepF T ⟨F, e ++ m⟩ x v → RepF T ⟨F, m⟩ x v
  | [], _, _, h => h
  | (_, _) :: _, _, l, ⟨y, r, e, h, t⟩ => by
    obtain ⟨l1, l2⟩ := Bool.and_eq_true_iff.mp l
    exact ⟨y, r, e, RepV.low l1 h, RepF.low l2 t⟩
end
mutual
theorem RepV.isLow : ∀ {x : PV} {v : V}, RepV T G x v → x.lowB G.m.length = true
  | .non, _, _ => rfl
  | .bl _, _, _ => rfl
  | .int _, _, _ => rfl
  | .str _, _, _ => rfl
  | .ty _, _, _ => rfl
  | .tup xs, _, ⟨a, ys, e, s, r⟩ => RepL.isLow r
  | .lst xs, _, ⟨a, ys, e, s, r⟩ => RepL.isLow r
  | .dct kvs, _, ⟨a, ys, e, s, r⟩ => RepK.isLow r
  | .obj c fs, _, ⟨a, dx, ys, e, s, r⟩ => RepF.isLow r
  | .cls _, _, _ => rfl
  | .fn _, _, _ => rfl
  | .scr _, _, _ => rfl
  | .loc n, _, ⟨a, e, h⟩ => decide_eq_true (mget_lt h)
theorem RepL.isLow : ∀ {x : List PV} {v : List V}, RepL T G x v → lowL G.m.length x = true
  | [], _, _ => rfl
  | _ :: _, _, ⟨y, r, e, h, t⟩ => Bool.and_eq_true_iff.mpr ⟨RepV.isLow h, RepL.isLow t⟩
theorem RepK.isLow : ∀ {x : List (L2.Key × PV)} {v : List (L2.Key × V)}, RepK T G x v → lowK G.m.length x = true
  | [], _, _ => rfl
  | (_, _) :: _, _, ⟨y, r, e, h, t⟩ => Bool.and_eq_true_iff.mpr ⟨RepV.isLow h, RepK.isLow t⟩
theorem RepF.isLow : ∀ {x : List (Nm × PV)} {v : List (Str × V)}, RepF T G x v → lowF G.m.length x = true
  | [], _, _ => rfl
  | (_, _) :: _, _, ⟨y, r, e, h, t⟩ => Bool.and_eq_true_iff.mpr ⟨RepV.isLow h, RepF.isLow t⟩
end
theorem RepL.length : ∀ {xs : List PV} {ys : List V}, RepL T G xs ys → xs.length = ys.length
  | [], _, h => by rw [show _ = [] from h]; rfl
  | _ :: _, _, ⟨y, r, e, h, t⟩ => by rw [e, List.length_cons, List.length_cons, RepL.length t]
theorem RepL.get : ∀ {xs : List PV} {ys : List V} {i : Nat} {x : PV}, RepL T G xs ys → xs[i]? = some x → ∃ y, ys[i]? = some y ∧ RepV T G x y
  | [], _, _, _, _, e => by simp at e
  | x :: r, _, 0, _, ⟨y, q, rfl, h, t⟩, e => by simp at e; subst e; exact ⟨y, rfl, h⟩
  | x :: r, _, i + 1, _, ⟨y, q, rfl, h, t⟩, e => by simpa using RepL.get (i := i) t (by simpa using e)
theorem RepL.set {x : PV} {y : V} (rx : RepV T G x y) : ∀ {xs : List PV} {ys : List V} (i : Nat), RepL T G xs ys → RepL T G (xs.set i x) (ys.set i y)
  | [], _, _, h => by rw [show _ = [] from h]; rfl
  | _ :: r, _, 0, ⟨z, q, rfl, h, t⟩ => ⟨y, q, rfl, rx, t⟩
  | _ :: r, _, i + 1, ⟨z, q, rfl, h, t⟩ => ⟨z, _, rfl, h, RepL.set rx i t⟩
theorem RepL.append : ∀ {xs : List PV} {ys : List V} {us : List PV} {vs : List V}, RepL T G xs ys → RepL T G us vs → RepL T G (xs ++ us) (ys ++ vs)
  | [], _, _, _, h, t => by rw [show _ = [] from h]; exact t
  | _ :: r, _, _, _, ⟨z, q, rfl, h, t⟩, s => ⟨z, _, rfl, h, RepL.append t s⟩
theorem RepL.one {x : PV} {y : V} (rx : RepV T G x y) : RepL T G [x] [y] := ⟨y, [], rfl, rx, rfl⟩
theorem RepL.cons {x : PV} {y : V} {xs : List PV} {ys : List V} (rx : RepV T G x y) (r : RepL T G xs ys) : RepL T G (x :: xs) (y :: ys) := ⟨y, ys, rfl, rx, r⟩
theorem RepL.empty {xs : List PV} {ys : List V} (r : RepL T G xs ys) : xs.isEmpty = ys.isEmpty := by
  cases xs with
  | nil => rw [show ys = [] from r]; rfl
  | cons x r => obtain ⟨y, q, rfl, _⟩ := r; rfl
theorem RepK.length : ∀ {xs : List (L2.Key × PV)} {ys : List (L2.Key × V)}, RepK T G xs ys → xs.length = ys.length
  | [], _, h => by rw [show _ = [] from h]; rfl
  | (_, _) :: _, _, ⟨y, r, e, h, t⟩ => by rw [e, List.length_cons, List.length_cons, RepK.length t]
theorem RepK.empty {xs : List (L2.Key × PV)} {ys : List (L2.Key × V)} (r : RepK T G xs ys) : xs.isEmpty = ys.isEmpty := by
  cases xs with
  | nil => rw [show ys = [] from r]; rfl
  | cons x r => obtain ⟨k, x⟩ := x; obtain ⟨y, q, rfl, _⟩ := r; rfl
theorem RepF.length : ∀ {xs : List (Nm × PV)} {ys : List (Str × V)}, RepF T G xs ys → xs.length = ys.length
  | [], _, h => by rw [show _ = [] from h]; rfl
  | (_, _) :: _, _, ⟨y, r, e, h, t⟩ => by rw [e, List.length_cons, List.length_cons, RepF.length t]
theorem RepF.look (inj : ∀ a b, T.st a = T.st b → a = b) (f : Nm) : ∀ {xs : List (Nm × PV)} {ys : List (Str × V)}, RepF T G xs ys → (match look f xs with
    | some x => ∃ y, ys.lookup (T.st f) = some y ∧ RepV T G x y
    | none => ys.lookup (T.st f) = none)
  | [], _, h => by rw [show _ = [] from h]; rfl
  | (g, x) :: r, _, ⟨y, q, rfl, h, t⟩ => by
    rw [look_cons]
    by_cases e : f = g
    · subst e
      rw [if_pos rfl]
      exact ⟨y, by simp [List.lookup], h⟩
    · rw [if_neg e]
      have e2 : (T.st f == T.st g) = false := by simpa using fun z => e (inj _ _ z)
      have := RepF.look inj f t
      simp only [List.lookup, e2]
      exact this
theorem RepF.put (inj : ∀ a b, T.st a = T.st b → a = b) (f : Nm) {x : PV} {y : V} (rx : RepV T G x y) : ∀ {xs : List (Nm × PV)} {ys : List (Str × V)}, RepF T G xs ys → RepF T G (put f x xs) (putF (T.st f) y ys)
  | [], _, h => by rw [show _ = [] from h]; exact ⟨y, [], rfl, rx, rfl⟩
  | (g, z) :: r, _, ⟨w, q, rfl, h, t⟩ => by
    rw [put_cons, show putF (T.st f) y ((T.st g, w) :: q) = (if T.st g = T.st f then (T.st g, y) :: q else (T.st g, w) :: putF (T.st f) y q) from rfl]
    by_cases e : g = f
    · subst e
      rw [if_pos rfl, if_pos rfl]
      exact ⟨y, q, rfl, rx, t⟩
    · rw [if_neg e, if_neg fun z => e (inj _ _ z)]
      exact ⟨w, _, rfl, h, RepF.put inj f rx t⟩
end
/-- slots -/
def RepS (T : Tx) (G : Gh) : Env → L2.St → Prop
  | [], ys => ys = []
  | x :: r, ys => ∃ y q, ys = y :: q ∧ (∀ v, x = some v → ∃ w, y = some w ∧ RepV T G v w) ∧ RepS T G r q
section
variable {T : Tx} {G G' : Gh}
theorem RepS.le (q : Le G G') : ∀ {xs : Env} {ys : L2.St}, RepS T G xs ys → RepS T G' xs ys
  | [], _, h => h
  | _ :: _, _, ⟨y, r, e, h, t⟩ => ⟨y, r, e, fun v e => let ⟨w, e1, e2⟩ := h v e; ⟨w, e1, e2.le q⟩, RepS.le q t⟩
theorem RepS.get : ∀ {i : Nat} {xs : Env} {ys : L2.St} {x : PV}, RepS T G xs ys → slot i xs = some x → ∃ y, ys[i]? = some (some y) ∧ RepV T G x y
  | i, [], _, _, _, e => by cases i <;> cases e
  | 0, _ :: r, _, x, ⟨y, q, rfl, h, t⟩, e => by
    obtain ⟨w, rfl, r⟩ := h x e
    exact ⟨w, rfl, r⟩
  | i + 1, _ :: r, _, x, ⟨y, q, rfl, h, t⟩, e => by
    obtain ⟨w, e1, e2⟩ := RepS.get (i := i) t e
    exact ⟨w, by simpa using e1, e2⟩
theorem RepS.set {x : PV} {y : V} (rx : RepV T G x y) : ∀ {xs : Env} {ys : L2.St} (i : Nat), RepS T G xs ys → RepS T G (setS i (some x) xs) (ys.set i (some y))
  | [], _, i, h => by rw [show _ = [] from h]; cases i <;> rfl
  | _ :: r, _, 0, ⟨z, q, rfl, h, t⟩ => ⟨some y, q, rfl, fun v e => by cases e; exact ⟨y, rfl, rx⟩, t⟩
  | _ :: r, _, i + 1, ⟨z, q, rfl, h, t⟩ => ⟨z, _, rfl, h, RepS.set rx i t⟩
theorem RepS.length : ∀ {xs : Env} {ys : L2.St}, RepS T G xs ys → xs.length = ys.length
  | [], _, h => by rw [show _ = [] from h]; rfl
  | _ :: _, _, ⟨y, r, e, h, t⟩ => by rw [e, List.length_cons, List.length_cons, RepS.length t]
end
/-- an object of the evaluator's heap at a -/
def RepO (T : Tx) (G : Gh) (a : Addr) (H : Hp) : EO → Prop
  | .lst xs => G.F a = none ∧ ∃ ys, H a = some (.lst ys) ∧ RepL T G xs ys
  | .dct kvs => G.F a = none ∧ ∃ ys, H a = some (.dK ys) ∧ RepK T G kvs ys
  | .ldct kvs => G.F a = none ∧ ∃ ob ys, H a = some (.frz ob (.dK ys)) ∧ RepK T G kvs ys
  | .ins c fs => G.F a = none ∧ ∃ dx ys, H a = some (.ins (T.ad c) dx ys) ∧ RepF T G fs ys
  | .dead => True
structure Rel (T : Tx) (G : Gh) (h : EH) (H : Hp) : Prop where
  ext : ∀ a u, G.F a = some u → H a = some u
  len : G.m.length = h.length
  ob : ∀ n o, hget n h = some o → ∃ a, mget n G.m = some a ∧ RepO T G a H o
  inj : ∀ n k a, mget n G.m = some a → mget k G.m = some a → n = k
  here : ∀ n a, mget n G.m = some a → ∃ u, H a = some u
/-- all that is not among the evaluator's own stays -/
structure Ev (G : Gh) (H : Hp) (G' : Gh) (H' : Hp) : Prop where
  le : Le G G'
  new : ∀ n a, mget n G'.m = some a → mget n G.m = some a ∨ H a = none
  keep : ∀ a u, H a = some u → (∀ n, mget n G.m ≠ some a) → H' a = some u
  stay : ∀ a u, H a = some u → ∃ u', H' a = some u'
  newF : ∀ a u, G'.F a = some u → G.F a = some u ∨ H a = none ∨ ∃ n, mget n G.m = some a
theorem Ev.refl (G : Gh) (H : Hp) : Ev G H G H := ⟨Le.refl G, fun _ _ h => .inl h, fun _ _ h _ => h, fun _ u h => ⟨u, h⟩, fun _ _ h => .inl h⟩
theorem Ev.trans {A B C : Gh} {H H1 H2 : Hp} (x : Ev A H B H1) (y : Ev B H1 C H2) : Ev A H C H2 := by
  have no : ∀ a, H1 a = none → H a = none := fun a z => by
    cases e : H a with
    | none => rfl
    | some u => obtain ⟨u', q⟩ := x.stay a u e; rw [q] at z; cases z
  refine ⟨x.le.trans y.le, fun n a h => ?_, fun a u h q => ?_, fun a u h => ?_, fun a u h => ?_⟩
  · rcases y.new n a h with z | z
    · exact x.new n a z
    · cases e : H a with
      | none => exact .inr rfl
      | some u =>
        obtain ⟨u', q⟩ := x.stay a u e
        rw [q] at z; cases z
  · refine y.keep a u (x.keep a u h q) fun n z => ?_
    rcases x.new n a z with w | w
    · exact q n w
    · rw [w] at h; cases h
  · obtain ⟨u', q⟩ := x.stay a u h
    exact y.stay a u' q
  · rcases y.newF a u h with z | z | ⟨n, z⟩
    · exact x.newF a u z
    · exact .inr (.inl (no a z))
    · rcases x.new n a z with w | w
      · exact .inr (.inr ⟨n, w⟩)
      · exact .inr (.inl w)
/-! ### the steps -/
section
variable {T : Tx} {G : Gh} {h : EH} {H : Hp} {p : Addr} {o : HO}
theorem Rel.fresh (R : Rel T G h H) (n : H p = none) : G.F p = none ∧ ∀ k, mget k G.m ≠ some p := by
  constructor
  · cases e : G.F p with
    | none => rfl
    | some u => rw [R.ext p u e] at n; cases n
  · intro k e
    obtain ⟨u, q⟩ := R.here k p e
    rw [n] at q; cases q
theorem RepO.le {G' : Gh} {a : Addr} {H' : Hp} {o : EO} (q : Le G G') (hF : G.F a = none → G'.F a = none) (hH : H' a = H a) (r : RepO T G a H o) : RepO T G' a H' o := by
  cases o with
  | lst xs => obtain ⟨f, ys, e, r⟩ := r; exact ⟨hF f, ys, hH.trans e, r.le q⟩
  | dct xs => obtain ⟨f, ys, e, r⟩ := r; exact ⟨hF f, ys, hH.trans e, r.le q⟩
  | ldct xs => obtain ⟨f, ob, ys, e, r⟩ := r; exact ⟨hF f, ob, ys, hH.trans e, r.le q⟩
  | ins c fs => obtain ⟨f, dx, ys, e, r⟩ := r; exact ⟨hF f, dx, ys, hH.trans e, r.le q⟩
  | dead => trivial
/-- a new thing that is only read -/
def Gh.put (G : Gh) (p : Addr) (o : HO) : Gh := ⟨upd G.F p o, G.m⟩
theorem Le.put (n : G.F p = none) : Le G (G.put p o) := ⟨fun a u r => by show upd G.F p o a = _; rw [upd_ne (ne_of_none r n)]; exact r, [], rfl⟩
theorem Rel.put (R : Rel T G h H) (n : H p = none) : Rel T (G.put p o) h (upd H p o) := by
  obtain ⟨nF, nm⟩ := R.fresh n
  refine ⟨fun a u e => ?_, R.len, fun k ob e => ?_, R.inj, fun k a e => ?_⟩
  · by_cases ha : a = p
    · subst ha
      have e' : upd G.F a o a = some u := e
      rw [upd_same] at e' ⊢; exact e'
    · have e' : upd G.F p o a = some u := e
      rw [upd_ne ha] at e' ⊢
      exact R.ext a u e'
  · obtain ⟨a, e1, r⟩ := R.ob k ob e
    have ha : a ≠ p := fun z => nm k (z ▸ e1)
    exact ⟨a, e1, r.le (Le.put nF) (fun f => by show upd G.F p o a = none; rw [upd_ne ha]; exact f) (upd_ne ha)⟩
  · obtain ⟨u, q⟩ := R.here k a e
    exact ⟨u, by rw [upd_ne (ne_of_none q n)]; exact q⟩
theorem Ev.put (R : Rel T G h H) (n : H p = none) : Ev G H (G.put p o) (upd H p o) :=
  ⟨Le.put (R.fresh n).1, fun _ _ e => .inl e, fun a u e _ => by rw [upd_ne (ne_of_none e n)]; exact e, fun a u e => ⟨u, by rw [upd_ne (ne_of_none e n)]; exact e⟩, fun a u e => by
    by_cases ha : a = p
    · exact .inr (.inl (ha ▸ n))
    · exact .inl (by rw [← e]; exact (upd_ne ha).symm)⟩
/-- a new thing that may be changed -/
def Gh.push (G : Gh) (p : Addr) : Gh := ⟨G.F, p :: G.m⟩
theorem Le.push : Le G (G.push p) := ⟨fun _ _ r => r, [p], rfl⟩
theorem mget_push {n : Nat} {m : List Addr} {a : Addr} (e : mget n (p :: m) = some a) : (n = m.length ∧ a = p) ∨ mget n m = some a := by
  unfold mget at e
  split at e
  · rename_i z; cases e; exact .inl ⟨z, rfl⟩
  · exact .inr e
theorem Rel.push (R : Rel T G h H) {H' : Hp} {eo : EO} (n : H p = none) (k : ∀ a u, H a = some u → H' a = some u) (hp : ∃ u, H' p = some u) (r : RepO T (G.push p) p H' eo) : Rel T (G.push p) (eo :: h) H' := by
  obtain ⟨nF, nm⟩ := R.fresh n
  refine ⟨fun a u e => k a u (R.ext a u e), by show (p :: G.m).length = _; simp [R.len], fun i ob e => ?_, fun i j a e1 e2 => ?_, fun i a e => ?_⟩
  · rw [hget_cons] at e
    split at e
    · rename_i z
      cases e
      exact ⟨p, by show mget i (p :: G.m) = _; unfold mget; rw [if_pos (by rw [z, R.len])], r⟩
    · rename_i z
      obtain ⟨a, e1, q⟩ := R.ob i ob e
      obtain ⟨u, w⟩ := R.here i a e1
      exact ⟨a, Le.push.mget e1, q.le Le.push (fun f => f) ((k a u w).trans w.symm)⟩
  · rcases mget_push (m := G.m) e1 with ⟨z1, w1⟩ | e3
    · rcases mget_push (m := G.m) e2 with ⟨z2, w2⟩ | e4
      · rw [z1, z2]
      · rw [w1] at e4; exact absurd e4 (nm j)
    · rcases mget_push (m := G.m) e2 with ⟨z2, w2⟩ | e4
      · rw [w2] at e3; exact absurd e3 (nm i)
      · exact R.inj i j a e3 e4
  · rcases mget_push e with ⟨_, rfl⟩ | e
    · exact hp
    · obtain ⟨u, w⟩ := R.here i a e
      exact ⟨u, k a u w⟩
theorem Ev.push {H' : Hp} (n : H p = none) (k : ∀ a u, H a = some u → H' a = some u) : Ev G H (G.push p) H' :=
  ⟨Le.push, fun i a e => (mget_push e).elim (fun ⟨_, z⟩ => .inr (z ▸ n)) .inl, fun a u e _ => k a u e, fun a u e => ⟨u, k a u e⟩, fun _ _ e => .inl e⟩
/-- a thing that is changed -/
theorem Rel.set {n : Nat} {a : Addr} {o' : EO} {u' : HO} (R : Rel T G h H) (e : mget n G.m = some a) (f : G.F a = none) (r : RepO T G a (upd H a u') o') : Rel T G (hset n o' h) (upd H a u') := by
  have ln : n < h.length := by rw [← R.len]; exact mget_lt e
  refine ⟨fun b u q => ?_, by rw [R.len, hset_length], fun i ob q => ?_, R.inj, fun i b q => ?_⟩
  · have hb : b ≠ a := fun z => by rw [z, f] at q; cases q
    rw [upd_ne hb]
    exact R.ext b u q
  · rw [hget_hset] at q
    split at q
    · rename_i z
      cases q
      rw [z.1]
      exact ⟨a, e, r⟩
    · rename_i z
      obtain ⟨b, e1, w⟩ := R.ob i ob q
      have hb : b ≠ a := fun y => z ⟨R.inj i n a (y ▸ e1) e, ln⟩
      exact ⟨b, e1, w.le (Le.refl G) (fun x => x) (upd_ne hb)⟩
  · by_cases hb : b = a
    · subst hb; exact ⟨u', upd_same⟩
    · obtain ⟨u, w⟩ := R.here i b q
      exact ⟨u, by rw [upd_ne hb]; exact w⟩
theorem Ev.set {n : Nat} {a : Addr} {u' : HO} (e : mget n G.m = some a) : Ev G H G (upd H a u') :=
  ⟨Le.refl G, fun _ _ q => .inl q, fun b u q w => by rw [upd_ne (by rintro rfl; exact w n e)]; exact q, fun b u q => by
    by_cases hb : b = a
    · subst hb; exact ⟨u', upd_same⟩
    · exact ⟨u, by rw [upd_ne hb]; exact q⟩, fun _ _ q => .inl q⟩
/-- a thing that will not be changed any more -/
theorem Rel.freeze {n : Nat} {a : Addr} {u : HO} (R : Rel T G h H) (e : mget n G.m = some a) (f : G.F a = none) (q : H a = some u) : Rel T (G.put a u) (hset n .dead h) H := by
  have ln : n < h.length := by rw [← R.len]; exact mget_lt e
  refine ⟨fun b v w => ?_, by show G.m.length = _; rw [R.len, hset_length], fun i ob w => ?_, R.inj, R.here⟩
  · have w' : upd G.F a u b = some v := w
    by_cases hb : b = a
    · subst hb; rw [upd_same] at w'; exact q.trans w'
    · rw [upd_ne hb] at w'; exact R.ext b v w'
  · rw [hget_hset] at w
    split at w
    · rename_i z; cases w; rw [z.1]; exact ⟨a, e, trivial⟩
    · rename_i z
      obtain ⟨b, e1, r⟩ := R.ob i ob w
      have hb : b ≠ a := fun y => z ⟨R.inj i n a (y ▸ e1) e, ln⟩
      exact ⟨b, e1, r.le (Le.put f) (fun x => by show upd G.F a u b = none; rw [upd_ne hb]; exact x) rfl⟩
theorem Ev.freeze {a : Addr} {u : HO} {n : Nat} (f : G.F a = none) (e : mget n G.m = some a) : Ev G H (G.put a u) H := ⟨Le.put f, fun _ _ e => .inl e, fun _ _ e _ => e, fun _ u e => ⟨u, e⟩, fun b v q => by
  by_cases hb : b = a
  · exact .inr (.inr ⟨n, hb ▸ e⟩)
  · exact .inl (by rw [← q]; exact (upd_ne hb).symm)⟩
theorem Ev.keepF {G1 : Gh} {H1 : Hp} {a : Addr} {u : HO} (x : Ev G H G1 H1) (f : G1.F a = none) (n : H a = none) : Ev G H (G1.put a u) H1 := ⟨x.le.trans (Le.put f), x.new, x.keep, x.stay, fun b v q => by
  by_cases hb : b = a
  · exact .inr (.inl (hb ▸ n))
  · exact x.newF b v (by rw [← q]; exact (upd_ne hb).symm)⟩
/-- a thing that the evaluator does not know -/
theorem Rel.aside {a : Addr} {u : HO} (R : Rel T G h H) (f : G.F a = none) (n : ∀ k, mget k G.m ≠ some a) : Rel T G h (upd H a u) := by
  have ne : ∀ {k b}, mget k G.m = some b → b ≠ a := fun q z => n _ (z ▸ q)
  refine ⟨fun b v q => ?_, R.len, fun k ob q => ?_, R.inj, fun k b q => ?_⟩
  · rw [upd_ne (fun z => by rw [z, f] at q; cases q)]
    exact R.ext b v q
  · obtain ⟨b, e1, r⟩ := R.ob k ob q
    exact ⟨b, e1, r.le (Le.refl G) (fun x => x) (upd_ne (ne e1))⟩
  · obtain ⟨v, w⟩ := R.here k b q
    exact ⟨v, by rw [upd_ne (ne q)]; exact w⟩
theorem Ev.aside {G1 : Gh} {H1 : Hp} {a : Addr} {u : HO} (x : Ev G H G1 H1) (n : H a = none) : Ev G H G1 (upd H1 a u) := ⟨x.le, x.new, fun b v q w => by rw [upd_ne (ne_of_none q n)]; exact x.keep b v q w, fun b v q => by
  obtain ⟨v', w⟩ := x.stay b v q
  exact ⟨v', by rw [upd_ne (ne_of_none q n)]; exact w⟩, x.newF⟩
/-- it stays unknown -/
theorem Ev.unk {G1 : Gh} {H1 : Hp} {a : Addr} {u : HO} (x : Ev G H G1 H1) (q : H a = some u) (f : G.F a = none) (n : ∀ k, mget k G.m ≠ some a) : H1 a = some u ∧ G1.F a = none ∧ ∀ k, mget k G1.m ≠ some a := by
  refine ⟨x.keep a u q n, ?_, fun k e => ?_⟩
  · cases e : G1.F a with
    | none => rfl
    | some v =>
      rcases x.newF a v e with z | z | ⟨k, z⟩
      · rw [f] at z; cases z
      · rw [q] at z; cases z
      · exact absurd z (n k)
  · rcases x.new k a e with z | z
    · exact n k z
    · rw [q] at z; cases z
end
end Py

set_option linter.all false
set_option Elab.async false
set_option maxRecDepth 100000
set_option maxHeartbeats 1000017
/-! What the slot of an operator is told, of an own class on the right. -/
namespace Py
open PySem PySem.Spec PyProof.Rows PySem.W
/-- a class's slot of an operator: filled or not; filled by a def -/
def Slot2 (K : Frag) (D : Addr) (nm : String) : Prop := ∀ (M : Model) (h : Heap), K.In h → ∃ right, Looks M h (fillsNumberSlot (.ref D) nm) right ∧ (right = true → Looks M h (numberSlotInPython (.ref D) nm) true)
section
variable {K : Frag} {D g : Addr} {nm : String} {ce : ClassData} {more : List Value}
theorem fills_rev {M : Model} {h : Heap} (X : K.In h) (hc : clsIn K D = some ce) (hm : ce.mro = .ref D :: more) (f0 : findIn K (.ref D) (PySem.dunder nm) = some none) (r0 : findIn K (.ref D) (dunderR nm) = some (some (.ref g))) :
    Looks M h (fillsNumberSlot (.ref D) nm) true := by
  intro A Q E s k q
  have L1 : Looks M h (typeLookup (.ref D) (PySem.dunder nm)) none := looks_findIn X f0
  have L2 : Looks M h (typeLookup (.ref D) (dunderR nm)) (some (.ref g)) := looks_findIn X r0
  have LM : Looks M h (mroOf (.ref D)) ce.mro := (looks_clsIn X hc).andThen (f := fun cd => pure cd.mro) .now
  unfold fillsNumberSlot
  refine wpAny_bind (LM A _ E s k ?_)
  rw [hm]
  simp only [List.anyM_cons]
  refine wpAny_bind (wpAny_bind (wpAny_bind (L1 A _ E s k ?_)))
  refine wpAny_pure ?_
  rw [if_neg (show ¬ (false = true) from Bool.false_ne_true)]
  refine wpAny_bind (wpAny_bind (L2 A _ E s k ?_))
  dsimp only
  rw [if_pos (show (!ownNameWrapper (Value.ref g) (dunderR nm)) = true from rfl)]
  refine wpAny_pure ?_
  rw [if_pos rfl]
  refine wpAny_pure ?_
  rw [if_pos rfl]
  exact wpAny_pure q
theorem inPy_rev {M : Model} {h : Heap} (X : K.In h) (f0 : findIn K (.ref D) (PySem.dunder nm) = some none) (r0 : findIn K (.ref D) (dunderR nm) = some (some (.ref g))) : Looks M h (numberSlotInPython (.ref D) nm) true := by
  intro A Q E s k q
  have L1 : Looks M h (typeLookup (.ref D) (PySem.dunder nm)) none := looks_findIn X f0
  have L2 : Looks M h (typeLookup (.ref D) (dunderR nm)) (some (.ref g)) := looks_findIn X r0
  unfold numberSlotInPython
  refine wpAny_bind (L1 A _ E s k ?_)
  refine wpAny_bind <| wpAny_pure ?_
  refine wpAny_bind (L2 A _ E s k ?_)
  refine wpAny_bind <| wpAny_pure ?_
  rw [if_pos (show (false || true) = true from rfl)]
  exact wpAny_pure q
theorem no_any {α : Type} {M : Model} {h : Heap} {t : α → Sem Bool} : ∀ {l : List α}, (∀ v ∈ l, Looks M h (t v) false) → Looks M h (l.anyM t) false
  | [], _ => .now
  | v :: l, w => by
    rw [List.anyM_cons]
    exact Looks.andThen (a := false) (w v List.mem_cons_self) (no_any fun u hu => w u (List.mem_cons_of_mem _ hu))
/-- no class of the row has it -/
theorem fills_no {M : Model} {h : Heap} (X : K.In h) (hc : clsIn K D = some ce) (hn : ∀ v ∈ ce.mro, findIn K v (PySem.dunder nm) = some none ∧ findIn K v (dunderR nm) = some none) : Looks M h (fillsNumberSlot (.ref D) nm) false := by
  have LM : Looks M h (mroOf (.ref D)) ce.mro := (looks_clsIn X hc).andThen (f := fun cd => pure cd.mro) .now
  unfold fillsNumberSlot
  refine Looks.andThen (a := ce.mro) LM (no_any fun v hv => ?_)
  obtain ⟨e1, e2⟩ := hn v hv
  have L1 : Looks M h (typeLookup v (PySem.dunder nm)) none := looks_findIn X e1
  have L2 : Looks M h (typeLookup v (dunderR nm)) none := looks_findIn X e2
  cases v with
  | type n => exact L1.andThen (L2.andThen .now)
  | _ =>
    refine no_any fun name qm => ?_
    rcases List.mem_cons.mp qm with rfl | qm
    · exact L1.andThen .now
    · obtain rfl := List.mem_singleton.mp qm
      exact L2.andThen .now
end
/-- reckoned: what Slot2 wants -/
def slot2B (K : Frag) (D : Addr) (nm : String) : Bool := match clsIn K D with
  | some ce => selfFirst K D && (match findIn K (.ref D) (PySem.dunder nm), findIn K (.ref D) (dunderR nm) with
    | some (some (.ref _)), some none => true
    | some (some (.ref _)), some (some (.ref _)) => true
    | some none, some (some (.ref _)) => true
    | some none, some none => ce.mro.all fun v => decide (findIn K v (PySem.dunder nm) = some none) && decide (findIn K v (dunderR nm) = some none)
    | _, _ => false)
  | none => false
theorem slot2_ok {K : Frag} {D : Addr} {nm : String} (h : slot2B K D nm = true) : Slot2 K D nm := by
  unfold slot2B at h
  split at h
  · rename_i ce hc
    rw [Bool.and_eq_true] at h
    obtain ⟨h1, h2⟩ := h
    obtain ⟨cd, more, c1, c2⟩ := ksp_first h1
    rw [hc] at c1
    cases c1
    intro M hp X
    split at h2
    · rename_i f e1 e2
      exact ⟨true, fills_K X hc c2 e1, fun _ => ksp_inPy X e1 e2 (.inl rfl)⟩
    · rename_i f g e1 e2
      exact ⟨true, fills_K X hc c2 e1, fun _ => ksp_inPy X e1 e2 (.inr ⟨_, rfl⟩)⟩
    · rename_i g e1 e2
      exact ⟨true, fills_rev X hc c2 e1 e2, fun _ => inPy_rev X e1 e2⟩
    · refine ⟨false, fills_no X hc fun v hv => ?_, fun e => by cases e⟩
      have q := List.all_eq_true.mp h2 v hv
      rw [Bool.and_eq_true] at q
      exact ⟨of_decide_eq_true q.1, of_decide_eq_true q.2⟩
    · cases h2
  · cases h
end Py

set_option linter.all false
set_option Elab.async false
set_option maxRecDepth 100000
set_option maxHeartbeats 1000017
/-! What is asked of the text, and the soundness of the evaluator's operations. -/
namespace Py
open L2 PyProof.Rows PySem.Spec PySem
/-- a field, if there is one -/
def FldAt (T : Tx) (G : Gh) (o : Option PV) (q : Option V) : Prop := match o with
  | some v => ∃ y, q = some y ∧ RepV T G v y
  | none => q = none
def ExcAt (T : Tx) (G : Gh) (x : Exc) (d : Option Addr) : Prop :=
  (x.fs = [] ∧ d = none) ∨ ∃ dd ys, d = some dd ∧ G.F dd = some (.xd ys) ∧ ∀ f, FldAt T G (look f x.fs) (ys.lookup (T.st f))
theorem ExcAt.le {T : Tx} {G G' : Gh} {x : Exc} {d : Option Addr} (l : Le G G') (e : ExcAt T G x d) : ExcAt T G' x d := by
  rcases e with e | ⟨dd, ys, e1, e2, e3⟩
  · exact .inl e
  · refine .inr ⟨dd, ys, e1, l.at_ _ _ e2, fun f => ?_⟩
    have := e3 f
    revert this
    cases look f x.fs with
    | none => exact fun h => h
    | some v => exact fun ⟨y, h1, h2⟩ => ⟨y, h1, h2.le l⟩
def BO.op : BO → Operator
  | .add => Operator.Add | .sub => .Sub | .mul => .Mult | .fdiv => .FloorDiv | .mod => .Mod | .pow => .Pow | .bor => .BitOr
/-- what is wanted of an evaluation -/
def OkR {α : Type} (T : Tx) (σ : L2.St) (W : L2.WX) (G : Gh) (H : Hp) (r : Res α) (K : α → EH → Gh → Hp → Prop) : Prop := match r with
  | .ok a h' => ∀ G' H', Ev G H G' H' → Rel T G' h' H' → K a h' G' H'
  | .err x h' => ∀ G' d H', Ev G H G' H' → Rel T G' h' H' → ExcAt T G' x d → W (.ref (T.ad x.c)) d σ H'
  | .stuck => False
abbrev KV (T : Tx) (Q : VK) : PV → EH → Gh → Hp → Prop := fun v _ G' H' => ∀ y, RepV T G' v y → Q y H'
section
variable {T : Tx} {σ : L2.St} {W : L2.WX} {G G' : Gh} {H H' : Hp} {α β : Type}
theorem OkR.ev {r : Res α} {K : α → EH → Gh → Hp → Prop} (o : OkR T σ W G H r K) (e : Ev G H G' H') : OkR T σ W G' H' r K := by
  cases r with
  | ok a h => exact fun G2 H2 e2 R => o G2 H2 (e.trans e2) R
  | err x h => exact fun G2 d H2 e2 R => o G2 d H2 (e.trans e2) R
  | stuck => exact o
theorem OkR.imp {r : Res α} {K K' : α → EH → Gh → Hp → Prop} (o : OkR T σ W G H r K) (i : ∀ a h G2 H2, Ev G H G2 H2 → Rel T G2 h H2 → K a h G2 H2 → K' a h G2 H2) : OkR T σ W G H r K' := by
  cases r with
  | ok a h => exact fun G2 H2 e2 R => i a h G2 H2 e2 R (o G2 H2 e2 R)
  | err x h => exact o
  | stuck => exact o
theorem OkR.bnd {r : Res α} {f : α → EH → Res β} {K : β → EH → Gh → Hp → Prop} (o : OkR T σ W G H (r.bind f) K) : OkR T σ W G H r (fun a h G' H' => OkR T σ W G' H' (f a h) K) := by
  cases r with
  | ok a h => exact fun G2 H2 e2 R => OkR.ev (r := f a h) o e2
  | err x h => exact o
  | stuck => exact o
end
/-- a def's promise: as the evaluator runs it at depth d -/
def spE (T : Tx) (P : Prog) (d : Nat) (f : Nm) : Sp := fun vs H Q E => ∃ G h as, Rel T G h H ∧ RepL T G as vs ∧ OkR T [] (fun c x _ H' => E c x H') G H (callF P d f as h) (KV T Q) ∧ ∀ fd, P.fn f = some fd → vs.length = fd.ps.length
/-- how a def's arguments bind, for the shapes of call that it knows -/
def BindOk (T : Tx) (fd : FDef) (fdt : FuncData) : Prop := ∀ (G : Gh) (args : List PV) (kw : List (Nm × PV)) (as : List PV), bindA fd args kw = some as →
  ∀ (vs zs : List V) (us ws : List Value), RepL T G args vs → Vals vs us → RepL T G (kw.map (·.2)) zs → Vals zs ws → ∀ s : Shared, T.K.In s.heap →
    ∃ (full : List Value) (fvs : List V), BindsTo s fdt ⟨us, (kw.map fun q => T.st q.1).zip ws⟩ ((fd.ps.map T.st).zip full) ∧ RepL T G as fvs ∧ Vals fvs full ∧ full.length = fd.ps.length
/-- a def that declines its second argument -/
def DecOk (T : Tx) (P : Prog) (prog : Program) (w : World) (mg : Str → Option Value) (base : Heap) (d : Nat) (f : Nm) (fd : FDef) : Prop := ∀ g, guardOf fd.body = some g → ∀ (A : Around) (outer : List PySem.Env) (s : Shared) (H : Hp) (G : Gh) (h : EH) (a b : PV) (va vb : V) (ua ub : Value) (Q : Hp → Prop),
  Room d A → Env0 prog w T.K mg base A outer s H → Rel T G h H → RepV T G a va → RepV T G b vb → RelV va ua → RelV vb ub → (2, []) ∈ fd.sh → fd.ps.length = 2 → callD ⟨P, callF P (d - 1), callF P (d - 1)⟩ g [b] [] h = .ok (.bl false) h → (P.fn g).isSome →
    (∀ G' H', Ev G H G' H' → Rel T G' h H' → Q H') → codeAny (model prog w) A (.call (.ref (T.ad f)) ⟨[ua, ub], []⟩) (fun r s' => r = .ok (.ret .notImplemented) ∧ CE outer prog w H s (fun _ H' => Q H') Value.none s') s
structure FOk (T : Tx) (P : Prog) (prog : Program) (w : World) (mg : Str → Option Value) (base : Heap) (d : Nat) (f : Nm) (fd : FDef) : Prop where
  ok : ∃ fdt, FnOk prog w T.K mg base (L2.CX prog w) d (T.ad f) fdt (fd.ps.map T.st) (spE T P d f) ∧ BindOk T fd fdt
  kp : PySem.W.keepIn T.K (.ref (T.ad f)) = true
  dec : DecOk T P prog w mg base d f fd
def tyNames : List String := ["NoneType", "int", "bool", "str", "list", "tuple", "dict"]
structure COk (T : Tx) (P : Prog) (c : Nm) (cd : CDef) : Prop where
  nm : cd.n = c
  kp : PySem.W.keepIn T.K (.ref (T.ad c)) = true
  sub : ∀ e ce, P.cls e = some ce → PySem.W.kitOne T.K (.ref (T.ad c)) (.ref (T.ad e)) = some (decide (c = e) || cd.sup.any fun x => decide (x = e))
  subT : ∀ n ∈ tyL, PySem.W.kitOne T.K (.ref (T.ad c)) (.type n) = some false
  tyC : ∀ n ∈ tyNames, PySem.W.kitOne T.K (.type n) (.ref (T.ad c)) = some false
/-- a class of instances -/
structure IOk (T : Tx) (P : Prog) (c : Nm) (cd : CDef) : Prop where
  cls : Cls T.K (T.ad c)
  fl : ∀ f ∈ cd.fl, NoAttr T.K (T.ad c) (T.st f)
  meth : ∀ m f, look m cd.ms = some f → Meth T.K (T.ad c) (T.st m) (T.ad f) ∧ (P.fn f).isSome
  mkk : ∀ f, cd.ini = some f → Mk T.K (T.ad c) (T.ad f)
  self : PySem.W.selfFirst T.K (T.ad c) = true
  seq : PySem.W.noSeq T.K (T.ad c) = true
  ha : PySem.W.findIn T.K (.ref (T.ad c)) "__class__" = some (some (.builtin "object.__class__"))
  hn : PySem.W.specialIn T.K (.builtin "object.__class__") "__get__" = some (some (.builtin "getset_descriptor.__get__"))
  htk : PySem.W.takesIn T.K (.builtin "object.__class__") = some true
  hm : PySem.W.mroIn T.K (T.ad c) (.type "object") = some true
  rfl_ : ∀ o : BO, (look o.dun cd.ms).isSome → ∃ rc, PySem.W.findIn T.K (.ref (T.ad c)) (T.st o.rev) = some rc ∧ (rc = none ∨ ∃ g : Addr, rc = some (.ref g))
  fwd : ∀ o : BO, (look o.rev cd.ms).isSome → ∃ g : Addr, PySem.W.findIn T.K (.ref (T.ad c)) (T.st o.dun) = some (some (.ref g))
  bt : ∀ o : BO, (look o.dun cd.ms).isSome → ∀ n ∈ tyNames, ∃ fo ro, PySem.W.findIn T.K (.type n) (T.st o.dun) = some fo ∧ PySem.W.findIn T.K (.type n) (T.st o.rev) = some ro
  sTy : ∀ n ∈ tyNames, PySem.W.subIn T.K (.type n) (.ref (T.ad c)) = some false
  ob : ∀ o : BO, (look o.dun cd.ms).isSome → ∀ e ce, P.cls e = some ce → ce.ex = none → e ≠ c → Slot2 T.K (T.ad e) o.op.info.2
  intS : PySem.W.subIn T.K (.type "int") (.ref (T.ad c)) = some false
  sInt : PySem.W.subIn T.K (.ref (T.ad c)) (.type "int") = some false
  sOwn : ∀ e ce, P.cls e = some ce → ce.ex = none → e ≠ c → PySem.W.subIn T.K (.ref (T.ad e)) (.ref (T.ad c)) = some false ∧ T.ad e ≠ T.ad c
  ip : ∀ o : BO, o.ipB = true → ∃ ce, PySem.W.clsIn T.K (T.ad c) = some ce ∧ ∀ v ∈ ce.mro, PySem.W.findIn T.K v (PySem.dunderI o.op.info.2) = some none
  ne : (look Nm.__eq__ cd.ms).isSome → PySem.W.findIn T.K (.ref (T.ad c)) "__ne__" = some (some (.builtin "object.__ne__"))
/-- the classes above an exception's -/
def veB : List Value := [.type "ValueError", .type "Exception", .type "BaseException", .type "object"]
/-- a class of exceptions: what K says of it -/
structure XOk (T : Tx) (P : Prog) (c : Nm) (cd : CDef) (fs : List Nm) : Prop where
  xf : XfC T.K (T.ad c)
  tyC : PySem.W.typeIn T.K (.ref (T.ad c)) = some (.type "type")
  ca : PySem.W.findIn T.K (.ref (T.ad c)) "__class__" = some (some (.builtin "object.__class__"))
  cn : PySem.W.specialIn T.K (.builtin "object.__class__") "__get__" = some (some (.builtin "getset_descriptor.__get__"))
  ct : PySem.W.takesIn T.K (.builtin "object.__class__") = some true
  cm : PySem.W.mroIn T.K (T.ad c) (.type "object") = some true
  fl : ∀ f ∈ fs, PySem.W.findIn T.K (.ref (T.ad c)) (T.st f) = some none
  nd : fs.Nodup
  ln : fs.length ≤ 900
  told : ∀ m f, look m cd.ms = some f → PySem.W.findIn T.K (.ref (T.ad c)) (T.st m) = some (some (.ref (T.ad f))) ∧ PySem.W.isFn T.K (.ref (T.ad f)) = true ∧ PySem.W.keepIn T.K (.ref (T.ad f)) = true
  exm : ∀ e ce, P.cls e = some ce → ce.ex.isSome → PySem.W.exmOne T.K (.ref (T.ad c)) (.ref (T.ad e)) = some (decide (c = e) || cd.sup.any fun x => decide (x = e))
  x0 : fs = [] → PySem.W.excIn T.K (T.ad c) veB "ValueError.__new__" = true
  oex : fs ≠ [] → OexC T.K (T.ad c)
  ini : fs ≠ [] → ∃ fI, cd.ini = some fI ∧ PySem.W.findIn T.K (.ref (T.ad c)) "__init__" = some (some (.ref (T.ad fI))) ∧ PySem.W.typeIn T.K (.ref (T.ad fI)) = some (.type "function")
/-- the promise of an exception's __init__ -/
def spX (K : PySem.W.Frag) (C : Addr) (fs : List Str) : Sp := fun vs H Q _ => ∃ a ys, vs = .ref a :: ys ∧ ys.length = fs.length ∧ H a = some (exo a C none) ∧
  ∀ d H2, H d = none → d ≠ a → H2 a = some (exo a C (some d)) → H2 d = some (exd d (fs.zip ys).reverse) → (∀ b, b ≠ a → b ≠ d → H2 b = H b) → Q .non H2
/-- a def that only returns a text, called in an except suite by the exception -/
def ToldOk (prog : Program) (w : World) (K : PySem.W.Frag) (mg : Str → Option Value) (base : Heap) (f : Addr) (t : Str) : Prop :=
  ∀ (A : Around) (outer : List PySem.Env) (s : Shared) (H : Hp) (p : Addr × Obj), L2H.RoomH 1 A → L2H.PinOk outer H s p → Env0 prog w K mg base A outer s H → ∀ (Q : VK) (E : XK), Q (.str t) H →
    codeAny (model prog w) A (.call (.ref f) ⟨[.ref p.1], []⟩) (CR (L2.CX prog w) outer prog w H s Q E) s
structure Txt (T : Tx) (P : Prog) (mg : Str → Option Value) : Prop where
  tyT : ∀ m ∈ tyNames, ∀ n ∈ tyL, PySem.W.kitOne T.K (.type m) (.type n) = some (m == n || (m == "bool" && n == "int"))
  inj : ∀ a b, T.st a = T.st b → a = b
  app : T.st .append = "append"
  fn : ∀ f fd, P.fn f = some fd → fd.n = f
  cls : ∀ c cd, P.cls c = some cd → COk T P c cd ∧ (cd.ex = none → IOk T P c cd)
  exc : ∀ c cd fs, P.cls c = some cd → cd.ex = some fs → XOk T P c cd fs
  dun : T.st .__eq__ = "__eq__" ∧ T.st .__lt__ = "__lt__" ∧ T.st .__le__ = "__le__" ∧ T.st .__gt__ = "__gt__" ∧ T.st .__ge__ = "__ge__" ∧ T.st .__neg__ = "__neg__" ∧ T.st .__pos__ = "__pos__" ∧ T.st .__abs__ = "__abs__" ∧ T.st .__len__ = "__len__"
  bo : ∀ o : BO, T.st o.dun = PySem.dunder (match o with | .add => Operator.Add | .sub => .Sub | .mul => .Mult | .fdiv => .FloorDiv | .mod => .Mod | .pow => .Pow | .bor => .BitOr).info.2
  bor : ∀ o : BO, T.st o.rev = PySem.dunderR (match o with | .add => Operator.Add | .sub => .Sub | .mul => .Mult | .fdiv => .FloorDiv | .mod => .Mod | .pow => .Pow | .bor => .BitOr).info.2
structure GoodX (T : Tx) (P : Prog) (d : Nat) (X : Cx) : Prop where
  K : X.K = T.K
  calm : X.calm = true
  nd : X.N.Nodup
  room : Room d X.A
  txt : Txt T P X.mg
  fns : ∀ f fd, P.fn f = some fd → FOk T P X.prog X.w X.mg X.base d f fd
  fns' : ∀ f fd, P.fn f = some fd → FOk T P X.prog X.w X.mg X.base (d - 1) f fd
  two : 2 ≤ d
  xin : ∀ c cd fs fI, P.cls c = some cd → cd.ex = some fs → fs ≠ [] → cd.ini = some fI → ∃ fdt ps, FnOk X.prog X.w T.K X.mg X.base (L2.CX X.prog X.w) 1 (T.ad fI) fdt ps (spX T.K (T.ad c) (fs.map T.st)) ∧ Binds T.K fdt ps []
  tld : ∀ c cd fs m f fd t, P.cls c = some cd → cd.ex = some fs → look m cd.ms = some f → P.fn f = some fd → constR fd.body = some t → ToldOk X.prog X.w T.K X.mg X.base (T.ad f) t
section
variable {T : Tx} {P : Prog} {d : Nat} {X : Cx} {W : L2.WX} {pins : List (Addr × Obj)} {σ : L2.St} {H : Hp} {s : Shared} {G : Gh} {h : EH}
/-- a def is called, from anywhere in the frame -/
theorem call_at (Gd : GoodX T P d X) (tk : Takes X W) {A : Around} {k : Nat} (hk : Room k A) {f : Nm} {fd : FDef} (hf : P.fn f = some fd) (F : FOk T P X.prog X.w X.mg X.base k f fd) {args as : List PV} {kw : List (Nm × PV)} (hb : bindA fd args kw = some as)
    {vs zs : List V} {us ws : List Value} (I : Inv X pins σ H s) (e0 : Env0 X.prog X.w X.K X.mg X.base A X.stack s H) (R : Rel T G h H) (r1 : RepL T G args vs) (r2 : Vals vs us) (r3 : RepL T G (kw.map (·.2)) zs) (r4 : Vals zs ws) {Q : VK}
    (o : OkR T σ W G H (callF P k f as h) (KV T Q)) : wpAny (model X.prog X.w) A (call (.ref (T.ad f)) us ((kw.map fun q => T.st q.1).zip ws)) (EP X pins σ Q) X.xe s := by
  obtain ⟨⟨fdt, F1, B⟩, _⟩ := F
  have kin : T.K.In s.heap := Gd.K ▸ I.kIn
  obtain ⟨full, fvs, b1, b2, b3, b4⟩ := B G args kw as hb vs zs us ws r1 r2 r3 r4 s kin
  rw [Gd.K] at e0
  refine wpAny_call (codeAny_mono (F1.run A X.stack s H ⟨us, _⟩ full fvs Q (fun c x H' => W c x σ H') hk e0 b1 b3 ⟨G, h, as, R, b2, ?_, fun fd' e => ?_⟩) fun r s' hq => ?_)
  · revert o
    cases callF P k f as h with
    | ok a h' => exact fun o => o
    | err x h' => exact fun o => o
    | stuck => exact fun o => o
  · rw [hf] at e; cases e
    have := b3.length
    omega
  · cases r with
    | error e => exact tk _ _ (XE.of_call I (fun c x H' e => e) hq)
    | ok fl =>
      cases fl with
      | ret u => exact I.after hq
      | next => exact False.elim hq
      | brk => exact False.elim hq
      | cont => exact False.elim hq
/-- a def is called -/
theorem call_full (Gd : GoodX T P d X) (tk : Takes X W) {k : Nat} (hk : Room k X.A) {f : Nm} {fd : FDef} (hf : P.fn f = some fd) (F : FOk T P X.prog X.w X.mg X.base k f fd) {args as : List PV} {kw : List (Nm × PV)} (hb : bindA fd args kw = some as)
    {vs zs : List V} {us ws : List Value} (I : Inv X pins σ H s) (R : Rel T G h H) (r1 : RepL T G args vs) (r2 : Vals vs us) (r3 : RepL T G (kw.map (·.2)) zs) (r4 : Vals zs ws) {Q : VK}
    (o : OkR T σ W G H (callF P k f as h) (KV T Q)) : wpAny (model X.prog X.w) X.A (call (.ref (T.ad f)) us ((kw.map fun q => T.st q.1).zip ws)) (EP X pins σ Q) X.xe s :=
  call_at Gd tk hk hf F hb I I.env0 R r1 r2 r3 r4 o
/-- with all its parameters in a row -/
theorem call_pos (Gd : GoodX T P d X) (tk : Takes X W) {k : Nat} (hk : Room k X.A) {f : Nm} {fd : FDef} (hf : P.fn f = some fd) (F : FOk T P X.prog X.w X.mg X.base k f fd) {as : List PV} (hb : bindA fd as [] = some as)
    {vs : List V} {us : List Value} (I : Inv X pins σ H s) (R : Rel T G h H) (r1 : RepL T G as vs) (r2 : Vals vs us) {Q : VK}
    (o : OkR T σ W G H (callF P k f as h) (KV T Q)) : wpAny (model X.prog X.w) X.A (call (.ref (T.ad f)) us) (EP X pins σ Q) X.xe s :=
  call_full (kw := []) (zs := []) (ws := []) Gd tk hk hf F hb I R r1 r2 rfl .nil o
end
end Py

set_option linter.all false
set_option Elab.async false
set_option maxRecDepth 100000
set_option maxHeartbeats 1000017
/-! The evaluator's operations are the model's. -/
namespace Py
open L2 PyProof.Rows PySem.Spec PySem
noncomputable abbrev cx (P : Prog) (d : Nat) : Cxt := ⟨P, callF P d, callF P (d - 1)⟩
theorem big_le : big ≤ sizeLine := by rw [sizeLine_eq]; decide
section
variable {T : Tx} {P : Prog} {d : Nat} {X : Cx} {W : L2.WX} {pins : List (Addr × Obj)} {σ : L2.St} {H : Hp} {s : Shared} {G : Gh} {h : EH} {Q : VK}
theorem OkR.val {v : PV} (o : OkR T σ W G H (.ok v h) (KV T Q)) (R : Rel T G h H) {y : V} (r : RepV T G v y) : Q y H := o G H (Ev.refl G H) R y r
/-- a fresh thing that is only read is handed back -/
theorem OkR.newp {v : PV} (o : OkR T σ W G H (.ok v h) (KV T Q)) (R : Rel T G h H) {p : Addr} {u : HO} (n : H p = none) (r : RepV T (G.put p u) v (.ref p)) : Q (.ref p) (upd H p u) :=
  o (G.put p u) (upd H p u) (Ev.put R n) (R.put n) _ r
theorem back {u : Value} {s' : Shared} (h : EP X pins σ Q u s') : PySem.W.CmpBack (EP X pins σ Q) u s' := by
  obtain ⟨v, H', I, r, q⟩ := id h
  have e : u ≠ .notImplemented := by
    rintro rfl
    cases v with
    | non => cases r
    | bl b => cases r
    | int i => obtain ⟨t, e⟩ := r; cases e
    | str i => obtain ⟨t, e⟩ := r; cases e
    | byt i => obtain ⟨t, e⟩ := r; cases e
    | flt i => obtain ⟨t, e⟩ := r; cases e
    | ref i => cases r
    | ty i => cases r
  unfold PySem.W.CmpBack
  split
  · exact absurd rfl e
  · exact h
theorem ins_of (R : Rel T G h H) {x : PV} {v : V} (rx : RepV T G x v) {c : Nm} {fs : List (Nm × PV)} (e : asIns h x = some (c, fs)) : ∃ a dx ys, v = .ref a ∧ H a = some (.ins (T.ad c) dx ys) ∧ RepF T G fs ys := by
  cases x with
  | obj c' fs' =>
    cases e
    obtain ⟨a, dx, ys, e1, e2, r⟩ := rx
    exact ⟨a, dx, ys, e1, R.ext _ _ e2, r⟩
  | loc n =>
    obtain ⟨a, e1, e2⟩ := rx
    unfold asIns at e
    cases q : hget n h with
    | none => simp [q] at e
    | some o =>
      simp only [q] at e
      obtain ⟨b, e3, r⟩ := R.ob n o q
      rw [e2] at e3; cases e3
      cases o with
      | ins c' fs' => cases e; obtain ⟨_, dx, ys, e4, r⟩ := r; exact ⟨a, dx, ys, e1, e4, r⟩
      | _ => cases e
  | _ => cases e
theorem callM_inv {C : Cxt} {x : PV} {m : Nm} {args : List PV} {kw : List (Nm × PV)} {K : PV → EH → Gh → Hp → Prop} (o : OkR T σ W G H (callM C x m args kw h) K) :
    ∃ c fs cd f, asIns h x = some (c, fs) ∧ look m fs = none ∧ C.P.cls c = some cd ∧ cd.ex = none ∧ look m cd.ms = some f ∧ OkR T σ W G H (callD C f (x :: args) kw h) K := by
  unfold callM at o
  cases e : asIns h x with
  | none => rw [e] at o; exact o.elim
  | some p =>
    obtain ⟨c, fs⟩ := p
    rw [e] at o
    dsimp only at o
    cases e2 : look m fs with
    | some v => rw [e2] at o; exact o.elim
    | none =>
      rw [e2] at o
      dsimp only at o
      unfold Prog.meth at o
      cases e3 : C.P.cls c with
      | none => rw [e3] at o; exact o.elim
      | some cd =>
        rw [e3] at o
        dsimp only at o
        cases e5 : cd.ex with
        | some z => rw [e5] at o; exact o.elim
        | none =>
          rw [e5] at o
          dsimp only at o
          cases e4 : look m cd.ms with
          | none => rw [e4] at o; exact o.elim
          | some f => rw [e4] at o; exact ⟨c, fs, cd, f, rfl, e2, e3, e5, e4, o⟩
theorem callD_inv {C : Cxt} {f : Nm} {args : List PV} {kw : List (Nm × PV)} {K : PV → EH → Gh → Hp → Prop} (o : OkR T σ W G H (callD C f args kw h) K) :
    ∃ fd as, C.P.fn f = some fd ∧ bindA fd args kw = some as ∧ OkR T σ W G H (C.call f as h) K := by
  unfold callD at o
  cases e : C.P.fn f with
  | none => rw [e] at o; exact o.elim
  | some fd =>
    rw [e] at o
    dsimp only at o
    cases e2 : bindA fd args kw with
    | none => rw [e2] at o; exact o.elim
    | some as => rw [e2] at o; exact ⟨fd, as, rfl, e2, o⟩
/-- an evaluator's call of a def -/
theorem callD_ok (Gd : GoodX T P d X) (tk : Takes X W) {f : Nm} {args : List PV} {kw : List (Nm × PV)} {vs zs : List V} {us ws : List Value} (I : Inv X pins σ H s) (R : Rel T G h H) (r1 : RepL T G args vs) (r2 : Vals vs us)
    (r3 : RepL T G (kw.map (·.2)) zs) (r4 : Vals zs ws) (o : OkR T σ W G H (callD (cx P d) f args kw h) (KV T Q)) : wpAny (model X.prog X.w) X.A (call (.ref (T.ad f)) us ((kw.map fun q => T.st q.1).zip ws)) (EP X pins σ Q) X.xe s := by
  obtain ⟨fd, as, e1, e2, o⟩ := callD_inv o
  exact call_full Gd tk Gd.room e1 (Gd.fns f fd e1) e2 I R r1 r2 r3 r4 o
theorem callD_pos (Gd : GoodX T P d X) (tk : Takes X W) {f : Nm} {args : List PV} {vs : List V} {us : List Value} (I : Inv X pins σ H s) (R : Rel T G h H) (r1 : RepL T G args vs) (r2 : Vals vs us)
    (o : OkR T σ W G H (callD (cx P d) f args [] h) (KV T Q)) : wpAny (model X.prog X.w) X.A (call (.ref (T.ad f)) us) (EP X pins σ Q) X.xe s :=
  callD_ok (kw := []) (zs := []) (ws := []) Gd tk I R r1 r2 rfl .nil o
/-! ### operators -/
theorem inst_of (Gd : GoodX T P d X) (I : Inv X pins σ H s) {a dx : Addr} {c : Nm} {ys : List (Str × V)} (e : H a = some (.ins (T.ad c) dx ys)) :
    ∃ od, PySem.W.InstAt s.heap a (PySem.W.instObj (T.ad c) dx) (T.ad c) (some od) := by
  obtain ⟨mA, O, _⟩ := ins_get I.hok e
  obtain ⟨od, J, _⟩ := O.look
  exact ⟨od, J⟩
end
end Py

set_option linter.all false
set_option maxRecDepth 100000
set_option maxHeartbeats 2000017
/-! An int's own methods decline an instance. -/
namespace Py
open PySem PySem.Spec PyProof.Rows PySem.W
section
variable {prog : Program} {w : World} {A : Around} {E : Value → Shared → Prop} {Q : Value → Shared → Prop} {s : Shared} {y : Addr} {oy : Obj} {i : Int} {t : Tok}
theorem no_add (o : s.heap.get? y = some oy) (hd : oy.data = .plain) (h : Q .notImplemented s) : wpAny (model prog w) A (call (.builtin "int.__add__") [.int i t, .ref y]) Q E s := by
  refine wpAny_call_entry F.slot_int_add (typeIs_int s i t) F.entry_int_add ?_ (F.args_int_add_2 _ _)
  cases s
  wp_walk
  simp only [hd]
  wp_walk
  exact ⟨_, rfl, h⟩
theorem no_sub (o : s.heap.get? y = some oy) (hd : oy.data = .plain) (h : Q .notImplemented s) : wpAny (model prog w) A (call (.builtin "int.__sub__") [.int i t, .ref y]) Q E s := by
  refine wpAny_call_entry F.slot_int_sub (typeIs_int s i t) F.entry_int_sub ?_ (F.args_int_sub_2 _ _)
  cases s
  wp_walk
  simp only [hd]
  wp_walk
  exact ⟨_, rfl, h⟩
theorem no_mul (o : s.heap.get? y = some oy) (hd : oy.data = .plain) (h : Q .notImplemented s) : wpAny (model prog w) A (call (.builtin "int.__mul__") [.int i t, .ref y]) Q E s := by
  refine wpAny_call_entry F.slot_int_mul (typeIs_int s i t) F.entry_int_mul ?_ (F.args_int_mul_2 _ _)
  cases s
  wp_walk
  simp only [hd]
  wp_walk
  exact ⟨_, rfl, h⟩
theorem no_mod (o : s.heap.get? y = some oy) (hd : oy.data = .plain) (h : Q .notImplemented s) : wpAny (model prog w) A (call (.builtin "int.__mod__") [.int i t, .ref y]) Q E s := by
  refine wpAny_call_entry F.slot_int_mod (typeIs_int s i t) F.entry_int_mod ?_ (F.args_int_mod_2 _ _)
  cases s
  wp_walk
  simp only [hd]
  wp_walk
  exact ⟨_, rfl, h⟩
theorem no_floordiv (o : s.heap.get? y = some oy) (hd : oy.data = .plain) (h : Q .notImplemented s) : wpAny (model prog w) A (call (.builtin "int.__floordiv__") [.int i t, .ref y]) Q E s := by
  refine wpAny_call_entry F.slot_int_floordiv (typeIs_int s i t) F.entry_int_floordiv ?_ (F.args_int_floordiv_2 _ _)
  cases s
  wp_walk
  simp only [hd]
  wp_walk
  simp only [hd]
  wp_walk
  exact ⟨_, rfl, h⟩
theorem no_pow (o : s.heap.get? y = some oy) (hd : oy.data = .plain) (h : Q .notImplemented s) : wpAny (model prog w) A (call (.builtin "int.__pow__") [.int i t, .ref y]) Q E s := by
  refine wpAny_call_entry F.slot_int_pow (typeIs_int s i t) F.entry_int_pow ?_ (F.args_int_pow_2 _ _)
  cases s
  wp_walk
  simp only [hd]
  wp_walk
  exact ⟨_, rfl, h⟩
theorem no_lt (o : s.heap.get? y = some oy) (hd : oy.data = .plain) (h : Q .notImplemented s) : wpAny (model prog w) A (call (.builtin "int.__lt__") [.int i t, .ref y]) Q E s := by
  refine wpAny_call_entry F.slot_int_lt (typeIs_int s i t) F.entry_int_lt ?_ (F.args_int_lt_2 _ _)
  cases s
  wp_walk
  simp only [hd]
  wp_walk
  exact ⟨_, rfl, h⟩
theorem no_le (o : s.heap.get? y = some oy) (hd : oy.data = .plain) (h : Q .notImplemented s) : wpAny (model prog w) A (call (.builtin "int.__le__") [.int i t, .ref y]) Q E s := by
  refine wpAny_call_entry F.slot_int_le (typeIs_int s i t) F.entry_int_le ?_ (F.args_int_le_2 _ _)
  cases s
  wp_walk
  simp only [hd]
  wp_walk
  exact ⟨_, rfl, h⟩
theorem no_gt (o : s.heap.get? y = some oy) (hd : oy.data = .plain) (h : Q .notImplemented s) : wpAny (model prog w) A (call (.builtin "int.__gt__") [.int i t, .ref y]) Q E s := by
  refine wpAny_call_entry F.slot_int_gt (typeIs_int s i t) F.entry_int_gt ?_ (F.args_int_gt_2 _ _)
  cases s
  wp_walk
  simp only [hd]
  wp_walk
  exact ⟨_, rfl, h⟩
theorem no_ge (o : s.heap.get? y = some oy) (hd : oy.data = .plain) (h : Q .notImplemented s) : wpAny (model prog w) A (call (.builtin "int.__ge__") [.int i t, .ref y]) Q E s := by
  refine wpAny_call_entry F.slot_int_ge (typeIs_int s i t) F.entry_int_ge ?_ (F.args_int_ge_2 _ _)
  cases s
  wp_walk
  simp only [hd]
  wp_walk
  exact ⟨_, rfl, h⟩
theorem no_eq (o : s.heap.get? y = some oy) (hd : oy.data = .plain) (h : Q .notImplemented s) : wpAny (model prog w) A (call (.builtin "int.__eq__") [.int i t, .ref y]) Q E s := by
  refine wpAny_call_entry F.slot_int_eq (typeIs_int s i t) F.entry_int_eq ?_ (F.args_int_eq_2 _ _)
  cases s
  wp_walk
  simp only [hd]
  wp_walk
  exact ⟨_, rfl, h⟩
theorem no_ne (o : s.heap.get? y = some oy) (hd : oy.data = .plain) (h : Q .notImplemented s) : wpAny (model prog w) A (call (.builtin "int.__ne__") [.int i t, .ref y]) Q E s := by
  refine wpAny_call_entry F.slot_int_ne (typeIs_int s i t) F.entry_int_ne ?_ (F.args_int_ne_2 _ _)
  cases s
  wp_walk
  simp only [hd]
  wp_walk
  exact ⟨_, rfl, h⟩
end
end Py

set_option linter.all false
set_option Elab.async false
set_option maxRecDepth 100000
set_option maxHeartbeats 2100000
/-! Operators and comparisons of own instances: the left one's def is asked first, an int in front of an instance declines. -/
namespace Py
open PySem PySem.Spec PyProof.Rows PySem.W
section
variable {s : Shared} {A : Around} {w : World} {prog : Program} {E : Value → Shared → Prop}
/-- a look, and what comes behind it -/
theorem ask {α β : Type} {M : Model} {t : Sem α} {r : α} {f : α → Sem β} {Q : β → Shared → Prop} (l : Looks M s.heap t r) (q : wpAny M A (f r) Q E s) : wpAny M A (t >>= f) Q E s := wpAny_bind (l.here q)
/-- a run that ends with some v, and what comes behind it -/
theorem got {β : Type} {M : Model} {t : Sem (Option Value)} {f : Option Value → Sem β} {P : Value → Shared → Prop} {Q : β → Shared → Prop} (m : wpAny M A t (fun r z => ∃ v, r = some v ∧ P v z) E s)
    (q : ∀ v z, P v z → wpAny M A (f (some v)) Q E z) : wpAny M A (t >>= f) Q E s :=
  wpAny_bind (wpAny_mono m (fun _ z ⟨v, e, p⟩ => by rw [e]; exact q v z p) fun _ _ e => e)
/-- something came out, and P holds of it -/
abbrev Out (P : Value → Shared → Prop) : Option Value → Shared → Prop := fun r z => ∃ v, r = some v ∧ P v z
/-- what the left operand's slot is asked ahead of the call -/
structure LeftAsk (M : Model) (h : Heap) (nm : String) (ta tb : Value) (right : Bool) : Prop where
  l : Looks M h (fillsNumberSlot ta nm) true
  r : ((ta == tb) = true ∧ right = false) ∨ ((ta == tb) = false ∧ Looks M h (fillsNumberSlot tb nm) right)
  sub : right = true → Looks M h (isSubtype tb ta) false
  py : right = true → ∃ p q, Looks M h (numberSlotInPython ta nm) p ∧ Looks M h (numberSlotInPython tb nm) q ∧ (q = false → ∃ m, Looks M h (typeLookup tb (dunderR nm)) m)
/-- the left operand's own method answers -/
theorem left_answers {nm : String} {a b ta tb : Value} {right : Bool} {P : Value → Shared → Prop} (h1 : Looks (model prog w) s.heap (typeOf a) ta) (h2 : Looks (model prog w) s.heap (typeOf b) tb) (L : LeftAsk (model prog w) s.heap nm ta tb right)
    (m : wpAny (model prog w) A (tryMethod a (PySem.dunder nm) b) (Out P) E s) : wpAny (model prog w) A (binaryOp1 nm a b) (Out P) E s := by
  have go : ∀ {f : Option Value → Sem (Option Value)}, (∀ v, f (some v) = pure (some v)) → wpAny (model prog w) A (tryMethod a (PySem.dunder nm) b >>= f) (Out P) E s := fun hf => got m fun v z p => by rw [hf]; exact wpAny_pure ⟨v, rfl, p⟩
  delta binaryOp1
  dsimp only
  refine ask h1 (ask h2 (ask L.l ?_))
  rcases L.r with ⟨e, rfl⟩ | ⟨e, hr⟩
  · rw [e]
    exact go fun _ => rfl
  · rw [e]
    refine ask hr ?_
    cases hc : right with
    | false => exact go fun _ => rfl
    | true =>
      obtain ⟨p, q, hp, hq, hm⟩ := L.py hc
      refine ask (L.sub hc) (ask hp ?_)
      cases p with
      | false => exact go fun _ => rfl
      | true =>
        refine ask hq ?_
        cases q with
        | true => exact go fun _ => rfl
        | false =>
          obtain ⟨u, hu⟩ := hm rfl
          exact ask hu (go fun _ => rfl)
variable {K : Frag} {x y C D f : Addr} {ox oy : Obj} {od oe : Option Obj}
theorem ne_beq {u v : Value} (h : u ≠ v) : (u == v) = false := beq_eq_false_iff_ne.mpr h
/-- C() op D(), two own classes -/
theorem bin1_own {op : Operator} {rc : Option Value} {Q : Value → Shared → Prop} (X : K.In s.heap) (I : InstAt s.heap x ox C od) (J : InstAt s.heap y oy D oe) (hne : D ≠ C)
    (hc : selfFirst K C = true) (own : findIn K (.ref C) (PySem.dunder op.info.2) = some (some (.ref f)))
    (fn : isFn K (.ref f) = true) (back : findIn K (.ref C) (dunderR op.info.2) = some rc)
    (backF : rc = none ∨ ∃ g : Addr, rc = some (.ref g)) (apart : subIn K (.ref D) (.ref C) = some false)
    (sl : Slot2 K D op.info.2) (run : wpAny (model prog w) A (call (.ref f) [.ref x, .ref y]) (PySem.W.CmpBack Q) E s) :
    wpAny (model prog w) A (binaryOp1 op.info.2 (.ref x) (.ref y)) (Out Q) E s := by
  obtain ⟨cd, more, c1, c2⟩ := ksp_first hc
  obtain ⟨right, r1, r2⟩ := sl (model prog w) s.heap X
  refine left_answers (right := right) I.type J.type ⟨fills_K X c1 c2 own, ?_, fun _ => looks_subIn X apart, fun e => ⟨true, true, ksp_inPy X own back backF, r2 e, nofun⟩⟩ (ksp_try X I own fn run)
  exact .inr ⟨ne_beq fun q => hne (by injection q with q; exact q.symm), r1⟩
/-- C() op a builtin thing -/
theorem bin1_type {op : Operator} {b : Value} {n : String} {fo ro rc : Option Value} {Q : Value → Shared → Prop} (X : K.In s.heap) (I : InstAt s.heap x ox C od) (tb : Looks (model prog w) s.heap (typeOf b) (.type n))
    (hc : selfFirst K C = true) (own : findIn K (.ref C) (PySem.dunder op.info.2) = some (some (.ref f)))
    (fn : isFn K (.ref f) = true) (back : findIn K (.ref C) (dunderR op.info.2) = some rc)
    (backF : rc = none ∨ ∃ g : Addr, rc = some (.ref g)) (slot : findIn K (.type n) (PySem.dunder op.info.2) = some fo)
    (slotR : findIn K (.type n) (dunderR op.info.2) = some ro) (apart : subIn K (.type n) (.ref C) = some false)
    (run : wpAny (model prog w) A (call (.ref f) [.ref x, b]) (PySem.W.CmpBack Q) E s) :
    wpAny (model prog w) A (binaryOp1 op.info.2 (.ref x) b) (Out Q) E s := by
  obtain ⟨cd, more, c1, c2⟩ := ksp_first hc
  refine left_answers (right := (fo.isSome && !isSeqSlot fo) || (ro.isSome && !isSeqSlot ro)) I.type tb ⟨fills_K X c1 c2 own, ?_, fun _ => looks_subIn X apart, fun _ => ⟨true, false, ksp_inPy X own back backF, .of_pure rfl, fun _ => ⟨ro, looks_findIn X slotR⟩⟩⟩ (ksp_try X I own fn run)
  exact .inr ⟨ne_beq nofun, ksp_fillsT X slot slotR⟩
/-- .. of one class -/
theorem bin1_same {op : Operator} {b : Value} {Q : Value → Shared → Prop} (X : K.In s.heap) (I : InstAt s.heap x ox C od) (tb : Looks (model prog w) s.heap (typeOf b) (.ref C))
    (hc : selfFirst K C = true) (own : findIn K (.ref C) (PySem.dunder op.info.2) = some (some (.ref f)))
    (fn : isFn K (.ref f) = true) (run : wpAny (model prog w) A (call (.ref f) [.ref x, b]) (PySem.W.CmpBack Q) E s) :
    wpAny (model prog w) A (binaryOp1 op.info.2 (.ref x) b) (Out Q) E s := by
  obtain ⟨cd, more, c1, c2⟩ := ksp_first hc
  refine left_answers (right := false) I.type tb ⟨fills_K X c1 c2 own, ?_, nofun, nofun⟩ (ksp_try X I own fn run)
  exact .inl ⟨beq_self_eq_true _, rfl⟩
theorem bin_of1 {M : Model} {op : Operator} {a b : Value} {Q : Value → Shared → Prop} (m : wpAny M A (binaryOp1 op.info.2 a b) (Out Q) E s) : wpAny M A (binaryOp op a b) Q E s := by
  delta binaryOp
  exact wpAny_holding (got m fun v z p => wpAny_pure p)
/-- no class of the row knows op= -/
theorem noIp {M : Model} {h : Heap} {nm : String} {add : Bool} {cd : ClassData} (X : K.In h) (hc : clsIn K C = some cd) (hm : ∀ v ∈ cd.mro, findIn K v (dunderI nm) = some none) : Looks M h (fillsInplaceSlot (.ref C) nm add) false := by
  have go : ∀ l : List Value, (∀ v ∈ l, findIn K v (dunderI nm) = some none) → ∀ (t : Value → Option Value → Sem Bool), (∀ v, t v none = pure false) → Looks M h (l.anyM fun c => typeLookup c (dunderI nm) >>= t c) false := by
    intro l
    induction l with
    | nil => intro _ t _; exact .now
    | cons v l ih =>
      intro hl t ht
      rw [List.anyM_cons]
      have e1 := looks_findIn (M := M) X (hl v List.mem_cons_self)
      refine Looks.andThen (a := false) (e1.andThen ?_) (ih (fun u hu => hl u (List.mem_cons_of_mem _ hu)) t ht)
      rw [ht]
      exact .now
  unfold fillsInplaceSlot
  refine Looks.andThen (a := cd.mro) ((looks_clsIn X hc).andThen .now) ?_
  refine go cd.mro hm _ (fun v => ?_)
  rfl
theorem iop_of1 {op : Operator} {b : Value} {Q : Value → Shared → Prop} (I : InstAt s.heap x ox C od) (no : Looks (model prog w) s.heap (fillsInplaceSlot (.ref C) op.info.2 (op == .Add)) false)
    (m : wpAny (model prog w) A (binaryOp1 op.info.2 (.ref x) b) (Out Q) E s) : wpAny (model prog w) A (inplaceOp op (.ref x) b) Q E s := by
  delta inplaceOp
  exact wpAny_holding (ask I.type (ask no (got m fun v z p => wpAny_pure p)))
/-- the left operand declines, the right one's reflected method answers -/
theorem right_answers {nm : String} {a b ta tb : Value} {P : Value → Shared → Prop} (h1 : Looks (model prog w) s.heap (typeOf a) ta) (h2 : Looks (model prog w) s.heap (typeOf b) tb)
    (l : Looks (model prog w) s.heap (fillsNumberSlot ta nm) true) (r : Looks (model prog w) s.heap (fillsNumberSlot tb nm) true) (e : (ta == tb) = false)
    (sub : Looks (model prog w) s.heap (isSubtype tb ta) false) (py : Looks (model prog w) s.heap (numberSlotInPython ta nm) false)
    (no : ∀ {Q' : Option Value → Shared → Prop}, Q' none s → wpAny (model prog w) A (tryMethod a (PySem.dunder nm) b) Q' E s)
    (m : wpAny (model prog w) A (tryMethod b (dunderR nm) a) (Out P) E s) : wpAny (model prog w) A (binaryOp1 nm a b) (Out P) E s := by
  delta binaryOp1
  dsimp only
  refine ask h1 (ask h2 (ask l ?_))
  rw [e]
  refine ask r (ask sub (ask py (wpAny_bind (no ?_))))
  exact got m fun v z p => wpAny_bind (wpAny_rule (wpAny_pure ⟨v, rfl, p⟩))
/-- the left operand's own def declines, the right one's reflected def answers: both slots in Python -/
theorem both_py {nm : String} {a b ta tb : Value} {P : Value → Shared → Prop} {N : Shared → Prop} (h1 : Looks (model prog w) s.heap (typeOf a) ta) (h2 : Looks (model prog w) s.heap (typeOf b) tb)
    (l : Looks (model prog w) s.heap (fillsNumberSlot ta nm) true) (r : Looks (model prog w) s.heap (fillsNumberSlot tb nm) true) (e : (ta == tb) = false)
    (sub : Looks (model prog w) s.heap (isSubtype tb ta) false) (py : Looks (model prog w) s.heap (numberSlotInPython ta nm) true) (py2 : Looks (model prog w) s.heap (numberSlotInPython tb nm) true)
    (no : wpAny (model prog w) A (tryMethod a (PySem.dunder nm) b) (fun r z => r = none ∧ N z) E s)
    (nx : ∀ z, N z → Looks (model prog w) z.heap (typeOf a) ta ∧ Looks (model prog w) z.heap (typeOf b) tb ∧ wpAny (model prog w) A (tryMethod b (dunderR nm) a) (Out P) E z) : wpAny (model prog w) A (binaryOp1 nm a b) (Out P) E s := by
  delta binaryOp1
  dsimp only
  refine ask h1 (ask h2 (ask l ?_))
  rw [e]
  refine ask r (ask sub (ask py (ask py2 (wpAny_bind (wpAny_mono no (fun r z hz => ?_) fun _ _ q => q)))))
  obtain ⟨rfl, n⟩ := hz
  obtain ⟨t1, t2, m⟩ := nx z n
  refine ask t1 (ask t2 ?_)
  rw [e]
  exact got m fun v z p => wpAny_bind (wpAny_rule (wpAny_pure ⟨v, rfl, p⟩))
/-- a def that answers NotImplemented, tried -/
theorem try_no {name : Str} {b : Value} {N : Shared → Prop} (X : K.In s.heap) (I : InstAt s.heap x ox C od) (hs : findIn K (.ref C) name = some (some (.ref f))) (hf : isFn K (.ref f) = true)
    (h : wpAny (model prog w) A (call (.ref f) [.ref x, b]) (fun v z => v = .notImplemented ∧ N z) E s) : wpAny (model prog w) A (tryMethod (.ref x) name b) (fun r z => r = none ∧ N z) E s := by
  delta tryMethod
  refine wpAny_bind (special_fn X I hs (beq_iff_eq.mp hf) (wpAny_mono h (fun v z hv => ?_) fun _ _ q => q))
  obtain ⟨rfl, n⟩ := hv
  exact wpAny_pure ⟨rfl, n⟩
/-- C() op D(): C's def declines, D's reflected def answers -/
theorem bin1_back {op : Operator} {rc : Option Value} {g fD : Addr} {Q : Value → Shared → Prop} {N : Shared → Prop} (X : K.In s.heap) (I : InstAt s.heap x ox C od) (J : InstAt s.heap y oy D oe) (hne : D ≠ C)
    (hc : selfFirst K C = true) (own : findIn K (.ref C) (PySem.dunder op.info.2) = some (some (.ref f)))
    (fn : isFn K (.ref f) = true) (back : findIn K (.ref C) (dunderR op.info.2) = some rc)
    (backF : rc = none ∨ ∃ g : Addr, rc = some (.ref g)) (apart : subIn K (.ref D) (.ref C) = some false)
    (hd : selfFirst K D = true) (own2 : findIn K (.ref D) (PySem.dunder op.info.2) = some (some (.ref fD))) (back2 : findIn K (.ref D) (dunderR op.info.2) = some (some (.ref g))) (fn2 : isFn K (.ref g) = true)
    (no : wpAny (model prog w) A (call (.ref f) [.ref x, .ref y]) (fun v z => v = .notImplemented ∧ N z) E s)
    (nx : ∀ z, N z → K.In z.heap ∧ (∃ ox od, InstAt z.heap x ox C od) ∧ (∃ oy oe, InstAt z.heap y oy D oe) ∧ wpAny (model prog w) A (call (.ref g) [.ref y, .ref x]) (PySem.W.CmpBack Q) E z) :
    wpAny (model prog w) A (binaryOp1 op.info.2 (.ref x) (.ref y)) (Out Q) E s := by
  obtain ⟨cd, more, c1, c2⟩ := ksp_first hc
  obtain ⟨ce, more2, e1, e2⟩ := ksp_first hd
  refine both_py I.type J.type (fills_K X c1 c2 own) (fills_K X e1 e2 own2) (ne_beq fun q => hne (by injection q with q; exact q.symm)) (looks_subIn X apart) (ksp_inPy X own back backF) (ksp_inPy X own2 back2 (.inr ⟨g, rfl⟩)) (try_no X I own fn no) fun z n => ?_
  obtain ⟨X2, ⟨ox2, od2, I2⟩, ⟨oy2, oe2, J2⟩, run⟩ := nx z n
  exact ⟨I2.type, J2.type, ksp_try X2 J2 back2 fn2 run⟩
/-- int op C(): int's own method declines -/
theorem bin_refl {op : Operator} {i : Int} {t : Tok} {idl : String} {g0 : Addr} {Q : Value → Shared → Prop} (X : K.In s.heap) (J : InstAt s.heap y oy D oe) (hd : selfFirst K D = true)
    (slotI : fillsNumberSlot (.type "int") op.info.2 = pure true) (apart : subIn K (.ref D) (.type "int") = some false) (slot : Slot "int" (PySem.dunder op.info.2) idl)
    (own : findIn K (.ref D) (PySem.dunder op.info.2) = some (some (.ref g0))) (back : findIn K (.ref D) (dunderR op.info.2) = some (some (.ref f)))
    (fn : isFn K (.ref f) = true) (no : ∀ {E' Q' : Value → Shared → Prop}, Q' .notImplemented s → wpAny (model prog w) A (call (.builtin idl) [.int i t, .ref y]) Q' E' s)
    (run : wpAny (model prog w) A (call (.ref f) [.ref y, .int i t]) (PySem.W.CmpBack Q) E s) : wpAny (model prog w) A (binaryOp op (.int i t) (.ref y)) Q E s := by
  obtain ⟨ce, more, e1, e2⟩ := ksp_first hd
  exact bin_of1 (right_answers (ta := .type "int") (.of_pure rfl) J.type (.of_pure slotI) (fills_K X e1 e2 own) (ne_beq nofun) (looks_subIn X apart) (.of_pure rfl)
    (fun q => wpAny_tryMethod_declines (typeIs_int s i t) slot (no ⟨rfl, q⟩)) (ksp_try X J back fn run))
/-- a comparison that the left operand's own method answers -/
theorem cmp_left {op : CmpOp} {a b ta tb : Value} {Q : Value → Shared → Prop} (room : A.units < cLine) (two : oneThing? op a b = none) (h1 : Looks (model prog w) s.heap (typeOf a) ta) (h2 : Looks (model prog w) s.heap (typeOf b) tb)
    (sub : (ta != tb) = false ∨ ((ta != tb) = true ∧ Looks (model prog w) s.heap (isSubtype tb ta) false)) (m : wpAny (model prog w) A (tryCompare a (cmpInfo op).2.1 b) (Out Q) E s) : wpAny (model prog w) A (richCompare op a b) Q E s := by
  delta richCompare
  dsimp only
  refine wpAny_holding (wpAny_bind (wpAny_cRoomFor room ?_))
  rw [two]
  refine ask h1 (ask h2 ?_)
  rcases sub with e | ⟨e, l⟩
  · rw [e]
    exact got m fun v z p => wpAny_pure p
  · rw [e]
    exact ask l (got m fun v z p => wpAny_pure p)
/-- .. that the left operand declines and the right one answers -/
theorem cmp_right {op : CmpOp} {a b ta tb : Value} {Q : Value → Shared → Prop} (room : A.units < cLine) (two : oneThing? op a b = none) (h1 : Looks (model prog w) s.heap (typeOf a) ta) (h2 : Looks (model prog w) s.heap (typeOf b) tb)
    (e : (ta != tb) = true) (l : Looks (model prog w) s.heap (isSubtype tb ta) false) (no : ∀ {Q' : Option Value → Shared → Prop}, Q' none s → wpAny (model prog w) A (tryCompare a (cmpInfo op).2.1 b) Q' E s)
    (m : wpAny (model prog w) A (tryCompare b (cmpInfo op).2.2 a) (Out Q) E s) : wpAny (model prog w) A (richCompare op a b) Q E s := by
  delta richCompare
  dsimp only
  refine wpAny_holding (wpAny_bind (wpAny_cRoomFor room ?_))
  rw [two]
  refine ask h1 (ask h2 ?_)
  rw [e]
  exact ask l (wpAny_bind (no (got m fun v z p => wpAny_pure p)))
/-- a slot of a builtin kind, reached through an instance -/
theorem slot_call {M : Model} {name : Str} {id : String} {args : List Value} {Q : Option Value → Shared → Prop} (X : K.In s.heap) (I : InstAt s.heap x ox C od) (at_ : findIn K (.ref C) name = some (some (.builtin id)))
    (kind : typeOf (.builtin id) = pure (.type "wrapper_descriptor")) (m : wpAny M A (call (.builtin id) (.ref x :: args)) (fun v => Q (some v)) E s) : wpAny M A (callSpecialIfBound? (.ref x) name args) Q E s := by
  have bound : bindSpecial (.builtin id) (.ref x) = pure (.builtin id, [.ref x]) := by
    delta bindSpecial
    simp only [kind]
    rfl
  have last : wpAny M A (call (.builtin id) ([.ref x] ++ args) >>= fun v => pure (some v)) Q E s := wpAny_bind (wpAny_mono m (fun _ _ q => wpAny_pure q) fun _ _ e => e)
  delta callSpecialIfBound? bindSpecialIfBound?
  dsimp only
  refine wpAny_holding (wpAny_bind (wpAny_bind (ask I.type ((looks_findIn X at_).here ?_))))
  dsimp only
  refine wpAny_bind (m := PySem.ask) (wpAny_askSetting ?_)
  rw [bound]
  split
  · exact wpAny_bind (wpAny_pure (wpAny_pure last))
  · exact wpAny_tryCatch (wpAny_bind (wpAny_pure (wpAny_pure last)))
theorem ty_ne : typeOf (.builtin "object.__ne__") = pure (.type "wrapper_descriptor") := by kernel_rfl
/-- object.__ne__ asks the class's own __eq__ -/
theorem objNe_body {b : Value} {Q : Fin → Shared → Prop} (room : A.units < cLine) (X : K.In s.heap) (I : InstAt s.heap x ox C od) (eqAt : findIn K (.ref C) "__eq__" = some (some (.ref f)))
    (fn : isFn K (.ref f) = true) (run : wpAny (model prog w) A (call (.ref f) [.ref x, b]) (fun v z => ∃ r, v = .bool r ∧ Q (.done (.ret (.bool (!r)))) z) E s) :
    wpAny (model prog w) A (Builtin.«object.__ne__» ⟨[.ref x, b], []⟩) Q E s := by
  have eqs : wpAny (model prog w) A (callSpecialIfBound? (.ref x) "__eq__" [b]) (Out fun v z => ∃ r, v = .bool r ∧ Q (.done (.ret (.bool (!r)))) z) E s :=
    ifBound_K X I eqAt fn (wpAny_mono run (fun v _ q => ⟨v, rfl, q⟩) fun _ _ e => e)
  delta Builtin.«object.__ne__»
  refine wpAny_bind (wpAny_pure (wpAny_bind (wpAny_cRoomFor room (got eqs fun v z q => ?_))))
  obtain ⟨r, rfl, q⟩ := q
  exact wpAny_bind (wpAny_truthy_bool (wpAny_pure q))
/-- object.__ne__ called on an instance -/
theorem objNe_call {b : Value} {Q : Value → Shared → Prop} (room : A.units + 1 < cLine) (X : K.In s.heap) (I : InstAt s.heap x ox C od) (eqAt : findIn K (.ref C) "__eq__" = some (some (.ref f)))
    (fn : isFn K (.ref f) = true) (base : mroIn K C (.type "object") = some true) (run : wpAny (model prog w) A.in1 (call (.ref f) [.ref x, b]) (fun v z => ∃ r, v = .bool r ∧ Q (.bool (!r)) z) E s) :
    wpAny (model prog w) A (call (.builtin "object.__ne__") [.ref x, b]) Q E s := by
  have isObj : Looks (model prog w) s.heap (isInstance (.ref x) (.type "object")) true := I.type.andThen (looks_mroIn X base)
  refine wpAny_call (codeAny_call_builtin (by decide +kernel) F.cmpEntry_ne (@check_slot (model prog w) _ _ s "object.__ne__" "object" "__ne__" (.ref x) [b] [] _ F.cmpKind_ne F.cmpSplit_ne isObj (F.cmpArgs_ne _ _) ?_))
  exact objNe_body (A := A.in1) (show A.units + 1 < cLine from room) X I eqAt fn (wpAny_mono run (fun v z ⟨r, e, q⟩ => ⟨r, e, q⟩) fun _ _ e => e)
/-- x != y by the class's own __eq__ -/
theorem ne_own {b tb : Value} {Q : Value → Shared → Prop} (room : A.units + 1 < cLine) (X : K.In s.heap) (I : InstAt s.heap x ox C od) (h2 : Looks (model prog w) s.heap (typeOf b) tb)
    (last : notFirst K C tb = true) (neAt : findIn K (.ref C) "__ne__" = some (some (.builtin "object.__ne__"))) (eqAt : findIn K (.ref C) "__eq__" = some (some (.ref f)))
    (fn : isFn K (.ref f) = true) (base : mroIn K C (.type "object") = some true) (run : wpAny (model prog w) A.in1 (call (.ref f) [.ref x, b]) (fun v z => ∃ r, v = .bool r ∧ Q (.bool (!r)) z) E s) :
    wpAny (model prog w) A (richCompare .NotEq (.ref x) b) Q E s := by
  refine cmp_left (by omega) (oneThing_ref ..) I.type h2 ?_ ?_
  · cases e : (Value.ref C != tb) with
    | false => exact .inl rfl
    | true =>
      refine .inr ⟨rfl, looks_subIn X ?_⟩
      unfold notFirst at last
      cases t : (tb == Value.ref C) with
      | true => rw [eq_of_beq t, bne_self_eq_false'] at e; cases e
      | false => rw [t, Bool.false_or] at last; exact eq_of_beq last
  · exact wpAny_bind (slot_call X I neAt ty_ne (objNe_call room X I eqAt fn base (wpAny_mono run (fun v z ⟨r, e, q⟩ => ⟨r, e, wpAny_pure ⟨_, rfl, q⟩⟩) fun _ _ e => e)))
/-- abs of an instance -/
theorem abs_own {Q : Value → Shared → Prop} (X : K.In s.heap) (I : InstAt s.heap x ox C od) (at_ : findIn K (.ref C) "__abs__" = some (some (.ref f))) (fn : isFn K (.ref f) = true)
    (run : wpAny (model prog w) A.in1 (call (.ref f) [.ref x]) Q E s) : wpAny (model prog w) A (call (.builtin "abs") [.ref x]) Q E s := by
  refine PySem.Calls.call_function_entry kind_abs plain_abs entry_abs (args_abs _) ?_
  delta Builtin.«abs»
  exact wpAny_bind (wpAny_pure (wpAny_bind (special_fn X I at_ (eq_of_beq fn) (wpAny_mono run (fun v z q => wpAny_pure ⟨_, rfl, q⟩) fun _ _ e => e))))
/-- int < C() and its kin: int's own method declines -/
theorem cmp_refl {op : CmpOp} {i : Int} {t : Tok} {idl : String} {Q : Value → Shared → Prop} (room : A.units + 1 < cLine) (X : K.In s.heap) (J : InstAt s.heap y oy D oe) (apart : subIn K (.ref D) (.type "int") = some false)
    (slot : Slot "int" (cmpInfo op).2.1 idl) (back : findIn K (.ref D) (cmpInfo op).2.2 = some (some (.ref f))) (fn : isFn K (.ref f) = true)
    (no : ∀ {E' Q' : Value → Shared → Prop}, Q' .notImplemented s → wpAny (model prog w) A (call (.builtin idl) [.int i t, .ref y]) Q' E' s)
    (run : wpAny (model prog w) A (call (.ref f) [.ref y, .int i t]) (PySem.W.CmpBack Q) E s) (two : oneThing? op (.int i t) (.ref y) = none) : wpAny (model prog w) A (richCompare op (.int i t) (.ref y)) Q E s := by
  refine cmp_right (ta := .type "int") (by omega) two (.of_pure rfl) J.type (by simp) (looks_subIn X apart) (fun q => ?_) ?_
  · exact wpAny_bind (wpAny_callSpecialIfBound?_slot (typeIs_int s i t) slot (no (wpAny_pure q)))
  · refine wpAny_bind (ifBound_K X J back fn (wpAny_mono run (fun v z q => ?_) fun _ _ e => e))
    cases v
    case notImplemented => exact q.elim
    all_goals exact wpAny_pure ⟨_, rfl, q⟩
/-- int != C() by C's own __eq__ -/
theorem ne_refl {i : Int} {t : Tok} {Q : Value → Shared → Prop} (room : A.units + 1 < cLine) (X : K.In s.heap) (J : InstAt s.heap y oy D oe) (plain : oy.data = .plain) (apart : subIn K (.ref D) (.type "int") = some false)
    (neAt : findIn K (.ref D) "__ne__" = some (some (.builtin "object.__ne__"))) (eqAt : findIn K (.ref D) "__eq__" = some (some (.ref f)))
    (fn : isFn K (.ref f) = true) (base : mroIn K D (.type "object") = some true) (run : wpAny (model prog w) A.in1 (call (.ref f) [.ref y, .int i t]) (fun v z => ∃ r, v = .bool r ∧ Q (.bool (!r)) z) E s) :
    wpAny (model prog w) A (richCompare .NotEq (.int i t) (.ref y)) Q E s := by
  refine cmp_right (ta := .type "int") (by omega) rfl (.of_pure rfl) J.type (by simp) (looks_subIn X apart) (fun q => ?_) ?_
  · exact wpAny_bind (wpAny_callSpecialIfBound?_slot (typeIs_int s i t) F.slot_int_ne (no_ne J.at_ plain (wpAny_pure q)))
  · exact wpAny_bind (slot_call X J neAt ty_ne (objNe_call room X J eqAt fn base (wpAny_mono run (fun v z ⟨r, e, q⟩ => ⟨r, e, wpAny_pure ⟨_, rfl, q⟩⟩) fun _ _ e => e)))
end
end Py

set_option linter.all false
set_option Elab.async false
set_option maxRecDepth 100000
set_option maxHeartbeats 2000017
/-! The evaluator's operators are the model's. -/
namespace Py
open L2 PyProof.Rows PySem.Spec PySem
section
variable {T : Tx} {P : Prog} {d : Nat} {X : Cx} {W : L2.WX} {pins : List (Addr × Obj)} {σ : L2.St} {H : Hp} {s : Shared} {G : Gh} {h : EH} {Q : VK}
/-! ### types -/
theorem sqT_ty (R : Rel T G h H) {a : Addr} {ys : List V} (q : SqT T.K G.F a ys) : TyX T.K H (.ref a) (.type "tuple") := by
  rcases q with (q | ⟨o, q⟩) | ⟨o, its, n, e, c, _⟩
  · exact .base (.tup (R.ext _ _ q))
  · exact .fTuple (R.ext _ _ q)
  · exact .kTuple e c
theorem sqL_ty (R : Rel T G h H) {a : Addr} {ys : List V} (q : SqL T.K G.F a ys) : TyX T.K H (.ref a) (.type "list") := by
  rcases q with (q | ⟨o, q⟩) | ⟨o, its, n, e, c, _⟩
  · exact .base (.lst (R.ext _ _ q))
  · exact .base (.frz (R.ext _ _ q))
  · exact .kList e c
theorem ty_of (R : Rel T G h H) {x : PV} {v : V} (rx : RepV T G x v) {n : String} (e : tyOf h x = some n) : TyX T.K H v (.type n) ∧ n ∈ tyNames := by
  cases x with
  | non => cases rx; cases e; exact ⟨.base .non, by decide⟩
  | bl b => cases rx; cases e; exact ⟨.base (.bl b), by decide⟩
  | int i => cases rx; cases e; exact ⟨.base (.int i), by decide⟩
  | str i => cases rx; cases e; exact ⟨.base (.str i), by decide⟩
  | ty _ => cases e
  | tup xs => obtain ⟨a, ys, rfl, q, _⟩ := rx; cases e; exact ⟨sqT_ty R q.sq, by decide⟩
  | lst xs => obtain ⟨a, ys, rfl, q, _⟩ := rx; cases e; exact ⟨.base (.lst (R.ext _ _ q)), by decide⟩
  | dct xs => obtain ⟨a, ys, rfl, q, _⟩ := rx; cases e; exact ⟨.base (.dK (R.ext _ _ q)), by decide⟩
  | obj c fs => cases e
  | cls c => cases e
  | fn c => cases e
  | scr ns => obtain ⟨a, rfl, q⟩ := rx; cases e; exact ⟨sqL_ty R q, by decide⟩
  | loc k =>
    obtain ⟨a, rfl, q⟩ := rx
    unfold tyOf at e
    dsimp only at e
    cases z : hget k h with
    | none => rw [z] at e; cases e
    | some o =>
      rw [z] at e
      obtain ⟨b, q2, r⟩ := R.ob k o z
      rw [q] at q2; cases q2
      cases o with
      | lst xs => obtain ⟨_, ys, r, _⟩ := r; cases e; exact ⟨.base (.lst r), by decide⟩
      | dct xs => obtain ⟨_, ys, r, _⟩ := r; cases e; exact ⟨.base (.dK r), by decide⟩
      | ldct xs => obtain ⟨_, o, ys, r, _⟩ := r; cases e; exact ⟨.fDict r, by decide⟩
      | ins c fs => cases e
      | dead => cases e
theorem ty_ins (Tt : Txt T P X.mg) (R : Rel T G h H) {x : PV} {v : V} (rx : RepV T G x v) {c : Nm} {fs : List (Nm × PV)} (e : asIns h x = some (c, fs)) {cd : CDef} (hc : P.cls c = some cd) (hx : cd.ex = none) : TyX T.K H v (.ref (T.ad c)) := by
  obtain ⟨a, dx, ys, rfl, q, _⟩ := ins_of R rx e
  obtain ⟨_, i⟩ := Tt.cls c cd hc
  have i := i hx
  exact .base (.ins q i.cls i.ha i.hn i.htk i.hm)
/-- the type, in the model's heap -/
theorem looks_ty (Gd : GoodX T P d X) (I : Inv X pins σ H s) {v : V} {u t : Value} (ru : RelV v u) (q : TyX T.K H v t) : PySem.W.Looks (model X.prog X.w) s.heap (typeOf u) t := by
  have q' : TyX X.K H v t := by rw [Gd.K]; exact q
  obtain ⟨Z, kx, z, _⟩ := kit_of I ru q'
  exact kx.ty _ _ I.kIn z
/-! ### operators -/
theorem bo_dun (Tt : Txt T P X.mg) (o : BO) : T.st o.dun = PySem.dunder o.op.info.2 := by cases o <;> exact Tt.bo _
theorem bo_rev (Tt : Txt T P X.mg) (o : BO) : T.st o.rev = PySem.dunderR o.op.info.2 := by cases o <;> exact Tt.bor _
theorem inst_inv {e : Nm} (ok : P.inst e = true) : ∃ ce, P.cls e = some ce ∧ ce.ex = none := by
  unfold Prog.inst at ok
  cases q : P.cls e with
  | none => rw [q] at ok; cases ok
  | some ce =>
    rw [q] at ok
    exact ⟨ce, rfl, Option.isNone_iff_eq_none.mp ok⟩
/-- an instance on the left -/
theorem bin1_ins (Gd : GoodX T P d X) (tk : Takes X W) (I : Inv X pins σ H s) (R : Rel T G h H) {o : BO} {x y : PV} {vx vy : V} {ux uy : Value} (rx : RepV T G x vx) (ry : RepV T G y vy) (sx : RelV vx ux) (sy : RelV vy uy) (ok : okB (cx P d) h y = true)
    (q : OkR T σ W G H (callM (cx P d) x o.dun [y] [] h) (KV T Q)) : wpAny (model X.prog X.w) X.A (binaryOp1 o.op.info.2 ux uy) (fun r s2 => ∃ v, r = some v ∧ EP X pins σ Q v s2) X.xe s := by
  obtain ⟨c, fs, cd, f, e1, e2, e3, e4, e5, q⟩ := callM_inv q
  obtain ⟨a, dx, ys, rfl, ha, rf⟩ := ins_of R rx e1
  cases sx
  obtain ⟨od, J⟩ := inst_of Gd I ha
  have Tt := Gd.txt
  have e3' : P.cls c = some cd := e3
  have IO := (Tt.cls c cd e3').2 e4
  have kin : T.K.In s.heap := Gd.K ▸ I.kIn
  obtain ⟨M, _⟩ := IO.meth _ _ e5
  have hd : (look o.dun cd.ms).isSome := by rw [e5]; rfl
  have go : wpAny (model X.prog X.w) X.A (call (.ref (T.ad f)) [.ref a, uy]) (PySem.W.CmpBack (EP X pins σ Q)) X.xe s :=
    thn (callD_pos Gd tk I R (RepL.cons rx (RepL.one ry)) (.cons rfl (.cons sy .nil)) q) fun u s' h => back h
  have m1 := M.at_
  rw [bo_dun Tt] at m1
  obtain ⟨rc, h1, h2⟩ := IO.rfl_ o hd
  rw [bo_rev Tt] at h1
  unfold okB at ok
  cases ey : asIns h y with
  | none =>
    rw [ey] at ok
    cases ty : tyOf h y with
    | none => rw [ty] at ok; cases ok
    | some n =>
      obtain ⟨tx, tn⟩ := ty_of R ry ty
      obtain ⟨fo, ro, b1, b2⟩ := IO.bt o hd n tn
      rw [bo_dun Tt] at b1
      rw [bo_rev Tt] at b2
      exact bin1_type kin J (looks_ty Gd I sy tx) IO.self m1 M.fn h1 h2 b1 b2 (IO.sTy n tn) go
  | some p =>
    obtain ⟨e, gs⟩ := p
    obtain ⟨b, dy, zs, rfl, hb, rg⟩ := ins_of R ry ey
    cases sy
    obtain ⟨oe, J2⟩ := inst_of Gd I hb
    by_cases hce : e = c
    · subst hce
      exact bin1_same kin J J2.type IO.self m1 M.fn go
    · rw [ey] at ok
      obtain ⟨ce, p1, p2⟩ := inst_inv ok
      have IE := (Tt.cls e ce p1).2 p2
      obtain ⟨s1, s2⟩ := IO.sOwn e ce p1 p2 hce
      exact bin1_own kin J J2 s2 IO.self m1 M.fn h1 h2 s1 (IO.ob o hd e ce p1 p2 hce) go
theorem bin_ins (Gd : GoodX T P d X) (tk : Takes X W) (I : Inv X pins σ H s) (R : Rel T G h H) {o : BO} {x y : PV} {vx vy : V} {ux uy : Value} (rx : RepV T G x vx) (ry : RepV T G y vy) (sx : RelV vx ux) (sy : RelV vy uy) (ok : okB (cx P d) h y = true)
    (q : OkR T σ W G H (callM (cx P d) x o.dun [y] [] h) (KV T Q)) : wpAny (model X.prog X.w) X.A (binaryOp o.op ux uy) (EP X pins σ Q) X.xe s := bin_of1 (bin1_ins Gd tk I R rx ry sx sy ok q)
/-- x op= y, x an instance -/
theorem iop_ins (Gd : GoodX T P d X) (tk : Takes X W) (I : Inv X pins σ H s) (R : Rel T G h H) {o : BO} {x y : PV} {vx vy : V} {ux uy : Value} (rx : RepV T G x vx) (ry : RepV T G y vy) (sx : RelV vx ux) (sy : RelV vy uy) (ok : okB (cx P d) h y = true) (hi : o.ipB = true)
    (q : OkR T σ W G H (callM (cx P d) x o.dun [y] [] h) (KV T Q)) : wpAny (model X.prog X.w) X.A (inplaceOp o.op ux uy) (EP X pins σ Q) X.xe s := by
  obtain ⟨c, fs, cd, f, e1, e2, e3, e4, e5, q2⟩ := callM_inv q
  obtain ⟨a, dx, ys, rfl, ha, rf⟩ := ins_of R rx e1
  cases sx
  obtain ⟨od, J⟩ := inst_of Gd I ha
  have kin : T.K.In s.heap := Gd.K ▸ I.kIn
  obtain ⟨ce, c1, c2⟩ := ((Gd.txt.cls c cd e3).2 e4).ip o hi
  exact iop_of1 J (noIp kin c1 c2) (bin1_ins Gd tk I R rx ry rfl sy ok q)
/-- an int on the left -/
theorem int_ins (Gd : GoodX T P d X) (tk : Takes X W) (I : Inv X pins σ H s) (R : Rel T G h H) {o : BO} {i : Int} {y : PV} {vx vy : V} {ux uy : Value} (rx : RepV T G (.int i) vx) (ry : RepV T G y vy) (sx : RelV vx ux) (sy : RelV vy uy) (ho : o ≠ .bor)
    (q : OkR T σ W G H (callM (cx P d) y o.rev [.int i] [] h) (KV T Q)) : wpAny (model X.prog X.w) X.A (binaryOp o.op ux uy) (EP X pins σ Q) X.xe s := by
  obtain ⟨c, fs, cd, f, e1, e2, e3, e4, e5, q⟩ := callM_inv q
  obtain ⟨a, dx, ys, rfl, ha, rf⟩ := ins_of R ry e1
  cases sy
  cases rx
  obtain ⟨t, rfl⟩ := sx
  obtain ⟨od, J⟩ := inst_of Gd I ha
  have Tt := Gd.txt
  have e3' : P.cls c = some cd := e3
  have IO := (Tt.cls c cd e3').2 e4
  have kin : T.K.In s.heap := Gd.K ▸ I.kIn
  obtain ⟨M, _⟩ := IO.meth _ _ e5
  have go : wpAny (model X.prog X.w) X.A (call (.ref (T.ad f)) [.ref a, .int i t]) (PySem.W.CmpBack (EP X pins σ Q)) X.xe s :=
    thn (callD_pos Gd tk I R (RepL.cons ry (RepL.one (x := .int i) (y := .int i) rfl)) (.cons rfl (.cons (show RelV (.int i) (.int i t) from ⟨t, rfl⟩) .nil)) q) fun u s' h => back h
  have m1 := M.at_
  rw [bo_rev Tt] at m1
  obtain ⟨g, h1⟩ := IO.fwd o (by rw [e5]; rfl)
  rw [bo_dun Tt] at h1
  have at_ := J.at_
  cases o with
  | add => exact bin_refl kin J IO.self F.fills_int_add IO.sInt F.slot_int_add h1 m1 M.fn (fun h => no_add at_ rfl h) go
  | sub => exact bin_refl kin J IO.self F.fills_int_sub IO.sInt F.slot_int_sub h1 m1 M.fn (fun h => no_sub at_ rfl h) go
  | mul => exact bin_refl kin J IO.self F.fills_int_mul IO.sInt F.slot_int_mul h1 m1 M.fn (fun h => no_mul at_ rfl h) go
  | fdiv => exact bin_refl kin J IO.self F.fills_int_floordiv IO.sInt F.slot_int_floordiv h1 m1 M.fn (fun h => no_floordiv at_ rfl h) go
  | mod => exact bin_refl kin J IO.self F.fills_int_mod IO.sInt F.slot_int_mod h1 m1 M.fn (fun h => no_mod at_ rfl h) go
  | pow => exact bin_refl kin J IO.self F.fills_int_pow IO.sInt F.slot_int_pow h1 m1 M.fn (fun h => no_pow at_ rfl h) go
  | bor => exact absurd rfl ho
theorem bin_int (I : Inv X pins σ H s) {o : BO} {i j k : Int} {ux uy : Value} (sx : RelV (.int i) ux) (sy : RelV (.int j) uy) (e : intBin o i j = some k) (q : Q (.int k) H) : wpAny (model X.prog X.w) X.A (binaryOp o.op ux uy) (EP X pins σ Q) X.xe s := by
  cases o with
  | add => cases e; exact op_add pins s σ H _ _ ux uy Q I sx sy ⟨i, j, rfl, rfl, q⟩
  | sub => cases e; exact op_sub pins s σ H _ _ ux uy Q I sx sy ⟨i, j, rfl, rfl, q⟩
  | mul =>
    unfold intBin at e
    dsimp only at e
    split at e
    · rename_i hc; cases e; exact op_mulW pins s σ H _ _ ux uy Q I sx sy ⟨i, j, rfl, rfl, hc, q⟩
    · cases e
  | fdiv =>
    unfold intBin at e
    dsimp only at e
    split at e
    · rename_i hc
      cases e
      obtain ⟨t, rfl⟩ := sx
      obtain ⟨t', rfl⟩ := sy
      exact floordiv_int hc.1 ⟨.int _, H, I.tok _, ⟨_, rfl⟩, q⟩ (.inl (PyProof.noPylong_of_log2 hc.2))
    · cases e
  | mod =>
    unfold intBin at e
    dsimp only at e
    split at e
    · rename_i hc; cases e; exact op_modN pins s σ H _ _ ux uy Q I sx sy ⟨i, j, rfl, rfl, hc, q⟩
    · cases e
  | pow =>
    unfold intBin at e
    dsimp only at e
    split at e
    · rename_i hc; cases e; exact op_pow pins s σ H _ _ ux uy Q I sx sy ⟨i, j, rfl, rfl, hc, q⟩
    · cases e
  | bor => cases e
theorem RepV.list {G : Gh} {xs : List PV} {ys : List V} {p : Addr} (r : RepL T (G.put p (.lst ys)) xs ys) : RepV T (G.put p (.lst ys)) (.lst xs) (.ref p) := ⟨p, ys, rfl, upd_same, r⟩
theorem RepV.tupl {G : Gh} {xs : List PV} {ys : List V} {p : Addr} (r : RepL T (G.put p (.tup ys)) xs ys) : RepV T (G.put p (.tup ys)) (.tup xs) (.ref p) := ⟨p, ys, rfl, .inl upd_same, r⟩
/-- a op b -/
theorem opBin_ok (Gd : GoodX T P d X) (tk : Takes X W) (I : Inv X pins σ H s) (R : Rel T G h H) {o : BO} {x y : PV} {vx vy : V} {ux uy : Value} (rx : RepV T G x vx) (ry : RepV T G y vy) (sx : RelV vx ux) (sy : RelV vy uy)
    (q : OkR T σ W G H (opBin (cx P d) o x y h) (KV T Q)) : wpAny (model X.prog X.w) X.A (binaryOp o.op ux uy) (EP X pins σ Q) X.xe s := by
  have ins : ∀ {x : PV}, RepV T G x vx → (OkR T σ W G H (if okB (cx P d) h y then callM (cx P d) x o.dun [y] [] h else .stuck) (KV T Q)) → wpAny (model X.prog X.w) X.A (binaryOp o.op ux uy) (EP X pins σ Q) X.xe s := fun rx q => by
    split at q
    · rename_i ok; exact bin_ins Gd tk I R rx ry sx sy ok q
    · exact q.elim
  cases x with
  | int i =>
    have rx0 := rx
    cases rx
    by_cases hj : ∃ j, y = .int j
    · obtain ⟨j, rfl⟩ := hj
      cases ry
      unfold opBin at q
      dsimp only at q
      cases e : intBin o i j with
      | none => rw [e] at q; exact q.elim
      | some k => rw [e] at q; exact bin_int I sx sy e (q.val R rfl)
    · have q' : OkR T σ W G H (match o with | .bor => .stuck | o => callM (cx P d) y o.rev [.int i] [] h) (KV T Q) := by
        cases y with
        | int j => exact absurd ⟨j, rfl⟩ hj
        | _ => exact q
      cases o with
      | bor => exact q'.elim
      | _ => exact int_ins Gd tk I R rx0 ry sx sy (fun z => nomatch z) q'
  | str i =>
    cases y with
    | str j =>
      cases rx; cases ry
      cases o with
      | add =>
        unfold opBin at q
        dsimp only at q
        split at q
        · rename_i hb
          exact op_add_str pins s σ H _ _ ux uy Q I sx sy ⟨i, j, rfl, rfl, Nat.le_trans hb big_le, q.val R rfl⟩
        · exact q.elim
      | _ => exact q.elim
    | _ => exact ins rx q
  | lst xs =>
    cases y with
    | lst zs =>
      obtain ⟨a, ys, rfl, fa, ra⟩ := rx
      obtain ⟨b, ws, rfl, fb, rb⟩ := ry
      cases o with
      | add =>
        unfold opBin at q
        dsimp only at q
        split at q
        · rename_i hb
          refine op_cat pins s σ H _ _ ux uy Q I sx sy ⟨a, b, ys, ws, rfl, rfl, R.ext _ _ fa, R.ext _ _ fb, ?_, fun p hp => ?_⟩
          · rw [← ra.length, ← rb.length]; exact Nat.le_trans hb big_le
          · exact q.newp R hp (RepV.list ((ra.append rb).le (Le.put (R.fresh hp).1)))
        · exact q.elim
      | _ => exact q.elim
    | _ => exact ins rx q
  | tup xs =>
    cases y with
    | tup zs =>
      have rx0 := rx
      have ry0 := ry
      obtain ⟨a, ys, rfl, fa, ra⟩ := rx
      obtain ⟨b, ws, rfl, fb, rb⟩ := ry
      cases o with
      | add =>
        unfold opBin at q
        dsimp only at q
        split at q
        · rename_i hb
          refine op_catA pins s σ H _ _ ux uy Q I sx sy ⟨a, b, ys, ws, rfl, rfl, Gd.K ▸ L2.SqT.ext fa.sq R.ext, Gd.K ▸ L2.SqT.ext fb.sq R.ext, ?_, fun e => ?_, fun _ e => ?_, fun _ _ p hp => ?_⟩
          · rw [← ra.length, ← rb.length]; exact Nat.le_trans hb big_le
          · have : xs = [] := List.eq_nil_of_length_eq_zero (by rw [ra.length, e]; rfl)
            subst this
            exact q.val R ry0
          · have : zs = [] := List.eq_nil_of_length_eq_zero (by rw [rb.length, e]; rfl)
            subst this
            rw [List.append_nil] at q
            exact q.val R rx0
          · exact q.newp R hp (RepV.tupl ((ra.append rb).le (Le.put (R.fresh hp).1)))
        · exact q.elim
      | _ => exact q.elim
    | _ => exact ins rx q
  | _ => exact ins rx q
theorem declines_inv {C : Cxt} {x y : PV} {m : Nm} (q : declines C x m y h = true) : ∃ c fs cd f fd g, asIns h x = some (c, fs) ∧ look m fs = none ∧ C.P.cls c = some cd ∧ cd.ex = none ∧ look m cd.ms = some f ∧ C.P.fn f = some fd ∧ guardOf fd.body = some g ∧ (2, []) ∈ fd.sh ∧ fd.ps.length = 2 ∧ (C.P.fn g).isSome ∧ callD C.low g [y] [] h = .ok (.bl false) h := by
  unfold declines at q
  cases e1 : asIns h x with
  | none => rw [e1] at q; cases q
  | some p =>
    obtain ⟨c, fs⟩ := p
    rw [e1] at q
    dsimp only at q
    cases e2 : look m fs with
    | some _ => rw [e2] at q; cases q
    | none =>
      rw [e2] at q
      dsimp only at q
      unfold Prog.meth at q
      cases e3 : C.P.cls c with
      | none => rw [e3] at q; cases q
      | some cd =>
        rw [e3] at q
        dsimp only at q
        cases e4 : cd.ex with
        | some _ => rw [e4] at q; cases q
        | none =>
          rw [e4] at q
          dsimp only at q
          cases e5 : look m cd.ms with
          | none => rw [e5] at q; cases q
          | some f =>
            rw [e5] at q
            dsimp only at q
            cases e6 : C.P.fn f with
            | none => rw [e6] at q; cases q
            | some fd =>
              rw [e6] at q
              dsimp only at q
              cases e7 : guardOf fd.body with
              | none => rw [e7] at q; cases q
              | some g =>
                rw [e7] at q
                dsimp only at q
                split at q
                · rename_i hc
                  exact ⟨c, fs, cd, f, fd, g, rfl, e2, e3, e4, e5, e6, e7, hc.1, hc.2.1, hc.2.2.1, hc.2.2.2⟩
                · cases q
/-- a op b, where the right one's def may answer -/
theorem opBinR_ok (Gd : GoodX T P d X) (tk : Takes X W) (I : Inv X pins σ H s) (R : Rel T G h H) {o : BO} {x y : PV} {vx vy : V} {ux uy : Value} (rx : RepV T G x vx) (ry : RepV T G y vy) (sx : RelV vx ux) (sy : RelV vy uy)
    (q : OkR T σ W G H (opBinR (cx P d) o x y h) (KV T Q)) : wpAny (model X.prog X.w) X.A (binaryOp o.op ux uy) (EP X pins σ Q) X.xe s := by
  unfold opBinR at q
  split at q
  · rename_i hdec
    obtain ⟨c, fs, cd, f, fd, g, e1, e2, e3, e4, e5, e6, e7, e8, e9, e10, e11⟩ := declines_inv hdec
    rw [e1] at q
    dsimp only at q
    cases ey : asIns h y with
    | none => rw [ey] at q; exact q.elim
    | some p =>
      obtain ⟨e, gs⟩ := p
      rw [ey] at q
      dsimp only at q
      split at q
      · rename_i hc
        obtain ⟨hin, hne⟩ := hc
        obtain ⟨c2, fs2, cd2, f2, k1, k2, k3, k4, k5, q⟩ := callM_inv q
        rw [ey] at k1
        cases k1
        obtain ⟨a, dx, ys, rfl, ha, rf⟩ := ins_of R rx e1
        obtain ⟨b, dy, zs, rfl, hb, rg⟩ := ins_of R ry ey
        cases sx
        cases sy
        obtain ⟨od, J⟩ := inst_of Gd I ha
        obtain ⟨oe, J2⟩ := inst_of Gd I hb
        have Tt := Gd.txt
        have e3' : P.cls c = some cd := e3
        have k3' : P.cls e = some cd2 := k3
        have IO := (Tt.cls c cd e3').2 e4
        have IE := (Tt.cls e cd2 k3').2 k4
        have kin : T.K.In s.heap := Gd.K ▸ I.kIn
        obtain ⟨M, _⟩ := IO.meth _ _ e5
        obtain ⟨M2, _⟩ := IE.meth _ _ k5
        have m1 := M.at_
        rw [bo_dun Tt] at m1
        have m2 := M2.at_
        rw [bo_rev Tt] at m2
        obtain ⟨rc, h1, h2⟩ := IO.rfl_ o (by rw [e5]; rfl)
        rw [bo_rev Tt] at h1
        obtain ⟨fD, h3⟩ := IE.fwd o (by rw [k5]; rfl)
        rw [bo_dun Tt] at h3
        obtain ⟨s1, s2⟩ := IO.sOwn e cd2 k3' k4 hne
        refine bin_of1 (bin1_back (N := fun z => ∃ H' G', Inv X pins σ H' z ∧ Ev G H G' H' ∧ Rel T G' h H') kin J J2 s2 IO.self m1 M.fn h1 h2 s1 IE.self h3 m2 M2.fn ?_ fun z hz => ?_)
        · have e0 := I.env0
          rw [Gd.K] at e0
          have dr := (Gd.fns f fd e6).dec g e7 X.A X.stack s H G h x y (.ref a) (.ref b) (.ref a) (.ref b) (fun H' => ∃ G', Ev G H G' H' ∧ Rel T G' h H') Gd.room e0 R rx ry rfl rfl e8 e9 e11 e10 fun G' H' ev R' => ⟨G', ev, R'⟩
          refine wpAny_call (codeAny_mono dr fun r z hz => ?_)
          obtain ⟨rfl, ce⟩ := hz
          obtain ⟨_, H', I', _, G', ev, R'⟩ := I.after ce
          exact ⟨rfl, H', G', I', ev, R'⟩
        · obtain ⟨H', G', I', ev, R'⟩ := hz
          obtain ⟨a', dx', ys', ea, ha', _⟩ := ins_of R' (rx.le ev.le) e1
          cases ea
          obtain ⟨b', dy', zs', eb, hb', _⟩ := ins_of R' (ry.le ev.le) ey
          cases eb
          obtain ⟨od3, J3⟩ := inst_of Gd I' ha'
          obtain ⟨oe3, J4⟩ := inst_of Gd I' hb'
          exact ⟨Gd.K ▸ I'.kIn, ⟨_, _, J3⟩, ⟨_, _, J4⟩, thn (callD_pos Gd tk I' R' (RepL.cons (ry.le ev.le) (RepL.one (rx.le ev.le))) (.cons rfl (.cons rfl .nil)) (OkR.ev q ev)) fun u s' h => back h⟩
      · exact q.elim
  · exact opBin_ok Gd tk I R rx ry sx sy q
end
end Py

set_option linter.all false
set_option Elab.async false
set_option maxRecDepth 100000
set_option maxHeartbeats 2000017
/-! The evaluator's comparisons are the model's. -/
namespace Py
open L2 PyProof.Rows PySem.Spec PySem
def CO.op : CO → CmpOp
  | .eq => .Eq | .ne => .NotEq | .lt => .Lt | .le => .LtE | .gt => .Gt | .ge => .GtE | .isn => .Is | .isnt => .IsNot | .inn => .In | .nin => .NotIn
section
variable {T : Tx} {P : Prog} {d : Nat} {X : Cx} {W : L2.WX} {pins : List (Addr × Obj)} {σ : L2.St} {H : Hp} {s : Shared} {G : Gh} {h : EH} {Q : VK}
theorem Rd.ext (R : Rel T G h H) {a : Addr} {u : HO} (q : Rd G.F a u) : Rd H a u := q.elim (fun q => .inl (R.ext _ _ q)) fun ⟨o, q⟩ => .inr ⟨o, R.ext _ _ q⟩
theorem SqL.ext (R : Rel T G h H) {a : Addr} {xs : List V} (q : SqL T.K G.F a xs) : SqL T.K H a xs := q.elim (fun q => .inl (Rd.ext R q)) .inr
theorem SqT.ext (R : Rel T G h H) {a : Addr} {xs : List V} (q : SqT T.K G.F a xs) : SqT T.K H a xs := q.elim (fun q => .inl (Rd.ext R q)) .inr
/-- -x -/
theorem neg_ok (Gd : GoodX T P d X) (tk : Takes X W) (I : Inv X pins σ H s) (R : Rel T G h H) {x : PV} {vx : V} {ux : Value} (rx : RepV T G x vx) (sx : RelV vx ux)
    (q : OkR T σ W G H (opNeg (cx P d) x h) (KV T Q)) : wpAny (model X.prog X.w) X.A (unaryOp .USub ux) (EP X pins σ Q) X.xe s := by
  by_cases hi : ∃ i, x = .int i
  · obtain ⟨i, rfl⟩ := hi
    cases rx
    exact un_neg pins s σ H _ ux Q I sx ⟨i, rfl, q.val R rfl⟩
  · have q' : OkR T σ W G H (callM (cx P d) x .__neg__ [] [] h) (KV T Q) := by
      cases x with
      | int i => exact absurd ⟨i, rfl⟩ hi
      | _ => exact q
    obtain ⟨c, fs, cd, f, e1, e2, e3, e4, e5, q'⟩ := callM_inv q'
    obtain ⟨a, dx, ys, rfl, ha, rf⟩ := ins_of R rx e1
    cases sx
    obtain ⟨od, J⟩ := inst_of Gd I ha
    have IO := (Gd.txt.cls c cd e3).2 e4
    obtain ⟨M, _⟩ := IO.meth _ _ e5
    obtain ⟨m, hfr⟩ := I.fr
    exact PySem.W.ksp_neg hfr (Gd.K ▸ I.ok.mod.kin) J (Gd.txt.dun.2.2.2.2.2.1 ▸ M.at_) M.fn (callD_pos Gd tk I R (RepL.one rx) (.cons rfl .nil) q')
theorem pos_ok (Gd : GoodX T P d X) (tk : Takes X W) (I : Inv X pins σ H s) (R : Rel T G h H) {x : PV} {vx : V} {ux : Value} (rx : RepV T G x vx) (sx : RelV vx ux)
    (q : OkR T σ W G H (opPos (cx P d) x h) (KV T Q)) : wpAny (model X.prog X.w) X.A (unaryOp .UAdd ux) (EP X pins σ Q) X.xe s := by
  obtain ⟨c, fs, cd, f, e1, e2, e3, e4, e5, q'⟩ := callM_inv q
  obtain ⟨a, dx, ys, rfl, ha, rf⟩ := ins_of R rx e1
  cases sx
  obtain ⟨od, J⟩ := inst_of Gd I ha
  have IO := (Gd.txt.cls c cd e3).2 e4
  obtain ⟨M, _⟩ := IO.meth _ _ e5
  obtain ⟨m, hfr⟩ := I.fr
  exact PySem.W.ksp_pos hfr (Gd.K ▸ I.ok.mod.kin) J (Gd.txt.dun.2.2.2.2.2.2.1 ▸ M.at_) M.fn (callD_pos Gd tk I R (RepL.one rx) (.cons rfl .nil) q')
/-! ### equality of data -/
mutual
theorem dat_ok (R : Rel T G h H) : ∀ {x : PV} {v : V} {e : PyData}, RepV T G x v → dat x = some e → Dp T.K H v e
  | .non, _, _, rx, q => by cases rx; cases q; exact .non
  | .bl b, _, _, rx, q => by cases rx; cases q; exact .bl b
  | .int i, _, _, rx, q => by cases rx; cases q; exact .int i
  | .str i, _, _, rx, q => by cases rx; cases q; exact .str i
  | .ty _, _, _, _, q => by cases q
  | .tup xs, _, _, ⟨a, ys, e, s, r⟩, q => by
    cases e
    unfold dat at q
    cases z : datL xs with
    | none => rw [z] at q; cases q
    | some ds => rw [z] at q; cases q; exact .tup (SqT.ext R s.sq) (datL_ok R r z)
  | .lst xs, _, _, ⟨a, ys, e, s, r⟩, q => by
    cases e
    unfold dat at q
    cases z : datL xs with
    | none => rw [z] at q; cases q
    | some ds => rw [z] at q; cases q; exact .lst (.inl (.inl (R.ext _ _ s))) (datL_ok R r z)
  | .dct _, _, _, _, q => by cases q
  | .obj _ _, _, _, _, q => by cases q
  | .cls _, _, _, _, q => by cases q
  | .fn _, _, _, _, q => by cases q
  | .scr _, _, _, _, q => by cases q
  | .loc _, _, _, _, q => by cases q
theorem datL_ok (R : Rel T G h H) : ∀ {xs : List PV} {vs : List V} {es : List PyData}, RepL T G xs vs → datL xs = some es → DpAll T.K H vs es
  | [], _, _, r, q => by cases r; cases q; exact .nil
  | x :: xs, _, _, ⟨y, q1, e, h1, t1⟩, q => by
    subst e
    unfold datL at q
    cases z1 : dat x with
    | none => rw [z1] at q; cases q
    | some d1 =>
      cases z2 : datL xs with
      | none => rw [z1, z2] at q; cases q
      | some d2 => rw [z1, z2] at q; cases q; exact .cons (dat_ok R h1 z1) (datL_ok R t1 z2)
end
theorem norm_ok (R : Rel T G h H) {x : PV} {v : V} {e : PyData} (rx : RepV T G x v) (q : dat (norm h x) = some e) : Dp T.K H v e := by
  cases x with
  | loc n =>
    obtain ⟨a, rfl, m⟩ := rx
    unfold norm at q
    dsimp only at q
    cases z : hget n h with
    | none => rw [z] at q; cases q
    | some o =>
      rw [z] at q
      obtain ⟨b, m2, r⟩ := R.ob n o z
      rw [m] at m2; cases m2
      cases o with
      | lst xs =>
        obtain ⟨_, ys, e1, r⟩ := r
        dsimp only at q
        unfold dat at q
        cases z : datL xs with
        | none => rw [z] at q; cases q
        | some ds => rw [z] at q; cases q; exact .lst (.inl (.inl e1)) (datL_ok R r z)
      | _ => cases q
  | _ => exact dat_ok R rx q
theorem scal_ok {x y : PV} {vx vy : V} (rx : RepV T G x vx) (ry : RepV T G y vy) {b : Bool} (e : scalP x y = some b) : scal vx vy = true ∧ decide (vx = vy) = b := by
  cases x <;> cases y <;> first | (cases e; done) | (cases rx; cases ry; cases e; first | exact ⟨rfl, rfl⟩ | exact ⟨rfl, by simp⟩)

theorem cmp_dun (Tt : Txt T P X.mg) {o : CO} (ho : o = .eq ∨ o = .lt ∨ o = .le ∨ o = .gt ∨ o = .ge) : T.st o.dun = (cmpInfo o.op).2.1 := by
  obtain ⟨d1, d2, d3, d4, d5, _⟩ := Tt.dun
  rcases ho with rfl | rfl | rfl | rfl | rfl
  · exact d1
  · exact d2
  · exact d3
  · exact d4
  · exact d5
theorem cmp_rev (Tt : Txt T P X.mg) {o : CO} (ho : o = .eq ∨ o = .lt ∨ o = .le ∨ o = .gt ∨ o = .ge) : T.st o.rev = (cmpInfo o.op).2.2 := by
  obtain ⟨d1, d2, d3, d4, d5, _⟩ := Tt.dun
  rcases ho with rfl | rfl | rfl | rfl | rfl
  · exact d1
  · exact d4
  · exact d5
  · exact d2
  · exact d3
/-- the other side's type, and that it has no say first -/
theorem other_ty (Gd : GoodX T P d X) (I : Inv X pins σ H s) (R : Rel T G h H) {y : PV} {vy : V} {uy : Value} (ry : RepV T G y vy) (sy : RelV vy uy) (ok : okB (cx P d) h y = true) {c : Nm} {cd : CDef} (hc : P.cls c = some cd) (hx : cd.ex = none) :
    ∃ tb, PySem.W.Looks (model X.prog X.w) s.heap (typeOf uy) tb ∧ PySem.W.notFirst T.K (T.ad c) tb = true := by
  have IO := (Gd.txt.cls c cd hc).2 hx
  unfold okB at ok
  cases ey : asIns h y with
  | none =>
    rw [ey] at ok
    cases ty : tyOf h y with
    | none => rw [ty] at ok; cases ok
    | some n =>
      obtain ⟨tx, tn⟩ := ty_of R ry ty
      exact ⟨_, looks_ty Gd I sy tx, by unfold PySem.W.notFirst; rw [IO.sTy n tn]; simp⟩
  | some p =>
    obtain ⟨e, gs⟩ := p
    rw [ey] at ok
    obtain ⟨ce, p1, p2⟩ := inst_inv ok
    refine ⟨_, looks_ty Gd I sy (ty_ins Gd.txt R ry ey p1 p2), ?_⟩
    unfold PySem.W.notFirst
    by_cases hce : e = c
    · subst hce; simp
    · rw [(IO.sOwn e ce p1 p2 hce).1]; simp
/-- an instance's own comparison -/
theorem cmp_ins (Gd : GoodX T P d X) (tk : Takes X W) (I : Inv X pins σ H s) (R : Rel T G h H) {o : CO} (ho : o = .eq ∨ o = .lt ∨ o = .le ∨ o = .gt ∨ o = .ge) {x y : PV} {vx vy : V} {ux uy : Value} (rx : RepV T G x vx) (ry : RepV T G y vy) (sx : RelV vx ux) (sy : RelV vy uy) (ok : okB (cx P d) h y = true)
    (q : OkR T σ W G H (callM (cx P d) x o.dun [y] [] h) (KV T Q)) : wpAny (model X.prog X.w) X.A (richCompare o.op ux uy) (EP X pins σ Q) X.xe s := by
  obtain ⟨c, fs, cd, f, e1, e2, e3, e4, e5, q⟩ := callM_inv q
  obtain ⟨a, dx, ys, rfl, ha, rf⟩ := ins_of R rx e1
  cases sx
  obtain ⟨od, J⟩ := inst_of Gd I ha
  have IO := (Gd.txt.cls c cd e3).2 e4
  obtain ⟨M, _⟩ := IO.meth _ _ e5
  obtain ⟨m, hfr⟩ := I.fr
  obtain ⟨tb, t1, t2⟩ := other_ty Gd I R ry sy ok e3 e4
  have m1 := M.at_
  rw [cmp_dun Gd.txt ho] at m1
  exact PySem.W.cmp_K Gd.room.units0 hfr (Gd.K ▸ I.ok.mod.kin) J t1 t2 m1 M.fn
    (thn (callD_pos Gd tk I R (RepL.cons rx (RepL.one ry)) (.cons rfl (.cons sy .nil)) q) fun u s' h => back h)
theorem int_cmp (Gd : GoodX T P d X) (tk : Takes X W) (I : Inv X pins σ H s) (R : Rel T G h H) {o : CO} (ho : o = .eq ∨ o = .lt ∨ o = .le ∨ o = .gt ∨ o = .ge) {i : Int} {y : PV} {vx vy : V} {ux uy : Value} (rx : RepV T G (.int i) vx) (ry : RepV T G y vy) (sx : RelV vx ux) (sy : RelV vy uy)
    (q : OkR T σ W G H (callM (cx P d) y o.rev [.int i] [] h) (KV T Q)) : wpAny (model X.prog X.w) X.A (richCompare o.op ux uy) (EP X pins σ Q) X.xe s := by
  obtain ⟨c, fs, cd, f, e1, e2, e3, e4, e5, q⟩ := callM_inv q
  obtain ⟨a, dx, ys, rfl, ha, rf⟩ := ins_of R ry e1
  cases sy
  cases rx
  obtain ⟨t, rfl⟩ := sx
  obtain ⟨od, J⟩ := inst_of Gd I ha
  have IO := (Gd.txt.cls c cd e3).2 e4
  have kin : T.K.In s.heap := Gd.K ▸ I.kIn
  obtain ⟨M, _⟩ := IO.meth _ _ e5
  have go : wpAny (model X.prog X.w) X.A (call (.ref (T.ad f)) [.ref a, .int i t]) (PySem.W.CmpBack (EP X pins σ Q)) X.xe s :=
    thn (callD_pos Gd tk I R (RepL.cons ry (RepL.one (x := .int i) (y := .int i) rfl)) (.cons rfl (.cons (show RelV (.int i) (.int i t) from ⟨t, rfl⟩) .nil)) q) fun u s' h => back h
  have m1 := M.at_
  rw [cmp_rev Gd.txt ho] at m1
  have at_ := J.at_
  have hu : X.A.units + 1 < cLine := by have := Gd.room.units; omega
  rcases ho with rfl | rfl | rfl | rfl | rfl
  · exact cmp_refl hu kin J IO.sInt F.slot_int_eq m1 M.fn (fun h => no_eq at_ rfl h) go rfl
  · exact cmp_refl hu kin J IO.sInt F.slot_int_lt m1 M.fn (fun h => no_lt at_ rfl h) go rfl
  · exact cmp_refl hu kin J IO.sInt F.slot_int_le m1 M.fn (fun h => no_le at_ rfl h) go rfl
  · exact cmp_refl hu kin J IO.sInt F.slot_int_gt m1 M.fn (fun h => no_gt at_ rfl h) go rfl
  · exact cmp_refl hu kin J IO.sInt F.slot_int_ge m1 M.fn (fun h => no_ge at_ rfl h) go rfl
end
end Py

set_option linter.all false
set_option Elab.async false
set_option maxRecDepth 100000
set_option maxHeartbeats 2100000
/-! == and != of tuples and lists whose items answer by themselves, True or False. -/
namespace Py
open PySem PySem.Spec PySem.SeqAt MeetsSeq MeetsSeq2 MeetsSeq3 SeqRoads2
section
variable {A : Around} {w : World} {prog : Program}
/-- the items that are left agree so far: I; two differ: J -/
abbrev Turns (prog : Program) (w : World) (A : Around) (E : Value → Shared → Prop) (I : List (Value × Value) → Shared → Prop) (J : Shared → Prop) : Prop :=
  ∀ x y r z, I ((x, y) :: r) z → wpAny (model prog w) A.in1 (eqBool x y) (fun b z' => bif b then I r z' else J z') E z
/-- the lists at a and b as they stand, N items each -/
def Stand (h : Heap) (a b : Addr) (N : Nat) (P : List Value → List Value → Prop) : Prop :=
  ∃ us ts : List Value, (∃ n, h.get? a = some { cls := .type "list", data := .seq us.toArray n }) ∧ (∃ n, h.get? b = some { cls := .type "list", data := .seq ts.toArray n }) ∧ us.length = N ∧ ts.length = N ∧ P us ts
/-- the turns over two lists: I i: the first i items agree; J: two differ -/
structure LTurns (prog : Program) (w : World) (A : Around) (E : Value → Shared → Prop) (a b : Addr) (N : Nat) (I : Nat → Shared → Prop) (J : Shared → Prop) : Prop where
  one : ∀ i z, I i z → Stand z.heap a b N fun us ts => ∀ u t, us[i]? = some u → ts[i]? = some t → wpAny (model prog w) A.in1 (eqBool u t) (fun c z' => bif c then I (i + 1) z' else J z') E z
  off : ∀ z, J z → Stand z.heap a b N fun _ _ => True
/-- the loop goes on with itself -/
theorem again_loop {args : Args} {R : Result → Shared → Prop} {z : Shared} (m : wpAny (model prog w) A.in1 (Builtin.«list.__eq__.loop» args) (GQ.FinOf prog w A R) (fun e z => R (.error e) z) z) :
    GQ.FinOf prog w A R (.again (.builtin "list.__eq__.loop" args)) z := ⟨plainId_quiet plain_eq_loop _, codeAny_builtin entry_eq_loop (by rwa [Around.under_plainId plain_eq_loop args])⟩
theorem item_at {us : List Value} {i : Nat} (l : i < us.length) : us.toArray[((i : Nat) : Int).toNat]? = some us[i] := by simp [l]
theorem item_no {us : List Value} {i : Nat} (l : us.length ≤ i) : us.toArray[((i : Nat) : Int).toNat]? = none := by simpa using l
theorem tup_eq {R : Result → Shared → Prop} {s : Shared} {a b : Addr} {xs ys : Array Value} {n n' : Nat} {da db : Option Addr} {sa sb : Array (Option Value)} (I : List (Value × Value) → Shared → Prop) (J : Shared → Prop)
    (turns : Turns prog w A (fun e z => R (.error e) z) I J) (fin : ∀ z, I [] z → R (.ok (.ret (.bool (xs.size == ys.size)))) z) (out : ∀ z, J z → R (.ok (.ret (.bool (false)))) z)
    (ha : s.heap.get? a = some ⟨.type "tuple", da, .seq xs n, sa⟩) (hb : s.heap.get? b = some ⟨.type "tuple", db, .seq ys n', sb⟩) (start : I (xs.toList.zip ys.toList) s) :
    wpAny (model prog w) A.in1 (Builtin.«tuple.__eq__» ⟨[.ref a, .ref b], []⟩) (GQ.FinOf prog w A R) (fun e z => R (.error e) z) s := by
  have sub := AutoSeq1.sub_tuple_tuple
  have begin_ := start
  cases s
  wp_walk using AutoSeq1.wpAny_loadPart' ha, AutoSeq1.wpAny_loadPart' hb, wpAny_forIn_list _ (fun left acc z => acc.1 = none ∧ I left z) _
  case turn =>
    rintro ⟨x, y⟩ left acc z ⟨_, hI⟩
    refine wpAny_bind (wpAny_mono (turns x y left z hI) (fun t z' ht => ?_) fun _ _ e => e)
    cases t <;> wp_walk
    · exact out z' ht
    · exact ⟨rfl, ht⟩
  case fin =>
    rintro ⟨_, _⟩ z ⟨rfl, hI⟩
    have last := fin z hI
    wp_walk
    exact last
  case h => exact ⟨rfl, begin_⟩
theorem tup_ne {R : Result → Shared → Prop} {s : Shared} {a b : Addr} {xs ys : Array Value} {n n' : Nat} {da db : Option Addr} {sa sb : Array (Option Value)} (I : List (Value × Value) → Shared → Prop) (J : Shared → Prop)
    (turns : Turns prog w A (fun e z => R (.error e) z) I J) (fin : ∀ z, I [] z → R (.ok (.ret (.bool (!(xs.size == ys.size))))) z) (out : ∀ z, J z → R (.ok (.ret (.bool (!(false))))) z)
    (ha : s.heap.get? a = some ⟨.type "tuple", da, .seq xs n, sa⟩) (hb : s.heap.get? b = some ⟨.type "tuple", db, .seq ys n', sb⟩) (start : I (xs.toList.zip ys.toList) s) :
    wpAny (model prog w) A.in1 (Builtin.«tuple.__ne__» ⟨[.ref a, .ref b], []⟩) (GQ.FinOf prog w A R) (fun e z => R (.error e) z) s := by
  have sub := AutoSeq1.sub_tuple_tuple
  have begin_ := start
  cases s
  wp_walk using AutoSeq1.wpAny_loadPart' ha, AutoSeq1.wpAny_loadPart' hb, wpAny_forIn_list _ (fun left acc z => acc.1 = none ∧ I left z) _
  case turn =>
    rintro ⟨x, y⟩ left acc z ⟨_, hI⟩
    refine wpAny_bind (wpAny_mono (turns x y left z hI) (fun t z' ht => ?_) fun _ _ e => e)
    cases t <;> wp_walk
    · exact out z' ht
    · exact ⟨rfl, ht⟩
  case fin =>
    rintro ⟨_, _⟩ z ⟨rfl, hI⟩
    have last := fin z hI
    wp_walk
    exact last
  case h => exact ⟨rfl, begin_⟩
theorem loop_eq {R : Result → Shared → Prop} {a b : Addr} {N : Nat} (I : Nat → Shared → Prop) (J : Shared → Prop) (turns : LTurns prog w A (fun e z => R (.error e) z) a b N I J)
    (fin : ∀ z, I N z → R (.ok (.ret (.bool (true)))) z) (out : ∀ z, J z → R (.ok (.ret (.bool (false)))) z) :
    ∀ (left i : Nat) (z : Shared), i + left = N → I i z → wpAny (model prog w) A.in1 (Builtin.«list.__eq__.loop» ⟨[.ref a, .ref b, rawInt i, rawInt 2], []⟩) (GQ.FinOf prog w A R) (fun e z => R (.error e) z) z := by
  intro left
  induction left with
  | zero =>
    intro i z hi hI
    obtain rfl : i = N := hi
    obtain ⟨us, ts, ⟨n, ga⟩, ⟨n', gb⟩, lu, lt, _⟩ := turns.one i z hI
    have last := fin z hI
    have sz : (us.toArray.size == ts.toArray.size) = true := by simp [lu, lt]
    cases z
    wp_walk using AutoSeq1.wpAny_loadPart' ga, AutoSeq1.wpAny_loadPart' gb
    rw [item_no (Nat.le_of_eq lu), item_no (Nat.le_of_eq lt)]
    wp_walk using AutoSeq1.wpAny_loadPart' ga, AutoSeq1.wpAny_loadPart' gb
    show R (.ok (.ret (.bool (us.toArray.size == ts.toArray.size)))) _
    rw [sz]
    exact last
  | succ left ih =>
    intro i z hi hI
    obtain ⟨us, ts, ⟨n, ga⟩, ⟨n', gb⟩, lu, lt, run⟩ := turns.one i z hI
    have ku : i < us.length := by omega
    have kt : i < ts.length := by omega
    have one := run _ _ (List.getElem?_eq_getElem ku) (List.getElem?_eq_getElem kt)
    cases z
    wp_walk using AutoSeq1.wpAny_loadPart' ga, AutoSeq1.wpAny_loadPart' gb
    rw [item_at ku, item_at kt]
    refine wpAny_bind (wpAny_mono one (fun c z' hc => ?_) fun _ _ e => e)
    cases c with
    | true =>
      have more := ih (i + 1) z' (by omega) hc
      cases z'
      wp_walk
      exact again_loop more
    | false =>
      obtain ⟨us', ts', ⟨m, fa⟩, ⟨m', fb⟩, lu', lt', _⟩ := turns.off z' hc
      have last := out z' hc
      have ku' : i < us'.length := by omega
      have kt' : i < ts'.length := by omega
      cases z'
      wp_walk using AutoSeq1.wpAny_loadPart' fa, AutoSeq1.wpAny_loadPart' fb
      rw [item_at ku', item_at kt']
      wp_walk
      exact last
theorem lst_eq {R : Result → Shared → Prop} {s : Shared} {a b : Addr} {N : Nat} (I : Nat → Shared → Prop) (J : Shared → Prop) (turns : LTurns prog w A (fun e z => R (.error e) z) a b N I J)
    (fin : ∀ z, I N z → R (.ok (.ret (.bool (true)))) z) (out : ∀ z, J z → R (.ok (.ret (.bool (false)))) z) (start : I 0 s) :
    wpAny (model prog w) A.in1 (Builtin.«list.__eq__» ⟨[.ref a, .ref b], []⟩) (GQ.FinOf prog w A R) (fun e z => R (.error e) z) s := by
  obtain ⟨us, ts, ⟨n, ga⟩, ⟨n', gb⟩, lu, lt, _⟩ := turns.one 0 s start
  have more := loop_eq (A := A) (R := R) I J turns fin out N 0 s (Nat.zero_add N) start
  have sub := AutoSeq1.sub_list_list
  have sz : ¬ (us.toArray.size != ts.toArray.size) = true := by simp [lu, lt]
  cases s
  wp_walk using AutoSeq1.wpAny_loadPart' ga, AutoSeq1.wpAny_loadPart' gb
  exact again_loop more
theorem lsz_eq {R : Result → Shared → Prop} {s : Shared} {a b : Addr} {us ts : List Value} {n n' : Nat} (ga : s.heap.get? a = some { cls := .type "list", data := .seq us.toArray n })
    (gb : s.heap.get? b = some { cls := .type "list", data := .seq ts.toArray n' }) (other : us.length ≠ ts.length) (out : R (.ok (.ret (.bool (false)))) s) :
    wpAny (model prog w) A.in1 (Builtin.«list.__eq__» ⟨[.ref a, .ref b], []⟩) (GQ.FinOf prog w A R) (fun e z => R (.error e) z) s := by
  have sub := AutoSeq1.sub_list_list
  have sz : (us.toArray.size != ts.toArray.size) = true := by simpa using other
  cases s
  wp_walk using AutoSeq1.wpAny_loadPart' ga, AutoSeq1.wpAny_loadPart' gb
  exact out
theorem loop_ne {R : Result → Shared → Prop} {a b : Addr} {N : Nat} (I : Nat → Shared → Prop) (J : Shared → Prop) (turns : LTurns prog w A (fun e z => R (.error e) z) a b N I J)
    (fin : ∀ z, I N z → R (.ok (.ret (.bool (!(true))))) z) (out : ∀ z, J z → R (.ok (.ret (.bool (!(false))))) z) :
    ∀ (left i : Nat) (z : Shared), i + left = N → I i z → wpAny (model prog w) A.in1 (Builtin.«list.__eq__.loop» ⟨[.ref a, .ref b, rawInt i, rawInt 3], []⟩) (GQ.FinOf prog w A R) (fun e z => R (.error e) z) z := by
  intro left
  induction left with
  | zero =>
    intro i z hi hI
    obtain rfl : i = N := hi
    obtain ⟨us, ts, ⟨n, ga⟩, ⟨n', gb⟩, lu, lt, _⟩ := turns.one i z hI
    have last := fin z hI
    have sz : (us.toArray.size == ts.toArray.size) = true := by simp [lu, lt]
    cases z
    wp_walk using AutoSeq1.wpAny_loadPart' ga, AutoSeq1.wpAny_loadPart' gb
    rw [item_no (Nat.le_of_eq lu), item_no (Nat.le_of_eq lt)]
    wp_walk using AutoSeq1.wpAny_loadPart' ga, AutoSeq1.wpAny_loadPart' gb
    show R (.ok (.ret (.bool (!(us.toArray.size == ts.toArray.size))))) _
    rw [sz]
    exact last
  | succ left ih =>
    intro i z hi hI
    obtain ⟨us, ts, ⟨n, ga⟩, ⟨n', gb⟩, lu, lt, run⟩ := turns.one i z hI
    have ku : i < us.length := by omega
    have kt : i < ts.length := by omega
    have one := run _ _ (List.getElem?_eq_getElem ku) (List.getElem?_eq_getElem kt)
    cases z
    wp_walk using AutoSeq1.wpAny_loadPart' ga, AutoSeq1.wpAny_loadPart' gb
    rw [item_at ku, item_at kt]
    refine wpAny_bind (wpAny_mono one (fun c z' hc => ?_) fun _ _ e => e)
    cases c with
    | true =>
      have more := ih (i + 1) z' (by omega) hc
      cases z'
      wp_walk
      exact again_loop more
    | false =>
      obtain ⟨us', ts', ⟨m, fa⟩, ⟨m', fb⟩, lu', lt', _⟩ := turns.off z' hc
      have last := out z' hc
      have ku' : i < us'.length := by omega
      have kt' : i < ts'.length := by omega
      cases z'
      wp_walk using AutoSeq1.wpAny_loadPart' fa, AutoSeq1.wpAny_loadPart' fb
      rw [item_at ku', item_at kt']
      wp_walk
      exact last
theorem lst_ne {R : Result → Shared → Prop} {s : Shared} {a b : Addr} {N : Nat} (I : Nat → Shared → Prop) (J : Shared → Prop) (turns : LTurns prog w A (fun e z => R (.error e) z) a b N I J)
    (fin : ∀ z, I N z → R (.ok (.ret (.bool (!(true))))) z) (out : ∀ z, J z → R (.ok (.ret (.bool (!(false))))) z) (start : I 0 s) :
    wpAny (model prog w) A.in1 (Builtin.«list.__ne__» ⟨[.ref a, .ref b], []⟩) (GQ.FinOf prog w A R) (fun e z => R (.error e) z) s := by
  obtain ⟨us, ts, ⟨n, ga⟩, ⟨n', gb⟩, lu, lt, _⟩ := turns.one 0 s start
  have more := loop_ne (A := A) (R := R) I J turns fin out N 0 s (Nat.zero_add N) start
  have sub := AutoSeq1.sub_list_list
  have sz : ¬ (us.toArray.size != ts.toArray.size) = true := by simp [lu, lt]
  cases s
  wp_walk using AutoSeq1.wpAny_loadPart' ga, AutoSeq1.wpAny_loadPart' gb
  exact again_loop more
theorem lsz_ne {R : Result → Shared → Prop} {s : Shared} {a b : Addr} {us ts : List Value} {n n' : Nat} (ga : s.heap.get? a = some { cls := .type "list", data := .seq us.toArray n })
    (gb : s.heap.get? b = some { cls := .type "list", data := .seq ts.toArray n' }) (other : us.length ≠ ts.length) (out : R (.ok (.ret (.bool (!(false))))) s) :
    wpAny (model prog w) A.in1 (Builtin.«list.__ne__» ⟨[.ref a, .ref b], []⟩) (GQ.FinOf prog w A R) (fun e z => R (.error e) z) s := by
  have sub := AutoSeq1.sub_list_list
  have sz : (us.toArray.size != ts.toArray.size) = true := by simpa using other
  cases s
  wp_walk using AutoSeq1.wpAny_loadPart' ga, AutoSeq1.wpAny_loadPart' gb
  exact out
end
end Py

set_option linter.all false
set_option Elab.async false
set_option maxRecDepth 100000
set_option maxHeartbeats 2100000
/-! == of items, of tuples and lists of things, and the evaluator's eqIs. -/
namespace Py
open PySem PySem.Spec L2 PyProof.Rows
section
variable {prog : Program} {w : World} {A : Around} {E : Value → Shared → Prop} {s : Shared} {a b : Addr} {o : CmpOp} {Q : Value → Shared → Prop}
/-- == or != -/
def two (o : CmpOp) (b : Bool) : Value := .bool (bif o == .Eq then b else !b)
theorem rc_tup (ho : o = .Eq ∨ o = .NotEq) (room : A.units < cLine) {xs ys : Array Value} (ta : s.heap.IsTuple a xs) (tb : s.heap.IsTuple b ys) (I : List (Value × Value) → Shared → Prop) (J : Shared → Prop)
    (turns : Turns prog w A E I J) (fin : ∀ z, I [] z → Q (two o (xs.size == ys.size)) z) (out : ∀ z, J z → Q (two o false) z) (start : I (xs.toList.zip ys.toList) s) : wpAny (model prog w) A (richCompare o (.ref a) (.ref b)) Q E s := by
  obtain ⟨⟨ca, da, pa, sa⟩, ha, ka, na, ea⟩ := id ta
  obtain ⟨⟨cb, db, pb, sb⟩, hb, kb, nb, eb⟩ := id tb
  dsimp only at ka ea kb eb
  subst ka ea kb eb
  rcases ho with rfl | rfl
  · exact wpAny_richCompare_same_room (op := .Eq) ⟨_, ha, rfl⟩ ⟨_, hb, rfl⟩ F.slot_tuple_eq (GQ.call_here F.slot_tuple_eq ⟨_, ha, rfl⟩ F.entry_tuple_eq (F.args_tuple_eq_2 _ _)
      (tup_eq (R := wants (fun v z => v ≠ .notImplemented ∧ Q v z) E) I J turns (fun z q => ⟨nofun, fin z q⟩) (fun z q => ⟨nofun, out z q⟩) ha hb start)) room
  · exact wpAny_richCompare_same_room (op := .NotEq) ⟨_, ha, rfl⟩ ⟨_, hb, rfl⟩ F.slot_tuple_ne (GQ.call_here F.slot_tuple_ne ⟨_, ha, rfl⟩ F.entry_tuple_ne (F.args_tuple_ne_2 _ _)
      (tup_ne (R := wants (fun v z => v ≠ .notImplemented ∧ Q v z) E) I J turns (fun z q => ⟨nofun, fin z q⟩) (fun z q => ⟨nofun, out z q⟩) ha hb start)) room
theorem rc_lst (ho : o = .Eq ∨ o = .NotEq) (room : A.units < cLine) {N : Nat} (I : Nat → Shared → Prop) (J : Shared → Prop) (turns : LTurns prog w A E a b N I J) (fin : ∀ z, I N z → Q (two o true) z) (out : ∀ z, J z → Q (two o false) z)
    (start : I 0 s) : wpAny (model prog w) A (richCompare o (.ref a) (.ref b)) Q E s := by
  obtain ⟨us, ts, ⟨n, ga⟩, ⟨n', gb⟩, _⟩ := turns.one 0 s start
  rcases ho with rfl | rfl
  · exact wpAny_richCompare_same_room (op := .Eq) ⟨_, ga, rfl⟩ ⟨_, gb, rfl⟩ F.slot_list_eq (GQ.call_here F.slot_list_eq ⟨_, ga, rfl⟩ F.entry_list_eq (F.args_list_eq_2 _ _)
      (lst_eq (R := wants (fun v z => v ≠ .notImplemented ∧ Q v z) E) I J turns (fun z q => ⟨nofun, fin z q⟩) (fun z q => ⟨nofun, out z q⟩) start)) room
  · exact wpAny_richCompare_same_room (op := .NotEq) ⟨_, ga, rfl⟩ ⟨_, gb, rfl⟩ F.slot_list_ne (GQ.call_here F.slot_list_ne ⟨_, ga, rfl⟩ F.entry_list_ne (F.args_list_ne_2 _ _)
      (lst_ne (R := wants (fun v z => v ≠ .notImplemented ∧ Q v z) E) I J turns (fun z q => ⟨nofun, fin z q⟩) (fun z q => ⟨nofun, out z q⟩) start)) room
theorem rc_lsz (ho : o = .Eq ∨ o = .NotEq) (room : A.units < cLine) {us ts : List Value} {n n' : Nat} (ga : s.heap.get? a = some { cls := .type "list", data := .seq us.toArray n }) (gb : s.heap.get? b = some { cls := .type "list", data := .seq ts.toArray n' })
    (other : us.length ≠ ts.length) (out : Q (two o false) s) : wpAny (model prog w) A (richCompare o (.ref a) (.ref b)) Q E s := by
  rcases ho with rfl | rfl
  · exact wpAny_richCompare_same_room (op := .Eq) ⟨_, ga, rfl⟩ ⟨_, gb, rfl⟩ F.slot_list_eq (GQ.call_here F.slot_list_eq ⟨_, ga, rfl⟩ F.entry_list_eq (F.args_list_eq_2 _ _)
      (lsz_eq (R := wants (fun v z => v ≠ .notImplemented ∧ Q v z) E) ga gb other ⟨nofun, out⟩)) room
  · exact wpAny_richCompare_same_room (op := .NotEq) ⟨_, ga, rfl⟩ ⟨_, gb, rfl⟩ F.slot_list_ne (GQ.call_here F.slot_list_ne ⟨_, ga, rfl⟩ F.entry_list_ne (F.args_list_ne_2 _ _)
      (lsz_ne (R := wants (fun v z => v ≠ .notImplemented ∧ Q v z) E) ga gb other ⟨nofun, out⟩)) room
/-- == inside a builtin, by the rich comparison -/
theorem eqBool_by {u v : Value} {P : Bool → Shared → Prop} (kind : (∃ c, u = .ref c) ∨ ∃ i t, u = .int i t) (other : u ≠ v) (m : wpAny (model prog w) A (richCompare .Eq u v) (fun r z => ∃ c, r = .bool c ∧ P c z) E s) : wpAny (model prog w) A (eqBool u v) P E s := by
  have go : wpAny (model prog w) A (richCompare .Eq u v >>= truthOfDropped) P E s := wpAny_bind (wpAny_mono m (fun _ _ ⟨_, e, p⟩ => by rw [e]; exact wpAny_truthy_bool p) fun _ _ e => e)
  delta eqBool
  refine wpAny_holding (wpAny_ite_split (fun same => absurd (eq_of_beq same) other) fun _ => ?_)
  rcases kind with ⟨c, rfl⟩ | ⟨i, t, rfl⟩ <;> exact go
end
section
variable {T : Tx} {P : Prog} {d : Nat} {X : Cx} {W : L2.WX} {pins : List (Addr × Obj)} {σ : L2.St} {H : Hp} {s : Shared} {G : Gh} {h : EH} {Q : VK}
theorem OkR.low {f : Nm} {as : List PV} {h : EH} {K : PV → EH → Gh → Hp → Prop} (q : OkR T σ W G H (callF P (d - 1) f as h) K) : ∃ k, d = k + 1 := by
  cases d with
  | zero => exact absurd q (by simp [callF, OkR])
  | succ k => exact ⟨k, rfl⟩
/-- a def that a builtin calls -/
theorem callD_low (Gd : GoodX T P d X) (tk : Takes X W) {f : Nm} {args : List PV} {vs : List V} {us : List Value} (I : Inv X pins σ H s) (R : Rel T G h H) (r1 : RepL T G args vs) (r2 : Vals vs us)
    (o : OkR T σ W G H (callD (cx P d).low f args [] h) (KV T Q)) : wpAny (model X.prog X.w) X.A.in1 (call (.ref (T.ad f)) us) (EP X pins σ Q) X.xe s := by
  obtain ⟨fd, as, e1, e2, o⟩ := callD_inv o
  have o' : OkR T σ W G H (callF P (d - 1) f as h) (KV T Q) := o
  obtain ⟨k, hk⟩ := o'.low
  subst hk
  exact call_at (kw := []) (zs := []) (ws := []) Gd tk (Gd.room.in1) e1 (Gd.fns' f fd e1) e2 I I.env0.in1 R r1 r2 rfl .nil o'
theorem refV {x : PV} {v : V} (r : RepV T G x v) : (refP x = true → ∃ a, v = .ref a) ∧ (refP x = false → ∀ a, v ≠ .ref a) := by
  cases x with
  | non => exact ⟨fun e => (nomatch (show false = true from e)), fun _ a e => by rw [show v = V.non from r] at e; cases e⟩
  | bl b => exact ⟨fun e => (nomatch (show false = true from e)), fun _ a e => by rw [show v = V.bl b from r] at e; cases e⟩
  | int i => exact ⟨fun e => (nomatch (show false = true from e)), fun _ a e => by rw [show v = V.int i from r] at e; cases e⟩
  | str t => exact ⟨fun e => (nomatch (show false = true from e)), fun _ a e => by rw [show v = V.str t from r] at e; cases e⟩
  | ty n => exact ⟨fun e => (nomatch (show false = true from e)), fun _ a e => by rw [show v = V.ty n from r] at e; cases e⟩
  | tup xs => obtain ⟨a, ys, e, _⟩ := r; exact ⟨fun _ => ⟨a, e⟩, fun e => nomatch (show true = false from e)⟩
  | lst xs => obtain ⟨a, ys, e, _⟩ := r; exact ⟨fun _ => ⟨a, e⟩, fun e => nomatch (show true = false from e)⟩
  | dct xs => obtain ⟨a, ys, e, _⟩ := r; exact ⟨fun _ => ⟨a, e⟩, fun e => nomatch (show true = false from e)⟩
  | obj c fs => obtain ⟨a, dx, ys, e, _⟩ := r; exact ⟨fun _ => ⟨a, e⟩, fun e => nomatch (show true = false from e)⟩
  | cls c => exact ⟨fun _ => ⟨_, r⟩, fun e => nomatch (show true = false from e)⟩
  | fn c => exact ⟨fun _ => ⟨_, r⟩, fun e => nomatch (show true = false from e)⟩
  | scr c => obtain ⟨a, e, _⟩ := r; exact ⟨fun _ => ⟨a, e⟩, fun e => nomatch (show true = false from e)⟩
  | loc c => obtain ⟨a, e, _⟩ := r; exact ⟨fun _ => ⟨a, e⟩, fun e => nomatch (show true = false from e)⟩
theorem refP_ne {x y : PV} {v : V} (rx : RepV T G x v) (ry : RepV T G y v) (e : (refP x != refP y) = true) : False := by
  cases ex : refP x with
  | true =>
    obtain ⟨a, ha⟩ := (refV rx).1 ex
    cases ey : refP y with
    | true => rw [ex, ey] at e; cases e
    | false => exact (refV ry).2 ey a ha
  | false =>
    cases ey : refP y with
    | true => obtain ⟨a, ha⟩ := (refV ry).1 ey; exact (refV rx).2 ex a ha
    | false => rw [ex, ey] at e; cases e
theorem scalP_ne {x y : PV} {v : V} (rx : RepV T G x v) (ry : RepV T G y v) (e : (scalP x y == some false) = true) : False := by
  have e := eq_of_beq e
  obtain ⟨_, s2⟩ := scal_ok rx ry e
  simp at s2
theorem or_rw {x y : PV} {v : V} (rx : RepV T G x v) (ry : RepV T G y v) (e : ((refP x != refP y) || (scalP x y == some false)) = true) : False := by
  rcases (Bool.or_eq_true _ _).mp e with e | e
  · exact refP_ne rx ry e
  · exact scalP_ne rx ry e
theorem nref {x y : PV} {v : V} (rx : RepV T G x v) (ry : RepV T G y v) (hx : refP x = true) (e : (!refP y) = true) : False := refP_ne rx ry (by rw [hx]; cases q : refP y <;> rw [q] at e <;> first | rfl | cases e)
mutual
theorem apart_ok (Gd : GoodX T P d X) (I : Inv X pins σ H s) (R : Rel T G h H) : ∀ {x y : PV} {v : V}, RepV T G x v → RepV T G y v → apart x y = true → False
  | .obj c fs, .obj c' gs, v, rx, ry, e => by
    obtain ⟨a, dx, ys, rfl, q, r⟩ := rx
    obtain ⟨a', dx', ys', e', q', r'⟩ := ry
    cases e'
    have z := Option.some.inj (q.symm.trans q')
    injection z with _ _ z
    subst z
    exact apartF_ok Gd I R r r' e
  | .tup xs, .tup ys, v, rx, ry, e => by
    obtain ⟨a, zs, rfl, q, r⟩ := rx
    obtain ⟨a', zs', e', q', r'⟩ := ry
    cases e'
    have z := I.tuple_inj (Gd.K ▸ SqT.ext R q.sq) (Gd.K ▸ SqT.ext R q'.sq)
    subst z
    exact apartL_ok Gd I R r r' e
  | .lst xs, .lst ys, v, rx, ry, e => by
    obtain ⟨a, zs, rfl, q, r⟩ := rx
    obtain ⟨a', zs', e', q', r'⟩ := ry
    cases e'
    rw [q] at q'
    cases q'
    exact apartL_ok Gd I R r r' e
  | .non, y, v, rx, ry, e => or_rw rx ry (show ((refP _ != refP y) || (scalP _ y == some false)) = true from e)
  | .bl a, y, v, rx, ry, e => or_rw rx ry (show ((refP _ != refP y) || (scalP _ y == some false)) = true from e)
  | .int a, y, v, rx, ry, e => or_rw rx ry (show ((refP _ != refP y) || (scalP _ y == some false)) = true from e)
  | .str a, y, v, rx, ry, e => or_rw rx ry (show ((refP _ != refP y) || (scalP _ y == some false)) = true from e)
  | .ty a, y, v, rx, ry, e => or_rw rx ry (show ((refP _ != refP y) || (scalP _ y == some false)) = true from e)
  | .tup a, .non, v, rx, ry, e => nref rx ry rfl (show (!refP _) = true from e)
  | .tup a, .bl b, v, rx, ry, e => nref rx ry rfl (show (!refP _) = true from e)
  | .tup a, .int b, v, rx, ry, e => nref rx ry rfl (show (!refP _) = true from e)
  | .tup a, .str b, v, rx, ry, e => nref rx ry rfl (show (!refP _) = true from e)
  | .tup a, .ty b, v, rx, ry, e => nref rx ry rfl (show (!refP _) = true from e)
  | .tup a, .lst b, v, rx, ry, e => nref rx ry rfl (show (!refP _) = true from e)
  | .tup a, .dct b, v, rx, ry, e => nref rx ry rfl (show (!refP _) = true from e)
  | .tup a, .obj b b1, v, rx, ry, e => nref rx ry rfl (show (!refP _) = true from e)
  | .tup a, .cls b, v, rx, ry, e => nref rx ry rfl (show (!refP _) = true from e)
  | .tup a, .fn b, v, rx, ry, e => nref rx ry rfl (show (!refP _) = true from e)
  | .tup a, .scr b, v, rx, ry, e => nref rx ry rfl (show (!refP _) = true from e)
  | .tup a, .loc b, v, rx, ry, e => nref rx ry rfl (show (!refP _) = true from e)
  | .lst a, .non, v, rx, ry, e => nref rx ry rfl (show (!refP _) = true from e)
  | .lst a, .bl b, v, rx, ry, e => nref rx ry rfl (show (!refP _) = true from e)
  | .lst a, .int b, v, rx, ry, e => nref rx ry rfl (show (!refP _) = true from e)
  | .lst a, .str b, v, rx, ry, e => nref rx ry rfl (show (!refP _) = true from e)
  | .lst a, .ty b, v, rx, ry, e => nref rx ry rfl (show (!refP _) = true from e)
  | .lst a, .tup b, v, rx, ry, e => nref rx ry rfl (show (!refP _) = true from e)
  | .lst a, .dct b, v, rx, ry, e => nref rx ry rfl (show (!refP _) = true from e)
  | .lst a, .obj b b1, v, rx, ry, e => nref rx ry rfl (show (!refP _) = true from e)
  | .lst a, .cls b, v, rx, ry, e => nref rx ry rfl (show (!refP _) = true from e)
  | .lst a, .fn b, v, rx, ry, e => nref rx ry rfl (show (!refP _) = true from e)
  | .lst a, .scr b, v, rx, ry, e => nref rx ry rfl (show (!refP _) = true from e)
  | .lst a, .loc b, v, rx, ry, e => nref rx ry rfl (show (!refP _) = true from e)
  | .dct a, y, v, rx, ry, e => or_rw rx ry (show ((refP _ != refP y) || (scalP _ y == some false)) = true from e)
  | .obj a a1, .non, v, rx, ry, e => nref rx ry rfl (show (!refP _) = true from e)
  | .obj a a1, .bl b, v, rx, ry, e => nref rx ry rfl (show (!refP _) = true from e)
  | .obj a a1, .int b, v, rx, ry, e => nref rx ry rfl (show (!refP _) = true from e)
  | .obj a a1, .str b, v, rx, ry, e => nref rx ry rfl (show (!refP _) = true from e)
  | .obj a a1, .ty b, v, rx, ry, e => nref rx ry rfl (show (!refP _) = true from e)
  | .obj a a1, .tup b, v, rx, ry, e => nref rx ry rfl (show (!refP _) = true from e)
  | .obj a a1, .lst b, v, rx, ry, e => nref rx ry rfl (show (!refP _) = true from e)
  | .obj a a1, .dct b, v, rx, ry, e => nref rx ry rfl (show (!refP _) = true from e)
  | .obj a a1, .cls b, v, rx, ry, e => nref rx ry rfl (show (!refP _) = true from e)
  | .obj a a1, .fn b, v, rx, ry, e => nref rx ry rfl (show (!refP _) = true from e)
  | .obj a a1, .scr b, v, rx, ry, e => nref rx ry rfl (show (!refP _) = true from e)
  | .obj a a1, .loc b, v, rx, ry, e => nref rx ry rfl (show (!refP _) = true from e)
  | .cls a, y, v, rx, ry, e => or_rw rx ry (show ((refP _ != refP y) || (scalP _ y == some false)) = true from e)
  | .fn a, y, v, rx, ry, e => or_rw rx ry (show ((refP _ != refP y) || (scalP _ y == some false)) = true from e)
  | .scr a, y, v, rx, ry, e => or_rw rx ry (show ((refP _ != refP y) || (scalP _ y == some false)) = true from e)
  | .loc a, y, v, rx, ry, e => or_rw rx ry (show ((refP _ != refP y) || (scalP _ y == some false)) = true from e)
theorem apartL_ok (Gd : GoodX T P d X) (I : Inv X pins σ H s) (R : Rel T G h H) : ∀ {xs ys : List PV} {vs : List V}, RepL T G xs vs → RepL T G ys vs → apartL xs ys = true → False
  | [], [], vs, rx, ry, e => by cases e
  | [], y :: ys, vs, rx, ry, e => by
    cases rx
    obtain ⟨y', q, e', _⟩ := ry; cases e'
  | x :: xs, [], vs, rx, ry, e => by
    cases ry
    obtain ⟨y', q, e', _⟩ := rx; cases e'
  | x :: xs, y :: ys, vs, rx, ry, e => by
    obtain ⟨y1, q1, rfl, h1, t1⟩ := rx
    obtain ⟨y2, q2, e2, h2, t2⟩ := ry
    cases e2
    rcases (Bool.or_eq_true _ _).mp (show (_ || _) = true from e) with e | e
    · exact apart_ok Gd I R h1 h2 e
    · exact apartL_ok Gd I R t1 t2 e
theorem apartF_ok (Gd : GoodX T P d X) (I : Inv X pins σ H s) (R : Rel T G h H) : ∀ {xs ys : List (Nm × PV)} {vs : List (Str × V)}, RepF T G xs vs → RepF T G ys vs → apartF xs ys = true → False
  | [], [], vs, rx, ry, e => by cases e
  | [], y :: ys, vs, rx, ry, e => by
    cases rx
    obtain ⟨y', q, e', _⟩ := ry; cases e'
  | x :: xs, [], vs, rx, ry, e => by
    cases ry
    obtain ⟨y', q, e', _⟩ := rx; cases e'
  | (n, x) :: xs, (m, y) :: ys, vs, rx, ry, e => by
    obtain ⟨y1, q1, rfl, h1, t1⟩ := rx
    obtain ⟨y2, q2, e2, h2, t2⟩ := ry
    injection e2 with e2 e3
    injection e2 with e4 e5
    subst e3 e5
    rcases (Bool.or_eq_true _ _).mp (show (_ || _) = true from e) with e | e
    · exact apart_ok Gd I R h1 h2 e
    · exact apartF_ok Gd I R t1 t2 e
end
theorem scal_flat {x y : PV} {vx vy : V} (rx : RepV T G x vx) (ry : RepV T G y vy) {b : Bool} (e : scalP x y = some b) : flatV vx = true ∧ flatV vy = true ∧ eqV vx vy = b := by
  cases x <;> cases y <;> first | (cases e; done) | (cases rx; cases ry; cases e; first | exact ⟨rfl, rfl, rfl⟩ | exact ⟨rfl, rfl, by simp [eqV]⟩)
/-- how the heap of the model stands to the evaluator's -/
def Here (T : Tx) (X : Cx) (pins : List (Addr × Obj)) (σ : L2.St) (G : Gh) (H : Hp) (h : EH) (s' : Shared) : Prop := ∃ G' H', Inv X pins σ H' s' ∧ Ev G H G' H' ∧ Rel T G' h H'
theorem eqI_ok (Gd : GoodX T P d X) (tk : Takes X W) (I : Inv X pins σ H s) (R : Rel T G h H) {x y : PV} {vx vy : V} {ux uy : Value} (rx : RepV T G x vx) (ry : RepV T G y vy) (sx : RelV vx ux) (sy : RelV vy uy) {b : Bool}
    (e : eqI (cx P d).low x y h = some b) : wpAny (model X.prog X.w) X.A.in1 (eqBool ux uy) (fun r s' => r = b ∧ Here T X pins σ G H h s') X.xe s := by
  unfold eqI at e
  have hu1 : X.A.in1.units < cLine := by have := Gd.room.units; show X.A.units + 1 < cLine; omega
  cases z : scalP x y with
  | some c =>
    rw [z] at e
    cases e
    obtain ⟨f1, f2, f3⟩ := scal_flat rx ry z
    have q := eqAt_V (A := X.A.in1) (s := s) sx sy f1 f2
    rw [f3] at q
    exact q X.prog X.w X.xe _ ⟨rfl, G, H, I, Ev.refl _ _, R⟩
  | none =>
    rw [z] at e
    dsimp only at e
    split at e
    · rename_i b' h' e1
      split at e
      · rename_i hc
        cases e
        obtain ⟨rfl, hb⟩ := hc
        have post : ∀ {r : Res PV}, r = .ok (.bl b) h' → OkR T σ W G H r (KV T fun y H' => y = .bl b ∧ ∃ G', Ev G H G' H' ∧ Rel T G' h' H') := fun er => by
          rw [er]
          exact fun G' H' ev R' y ry => by cases ry; exact ⟨rfl, G', ev, R'⟩
        by_cases hs : ux = uy
        · have hv : vx = vy := by
            subst hs
            exact L2.RelV.inj sx sy
          subst hv
          subst hs
          rcases hb with rfl | hb
          · exact SeqAt.EqAt.same (A := X.A.in1) (s := s) ux X.prog X.w X.xe _ ⟨rfl, G, H, I, Ev.refl _ _, R⟩
          · exact (apart_ok Gd I R rx ry hb).elim
        · unfold eqO at e1
          cases ex : asIns h' x with
          | some p =>
            rw [ex] at e1
            dsimp only at e1
            split at e1
            · rename_i ok
              obtain ⟨c, fs, cd, f, e1', e2, e3, e4, e5, q⟩ := callM_inv (post e1)
              obtain ⟨a, dx, ys, rfl, ha, rf⟩ := ins_of R rx e1'
              cases sx
              obtain ⟨od, J⟩ := inst_of Gd I ha
              have IO := (Gd.txt.cls c cd e3).2 e4
              obtain ⟨M, _⟩ := IO.meth _ _ e5
              obtain ⟨m, hfr⟩ := I.fr
              obtain ⟨tb, t1, t2⟩ := other_ty Gd I R ry sy ok e3 e4
              have m1 := M.at_
              rw [Gd.txt.dun.1] at m1
              refine eqBool_by (.inl ⟨a, rfl⟩) hs ?_
              refine wpAny_mono (PySem.W.cmp_K (op := .Eq) hu1 hfr (Gd.K ▸ I.ok.mod.kin) J t1 t2 m1 M.fn
                (thn (callD_low Gd tk I R (RepL.cons rx (RepL.one ry)) (.cons rfl (.cons sy .nil)) q) fun u s' h => back h)) (fun u s' hq => ?_) fun _ _ e => e
              obtain ⟨v, H', I', r, rfl, G', ev, R'⟩ := hq
              cases r
              exact ⟨b, rfl, rfl, G', H', I', ev, R'⟩
            · cases e1
          | none =>
            rw [ex] at e1
            dsimp only at e1
            cases x with
            | int i =>
              obtain ⟨c, fs, cd, f, e1', e2, e3, e4, e5, q⟩ := callM_inv (post e1)
              obtain ⟨a, dx, ys, rfl, ha, rf⟩ := ins_of R ry e1'
              cases sy
              cases rx
              obtain ⟨t, rfl⟩ := sx
              obtain ⟨od, J⟩ := inst_of Gd I ha
              have IO := (Gd.txt.cls c cd e3).2 e4
              have kin : T.K.In s.heap := Gd.K ▸ I.kIn
              obtain ⟨M, _⟩ := IO.meth _ _ e5
              have go : wpAny (model X.prog X.w) X.A.in1 (call (.ref (T.ad f)) [.ref a, .int i t]) (PySem.W.CmpBack (EP X pins σ _)) X.xe s :=
                thn (callD_low Gd tk I R (RepL.cons ry (RepL.one (x := .int i) (y := .int i) rfl)) (.cons rfl (.cons (show RelV (.int i) (.int i t) from ⟨t, rfl⟩) .nil)) q) fun u s' h => back h
              have m1 := M.at_
              rw [Gd.txt.dun.1] at m1
              have at_ := J.at_
              have hu2 : X.A.in1.units + 1 < cLine := by have := Gd.room.units; show X.A.units + 1 + 1 < cLine; omega
              refine eqBool_by (.inr ⟨i, t, rfl⟩) hs ?_
              refine wpAny_mono (cmp_refl (op := .Eq) hu2 kin J IO.sInt F.slot_int_eq m1 M.fn (fun h => no_eq at_ rfl h) go rfl) (fun u s' hq => ?_) fun _ _ e => e
              obtain ⟨v, H', I', r, rfl, G', ev, R'⟩ := hq
              cases r
              exact ⟨b, rfl, rfl, G', H', I', ev, R'⟩
            | _ => cases e1
      · cases e
    · cases e
theorem RepL.evs {G' : Gh} {H' : Hp} (ev : Ev G H G' H') {xs : List PV} {ys : List V} (r : RepL T G xs ys) : RepL T G' xs ys := RepL.le ev.le r
/-- what is left of two rows of items, and what eqIs says of it -/
structure Left (T : Tx) (C : Cxt) (G : Gh) (h : EH) (n m : Nat) (c : Bool) (l : List (Value × Value)) : Prop where
  ex : ∃ (xs ys : List PV) (vs ws : List V) (us ts : List Value), RepL T G xs vs ∧ RepL T G ys ws ∧ Vals vs us ∧ Vals ws ts ∧ l = us.zip ts ∧ eqIs C h xs ys = some c ∧ n + ys.length = m + xs.length
theorem Left.nil {C : Cxt} {n m : Nat} {c : Bool} (k : Left T C G h n m c []) : c = decide (n = m) := by
  obtain ⟨xs, ys, vs, ws, us, ts, r1, r2, v1, v2, e, q, l⟩ := k.ex
  have z : us.zip ts = [] := e.symm
  have l1 := r1.length.trans v1.length
  have l2 := r2.length.trans v2.length
  rcases List.zip_eq_nil_iff.mp z with z | z
  · subst z
    have : xs = [] := List.length_eq_zero_iff.mp l1
    subst this
    cases ys with
    | nil => cases q; simp at l; simp [l]
    | cons y ys => cases q; simp at l; simp; omega
  · subst z
    have : ys = [] := List.length_eq_zero_iff.mp l2
    subst this
    cases xs with
    | nil => cases q; simp at l; simp [l]
    | cons x xs => cases q; simp at l; simp; omega
theorem item_turn (Gd : GoodX T P d X) (tk : Takes X W) {c : Bool} {p p' : PV} {xs ys : List PV} {v v' : V} {x y : Value} {z : Shared} (q : eqIs (cx P d).low h (p :: xs) (p' :: ys) = some c) (r1 : RepV T G p v) (r2 : RepV T G p' v') (s1 : RelV v x) (s2 : RelV v' y) (hz : Here T X pins σ G H h z) :
    wpAny (model X.prog X.w) X.A.in1 (eqBool x y) (fun t z' => bif t then eqIs (cx P d).low h xs ys = some c ∧ Here T X pins σ G H h z' else c = false ∧ Here T X pins σ G H h z') X.xe z := by
  obtain ⟨G1, H1, I1, ev, R1⟩ := hz
  unfold eqIs at q
  cases g : eqI (cx P d).low p p' h with
  | none => rw [g] at q; cases q
  | some t =>
    rw [g] at q
    refine wpAny_mono (eqI_ok Gd tk I1 R1 (r1.le ev.le) (r2.le ev.le) s1 s2 g) (fun t' z' ⟨et, G2, H2, I2, ev2, R2⟩ => ?_) fun _ _ e => e
    subst et
    have here : Here T X pins σ G H h z' := ⟨G2, H2, I2, ev.trans ev2, R2⟩
    cases t' with
    | true => exact ⟨q, here⟩
    | false => cases q; exact ⟨rfl, here⟩
theorem left_turn (Gd : GoodX T P d X) (tk : Takes X W) {n m : Nat} {c : Bool} {x y : Value} {r : List (Value × Value)} {z : Shared} (k : Left T (cx P d).low G h n m c ((x, y) :: r)) (hz : Here T X pins σ G H h z) :
    wpAny (model X.prog X.w) X.A.in1 (eqBool x y) (fun t z' => bif t then Left T (cx P d).low G h n m c r ∧ Here T X pins σ G H h z' else c = false ∧ Here T X pins σ G H h z') X.xe z := by
  obtain ⟨xs, ys, vs, ws, us, ts, r1, r2, v1, v2, e, q, l⟩ := k.ex
  cases v1 with
  | nil => cases e
  | cons rv v1 =>
    cases v2 with
    | nil => cases e
    | cons rw' v2 =>
      injection e with e e'
      injection e with ex ey
      subst ex ey
      cases xs with
      | nil => cases r1
      | cons p xs =>
        cases ys with
        | nil => cases r2
        | cons p' ys =>
          obtain ⟨_, _, e1, h1, t1⟩ := r1
          cases e1
          obtain ⟨_, _, e2, h2, t2⟩ := r2
          cases e2
          refine wpAny_mono (item_turn Gd tk q h1 h2 rv rw' hz) (fun t z' ht => ?_) fun _ _ e => e
          cases t with
          | true => exact ⟨⟨⟨xs, ys, _, _, _, _, t1, t2, v1, v2, e', ht.1, by simp at l; omega⟩⟩, ht.2⟩
          | false => exact ht
theorem eqIs_len {C : Cxt} : ∀ {xs ys : List PV}, xs.length ≠ ys.length → ∀ {b}, eqIs C h xs ys = some b → b = false := by
  intro xs
  induction xs with
  | nil => intro ys hn b e; cases ys with
    | nil => exact absurd rfl hn
    | cons => cases e; rfl
  | cons x xs ih => intro ys hn b e; cases ys with
    | nil => cases e; rfl
    | cons y ys =>
      unfold eqIs at e
      split at e
      · exact ih (by simpa using hn) e
      · cases e; rfl
      · cases e
/-- == and != of two tuples, two lists -/
theorem eqT_ok (Gd : GoodX T P d X) (tk : Takes X W) (I : Inv X pins σ H s) (R : Rel T G h H) {o : CmpOp} (ho : o = .Eq ∨ o = .NotEq) {x y : PV} {vx vy : V} {ux uy : Value} (rx : RepV T G x vx) (ry : RepV T G y vy) (sx : RelV vx ux) (sy : RelV vy uy) {p : List PV × List PV} {c : Bool}
    (e1 : sqP x y = some p) (e2 : eqIs (cx P d).low h p.1 p.2 = some c) (q : OkR T σ W G H (.ok (.bl (if o = .Eq then c else !c)) h) (KV T Q)) : wpAny (model X.prog X.w) X.A (richCompare o ux uy) (EP X pins σ Q) X.xe s := by
  have room : X.A.units < cLine := Gd.room.units0
  have say : ∀ {t : Bool} {z : Shared}, t = c → Here T X pins σ G H h z → EP X pins σ Q (two o t) z := fun {t z} et ⟨G2, H2, I2, ev, R2⟩ => by
    subst et
    have bo : (bif o == .Eq then t else !t) = if o = .Eq then t else !t := by rcases ho with rfl | rfl <;> rfl
    unfold two
    rw [bo]
    exact ⟨.bl (if o = .Eq then t else !t), H2, I2, rfl, OkR.val (q.ev ev) R2 rfl⟩
  have now : Here T X pins σ G H h s := ⟨G, H, I, Ev.refl _ _, R⟩
  unfold sqP at e1
  split at e1
  · rename_i xs ys
    cases e1
    obtain ⟨a, vs, rfl, ta, ra⟩ := rx
    obtain ⟨a', ws, rfl, tb, rb⟩ := ry
    cases sx; cases sy
    obtain ⟨us, v1, z1, _⟩ := I.tuple (Gd.K ▸ SqT.ext R ta.sq)
    obtain ⟨ts, v2, z2, _⟩ := I.tuple (Gd.K ▸ SqT.ext R tb.sq)
    have l1 : xs.length = us.length := ra.length.trans v1.length
    have l2 : ys.length = ts.length := rb.length.trans v2.length
    refine rc_tup ho room z1 z2 (fun l z => Left T (cx P d).low G h xs.length ys.length c l ∧ Here T X pins σ G H h z) (fun z => c = false ∧ Here T X pins σ G H h z) (fun _ _ _ _ k => left_turn Gd tk k.1 k.2)
      (fun z k => say ?_ k.2) (fun z k => say k.1.symm k.2) ⟨⟨⟨xs, ys, vs, ws, us, ts, ra, rb, v1, v2, rfl, e2, Nat.add_comm ..⟩⟩, now⟩
    rw [k.1.nil, l1, l2]
    simp only [List.size_toArray]
    rfl
  · rename_i xs ys
    cases e1
    obtain ⟨a, vs, rfl, ta, ra⟩ := rx
    obtain ⟨a', ws, rfl, tb, rb⟩ := ry
    cases sx; cases sy
    obtain ⟨_, us, n, v1, g1⟩ := I.hok a _ (R.ext _ _ ta)
    obtain ⟨_, ts, n', v2, g2⟩ := I.hok a' _ (R.ext _ _ tb)
    have l1 : xs.length = us.length := ra.length.trans v1.length
    have l2 : ys.length = ts.length := rb.length.trans v2.length
    have stand : ∀ {z : Shared}, Here T X pins σ G H h z → xs.length = ys.length → ∀ {D : List Value → List Value → Prop}, (∀ us ts, Vals vs us → Vals ws ts → D us ts) → Stand z.heap a a' xs.length D := fun {z} ⟨G1, H1, I1, ev, R1⟩ same {D} k => by
      obtain ⟨_, us, n, v1, g1⟩ := I1.hok a _ (R1.ext _ _ (ev.le.at_ _ _ ta))
      obtain ⟨_, ts, n', v2, g2⟩ := I1.hok a' _ (R1.ext _ _ (ev.le.at_ _ _ tb))
      exact ⟨us, ts, ⟨n, g1⟩, ⟨n', g2⟩, (ra.length.trans v1.length).symm, by rw [same]; exact (rb.length.trans v2.length).symm, k us ts v1 v2⟩
    by_cases same : xs.length = ys.length
    · refine rc_lst ho room (N := xs.length) (fun i z => eqIs (cx P d).low h (xs.drop i) (ys.drop i) = some c ∧ Here T X pins σ G H h z) (fun z => c = false ∧ Here T X pins σ G H h z) ⟨fun i z hI => stand hI.2 same fun us ts v1 v2 u t gu gt => ?_, fun z hJ => stand hJ.2 same fun _ _ _ _ => trivial⟩
        (fun z hI => say ?_ hI.2) (fun z hJ => say hJ.1.symm hJ.2) ⟨e2, now⟩
      · have ku : i < xs.length := (ra.length.trans v1.length) ▸ (List.getElem?_eq_some_iff.mp gu).1
        have kt : i < ys.length := same ▸ ku
        obtain ⟨v, gv, rv⟩ := RepL.get ra (List.getElem?_eq_getElem ku)
        obtain ⟨v', gv', rv'⟩ := RepL.get rb (List.getElem?_eq_getElem kt)
        obtain ⟨u', gu', s1⟩ := v1.get gv
        obtain ⟨t', gt', s2⟩ := v2.get gv'
        rw [gu] at gu'; cases gu'
        rw [gt] at gt'; cases gt'
        have q0 := hI.1
        rw [List.drop_eq_getElem_cons ku, List.drop_eq_getElem_cons kt] at q0
        refine wpAny_mono (item_turn Gd tk q0 rv rv' s1 s2 hI.2) (fun b z' hb => ?_) fun _ _ e => e
        cases b <;> exact hb
      · have q0 := hI.1
        rw [List.drop_eq_nil_of_le (Nat.le_refl _), List.drop_eq_nil_of_le (Nat.le_of_eq same.symm)] at q0
        cases q0; rfl
    · exact rc_lsz ho room g1 g2 (by rw [← l1, ← l2]; exact same) (say (eqIs_len same e2).symm now)
  · cases e1
end
end Py

set_option linter.all false
set_option Elab.async false
set_option maxRecDepth 100000
set_option maxHeartbeats 2000017
/-! The evaluator's comparisons are the model's. -/
namespace Py
open L2 PyProof.Rows PySem.Spec PySem
section
variable {T : Tx} {P : Prog} {d : Nat} {X : Cx} {W : L2.WX} {pins : List (Addr × Obj)} {σ : L2.St} {H : Hp} {s : Shared} {G : Gh} {h : EH} {Q : VK}
theorem OkR.notB {r : Res PV} (o : OkR T σ W G H (notR r) (KV T Q)) : OkR T σ W G H r (KV T fun y H' => ∃ b, y = .bl b ∧ Q (.bl !b) H') := by
  refine OkR.imp (OkR.bnd o) fun a h2 G2 H2 e R2 q y ry => ?_
  cases a with
  | bl b => cases ry; exact ⟨b, rfl, OkR.val q R2 rfl⟩
  | _ => exact q.elim
theorem OkR.bolB {r : Res PV} {K : Bool → Hp → Prop} (o : OkR T σ W G H (r.bind bolR) (fun b _ _ H' => K b H')) : OkR T σ W G H r (KV T fun y H' => ∃ b, y = .bl b ∧ K b H') := by
  refine OkR.imp (OkR.bnd o) fun a h2 G2 H2 e R2 q y ry => ?_
  cases a with
  | bl b => cases ry; exact ⟨b, rfl, q G2 H2 (Ev.refl _ _) R2⟩
  | _ => exact q.elim
theorem ne_ins (Gd : GoodX T P d X) (tk : Takes X W) (I : Inv X pins σ H s) (R : Rel T G h H) {x y : PV} {vx vy : V} {ux uy : Value} (rx : RepV T G x vx) (ry : RepV T G y vy) (sx : RelV vx ux) (sy : RelV vy uy) (ok : okB (cx P d) h y = true)
    (q : OkR T σ W G H (notR (callM (cx P d).low x .__eq__ [y] [] h)) (KV T Q)) : wpAny (model X.prog X.w) X.A (richCompare .NotEq ux uy) (EP X pins σ Q) X.xe s := by
  obtain ⟨c, fs, cd, f, e1, e2, e3, e4, e5, q⟩ := callM_inv q.notB
  obtain ⟨a, dx, ys, rfl, ha, rf⟩ := ins_of R rx e1
  cases sx
  obtain ⟨od, J⟩ := inst_of Gd I ha
  have IO := (Gd.txt.cls c cd e3).2 e4
  obtain ⟨M, _⟩ := IO.meth _ _ e5
  obtain ⟨tb, t1, t2⟩ := other_ty Gd I R ry sy ok e3 e4
  have m1 := M.at_
  rw [Gd.txt.dun.1] at m1
  refine ne_own (by have := Gd.room.units; omega) (Gd.K ▸ I.kIn) J t1 t2 (IO.ne (by rw [e5]; rfl)) m1 M.fn IO.hm ?_
  refine thn (callD_low Gd tk I R (RepL.cons rx (RepL.one ry)) (.cons rfl (.cons sy .nil)) q) fun u s' hq => ?_
  obtain ⟨v, H', I', r, b, rfl, q⟩ := hq
  cases r
  exact ⟨b, rfl, .bl !b, H', I', rfl, q⟩
theorem int_ne (Gd : GoodX T P d X) (tk : Takes X W) (I : Inv X pins σ H s) (R : Rel T G h H) {i : Int} {y : PV} {vx vy : V} {ux uy : Value} (rx : RepV T G (.int i) vx) (ry : RepV T G y vy) (sx : RelV vx ux) (sy : RelV vy uy)
    (q : OkR T σ W G H (notR (callM (cx P d).low y .__eq__ [.int i] [] h)) (KV T Q)) : wpAny (model X.prog X.w) X.A (richCompare .NotEq ux uy) (EP X pins σ Q) X.xe s := by
  obtain ⟨c, fs, cd, f, e1, e2, e3, e4, e5, q⟩ := callM_inv q.notB
  obtain ⟨a, dx, ys, rfl, ha, rf⟩ := ins_of R ry e1
  cases sy
  cases rx
  obtain ⟨t, rfl⟩ := sx
  obtain ⟨od, J⟩ := inst_of Gd I ha
  have IO := (Gd.txt.cls c cd e3).2 e4
  obtain ⟨M, _⟩ := IO.meth _ _ e5
  have m1 := M.at_
  rw [Gd.txt.dun.1] at m1
  refine ne_refl (by have := Gd.room.units; omega) (Gd.K ▸ I.kIn) J rfl IO.sInt (IO.ne (by rw [e5]; rfl)) m1 M.fn IO.hm ?_
  refine thn (callD_low Gd tk I R (RepL.cons ry (RepL.one (x := .int i) (y := .int i) rfl)) (.cons rfl (.cons (show RelV (.int i) (.int i t) from ⟨t, rfl⟩) .nil)) q) fun u s' hq => ?_
  obtain ⟨v, H', I', r, b, rfl, q⟩ := hq
  cases r
  exact ⟨b, rfl, .bl !b, H', I', rfl, q⟩
theorem eq_ok (Gd : GoodX T P d X) (tk : Takes X W) (I : Inv X pins σ H s) (R : Rel T G h H) {x y : PV} {vx vy : V} {ux uy : Value} (rx : RepV T G x vx) (ry : RepV T G y vy) (sx : RelV vx ux) (sy : RelV vy uy)
    (q : OkR T σ W G H (eqR (cx P d) x y h) (KV T Q)) : wpAny (model X.prog X.w) X.A (compareOp .Eq ux uy) (EP X pins σ Q) X.xe s := by
  unfold eqR at q
  cases e : asIns h x with
  | some p =>
    rw [e] at q
    dsimp only at q
    split at q
    · rename_i ok; exact cmp_ins Gd tk I R (.inl rfl) rx ry sx sy ok q
    · exact q.elim
  | none =>
    rw [e] at q
    dsimp only at q
    cases e2 : scalP x y with
    | some b =>
      rw [e2] at q
      dsimp only at q
      obtain ⟨s1, s2⟩ := scal_ok rx ry e2
      exact op_eq pins s σ H _ _ ux uy Q I sx sy ⟨s1, by rw [s2]; exact q.val R rfl⟩
    | none =>
      rw [e2] at q
      dsimp only at q
      cases e3 : datEq (norm h x) (norm h y) with
      | some b =>
        rw [e3] at q
        dsimp only at q
        unfold datEq at e3
        split at e3
        · rename_i d1 d2 z1 z2
          split at e3
          · rename_i hs
            cases e3
            obtain ⟨h1, h2⟩ := Bool.and_eq_true_iff.mp hs
            exact op_eqD Gd.room.units pins s σ H _ _ ux uy Q I sx sy ⟨d1, d2, Gd.K ▸ norm_ok R rx z1, Gd.K ▸ norm_ok R ry z2, h1, h2, q.val R rfl⟩
          · cases e3
        · cases e3
      | none =>
        rw [e3] at q
        dsimp only at q
        cases e4 : sqP x y with
        | some p =>
          rw [e4] at q
          dsimp only at q
          split at q
          · rename_i b e5
            exact eqT_ok Gd tk I R (.inl rfl) rx ry sx sy e4 e5 q
          · exact q.elim
        | none =>
          rw [e4] at q
          dsimp only at q
          cases x with
          | int i => exact int_cmp Gd tk I R (.inl rfl) rx ry sx sy q
          | _ => exact q.elim
theorem ne_ok (Gd : GoodX T P d X) (tk : Takes X W) (I : Inv X pins σ H s) (R : Rel T G h H) {x y : PV} {vx vy : V} {ux uy : Value} (rx : RepV T G x vx) (ry : RepV T G y vy) (sx : RelV vx ux) (sy : RelV vy uy)
    (q : OkR T σ W G H (opCmp (cx P d) .ne x y h) (KV T Q)) : wpAny (model X.prog X.w) X.A (compareOp .NotEq ux uy) (EP X pins σ Q) X.xe s := by
  rw [opCmp_ne] at q
  cases e : asIns h x with
  | some p =>
    rw [e] at q
    dsimp only at q
    split at q
    · rename_i ok; exact ne_ins Gd tk I R rx ry sx sy ok q
    · exact q.elim
  | none =>
    rw [e] at q
    dsimp only at q
    cases ey : asIns h y with
    | some p =>
      rw [ey] at q
      dsimp only at q
      cases x with
      | int i => exact int_ne Gd tk I R rx ry sx sy q
      | _ => exact q.elim
    | none =>
    rw [ey] at q
    dsimp only at q
    unfold eqR at q
    rw [e] at q
    dsimp only at q
    cases e2 : scalP x y with
    | some b =>
      rw [e2] at q
      dsimp only at q
      obtain ⟨s1, s2⟩ := scal_ok rx ry e2
      exact op_ne pins s σ H _ _ ux uy Q I sx sy ⟨s1, by rw [s2]; exact OkR.val q R rfl⟩
    | none =>
      rw [e2] at q
      dsimp only at q
      cases e3 : datEq (norm h x) (norm h y) with
      | some b =>
        rw [e3] at q
        dsimp only at q
        unfold datEq at e3
        split at e3
        · rename_i d1 d2 z1 z2
          split at e3
          · rename_i hs
            cases e3
            obtain ⟨h1, h2⟩ := Bool.and_eq_true_iff.mp hs
            exact op_neD Gd.room.units pins s σ H _ _ ux uy Q I sx sy ⟨d1, d2, Gd.K ▸ norm_ok R rx z1, Gd.K ▸ norm_ok R ry z2, h1, h2, OkR.val q R rfl⟩
          · cases e3
        · cases e3
      | none =>
        rw [e3] at q
        dsimp only at q
        cases e4 : sqP x y with
        | some p =>
          rw [e4] at q
          dsimp only at q
          split at q
          · rename_i b e5
            exact eqT_ok Gd tk I R (.inr rfl) rx ry sx sy e4 e5 q
          · exact q.elim
        | none =>
        rw [e4] at q
        dsimp only at q
        cases x with
        | int i =>
          have z : callM (cx P d) y .__eq__ [.int i] [] h = .stuck := by unfold callM; rw [ey]
          dsimp only at q
          rw [z] at q
          exact q.elim
        | _ => exact q.elim
theorem flatP_ok {x : PV} {v : V} (rx : RepV T G x v) (f : flatP x = true) : flatV v = true := by
  cases x <;> first | (cases f; done) | (cases rx; rfl)
theorem eqP_ok {x y : PV} {v w : V} (rx : RepV T G x v) (ry : RepV T G y w) (f : flatP x = true) (g : flatP y = true) : eqV v w = eqP x y := by
  cases x <;> cases y <;> first | (cases f; done) | (cases g; done) | (cases rx; cases ry; rfl)
theorem allF_ok : ∀ {xs : List PV} {vs : List V}, RepL T G xs vs → xs.all flatP = true → vs.all flatV = true
  | [], _, r, _ => by cases r; rfl
  | x :: xs, _, ⟨y, q, e, h, t⟩, f => by
    subst e
    rw [List.all_cons, Bool.and_eq_true] at f ⊢
    exact ⟨flatP_ok h f.1, allF_ok t f.2⟩
theorem anyF_ok {x : PV} {v : V} (rx : RepV T G x v) (fx : flatP x = true) : ∀ {xs : List PV} {vs : List V}, RepL T G xs vs → xs.all flatP = true → vs.any (fun y => eqV y v) = xs.any fun y => eqP y x
  | [], _, r, _ => by cases r; rfl
  | z :: xs, _, ⟨y, q, e, h, t⟩, f => by
    subst e
    simp only [List.all_cons, Bool.and_eq_true] at f
    rw [List.any_cons, List.any_cons, eqP_ok h rx f.1 fx, anyF_ok rx fx t f.2]
/-- a list's or tuple's items -/
theorem seq_ok (R : Rel T G h H) {x : PV} {v : V} (rx : RepV T G x v) {xs : List PV} (e : asSeq h x = some xs) : ∃ p ys, v = .ref p ∧ (SqL T.K H p ys ∨ SqT T.K H p ys) ∧ RepL T G xs ys := by
  cases x with
  | tup zs => cases e; obtain ⟨a, ys, rfl, q, r⟩ := rx; exact ⟨a, ys, rfl, .inr (SqT.ext R q.sq), r⟩
  | lst zs => cases e; obtain ⟨a, ys, rfl, q, r⟩ := rx; exact ⟨a, ys, rfl, .inl (.inl (.inl (R.ext _ _ q))), r⟩
  | scr ns =>
    cases e; obtain ⟨a, rfl, q⟩ := rx
    refine ⟨a, _, rfl, .inl (SqL.ext R q), ?_⟩
    clear q
    induction ns with
    | nil => rfl
    | cons n ns ih => exact ⟨_, _, rfl, rfl, ih⟩
  | loc n =>
    obtain ⟨a, rfl, m⟩ := rx
    unfold asSeq at e
    dsimp only at e
    cases z : hget n h with
    | none => rw [z] at e; cases e
    | some o =>
      rw [z] at e
      obtain ⟨b, m2, r⟩ := R.ob n o z
      rw [m] at m2; cases m2
      cases o with
      | lst zs => cases e; obtain ⟨_, ys, e1, r⟩ := r; exact ⟨a, ys, rfl, .inl (.inl (.inl e1)), r⟩
      | _ => cases e
  | _ => cases e
theorem inR_seq {y x : PV} (n : ∀ z, y ≠ .str z) : inR y x h = match asSeq h y with
    | some xs => if flatP x && xs.all flatP then .ok (.bl (xs.any fun y => eqP y x)) h else .stuck
    | none => .stuck := by
  cases y <;> first | rfl | exact absurd rfl (n _)
theorem inR_str {z : Str} {x : PV} {K : PV → EH → Gh → Hp → Prop} (q : OkR T σ W G H (inR (.str z) x h) K) : ∃ k, x = .str ⟨#[k]⟩ ∧ OkR T σ W G H (.ok (.bl (decide (k ∈ z.cps.toList))) h) K := by
  unfold inR at q
  dsimp only at q
  cases x with
  | str y =>
    dsimp only at q
    split at q
    · rename_i k e
      obtain ⟨⟨l⟩⟩ := y
      have e : l = [k] := e
      subst e
      exact ⟨k, rfl, q⟩
    · exact q.elim
  | _ => exact q.elim
theorem OkR.notD {b : Bool} (q : OkR T σ W G H (notR (.ok (.bl b) h)) (KV T Q)) : OkR T σ W G H (.ok (.bl !b) h) (KV T Q) := q
theorem OkR.notI {r : Res PV} {K : PV → EH → Gh → Hp → Prop} (q : OkR T σ W G H (notR r) K) : OkR T σ W G H r (fun y h' G' H' => OkR T σ W G' H' (match y with | .bl b => .ok (.bl !b) h' | _ => .stuck) K) := OkR.bnd q
theorem in_ok (Gd : GoodX T P d X) (I : Inv X pins σ H s) (R : Rel T G h H) {x y : PV} {vx vy : V} {ux uy : Value} (rx : RepV T G x vx) (ry : RepV T G y vy) (sx : RelV vx ux) (sy : RelV vy uy)
    (q : OkR T σ W G H (inR y x h) (KV T Q)) : wpAny (model X.prog X.w) X.A (compareOp .In ux uy) (EP X pins σ Q) X.xe s := by
  by_cases hz : ∃ z, y = .str z
  · obtain ⟨z, rfl⟩ := hz
    obtain ⟨k, rfl, q⟩ := inR_str q
    cases rx; cases ry
    exact op_in_sign pins s σ H _ _ ux uy Q I sx sy ⟨k, z, rfl, rfl, q.val R rfl⟩
  rw [inR_seq fun z e => hz ⟨z, e⟩] at q
  cases e : asSeq h y with
  | none => rw [e] at q; exact q.elim
  | some xs =>
    rw [e] at q
    dsimp only at q
    split at q
    · rename_i f
      obtain ⟨f1, f2⟩ := Bool.and_eq_true_iff.mp f
      obtain ⟨p, ys, rfl, sq, r⟩ := seq_ok R ry e
      refine op_in_seq pins s σ H _ _ ux uy Q I sx sy ⟨p, ys, rfl, Gd.K ▸ sq, flatP_ok rx f1, allF_ok r f2, ?_⟩
      have : inV vx ys = xs.any fun y => eqP y x := anyF_ok rx f1 r f2
      rw [this]
      exact q.val R rfl
    · exact q.elim
theorem nin_ok (Gd : GoodX T P d X) (I : Inv X pins σ H s) (R : Rel T G h H) {x y : PV} {vx vy : V} {ux uy : Value} (rx : RepV T G x vx) (ry : RepV T G y vy) (sx : RelV vx ux) (sy : RelV vy uy)
    (q : OkR T σ W G H (notR (inR y x h)) (KV T Q)) : wpAny (model X.prog X.w) X.A (compareOp .NotIn ux uy) (EP X pins σ Q) X.xe s := by
  by_cases hz : ∃ z, y = .str z
  · obtain ⟨z, rfl⟩ := hz
    obtain ⟨k, rfl, q⟩ := inR_str (OkR.notI q)
    cases rx; cases ry
    have q : KV T Q (.bl !decide (k ∈ z.cps.toList)) h G H := q G H (Ev.refl _ _) R
    exact op_notIn_sign pins s σ H _ _ ux uy Q I sx sy ⟨k, z, rfl, rfl, q _ rfl⟩
  rw [inR_seq fun z e => hz ⟨z, e⟩] at q
  cases e : asSeq h y with
  | none => rw [e] at q; exact q.elim
  | some xs =>
    rw [e] at q
    dsimp only at q
    split at q
    · rename_i f
      obtain ⟨f1, f2⟩ := Bool.and_eq_true_iff.mp f
      obtain ⟨p, ys, rfl, sq, r⟩ := seq_ok R ry e
      refine op_notIn_seq pins s σ H _ _ ux uy Q I sx sy ⟨p, ys, rfl, Gd.K ▸ sq, flatP_ok rx f1, allF_ok r f2, ?_⟩
      have : inV vx ys = xs.any fun y => eqP y x := anyF_ok rx f1 r f2
      rw [this]
      exact OkR.val q R rfl
    · exact q.elim
theorem non_iff {x : PV} {v : V} (rx : RepV T G x v) : decide (v = .non) = isNon x := by
  cases x with
  | non => cases rx; rfl
  | bl _ => cases rx; rfl
  | int _ => cases rx; rfl
  | str _ => cases rx; rfl
  | ty _ => cases rx; rfl
  | cls _ => cases rx; rfl
  | fn _ => cases rx; rfl
  | tup _ => obtain ⟨a, _, rfl, _⟩ := rx; rfl
  | lst _ => obtain ⟨a, _, rfl, _⟩ := rx; rfl
  | dct _ => obtain ⟨a, _, rfl, _⟩ := rx; rfl
  | obj _ _ => obtain ⟨a, _, _, rfl, _⟩ := rx; rfl
  | scr _ => obtain ⟨a, rfl, _⟩ := rx; rfl
  | loc _ => obtain ⟨a, rfl, _⟩ := rx; rfl
theorem ord_ok (Gd : GoodX T P d X) (tk : Takes X W) (I : Inv X pins σ H s) (R : Rel T G h H) {o : CO} (ho : o = .lt ∨ o = .le ∨ o = .gt ∨ o = .ge) {x y : PV} {vx vy : V} {ux uy : Value} (rx : RepV T G x vx) (ry : RepV T G y vy) (sx : RelV vx ux) (sy : RelV vy uy)
    (q : OkR T σ W G H (ordR (cx P d) o x y h) (KV T Q)) : wpAny (model X.prog X.w) X.A (compareOp o.op ux uy) (EP X pins σ Q) X.xe s := by
  have hc : compareOp o.op ux uy = richCompare o.op ux uy := by rcases ho with rfl | rfl | rfl | rfl <;> rfl
  have ho' : o = .eq ∨ o = .lt ∨ o = .le ∨ o = .gt ∨ o = .ge := .inr ho
  by_cases hx : ∃ i, x = .int i
  · obtain ⟨i, rfl⟩ := hx
    by_cases hy : ∃ j, y = .int j
    · obtain ⟨j, rfl⟩ := hy
      cases rx; cases ry
      rcases ho with rfl | rfl | rfl | rfl
      · exact op_lt pins s σ H _ _ ux uy Q I sx sy ⟨i, j, rfl, rfl, q.val R rfl⟩
      · exact op_le pins s σ H _ _ ux uy Q I sx sy ⟨i, j, rfl, rfl, q.val R rfl⟩
      · exact op_gt pins s σ H _ _ ux uy Q I sx sy ⟨i, j, rfl, rfl, q.val R rfl⟩
      · exact op_ge pins s σ H _ _ ux uy Q I sx sy ⟨i, j, rfl, rfl, q.val R rfl⟩
    · have q' : OkR T σ W G H (callM (cx P d) y o.rev [.int i] [] h) (KV T Q) := by
        cases y with
        | int j => exact absurd ⟨j, rfl⟩ hy
        | _ => exact q
      rw [hc]
      exact int_cmp Gd tk I R ho' rx ry sx sy q'
  · have q' : OkR T σ W G H (if okB (cx P d) h y then callM (cx P d) x o.dun [y] [] h else .stuck) (KV T Q) := by
      cases x with
      | int j => exact absurd ⟨j, rfl⟩ hx
      | _ => exact q
    split at q'
    · rename_i ok
      rw [hc]
      exact cmp_ins Gd tk I R ho' rx ry sx sy ok q'
    · exact q'.elim
/-- a op b -/
theorem opCmp_ok (Gd : GoodX T P d X) (tk : Takes X W) (I : Inv X pins σ H s) (R : Rel T G h H) {o : CO} {x y : PV} {vx vy : V} {ux uy : Value} (rx : RepV T G x vx) (ry : RepV T G y vy) (sx : RelV vx ux) (sy : RelV vy uy)
    (q : OkR T σ W G H (opCmp (cx P d) o x y h) (KV T Q)) : wpAny (model X.prog X.w) X.A (compareOp o.op ux uy) (EP X pins σ Q) X.xe s := by
  cases o with
  | eq => exact eq_ok Gd tk I R rx ry sx sy q
  | ne => exact ne_ok Gd tk I R rx ry sx sy q
  | lt => exact ord_ok Gd tk I R (.inl rfl) rx ry sx sy q
  | le => exact ord_ok Gd tk I R (.inr (.inl rfl)) rx ry sx sy q
  | gt => exact ord_ok Gd tk I R (.inr (.inr (.inl rfl))) rx ry sx sy q
  | ge => exact ord_ok Gd tk I R (.inr (.inr (.inr rfl))) rx ry sx sy q
  | isn =>
    cases y with
    | non => cases ry; exact op_isN pins s σ H _ _ ux uy Q I sx sy ⟨rfl, by rw [non_iff rx]; exact OkR.val q R rfl⟩
    | _ => exact q.elim
  | isnt =>
    cases y with
    | non => cases ry; exact op_notN pins s σ H _ _ ux uy Q I sx sy ⟨rfl, by rw [non_iff rx]; exact OkR.val q R rfl⟩
    | _ => exact q.elim
  | inn => exact in_ok Gd I R rx ry sx sy q
  | nin => exact nin_ok Gd I R rx ry sx sy q
end
end Py

set_option linter.all false
set_option Elab.async false
set_option maxRecDepth 100000
set_option maxHeartbeats 2000017
/-! Attributes, items, builtins. -/
namespace Py
open L2 PyProof.Rows PySem.Spec PySem
section
variable {T : Tx} {P : Prog} {d : Nat} {X : Cx} {W : L2.WX} {pins : List (Addr × Obj)} {σ : L2.St} {H : Hp} {s : Shared} {G : Gh} {h : EH} {Q : VK}
theorem fld_inv {c f : Nm} (e : P.fld c f = true) : ∃ cd, P.cls c = some cd ∧ cd.ex = none ∧ f ∈ cd.fl := by
  unfold Prog.fld at e
  cases z : P.cls c with
  | none => rw [z] at e; cases e
  | some cd =>
    rw [z] at e
    dsimp only at e
    cases w : cd.ex with
    | some _ => rw [w] at e; cases e
    | none => rw [w] at e; exact ⟨cd, rfl, w, of_decide_eq_true e⟩
/-- o.f -/
theorem getAtt_ok (Gd : GoodX T P d X) {A : Around} {E : Value → Shared → Prop} {b : Bool} (I : Inv X pins σ H s) (R : Rel T G h H) {x : PV} {vx : V} {ux : Value} (rx : RepV T G x vx) (sx : RelV vx ux) {f : Nm}
    (q : OkR T σ W G H (getAtt (cx P d) x f h) (KV T Q)) : wpAny (model X.prog X.w) A (getAttr ux (T.st f) b) (EP X pins σ Q) E s := by
  unfold getAtt at q
  cases e : asIns h x with
  | none => rw [e] at q; exact q.elim
  | some p =>
    obtain ⟨c, fs⟩ := p
    rw [e] at q
    dsimp only at q
    split at q
    · rename_i hf
      obtain ⟨cd, c1, c2, c3⟩ := fld_inv hf
      have IO := (Gd.txt.cls c cd c1).2 c2
      obtain ⟨a, dx, ys, rfl, ha, rf⟩ := ins_of R rx e
      cases sx
      have l := rf.look Gd.txt.inj f
      cases z : look f fs with
      | none => rw [z] at q; exact q.elim
      | some v =>
        rw [z] at q l
        obtain ⟨y, l1, l2⟩ := l
        exact getattr_ok I ha (Gd.K ▸ IO.cls) (Gd.K ▸ IO.fl f c3) l1 fun u s' I' r => ⟨y, H, I', r, q.val R l2⟩
    · exact q.elim
/-- the method -/
theorem getMet_ok (Gd : GoodX T P d X) {A : Around} {E : Value → Shared → Prop} {pl : Sem Bool} {Q : Value × List Value → Shared → Prop} (I : Inv X pins σ H s) (R : Rel T G h H) {x : PV} {vx : V} {ux : Value} (rx : RepV T G x vx) (sx : RelV vx ux) {m : Nm} {c : Nm} {fs : List (Nm × PV)} {cd : CDef} {f : Nm}
    (e1 : asIns h x = some (c, fs)) (e2 : look m fs = none) (e3 : P.cls c = some cd) (e4 : cd.ex = none) (e5 : look m cd.ms = some f) (q : Q (.ref (T.ad f), [ux]) s) : wpAny (model X.prog X.w) A (getMethod ux (T.st m) pl) Q E s := by
  have IO := (Gd.txt.cls c cd e3).2 e4
  obtain ⟨a, dx, ys, rfl, ha, rf⟩ := ins_of R rx e1
  cases sx
  have l := rf.look Gd.txt.inj m
  rw [e2] at l
  exact getmeth_ok I ha (Gd.K ▸ IO.cls) (Gd.K ▸ (IO.meth _ _ e5).1) l q
/-- a value's truth -/
theorem truth_ok (Gd : GoodX T P d X) (R : Rel T G h H) {x : PV} {v : V} (rx : RepV T G x v) {b : Bool} (e : truth h x = some b) : TruV X.K v H b := by
  rw [Gd.K]
  cases x with
  | non => cases rx; cases e; rfl
  | bl _ => cases rx; cases e; rfl
  | int _ => cases rx; cases e; rfl
  | str y =>
    cases rx
    unfold truth at e
    dsimp only at e
    split at e
    · rename_i hb
      cases e
      refine ⟨Nat.le_trans hb big_le, ?_⟩
      rw [Bool.eq_iff_iff]
      simp
    · cases e
  | tup xs => obtain ⟨a, ys, rfl, q, r⟩ := rx; cases e; exact .inr (.inl ⟨ys, SqT.ext R q.sq, by rw [r.empty]⟩)
  | lst xs => obtain ⟨a, ys, rfl, q, r⟩ := rx; cases e; exact .inl ⟨ys, .inl (.inl (R.ext _ _ q)), by rw [r.empty]⟩
  | loc n =>
    obtain ⟨a, rfl, m⟩ := rx
    unfold truth at e
    dsimp only at e
    cases z : hget n h with
    | none => rw [z] at e; cases e
    | some o =>
      rw [z] at e
      obtain ⟨a', m2, r⟩ := R.ob n o z
      rw [m] at m2; cases m2
      cases o with
      | lst zs => cases e; obtain ⟨_, ys, e1, r⟩ := r; exact .inl ⟨ys, .inl (.inl e1), by rw [r.empty]⟩
      | dct zs => cases e; obtain ⟨_, ys, e1, r⟩ := r; exact .inr (.inr ⟨ys, e1, by rw [r.empty]⟩)
      | _ => cases e
  | _ => cases e
theorem truR_ok (Gd : GoodX T P d X) (I : Inv X pins σ H s) (R : Rel T G h H) {x : PV} {v : V} {u : Value} (rx : RepV T G x v) (sx : RelV v u) {Q : Bool → Hp → Prop}
    (q : OkR T σ W G H (truR x h) (fun b _ _ H' => Q b H')) : wpAny (model X.prog X.w) X.A (truthy u) (TP X pins σ Q) X.xe s := by
  unfold truR at q
  cases e : truth h x with
  | none => rw [e] at q; exact q.elim
  | some b =>
    rw [e] at q
    exact tru_ok pins s σ H v u Q I sx ⟨b, truth_ok Gd R rx e, q G H (Ev.refl _ _) R⟩
theorem getIt_seq {x y : PV} (n : ∀ z, x ≠ .str z) : getIt x y h = match asSeq h x with
    | some xs => (match y with
      | .int k => (match pyIx k xs.length with
        | some j => (match xs[j]? with
          | some v => .ok v h
          | none => .stuck)
        | none => .stuck)
      | _ => .stuck)
    | none => .stuck := by
  cases x <;> first | rfl | exact absurd rfl (n _)
theorem getIt_str {z : Str} {y : PV} {K : PV → EH → Gh → Hp → Prop} (q : OkR T σ W G H (getIt (.str z) y h) K) : ∃ k c, y = .int k ∧ z.length ≤ big ∧ atI z.cps.toList k = some c ∧ OkR T σ W G H (.ok (.str ⟨#[c]⟩) h) K := by
  unfold getIt at q
  dsimp only at q
  cases y with
  | int k =>
    dsimp only at q
    split at q
    · rename_i hb
      cases e2 : pyIx k z.cps.toList.length with
      | none => rw [e2] at q; exact q.elim
      | some j =>
        rw [e2] at q
        dsimp only at q
        cases e3 : z.cps.toList[j]? with
        | none => rw [e3] at q; exact q.elim
        | some c =>
          rw [e3] at q
          refine ⟨k, c, rfl, hb, ?_, q⟩
          unfold atI
          rw [show ixN z.cps.toList.length k = some j from e2]
          exact e3
    · exact q.elim
  | _ => exact q.elim
/-- o[i] -/
theorem getIt_ok (Gd : GoodX T P d X) (I : Inv X pins σ H s) (R : Rel T G h H) {x y : PV} {vx vy : V} {ux uy : Value} (rx : RepV T G x vx) (ry : RepV T G y vy) (sx : RelV vx ux) (sy : RelV vy uy) {value slice : Expr}
    (hs : subscripted slice false ux uy = operate [ux, uy] (getItem ux uy)) (q : OkR T σ W G H (getIt x y h) (KV T Q)) : wpAny (model X.prog X.w) X.A (subscriptTail value slice ux uy) (EP X pins σ Q) X.xe s := by
  by_cases hz : ∃ z, x = .str z
  · obtain ⟨z, rfl⟩ := hz
    obtain ⟨k, c, rfl, hb, e, q⟩ := getIt_str q
    cases rx; cases ry
    exact ix_str value slice pins s σ H _ _ ux uy Q I sx sy ⟨z, k, c, rfl, rfl, Nat.le_trans hb big_le, e, q.val R rfl⟩ hs
  rw [getIt_seq fun z e => hz ⟨z, e⟩] at q
  cases e : asSeq h x with
  | none => rw [e] at q; exact q.elim
  | some xs =>
    rw [e] at q
    dsimp only at q
    obtain ⟨p, ys, rfl, sq, r⟩ := seq_ok R rx e
    cases y with
    | int k =>
      cases ry
      dsimp only at q
      cases e2 : pyIx k xs.length with
      | none => rw [e2] at q; exact q.elim
      | some j =>
        rw [e2] at q
        dsimp only at q
        cases e3 : xs[j]? with
        | none => rw [e3] at q; exact q.elim
        | some z =>
          rw [e3] at q
          obtain ⟨w, w1, w2⟩ := r.get e3
          have e4 : atI ys k = some w := by
            unfold atI
            rw [show ixN ys.length k = some j from by rw [← r.length]; exact e2]
            exact w1
          have qq := q.val R w2
          rcases sq with sq | sq
          · exact ix_list value slice pins s σ H _ _ ux uy Q I sx sy ⟨p, ys, k, w, rfl, rfl, Gd.K ▸ sq, e4, qq⟩ hs
          · exact ix_tup value slice pins s σ H _ _ ux uy Q I sx sy ⟨p, ys, k, w, rfl, rfl, Gd.K ▸ sq, e4, qq⟩ hs
    | _ => exact q.elim
/-- behind a change of our own -/
theorem OkR.setl {α : Type} {n : Nat} {a : Addr} {o' : EO} {u' : HO} {v : α} {K : α → EH → Gh → Hp → Prop} (o : OkR T σ W G H (.ok v (hset n o' h)) K) (R : Rel T G h H) (e : mget n G.m = some a) (f : G.F a = none) (r : RepO T G a (upd H a u') o') : K v (hset n o' h) G (upd H a u') :=
  o G _ (Ev.set e) (R.set e f r)
/-- o[k] = v -/
theorem setIt_ok (R : Rel T G h H) {x k v : PV} {vx vk vv : V} (rx : RepV T G x vx) (rk : RepV T G k vk) (rv : RepV T G v vv) {Q : Hp → Prop}
    (q : OkR T σ W G H (setIt x k v h) (fun _ h' G' H' => Rel T G' h' H' → Ev G H G' H' → Q H')) : rSetL vx vk vv H Q := by
  unfold setIt at q
  cases x with
  | loc n =>
    obtain ⟨a, rfl, m⟩ := rx
    dsimp only at q
    cases z : hget n h with
    | none => rw [z] at q; exact q.elim
    | some o =>
      rw [z] at q
      obtain ⟨b, m2, r⟩ := R.ob n o z
      rw [m] at m2; cases m2
      cases o with
      | lst xs =>
        dsimp only at q
        cases k with
        | int i =>
          cases rk
          dsimp only at q
          cases e2 : pyIx i xs.length with
          | none => rw [e2] at q; exact q.elim
          | some j =>
            rw [e2] at q
            obtain ⟨f, ys, e1, r⟩ := r
            refine ⟨a, ys, i, j, rfl, rfl, e1, by rw [← r.length]; exact e2, ?_⟩
            have R2 := R.set (u' := .lst (ys.set j vv)) (o' := .lst (xs.set j v)) m f ⟨f, _, upd_same, r.set rv j⟩
            exact q G _ (Ev.set m) R2 R2 (Ev.set m)
        | _ => exact q.elim
      | _ => exact q.elim
  | _ => exact q.elim
/-- xs.append(v) -/
theorem append_ok (Gd : GoodX T P d X) (I : Inv X pins σ H s) (R : Rel T G h H) {n : Nat} {xs : List PV} {v : PV} {vx vv : V} {ux uv : Value} (rx : RepV T G (.loc n) vx) (rv : RepV T G v vv) (sx : RelV vx ux) (sv : RelV vv uv) (z : hget n h = some (.lst xs)) (hb : xs.length < big)
    (q : OkR T σ W G H (.ok .non (hset n (.lst (xs ++ [v])) h)) (KV T Q)) : wpAny (model X.prog X.w) X.A (call (.builtin "list.append") [ux, uv]) (EP X pins σ Q) X.xe s := by
  obtain ⟨a, rfl, m⟩ := rx
  obtain ⟨b, m2, f, ys, e1, r⟩ := R.ob n _ z
  rw [m] at m2; cases m2
  refine mt_append pins s σ H _ _ ux [uv] Q I sx (.cons sv .nil) ⟨a, ys, vv, rfl, rfl, e1, ?_, ?_⟩
  · rw [← r.length]; exact Nat.lt_of_lt_of_le hb big_le
  · exact q.setl R m f ⟨f, _, upd_same, r.append (RepL.one rv)⟩ _ rfl
end
end Py

set_option linter.all false
set_option Elab.async false
set_option maxRecDepth 100000
set_option maxHeartbeats 2000017
/-! Builtins. -/
namespace Py
open L2 PyProof.Rows PySem.Spec PySem
section
variable {T : Tx} {P : Prog} {d : Nat} {X : Cx} {W : L2.WX} {pins : List (Addr × Obj)} {σ : L2.St} {H : Hp} {s : Shared} {G : Gh} {h : EH} {Q : VK}
theorem len_own {prog : Program} {w : World} {A : Around} {E : Value → Shared → Prop} {s : Shared} {K : PySem.W.Frag} {x C f : Addr} {ox : Obj} {od : Option Obj} {Q : Value → Shared → Prop} (X : K.In s.heap) (I : PySem.W.InstAt s.heap x ox C od) (hs : PySem.W.findIn K (.ref C) "__len__" = some (some (.ref f))) (hf : PySem.W.isFn K (.ref f) = true)
    (h : wpAny (model prog w) A.in1 (call (.ref f) [.ref x]) (fun v s' => ∃ n t, v = .int n t ∧ 0 ≤ n ∧ n < 2 ^ 63 ∧ Q (.int n s'.toks) { s' with toks := s'.toks + 1 }) E s) : wpAny (model prog w) A (call (.builtin "len") [.ref x]) Q E s := by
  refine PySem.Calls.call_function_entry kind_len plain_len entry_len (by unfold argsOk; kernel_rfl) ?_
  unfold Builtin.«len»
  refine wpAny_bind (show wpAny _ _ (oneArg "len" _) _ _ _ from wpAny_pure ?_)
  refine wpAny_bind (m := callSpecial? (.ref x) (Str.ofString "__len__")) (PySem.W.special_fn X I hs (beq_iff_eq.mp hf) (wpAny_mono h (fun v s' hv => ?_) fun _ _ e => e))
  obtain ⟨n, t, rfl, h0, h1, q⟩ := hv
  cases s'
  have e0 : ¬ n < 0 := by omega
  have e1 : ¬ n ≥ 2 ^ 63 := by omega
  wp_walk
  rw [if_neg e1]
  wp_walk
  exact ⟨_, rfl, q⟩
/-- a known thing's type -/
theorem ty_any (Tt : Txt T P X.mg) (R : Rel T G h H) {x : PV} {v : V} (rx : RepV T G x v) (ok : okB (cx P d) h x = true) : ∃ tt, TyX T.K H v tt ∧
    ((∃ n, tt = .type n ∧ n ∈ tyNames ∧ tyOf h x = some n ∧ asIns h x = none) ∨ ∃ c fs cd, tt = .ref (T.ad c) ∧ asIns h x = some (c, fs) ∧ P.cls c = some cd ∧ cd.ex = none) := by
  unfold okB at ok
  cases ey : asIns h x with
  | none =>
    rw [ey] at ok
    cases ty : tyOf h x with
    | none => rw [ty] at ok; cases ok
    | some n =>
      obtain ⟨tx, tn⟩ := ty_of R rx ty
      exact ⟨_, tx, .inl ⟨n, rfl, tn, rfl, rfl⟩⟩
  | some p =>
    obtain ⟨e, gs⟩ := p
    rw [ey] at ok
    obtain ⟨ce, p1, p2⟩ := inst_inv ok
    exact ⟨_, ty_ins Tt R rx ey p1 p2, .inr ⟨e, gs, ce, rfl, rfl, p1, p2⟩⟩
theorem isOne_ok (Tt : Txt T P X.mg) {x t : PV} {vt : V} {tt : Value} (k : (∃ n, tt = .type n ∧ n ∈ tyNames ∧ tyOf h x = some n ∧ asIns h x = none) ∨ ∃ c fs cd, tt = .ref (T.ad c) ∧ asIns h x = some (c, fs) ∧ P.cls c = some cd ∧ cd.ex = none)
    (rt : RepV T G t vt) {b : Bool} (e : isOne (cx P d) h x t = some b) : ∃ u, ClsV vt u ∧ PySem.W.kitOne T.K tt u = some b := by
  cases t with
  | ty n =>
    cases rt
    refine ⟨_, .ty n, ?_⟩
    unfold isOne at e
    dsimp only at e
    split at e
    · cases e
    · rename_i hn
      have hn : n ∈ tyL := Decidable.not_not.mp hn
      rcases k with ⟨m, rfl, k1, k2, k3⟩ | ⟨c, fs, cd, rfl, k1, k2, k3⟩
      · rw [k3, k2] at e; cases e; exact Tt.tyT m k1 n hn
      · rw [k1] at e; cases e; exact (Tt.cls c cd k2).1.subT n hn
  | cls c' =>
    cases rt
    refine ⟨_, .own _, ?_⟩
    unfold isOne at e
    dsimp only at e
    cases z : P.cls c' with
    | none => rw [z] at e; cases e
    | some ce =>
      rw [z] at e
      dsimp only at e
      rcases k with ⟨m, rfl, k1, k2, k3⟩ | ⟨c, fs, cd, rfl, k1, k2, k3⟩
      · rw [k3] at e; cases e; exact (Tt.cls c' ce z).1.tyC m k1
      · rw [k1] at e
        cases e
        rw [(Tt.cls c cd k2).1.sub c' ce z]
        unfold isSup
        rw [show (cx P d).P.cls c = some cd from k2]
        by_cases q : c = c'
        · simp [q]
        · simp only [q, decide_false, Bool.false_or, if_false]
          congr 1
  | _ => cases e
theorem isAny_ok (Tt : Txt T P X.mg) {x : PV} {tt : Value} (k : (∃ n, tt = .type n ∧ n ∈ tyNames ∧ tyOf h x = some n ∧ asIns h x = none) ∨ ∃ c fs cd, tt = .ref (T.ad c) ∧ asIns h x = some (c, fs) ∧ P.cls c = some cd ∧ cd.ex = none) :
    ∀ {ts : List PV} {vs : List V} {b : Bool}, RepL T G ts vs → isAny (cx P d) h x ts = some b → (∀ t ∈ ts, ∃ u, ∀ vt, RepV T G t vt → ClsV vt u) → ∃ us, Paired ClsV vs us ∧ PySem.W.kitAny T.K tt us = some b
  | [], _, _, r, e, _ => by cases r; cases e; exact ⟨[], .nil, rfl⟩
  | t :: ts, _, b, ⟨v, q, e0, h1, t1⟩, e, a => by
    subst e0
    unfold isAny at e
    cases z : isOne (cx P d) h x t with
    | none => rw [z] at e; cases e
    | some y =>
      rw [z] at e
      obtain ⟨u, u1, u2⟩ := isOne_ok Tt k h1 z
      cases y with
      | false =>
        obtain ⟨us, w1, w2⟩ := isAny_ok Tt k t1 e fun t ht => a t (List.mem_cons_of_mem _ ht)
        exact ⟨u :: us, .cons u1 w1, by unfold PySem.W.kitAny; rw [u2]; exact w2⟩
      | true =>
        cases e
        have rest : ∀ {ts : List PV} {vs : List V}, RepL T G ts vs → (∀ t ∈ ts, ∃ u, ∀ vt, RepV T G t vt → ClsV vt u) → ∃ us, Paired ClsV vs us := by
          intro ts
          induction ts with
          | nil => intro vs r _; cases r; exact ⟨[], .nil⟩
          | cons t ts ih =>
            intro vs r a
            obtain ⟨v, q, rfl, h1, t1⟩ := r
            obtain ⟨us, w⟩ := ih t1 fun t ht => a t (List.mem_cons_of_mem _ ht)
            obtain ⟨u, hu⟩ := a t (List.mem_cons_self ..)
            exact ⟨u :: us, .cons (hu _ h1) w⟩
        obtain ⟨us, w⟩ := rest t1 fun t ht => a t (List.mem_cons_of_mem _ ht)
        exact ⟨u :: us, .cons u1 w, by unfold PySem.W.kitAny; rw [u2]⟩
theorem isV_cls {t : PV} (e : isCT t = true) : ∃ u : Tx → Value, ∀ T G vt, RepV T G t vt → ClsV vt (u T) := by
  cases t with
  | ty n => exact ⟨fun _ => .type n, fun T G vt r => by cases r; exact .ty n⟩
  | cls c => exact ⟨fun T => .ref (T.ad c), fun T G vt r => by cases r; exact .own _⟩
  | _ => cases e
/-- a builtin's call -/
def Bu.val : Bu → Value
  | .abs => .builtin "abs" | .int => .type "int" | .str => .type "str" | .len => .builtin "len" | .isinst => .builtin "isinstance" | .list => .type "list" | .tuple => .type "tuple" | .dict => .type "dict" | .set => .type "set"
  | .sorted => .builtin "sorted" | .sum => .builtin "sum" | .any => .builtin "any" | .all => .builtin "all" | .max => .builtin "max" | .min => .builtin "min"
theorem isinst_ok2 (Gd : GoodX T P d X) (I : Inv X pins σ H s) (R : Rel T G h H) {x t : PV} {vx vt : V} {us : List Value} (rx : RepV T G x vx) (rt : RepV T G t vt) (sx : Vals [vx, vt] us) (ok : okB (cx P d) h x = true) {b : Bool} (e : isOne (cx P d) h x t = some b)
    (q : Q (.bl b) H) : wpAny (model X.prog X.w) X.A (call (.builtin "isinstance") us) (EP X pins σ Q) X.xe s := by
  obtain ⟨tt, t1, t2⟩ := ty_any Gd.txt R rx ok
  obtain ⟨u, u1, u2⟩ := isOne_ok Gd.txt t2 rt e
  exact call_isi pins s σ H _ us Q I sx ⟨vx, vt, tt, u, b, rfl, u1, Gd.K ▸ t1, Gd.K ▸ u2, q⟩
theorem isinst_tup (Gd : GoodX T P d X) (I : Inv X pins σ H s) (R : Rel T G h H) {x : PV} {ts : List PV} {vx vt : V} {us : List Value} (rx : RepV T G x vx) (rt : RepV T G (.tup ts) vt) (sx : Vals [vx, vt] us) (ok : okB (cx P d) h x = true) {b : Bool} (e : isAny (cx P d) h x ts = some b) (hc : ts.all isCT = true)
    (q : Q (.bl b) H) : wpAny (model X.prog X.w) X.A (call (.builtin "isinstance") us) (EP X pins σ Q) X.xe s := by
  obtain ⟨tt, t1, t2⟩ := ty_any Gd.txt R rx ok
  obtain ⟨a, ys, rfl, tp, r⟩ := rt
  obtain ⟨cs, u1, u2⟩ := isAny_ok Gd.txt t2 r e fun t ht => by
    obtain ⟨u, hu⟩ := isV_cls (List.all_eq_true.mp hc t ht)
    exact ⟨u T, fun vt r => hu T G vt r⟩
  rcases tp with tp | ⟨o, its, n, e1, e2, e3, e4, e5⟩
  · exact call_isiT pins s σ H _ us Q I sx ⟨vx, a, ys, tt, cs, b, rfl, R.ext _ _ tp, u1, Gd.K ▸ t1, Gd.K ▸ u2, q⟩
  · have := ClsV.all u1 e5
    obtain ⟨c1, d1, data, sl⟩ := o
    cases e2
    cases e3
    refine call_isiK pins s σ H _ us Q I sx ⟨vx, a, d1, cs, n, sl, tt, b, rfl, ?_, Gd.K ▸ t1, Gd.K ▸ u2, q⟩
    rw [Gd.K, e1, ← this]
theorem dct_ok (R : Rel T G h H) {x : PV} {v : V} (rx : RepV T G x v) {kvs : List (L2.Key × PV)} (e : asDct h x = some kvs) : ∃ p ys, v = .ref p ∧ Rd H p (.dK ys) ∧ RepK T G kvs ys := by
  cases x with
  | dct zs => cases e; obtain ⟨a, ys, rfl, q, r⟩ := rx; exact ⟨a, ys, rfl, .inl (R.ext _ _ q), r⟩
  | loc n =>
    obtain ⟨a, rfl, m⟩ := rx
    unfold asDct at e
    dsimp only at e
    cases z : hget n h with
    | none => rw [z] at e; cases e
    | some o =>
      rw [z] at e
      obtain ⟨b, m2, r⟩ := R.ob n o z
      rw [m] at m2; cases m2
      cases o with
      | dct zs => cases e; obtain ⟨_, ys, e1, r⟩ := r; exact ⟨a, ys, rfl, .inl e1, r⟩
      | ldct zs => cases e; obtain ⟨_, ob, ys, e1, r⟩ := r; exact ⟨a, ys, rfl, .inr ⟨ob, e1⟩, r⟩
      | _ => cases e
  | _ => cases e
theorem bools_ok : ∀ {xs : List PV} {ys : List V} {bs : List Bool}, RepL T G xs ys → bools xs = some bs → ys = bs.map V.bl
  | [], _, _, r, e => by cases r; cases e; rfl
  | x :: xs, _, _, ⟨y, q, e0, h1, t1⟩, e => by
    subst e0
    cases x with
    | bl b =>
      unfold bools at e
      cases z : bools xs with
      | none => rw [z] at e; cases e
      | some cs => rw [z] at e; cases e; cases h1; rw [bools_ok t1 z]; rfl
    | _ => cases e
theorem lst_ok (R : Rel T G h H) {x : PV} {v : V} (rx : RepV T G x v) {xs : List PV} (e : asLst h x = some xs) : ∃ p ys, v = .ref p ∧ SqL T.K H p ys ∧ RepL T G xs ys := by
  cases x with
  | lst zs => cases e; obtain ⟨a, ys, rfl, q, r⟩ := rx; exact ⟨a, ys, rfl, .inl (.inl (R.ext _ _ q)), r⟩
  | loc n =>
    obtain ⟨a, rfl, m⟩ := rx
    unfold asLst at e
    dsimp only at e
    cases z : hget n h with
    | none => rw [z] at e; cases e
    | some o =>
      rw [z] at e
      obtain ⟨b, m2, r⟩ := R.ob n o z
      rw [m] at m2; cases m2
      cases o with
      | lst zs => cases e; obtain ⟨_, ys, e1, r⟩ := r; exact ⟨a, ys, rfl, .inl (.inl e1), r⟩
      | _ => cases e
  | _ => cases e
theorem len_ok (Gd : GoodX T P d X) (I : Inv X pins σ H s) (R : Rel T G h H) {x : PV} {vx : V} {us : List Value} (rx : RepV T G x vx) (sx : Vals [vx] us) {xs : List PV} (e : asSeq h x = some xs) (q : Q (.int xs.length) H) : wpAny (model X.prog X.w) X.A (call (.builtin "len") us) (EP X pins σ Q) X.xe s := by
  obtain ⟨p, ys, rfl, sq, r⟩ := seq_ok R rx e
  exact call_len_seq pins s σ H _ us Q I sx ⟨p, ys, rfl, Gd.K ▸ sq, by rw [← r.length]; exact q⟩
theorem vals1' {x : V} {us : List Value} (r : Vals [x] us) : ∃ u, us = [u] ∧ RelV x u := by
  cases r with
  | cons h t => cases t; exact ⟨_, rfl, h⟩
theorem vals2' {x y : V} {us : List Value} (r : Vals [x, y] us) : ∃ u w, us = [u, w] ∧ RelV x u ∧ RelV y w := by
  cases r with
  | cons h t => cases t with | cons h2 t => cases t; exact ⟨_, _, rfl, h, h2⟩
theorem bCall_ok (Gd : GoodX T P d X) (tk : Takes X W) (I : Inv X pins σ H s) (R : Rel T G h H) {f : Bu} {xs : List PV} {vs : List V} {us : List Value} (rx : RepL T G xs vs) (sx : Vals vs us)
    (q : OkR T σ W G H (bCall (cx P d) f xs h) (KV T Q)) : wpAny (model X.prog X.w) X.A (call f.val us) (EP X pins σ Q) X.xe s := by
  unfold bCall at q
  split at q
  · rename_i i
    obtain ⟨y, r, rfl, h1, t1⟩ := rx
    cases t1; cases h1
    exact call_abs pins s σ H _ us Q I sx ⟨i, rfl, q.val R rfl⟩
  · rename_i v hv
    obtain ⟨y, r, rfl, h1, t1⟩ := rx
    cases t1
    obtain ⟨u, rfl, ru⟩ := vals1' sx
    obtain ⟨c, fs, cd, f, e1, e2, e3, e4, e5, q⟩ := callM_inv q
    obtain ⟨a, dx, ys, rfl, ha, rf⟩ := ins_of R h1 e1
    cases ru
    obtain ⟨od, J⟩ := inst_of Gd I ha
    have IO := (Gd.txt.cls c cd e3).2 e4
    obtain ⟨M, _⟩ := IO.meth _ _ e5
    have m1 := M.at_
    rw [Gd.txt.dun.2.2.2.2.2.2.2.1] at m1
    exact abs_own (Gd.K ▸ I.kIn) J m1 M.fn (callD_low Gd tk I R (RepL.one h1) (.cons rfl .nil) q)
  · rename_i i
    obtain ⟨y, r, rfl, h1, t1⟩ := rx
    cases t1; cases h1
    exact call_int1 pins s σ H _ us Q I sx (.inl ⟨i, rfl, q.val R rfl⟩)
  · rename_i b
    obtain ⟨y, r, rfl, h1, t1⟩ := rx
    cases t1; cases h1
    exact call_int1 pins s σ H _ us Q I sx (.inr ⟨b, rfl, q.val R rfl⟩)
  · rename_i v ts
    obtain ⟨y, r, rfl, h1, y2, r2, rfl, h2, t2⟩ := rx
    cases t2
    split at q
    · rename_i ok
      obtain ⟨ok, hc⟩ := ok
      split at q
      · rename_i b e
        exact isinst_tup Gd I R h1 h2 sx ok e hc (q.val R rfl)
      · exact q.elim
    · exact q.elim
  · rename_i v t ht
    obtain ⟨y, r, rfl, h1, y2, r2, rfl, h2, t2⟩ := rx
    cases t2
    split at q
    · rename_i ok
      split at q
      · rename_i b e
        exact isinst_ok2 Gd I R h1 h2 sx ok e (q.val R rfl)
      · exact q.elim
    · exact q.elim
  · rename_i v
    obtain ⟨y, r, rfl, h1, t1⟩ := rx
    cases t1
    split at q
    · rename_i ys e
      exact len_ok Gd I R h1 sx e (q.val R rfl)
    · split at q
      · cases h1
        split at q
        · rename_i hb
          exact call_len_str pins s σ H _ us Q I sx ⟨_, rfl, Nat.le_trans hb big_le, q.val R rfl⟩
        · exact q.elim
      · obtain ⟨u, rfl, ru⟩ := vals1' sx
        split at q
        · rename_i kvs e
          obtain ⟨a, ys, rfl, rd, rk⟩ := dct_ok R h1 e
          cases ru
          exact d_len I rd fun t s' I' => ⟨.int ys.length, H, I', ⟨_, rfl⟩, by rw [← rk.length]; exact q.val R rfl⟩
        · have q2 : OkR T σ W G H (callM (cx P d).low v .__len__ [] [] h) (KV T fun y H' => ∃ n, y = .int n ∧ 0 ≤ n ∧ n < 2 ^ 63 ∧ Q (.int n) H') := by
            refine OkR.imp (OkR.bnd q) fun a h2 G2 H2 e R2 q y ry => ?_
            cases a with
            | int n =>
              cases ry
              dsimp only at q
              split at q
              · rename_i hn; exact ⟨n, rfl, hn.1, hn.2, OkR.val q R2 rfl⟩
              · exact q.elim
            | _ => exact q.elim
          obtain ⟨c, fs, cd, f, e1, e2, e3, e4, e5, q⟩ := callM_inv q2
          obtain ⟨a, dx, ys, rfl, ha, rf⟩ := ins_of R h1 e1
          cases ru
          obtain ⟨od, J⟩ := inst_of Gd I ha
          have IO := (Gd.txt.cls c cd e3).2 e4
          obtain ⟨M, _⟩ := IO.meth _ _ e5
          have m1 := M.at_
          rw [Gd.txt.dun.2.2.2.2.2.2.2.2] at m1
          refine len_own (Gd.K ▸ I.kIn) J m1 M.fn (thn (callD_low Gd tk I R (RepL.one h1) (.cons rfl .nil) q) fun u s' hq => ?_)
          obtain ⟨v, H', I', r, n, rfl, n0, n1, q⟩ := hq
          obtain ⟨t, rfl⟩ := r
          exact ⟨n, t, rfl, n0, n1, .int n, H', I'.tok _, ⟨_, rfl⟩, q⟩
  · rename_i z
    obtain ⟨y, r, rfl, h1, t1⟩ := rx
    cases t1; cases h1
    exact SkE.call_str_str pins s σ H _ us Q I sx ⟨z, rfl, q.val R rfl⟩
  · rename_i v
    obtain ⟨y, r, rfl, h1, t1⟩ := rx
    cases t1
    split at q
    · rename_i xs e
      split at q
      · rename_i kv ep
        obtain ⟨a, ys, rfl, sq, r⟩ := lst_ok R h1 e
        obtain ⟨k, w, rfl, ek⟩ : ∃ k w, xs = [.tup [k, w]] ∧ (keyOf k).map (·, w) = some kv := by
          unfold pairP at ep
          split at ep
          · exact ⟨_, _, rfl, ep⟩
          · cases ep
        obtain ⟨z, q1, rfl, hz, tz⟩ := r
        cases tz
        obtain ⟨b, zs, rfl, tb, rz⟩ := hz
        obtain ⟨z1, q2, rfl, hk, z2, q3, rfl, hw, tq⟩ := rz
        cases tq
        obtain ⟨key, e1, rfl⟩ : ∃ key, keyOf k = some key ∧ kv = (key, w) := by
          cases e1 : keyOf k with
          | none => rw [e1] at ek; cases ek
          | some key => rw [e1] at ek; cases ek; exact ⟨key, rfl, rfl⟩
        have e2 : z1 = kV key := by
          cases k <;> first | (cases e1; done) | (cases e1; cases hk; rfl)
        subst e2
        refine call_dictP Gd.calm pins s σ H _ us Q I sx ⟨a, [b], [(key, z2)], rfl, Gd.K ▸ sq, .cons (Gd.K ▸ SqT.ext R tb.sq) .nil, fun p hp => ?_⟩
        have em : mergeK [] [(key, z2)] = [(key, z2)] := rfl
        rw [em]
        exact q.newp R hp ⟨p, [(key, z2)], rfl, upd_same, ⟨z2, [], rfl, hw.le (Le.put (R.fresh hp).1), rfl⟩⟩
      · exact q.elim
    · exact q.elim
  · rename_i i
    obtain ⟨y, r, rfl, h1, t1⟩ := rx
    cases t1; cases h1
    split at q
    · rename_i hb
      exact call_str_int pins s σ H _ us Q I sx ⟨i, rfl, hb, q.val R rfl⟩
    · exact q.elim
  · rename_i v
    obtain ⟨y, r, rfl, h1, t1⟩ := rx
    cases t1
    split at q
    · rename_i xs e
      split at q
      · rename_i bs eb
        obtain ⟨a, ys, rfl, sq, r⟩ := lst_ok R h1 e
        cases bools_ok r eb
        exact cr_all Gd.calm pins s σ H _ us Q I sx ⟨a, bs, rfl, Gd.K ▸ sq, q.val R rfl⟩
      · exact q.elim
    · exact q.elim
  · rename_i v
    obtain ⟨y, r, rfl, h1, t1⟩ := rx
    cases t1
    split at q
    · rename_i xs e
      split at q
      · rename_i bs eb
        obtain ⟨a, ys, rfl, sq, r⟩ := lst_ok R h1 e
        cases bools_ok r eb
        exact cr_any Gd.calm pins s σ H _ us Q I sx ⟨a, bs, rfl, Gd.K ▸ sq, q.val R rfl⟩
      · exact q.elim
    · exact q.elim
  · exact q.elim
end
end Py

set_option linter.all false
set_option Elab.async false
set_option maxRecDepth 100000
set_option maxHeartbeats 2000017
/-! New instances. -/
namespace Py
open L2 PyProof.Rows PySem.Spec PySem
section
variable {T : Tx} {P : Prog} {d : Nat} {X : Cx} {W : L2.WX} {pins : List (Addr × Obj)} {σ : L2.St} {H : Hp} {s : Shared} {G : Gh} {h : EH} {Q : VK}
def lowO (k : Nat) : EO → Bool
  | .lst xs => lowL k xs | .dct kvs => lowK k kvs | .ldct kvs => lowK k kvs | .ins _ fs => lowF k fs | .dead => true
theorem RepO.isLow {a : Addr} {o : EO} (r : RepO T G a H o) : lowO G.m.length o = true := by
  cases o with
  | lst xs => obtain ⟨_, _, _, r⟩ := r; exact r.isLow
  | dct xs => obtain ⟨_, _, _, r⟩ := r; exact r.isLow
  | ldct xs => obtain ⟨_, _, _, _, r⟩ := r; exact r.isLow
  | ins c fs => obtain ⟨_, _, _, _, r⟩ := r; exact r.isLow
  | dead => rfl
theorem RepO.low {F : Hp} {e m : List Addr} {a : Addr} {o : EO} (l : lowO m.length o = true) (r : RepO T ⟨F, e ++ m⟩ a H o) : RepO T ⟨F, m⟩ a H o := by
  cases o with
  | lst xs => obtain ⟨f, ys, e1, r⟩ := r; exact ⟨f, ys, e1, RepL.low l r⟩
  | dct xs => obtain ⟨f, ys, e1, r⟩ := r; exact ⟨f, ys, e1, RepK.low l r⟩
  | ldct xs => obtain ⟨f, ob, ys, e1, r⟩ := r; exact ⟨f, ob, ys, e1, RepK.low l r⟩
  | ins c fs => obtain ⟨f, dx, ys, e1, r⟩ := r; exact ⟨f, dx, ys, e1, RepF.low l r⟩
  | dead => trivial
theorem hget_app : ∀ {g h : EH} {n : Nat}, n < h.length → hget n (g ++ h) = hget n h
  | [], _, _, _ => rfl
  | o :: g, h, n, l => by
    show (if n = (g ++ h).length then some o else hget n (g ++ h)) = _
    rw [if_neg (by simp; omega)]
    exact hget_app l
/-- what is new is let go -/
theorem forget {G2 : Gh} {H2 : Hp} {g : EH} (R : Rel T G h H) (e : Ev G H G2 H2) (R2 : Rel T G2 (g ++ h) H2) : Rel T ⟨G2.F, G.m⟩ h H2 ∧ Ev G H ⟨G2.F, G.m⟩ H2 ∧ ∃ k, G2.m = k ++ G.m ∧ k.length = g.length := by
  obtain ⟨k, hk⟩ := e.le.m
  have hl : k.length = g.length := by
    have h1 := R2.len
    rw [hk, List.length_append, List.length_append, R.len] at h1
    omega
  obtain ⟨F2, m2⟩ := G2
  dsimp only at hk
  subst hk
  refine ⟨⟨R2.ext, R.len, fun n o q => ?_, R.inj, fun n a q => ?_⟩, ⟨⟨e.le.at_, [], rfl⟩, fun _ _ q => .inl q, e.keep, e.stay, e.newF⟩, k, rfl, hl⟩
  · have ln := hget_lt q
    obtain ⟨a, q1, r⟩ := R2.ob n o ((hget_app ln).trans q)
    obtain ⟨b, q2, r0⟩ := R.ob n o q
    have lm : n < G.m.length := by rw [R.len]; exact ln
    have q1' : mget n (k ++ G.m) = some a := q1
    rw [mget_app lm] at q1'
    exact ⟨a, q1', RepO.low r0.isLow r⟩
  · have lm := mget_lt q
    exact R2.here n a ((mget_app lm).trans q)
/-- a thing that is only read from now on -/
theorem Rel.keepF {a : Addr} {u : HO} (R : Rel T G h H) (f : G.F a = none) (n : ∀ k, mget k G.m ≠ some a) (q : H a = some u) : Rel T (G.put a u) h H := by
  refine ⟨fun b v w => ?_, R.len, fun i ob w => ?_, R.inj, R.here⟩
  · have w' : upd G.F a u b = some v := w
    by_cases hb : b = a
    · subst hb; rw [upd_same] at w'; exact q.trans w'
    · rw [upd_ne hb] at w'; exact R.ext b v w'
  · obtain ⟨b, e1, r⟩ := R.ob i ob w
    have hb : b ≠ a := fun y => n i (y ▸ e1)
    exact ⟨b, e1, r.le (Le.put f) (fun x => by show upd G.F a u b = none; rw [upd_ne hb]; exact x) rfl⟩
theorem mget_top {e m : List Addr} {a : Addr} : mget m.length (e ++ a :: m) = some a := by
  rw [mget_app (by simp)]
  unfold mget
  rw [if_pos rfl]
/-- C(..) -/
theorem make_ok (Gd : GoodX T P d X) (tk : Takes X W) {c : Nm} {cd : CDef} (hc : P.cls c = some cd) (hx : cd.ex = none) {args : List PV} {kw : List (Nm × PV)} {vs zs : List V} {us ws : List Value} (I : Inv X pins σ H s) (R : Rel T G h H)
    (r1 : RepL T G args vs) (r2 : Vals vs us) (r3 : RepL T G (kw.map (·.2)) zs) (r4 : Vals zs ws) (o : OkR T σ W G H (make (cx P d) cd args kw h) (KV T Q)) :
    wpAny (model X.prog X.w) X.A (call (.ref (T.ad c)) us ((kw.map fun q => T.st q.1).zip ws)) (EP X pins σ Q) X.xe s := by
  have IO := (Gd.txt.cls c cd hc).2 hx
  have CO := (Gd.txt.cls c cd hc).1
  unfold make at o
  cases e1 : cd.ini with
  | none => rw [e1] at o; exact o.elim
  | some f =>
    rw [e1] at o
    dsimp only at o
    cases e2 : P.fn f with
    | none => rw [show (cx P d).P.fn f = none from e2] at o; exact o.elim
    | some fd =>
      rw [show (cx P d).P.fn f = some fd from e2] at o
      dsimp only at o
      cases e3 : bindA fd (.loc h.length :: args) kw with
      | none => rw [e3] at o; exact o.elim
      | some as =>
        rw [e3] at o
        dsimp only at o
        have M := IO.mkk f e1
        have hdx : H s.heap.objs.size = none := I.hok.fresh (Nat.le_refl _)
        have hxx : H (s.heap.objs.size + 1) = none := I.hok.fresh (Nat.le_succ _)
        have hne : s.heap.objs.size ≠ s.heap.objs.size + 1 := Nat.ne_of_lt (Nat.lt_succ_self _)
        have I2 := Inv.made (C := T.ad c) I
        generalize hdd : s.heap.objs.size = dx at hdx hxx hne I2
        generalize hpp : dx + 1 = p at hxx hne I2
        have hH : ∀ a u, H a = some u → upd (upd H dx (.own p)) p (.ins (T.ad c) dx []) a = some u := fun a u q => by
          rw [upd_ne (ne_of_none q hxx), upd_ne (ne_of_none q hdx)]; exact q
        have hP : upd (upd H dx (.own p)) p (.ins (T.ad c) dx []) p = some (.ins (T.ad c) dx []) := upd_same
        have R2 : Rel T (G.push p) (.ins cd.n [] :: h) (upd (upd H dx (.own p)) p (.ins (T.ad c) dx [])) := R.push hxx hH ⟨_, hP⟩ ⟨(R.fresh hxx).1, dx, [], by rw [CO.nm]; exact hP, rfl⟩
        have E2 : Ev G H (G.push p) (upd (upd H dx (.own p)) p (.ins (T.ad c) dx [])) := Ev.push hxx hH
        generalize hHH : upd (upd H dx (.own p)) p (.ins (T.ad c) dx []) = H1 at I2 R2 E2 hP hH
        have r0 : RepV T (G.push p) (.loc h.length) (.ref p) := ⟨p, rfl, by
          show mget h.length (p :: G.m) = some p
          rw [← R.len]
          exact mget_top (e := [])⟩
        have o2 : OkR T σ W (G.push p) H1 (callF P (d - 1) f as (.ins cd.n [] :: h)) (KV T fun y H2 => y = .non ∧ Q (.ref p) H2) := by
          have o' : OkR T σ W G H ((callF P (d - 1) f as (.ins cd.n [] :: h)).bind fun r h2 => match r with
            | .non => close cd h h2
            | _ => .stuck) (KV T Q) := o
          cases z : callF P (d - 1) f as (.ins cd.n [] :: h) with
          | stuck => rw [z] at o'; exact o'
          | err x h2 => rw [z] at o'; exact OkR.ev (r := (.err x h2 : Res PV)) (K := KV T Q) o' E2
          | ok v h2 =>
            rw [z] at o'
            replace o' : OkR T σ W G H (match v with | .non => close cd h h2 | _ => .stuck) (KV T Q) := o'
            intro G2 H2 ev R3 y ry
            cases v with
            | non =>
              cases ry
              refine ⟨rfl, ?_⟩
              replace o' : OkR T σ W G H (close cd h h2) (KV T Q) := o'
              unfold close at o'
              obtain ⟨k, hk⟩ := ev.le.m
              have hk : G2.m = k ++ (p :: G.m) := hk
              have mp : mget h.length G2.m = some p := by rw [hk, ← R.len]; exact mget_top
              split at o'
              · rename_i c2 fs hg
                obtain ⟨a, a1, a2⟩ := R3.ob _ _ hg
                rw [mp] at a1; cases a1
                split at o'
                · split at o'
                  · rename_i hz
                    obtain ⟨z1, z2⟩ := hz
                    subst z1
                    obtain ⟨R4, E4, k2, k3, k4⟩ := forget (g := [.ins c2 fs]) R (E2.trans ev) R3
                    obtain ⟨f1, dx2, ys, f2, f3⟩ := a2
                    have fr : ∀ k, mget k G.m ≠ some p := (R.fresh hxx).2
                    have R5 := R4.keepF (a := p) (u := .ins (T.ad c2) dx2 ys) f1 fr f2
                    refine o' _ _ (E4.keepF (a := p) (u := .ins (T.ad c2) dx2 ys) f1 hxx) R5 (.ref p) ⟨p, dx2, ys, rfl, upd_same, ?_⟩
                    refine RepF.le (G := ⟨G2.F, G.m⟩) (Le.put f1) (RepF.low (F := G2.F) (m := G.m) (e := k2) ?_ ?_)
                    · rw [R.len]; exact z2
                    · obtain ⟨F2, m2⟩ := G2
                      dsimp only at k3
                      subst k3
                      exact f3
                  · obtain ⟨f1, dx2, ys, f2, f3⟩ := a2
                    refine o' _ _ ((E2.trans ev).trans (Ev.freeze (a := p) (u := .ins (T.ad c2) dx2 ys) f1 mp)) (R3.freeze mp f1 f2) (.ref p) ⟨p, dx2, ys, rfl, upd_same, f3.le (Le.put f1)⟩
                · exact o' _ _ (E2.trans ev) R3 (.ref p) ⟨p, rfl, mp⟩
              · exact o'.elim
            | _ => exact o'.elim
        obtain ⟨k, rfl⟩ := o2.low
        obtain ⟨⟨fdt, F1, B⟩, _⟩ := Gd.fns' f fd e2
        have kin : T.K.In ((s.heap.push PySem.W.emptyDict).push (PySem.W.instObj (T.ad c) dx)) := by have := I2.kIn; rw [Gd.K] at this; exact this
        obtain ⟨full, fvs, b1, b2, b3, b4⟩ := B (G.push p) (.loc h.length :: args) kw as e3 (.ref p :: vs) zs (.ref p :: us) ws (RepL.cons r0 (r1.le Le.push)) (.cons rfl r2) (r3.le Le.push) r4 { s with heap := (s.heap.push PySem.W.emptyDict).push (PySem.W.instObj (T.ad c) dx) } kin
        have e0 := (I2.env0.make (T.ad c) us ((kw.map fun q => T.st q.1).zip ws))
        rw [Gd.K] at e0
        subst hpp
        subst hdd
        refine wpAny_call (make_map (f := T.ad f) I.kIn (Gd.K ▸ M.makes) (Gd.K ▸ M.init) (beq_iff_eq.mp (Gd.K ▸ M.fn)) (codeAny_mono (F1.run _ X.stack _ H1 ⟨Value.ref (s.heap.objs.size + 1) :: us, _⟩ full fvs (fun y H2 => y = .non ∧ Q (.ref (s.heap.objs.size + 1)) H2) (fun c x H' => W c x σ H') (Gd.room.make (T.ad c) us _) e0 b1 b3 ⟨G.push (s.heap.objs.size + 1), _, as, R2, b2, ?_, fun fd' e => ?_⟩) fun r s' hq => ?_))
        · revert o2
          cases callF P k f as (.ins cd.n [] :: h) with
          | ok a h' => exact fun o => o
          | err x h' => exact fun o => o
          | stuck => exact fun o => o
        · rw [e2] at e; cases e
          have := b3.length
          omega
        · cases r with
          | error e => exact tk _ _ (XE.of_call I2 (fun c x H' e => e) hq)
          | ok fl =>
            cases fl with
            | ret u =>
              obtain ⟨v, H', I3, rv, ev, q3⟩ := I2.after hq
              subst ev
              exact ⟨rv, V.ref (s.heap.objs.size + 1), H', I3, rfl, q3⟩
            | next => exact False.elim hq
            | brk => exact False.elim hq
            | cont => exact False.elim hq
end
end Py

set_option linter.all false
set_option Elab.async false
/-! My trees against the program's. -/
namespace Py
open L2 PyProof.Rows PySem.Spec PySem
structure Mt where
  N : List Str
  sc : Scope
  st : Nm → Str
  gl : Nm → Bool
  cl : Nm → Bool
def visB (sc : Scope) (x : Str) : Bool := match sc.names.lookup x with
  | some .local => true | some .cell => true | some .free => true | _ => false
def locB (sc : Scope) (x : Str) : Bool := match sc.names.lookup x with
  | some .local => true | _ => false
def glB (sc : Scope) (x : Str) : Bool := match sc.names.lookup x with
  | some .globalImplicit => true | _ => false
def dbgB (x : Str) : Bool := !(x == ("__debug__" : Str)) && !(x == ("__classdict__" : Str)) && !(x == ("__name__" : Str))
/-- the builtins that are named -/
def Bu.nm : Bu → String
  | .abs => "abs" | .int => "int" | .str => "str" | .len => "len" | .isinst => "isinstance" | .list => "list" | .tuple => "tuple" | .dict => "dict" | .set => "set"
  | .sorted => "sorted" | .sum => "sum" | .any => "any" | .all => "all" | .max => "max" | .min => "min"
def buL : List String := ["abs", "int", "str", "len", "isinstance", "list", "tuple", "dict", "set", "sorted", "sum", "any", "all", "max", "min", "bool", "range", "enumerate", "zip", "NotImplemented"]
/-- not super() -/
def baseB : Expr → Bool
  | .Call (.Name id _) [] [] _ => !(id == ("super" : Str))
  | _ => true
/-- read by its value alone -/
def tstB : Expr → Bool
  | .UnaryOp .Not _ _ => false
  | .BoolOp .. => false
  | .IfExp .. => false
  | .Compare .. => false
  | _ => true
def plainX : Expr → Bool
  | .Starred .. => false
  | .Set .. => false
  | .Slice .. => false
  | _ => true
section
variable (st : Nm → Str) (gl cl : Nm → Bool) (N : List Str)
def mtV (sc : Scope) (i : Nat) (x : Str) : Bool := decide (N[i]? = some x) && visB sc x && dbgB x
def mtL (sc : Scope) (i : Nat) (x : Str) : Bool := decide (N[i]? = some x) && locB sc x && dbgB x
def mtT (sc : Scope) : T → Expr → Bool
  | .v i, .Name x _ => mtL N sc i x
  | .t is, .Tuple es _ _ => go is es
  | _, _ => false
where go : List Nat → List Expr → Bool
  | [], [] => true
  | i :: is, .Name x _ :: es => mtL N sc i x && go is es
  | _, _ => false
/-- cells, too -/
def cellB (sc : Scope) (x : Str) : Bool := match sc.names.lookup x with
  | some .cell => true | _ => false
def mtLc (sc : Scope) (i : Nat) (x : Str) : Bool := decide (N[i]? = some x) && (locB sc x || cellB sc x) && dbgB x
def mtTc (sc : Scope) : T → Expr → Bool
  | .v i, .Name x _ => mtLc N sc i x
  | .t is, .Tuple es _ _ => go is es
  | _, _ => false
where go : List Nat → List Expr → Bool
  | [], [] => true
  | i :: is, .Name x _ :: es => mtLc N sc i x && go is es
  | _, _ => false
/-- the target's places -/
def T.ix : T → List Nat
  | .v i => [i] | .t is => is
def kwNames (kw : List (Nm × E)) : List Nm := kw.map (·.1)
/-- a test that may stand behind a not that is a value -/
def valB : E → Bool
  | .and _ => false
  | .or _ => false
  | .not a => valB a
  | _ => true
mutual
def mtE (sc : Scope) : E → Expr → Bool
  | .v i, p => (match p with
    | .Name x _ => mtV N sc i x
    | _ => false)
  | .g n, p => (match p with
    | .Name x _ => decide (st n = x) && glB sc x && dbgB x && gl n
    | _ => false)
  | .ty n, p => (match p with
    | .Name x _ => decide (Str.ofString n = x) && glB sc x && dbgB x && decide (n ∈ tyL)
    | _ => false)
  | .i k, p => (match p with
    | .Constant (.int j) _ _ => decide (k = j)
    | _ => false)
  | .s k, p => (match p with
    | .Constant (.str j) _ _ => decide (k = j)
    | _ => false)
  | .b k, p => (match p with
    | .Constant (.bool j) _ _ => decide (k = j)
    | _ => false)
  | .n, p => (match p with
    | .Constant .none _ _ => true
    | _ => false)
  | .bin o a b, p => (match p with
    | .BinOp x op y _ => decide (o.op = op) && mtE sc a x && mtE sc b y
    | _ => false)
  | .neg a, p => (match p with
    | .UnaryOp .USub x _ => mtE sc a x
    | _ => false)
  | .pos a, p => (match p with
    | .UnaryOp .UAdd x _ => mtE sc a x
    | _ => false)
  | .cmp o a b, p => (match p with
    | .Compare x [op] [y] _ => decide (o.op = op) && mtE sc a x && mtE sc b y
    | _ => false)
  | .chn o q a b c, p => (match p with
    | .Compare x [op, op'] [y, z] _ => decide (o.op = op) && decide (q.op = op') && mtE sc a x && mtE sc b y && mtE sc c z
    | _ => false)
  | .not a, p => (match p with
    | .UnaryOp .Not x _ => valB a && mtQ sc a x
    | _ => false)
  | .and es, p => (match p with
    | .BoolOp .And ps _ => mtEs sc es ps
    | _ => false)
  | .or es, p => (match p with
    | .BoolOp .Or ps _ => mtEs sc es ps
    | _ => false)
  | .ite c a b, p => (match p with
    | .IfExp z x y _ => mtQ sc c z && mtE sc a x && mtE sc b y
    | _ => false)
  | .att a f, p => (match p with
    | .Attribute x g _ => decide (st f = g) && mtE sc a x && baseB x
    | _ => false)
  | .sub a i, p => (match p with
    | .Subscript x y _ => mtE sc a x && mtE sc i y
    | _ => false)
  | .tup es, p => (match p with
    | .Tuple ps _ _ => mtEs sc es ps
    | _ => false)
  | .lst _ es, p => (match p with
    | .List ps _ => mtEs sc es ps
    | _ => false)
  | .call f es kw, p => (match p with
    | .Call (.Name x _) ps kp _ => decide (st f = x) && glB sc x && dbgB x && cl f && mtEs sc es ps && mtKs sc kw kp && (!ps.isEmpty || kp.isEmpty)
    | _ => false)
  | .bu f es, p => (match p with
    | .Call (.Name x _) (q :: ps) [] _ => decide (Str.ofString f.nm = x) && glB sc x && dbgB x && mtEs sc es (q :: ps)
    | _ => false)
  | .met a m es kw, p => (match p with
    | .Call (.Attribute x g apos) ps kp pos => decide (st m = g) && mtE sc a x && baseB x && mtEs sc es ps && mtKs sc kw kp && (!ps.isEmpty || kp.isEmpty) && (apos.endLine == pos.line) && decide (ps.length + kp.length < 29) && (decide (m ≠ .append) || kp.isEmpty)
    | _ => false)
  | .lc _ t it c x, p => (match p with
    | .ListComp px [⟨pt, pit, pc, 0⟩] scope _ => mtI sc it pit pt && mtT N (relS scope sc) t pt && blkC N sc scope (t.ix.filterMap fun i => (N[i]?).map fun x => (x, i)) && mtO (relS scope sc) c pc && mtE (relS scope sc) x px
    | _ => false)
  | .dic _ ks vs, p => (match p with
    | .Dict [] [] _ => ks.isEmpty && vs.isEmpty
    | _ => false)
  | .slc a lo hi, p => (match p with
    | .Subscript x (.Slice l u none _) _ => mtE sc a x && mtS1 sc lo l && mtS1 sc hi u
    | _ => false)
  | .lof _ a, p => (match p with
    | .Call (.Name x _) [y] [] _ => decide (x = ("list" : Str)) && glB sc x && mtE sc a y
    | _ => false)
  | .tof a, p => (match p with
    | .Call (.Name x _) [y] [] _ => decide (x = ("tuple" : Str)) && glB sc x && mtE sc a y
    | _ => false)
  | .lset a, p => (match p with
    | .Call (.Name x _) [.Call (.Name z _) [y] [] _] [] _ => decide (x = ("len" : Str)) && glB sc x && decide (z = ("set" : Str)) && glB sc z && mtE sc a y
    | _ => false)
  | .rev a, p => (match p with
    | .Subscript x (.Slice none none (some (.UnaryOp .USub (.Constant (.int k) _ _) _)) _) _ => decide (k = 1) && mtE sc a x
    | _ => false)
  | .ni, p => (match p with
    | .Name x _ => decide (x = ("NotImplemented" : Str)) && glB sc x && dbgB x
    | _ => false)
  | .binr o a b, p => (match p with
    | .BinOp x op y _ => decide (o.op = op) && mtE sc a x && mtE sc b y
    | _ => false)
  | .srt a, p => (match p with
    | .Call (.Name x _) [y] [] _ => decide (x = ("sorted" : Str)) && glB sc x && mtE sc a y
    | _ => false)
  | .cat _ a b, p => (match p with
    | .BinOp x .Add y _ => mtE sc a x && mtE sc b y
    | _ => false)
  | .bad, p => plainX p
  | _, _ => false
def mtQ (sc : Scope) : E → Expr → Bool
  | .not a, p => (match p with
    | .UnaryOp .Not x _ => mtQ sc a x
    | _ => false)
  | .and es, p => (match p with
    | .BoolOp .And ps _ => !ps.isEmpty && mtQs sc es ps
    | _ => false)
  | .or es, p => (match p with
    | .BoolOp .Or ps _ => !ps.isEmpty && mtQs sc es ps
    | _ => false)
  | .cmp o a b, p => (match p with
    | .Compare x [op] [y] _ => decide (o.op = op) && mtE sc a x && mtE sc b y
    | _ => false)
  | .chn o q a b c, p => (match p with
    | .Compare x [op, op'] [y, z] _ => decide (o.op = op) && decide (q.op = op') && mtE sc a x && mtE sc b y && mtE sc c z
    | _ => false)
  | .tst a, p => tstB p && mtE sc a p
  | _, _ => false
def mtS1 (sc : Scope) : Option E → Option Expr → Bool
  | none, p => p.isNone
  | some c, p => (match p with
    | some q => mtE sc c q
    | _ => false)
def mtO (sc : Scope) : Option E → List Expr → Bool
  | none, p => p.isEmpty
  | some c, p => (match p with
    | [q] => mtQ sc c q
    | _ => false)
def mtEs (sc : Scope) : List E → List Expr → Bool
  | [], p => (match p with
    | [] => true
    | _ => false)
  | e :: es, p => (match p with
    | x :: ps => mtE sc e x && mtEs sc es ps
    | _ => false)
def mtQs (sc : Scope) : List E → List Expr → Bool
  | [], p => (match p with
    | [] => true
    | _ => false)
  | e :: es, p => (match p with
    | x :: ps => mtQ sc e x && mtQs sc es ps
    | _ => false)
def mtKs (sc : Scope) : List (Nm × E) → List Keyword → Bool
  | [], p => (match p with
    | [] => true
    | _ => false)
  | (n, e) :: es, p => (match p with
    | ⟨some y, x, _⟩ :: ps => decide (st n = y) && mtE sc e x && mtKs sc es ps
    | _ => false)
def mtI (sc : Scope) : I → Expr → Expr → Bool
  | .seq a, p, _ => mtE sc a p
  | .enum a, p, t => (match p, t with
    | .Call (.Name x _) [q] [] _, .Tuple .. => decide (x = ("enumerate" : Str)) && glB sc x && mtE sc a q
    | _, _ => false)
  | .zip a b, p, t => (match p, t with
    | .Call (.Name x _) [q, r] [] _, .Tuple .. => decide (x = ("zip" : Str)) && glB sc x && mtE sc a q && mtE sc b r
    | _, _ => false)
  | .range es, p, _ => (match p with
    | .Call (.Name x _) [q] [] _ => decide (x = ("range" : Str)) && glB sc x && mtEs sc es [q]
    | .Call (.Name x _) [q, r] [] _ => decide (x = ("range" : Str)) && glB sc x && mtEs sc es [q, r]
    | _ => false)
end
end
end Py

set_option linter.all false
set_option Elab.async false
set_option maxRecDepth 100000
set_option maxHeartbeats 2000017
/-! The evaluator's expressions are the model's. -/
namespace Py
open L2 PyProof.Rows PySem.Spec PySem
structure GoodM (T : Tx) (P : Prog) (d : Nat) (X : Cx) (M : Mt) : Prop where
  gd : GoodX T P d X
  N : X.N = M.N
  sc : X.env.scope = M.sc
  st : T.st = M.st
  gv : ∀ n v, P.glob n = some v → M.gl n = true → ∃ y u, X.mg (T.st n) = some u ∧ RelV y u ∧ ∀ G, RepV T G v y
  gc : ∀ f, M.cl f = true → X.mg (T.st f) = some (.ref (T.ad f)) ∧ PySem.W.keepIn X.K (.ref (T.ad f)) = true
  nob : ∀ n ∈ buL, X.mg (Str.ofString n) = none
abbrev SE (X : Cx) (pe : Expr) (σ : L2.St) (H : Hp) (Q : VK) : Prop := ∀ pins s, Inv X pins σ H s → wpAny (model X.prog X.w) X.A (eval pe X.env) (EP X pins σ Q) X.xe s
abbrev ST (X : Cx) (pe : Expr) (σ : L2.St) (H : Hp) (Q : Bool → Hp → Prop) : Prop := ∀ pins s, Inv X pins σ H s → wpAny (model X.prog X.w) X.A (isTrue pe X.env (eval pe X.env)) (TP X pins σ Q) X.xe s
abbrev SW (X : Cx) (pe : Expr) (σ : L2.St) (H : Hp) (Q : Bool → Hp → Prop) : Prop := ∀ whole pins s, Inv X pins σ H s → wpAny (model X.prog X.w) X.A (isTrue pe X.env whole) (TP X pins σ Q) X.xe s
abbrev SA (X : Cx) (es : List Expr) (σ : L2.St) (H : Hp) (Q : List V → Hp → Prop) : Prop := ∀ pos pins s, Inv X pins σ H s → wpAny (model X.prog X.w) X.A (spliced (backTo pos (starEach es X.env))) (AP X pins σ Q) X.xe s
abbrev SK (X : Cx) (ks : List Keyword) (σ : L2.St) (H : Hp) (Q : List V → Hp → Prop) : Prop := ∀ pos pins s, Inv X pins σ H s → wpAny (model X.prog X.w) X.A (evalAll ((backToKw pos (keywordEach ks X.env)).map (·.2))) (AP X pins σ Q) X.xe s
abbrev SI (X : Cx) (tg pe : Expr) (σ : L2.St) (H : Hp) (R : It → Hp → Prop) : Prop := ∀ pins s, Inv X pins σ H s → wpAny (model X.prog X.w) X.A (eval pe X.env) (fun v s1 => wpAny (model X.prog X.w) X.A (pyIter v) (PIE X pins σ tg R) X.xe s1) X.xe s
theorem peS (X : Cx) (pe : Expr) : PE X pe (SE X pe) := ⟨fun pins s σ H Q I h => h pins s I⟩
theorem ptS (X : Cx) (pe : Expr) : PT X pe (ST X pe) := ⟨fun pins s σ H Q I h => h pins s I⟩
theorem pwS (X : Cx) (pe : Expr) : PW X pe (SW X pe) := ⟨fun whole pins s σ H Q I h => h whole pins s I⟩
theorem paS (X : Cx) (es : List Expr) : PA X es (SA X es) := ⟨fun pos pins s σ H Q I h => h pos pins s I⟩
theorem pkS (X : Cx) (ks : List Keyword) : PK X ks (SK X ks) := ⟨fun pos pins s σ H Q I h => h pos pins s I⟩
theorem piS (X : Cx) (tg pe : Expr) : PI X tg pe (SI X tg pe) := ⟨fun pins s σ H R I h => h pins s I⟩
theorem SE.of {X : Cx} {pe : Expr} {t : TE} (h : PE X pe t) {σ : L2.St} {H : Hp} {Q : VK} (q : t σ H Q) : SE X pe σ H Q := fun pins s I => h.run pins s σ H Q I q
theorem ST.of {X : Cx} {pe : Expr} {t : TT} (h : PT X pe t) {σ : L2.St} {H : Hp} {Q : Bool → Hp → Prop} (q : t σ H Q) : ST X pe σ H Q := fun pins s I => h.run pins s σ H Q I q
theorem SA.of {X : Cx} {pe : List Expr} {t : TA} (h : PA X pe t) {σ : L2.St} {H : Hp} {Q : List V → Hp → Prop} (q : t σ H Q) : SA X pe σ H Q := fun pos pins s I => h.run pos pins s σ H Q I q
theorem SK.of {X : Cx} {pe : List Keyword} {t : TA} (h : PK X pe t) {σ : L2.St} {H : Hp} {Q : List V → Hp → Prop} (q : t σ H Q) : SK X pe σ H Q := fun pos pins s I => h.run pos pins s σ H Q I q
/-- what the trees' small tests give -/
theorem visB_ok {sc : Scope} {x : Str} (e : visB sc x = true) : Vis sc x := by
  unfold visB at e
  split at e <;> first | (left; assumption) | (right; left; assumption) | (right; right; assumption) | cases e
theorem dbg_ok {x : Str} (e : dbgB x = true) : (x == ("__debug__" : Str)) = false ∧ (x == ("__classdict__" : Str)) = false ∧ x ≠ "__name__" := by
  unfold dbgB at e
  rw [Bool.and_eq_true, Bool.and_eq_true, Bool.not_eq_true', Bool.not_eq_true', Bool.not_eq_true'] at e
  exact ⟨e.1.1, e.1.2, fun z => by rw [z] at e; simp at e⟩
theorem gl_ok {X : Cx} {x : Str} {sc : Scope} (hs : X.env.scope = sc) (e : glB sc x = true) : Gl X x := by
  unfold glB at e
  unfold Gl Env.kindOf
  rw [hs]
  split at e
  · assumption
  · cases e
theorem base_ok {e : Expr} {f : Str} {env : PySem.Env} (h : baseB e = true) : attributeBase e f env (eval e env) = eval e env := by
  unfold attributeBase
  split
  · rename_i id p pos
    have : (id == ("super" : Str)) = false := by simpa [baseB] using h
    simp [bne, this]
  · rfl
theorem plain_ix {b : Expr} (h : plainX b = true) : PlainIx b := fun o i => by cases b <;> first | rfl | cases h
theorem plain_star {e : Expr} {es : List Expr} {env : PySem.Env} (h : plainX e = true) : starEach (e :: es) env = (false, eval e env) :: starEach es env := by cases e <;> first | rfl | cases h
theorem plain_marks {e : Expr} {op : CmpOp} (h : plainX e = true) : behindInMarks op e = false := by cases e <;> first | rfl | cases h
theorem plain_fold {e : Expr} {env : PySem.Env} (h : plainX e = true) : ∀ x, foldedSetIterable e env x = pure x := by cases e <;> first | (intro _; rfl) | cases h
theorem mt_plain {st : Nm → Str} {gl cl : Nm → Bool} {N : List Str} {sc : Scope} {e : E} {p : Expr} (h : mtE st gl cl N sc e p = true) : plainX p = true := by
  cases p with
  | Starred => cases e <;> exact Bool.noConfusion h
  | Set => cases e <;> exact Bool.noConfusion h
  | Slice => cases e <;> exact Bool.noConfusion h
  | _ => rfl
theorem tst_ok {e : Expr} (h : tstB e = true) : ∀ (env : PySem.Env) whole, isTrue e env whole = (do let v ← whole; standAt e.pos; holding [v] (truthy v)) := by
  cases e with
  | UnaryOp op x p => cases op <;> first | (intro _ _; rfl) | cases h
  | BoolOp => cases h
  | IfExp => cases h
  | Compare => cases h
  | _ => intro _ _; rfl
/-- what an iterator walks -/
def JOk (T : Tx) (G0 : Gh) (J : It) (q : Src) (xs : List PV) : Prop := ∀ G h H, Le G0 G → Rel T G h H → q.ok h → ∀ i : Nat,
  (∀ x, xs[i]? = some x → J.go i H ∧ ∀ v H', J.yld i H v H' → ∃ G', Ev G H G' H' ∧ Rel T G' h H' ∧ RepV T G' x v) ∧ (xs.length ≤ i → J.stop i H)
section
variable {T : Tx} {G0 : Gh} {X : Cx}
theorem j_list {K : PySem.W.Frag} {q : Src} {a : Addr} {xs : List PV} (r : ∀ G h H, Le G0 G → Rel T G h H → q.ok h → ∃ ys, SqL K H a ys ∧ RepL T G xs ys) : JOk T G0 (Itl K a) q xs := by
  intro G h H le R ok i
  obtain ⟨ys, s1, r⟩ := r G h H le R ok
  refine ⟨fun x e => ?_, fun e => ⟨ys, s1, by rw [← r.length]; exact e⟩⟩
  obtain ⟨y, y1, y2⟩ := r.get e
  refine ⟨⟨ys, y, s1, y1⟩, fun v H' yd => ?_⟩
  obtain ⟨rfl, yd⟩ := yd
  have := yd ys s1
  rw [y1] at this; cases this
  exact ⟨G, Ev.refl _ _, R, y2⟩
theorem j_tup {K : PySem.W.Frag} {q : Src} {a : Addr} {xs : List PV} (r : ∀ G h H, Le G0 G → Rel T G h H → q.ok h → ∃ ys, SqT K H a ys ∧ RepL T G xs ys) : JOk T G0 (Itt K a) q xs := by
  intro G h H le R ok i
  obtain ⟨ys, s1, r⟩ := r G h H le R ok
  refine ⟨fun x e => ?_, fun e => ⟨ys, s1, by rw [← r.length]; exact e⟩⟩
  obtain ⟨y, y1, y2⟩ := r.get e
  refine ⟨⟨ys, y, s1, y1⟩, fun v H' yd => ?_⟩
  obtain ⟨rfl, yd⟩ := yd
  have := yd ys s1
  rw [y1] at this; cases this
  exact ⟨G, Ev.refl _ _, R, y2⟩
theorem j_range {q : Src} {lo : Int} {n : Nat} : JOk T G0 (Itr lo n) q (rangeL lo n) := by
  intro G h H le R ok i
  refine ⟨fun x e => ?_, fun e => show n ≤ i from by simpa [rangeL] using e⟩
  have hi : i < n := by
    have := (List.getElem?_eq_some_iff.mp e).1
    simpa [rangeL] using this
  refine ⟨hi, fun v H' yd => ?_⟩
  obtain ⟨rfl, rfl⟩ := yd
  have e2 : (rangeL lo n)[i]? = some (.int (lo + (i : Nat))) := by simp [rangeL, hi]
  rw [e2] at e; cases e
  exact ⟨G, Ev.refl _ _, R, rfl⟩
theorem enumL_get : ∀ {xs : List PV} {k i : Nat} {x : PV}, (enumL k xs)[i]? = some x → ∃ y, xs[i]? = some y ∧ x = .tup [.int ((k + i : Nat) : Int), y]
  | [], _, _, _, e => by simp [enumL] at e
  | y :: xs, k, 0, x, e => by
    simp [enumL] at e
    exact ⟨y, rfl, by rw [← e]; rfl⟩
  | y :: xs, k, i + 1, x, e => by
    have e' : (enumL (k + 1) xs)[i]? = some x := by simpa [enumL] using e
    obtain ⟨z, z1, z2⟩ := enumL_get e'
    exact ⟨z, by simpa using z1, by rw [z2, show k + 1 + i = k + (i + 1) by omega]⟩
theorem enumL_len : ∀ {xs : List PV} {k : Nat}, (enumL k xs).length = xs.length
  | [], _ => rfl
  | _ :: xs, k => by simp [enumL, enumL_len]
theorem put_tup {h : EH} {G : Gh} {H : Hp} {p : Addr} {xs : List PV} {ys : List V} (R : Rel T G h H) (n : H p = none) (r : RepL T G xs ys) : ∃ G', Ev G H G' (upd H p (.tup ys)) ∧ Rel T G' h (upd H p (.tup ys)) ∧ RepV T G' (.tup xs) (.ref p) :=
  ⟨G.put p (.tup ys), Ev.put R n, R.put n, RepV.tupl (r.le (Le.put (R.fresh n).1))⟩
theorem j_enum {K : PySem.W.Frag} {q : Src} {a : Addr} {xs : List PV} (r : ∀ G h H, Le G0 G → Rel T G h H → q.ok h → ∃ ys, SqL K H a ys ∧ RepL T G xs ys) : JOk T G0 (Ite K a) q (enumL 0 xs) := by
  intro G h H le R ok i
  obtain ⟨ys, s1, r⟩ := r G h H le R ok
  refine ⟨fun x e => ?_, fun e => ⟨ys, s1, by rw [← r.length]; rw [enumL_len] at e; exact e⟩⟩
  obtain ⟨z, z1, rfl⟩ := enumL_get e
  obtain ⟨y, y1, y2⟩ := r.get z1
  refine ⟨⟨ys, y, s1, y1⟩, fun v H' yd => ?_⟩
  obtain ⟨p, w, rfl, hp, rfl, yd⟩ := yd
  have := yd ys s1
  rw [y1] at this; cases this
  rw [Nat.zero_add]
  exact put_tup R hp (RepL.cons (x := .int (i : Nat)) (y := .int (i : Nat)) rfl (RepL.one y2))
theorem zipL_get : ∀ {xs us : List PV} {i : Nat} {x : PV}, (zipL xs us)[i]? = some x → ∃ y z, xs[i]? = some y ∧ us[i]? = some z ∧ x = .tup [y, z]
  | [], _, _, _, e => by simp [zipL] at e
  | _ :: _, [], _, _, e => by simp [zipL] at e
  | y :: xs, z :: us, 0, x, e => by
    simp [zipL] at e
    exact ⟨y, z, rfl, rfl, e.symm⟩
  | y :: xs, z :: us, i + 1, x, e => by
    have e' : (zipL xs us)[i]? = some x := by simpa [zipL] using e
    obtain ⟨a, b, h1, h2, h3⟩ := zipL_get e'
    exact ⟨a, b, by simpa using h1, by simpa using h2, h3⟩
theorem zipL_len : ∀ {xs us : List PV} {i : Nat}, (zipL xs us).length ≤ i → xs.length ≤ i ∨ us.length ≤ i
  | [], _, _, _ => .inl (Nat.zero_le _)
  | _ :: _, [], _, _ => .inr (Nat.zero_le _)
  | y :: xs, z :: us, i, e => by
    cases i with
    | zero => simp [zipL] at e
    | succ i =>
      have e' : (zipL xs us).length ≤ i := by simpa [zipL] using e
      rcases zipL_len e' with h | h
      · exact .inl (by simpa using h)
      · exact Or.inr (by simpa using h)
theorem j_zip {K : PySem.W.Frag} {q : Src} {a b : Addr} {xs us : List PV} (r : ∀ G h H, Le G0 G → Rel T G h H → q.ok h → ∃ ys, SqL K H a ys ∧ RepL T G xs ys) (r' : ∀ G h H, Le G0 G → Rel T G h H → q.ok h → ∃ ys, SqL K H b ys ∧ RepL T G us ys) : JOk T G0 (Itz K a b) q (zipL xs us) := by
  intro G h H le R ok i
  obtain ⟨ys, s1, r⟩ := r G h H le R ok
  obtain ⟨ws, s2, r'⟩ := r' G h H le R ok
  refine ⟨fun x e => ?_, fun e => ⟨ys, ws, s1, s2, by rw [← r.length, ← r'.length]; exact zipL_len e⟩⟩
  obtain ⟨z, z', z1, z2, rfl⟩ := zipL_get e
  obtain ⟨y, y1, y2⟩ := r.get z1
  obtain ⟨w, w1, w2⟩ := r'.get z2
  refine ⟨⟨ys, ws, y, w, s1, s2, y1, w1⟩, fun v H' yd => ?_⟩
  obtain ⟨p, y', w', rfl, hp, rfl, yd, yd'⟩ := yd
  have e1 := yd ys s1
  have e2 := yd' ws s2
  rw [y1] at e1; cases e1
  rw [w1] at e2; cases e2
  exact put_tup R hp (RepL.cons y2 (RepL.one w2))
theorem j_zipT {K : PySem.W.Frag} {q : Src} {a b : Addr} {xs us : List PV} (r : ∀ G h H, Le G0 G → Rel T G h H → q.ok h → ∃ ys, SqT K H a ys ∧ RepL T G xs ys) (r' : ∀ G h H, Le G0 G → Rel T G h H → q.ok h → ∃ ys, SqT K H b ys ∧ RepL T G us ys) : JOk T G0 (RZ.ItzT K a b) q (zipL xs us) := by
  intro G h H le R ok i
  obtain ⟨ys, s1, r⟩ := r G h H le R ok
  obtain ⟨ws, s2, r'⟩ := r' G h H le R ok
  refine ⟨fun x e => ?_, fun e => ⟨ys, ws, s1, s2, by rw [← r.length, ← r'.length]; exact zipL_len e⟩⟩
  obtain ⟨z, z', z1, z2, rfl⟩ := zipL_get e
  obtain ⟨y, y1, y2⟩ := r.get z1
  obtain ⟨w, w1, w2⟩ := r'.get z2
  refine ⟨⟨ys, ws, y, w, s1, s2, y1, w1⟩, fun v H' yd => ?_⟩
  obtain ⟨p, y', w', rfl, hp, rfl, yd, yd'⟩ := yd
  have e1 := yd ys s1
  have e2 := yd' ws s2
  rw [y1] at e1; cases e1
  rw [w1] at e2; cases e2
  exact put_tup R hp (RepL.cons y2 (RepL.one w2))
/-- a list that is never changed stands; so does a tuple; a list that is changed stands as it is -/
theorem at_lst {q : Src} {xs : List PV} {v : V} (r : RepV T G0 (.lst xs) v) : ∃ a, v = .ref a ∧ ∀ G h H, Le G0 G → Rel T G h H → q.ok h → ∃ ys, SqL T.K H a ys ∧ RepL T G xs ys := by
  obtain ⟨a, ys, rfl, s, r⟩ := r
  exact ⟨a, rfl, fun G h H le R _ => ⟨ys, .inl (.inl (R.ext _ _ (le.at_ _ _ s))), r.le le⟩⟩
theorem at_tup {q : Src} {xs : List PV} {v : V} (r : RepV T G0 (.tup xs) v) : ∃ a, v = .ref a ∧ ∀ G h H, Le G0 G → Rel T G h H → q.ok h → ∃ ys, SqT T.K H a ys ∧ RepL T G xs ys := by
  obtain ⟨a, ys, rfl, s, r⟩ := r
  exact ⟨a, rfl, fun G h H le R _ => ⟨ys, SqT.ext R (TpA.le le s).sq, r.le le⟩⟩
theorem at_loc {n : Nat} {xs : List PV} {v : V} (r : RepV T G0 (.loc n) v) : ∃ a, v = .ref a ∧ ∀ G h H, Le G0 G → Rel T G h H → (Src.at n xs).ok h → ∃ ys, SqL T.K H a ys ∧ RepL T G xs ys := by
  obtain ⟨a, rfl, m⟩ := r
  refine ⟨a, rfl, fun G h H le R ok => ?_⟩
  obtain ⟨b, e, f, ys, e1, r⟩ := R.ob n _ ok
  rw [le.mget m] at e; cases e
  exact ⟨ys, .inl (.inl e1), r⟩
end
end Py

set_option linter.all false
set_option Elab.async false
set_option maxRecDepth 100000
set_option maxHeartbeats 2000017
/-! zip of a tuple and a list: whatever the two are, if their iterators answer. -/
namespace Py
open L2 PyProof.Rows PySem.Spec PySem Builtin.SmallTypes
section
variable {w : World} {prog : Program}
/-- an iterator at it over src: what nextOf makes of it -/
structure Pull (prog : Program) (w : World) (it l : Addr) (At : Nat → Heap → Prop) (src : Heap → Prop) (items : Array Value) : Prop where
  item : ∀ {A : Around} {E : Value → Shared → Prop} {s : Shared} {i : Nat} {x : Value} {Q : Value → Shared → Prop}, At i s.heap → src s.heap → items[i]? = some x →
    (∀ h', At (i + 1) h' → Heap.SameBut it s.heap h' → Q x { s with heap := h' }) → wpAny (model prog w) A (nextOf (.ref it)) Q E s
  stop : ∀ {A : Around} {E : Value → Shared → Prop} {s : Shared} {i : Nat} {Q : Value → Shared → Prop}, A.handled = none → At i s.heap → src s.heap → items[i]? = none →
    (∀ h' e, Heap.ExtBut it s.heap h' → (∃ o, h'.get? e = some o ∧ o.cls = .type "StopIteration") → E (.ref e) { s with heap := h' }) → wpAny (model prog w) A (nextOf (.ref it)) Q E s
  keep : ∀ {i : Nat} {h h' : Heap} {b : Addr}, At i h → it ≠ b → Heap.ExtBut b h h' → At i h'
  keepS : ∀ {h h' : Heap} {b : Addr}, src h → l ≠ b → Heap.ExtBut b h h' → src h'
theorem pullT {it l : Addr} {items : Array Value} : Pull prog w it l (fun i h => h.IsTupleIter it l i) (fun h => h.IsTuple l items) items where
  item := fun a b c k => RZ.nextOf_tuple_item a b c k
  stop := fun hh a b c k => RZ.nextOf_tuple_end hh a b c k
  keep := fun a ne x => a.extBut x ne
  keepS := fun a ne x => a.extBut x ne
theorem pullL {it l : Addr} {items : Array Value} : Pull prog w it l (fun i h => h.IsListIter it l i) (fun h => h.IsList l items) items where
  item := fun a b c k => wpAny_nextOf_list_item a b c k
  stop := fun hh a b c k => wpAny_nextOf_list_end hh a b c k
  keep := fun a ne x => a.extBut x ne
  keepS := fun a ne x => a.extBut x ne
variable {A : Around} {E : Value → Shared → Prop} {s : Shared} {z TI TO i1 i2 l1 l2 : Addr} {At1 At2 : Nat → Heap → Prop} {src1 src2 : Heap → Prop} {xs ys : Array Value}
/-- a zip as it stands, k pairs told -/
structure ZipAt (At1 At2 : Nat → Heap → Prop) (src1 src2 : Heap → Prop) (z TI TO i1 i2 : Addr) (k : Nat) (f : Value) (h : Heap) : Prop where
  z : IsZip h z TI TO f
  ti : IsPair h TI (.ref i1) (.ref i2)
  to : ∃ a b, IsPair h TO a b
  a1 : At1 k h
  a2 : At2 k h
  s1 : src1 h
  s2 : src2 h
/-- what a turn leaves as it was -/
def Rest (z TO i1 i2 : Addr) (h h' : Heap) : Prop := ∀ c o, c ≠ z → c ≠ TO → c ≠ i1 → c ≠ i2 → h.get? c = some o → h'.get? c = some o
theorem rest_of {b : Addr} {h h' : Heap} (which : b = z ∨ b = TO ∨ b = i1 ∨ b = i2) (x : Heap.ExtBut b h h') : Rest z TO i1 i2 h h' := fun c o c1 c2 c3 c4 e => by
  rcases which with rfl | rfl | rfl | rfl
  · exact x c o c1 e
  · exact x c o c2 e
  · exact x c o c3 e
  · exact x c o c4 e
theorem Rest.trans {a b c : Heap} (x : Rest z TO i1 i2 a b) (y : Rest z TO i1 i2 b c) : Rest z TO i1 i2 a c := fun d o d1 d2 d3 d4 e => y d o d1 d2 d3 d4 (x d o d1 d2 d3 d4 e)
/-- one draw, its item put into the owned pair -/
theorem draw_put {it l : Addr} {At : Nat → Heap → Prop} {src : Heap → Prop} {items : Array Value} (p : Pull prog w it l At src items) {k : Nat} {x : Value} {β : Type} {f : Option Value → Sem β} {Q : β → Shared → Prop}
    (at_ : At k s.heap) (sr : src s.heap) (e : items[k]? = some x) (q : ∀ h', At (k + 1) h' → Heap.SameBut it s.heap h' → wpAny (model prog w) A (f (some x)) Q E { s with heap := h' }) (clean : Value → Sem Unit) :
    wpAny (model prog w) A (((do return some (← nextOf (.ref it))) : Sem (Option Value)).onRaise clean >>= f) Q E s :=
  wpAny_bind (wpAny_onRaise (wpAny_bind (p.item at_ sr e fun h' n b => wpAny_pure (q h' n b))))
theorem ZipAt.but {k : Nat} {f : Value} {h h' : Heap} {b : Addr} (p1 : Pull prog w i1 l1 At1 src1 xs) (p2 : Pull prog w i2 l2 At2 src2 ys) (t : ZipAt At1 At2 src1 src2 z TI TO i1 i2 k f h) (n1 : TI ≠ b) (n2 : TO ≠ b) (n3 : i1 ≠ b) (n4 : i2 ≠ b) (n5 : l1 ≠ b) (n6 : l2 ≠ b) (nz : z ≠ b) (x : Heap.ExtBut b h h') :
    ZipAt At1 At2 src1 src2 z TI TO i1 i2 k f h' := ⟨x _ _ nz t.z, x _ _ n1 t.ti, let ⟨a, c, e⟩ := t.to; ⟨a, c, x _ _ n2 e⟩, p1.keep t.a1 n3 x, p2.keep t.a2 n4 x, p1.keepS t.s1 n5 x, p2.keepS t.s2 n6 x⟩
theorem zm_item (p1 : Pull prog w i1 l1 At1 src1 xs) (p2 : Pull prog w i2 l2 At2 src2 ys) (D : ZipApart z TI TO i1 i2 l1 l2) {k : Nat} {x y : Value} {Q : Value → Shared → Prop} (t : ZipAt At1 At2 src1 src2 z TI TO i1 i2 k .none s.heap) (hx : xs[k]? = some x) (hy : ys[k]? = some y)
    (q : ∀ h', ZipAt At1 At2 src1 src2 z TI TO i1 i2 (k + 1) (rawInt s.heap.objs.size) h' → IsPair h' s.heap.objs.size x y → h'.objs.size = s.heap.objs.size + 1 → Rest z TO i1 i2 s.heap h' → Q (.ref s.heap.objs.size) { s with heap := h' }) : wpAny (model prog w) A (Builtin.«zip.__next__» ⟨[.ref z], []⟩) (fun fin s' => ∃ v, fin = .done (.ret v) ∧ Q v s') E s := by
  obtain ⟨a, b, own⟩ := t.to
  refine (show wpAny _ _ (field (.ref z) 2 >>= _) _ _ _ from wpAny_bind (wpAny_field t.z rfl (x := .bool false) rfl ?_))
  refine (show wpAny _ _ (field (.ref z) 3 >>= _) _ _ _ from wpAny_bind (wpAny_field t.z rfl (x := .ref TI) rfl (wpAny_bind (wpAny_seqItems t.ti rfl ?_))))
  have free : ∀ {P : Bool → Shared → Prop}, P true s → wpAny (model prog w) A (ownedTupleIsFree (.ref z)) P E s := fun hp => wpAny_bind (wpAny_field t.z rfl (x := .none) rfl (wpAny_pure hp))
  refine (show wpAny _ _ (ownedTupleIsFree (.ref z) >>= _) _ _ _ from wpAny_bind (free ?_))
  rw [if_pos rfl]
  refine wpAny_bind (wpAny_rule (wpAny_bind (wpAny_field t.z rfl (x := .ref TO) rfl (wpAny_bind (wpAny_setField_rec t.z (by simp) fun g1 gz gb => ?_)))))
  have gz : IsZip g1 z TI TO .ellipsis := gz
  have own1 : IsPair g1 TO a b := gb.extBut _ _ D.TOz own
  dsimp only [List.zipIdx_cons, List.zipIdx_nil]
  rw [List.forIn_cons]
  refine wpAny_bind (wpAny_bind (draw_put p1 (p1.keep t.a1 D.i1z gb.extBut) (p1.keepS t.s1 D.l1z gb.extBut) hx (fun g2 n1 b2 => ?_) _))
  have own2 : IsPair g2 TO a b := b2.extBut _ _ D.TOi1 own1
  refine wpAny_bind (wpAny_seqItems own2 rfl (wpAny_bind (wpAny_updateSeq_pair own2 fun g3 own3 b3 => ?_)))
  have own3 : IsPair g3 TO x b := own3
  refine (wpAny_bind <| wpAny_letGo <| wpAny_pure ?_)
  dsimp only
  rw [List.forIn_cons]
  refine wpAny_bind (draw_put p2 (p2.keep (p2.keep (p2.keep t.a2 D.i2z gb.extBut) D.i12.symm b2.extBut) D.TOi2.symm b3.extBut) (p2.keepS (p2.keepS (p2.keepS t.s2 D.l2z gb.extBut) D.l2i1 b2.extBut) D.l2TO b3.extBut) hy (fun g4 n2 b4 => ?_) _)
  have own4 : IsPair g4 TO x b := b4.extBut _ _ D.TOi2 own3
  refine wpAny_bind (wpAny_seqItems own4 rfl (wpAny_bind (wpAny_updateSeq_pair own4 fun g5 own5 b5 => ?_)))
  have own5 : IsPair g5 TO x y := own5
  refine (wpAny_bind <| wpAny_letGo <| wpAny_pure ?_)
  dsimp only
  rw [List.forIn_nil]
  refine wpAny_pure ?_
  dsimp only
  refine wpAny_bind (wpAny_seqItems own5 rfl (wpAny_bind (wpAny_newTuple ?_)))
  have all5 : Rest z TO i1 i2 s.heap g5 := (rest_of (.inl rfl) gb.extBut).trans ((rest_of (.inr (.inr (.inl rfl))) b2.extBut).trans ((rest_of (.inr (.inl rfl)) b3.extBut).trans ((rest_of (.inr (.inr (.inr rfl))) b4.extBut).trans (rest_of (.inr (.inl rfl)) b5.extBut))))
  have size5 : g5.objs.size = s.heap.objs.size := by rw [b5.1, b4.1, b3.1, b2.1, gb.1]
  have gz5 : IsZip g5 z TI TO .ellipsis := b5.extBut _ _ D.TOz.symm (b4.extBut _ _ D.i2z.symm (b3.extBut _ _ D.TOz.symm (b2.extBut _ _ D.i1z.symm gz)))
  have zl : z < g5.objs.size := Heap.lt_size gz5
  have gz6 : IsZip (g5.push { cls := .type "tuple", data := .seq #[x, y] }) z TI TO .ellipsis := Heap.get?_push_of_some _ gz5
  refine wpAny_bind (show wpAny _ _ (ownedTupleHandOut (.ref z) (.ref g5.objs.size)) _ _ _ from wpAny_bind (wpAny_setField_rec gz6 (by simp) fun g7 gz7 b7 => wpAny_setField_rec (vs := #[rawInt g5.objs.size, .bool false, .bool false, .ref TI, .ref TO]) gz7 (by simp) fun g8 gz8 b8 => wpAny_pure ⟨_, rfl, ?_⟩))
  have gz8 : IsZip g8 z TI TO (rawInt g5.objs.size) := gz8
  have later : Heap.ExtBut z g5 g8 := fun c o ne e => b8.extBut _ _ ne (b7.extBut _ _ ne (Heap.get?_push_of_some _ e))
  have pair : IsPair g8 g5.objs.size x y := b8.extBut _ _ (Nat.ne_of_gt zl) (b7.extBut _ _ (Nat.ne_of_gt zl) (Heap.get?_push_size _ rfl))
  have size8 : g8.objs.size = g5.objs.size + 1 := by rw [b8.1, b7.1, Heap.size_push]
  rw [size5] at gz8 pair size8
  show Q (.ref g5.objs.size) _
  rw [size5]
  refine q g8 ⟨gz8, ?_, ⟨x, y, later _ _ D.TOz own5⟩, ?_, ?_, ?_, ?_⟩ pair size8 (all5.trans (rest_of (.inl rfl) later))
  · exact later _ _ D.TIz (all5 _ _ D.TIz D.TITO D.TIi1 D.TIi2 t.ti)
  · exact p1.keep (p1.keep (p1.keep (p1.keep n1 D.TOi1.symm b3.extBut) D.i12 b4.extBut) D.TOi1.symm b5.extBut) D.i1z later
  · exact p2.keep (p2.keep n2 D.TOi2.symm b5.extBut) D.i2z later
  · exact p1.keepS (p1.keepS (p1.keepS (p1.keepS (p1.keepS (p1.keepS t.s1 D.l1z gb.extBut) D.l1i1 b2.extBut) D.l1TO b3.extBut) D.l1i2 b4.extBut) D.l1TO b5.extBut) D.l1z later
  · exact p2.keepS (p2.keepS (p2.keepS (p2.keepS (p2.keepS (p2.keepS t.s2 D.l2z gb.extBut) D.l2i1 b2.extBut) D.l2TO b3.extBut) D.l2i2 b4.extBut) D.l2TO b5.extBut) D.l2z later
/-- a draw that ends -/
theorem draw_stop {it l : Addr} {At : Nat → Heap → Prop} {src : Heap → Prop} {items : Array Value} (p : Pull prog w it l At src items) {k : Nat} {β : Type} {f : Option Value → Sem β} {Q : β → Shared → Prop} {clean : Value → Sem Unit} (hh : A.handled = none)
    (at_ : At k s.heap) (sr : src s.heap) (e : items[k]? = none) (q : ∀ h' x, Heap.ExtBut it s.heap h' → (∃ o, h'.get? x = some o ∧ o.cls = .type "StopIteration") → wpAny (model prog w) A (clean (.ref x)) (fun _ z => E (.ref x) z) E { s with heap := h' }) :
    wpAny (model prog w) A (((do return some (← nextOf (.ref it))) : Sem (Option Value)).onRaise clean >>= f) Q E s :=
  wpAny_bind (wpAny_onRaise (wpAny_bind (p.stop hh at_ sr e q)))
theorem zm_end (p1 : Pull prog w i1 l1 At1 src1 xs) (p2 : Pull prog w i2 l2 At2 src2 ys) (D : ZipApart z TI TO i1 i2 l1 l2) (hh : A.handled = none) {k : Nat} {Q : PySem.Fin → Shared → Prop} (t : ZipAt At1 At2 src1 src2 z TI TO i1 i2 k .none s.heap) (last : xs[k]? = none ∨ ys[k]? = none)
    (q : ∀ h' e, Rest z TO i1 i2 s.heap h' → (∃ o, h'.get? e = some o ∧ o.cls = .type "StopIteration") → E (.ref e) { s with heap := h' }) : wpAny (model prog w) A (Builtin.«zip.__next__» ⟨[.ref z], []⟩) Q E s := by
  obtain ⟨a, b, own⟩ := t.to
  refine (show wpAny _ _ (field (.ref z) 2 >>= _) _ _ _ from wpAny_bind (wpAny_field t.z rfl (x := .bool false) rfl ?_))
  refine (show wpAny _ _ (field (.ref z) 3 >>= _) _ _ _ from wpAny_bind (wpAny_field t.z rfl (x := .ref TI) rfl (wpAny_bind (wpAny_seqItems t.ti rfl ?_))))
  have free : ∀ {P : Bool → Shared → Prop}, P true s → wpAny (model prog w) A (ownedTupleIsFree (.ref z)) P E s := fun hp => wpAny_bind (wpAny_field t.z rfl (x := .none) rfl (wpAny_pure hp))
  refine (show wpAny _ _ (ownedTupleIsFree (.ref z) >>= _) _ _ _ from wpAny_bind (free ?_))
  rw [if_pos rfl]
  refine wpAny_bind (wpAny_rule (wpAny_bind (wpAny_field t.z rfl (x := .ref TO) rfl (wpAny_bind (wpAny_setField_rec t.z (by simp) fun g1 gz gb => ?_)))))
  have gz : IsZip g1 z TI TO .ellipsis := gz
  have own1 : IsPair g1 TO a b := gb.extBut _ _ D.TOz own
  /- an error: the zip's tuple is free again -/
  have off : ∀ (g : Heap) (e : Addr), IsZip g z TI TO .ellipsis → Rest z TO i1 i2 s.heap g → (∃ o, g.get? e = some o ∧ o.cls = .type "StopIteration") → wpAny (model prog w) A (setField (.ref z) 0 Value.none) (fun _ s' => E (.ref e) s') E { s with heap := g } := fun g e hz re ⟨o, ho, hc⟩ =>
    wpAny_setField_rec hz (by simp) fun g' _ b' => q g' e (re.trans (rest_of (.inl rfl) b'.extBut)) ⟨o, b'.extBut _ _ (fun ez => by subst ez; rw [hz] at ho; cases ho; simp at hc) ho, hc⟩
  have re1 : Rest z TO i1 i2 s.heap g1 := rest_of (.inl rfl) gb.extBut
  dsimp only [List.zipIdx_cons, List.zipIdx_nil]
  rw [List.forIn_cons]
  cases hx : xs[k]? with
  | none => exact wpAny_bind (wpAny_bind (draw_stop p1 hh (p1.keep t.a1 D.i1z gb.extBut) (p1.keepS t.s1 D.l1z gb.extBut) hx fun g2 e x he => off g2 e (x _ _ D.i1z.symm gz) (re1.trans (rest_of (.inr (.inr (.inl rfl))) x)) he))
  | some x =>
    have hy : ys[k]? = none := last.elim (fun q => by rw [hx] at q; cases q) fun q => q
    refine wpAny_bind (wpAny_bind (draw_put p1 (p1.keep t.a1 D.i1z gb.extBut) (p1.keepS t.s1 D.l1z gb.extBut) hx (fun g2 n1 b2 => ?_) _))
    have own2 : IsPair g2 TO a b := b2.extBut _ _ D.TOi1 own1
    refine wpAny_bind (wpAny_seqItems own2 rfl (wpAny_bind (wpAny_updateSeq_pair own2 fun g3 own3 b3 => ?_)))
    refine (wpAny_bind <| wpAny_letGo <| wpAny_pure ?_)
    dsimp only
    rw [List.forIn_cons]
    refine wpAny_bind (draw_stop p2 hh (p2.keep (p2.keep (p2.keep t.a2 D.i2z gb.extBut) D.i12.symm b2.extBut) D.TOi2.symm b3.extBut) (p2.keepS (p2.keepS (p2.keepS t.s2 D.l2z gb.extBut) D.l2i1 b2.extBut) D.l2TO b3.extBut) hy fun g4 e x4 he => ?_)
    exact off g4 e (x4 _ _ D.i2z.symm (b3.extBut _ _ D.TOz.symm (b2.extBut _ _ D.i1z.symm gz))) (re1.trans ((rest_of (.inr (.inr (.inl rfl))) b2.extBut).trans ((rest_of (.inr (.inl rfl)) b3.extBut).trans (rest_of (.inr (.inr (.inr rfl))) x4)))) he
/-- next(zip) -/
theorem next_zm (p1 : Pull prog w i1 l1 At1 src1 xs) (p2 : Pull prog w i2 l2 At2 src2 ys) (D : ZipApart z TI TO i1 i2 l1 l2) {k : Nat} {x y : Value} {Q : Option Value → Shared → Prop} (t : ZipAt At1 At2 src1 src2 z TI TO i1 i2 k .none s.heap) (hx : xs[k]? = some x) (hy : ys[k]? = some y)
    (q : ∀ h', ZipAt At1 At2 src1 src2 z TI TO i1 i2 (k + 1) (rawInt s.heap.objs.size) h' → IsPair h' s.heap.objs.size x y → h'.objs.size = s.heap.objs.size + 1 → Rest z TO i1 i2 s.heap h' → Q (some (.ref s.heap.objs.size)) { s with heap := h' }) : wpAny (model prog w) A (pyNext (.ref z)) Q E s := by
  have ty : s.TypeIs (.ref z) "zip" := ⟨_, t.z, rfl⟩
  delta pyNext
  exact wpAny_bind (wpAny_attempt (wpAny_callSpecial?_slot (name := Str.ofString "__next__") ty F.slot_zip_next (wpAny_call_entry F.slot_zip_next ty F.entry_zip_next (zm_item p1 p2 D t hx hy fun h' a b c d => wpAny_pure (q h' a b c d)) (F.args_zip_next_1 _))))
theorem stop_zm (p1 : Pull prog w i1 l1 At1 src1 xs) (p2 : Pull prog w i2 l2 At2 src2 ys) (D : ZipApart z TI TO i1 i2 l1 l2) (hh : A.handled = none) {k : Nat} {Q : Option Value → Shared → Prop} (t : ZipAt At1 At2 src1 src2 z TI TO i1 i2 k .none s.heap) (last : xs[k]? = none ∨ ys[k]? = none)
    (q : ∀ h', Rest z TO i1 i2 s.heap h' → Q none { s with heap := h' }) : wpAny (model prog w) A (pyNext (.ref z)) Q E s := by
  have ty : s.TypeIs (.ref z) "zip" := ⟨_, t.z, rfl⟩
  delta pyNext
  refine wpAny_bind (wpAny_attempt (wpAny_callSpecial?_slot (name := Str.ofString "__next__") ty F.slot_zip_next (wpAny_call_entry F.slot_zip_next ty F.entry_zip_next (zm_end (A := A.in1) p1 p2 D hh t last fun h' e re he => ?_) (F.args_zip_next_1 _))))
  exact wpAny_bind (wpAny_isInstance (T := "StopIteration") (b := true) he isSubtype_stop (wpAny_pure (q h' re)))
end
/-- what zip(tuple, list) lays: two iterators, their pair, the owned pair, the zip -/
abbrev layI (h : Heap) (l1 l2 : Addr) : Heap := (h.push ⟨.type "tuple_iterator", none, .fields #[.ref l1, .int 0 0], #[]⟩).push ⟨.type "list_iterator", none, .fields #[.ref l2, .int 0 0], #[]⟩
abbrev layP (h : Heap) (l1 l2 : Addr) : Heap := ((layI h l1 l2).push ⟨.type "tuple", none, .seq #[.ref h.objs.size, .ref (h.push ⟨.type "tuple_iterator", none, .fields #[.ref l1, .int 0 0], #[]⟩).objs.size], #[]⟩).push ⟨.type "tuple", none, .seq #[.none, .none], #[]⟩
abbrev layZ (h : Heap) (l1 l2 : Addr) : Heap := (layP h l1 l2).push ⟨.type "zip", none, .fields #[.none, .bool false, .bool false, .ref (layI h l1 l2).objs.size, .ref ((layI h l1 l2).push ⟨.type "tuple", none, .seq #[.ref h.objs.size, .ref (h.push ⟨.type "tuple_iterator", none, .fields #[.ref l1, .int 0 0], #[]⟩).objs.size], #[]⟩).objs.size], #[]⟩
theorem lay_new (l1 l2 : Addr) (xs ys : Array Value) : Meets (Builtin.«zip.__new__» ⟨[.type "zip", .ref l1, .ref l2], []⟩)
    (fun _ R s => s.heap.IsTuple l1 xs ∧ s.heap.IsList l2 ys ∧ R (.ok (.ret (.ref (layP s.heap l1 l2).objs.size))) { s with heap := layZ s.heap l1 l2 }) := .of_wp fun prog w A R s ⟨t1, t2, r⟩ => by
  cases s with
  | mk hp g d tk os =>
    have sub := sub_zip
    have u1 : Heap.IsTuple (Shared.heap ⟨hp, g, d, tk, os⟩) l1 xs := t1
    have u2 : Heap.IsList (Shared.heap ⟨hp.push ⟨.type "tuple_iterator", none, .fields #[.ref l1, .int 0 0], #[]⟩, g, d, tk, os⟩) l2 ys := Heap.IsList.push t2 _
    wp_walk using wpAny_pyIter_tuple u1, wpAny_pyIter_list u2
    exact ⟨_, rfl, r⟩
section
variable {s : Shared} {E : Value → Shared → Prop} {A : Around} {w : World} {prog : Program}
/-- zip(tuple, list) -/
theorem call_zm {l1 l2 : Addr} {xs ys : Array Value} {Q : Value → Shared → Prop} (t1 : s.heap.IsTuple l1 xs) (t2 : s.heap.IsList l2 ys)
    (q : ∀ h', ZipAt (fun i h => h.IsTupleIter s.heap.objs.size l1 i) (fun i h => h.IsListIter (s.heap.objs.size + 1) l2 i) (fun h => h.IsTuple l1 xs) (fun h => h.IsList l2 ys) (s.heap.objs.size + 4) (s.heap.objs.size + 2) (s.heap.objs.size + 3) s.heap.objs.size (s.heap.objs.size + 1) 0 .none h' →
      (∀ c o, s.heap.get? c = some o → h'.get? c = some o) → Q (.ref (s.heap.objs.size + 4)) { s with heap := h' }) : wpAny (model prog w) A (call (.type "zip") [.ref l1, .ref l2]) Q E s := by
  have keep : ∀ c o, s.heap.get? c = some o → (layZ s.heap l1 l2).get? c = some o := fun c o e => Heap.get?_push_of_some _ (Heap.get?_push_of_some _ (Heap.get?_push_of_some _ (Heap.get?_push_of_some _ (Heap.get?_push_of_some _ e))))
  have n1 : (s.heap.push ⟨.type "tuple_iterator", none, .fields #[.ref l1, .int 0 0], #[]⟩).objs.size = s.heap.objs.size + 1 := Heap.size_push ..
  have n2 : (layI s.heap l1 l2).objs.size = s.heap.objs.size + 2 := by rw [Heap.size_push, n1]
  have n4 : (layP s.heap l1 l2).objs.size = s.heap.objs.size + 4 := by rw [Heap.size_push, Heap.size_push, n2]
  have n3 : ((layI s.heap l1 l2).push ⟨.type "tuple", none, .seq #[.ref s.heap.objs.size, .ref (s.heap.push ⟨.type "tuple_iterator", none, .fields #[.ref l1, .int 0 0], #[]⟩).objs.size], #[]⟩).objs.size = s.heap.objs.size + 3 := by rw [Heap.size_push, n2]
  have pz : (layZ s.heap l1 l2).get? (layP s.heap l1 l2).objs.size = some _ := Heap.get?_push_size _ rfl
  have po : (layZ s.heap l1 l2).get? ((layI s.heap l1 l2).push ⟨.type "tuple", none, .seq #[.ref s.heap.objs.size, .ref (s.heap.push ⟨.type "tuple_iterator", none, .fields #[.ref l1, .int 0 0], #[]⟩).objs.size], #[]⟩).objs.size = some _ := Heap.get?_push_of_some _ (Heap.get?_push_size _ rfl)
  have pi : (layZ s.heap l1 l2).get? (layI s.heap l1 l2).objs.size = some _ := Heap.get?_push_of_some _ (Heap.get?_push_of_some _ (Heap.get?_push_size _ rfl))
  have p2 : (layZ s.heap l1 l2).get? (s.heap.push ⟨.type "tuple_iterator", none, .fields #[.ref l1, .int 0 0], #[]⟩).objs.size = some _ := Heap.get?_push_of_some _ (Heap.get?_push_of_some _ (Heap.get?_push_of_some _ (Heap.get?_push_size _ rfl)))
  have p1 : (layZ s.heap l1 l2).get? s.heap.objs.size = some _ := Heap.get?_push_of_some _ (Heap.get?_push_of_some _ (Heap.get?_push_of_some _ (Heap.get?_push_of_some _ (Heap.get?_push_size _ rfl))))
  refine callType_new F.called_zip (by decide) (F.typeCall_zip_2 _ _) (F.newCall_zip_2 _ _) (fun o => F.args_object_init_3 o _ _) F.entry_zip_new (lay_new l1 l2 xs ys) ⟨t1, t2, show _ ∧ _ from ⟨⟨_, pz, rfl⟩, ?_⟩⟩
  rw [n4]
  rw [n4, n3, n2] at pz
  rw [n3] at po
  rw [n2, n1] at pi
  rw [n1] at p2
  refine q _ ⟨pz, pi, ⟨_, _, po⟩, ⟨_, p1, rfl, rfl⟩, ⟨_, p2, rfl, rfl⟩, ?_, ?_⟩ keep
  · exact let ⟨o, e, c, n, d⟩ := t1; ⟨o, keep _ _ e, c, n, d⟩
  · exact let ⟨o, e, c, n, d⟩ := t2; ⟨o, keep _ _ e, c, n, d⟩
end
end Py

set_option linter.all false
set_option Elab.async false
set_option maxRecDepth 100000
set_option maxHeartbeats 2000017
/-! zip of a tuple and a list: an iterator of the rules. -/
namespace Py
open L2 PyProof.Rows PySem.Spec PySem Builtin.SmallTypes
def no (_ : Heap) : Prop := True
/-- the two iterators, whatever their sources hold -/
abbrev MixAt (a b z TI TO i1 i2 : Addr) (k : Nat) (f : Value) (h : Heap) : Prop := ZipAt (fun i h => h.IsTupleIter i1 a i) (fun i h => h.IsListIter i2 b i) no no z TI TO i1 i2 k f h
theorem ZipAt.to_ {At1 At2 : Nat → Heap → Prop} {s1 s2 r1 r2 : Heap → Prop} {z TI TO i1 i2 : Addr} {k : Nat} {f : Value} {h : Heap} (t : ZipAt At1 At2 s1 s2 z TI TO i1 i2 k f h) (q1 : r1 h) (q2 : r2 h) : ZipAt At1 At2 r1 r2 z TI TO i1 i2 k f h := ⟨t.z, t.ti, t.to, t.a1, t.a2, q1, q2⟩
/-- pairs of a tuple's and a list's items -/
def ItzM (K : PySem.W.Frag) (a b : Addr) : It where
  go i H := ∃ xs ys : List V, (SqT K H a xs ∧ SqL K H b ys) ∧ i < xs.length ∧ i < ys.length
  yld i H v H' := ∃ p x y, (v = .ref p ∧ H p = none ∧ H' = upd H p (.tup [x, y])) ∧ (∀ xs, SqT K H a xs → xs[i]? = some x) ∧ ∀ ys, SqL K H b ys → ys[i]? = some y
  stop i H := ∃ xs ys : List V, (SqT K H a xs ∧ SqL K H b ys) ∧ (xs.length ≤ i ∨ ys.length ≤ i)
theorem five {P : Addr → Prop} {a b c d e : Addr} (pa : P a) (pb : P b) (pc : P c) (pd : P d) (pe : P e) : ∀ x ∈ [a, b, c, d, e], P x := by
  intro x m
  simp only [List.mem_cons, List.not_mem_nil, or_false] at m
  rcases m with rfl | rfl | rfl | rfl | rfl <;> assumption
theorem rest_keeps {z TI TO i1 i2 c : Addr} {o : Obj} {h h' : Heap} (r : Rest z TO i1 i2 h h') (n : c ∉ [z, TI, TO, i1, i2]) (e : h.get? c = some o) : h'.get? c = some o := by
  simp only [List.mem_cons, List.not_mem_nil, or_false, not_or] at n
  exact r c o n.1 n.2.2.1 n.2.2.2.1 n.2.2.2.2 e
theorem MixAt.objs {a b z TI TO i1 i2 : Addr} {k : Nat} {f : Value} {h : Heap} (t : MixAt a b z TI TO i1 i2 k f h) : ∀ c ∈ [z, TI, TO, i1, i2], ∃ o, h.get? c = some o ∧ ∀ v, o.data ≠ .cell v := by
  obtain ⟨u, v, own⟩ := t.to
  obtain ⟨o1, e1, c1, d1⟩ := t.a1
  obtain ⟨o2, e2, c2, d2⟩ := t.a2
  refine five ⟨_, t.z, ?_⟩ ⟨_, t.ti, ?_⟩ ⟨_, own, ?_⟩ ⟨o1, e1, ?_⟩ ⟨o2, e2, ?_⟩ <;> intro v q
  · cases q
  · cases q
  · cases q
  · rw [d1] at q; cases q
  · rw [d2] at q; cases q
/-- the pair handed on is the body's -/
theorem MixAt.free {prog : Program} {w : World} {A : Around} {E : Value → Shared → Prop} {s : Shared} {a b z TI TO i1 i2 p : Addr} {k n : Nat} {elts : List Expr} {pos : Pos} {Q : Unit → Shared → Prop} (D : ZipApart z TI TO i1 i2 a b) (t : MixAt a b z TI TO i1 i2 k (rawInt p) s.heap)
    (q : ∀ h', MixAt a b z TI TO i1 i2 k .none h' → Heap.SameBut z s.heap h' → Q () { s with heap := h' }) : wpAny (model prog w) A (letOwnedTupleGo (.Tuple elts n pos) (.ref z) (.ref p)) Q E s :=
  wpAny_letOwnedTupleGo_zip t.z fun h' z' b' => q h' ⟨z', b'.extBut _ _ D.TIz t.ti, let ⟨u, v, o⟩ := t.to; ⟨u, v, b'.extBut _ _ D.TOz o⟩, t.a1.extBut b'.extBut D.i1z, t.a2.extBut b'.extBut D.i2z, trivial, trivial⟩ b'
theorem turn_zm {P : Program} {w : World} {K : PySem.W.Frag} {elts : List Expr} {n : Nat} {pos : Pos} {a b z TI TO i1 i2 : Addr} (D : ZipApart z TI TO i1 i2 a b) : Turn P w K (.Tuple elts n pos) (ItzM K a b) [z, TI, TO, i1, i2] z (fun i h => MixAt a b z TI TO i1 i2 i .none h) := by
  constructor
  · exact List.mem_cons_self
  · exact fun i h t => t.objs
  · intro i h h' t k
    have at_ : ∀ {c : Addr}, c ∈ [z, TI, TO, i1, i2] → ∀ o, h.get? c = some o → h'.get? c = some o := fun m o => k _ m o
    obtain ⟨u, v, own⟩ := t.to
    exact ⟨at_ (by simp) _ t.z, at_ (by simp) _ t.ti, ⟨u, v, at_ (by simp) _ own⟩, t.a1.at (at_ (by simp)), t.a2.at (at_ (by simp)), trivial, trivial⟩
  · rintro X rfl rfl rfl cm i pins s σ H E I own t ⟨xs, ys, ⟨sx, sy⟩, lx, ly⟩
    obtain ⟨us, rx, px, _⟩ := I.tuple sx
    obtain ⟨vs, ry, py, _⟩ := I.list sy
    obtain ⟨u, eu, ru⟩ := rx.get (List.getElem?_eq_getElem lx)
    obtain ⟨v, ev, rv⟩ := ry.get (List.getElem?_eq_getElem ly)
    refine next_zm pullT pullL D (t.to_ px py.isList) (x := u) (y := v) (by rw [List.getElem?_toArray]; exact eu) (by rw [List.getElem?_toArray]; exact ev) fun h1 t1 pr sz re => ⟨_, rfl, ?_⟩
    refine MixAt.free (s := { s with heap := h1 }) D (t1.to_ trivial trivial) fun h2 t2 sb => ?_
    have zl : z < s.heap.objs.size := Heap.lt_size t.z
    have pr2 : h2.get? s.heap.objs.size = some { cls := .type "tuple", data := .seq #[u, v] } := sb.extBut _ _ (Nat.ne_of_gt zl) pr
    have ok2 : ObjOk X.prog X.w (upd H s.heap.objs.size (.tup [xs[i], ys[i]])) h2 s.heap.objs.size (.tup [xs[i], ys[i]]) := ⟨(by decide : 2 ≤ sizeLine), _, .cons ru (.cons rv .nil), _, pr2, rfl, _, rfl⟩
    refine ⟨.ref s.heap.objs.size, _, I.turnedNew (t' := s.toks) (fun c o nc e => sb.extBut _ _ (fun q => nc (q ▸ List.mem_cons_self)) (rest_keeps re nc e)) own (Nat.le_refl _) ok2, rfl, ⟨_, _, _, ⟨rfl, I.hok.fresh (Nat.le_refl _), rfl⟩, fun l hl => ?_, fun l hl => ?_⟩, t2, fun c m => ?_⟩
    · rw [I.tuple_inj hl sx]; exact List.getElem?_eq_getElem lx
    · rw [I.list_inj hl sy]; exact List.getElem?_eq_getElem ly
    · obtain ⟨o, e, _⟩ := t.objs c m
      rw [upd_ne (Nat.ne_of_lt (Heap.lt_size e))]
      exact (own c m).1
  · rintro X rfl rfl rfl cm i pins s σ H E I own t ⟨xs, ys, ⟨sx, sy⟩, ends⟩
    obtain ⟨us, rx, px, _⟩ := I.tuple sx
    obtain ⟨vs, ry, py, _⟩ := I.list sy
    have last : us.toArray[i]? = none ∨ vs.toArray[i]? = none := by
      rw [List.getElem?_toArray, List.getElem?_toArray, List.getElem?_eq_none_iff, List.getElem?_eq_none_iff, ← rx.length, ← ry.length]
      exact ends
    exact stop_zm pullT pullL D (I.ok.hd cm) (t.to_ px py.isList) last fun h1 re => ⟨rfl, I.turnedL (t' := s.toks) (fun c o nc e => rest_keeps re nc e) own⟩
  · exact fun A i s Q E t k => wpAny_pyIter_zip t.z k
/-- zip of whatever two rows the rules know -/
def iZipM (K : PySem.W.Frag) (ta : TA) : TI := fun σ H R => ta σ H fun vs H1 => ∃ a b xs ys, vs = [.ref a, .ref b] ∧ ((SqL K H1 a xs ∧ SqL K H1 b ys ∧ R (Itz K a b) H1) ∨ (SqT K H1 a xs ∧ SqT K H1 b ys ∧ R (RZ.ItzT K a b) H1) ∨ (SqT K H1 a xs ∧ SqL K H1 b ys ∧ R (ItzM K a b) H1))
theorem pi_zipM {X : Cx} {e e2 : Expr} {ta : TA} {p pos tpos : Pos} {elts : List Expr} {n : Nat} (g : Gl X "zip") (m : X.mg "zip" = none) (pa : PA X [e, e2] ta) (st : starEach [e, e2] X.env = (false, eval e X.env) :: starEach [e2] X.env) (pl : (backTo pos (starEach [e2] X.env)).any (·.1) = false) :
    PI X (.Tuple elts n tpos) (.Call (.Name "zip" p) [e, e2] [] pos) (iZipM X.K ta) := by
  constructor
  intro pins s σ H R I k
  have args := pa.run pos pins s σ H _ I k
  refine Call_ (ld_blt I g m boot_zip (callWith_type1 (thn args ?_) st pl))
  rintro us s1 ⟨vs, H1, I1, rr, a, b, xs, ys, rfl, q⟩
  obtain ⟨u, w1, rfl, ru, rw1⟩ : ∃ u w1, us = u :: w1 ∧ RelV (.ref a) u ∧ Vals [.ref b] w1 := by cases rr with | cons r r' => exact ⟨_, _, rfl, r, r'⟩
  obtain ⟨v, rfl, rv⟩ : ∃ v, w1 = [v] ∧ RelV (.ref b) v := by cases rw1 with | cons r r' => cases r' with | nil => exact ⟨_, rfl, r⟩
  cases ru
  cases rv
  have size : ∀ {c : Addr} {zs : Array Value}, s1.heap.IsTuple c zs → c < s1.heap.objs.size := fun ⟨o, e, _⟩ => Heap.lt_size e
  have own : ∀ c, s1.heap.objs.size ≤ c → FpOk X pins H1 c := fun c le => I1.fpOk le (I1.hok.fresh le)
  have owns := five (own _ (Nat.le_add_right _ 4)) (own _ (Nat.le_add_right _ 2)) (own _ (Nat.le_add_right _ 3)) (own _ (Nat.le_refl _)) (own _ (Nat.le_add_right _ 1))
  rcases q with ⟨sx, sy, q⟩ | ⟨sx, sy, q⟩ | ⟨sx, sy, q⟩
  · obtain ⟨as, rx, px, _⟩ := I1.list sx
    obtain ⟨bs, ry, py, _⟩ := I1.list sy
    exact call_zip_2 px.isList py.isList fun h' tz ti to t1 t2 sz keep => wpAny_pyIter_zip tz ⟨_, _, _, _, H1, rfl, I1.kept (t' := s1.toks) keep, turn_zip (PySem.W.ktu_apart _ a b px.lt py.lt), ⟨tz, ti, ⟨_, _, to⟩, t1, t2⟩, owns, q⟩
  · obtain ⟨as, rx, px, _⟩ := I1.tuple sx
    obtain ⟨bs, ry, py, _⟩ := I1.tuple sy
    have px : s1.heap.IsTuple a as.toArray := px
    have py : s1.heap.IsTuple b bs.toArray := py
    exact RZ.call_zipT px py fun h' tz ti to t1 t2 sz keep => wpAny_pyIter_zip tz ⟨_, _, _, _, H1, rfl, I1.kept (t' := s1.toks) keep, RZ.turn_zipT (PySem.W.ktu_apart _ a b (size px) (size py)), ⟨tz, ti, ⟨_, _, to⟩, t1, t2⟩, owns, q⟩
  · obtain ⟨as, rx, px, _⟩ := I1.tuple sx
    obtain ⟨bs, ry, py, _⟩ := I1.list sy
    exact call_zm px py.isList fun h' t keep => wpAny_pyIter_zip t.z ⟨_, _, _, _, H1, rfl, I1.kept (t' := s1.toks) keep, turn_zm (PySem.W.ktu_apart _ a b (size px) py.lt), t.to_ trivial trivial, owns, q⟩
section
variable {T : Tx} {G0 : Gh}
theorem j_zipM {K : PySem.W.Frag} {q : Src} {a b : Addr} {xs us : List PV} (r : ∀ G h H, Le G0 G → Rel T G h H → q.ok h → ∃ ys, SqT K H a ys ∧ RepL T G xs ys) (r' : ∀ G h H, Le G0 G → Rel T G h H → q.ok h → ∃ ys, SqL K H b ys ∧ RepL T G us ys) : JOk T G0 (ItzM K a b) q (zipL xs us) := by
  intro G h H le R ok i
  obtain ⟨ys, s1, r⟩ := r G h H le R ok
  obtain ⟨ws, s2, r'⟩ := r' G h H le R ok
  refine ⟨fun x e => ?_, fun e => ⟨ys, ws, ⟨s1, s2⟩, by rw [← r.length, ← r'.length]; exact zipL_len e⟩⟩
  obtain ⟨z, z', z1, z2, rfl⟩ := zipL_get e
  obtain ⟨y, y1, y2⟩ := r.get z1
  obtain ⟨w, w1, w2⟩ := r'.get z2
  refine ⟨⟨ys, ws, ⟨s1, s2⟩, (List.getElem?_eq_some_iff.mp y1).1, (List.getElem?_eq_some_iff.mp w1).1⟩, ?_⟩
  rintro v H' ⟨p, y', w', ⟨rfl, hp, rfl⟩, yd, yd'⟩
  have e1 := yd ys s1
  have e2 := yd' ws s2
  rw [y1] at e1; cases e1
  rw [w1] at e2; cases e2
  exact put_tup R hp (RepL.cons y2 (RepL.one w2))
end
end Py

set_option linter.all false
set_option Elab.async false
set_option maxRecDepth 100000
set_option maxHeartbeats 2000017
/-! Targets. -/
namespace Py
open L2 PyProof.Rows PySem.Spec PySem
section
variable {T : Tx} {G G' : Gh}
theorem slot_get : ∀ {i : Nat} {σ : Env}, slot i σ = (σ[i]?).join
  | i, [] => by cases i <;> rfl
  | 0, x :: r => rfl
  | i + 1, x :: r => by
    show slot i r = _
    rw [slot_get]; simp
theorem RepS.of : ∀ {σe : Env} {σ : L2.St}, σe.length = σ.length → (∀ i v, slot i σe = some v → ∃ w, σ[i]? = some (some w) ∧ RepV T G v w) → RepS T G σe σ
  | [], [], _, _ => rfl
  | x :: r, y :: q, hl, h => by
    refine ⟨y, q, rfl, fun v e => ?_, RepS.of (by simpa using hl) fun i v e => ?_⟩
    · obtain ⟨w, e1, e2⟩ := h 0 v (by rw [← e]; rfl)
      exact ⟨w, by simpa using e1, e2⟩
    · obtain ⟨w, e1, e2⟩ := h (i + 1) v (by rw [← e]; rfl)
      exact ⟨w, by simpa using e1, e2⟩
theorem slot_setS : ∀ {i j : Nat} {v : Option PV} {σ : Env}, slot i (setS j v σ) = if i = j ∧ j < σ.length then v else slot i σ
  | i, j, v, [] => by cases i <;> cases j <;> simp [setS, slot]
  | 0, 0, v, x :: r => by simp
  | i + 1, 0, v, x :: r => by simp
  | 0, j + 1, v, x :: r => by simp
  | i + 1, j + 1, v, x :: r => by
    rw [setS_s, slot_s, slot_s, slot_setS]
    simp
theorem setS_len : ∀ {j : Nat} {v : Option PV} {σ : Env}, (setS j v σ).length = σ.length
  | j, v, [] => by cases j <;> rfl
  | 0, v, x :: r => rfl
  | j + 1, v, x :: r => by simp [setS_len]
/-- all but the slots at is -/
def RepB (T : Tx) (G : Gh) (is : List Nat) (σe : Env) (σ : L2.St) : Prop := σe.length = σ.length ∧ ∀ i v, slot i σe = some v → i ∉ is → ∃ w, σ[i]? = some (some w) ∧ RepV T G v w
theorem RepB.nil {σe : Env} {σ : L2.St} (r : RepB T G [] σe σ) : RepS T G σe σ := RepS.of r.1 fun i v e => r.2 i v e (by simp)
theorem RepS.b {is : List Nat} {σe : Env} {σ : L2.St} (r : RepS T G σe σ) : RepB T G is σe σ := ⟨r.length, fun i v e _ => r.get e⟩
theorem RepB.le {is : List Nat} {σe : Env} {σ : L2.St} (q : Le G G') (r : RepB T G is σe σ) : RepB T G' is σe σ := ⟨r.1, fun i v e n => let ⟨w, a, b⟩ := r.2 i v e n; ⟨w, a, b.le q⟩⟩
theorem RepB.set {i : Nat} {is : List Nat} {σe : Env} {σ : L2.St} {x : PV} {y : V} (r : RepB T G (i :: is) σe σ) (rx : RepV T G x y) : RepB T G is (setS i (some x) σe) (σ.set i (some y)) := by
  refine ⟨by rw [setS_len, List.length_set]; exact r.1, fun j v e n => ?_⟩
  rw [slot_setS] at e
  split at e
  · rename_i h
    cases e
    obtain ⟨rfl, h2⟩ := h
    exact ⟨y, by rw [List.getElem?_set_self (by rw [← r.1]; exact h2)], rx⟩
  · rename_i h
    by_cases hj : j = i
    · subst hj
      have hl : ¬ j < σe.length := fun z => h ⟨rfl, z⟩
      exfalso
      have : slot j σe = none := by rw [slot_get, List.getElem?_eq_none (by omega)]; rfl
      rw [this] at e; cases e
    · rw [List.getElem?_set_ne (fun z => hj z.symm)]
      exact r.2 j v e (by simp [hj, n])
theorem RepS.wiped {vs : List Nat} {σe : Env} {σ : L2.St} (r : RepS T G σe σ) : RepB T G vs σe (wipe σ vs) := by
  refine ⟨by rw [wipe_length]; exact r.length, fun i v e n => ?_⟩
  obtain ⟨w, a, b⟩ := r.get e
  exact ⟨w, by rw [wipe_out' n]; exact a, b⟩
where
  wipe_out' {σ : L2.St} {i : Nat} : ∀ {vs : List Nat}, i ∉ vs → (wipe σ vs)[i]? = σ[i]?
    | [], _ => rfl
    | v :: vs, h => by
      unfold wipe
      rw [List.getElem?_set_ne (by rintro rfl; exact h (List.mem_cons_self ..))]
      exact wipe_out' fun z => h (List.mem_cons_of_mem _ z)
theorem wipe_get {σ : L2.St} {i : Nat} : ∀ {vs : List Nat}, (wipe σ vs)[i]? = if i ∈ vs ∧ i < σ.length then some none else σ[i]?
  | [] => by simp [wipe]
  | v :: vs => by
    unfold wipe
    by_cases h : v = i
    · subst h
      by_cases hl : v < σ.length
      · rw [List.getElem?_set_self (by rw [wipe_length]; exact hl)]; simp [hl]
      · rw [List.getElem?_eq_none (by rw [List.length_set, wipe_length]; omega), List.getElem?_eq_none (by omega)]; simp [hl]
    · rw [List.getElem?_set_ne h, wipe_get]
      have : i ≠ v := fun z => h z.symm
      simp [this]
/-- sets within the wiped slots do not matter -/
theorem wipe_set {σ : L2.St} {vs : List Nat} {i : Nat} {y : Option V} (hi : i ∈ vs) : wipe (σ.set i y) vs = wipe σ vs := by
  apply List.ext_getElem?
  intro j
  rw [wipe_get, wipe_get, List.length_set]
  by_cases h : j ∈ vs ∧ j < σ.length
  · rw [if_pos h, if_pos h]
  · rw [if_neg h, if_neg h]
    by_cases hj : i = j
    · subst hj
      have hl : ¬ i < σ.length := fun z => h ⟨hi, z⟩
      rw [List.getElem?_eq_none (by simpa using hl), List.getElem?_eq_none (by omega)]
    · rw [List.getElem?_set_ne hj]
theorem wipe_wipe {σ : L2.St} {vs : List Nat} : wipe (wipe σ vs) vs = wipe σ vs := by
  apply List.ext_getElem?
  intro j
  rw [wipe_get, wipe_get, wipe_length]
  split <;> rfl
/-! the readings -/
def gNs : List Nat → TGs
  | [] => gNil
  | i :: is => gCons (gName i) (gNs is)
def gOf (K : PySem.W.Frag) : Py.T → TG
  | .v i => gName i
  | .t is => gTup K is.length (gNs is)
theorem gNs_ok {H : Hp} {Q : L2.St → Hp → Prop} : ∀ {is : List Nat} {js : List Nat} {xs : List PV} {ys : List V} {σe : Env} {σ : L2.St}, RepL T G xs ys → xs.length = is.length → RepB T G (is ++ js) σe σ →
    (∀ σ', (∀ vs, (∀ i ∈ is, i ∈ vs) → wipe σ' vs = wipe σ vs) → RepB T G js ((is.zip xs).foldl (fun σ p => setS p.1 (some p.2) σ) σe) σ' → Q σ' H) → gNs is ys σ H Q
  | [], js, [], ys, σe, σ, r, hl, rb, k => ⟨r, k σ (fun _ _ => rfl) rb⟩
  | [], js, _ :: _, ys, σe, σ, r, hl, rb, k => by cases hl
  | _ :: _, js, [], ys, σe, σ, r, hl, rb, k => by cases hl
  | i :: is, js, x :: xs, ys, σe, σ, r, hl, rb, k => by
    obtain ⟨y, q, rfl, h1, t1⟩ := r
    refine ⟨y, q, rfl, ?_⟩
    exact gNs_ok (js := js) (is := is) (xs := xs) (σe := setS i (some x) σe) (σ := σ.set i (some y)) t1 (by simpa using hl) (RepB.set rb h1) fun σ' w rb' => k σ' (fun vs hv => by
      rw [w vs fun j hj => hv j (List.mem_cons_of_mem _ hj)]
      exact wipe_set (hv i (List.mem_cons_self ..))) rb'
theorem gOf_ok {H : Hp} {h : EH} (R : Rel T G h H) {Q : L2.St → Hp → Prop} {t : Py.T} {x : PV} {v : V} {σe σe' : Env} {σ : L2.St} (rx : RepV T G x v) (e : setT t x σe = some σe') (rb : RepB T G t.ix σe σ)
    (k : ∀ σ', wipe σ' t.ix = wipe σ t.ix → RepS T G σe' σ' → Q σ' H) : gOf T.K t v σ H Q := by
  cases t with
  | v i =>
    cases e
    exact k _ (wipe_set (by simp [Py.T.ix])) (RepB.nil (RepB.set rb rx))
  | t is =>
    unfold setT at e
    dsimp only at e
    cases x with
    | tup xs =>
      dsimp only at e
      split at e
      · rename_i hl
        cases e
        obtain ⟨a, ys, rfl, s, r⟩ := rx
        refine ⟨a, ys, rfl, SqT.ext R s.sq, by rw [← r.length, hl], ?_⟩
        exact gNs_ok (js := []) r hl (by rw [List.append_nil]; exact rb) fun σ' w rb' => k σ' (w _ fun i hi => hi) rb'.nil
      · cases e
    | _ => cases e
end
section
variable {X : Cx} {N : List Str} {sc : Scope}
theorem mtL_ok (hN : X.N = N) (hs : X.env.scope = sc) {i : Nat} {x : Str} (m : mtL N sc i x = true) : X.N[i]? = some x ∧ X.env.scope.names.lookup x = some .local ∧ Loc X.env.scope x := by
  unfold mtL at m
  rw [Bool.and_eq_true, Bool.and_eq_true] at m
  have h1 := of_decide_eq_true m.1.1
  have h2 : sc.names.lookup x = some .local := by
    have := m.1.2
    unfold locB at this
    split at this
    · assumption
    · cases this
  rw [hN, hs]
  exact ⟨h1, h2, .inl h2⟩
theorem pgs_go (nd : X.N.Nodup) (hN : X.N = N) (hs : X.env.scope = sc) : ∀ {is : List Nat} {es : List Expr}, mtT.go N sc is es = true → PGs X es (gNs is) ∧ (assignEach es X.env).length = is.length ∧ (assignEach es X.env).findIdx? (·.1) = none
  | [], [], _ => ⟨pgs_nil, rfl, rfl⟩
  | [], _ :: _, m => by cases m
  | _ :: _, [], m => by cases m
  | i :: is, e :: es, m => by
    cases e with
    | Name x p =>
      have m : (mtL N sc i x && mtT.go N sc is es) = true := m
      rw [Bool.and_eq_true] at m
      obtain ⟨a, b, c⟩ := mtL_ok hN hs m.1
      obtain ⟨d, e, f⟩ := pgs_go nd hN hs m.2
      refine ⟨pgs_cons (pg_name nd a c (.inr b)) d, ?_, ?_⟩
      · show (_ :: assignEach es X.env).length = _
        rw [List.length_cons, e]; rfl
      · show (((false, _) :: assignEach es X.env).findIdx? (·.1)) = none
        rw [List.findIdx?_cons]
        simp [f]
    | _ => cases m
theorem pg_of (nd : X.N.Nodup) (hN : X.N = N) (hs : X.env.scope = sc) (hc : X.calm = true) {t : Py.T} {p : Expr} (m : mtT N sc t p = true) : PG X p (gOf X.K t) := by
  cases t with
  | v i =>
    cases p with
    | Name x pos =>
      obtain ⟨a, b, c⟩ := mtL_ok hN hs m
      exact pg_name nd a c (.inr b)
    | _ => cases m
  | t is =>
    cases p with
    | Tuple es k pos =>
      obtain ⟨a, b, c⟩ := pgs_go nd hN hs m
      exact pg_tup hc a b c
    | _ => cases m
theorem mtLc_ok (hN : X.N = N) (hs : X.env.scope = sc) (hf : ∀ x, X.fn x = true) {i : Nat} {x : Str} (m : mtLc N sc i x = true) : X.N[i]? = some x ∧ (X.fn x = true ∨ X.env.scope.names.lookup x = some .local) ∧ Loc X.env.scope x := by
  unfold mtLc at m
  rw [Bool.and_eq_true, Bool.and_eq_true] at m
  have h1 := of_decide_eq_true m.1.1
  have h2 : Loc sc x := by
    rcases (Bool.or_eq_true _ _).mp m.1.2 with q | q
    · unfold locB at q
      split at q
      · exact .inl (by assumption)
      · cases q
    · unfold cellB at q
      split at q
      · exact .inr (by assumption)
      · cases q
  rw [hN, hs]
  exact ⟨h1, .inl (hf x), h2⟩
theorem pgs_goc (nd : X.N.Nodup) (hN : X.N = N) (hs : X.env.scope = sc) (hf : ∀ x, X.fn x = true) : ∀ {is : List Nat} {es : List Expr}, mtTc.go N sc is es = true → PGs X es (gNs is) ∧ (assignEach es X.env).length = is.length ∧ (assignEach es X.env).findIdx? (·.1) = none
  | [], [], _ => ⟨pgs_nil, rfl, rfl⟩
  | [], _ :: _, m => by cases m
  | _ :: _, [], m => by cases m
  | i :: is, e :: es, m => by
    cases e with
    | Name x p =>
      have m : (mtLc N sc i x && mtTc.go N sc is es) = true := m
      rw [Bool.and_eq_true] at m
      obtain ⟨a, b, c⟩ := mtLc_ok hN hs hf m.1
      obtain ⟨d, e, f⟩ := pgs_goc nd hN hs hf m.2
      refine ⟨pgs_cons (pg_name nd a c b) d, ?_, ?_⟩
      · show (_ :: assignEach es X.env).length = _
        rw [List.length_cons, e]; rfl
      · show (((false, _) :: assignEach es X.env).findIdx? (·.1)) = none
        rw [List.findIdx?_cons]
        simp [f]
    | _ => cases m
theorem pg_ofc (nd : X.N.Nodup) (hN : X.N = N) (hs : X.env.scope = sc) (hf : ∀ x, X.fn x = true) (hc : X.calm = true) {t : Py.T} {p : Expr} (m : mtTc N sc t p = true) : PG X p (gOf X.K t) := by
  cases t with
  | v i =>
    cases p with
    | Name x pos =>
      obtain ⟨a, b, c⟩ := mtLc_ok hN hs hf m
      exact pg_name nd a c b
    | _ => cases m
  | t is =>
    cases p with
    | Tuple es k pos =>
      obtain ⟨a, b, c⟩ := pgs_goc nd hN hs hf m
      exact pg_tup hc a b c
    | _ => cases m
theorem mtT_ix {t : Py.T} {p : Expr} (m : mtT N sc t p = true) : (t.ix.filterMap fun i => (N[i]?).map fun x => (x, i)).map (·.2) = t.ix := by
  have go : ∀ {is : List Nat} {es : List Expr}, mtT.go N sc is es = true → (is.filterMap fun i => (N[i]?).map fun x => (x, i)).map (·.2) = is := by
    intro is
    induction is with
    | nil => intro es _; rfl
    | cons i is ih =>
      intro es m
      match es, m with
      | .Name x p :: es, m =>
        have m : (mtL N sc i x && mtT.go N sc is es) = true := m
        rw [Bool.and_eq_true] at m
        have h1 : N[i]? = some x := by
          have := m.1
          unfold mtL at this
          rw [Bool.and_eq_true, Bool.and_eq_true] at this
          exact of_decide_eq_true this.1.1
        rw [List.filterMap_cons, h1]
        show i :: _ = _
        rw [ih m.2]
  cases t with
  | v i =>
    cases p with
    | Name x pos =>
      have h1 : N[i]? = some x := by
        have m : mtL N sc i x = true := m
        unfold mtL at m
        rw [Bool.and_eq_true, Bool.and_eq_true] at m
        exact of_decide_eq_true m.1.1
      show (([i]).filterMap _).map _ = _
      rw [List.filterMap_cons, h1]
      rfl
    | _ => cases m
  | t is =>
    cases p with
    | Tuple es k pos => exact go m
    | _ => cases m
end
end Py

set_option linter.all false
set_option Elab.async false
set_option maxRecDepth 100000
set_option maxHeartbeats 2000017
/-! Comprehensions. -/
namespace Py
open L2 PyProof.Rows PySem.Spec PySem
section
variable {T : Tx} {G : Gh} {h : EH} {H : Hp} {D : Addr}
theorem Ev.adopt {G1 : Gh} {H1 : Hp} (x : Ev G H G1 H1) (n : H D = none) : Ev G H (G1.push D) H1 := ⟨x.le.trans Le.push, fun k a e => (mget_push e).elim (fun ⟨_, z⟩ => .inr (z ▸ n)) (x.new k a), x.keep, x.stay, x.newF⟩
theorem Rel.adopt {o : EO} (R : Rel T G h H) (f : G.F D = none) (nm : ∀ k, mget k G.m ≠ some D) (hp : ∃ u, H D = some u) (r : RepO T (G.push D) D H o) : Rel T (G.push D) (o :: h) H := by
  refine ⟨fun a u e => R.ext a u e, by show (D :: G.m).length = _; simp [R.len], fun i ob e => ?_, fun i j a e1 e2 => ?_, fun i a e => ?_⟩
  · rw [hget_cons] at e
    split at e
    · rename_i z
      cases e
      exact ⟨D, by show mget i (D :: G.m) = _; unfold mget; rw [if_pos (by rw [z, R.len])], r⟩
    · obtain ⟨a, e1, q⟩ := R.ob i ob e
      exact ⟨a, Le.push.mget e1, q.le Le.push (fun f => f) rfl⟩
  · rcases mget_push (m := G.m) e1 with ⟨z1, w1⟩ | e3
    · rcases mget_push (m := G.m) e2 with ⟨z2, w2⟩ | e4
      · rw [z1, z2]
      · rw [w1] at e4; exact absurd e4 (nm j)
    · rcases mget_push (m := G.m) e2 with ⟨z2, w2⟩ | e4
      · rw [w2] at e3; exact absurd e3 (nm i)
      · exact R.inj i j a e3 e4
  · rcases mget_push e with ⟨_, rfl⟩ | e
    · exact hp
    · exact R.here i a e
end
section
variable {T : Tx} {σ : L2.St} {W : L2.WX} {G1 : Gh} {h1 : EH} {H1 : Hp} {Q : VK} {f : PV → EH → Res (Option PV)} {q : Src} {xs : List PV} {mu : Bool} {J : It} {g : TG} {tt : TT} {te : TE} {vs : List Nat}
def optC : Option PV → List PV → List PV
  | some v, vs => v :: vs
  | none, vs => vs
open Classical in
theorem lcL_nil' {h : EH} : lcL f q [] h = if q.ok h then .ok [] h else .stuck := by unfold lcL; rfl
open Classical in
theorem lcL_cons' {x : PV} {r : List PV} {h : EH} : lcL f q (x :: r) h = if q.ok h then (match f x h with
    | .ok v h => (lcL f q r h).bind fun vs h => .ok (optC v vs) h
    | _ => .stuck) else .stuck := by
  conv => lhs; unfold lcL
  split
  · cases e : f x h with
    | ok v h2 =>
      dsimp only
      cases v <;> rfl
    | err x h2 => rfl
    | stuck => rfl
  · rfl
/-- what follows knows that the list is short -/
theorem lcL_len {r : List PV} {h : EH} {pre : List PV} {K : PV → EH → Gh → Hp → Prop} (o : OkR T σ W G1 H1 ((lcL f q r h).bind fun ys h => newL mu (pre ++ ys) h) K) : pre.length ≤ big := by
  have ne : ∀ {r : List PV} {h : EH} {x : Exc} {h' : EH}, lcL f q r h ≠ .err x h' := by
    intro r
    induction r with
    | nil => intro h x h' e; rw [lcL_nil'] at e; split at e <;> cases e
    | cons y r ih =>
      intro h x h' e
      rw [lcL_cons'] at e
      split at e
      · split at e
        · rename_i v h2 _
          cases z : lcL f q r h2 with
          | ok a b => rw [z] at e; cases e
          | err a b => exact ih z
          | stuck => rw [z] at e; cases e
        · cases e
      · cases e
  cases z : lcL f q r h with
  | ok ys h2 =>
    rw [z] at o
    have o : OkR T σ W G1 H1 (newL mu (pre ++ ys) h2) K := o
    unfold newL at o
    split at o
    · rename_i hl; rw [List.length_append] at hl; omega
    · exact o.elim
  | err x h2 => exact absurd z ne
  | stuck => rw [z] at o; exact o.elim
theorem lc_run (j : JOk T G1 J q xs) (R1 : Rel T G1 h1 H1) (o : OkR T σ W G1 H1 ((lcL f q xs h1).bind fun ys h => newL mu ys h) (KV T Q))
    (step : ∀ x v G h H r h2, Le G1 G → Rel T G h H → RepV T G x v → f x h = .ok r h2 → ∀ Kc : Option V → Hp → Prop, (∀ G' H', Ev G H G' H' → Rel T G' h2 H' → (match r with
      | none => Kc none H'
      | some y => ∀ w, RepV T G' y w → Kc (some w) H')) → g v (wipe σ vs) H fun σ2 H2 => wipe σ2 vs = wipe σ vs ∧ tt σ2 H2 fun b H3 => if b = true then te σ2 H3 fun y H4 => Kc (some y) H4 else Kc none H3)
    (D : Addr) (hD : H1 D = none) : ∃ W : Nat → Nat → Hp → Prop, (∃ m, W 0 m (upd H1 D (.lst []))) ∧ ∀ i m H, W i m H → (J.stop i H ∧ Q (.ref D) H) ∨ (J.go i H ∧ ∃ Nx : Hp → Prop, (∀ H', Nx H' → ∃ m', m' < m ∧ W (i + 1) m' H') ∧
      ∀ x H', J.yld i H x H' → g x (wipe σ vs) H' fun σ2 H2 => wipe σ2 vs = wipe σ vs ∧ tt σ2 H2 fun b H3 => if b = true then te σ2 H3 fun y H4 => ∃ acc, H4 D = some (.lst acc) ∧ acc.length < sizeLine ∧ Nx (upd H4 D (.lst (acc ++ [y]))) else Nx H3) := by
  let Wt : Nat → Nat → Hp → Prop := fun i m H => m = xs.length - i ∧ i ≤ xs.length ∧ ∃ G h acc done, Ev G1 H1 G H ∧ Rel T G h H ∧ H D = some (.lst acc) ∧ RepL T G done acc ∧ G.F D = none ∧ (∀ k, mget k G.m ≠ some D) ∧
    OkR T σ W G1 H1 ((lcL f q (xs.drop i) h).bind fun ys h => newL mu (done ++ ys) h) (KV T Q)
  obtain ⟨fD, mD⟩ := R1.fresh hD
  refine ⟨Wt, ⟨xs.length, rfl, Nat.zero_le _, G1, h1, [], [], (Ev.refl _ _).aside hD, R1.aside fD mD, upd_same, rfl, fD, mD, o⟩, ?_⟩
  rintro i m H ⟨rfl, hi, G, h, acc, done, ev, R, hDD, rl, fD, mD, o⟩
  by_cases hlt : i < xs.length
  · obtain ⟨x, hx⟩ : ∃ x, xs[i]? = some x := ⟨xs[i], by simp [hlt]⟩
    have hdrop : xs.drop i = x :: xs.drop (i + 1) := by
      rw [List.drop_eq_getElem_cons (h := hlt)]
      have : xs[i] = x := by simpa [hlt] using hx
      rw [this]
    rw [hdrop, lcL_cons'] at o
    split at o
    · rename_i ok
      cases hf : f x h with
      | ok r h2 =>
        rw [hf] at o
        have o : OkR T σ W G1 H1 ((lcL f q (xs.drop (i + 1)) h2).bind fun ys h => newL mu (done ++ optC r ys) h) (KV T Q) := by
          dsimp only at o
          rw [bind_bind] at o
          exact o
        obtain ⟨jg, jy⟩ := (j G h H ev.le R ok i).1 x hx
        refine .inr ⟨jg, Wt (i + 1) (xs.length - (i + 1)), fun H' w => ⟨_, by omega, w⟩, fun v H' yd => ?_⟩
        obtain ⟨G', e', R', rv⟩ := jy v H' yd
        obtain ⟨d1, d2, d3⟩ := e'.unk hDD fD mD
        refine step x v G' h H' r h2 (ev.le.trans e'.le) R' rv hf (fun r H3 => match r with
          | none => Wt (i + 1) (xs.length - (i + 1)) H3
          | some y => ∃ acc, H3 D = some (.lst acc) ∧ acc.length < sizeLine ∧ Wt (i + 1) (xs.length - (i + 1)) (upd H3 D (.lst (acc ++ [y])))) fun G3 H3 e3 R3 => ?_
        obtain ⟨d4, d5, d6⟩ := e3.unk d1 d2 d3
        have eall : Ev G1 H1 G3 H3 := (ev.trans e').trans e3
        cases r with
        | none => exact ⟨rfl, hlt, G3, h2, acc, done, eall, R3, d4, (rl.le e'.le).le e3.le, d5, d6, o⟩
        | some y =>
          intro w rw_
          have o : OkR T σ W G1 H1 ((lcL f q (xs.drop (i + 1)) h2).bind fun ys h => newL mu ((done ++ [y]) ++ ys) h) (KV T Q) := by
            have : (fun (ys : List PV) (h : EH) => newL mu ((done ++ [y]) ++ ys) h) = fun ys h => newL mu (done ++ optC (some y) ys) h := by
              funext ys h
              show _ = newL mu (done ++ (y :: ys)) h
              rw [List.append_assoc]; rfl
            rw [this]; exact o
          have hl := lcL_len o
          simp only [List.length_append, List.length_singleton] at hl
          refine ⟨acc, d4, ?_, rfl, hlt, G3, h2, acc ++ [w], done ++ [y], eall.aside hD, R3.aside d5 d6, upd_same, ((rl.le e'.le).le e3.le).append (RepL.one rw_), d5, d6, o⟩
          have := rl.length
          have := big_le
          omega
      | err x h2 => rw [hf] at o; exact o.elim
      | stuck => rw [hf] at o; exact o.elim
    · exact o.elim
  · obtain e : i = xs.length := by omega
    subst e
    rw [List.drop_length, lcL_nil'] at o
    split at o
    · rename_i ok
      refine .inl ⟨(j G h H ev.le R ok _).2 (Nat.le_refl _), ?_⟩
      have o : OkR T σ W G1 H1 (newL mu (done ++ []) h) (KV T Q) := o
      rw [List.append_nil] at o
      unfold newL at o
      split at o
      · cases mu with
        | false => exact o _ _ (ev.keepF (u := .lst acc) fD hD) (R.keepF fD mD hDD) (.ref D) (RepV.list (rl.le (Le.put fD)))
        | true => exact o _ _ (ev.adopt hD) (R.adopt fD mD ⟨_, hDD⟩ ⟨fD, acc, hDD, rl.le Le.push⟩) (.ref D) ⟨D, rfl, by
            show mget h.length (D :: G.m) = some D
            rw [← R.len]
            exact mget_top (e := [])⟩
      · exact o.elim
    · exact o.elim
end
end Py

set_option linter.all false
set_option Elab.async false
set_option maxRecDepth 100000
set_option maxHeartbeats 4000017
/-! The evaluator's expressions are the model's. -/
namespace Py
open L2 PyProof.Rows PySem.Spec PySem
abbrev KB (Q : Bool → Hp → Prop) : Bool → EH → Gh → Hp → Prop := fun b _ _ H' => Q b H'
abbrev KL (T : Tx) (Q : List V → Hp → Prop) : List PV → EH → Gh → Hp → Prop := fun xs _ G' H' => ∀ ys, RepL T G' xs ys → Q ys H'
abbrev KK (T : Tx) (ns : List Nm) (Q : List V → Hp → Prop) : List (Nm × PV) → EH → Gh → Hp → Prop := fun xs _ G' H' => xs.map (·.1) = ns → ∀ ys, RepL T G' (xs.map (·.2)) ys → Q ys H'
section
variable {T : Tx} {P : Prog} {d : Nat} {X : Cx} {M : Mt} {W : L2.WX} {pins : List (Addr × Obj)} {σ : L2.St} {σe : Env} {H : Hp} {s : Shared} {G : Gh} {h : EH} {Q : VK}
theorem OkR.q {α : Type} {r : Res PV} {f : PV → EH → Res α} {K : α → EH → Gh → Hp → Prop} (o : OkR T σ W G H (r.bind f) K) : OkR T σ W G H r (KV T fun y H1 => ∃ x h1 G1, Ev G H G1 H1 ∧ Rel T G1 h1 H1 ∧ RepV T G1 x y ∧ OkR T σ W G1 H1 (f x h1) K) :=
  OkR.imp (OkR.bnd o) fun x h1 G1 H1 e R o y ry => ⟨x, h1, G1, e, R, ry, o⟩
theorem OkR.qT {α : Type} {r : Res Bool} {f : Bool → EH → Res α} {K : α → EH → Gh → Hp → Prop} (o : OkR T σ W G H (r.bind f) K) : OkR T σ W G H r (KB fun b H1 => ∃ h1 G1, Ev G H G1 H1 ∧ Rel T G1 h1 H1 ∧ OkR T σ W G1 H1 (f b h1) K) :=
  OkR.imp (OkR.bnd o) fun x h1 G1 H1 e R o => ⟨h1, G1, e, R, o⟩
theorem OkR.qL {α : Type} {r : Res (List PV)} {f : List PV → EH → Res α} {K : α → EH → Gh → Hp → Prop} (o : OkR T σ W G H (r.bind f) K) : OkR T σ W G H r (KL T fun ys H1 => ∃ xs h1 G1, Ev G H G1 H1 ∧ Rel T G1 h1 H1 ∧ RepL T G1 xs ys ∧ OkR T σ W G1 H1 (f xs h1) K) :=
  OkR.imp (OkR.bnd o) fun x h1 G1 H1 e R o y ry => ⟨x, h1, G1, e, R, ry, o⟩
theorem OkR.qK {α : Type} {ns : List Nm} {r : Res (List (Nm × PV))} {f : List (Nm × PV) → EH → Res α} {K : α → EH → Gh → Hp → Prop} (o : OkR T σ W G H (r.bind f) K) : OkR T σ W G H r (KK T ns fun ys H1 => ∃ xs h1 G1, Ev G H G1 H1 ∧ Rel T G1 h1 H1 ∧ xs.map (·.1) = ns ∧ RepL T G1 (xs.map (·.2)) ys ∧ OkR T σ W G1 H1 (f xs h1) K) :=
  OkR.imp (OkR.bnd o) fun x h1 G1 H1 e R o hn y ry => ⟨x, h1, G1, e, R, hn, ry, o⟩
end
theorem tyL_bu : ∀ n ∈ tyL, n ∈ buL := by decide
theorem tyL_boot : ∀ n ∈ tyL, bootBuiltins (Str.ofString n) = some (.type n) := by
  intro n h
  simp [tyL] at h
  rcases h with rfl | rfl | rfl | rfl | rfl | rfl <;> decide +kernel
theorem bu_in (f : Bu) : f.nm ∈ buL := by cases f <;> decide
theorem bu_boot (f : Bu) : bootBuiltins (Str.ofString f.nm) = some f.val := by cases f <;> decide +kernel
theorem mt_stars {st : Nm → Str} {gl cl : Nm → Bool} {N : List Str} {sc : Scope} {env : PySem.Env} : ∀ {es : List E} {ps : List Expr}, mtEs st gl cl N sc es ps = true → ∀ pos, (backTo pos (starEach ps env)).any (·.1) = false ∧ (backTo pos (starEach ps env)).all (!·.1) = true
  | [], [], _, pos => ⟨rfl, rfl⟩
  | [], _ :: _, m, _ => Bool.noConfusion m
  | _ :: _, [], m, _ => Bool.noConfusion m
  | e :: es, p :: ps, m, pos => by
    have m : (mtE st gl cl N sc e p && mtEs st gl cl N sc es ps) = true := m
    rw [Bool.and_eq_true] at m
    obtain ⟨h1, h2⟩ := mt_stars (env := env) m.2 pos
    rw [plain_star (mt_plain m.1)]
    exact ⟨by show (false || (backTo pos (starEach ps env)).any (·.1)) = false; rw [h1]; rfl, by show (true && (backTo pos (starEach ps env)).all (!·.1)) = true; rw [h2]; rfl⟩
theorem mt_kws {st : Nm → Str} {gl cl : Nm → Bool} {N : List Str} {sc : Scope} {env : PySem.Env} : ∀ {es : List (Nm × E)} {ps : List Keyword}, mtKs st gl cl N sc es ps = true → ∀ pos, (backToKw pos (keywordEach ps env)).all (·.1.isSome) = true ∧ (backToKw pos (keywordEach ps env)).any (·.1.isNone) = false ∧ (backToKw pos (keywordEach ps env)).filterMap (·.1) = es.map fun q => st q.1
  | [], [], _, pos => ⟨rfl, rfl, rfl⟩
  | [], _ :: _, m, _ => Bool.noConfusion m
  | _ :: _, [], m, _ => Bool.noConfusion m
  | (n, e) :: es, ⟨none, x, kp⟩ :: ps, m, _ => Bool.noConfusion m
  | (n, e) :: es, ⟨some y, x, kp⟩ :: ps, m, pos => by
    have m : (decide (st n = y) && mtE st gl cl N sc e x && mtKs st gl cl N sc es ps) = true := m
    rw [Bool.and_eq_true, Bool.and_eq_true] at m
    obtain ⟨h1, h2, h3⟩ := mt_kws (env := env) m.2 pos
    have hy := of_decide_eq_true m.1.1
    subst hy
    refine ⟨h1, h2, ?_⟩
    show _ :: (backToKw pos (keywordEach ps env)).filterMap (·.1) = _
    rw [h3]
    rfl
section
variable {T : Tx} {P : Prog} {d : Nat} {X : Cx} {M : Mt} {W : L2.WX} {pins : List (Addr × Obj)} {σ : L2.St} {σe : Env} {H : Hp} {s : Shared} {G : Gh} {h : EH} {Q : VK}
theorem lnk_ok {o : CO} {x y : PV} {Qb : Bool → Hp → Prop} (q : OkR T σ W G H (lnk o x y h) (KB Qb)) : (o = .lt ∨ o = .le ∨ o = .gt ∨ o = .ge) ∧ OkR T σ W G H (ordR (cx P d) o x y h) (KV T fun z H' => ∃ b, z = .bl b ∧ Qb b H') := by
  cases x with
  | int i =>
    cases y with
    | int j =>
      cases o with
      | lt => exact ⟨.inl rfl, fun G2 H2 e R y ry => by cases ry; exact ⟨_, rfl, q G2 H2 e R⟩⟩
      | le => exact ⟨.inr (.inl rfl), fun G2 H2 e R y ry => by cases ry; exact ⟨_, rfl, q G2 H2 e R⟩⟩
      | gt => exact ⟨.inr (.inr (.inl rfl)), fun G2 H2 e R y ry => by cases ry; exact ⟨_, rfl, q G2 H2 e R⟩⟩
      | ge => exact ⟨.inr (.inr (.inr rfl)), fun G2 H2 e R y ry => by cases ry; exact ⟨_, rfl, q G2 H2 e R⟩⟩
      | _ => exact q.elim
    | _ => exact q.elim
  | _ => exact q.elim
theorem bind_pure {α : Type} (r : Res α) : (r.bind fun v h => .ok v h) = r := by cases r <;> rfl
theorem SE.mono {pe : Expr} {Q Q' : VK} (a : SE X pe σ H Q) (h : ∀ y H', Q y H' → Q' y H') : SE X pe σ H Q' := fun pins s I => thn (a pins s I) fun u s1 ⟨v, H1, I1, r1, q⟩ => ⟨v, H1, I1, r1, h v H1 q⟩
theorem OkR.valB {b : Bool} {Qb : Bool → Hp → Prop} (o : OkR T σ W G H (.ok b h) (KB Qb)) (R : Rel T G h H) : Qb b H := o G H (Ev.refl _ _) R
/-- a method's call -/
theorem meth_tree {o : Expr} {name : Str} {apos pos : Pos} {args : List Expr} {kws : List Keyword} {Q : Value → Shared → Prop} (hbase : attributeBase o name X.env (eval o X.env) = eval o X.env)
    (hfew : methodCallForm (args.length + kws.length) (backTo pos (starEach args X.env)) (backToKw pos (keywordEach kws X.env)) = true) (hline : (apos.endLine == pos.line) = true)
    (h : wpAny (model X.prog X.w) X.A (eval o X.env) (fun ov s1 => wpAny (model X.prog X.w) X.A (getMethod ov name (do return (← importBound o X.env).getD true)) (fun fx s2 => wpAny (model X.prog X.w) X.A (callWith pos fx.1 fx.2 (backTo pos (starEach args X.env)) (backToKw pos (keywordEach kws X.env))) Q X.xe s2) X.xe s1) X.xe s) :
    wpAny (model X.prog X.w) X.A (eval (.Call (.Attribute o name apos) args kws pos) X.env) Q X.xe s := by
  rw [arm_eval_Call, hbase]
  refine wpAny_bind (wpAny_mono h (fun ov s1 h1 => wpAny_bind (wpAny_standAt ?_)) fun _ _ e => e)
  have hpos : methodCallPos true o X.env apos pos = pure pos := by unfold methodCallPos; simp [hline]
  unfold methodCall
  rw [hfew]
  refine wpAny_bind (wpAny_holding (wpAny_mono h1 (fun fx s2 h2 => ?_) fun _ _ e => e))
  exact wpAny_bind (wpAny_of_eq hpos h2)
theorem mtI_plain {st : Nm → Str} {gl cl : Nm → Bool} {N : List Str} {sc : Scope} {it : I} {p t : Expr} (m : mtI st gl cl N sc it p t = true) : plainX p = true := by
  cases it with
  | seq a => exact mt_plain m
  | enum a => cases p <;> first | rfl | (cases t <;> exact Bool.noConfusion m)
  | zip a b => cases p <;> first | rfl | (cases t <;> exact Bool.noConfusion m)
  | range es => cases p <;> first | rfl | exact Bool.noConfusion m
theorem mt_head {st : Nm → Str} {gl cl : Nm → Bool} {N : List Str} {sc : Scope} {es : List E} {ps : List Expr} (m : mtEs st gl cl N sc es ps = true) : ∀ p r, ps = p :: r → plainX p = true := by
  rintro p r rfl
  cases es with
  | nil => exact Bool.noConfusion m
  | cons e es =>
    have m : (mtE st gl cl N sc e p && mtEs st gl cl N sc es r) = true := m
    rw [Bool.and_eq_true] at m
    exact mt_plain m.1
theorem mt_nil {st : Nm → Str} {gl cl : Nm → Bool} {N : List Str} {sc : Scope} {es : List E} (m : mtEs st gl cl N sc es [] = true) : es = [] := by
  cases es with
  | nil => rfl
  | cons => exact Bool.noConfusion m
theorem mt_knil {st : Nm → Str} {gl cl : Nm → Bool} {N : List Str} {sc : Scope} {es : List (Nm × E)} (m : mtKs st gl cl N sc es [] = true) : es = [] := by
  cases es with
  | nil => rfl
  | cons e es => exact Bool.noConfusion m
theorem kn_eq {ks : List (Nm × PV)} {kw : List (Nm × E)} (h : ks.map (·.1) = kw.map (·.1)) : (ks.map fun q => T.st q.1) = kw.map fun q => T.st q.1 := by
  have e1 : (ks.map fun q => T.st q.1) = (ks.map (·.1)).map T.st := by rw [List.map_map]; rfl
  have e2 : (kw.map fun q => T.st q.1) = (kw.map (·.1)).map T.st := by rw [List.map_map]; rfl
  rw [e1, e2, h]
theorem callG_ok (Gd : GoodX T P d X) (tk : Takes X W) {f : Nm} {args : List PV} {kw : List (Nm × PV)} {vs zs : List V} {us ws : List Value} (I : Inv X pins σ H s) (R : Rel T G h H) (r1 : RepL T G args vs) (r2 : Vals vs us)
    (r3 : RepL T G (kw.map (·.2)) zs) (r4 : Vals zs ws) (o : OkR T σ W G H (callG (cx P d) f args kw h) (KV T Q)) : wpAny (model X.prog X.w) X.A (call (.ref (T.ad f)) us ((kw.map fun q => T.st q.1).zip ws)) (EP X pins σ Q) X.xe s := by
  unfold callG at o
  cases e : P.fn f with
  | some fd => rw [show (cx P d).P.fn f = some fd from e] at o; exact callD_ok Gd tk I R r1 r2 r3 r4 o
  | none =>
    rw [show (cx P d).P.fn f = none from e] at o
    dsimp only at o
    cases e2 : P.cls f with
    | none => rw [e2] at o; exact o.elim
    | some cd =>
      rw [e2] at o
      dsimp only at o
      cases e3 : cd.ex with
      | some z => rw [e3] at o; exact o.elim
      | none => rw [e3] at o; exact make_ok Gd tk e2 e3 I R r1 r2 r3 r4 o
theorem form_ok {pos : Pos} {ps : List Expr} {kp : List Keyword} (h1 : (backTo pos (starEach ps X.env)).all (!·.1) = true) (h2 : (backToKw pos (keywordEach kp X.env)).all (·.1.isSome) = true) (h3 : ps.length + kp.length < 29) :
    methodCallForm (ps.length + kp.length) (backTo pos (starEach ps X.env)) (backToKw pos (keywordEach kp X.env)) = true := by
  unfold methodCallForm
  rw [h1, h2]
  simp only [Bool.true_and]
  split
  · exact decide_eq_true (by omega)
  · exact decide_eq_true (by omega)
theorem resM_d {x : PV} {mm f : Nm} (e : resM (cx P d) x mm h = some (.d f)) : ∃ c fs cd, asIns h x = some (c, fs) ∧ look mm fs = none ∧ P.cls c = some cd ∧ cd.ex = none ∧ look mm cd.ms = some f := by
  unfold resM at e
  cases z : asIns h x with
  | some p =>
    obtain ⟨c, fs⟩ := p
    rw [z] at e
    dsimp only at e
    cases z2 : look mm fs with
    | some v => rw [z2] at e; cases e
    | none =>
      rw [z2] at e
      dsimp only at e
      unfold Prog.meth at e
      cases z3 : P.cls c with
      | none => rw [z3] at e; cases e
      | some cd =>
        rw [z3] at e
        dsimp only at e
        cases z4 : cd.ex with
        | some v => rw [z4] at e; cases e
        | none =>
          rw [z4] at e
          dsimp only at e
          cases z5 : look mm cd.ms with
          | none => rw [z5] at e; cases e
          | some g => rw [z5] at e; cases e; exact ⟨c, fs, cd, rfl, z2, z3, z4, z5⟩
  | none =>
    rw [z] at e
    dsimp only at e
    split at e
    · split at e
      · split at e <;> cases e
      · cases e
    · cases e
theorem resM_app {x : PV} {mm : Nm} (e : resM (cx P d) x mm h = some .app) : ∃ n xs, x = .loc n ∧ mm = .append ∧ hget n h = some (.lst xs) := by
  unfold resM at e
  cases z : asIns h x with
  | some p =>
    rw [z] at e
    dsimp only at e
    split at e
    · cases z2 : (cx P d).P.meth p.1 mm with
      | none => rw [z2] at e; cases e
      | some g => rw [z2] at e; cases e
    · cases e
  | none =>
    rw [z] at e
    dsimp only at e
    split at e
    · split at e
      · split at e
        · rename_i n _ _ _ _ q; exact ⟨_, _, rfl, rfl, q⟩
        · cases e
      · cases e
    · cases e
theorem app_ok (Gd : GoodX T P d X) (I : Inv X pins σ H s) (R : Rel T G h H) {n : Nat} {xs : List PV} {vx : V} {ux : Value} {vs : List V} {us : List Value} (rx : RepV T G (.loc n) vx) (rs : RepL T G xs vs) (sv : Vals vs us) (sx : RelV vx ux)
    (q : OkR T σ W G H (doM (cx P d) .app (.loc n) xs [] h) (KV T Q)) : wpAny (model X.prog X.w) X.A (call (.builtin "list.append") ([ux] ++ us)) (EP X pins σ Q) X.xe s := by
  unfold doM at q
  dsimp only at q
  match xs, q, rs with
  | [v], q, rs =>
    dsimp only at q
    obtain ⟨y, r, rfl, h1, t1⟩ := rs
    cases t1
    obtain ⟨u, rfl, ru⟩ := vals1' sv
    cases z : hget n h with
    | none => rw [z] at q; exact q.elim
    | some o =>
      rw [z] at q
      cases o with
      | lst zs =>
        dsimp only at q
        split at q
        · rename_i hb; exact append_ok Gd I R rx h1 sx ru z hb q
        · exact q.elim
      | _ => exact q.elim
  | [], q, _ => exact q.elim
  | _ :: _ :: _, q, _ => exact q.elim
theorem bu_tail {f : Bu} {pos : Pos} {e : Expr} {rest : List Expr} {Q : Value → Shared → Prop} (he : starEach (e :: rest) X.env = (false, eval e X.env) :: starEach rest X.env) (hpl : (backTo pos (starEach rest X.env)).any (·.1) = false)
    (go : wpAny (model X.prog X.w) X.A (spliced (backTo pos (starEach (e :: rest) X.env))) (fun us s1 => wpAny (model X.prog X.w) X.A (call f.val us) Q X.xe s1) X.xe s) : wpAny (model X.prog X.w) X.A (callWith pos f.val [] (backTo pos (starEach (e :: rest) X.env)) (backToKw pos (keywordEach [] X.env))) Q X.xe s := by
  cases f with
  | abs => exact PyProof.Rows.callWith_builtin1 (id := "abs") go he hpl
  | len => exact PyProof.Rows.callWith_builtin1 (id := "len") go he hpl
  | isinst => exact PyProof.Rows.callWith_builtin1 (id := "isinstance") go he hpl
  | sorted => exact PyProof.Rows.callWith_builtin1 (id := "sorted") go he hpl
  | sum => exact PyProof.Rows.callWith_builtin1 (id := "sum") go he hpl
  | any => exact PyProof.Rows.callWith_builtin1 (id := "any") go he hpl
  | all => exact PyProof.Rows.callWith_builtin1 (id := "all") go he hpl
  | max => exact PyProof.Rows.callWith_builtin1 (id := "max") go he hpl
  | min => exact PyProof.Rows.callWith_builtin1 (id := "min") go he hpl
  | int => exact PyProof.Rows.callWith_type1 (T := "int") go he hpl
  | str => exact PyProof.Rows.callWith_type1 (T := "str") go he hpl
  | list => exact PyProof.Rows.callWith_type1 (T := "list") go he hpl
  | tuple => exact PyProof.Rows.callWith_type1 (T := "tuple") go he hpl
  | dict => exact PyProof.Rows.callWith_type1 (T := "dict") go he hpl
  | set => exact PyProof.Rows.callWith_type1 (T := "set") go he hpl
/-- what is behind a callee -/
theorem tail_ok {f : Value} {first : List Value} {pos : Pos} {ps : List Expr} {kp : List Keyword} {ns : List Str} (hk : PySem.W.keepIn X.K f = true) (hst : (backTo pos (starEach ps X.env)).any (·.1) = false) (hpl : ∀ p r, ps = p :: r → plainX p = true)
    (hk1 : (backToKw pos (keywordEach kp X.env)).all (·.1.isSome) = true) (hk2 : (backToKw pos (keywordEach kp X.env)).any (·.1.isNone) = false) (hk3 : (backToKw pos (keywordEach kp X.env)).filterMap (·.1) = ns) (hne : (!ps.isEmpty || kp.isEmpty) = true)
    (A0 : ps = [] → kp = [] → wpAny (model X.prog X.w) X.A (call f (first ++ [])) (EP X pins σ Q) X.xe s)
    (A : SA X ps σ H fun vs H1 => SK X kp σ H1 fun ws H2 => ∀ pins s us us', Inv X pins σ H2 s → Vals vs us → Vals ws us' → wpAny (model X.prog X.w) X.A (call f (first ++ us) (ns.zip us')) (EP X pins σ Q) X.xe s) (I : Inv X pins σ H s) :
    wpAny (model X.prog X.w) X.A (callWith pos f first (backTo pos (starEach ps X.env)) (backToKw pos (keywordEach kp X.env))) (EP X pins σ Q) X.xe s := by
  cases ps with
  | nil =>
    cases kp with
    | nil =>
      exact PySem.W.callWith_K0 I.kIn hk (A0 rfl rfl)
    | cons => cases hne
  | cons p r =>
    refine PySem.W.callWith_KW (h₀ := X.base) I.ok.mod.kin hk hk1 (thn (A pos pins s I) fun us s1 ⟨vs, H1, I1, r1, q1⟩ => ?_) (by rw [hst, hk2]; rfl) (plain_star (hpl p r rfl))
    refine thn (q1 pos pins s1 I1) fun ws s2 ⟨zs, H2, I2, r2, q2⟩ => ⟨I2.kIn, ?_⟩
    rw [hk3]
    exact q2 pins s2 us ws I2 r1 r2
end
section
variable {T : Tx} {σ : L2.St} {W : L2.WX} {H : Hp} {G : Gh} {h : EH} {Q : VK}
theorem newL_ok {m : Bool} {xs : List PV} {ys : List V} (R : Rel T G h H) (rx : RepL T G xs ys) (o : OkR T σ W G H (newL m xs h) (KV T Q)) : ys.length ≤ sizeLine ∧ ∀ p, H p = none → Q (.ref p) (upd H p (.lst ys)) := by
  unfold newL at o
  split at o
  · rename_i hb
    refine ⟨by rw [← rx.length]; exact Nat.le_trans hb big_le, fun p hp => ?_⟩
    cases m with
    | false => exact OkR.newp o R hp (RepV.list (rx.le (Le.put (R.fresh hp).1)))
    | true =>
      have k : ∀ a u, H a = some u → upd H p (.lst ys) a = some u := fun a u e => by rw [upd_ne (ne_of_none e hp)]; exact e
      have R' : Rel T (G.push p) (.lst xs :: h) (upd H p (.lst ys)) := R.push hp k ⟨_, upd_same⟩ ⟨(R.fresh hp).1, ys, upd_same, rx.le Le.push⟩
      exact o _ _ (Ev.push hp k) R' (.ref p) ⟨p, rfl, by
        show mget h.length (p :: G.m) = some p
        rw [← R.len]
        exact mget_top (e := [])⟩
  · exact o.elim
end
section
variable {X : Cx} {tg : Expr} {pins : List (Addr × Obj)} {σ : L2.St} {H : Hp} {s : Shared} {R : It → Hp → Prop}
/-- a new iterator's address -/
theorem only_new (I1 : Inv X pins σ H s) {b : Addr} (hb : b ∈ [s.heap.objs.size]) : FpOk X pins H b := by
  rw [List.mem_singleton.mp hb]
  have le := Nat.le_refl s.heap.objs.size
  exact I1.fpOk le (I1.hok.fresh le)
theorem iter_lst {a : Addr} {xs : List V} (I1 : Inv X pins σ H s) (hq : SqL X.K H a xs) (q : R (Itl X.K a) H) : wpAny (model X.prog X.w) X.A (pyIter (.ref a)) (PIE X pins σ tg R) X.xe s := by
  obtain ⟨_, _, isL, _⟩ := I1.list hq
  exact wpAny_pyIter_list isL.isList ⟨s.heap.objs.size, [s.heap.objs.size], _, _, H, rfl, I1.kept (t' := s.toks) fun b o e => Heap.get?_push_of_some _ e, turn_list a _, ⟨_, Heap.get?_push_size _ rfl, rfl, rfl⟩, fun b hb => only_new I1 hb, q⟩
theorem iter_tup {a : Addr} {xs : List V} (I1 : Inv X pins σ H s) (hq : SqT X.K H a xs) (q : R (Itt X.K a) H) : wpAny (model X.prog X.w) X.A (pyIter (.ref a)) (PIE X pins σ tg R) X.xe s := by
  obtain ⟨items, _, isT, _⟩ := I1.tuple hq
  exact wpAny_pyIter_tuple (show s.heap.IsTuple a items.toArray from isT) ⟨s.heap.objs.size, [s.heap.objs.size], _, _, H, rfl, I1.kept (t' := s.toks) fun b o e => Heap.get?_push_of_some _ e, turn_tuple a _, ⟨_, Heap.get?_push_size _ rfl, rfl, rfl⟩, fun b hb => only_new I1 hb, q⟩
end
section
variable {T : Tx} {P : Prog} {d : Nat}
theorem j_str {G0 : Gh} {q : Src} {z : Str} : JOk T G0 (Its z) q (z.cps.toList.map fun c => .str ⟨#[c]⟩) := by
  intro G h H le R ok i
  refine ⟨fun x e => ?_, fun e => show z.cps.size ≤ i from by simpa using e⟩
  have hi : i < z.cps.size := by
    have := (List.getElem?_eq_some_iff.mp e).1
    simpa using this
  refine ⟨hi, fun v H' yd => ?_⟩
  obtain ⟨rfl, c, hc, rfl⟩ := yd
  have e2 : (z.cps.toList.map fun c => PV.str ⟨#[c]⟩)[i]? = some (.str ⟨#[c]⟩) := by simp [hc]
  rw [e2] at e; cases e
  exact ⟨G, Ev.refl _ _, R, rfl⟩
theorem iter_str {X : Cx} {tg : Expr} {pins : List (Addr × Obj)} {σ : L2.St} {H : Hp} {s : Shared} {R : It → Hp → Prop} {z : Str} {u : Value} (I1 : Inv X pins σ H s) (r : RelV (.str z) u) (q : R (Its z) H) : wpAny (model X.prog X.w) X.A (pyIter u) (PIE X pins σ tg R) X.xe s := by
  obtain ⟨t, rfl⟩ := r
  cases ha : z.cps.all (· < 128)
  · refine wpAny_pyIter_wide ha ?_
    exact ⟨s.heap.objs.size, [s.heap.objs.size], _, _, H, rfl, I1.kept (t' := s.toks) fun b o e => Heap.get?_push_of_some _ e, turn_str _ z t "str_iterator" (.inr rfl), ⟨_, Heap.get?_push_size _ rfl, rfl, rfl⟩, fun b hb => (by have e : b = s.heap.objs.size := (by simpa using hb); subst e; exact I1.fpOk (Nat.le_refl _) (I1.hok.fresh (Nat.le_refl _))), q⟩
  · refine wpAny_pyIter_ascii ha ?_
    exact ⟨s.heap.objs.size, [s.heap.objs.size], _, _, H, rfl, I1.kept (t' := s.toks) fun b o e => Heap.get?_push_of_some _ e, turn_str _ z t "str_ascii_iterator" (.inl rfl), ⟨_, Heap.get?_push_size _ rfl, rfl, rfl⟩, fun b hb => (by have e : b = s.heap.objs.size := (by simpa using hb); subst e; exact I1.fpOk (Nat.le_refl _) (I1.hok.fresh (Nat.le_refl _))), q⟩
/-- a list, as it stands -/
theorem lst_at {G : Gh} {h : EH} {H : Hp} {x : PV} {v : V} {xs : List PV} (R : Rel T G h H) (rx : RepV T G x v) (e : asLst h x = some xs) : ∃ a ys, v = .ref a ∧ H a = some (.lst ys) ∧ RepL T G xs ys := by
  cases x with
  | lst zs =>
    cases e
    obtain ⟨a, ys, rfl, f, r⟩ := rx
    exact ⟨a, ys, rfl, R.ext _ _ f, r⟩
  | loc n =>
    obtain ⟨a, rfl, m⟩ := rx
    unfold asLst at e
    cases q : hget n h with
    | none => simp [q] at e
    | some o =>
      simp only [q] at e
      obtain ⟨b, e3, r⟩ := R.ob n o q
      rw [m] at e3; cases e3
      cases o with
      | lst zs => cases e; obtain ⟨_, ys, e4, r⟩ := r; exact ⟨a, ys, rfl, e4, r⟩
      | _ => cases e
  | _ => cases e
theorem cat_ok {X : Cx} {W : L2.WX} {pins : List (Addr × Obj)} {σ : L2.St} {H : Hp} {s : Shared} {G : Gh} {h : EH} {Q : VK} {m : Bool} {x y : PV} {vx vy : V} {ux uy : Value} (I : Inv X pins σ H s) (R : Rel T G h H) (rx : RepV T G x vx) (ry : RepV T G y vy) (sx : RelV vx ux) (sy : RelV vy uy)
    (o : OkR T σ W G H (catL m x y h) (KV T Q)) : wpAny (model X.prog X.w) X.A (binaryOp .Add ux uy) (EP X pins σ Q) X.xe s := by
  unfold catL at o
  cases e1 : asLst h x with
  | none => rw [e1] at o; exact o.elim
  | some xs =>
    rw [e1] at o
    dsimp only at o
    cases e2 : asLst h y with
    | none => rw [e2] at o; exact o.elim
    | some ys =>
      rw [e2] at o
      dsimp only at o
      obtain ⟨a, zs, rfl, ha, ra⟩ := lst_at R rx e1
      obtain ⟨b, ws, rfl, hb, rb⟩ := lst_at R ry e2
      obtain ⟨hl, k⟩ := newL_ok R (ra.append rb) o
      exact op_cat pins s σ H _ _ ux uy Q I sx sy ⟨a, b, zs, ws, rfl, rfl, ha, hb, by rw [List.length_append] at hl; exact hl, k⟩
theorem RepL.dropL {G : Gh} : ∀ {xs : List PV} {ys : List V} (n : Nat), RepL T G xs ys → RepL T G (xs.drop n) (ys.drop n)
  | _, _, 0, r => r
  | [], _, n + 1, r => by cases r; exact rfl
  | x :: xs, _, n + 1, ⟨y, q, e, _, t⟩ => by subst e; exact RepL.dropL n t
theorem RepL.takeL {G : Gh} : ∀ {xs : List PV} {ys : List V} (n : Nat), RepL T G xs ys → RepL T G (xs.take n) (ys.take n)
  | _, _, 0, r => rfl
  | [], _, n + 1, r => by cases r; exact rfl
  | x :: xs, _, n + 1, ⟨y, q, e, h, t⟩ => by subst e; exact ⟨y, q.take n, rfl, h, RepL.takeL n t⟩
theorem RepL.rev {G : Gh} : ∀ {xs : List PV} {ys : List V}, RepL T G xs ys → RepL T G xs.reverse ys.reverse
  | [], _, r => by cases r; exact rfl
  | x :: xs, _, ⟨y, q, e, h, t⟩ => by subst e; rw [List.reverse_cons, List.reverse_cons]; exact (RepL.rev t).append (RepL.one h)
theorem cutP_ok {G : Gh} {xs : List PV} {ys : List V} (lo hi : Option Int) (r : RepL T G xs ys) : RepL T G (cutP xs lo hi) (cutV ys lo hi) := by
  have hl := r.length
  have e : ∀ (n d : Nat) (v : Option Int), sIxP n d v = HT.sIx n d v := fun n d v => by cases v <;> rfl
  unfold cutP cutV
  rw [e, e, hl]
  exact RepL.takeL _ (RepL.dropL _ r)
theorem slice_fin {W : L2.WX} {σ : L2.St} {H : Hp} {G : Gh} {h : EH} {Q : VK} {x : PV} {vx : V} {lo hi : Option Int} (R : Rel T G h H) (rx : RepV T G x vx) (o : OkR T σ W G H (sliceR x lo hi h) (KV T Q)) : rSlL T.K vx lo hi H Q ∨ rSlS vx lo hi H Q := by
  have lst : ∀ {xs : List PV}, asLst h x = some xs → OkR T σ W G H (.ok (.lst (cutP xs lo hi)) h) (KV T Q) → rSlL T.K vx lo hi H Q ∨ rSlS vx lo hi H Q := fun e o => by
    obtain ⟨p, ys, rfl, sq, r⟩ := lst_ok R rx e
    exact .inl ⟨p, ys, rfl, sq, fun l hl => OkR.newp o R hl (RepV.list ((cutP_ok lo hi r).le (Le.put (R.fresh hl).1)))⟩
  unfold sliceR at o
  cases x with
  | str z =>
    dsimp only at o
    split at o
    · rename_i hb
      cases rx
      refine .inr ⟨z, rfl, Nat.le_trans hb big_le, ?_⟩
      have e : cutS z lo hi = ⟨(cutP z.cps.toList lo hi).toArray⟩ := by
        have e : ∀ (n d : Nat) (v : Option Int), sIxP n d v = HT.sIx n d v := fun n d v => by cases v <;> rfl
        unfold cutS cutP
        rw [e, e]
        rfl
      rw [e]
      exact o.val R rfl
    · exact o.elim
  | lst xs => exact lst rfl o
  | loc n =>
    dsimp only at o
    cases e : asLst h (.loc n) with
    | none => rw [e] at o; exact o.elim
    | some xs => rw [e] at o; exact lst e o
  | _ => exact o.elim
theorem listR_fin {W : L2.WX} {σ : L2.St} {H : Hp} {G : Gh} {h : EH} {Q : VK} {m : Bool} {x : PV} {vx : V} (R : Rel T G h H) (rx : RepV T G x vx) (o : OkR T σ W G H (listR m x h) (KV T Q)) :
    ∃ p ys, [vx] = [V.ref p] ∧ (SqL T.K H p ys ∨ SqT T.K H p ys) ∧ ∀ l, H l = none → Q (.ref l) (upd H l (.lst ys)) := by
  have lst : ∀ {xs : List PV}, asLst h x = some xs → OkR T σ W G H (newL m xs h) (KV T Q) → ∃ p ys, [vx] = [V.ref p] ∧ (SqL T.K H p ys ∨ SqT T.K H p ys) ∧ ∀ l, H l = none → Q (.ref l) (upd H l (.lst ys)) := fun e o => by
    obtain ⟨p, ys, rfl, sq, r⟩ := lst_ok R rx e
    exact ⟨p, ys, rfl, .inl sq, (newL_ok R r o).2⟩
  unfold listR at o
  cases x with
  | tup xs =>
    obtain ⟨a, ys, rfl, q, r⟩ := rx
    exact ⟨a, ys, rfl, .inr (SqT.ext R q.sq), (newL_ok R r o).2⟩
  | lst xs => exact lst rfl o
  | loc n =>
    dsimp only at o
    cases e : asLst h (.loc n) with
    | none => rw [e] at o; exact o.elim
    | some xs => rw [e] at o; exact lst e o
  | _ => exact o.elim
theorem tupR_fin {W : L2.WX} {σ : L2.St} {H : Hp} {G : Gh} {h : EH} {Q : VK} {x : PV} {vx : V} (R : Rel T G h H) (rx : RepV T G x vx) (o : OkR T σ W G H (tupR x h) (KV T Q)) :
    ∃ p ys, [vx] = [V.ref p] ∧ ((SqL T.K H p ys ∧ ∀ l, H l = none → Q (.ref l) (upd H l (.tup ys))) ∨ (SqT T.K H p ys ∧ Q (.ref p) H)) := by
  have lst : ∀ {xs : List PV}, asLst h x = some xs → OkR T σ W G H (.ok (.tup xs) h) (KV T Q) → ∃ p ys, [vx] = [V.ref p] ∧ ((SqL T.K H p ys ∧ ∀ l, H l = none → Q (.ref l) (upd H l (.tup ys))) ∨ (SqT T.K H p ys ∧ Q (.ref p) H)) := fun e o => by
    obtain ⟨p, ys, rfl, sq, r⟩ := lst_ok R rx e
    exact ⟨p, ys, rfl, .inl ⟨sq, fun l hl => OkR.newp o R hl (RepV.tupl (r.le (Le.put (R.fresh hl).1)))⟩⟩
  unfold tupR at o
  cases x with
  | tup xs =>
    have rx0 := rx
    obtain ⟨a, ys, rfl, q, r⟩ := rx
    exact ⟨a, ys, rfl, .inr ⟨SqT.ext R q.sq, o.val R rx0⟩⟩
  | lst xs => exact lst rfl o
  | loc n =>
    dsimp only at o
    cases e : asLst h (.loc n) with
    | none => rw [e] at o; exact o.elim
    | some xs => rw [e] at o; exact lst e o
  | _ => exact o.elim
theorem strsP_ok {G : Gh} : ∀ {xs : List PV} {ys : List V} {ss : List Str}, RepL T G xs ys → strsP xs = some ss → ys = ss.map V.str
  | [], _, _, r, e => by cases r; cases e; rfl
  | x :: xs, _, _, ⟨y, q, e0, h1, t1⟩, e => by
    subst e0
    cases x with
    | str b =>
      unfold strsP at e
      cases z : strsP xs with
      | none => rw [z] at e; cases e
      | some cs => rw [z] at e; cases e; cases h1; rw [strsP_ok t1 z]; rfl
    | _ => cases e
theorem repStrs {G : Gh} : ∀ (ss : List Str), RepL T G (ss.map .str) (ss.map V.str)
  | [] => rfl
  | s :: ss => ⟨.str s, _, rfl, rfl, repStrs ss⟩
theorem lset_fin {W : L2.WX} {σ : L2.St} {H : Hp} {G : Gh} {h : EH} {Q : VK} {x : PV} {vx : V} (R : Rel T G h H) (rx : RepV T G x vx) (o : OkR T σ W G H (lsetR x h) (KV T Q)) :
    ∃ l, ∃ xs : List Str, vx = .ref l ∧ SqL T.K H l (xs.map V.str) ∧ xs.length ≤ 1000 ∧ Q (.int (cnt xs xs.length : Nat)) H := by
  unfold lsetR at o
  cases e : asLst h x with
  | none => rw [e] at o; exact o.elim
  | some xs =>
    rw [e] at o
    dsimp only at o
    cases e2 : strsP xs with
    | none => rw [e2] at o; exact o.elim
    | some ss =>
      rw [e2] at o
      dsimp only at o
      split at o
      · rename_i hb
        obtain ⟨p, ys, rfl, sq, r⟩ := lst_ok R rx e
        cases strsP_ok r e2
        exact ⟨p, ss, rfl, sq, hb, o.val R rfl⟩
      · exact o.elim
theorem rev_fin {W : L2.WX} {σ : L2.St} {H : Hp} {G : Gh} {h : EH} {Q : VK} {x : PV} {vx : V} (R : Rel T G h H) (rx : RepV T G x vx) (o : OkR T σ W G H (revR x h) (KV T Q)) :
    ∃ a xs, vx = .ref a ∧ SqL T.K H a xs ∧ ∀ p, H p = none → Q (.ref p) (upd H p (.lst xs.reverse)) := by
  unfold revR at o
  cases e : asLst h x with
  | none => rw [e] at o; exact o.elim
  | some xs =>
    rw [e] at o
    obtain ⟨p, ys, rfl, sq, r⟩ := lst_ok R rx e
    exact ⟨p, ys, rfl, sq, fun l hl => OkR.newp o R hl (RepV.list (r.rev.le (Le.put (R.fresh hl).1)))⟩
theorem srt_fin {W : L2.WX} {σ : L2.St} {H : Hp} {G : Gh} {h : EH} {Q : VK} {x : PV} {vx : V} (R : Rel T G h H) (rx : RepV T G x vx) (o : OkR T σ W G H (srtR x h) (KV T Q)) : rSortedS T.K [vx] H Q := by
  unfold srtR at o
  cases e : asLst h x with
  | none => rw [e] at o; exact o.elim
  | some xs =>
    rw [e] at o
    dsimp only at o
    cases e2 : strsP xs with
    | none => rw [e2] at o; exact o.elim
    | some ss =>
      rw [e2] at o
      dsimp only at o
      split at o
      · rename_i hb
        obtain ⟨p, ys, rfl, sq, r⟩ := lst_ok R rx e
        cases strsP_ok r e2
        refine ⟨p, ss, rfl, sq, hb, fun zs l pm so hl => ?_⟩
        cases srtS_uniq pm so
        exact OkR.newp o R hl (RepV.list (repStrs _))
      · exact o.elim
mutual
theorem sdE : ∀ (e : E) {X : Cx} {M : Mt} {W : L2.WX} {pe : Expr} {σ : L2.St} {σe : Env} {H : Hp} {G : Gh} {h : EH} {Q : VK}, GoodM T P d X M → Takes X W → mtE M.st M.gl M.cl M.N M.sc e pe = true → Rel T G h H → RepS T G σe σ →
    OkR T σ W G H (evE (cx P d) e σe h) (KV T Q) → SE X pe σ H Q
  | .v i, X, M, W, pe, σ, σe, H, G, h, Q, gm, tk, m, R, rs, o => by
    cases pe with
    | Name x pos =>
      have m : mtV M.N M.sc i x = true := m
      unfold mtV at m
      rw [Bool.and_eq_true, Bool.and_eq_true] at m
      have hd := dbg_ok m.2
      refine SE.of (pe_var (i := i) (by rw [gm.N]; exact of_decide_eq_true m.1.1) (by rw [gm.sc]; exact visB_ok m.1.2) hd.1 hd.2.1) ?_
      rw [evE_v] at o
      cases e : slot i σe with
      | none => rw [e] at o; exact o.elim
      | some v =>
        rw [e] at o
        obtain ⟨y, y1, y2⟩ := rs.get e
        exact ⟨y, y1, o.val R y2⟩
    | _ => exact Bool.noConfusion m
  | .g n, X, M, W, pe, σ, σe, H, G, h, Q, gm, tk, m, R, rs, o => by
    cases pe with
    | Name x pos =>
      have m : (decide (M.st n = x) && glB M.sc x && dbgB x && M.gl n) = true := m
      rw [Bool.and_eq_true, Bool.and_eq_true, Bool.and_eq_true] at m
      obtain ⟨⟨⟨m1, m2⟩, m3⟩, m4⟩ := m
      have m1 := of_decide_eq_true m1
      have hd := dbg_ok m3
      rw [evE_g] at o
      cases e : P.glob n with
      | none => rw [show (cx P d).P.glob n = none from e] at o; exact o.elim
      | some v =>
        rw [show (cx P d).P.glob n = some v from e] at o
        obtain ⟨y, u, y1, y2, y3⟩ := gm.gv n v e m4
        refine SE.of (pe_glob (gl_ok gm.sc m2) (by rw [← m1, ← gm.st]; exact y1) y2 hd.1) ?_
        exact o.val R (y3 G)
    | _ => exact Bool.noConfusion m
  | .ty n, X, M, W, pe, σ, σe, H, G, h, Q, gm, tk, m, R, rs, o => by
    cases pe with
    | Name x pos =>
      have m : (decide (Str.ofString n = x) && glB M.sc x && dbgB x && decide (n ∈ tyL)) = true := m
      rw [Bool.and_eq_true, Bool.and_eq_true, Bool.and_eq_true] at m
      obtain ⟨⟨⟨m1, m2⟩, m3⟩, m4⟩ := m
      have m1 := of_decide_eq_true m1
      have m4 := of_decide_eq_true m4
      have hd := dbg_ok m3
      subst m1
      have hb : n ∈ buL := tyL_bu n m4
      refine SE.of (pe_bltn (v := .ty n) (u := .type n) (gl_ok gm.sc m2) (gm.nob n hb) (tyL_boot n m4) rfl hd.2.2 hd.1) ?_
      exact o.val R rfl
    | _ => exact Bool.noConfusion m
  | .i k, X, M, W, pe, σ, σe, H, G, h, Q, gm, tk, m, R, rs, o => by
    cases pe with
    | Constant c k2 pos =>
      cases c with
      | int j =>
        have m1 := of_decide_eq_true (show decide (k = j) = true from m)
        subst m1
        exact SE.of pe_int (o.val R rfl)
      | _ => exact Bool.noConfusion m
    | _ => exact Bool.noConfusion m
  | .s k, X, M, W, pe, σ, σe, H, G, h, Q, gm, tk, m, R, rs, o => by
    cases pe with
    | Constant c k2 pos =>
      cases c with
      | str j =>
        have m1 := of_decide_eq_true (show decide (k = j) = true from m)
        subst m1
        exact SE.of pe_str (o.val R rfl)
      | _ => exact Bool.noConfusion m
    | _ => exact Bool.noConfusion m
  | .b k, X, M, W, pe, σ, σe, H, G, h, Q, gm, tk, m, R, rs, o => by
    cases pe with
    | Constant c k2 pos =>
      cases c with
      | bool j =>
        have m1 := of_decide_eq_true (show decide (k = j) = true from m)
        subst m1
        exact SE.of pe_bl (o.val R rfl)
      | _ => exact Bool.noConfusion m
    | _ => exact Bool.noConfusion m
  | .n, X, M, W, pe, σ, σe, H, G, h, Q, gm, tk, m, R, rs, o => by
    cases pe with
    | Constant c k2 pos =>
      cases c with
      | none => exact SE.of pe_non (o.val R rfl)
      | _ => exact Bool.noConfusion m
    | _ => exact Bool.noConfusion m
  | .bin b x y, X, M, W, pe, σ, σe, H, G, h, Q, gm, tk, m, R, rs, o => by
    cases pe with
    | BinOp px op py pos =>
      have m : (decide (b.op = op) && mtE M.st M.gl M.cl M.N M.sc x px && mtE M.st M.gl M.cl M.N M.sc y py) = true := m
      rw [Bool.and_eq_true, Bool.and_eq_true] at m
      obtain ⟨⟨m1, m2⟩, m3⟩ := m
      have m1 := of_decide_eq_true m1
      subst m1
      rw [evE_bin] at o
      intro pins s I
      refine wpAny_BinOp (thn (sdE x gm tk m2 R rs o.q pins s I) fun u s1 ⟨v, H1, I1, r1, xv, h1, G1, e1, R1, rx, o1⟩ => ?_)
      refine thn (sdE y gm tk m3 R1 (rs.le e1.le) o1.q pins s1 I1) fun u2 s2 ⟨v2, H2, I2, r2, xv2, h2, G2, e2, R2, ry, o2⟩ => ?_
      exact opBin_ok gm.gd tk I2 R2 (rx.le e2.le) ry r1 r2 o2
    | _ => exact Bool.noConfusion m
  | .binr b x y, X, M, W, pe, σ, σe, H, G, h, Q, gm, tk, m, R, rs, o => by
    cases pe with
    | BinOp px op py pos =>
      have m : (decide (b.op = op) && mtE M.st M.gl M.cl M.N M.sc x px && mtE M.st M.gl M.cl M.N M.sc y py) = true := m
      rw [Bool.and_eq_true, Bool.and_eq_true] at m
      obtain ⟨⟨m1, m2⟩, m3⟩ := m
      have m1 := of_decide_eq_true m1
      subst m1
      rw [evE_binr] at o
      intro pins s I
      refine wpAny_BinOp (thn (sdE x gm tk m2 R rs o.q pins s I) fun u s1 ⟨v, H1, I1, r1, xv, h1, G1, e1, R1, rx, o1⟩ => ?_)
      refine thn (sdE y gm tk m3 R1 (rs.le e1.le) o1.q pins s1 I1) fun u2 s2 ⟨v2, H2, I2, r2, xv2, h2, G2, e2, R2, ry, o2⟩ => ?_
      exact opBinR_ok gm.gd tk I2 R2 (rx.le e2.le) ry r1 r2 o2
    | _ => exact Bool.noConfusion m
  | .neg x, X, M, W, pe, σ, σe, H, G, h, Q, gm, tk, m, R, rs, o => by
    cases pe with
    | UnaryOp op px pos =>
      cases op with
      | USub =>
        have m : mtE M.st M.gl M.cl M.N M.sc x px = true := m
        rw [evE_neg] at o
        intro pins s I
        exact UnaryOp_ (thn (sdE x gm tk m R rs o.q pins s I) fun u s1 ⟨v, H1, I1, r1, xv, h1, G1, e1, R1, rx, o1⟩ => neg_ok gm.gd tk I1 R1 rx r1 o1)
      | _ => exact Bool.noConfusion m
    | _ => exact Bool.noConfusion m
  | .pos x, X, M, W, pe, σ, σe, H, G, h, Q, gm, tk, m, R, rs, o => by
    cases pe with
    | UnaryOp op px pos =>
      cases op with
      | UAdd =>
        have m : mtE M.st M.gl M.cl M.N M.sc x px = true := m
        have o : OkR T σ W G H ((evE (cx P d) x σe h).bind fun x h => opPos (cx P d) x h) (KV T Q) := o
        intro pins s I
        exact UnaryOp_ (thn (sdE x gm tk m R rs o.q pins s I) fun u s1 ⟨v, H1, I1, r1, xv, h1, G1, e1, R1, rx, o1⟩ => pos_ok gm.gd tk I1 R1 rx r1 o1)
      | _ => exact Bool.noConfusion m
    | _ => exact Bool.noConfusion m
  | .cmp b x y, X, M, W, pe, σ, σe, H, G, h, Q, gm, tk, m, R, rs, o => by
    cases pe with
    | Compare px ops pys pos =>
      match ops, pys, m with
      | [op], [py], m =>
        have m : (decide (b.op = op) && mtE M.st M.gl M.cl M.N M.sc x px && mtE M.st M.gl M.cl M.N M.sc y py) = true := m
        rw [Bool.and_eq_true, Bool.and_eq_true] at m
        obtain ⟨⟨m1, m2⟩, m3⟩ := m
        have m1 := of_decide_eq_true m1
        subst m1
        rw [evE_cmp] at o
        intro pins s I
        refine wpAny_Compare1 (thn (sdE x gm tk m2 R rs o.q pins s I) fun u s1 ⟨v, H1, I1, r1, xv, h1, G1, e1, R1, rx, o1⟩ => ?_) (plain_marks (mt_plain m3))
        refine thn (sdE y gm tk m3 R1 (rs.le e1.le) o1.q pins s1 I1) fun u2 s2 ⟨v2, H2, I2, r2, xv2, h2, G2, e2, R2, ry, o2⟩ => ?_
        exact opCmp_ok gm.gd tk I2 R2 (rx.le e2.le) ry r1 r2 o2
      | [], _, m => exact Bool.noConfusion m
      | [_], [], m => exact Bool.noConfusion m
      | [_], _ :: _ :: _, m => exact Bool.noConfusion m
      | _ :: _ :: _, [], m => exact Bool.noConfusion m
      | _ :: _ :: _, _ :: _, m => exact Bool.noConfusion m
    | _ => exact Bool.noConfusion m
  | .chn b c x y z, X, M, W, pe, σ, σe, H, G, h, Q, gm, tk, m, R, rs, o => by
    cases pe with
    | Compare px ops pys pos =>
      match ops, pys, m with
      | [op, op'], [py, pz], m =>
        have m : (decide (b.op = op) && decide (c.op = op') && mtE M.st M.gl M.cl M.N M.sc x px && mtE M.st M.gl M.cl M.N M.sc y py && mtE M.st M.gl M.cl M.N M.sc z pz) = true := m
        rw [Bool.and_eq_true, Bool.and_eq_true, Bool.and_eq_true, Bool.and_eq_true] at m
        obtain ⟨⟨⟨⟨m1, m1'⟩, m2⟩, m3⟩, m4⟩ := m
        have m1 := of_decide_eq_true m1
        have m1' := of_decide_eq_true m1'
        subst m1 m1'
        rw [evE_chn] at o
        intro pins s I
        refine Compare_chain (thn (sdE x gm tk m2 R rs o.q pins s I) fun u s1 ⟨v, H1, I1, r1, xv, h1, G1, e1, R1, rx, o1⟩ => chain_link (thn (sdE y gm tk m3 R1 (rs.le e1.le) o1.q pins s1 I1) fun u2 s2 ⟨v2, H2, I2, r2, xv2, h2, G2, e2, R2, ry, o2⟩ => ?_)) (plain_marks (op := c.op) (mt_plain m4))
        obtain ⟨ho, o3⟩ := lnk_ok (P := P) (d := d) o2.qT
        refine thn (ord_ok gm.gd tk I2 R2 ho (rx.le e2.le) ry r1 r2 o3) fun dd s3 ⟨zz, H3, I3, r3, k, e, h3, G3, e3, R3, o4⟩ => ?_
        subst e
        cases r3
        refine wpAny_truthy_bool ?_
        cases k with
        | false => exact ite_ff ⟨.bl false, H3, I3, rfl, OkR.val o4 R3 rfl⟩
        | true =>
          have o4 : OkR T σ W G3 H3 ((evE (cx P d) z σe h3).bind fun z h => (lnk c xv2 z h).bind fun t h => .ok (.bl t) h) (KV T Q) := o4
          refine ite_tt (chain_last (thn (sdE z gm tk m4 R3 (rs.le ((e1.le.trans e2.le).trans e3.le)) o4.q pins s3 I3) fun w' s4 ⟨v4, H4, I4, r4, xv4, h4, G4, e4, R4, rz, o5⟩ => ?_))
          obtain ⟨ho', o6⟩ := lnk_ok (P := P) (d := d) o5.qT
          refine thn (ord_ok gm.gd tk I4 R4 ho' (ry.le (e3.le.trans e4.le)) rz r2 r4 o6) fun d5 s5 ⟨z5, H5, I5, r5, k5, ee, h5, G5, e5, R5, o7⟩ => ?_
          subst ee
          exact ⟨_, H5, I5, r5, OkR.val o7 R5 rfl⟩
      | [], _, m => exact Bool.noConfusion m
      | [_], _, m => exact Bool.noConfusion m
      | [_, _], [], m => exact Bool.noConfusion m
      | [_, _], [_], m => exact Bool.noConfusion m
      | [_, _], _ :: _ :: _ :: _, m => exact Bool.noConfusion m
      | _ :: _ :: _ :: _, [], m => exact Bool.noConfusion m
      | _ :: _ :: _ :: _, _ :: _, m => exact Bool.noConfusion m
    | _ => exact Bool.noConfusion m
  | .not x, X, M, W, pe, σ, σe, H, G, h, Q, gm, tk, m, R, rs, o => by
    cases pe with
    | UnaryOp op px pos =>
      cases op with
      | Not =>
        have m : (valB x && mtQ M.st M.gl M.cl M.N M.sc x px) = true := m
        rw [Bool.and_eq_true] at m
        rw [evE_not] at o
        intro pins s I
        refine UnaryOp_ (thn (sdQV x gm tk m.1 m.2 R rs o.qT pins s I) fun v s1 ⟨y, H1, I1, r1, b, t1, h1, G1, e1, R1, o1⟩ => ?_)
        exact not_of (thn (tru_ok pins s1 σ H1 y v (fun c H2 => Q (.bl (!c)) H2) I1 r1 ⟨b, t1, OkR.val o1 R1 rfl⟩) fun c s2 ⟨H2, I2, q2⟩ => ⟨.bl (!c), H2, I2, rfl, q2⟩)
      | _ => exact Bool.noConfusion m
    | _ => exact Bool.noConfusion m
  | .and es, X, M, W, pe, σ, σe, H, G, h, Q, gm, tk, m, R, rs, o => by
    cases pe with
    | BoolOp op ps pos =>
      cases op with
      | And => exact sdAnd es gm tk m R rs o
      | Or => exact Bool.noConfusion m
    | _ => exact Bool.noConfusion m
  | .or es, X, M, W, pe, σ, σe, H, G, h, Q, gm, tk, m, R, rs, o => by
    cases pe with
    | BoolOp op ps pos =>
      cases op with
      | Or => exact sdOr es gm tk m R rs o
      | And => exact Bool.noConfusion m
    | _ => exact Bool.noConfusion m
  | .ite c x y, X, M, W, pe, σ, σe, H, G, h, Q, gm, tk, m, R, rs, o => by
    cases pe with
    | IfExp pc px py pos =>
      have m : (mtQ M.st M.gl M.cl M.N M.sc c pc && mtE M.st M.gl M.cl M.N M.sc x px && mtE M.st M.gl M.cl M.N M.sc y py) = true := m
      rw [Bool.and_eq_true, Bool.and_eq_true] at m
      obtain ⟨⟨m1, m2⟩, m3⟩ := m
      rw [evE_ite] at o
      refine SE.of (pe_ifExp (ptS X pc) (peS X px) (peS X py)) ?_
      intro pins s I
      refine thn (sdT c gm tk m1 R rs o.qT pins s I) fun b s1 ⟨H1, I1, h1, G1, e1, R1, o1⟩ => ⟨H1, I1, ?_⟩
      cases b with
      | true => exact ite_tt (sdE x gm tk m2 R1 (rs.le e1.le) o1)
      | false => exact ite_ff (sdE y gm tk m3 R1 (rs.le e1.le) o1)
    | _ => exact Bool.noConfusion m
  | .att x f, X, M, W, pe, σ, σe, H, G, h, Q, gm, tk, m, R, rs, o => by
    cases pe with
    | Attribute px g pos =>
      have m : (decide (M.st f = g) && mtE M.st M.gl M.cl M.N M.sc x px && baseB px) = true := m
      rw [Bool.and_eq_true, Bool.and_eq_true] at m
      obtain ⟨⟨m1, m2⟩, m3⟩ := m
      have m1 := of_decide_eq_true m1
      subst m1
      rw [evE_att] at o
      intro pins s I
      refine attr_of (base_ok m3) (thn (sdE x gm tk m2 R rs o.q pins s I) fun u s1 ⟨v, H1, I1, r1, xv, h1, G1, e1, R1, rx, o1⟩ => ?_)
      rw [← gm.st]
      exact getAtt_ok gm.gd I1 R1 rx r1 o1
    | _ => exact Bool.noConfusion m
  | .sub x y, X, M, W, pe, σ, σe, H, G, h, Q, gm, tk, m, R, rs, o => by
    cases pe with
    | Subscript px py pos =>
      have m : (mtE M.st M.gl M.cl M.N M.sc x px && mtE M.st M.gl M.cl M.N M.sc y py) = true := m
      rw [Bool.and_eq_true] at m
      obtain ⟨m2, m3⟩ := m
      rw [evE_sub] at o
      intro pins s I
      refine Subscript_ (thn (sdE x gm tk m2 R rs o.q pins s I) fun u s1 ⟨v, H1, I1, r1, xv, h1, G1, e1, R1, rx, o1⟩ => ?_)
      refine thn (sdE y gm tk m3 R1 (rs.le e1.le) o1.q pins s1 I1) fun u2 s2 ⟨v2, H2, I2, r2, xv2, h2, G2, e2, R2, ry, o2⟩ => ?_
      exact getIt_ok gm.gd I2 R2 (rx.le e2.le) ry r1 r2 (plain_ix (mt_plain m3) _ _) o2
    | _ => exact Bool.noConfusion m
  | .tup es, X, M, W, pe, σ, σe, H, G, h, Q, gm, tk, m, R, rs, o => by
    cases pe with
    | Tuple ps k pos =>
      have m : mtEs M.st M.gl M.cl M.N M.sc es ps = true := m
      rw [evE_tup] at o
      refine SE.of (pe_tup (paS X ps)) ?_
      intro pos pins s I
      refine thn (sdA es gm tk m R rs o.qL pos pins s I) fun us s1 ⟨ys, H1, I1, r1, xs, h1, G1, e1, R1, rx, o1⟩ => ⟨ys, H1, I1, r1, ?_⟩
      split at o1
      · rename_i hb
        refine ⟨by rw [← rx.length]; exact Nat.le_trans hb big_le, fun p hp => ?_⟩
        exact OkR.newp o1 R1 hp (RepV.tupl (rx.le (Le.put (R1.fresh hp).1)))
      · exact o1.elim
    | _ => exact Bool.noConfusion m
  | .lst mu es, X, M, W, pe, σ, σe, H, G, h, Q, gm, tk, m, R, rs, o => by
    cases pe with
    | List ps pos =>
      have m : mtEs M.st M.gl M.cl M.N M.sc es ps = true := m
      rw [evE_lst] at o
      refine SE.of (pe_lst (paS X ps)) ?_
      intro pos pins s I
      refine thn (sdA es gm tk m R rs o.qL pos pins s I) fun us s1 ⟨ys, H1, I1, r1, xs, h1, G1, e1, R1, rx, o1⟩ => ⟨ys, H1, I1, r1, ?_⟩
      exact newL_ok R1 rx o1
    | _ => exact Bool.noConfusion m
  | .call f es kw, X, M, W, pe, σ, σe, H, G, h, Q, gm, tk, m, R, rs, o => by
    cases pe with
    | Call fe ps kp pos =>
      cases fe with
      | Name x npos =>
        have m : (decide (M.st f = x) && glB M.sc x && dbgB x && M.cl f && mtEs M.st M.gl M.cl M.N M.sc es ps && mtKs M.st M.gl M.cl M.N M.sc kw kp && (!ps.isEmpty || kp.isEmpty)) = true := m
        rw [Bool.and_eq_true, Bool.and_eq_true, Bool.and_eq_true, Bool.and_eq_true, Bool.and_eq_true, Bool.and_eq_true] at m
        obtain ⟨⟨⟨⟨⟨⟨m1, m2⟩, m3⟩, m4⟩, m5⟩, m6⟩, m7⟩ := m
        have m1 := of_decide_eq_true m1
        subst m1
        rw [evE_call] at o
        intro pins s I
        obtain ⟨k1, k2, k3⟩ := mt_kws (env := X.env) m6 pos
        rw [← gm.st] at k3
        obtain ⟨g1, g2⟩ := gm.gc f m4
        refine wpAny_Call_Name_kw (ld_glob I (gl_ok gm.sc m2) (by rw [← gm.st]; exact g1) ?_ (dbg_ok m3).1)
        refine tail_ok (first := []) g2 (mt_stars m5 pos).1 (mt_head m5) k1 k2 k3 m7 ?_ ?_ I
        · rintro rfl rfl
          cases mt_nil m5
          cases mt_knil m6
          exact callG_ok (kw := []) (zs := []) (ws := []) gm.gd tk I R (show RepL T G [] [] from rfl) .nil rfl .nil o
        · intro pos pins s I
          refine thn (sdA es gm tk m5 R rs o.qL pos pins s I) fun us s1 ⟨ys, H1, I1, r1, xs, h1, G1, e1, R1, rx, o1⟩ => ⟨ys, H1, I1, r1, ?_⟩
          intro pos pins s I
          refine thn (sdK kw gm tk m6 R1 (rs.le e1.le) o1.qK pos pins s I) fun us s2 ⟨zs, H2, I2, r2, ks, h2, G2, e2, R2, hn, rz, o2⟩ => ⟨zs, H2, I2, r2, ?_⟩
          intro pins s us us' I v1 v2
          rw [← kn_eq hn]
          exact callG_ok gm.gd tk I R2 (rx.le e2.le) v1 rz v2 o2
      | _ => exact Bool.noConfusion m
    | _ => exact Bool.noConfusion m
  | .bu f es, X, M, W, pe, σ, σe, H, G, h, Q, gm, tk, m, R, rs, o => by
    cases pe with
    | Call fe ps kp pos =>
      cases fe with
      | Name x npos =>
        cases ps with
        | nil => exact Bool.noConfusion m
        | cons p ps =>
          cases kp with
          | cons => exact Bool.noConfusion m
          | nil =>
            have m : (decide (Str.ofString f.nm = x) && glB M.sc x && dbgB x && mtEs M.st M.gl M.cl M.N M.sc es (p :: ps)) = true := m
            rw [Bool.and_eq_true, Bool.and_eq_true, Bool.and_eq_true] at m
            obtain ⟨⟨⟨m1, m2⟩, m3⟩, m4⟩ := m
            have m1 := of_decide_eq_true m1
            subst m1
            rw [evE_bu] at o
            intro pins s I
            refine wpAny_Call_Name_kw (ld_blt I (gl_ok gm.sc m2) (gm.nob _ (bu_in f)) (bu_boot f) ?_ (dbg_ok m3).2.2 (dbg_ok m3).1)
            have st := plain_star (es := ps) (env := X.env) (mt_head m4 p ps rfl)
            have hpl : (backTo pos (starEach ps X.env)).any (·.1) = false := by
              have := (mt_stars (env := X.env) m4 pos).1
              rw [st] at this
              exact this
            have go := thn (sdA es gm tk m4 R rs o.qL pos pins s I) fun us s1 ⟨ys, H1, I1, r1, xs, h1, G1, e1, R1, rx, o1⟩ => bCall_ok gm.gd tk I1 R1 rx r1 o1
            exact bu_tail st hpl go
      | _ => exact Bool.noConfusion m
    | _ => exact Bool.noConfusion m
  | .met a mm es kw, X, M, W, pe, σ, σe, H, G, h, Q, gm, tk, m, R, rs, o => by
    cases pe with
    | Call fe ps kp pos =>
      cases fe with
      | Attribute x g apos =>
        have m : (decide (M.st mm = g) && mtE M.st M.gl M.cl M.N M.sc a x && baseB x && mtEs M.st M.gl M.cl M.N M.sc es ps && mtKs M.st M.gl M.cl M.N M.sc kw kp && (!ps.isEmpty || kp.isEmpty) && (apos.endLine == pos.line) && decide (ps.length + kp.length < 29) && (decide (mm ≠ .append) || kp.isEmpty)) = true := m
        rw [Bool.and_eq_true, Bool.and_eq_true, Bool.and_eq_true, Bool.and_eq_true, Bool.and_eq_true, Bool.and_eq_true, Bool.and_eq_true, Bool.and_eq_true] at m
        obtain ⟨⟨⟨⟨⟨⟨⟨⟨m1, m2⟩, m3⟩, m4⟩, m5⟩, m6⟩, m7⟩, m8⟩, m9⟩ := m
        have m1 := of_decide_eq_true m1
        have m8 := of_decide_eq_true m8
        subst m1
        rw [evE_met] at o
        intro pins s I
        obtain ⟨k1, k2, k3⟩ := mt_kws (env := X.env) m5 pos
        rw [← gm.st] at k3
        obtain ⟨t1, t2⟩ := mt_stars (env := X.env) m4 pos
        refine meth_tree (base_ok m3) (form_ok t2 k1 m8) m7 (thn (sdE a gm tk m2 R rs o.q pins s I) fun ov s1 ⟨v, H1, I1, r1, xv, h1, G1, e1, R1, rx, o1⟩ => ?_)
        cases er : resM (cx P d) xv mm h1 with
        | none => rw [er] at o1; exact o1.elim
        | some k =>
          rw [er] at o1
          dsimp only at o1
          rw [← gm.st]
          cases k with
          | d f =>
            obtain ⟨c, fs, cd, q1, q2, q3, q4, q5⟩ := resM_d er
            have IO := (gm.gd.txt.cls c cd q3).2 q4
            refine getMet_ok gm.gd I1 R1 rx r1 q1 q2 q3 q4 q5 ?_
            refine tail_ok (first := [ov]) (by rw [gm.gd.K]; exact (IO.meth _ _ q5).1.kp) t1 (mt_head m4) k1 k2 k3 m6 ?_ ?_ I1
            · rintro rfl rfl
              cases mt_nil m4
              cases mt_knil m5
              exact callD_pos gm.gd tk I1 R1 (RepL.one rx) (.cons r1 .nil) o1
            · intro pos pins s I
              refine thn (sdA es gm tk m4 R1 (rs.le e1.le) o1.qL pos pins s I) fun us s1 ⟨ys, H2, I2, r2, xs, h2, G2, e2, R2, rxs, o2⟩ => ⟨ys, H2, I2, r2, ?_⟩
              intro pos pins s I
              refine thn (sdK kw gm tk m5 R2 (rs.le (e1.le.trans e2.le)) o2.qK pos pins s I) fun us s2 ⟨zs, H3, I3, r3, ks, h3, G3, e3, R3, hn, rz, o3⟩ => ⟨zs, H3, I3, r3, ?_⟩
              intro pins s us us' I v1 v2
              rw [← kn_eq hn]
              exact callD_ok gm.gd tk I R3 (RepL.cons (rx.le (e2.le.trans e3.le)) (rxs.le e3.le)) (.cons r1 v1) rz v2 o3
          | app =>
            obtain ⟨n, zs, rfl, rfl, q3⟩ := resM_app er
            have hk : kp = [] := by
              have : kp.isEmpty = true := by simpa using m9
              exact List.isEmpty_iff.mp this
            subst hk
            cases mt_knil m5
            obtain ⟨a, rfl, q4⟩ := rx
            obtain ⟨b, q5, f5, ys, q6, q7⟩ := R1.ob n _ q3
            rw [q4] at q5; cases q5
            cases r1
            have hap : T.st .append = "append" := gm.gd.txt.app
            rw [hap]
            obtain ⟨z, its, n2, rv, ho⟩ := (show ObjOk X.prog X.w H1 s1.heap a (.lst ys) from I1.hok a _ q6)
            refine PySem.getMethod_builtin (T := "list") ⟨_, ho, rfl⟩ F.plainAttrs_list F.slot_list_append F.type_list_append (fun a' e => by cases e; exact ⟨_, ho, rfl⟩) ?_
            refine Calls.callWith_builtin t1 ?_
            cases ps with
            | nil =>
              cases mt_nil m4
              exact (show False from o1).elim
            | cons p ps =>
              rw [plain_star (mt_head m4 p ps rfl)]
              refine Calls.evalArgs_plain ?_
              have go := sdA es gm tk m4 R1 (rs.le e1.le) o1.qL pos pins s1 I1
              rw [plain_star (mt_head m4 p ps rfl)] at go
              refine thn go fun us s2 ⟨vs, H2, I2, r2, xs, h2, G2, e2, R2, rxs, o2⟩ => ?_
              have o2 : OkR T σ W G2 H2 (doM (cx P d) .app (.loc n) xs [] h2) (KV T Q) := o2
              exact app_ok gm.gd I2 R2 (vx := .ref a) ⟨a, rfl, e2.le.mget q4⟩ rxs r2 rfl o2
      | _ => exact Bool.noConfusion m
    | _ => exact Bool.noConfusion m
  | .lc mu t it c x, X, M, W, pe, σ, σe, H, G, h, Q, gm, tk, m, R, rs, o => by
    match pe, m with
    | .ListComp px [⟨pt, pit, pc, 0⟩] scope pos, m =>
      have m : (mtI M.st M.gl M.cl M.N M.sc it pit pt && mtT M.N (relS scope M.sc) t pt && blkC M.N M.sc scope (t.ix.filterMap fun i => (M.N[i]?).map fun x => (x, i)) && mtO M.st M.gl M.cl M.N (relS scope M.sc) c pc && mtE M.st M.gl M.cl M.N (relS scope M.sc) x px) = true := m
      rw [Bool.and_eq_true, Bool.and_eq_true, Bool.and_eq_true, Bool.and_eq_true] at m
      obtain ⟨⟨⟨⟨m1, m2⟩, m3⟩, m4⟩, m5⟩ := m
      have hsc : ∀ (C : Addr) (cl : List (Str × Addr)), (compEnvC scope cl C X.env).scope = relS scope M.sc := fun C cl => by rw [← gm.sc]; rfl
      have gmB : ∀ (s : Shared) (H0 : Hp) (C : Addr) (cl : List (Str × Addr)) (fp : List Addr), GoodM T P d (X.blk s H0 scope (compEnvC scope cl C X.env) fp) { M with sc := relS scope M.sc } := fun s H0 C cl fp =>
        ⟨⟨gm.gd.K, gm.gd.calm, gm.gd.nd, gm.gd.room, gm.gd.txt, gm.gd.fns, gm.gd.fns', gm.gd.two, gm.gd.xin, gm.gd.tld⟩, gm.N, hsc C cl, gm.st, gm.gv, gm.gc, gm.nob⟩
      have tkB : ∀ (s : Shared) (H0 : Hp) (C : Addr) (cl : List (Str × Addr)) (fp : List Addr), Takes (X.blk s H0 scope (compEnvC scope cl C X.env) fp) (fun _ _ _ _ => False) := fun s H0 C cl fp u s' ⟨_, _, _, _, _, _, _, _, _, _, _, _, _, _, _, _, w⟩ => w
      have ok : BlkOk X.N X.env.scope scope (t.ix.filterMap fun i => (M.N[i]?).map fun x => (x, i)) := by rw [gm.N, gm.sc]; exact blkOk_by m3
      have hix := mtT_ix m2
      let te : TE := fun σ H Q => ∀ (s : Shared) (H0 : Hp) (C : Addr) (cl : List (Str × Addr)) (fp : List Addr), SE (X.blk s H0 scope (compEnvC scope cl C X.env) fp) px σ H Q
      have he : ∀ (s : Shared) (H0 : Hp) (C : Addr) (cl : List (Str × Addr)) (fp : List Addr), PE (X.blk s H0 scope (compEnvC scope cl C X.env) fp) px te := fun s H0 C cl fp => ⟨fun pins s' σ H Q I h => h s H0 C cl fp pins s' I⟩
      have hg : ∀ (s : Shared) (H0 : Hp) (C : Addr) (cl : List (Str × Addr)) (fp : List Addr), PG (X.blk s H0 scope (compEnvC scope cl C X.env) fp) pt (gOf X.K t) := fun s H0 C cl fp => pg_of (X := X.blk s H0 scope (compEnvC scope cl C X.env) fp) (N := M.N) (sc := relS scope M.sc) gm.gd.nd gm.N (hsc C cl) gm.gd.calm m2
      have val : ∀ {σ' : Env} {σ2 : L2.St} {G : Gh} {h h2 : EH} {H : Hp} {r : Option PV} {Kc : Option V → Hp → Prop}, Rel T G h H → RepS T G σ' σ2 → ((evE (cx P d) x σ' h).bind fun y h => .ok (some y) h) = .ok r h2 →
          (∀ G' H', Ev G H G' H' → Rel T G' h2 H' → (match r with
            | none => Kc none H'
            | some y => ∀ w, RepV T G' y w → Kc (some w) H')) → te σ2 H fun y H4 => Kc (some y) H4 := fun {σ' σ2 G h h2 H r Kc} R rs2 hf k => by
        intro s H0 C cl fp
        refine sdE x (gmB s H0 C cl fp) (tkB s H0 C cl fp) m5 R rs2 ?_
        cases e : evE (cx P d) x σ' h with
        | ok y h3 =>
          rw [e] at hf
          cases hf
          exact fun G' H' e' R' w rw => k G' H' e' R' w rw
        | err y h3 => rw [e] at hf; cases hf
        | stuck => rw [e] at hf; cases hf
      cases c with
      | none =>
        have hpc : pc = [] := List.isEmpty_iff.mp m4
        subst hpc
        rw [evE_lc0] at o
        refine SE.of (pe_lc gm.gd.calm gm.gd.nd (piS X pt pit) ok hg (fun _ _ _ _ _ => pts_nil) he (plain_fold (mtI_plain m1))) ?_
        unfold tLc
        rw [hix]
        refine sdI it gm tk m1 R rs (OkR.imp (OkR.bnd o) fun p h1 G1 H1 e1 R1 o1 J j ok => ?_)
        intro D hD
        refine lc_run (g := gOf X.K t) (tt := tYes) (te := te) (vs := t.ix) j R1 o1 (fun x0 v0 G h H r h2 le R rv hf Kc k => ?_) D hD
        cases es : setT t x0 σe with
        | none => rw [es] at hf; cases hf
        | some σ' =>
          rw [es] at hf
          rw [gm.gd.K]
          refine gOf_ok R rv es ((rs.le (e1.le.trans le)).wiped) fun σ2 w rs2 => ⟨w.trans wipe_wipe, ?_⟩
          show (if true = true then te σ2 H fun y H4 => Kc (some y) H4 else Kc none H)
          rw [if_pos rfl]
          exact val R rs2 hf k
      | some c =>
        rw [evE_lc1] at o
        cases pc with
        | nil => exact Bool.noConfusion m4
        | cons q rest =>
        cases rest with
        | cons => exact Bool.noConfusion m4
        | nil =>
          have m4 : mtQ M.st M.gl M.cl M.N (relS scope M.sc) c q = true := m4
          let tt : TT := fun σ H Q => ∀ (s : Shared) (H0 : Hp) (C : Addr) (cl : List (Str × Addr)) (fp : List Addr), ST (X.blk s H0 scope (compEnvC scope cl C X.env) fp) q σ H Q
          have ht : ∀ (s : Shared) (H0 : Hp) (C : Addr) (cl : List (Str × Addr)) (fp : List Addr), PTs (X.blk s H0 scope (compEnvC scope cl C X.env) fp) [q] tt := fun s H0 C cl fp => pts_one ⟨fun pins s' σ H Q I h => h s H0 C cl fp pins s' I⟩
          refine SE.of (pe_lc gm.gd.calm gm.gd.nd (piS X pt pit) ok hg ht he (plain_fold (mtI_plain m1))) ?_
          unfold tLc
          rw [hix]
          refine sdI it gm tk m1 R rs (OkR.imp (OkR.bnd o) fun p h1 G1 H1 e1 R1 o1 J j ok => ?_)
          intro D hD
          refine lc_run (g := gOf X.K t) (tt := tt) (te := te) (vs := t.ix) j R1 o1 (fun x0 v0 G h H r h2 le R rv hf Kc k => ?_) D hD
          cases es : setT t x0 σe with
          | none => rw [es] at hf; cases hf
          | some σ' =>
            rw [es] at hf
            rw [gm.gd.K]
            refine gOf_ok R rv es ((rs.le (e1.le.trans le)).wiped) fun σ2 w rs2 => ⟨w.trans wipe_wipe, ?_⟩
            intro s H0 C cl fp
            refine sdT c (gmB s H0 C cl fp) (tkB s H0 C cl fp) m4 R rs2 ?_
            dsimp only at hf
            cases ec : evT (cx P d) c σ' h with
            | ok b h3 =>
              rw [ec] at hf
              intro G' H' e' R'
              cases b with
              | true =>
                show (if true = true then te σ2 H' fun y H4 => Kc (some y) H4 else Kc none H')
                rw [if_pos rfl]
                have hf : ((evE (cx P d) x σ' h3).bind fun y h => .ok (some y) h) = .ok r h2 := hf
                exact val R' (rs2.le e'.le) hf fun G2 H2 e2 R2 => k G2 H2 (e'.trans e2) R2
              | false =>
                show (if false = true then te σ2 H' fun y H4 => Kc (some y) H4 else Kc none H')
                rw [if_neg (by decide)]
                cases hf
                exact k G' H' e' R'
            | err y h3 => rw [ec] at hf; cases hf
            | stuck => rw [ec] at hf; cases hf
  | .slc a lo hi, X, M, W, pe, σ, σe, H, G, h, Q, gm, tk, m, R, rs, o => by
    match pe, m with
    | .Subscript x (.Slice l u none p2) pos, m =>
      have m : (mtE M.st M.gl M.cl M.N M.sc a x && mtS1 M.st M.gl M.cl M.N M.sc lo l && mtS1 M.st M.gl M.cl M.N M.sc hi u) = true := m
      rw [Bool.and_eq_true, Bool.and_eq_true] at m
      obtain ⟨⟨m1, m2⟩, m3⟩ := m
      have hr : SlR X (fun x lo hi H Q => rSlL T.K x lo hi H Q ∨ rSlS x lo hi H Q) := gm.gd.K ▸ sl_list.or sl_str
      match lo, hi, l, u, m2, m3 with
      | none, none, none, none, m2, m3 =>
        rw [evE_slc0] at o
        refine SE.of (pe_slice hr (peS X x) po_none po_none) ?_
        refine SE.mono (sdE a gm tk m1 R rs o.q) ?_
        rintro y H1 ⟨v, h1, G1, e1, R1, rx, o1⟩
        exact slice_fin R1 rx o1
      | some b, none, some z, none, m2, m3 =>
        have m2 : mtE M.st M.gl M.cl M.N M.sc b z = true := m2
        rw [evE_slcl] at o
        refine SE.of (pe_slice hr (peS X x) (po_some (peS X z)) po_none) ?_
        refine SE.mono (sdE a gm tk m1 R rs o.q) ?_
        rintro y H1 ⟨v, h1, G1, e1, R1, rx, o1⟩
        refine SE.mono (sdE b gm tk m2 R1 (rs.le e1.le) o1.q) ?_
        rintro y2 H2 ⟨v2, h2, G2, e2, R2, rx2, o2⟩
        cases v2 with
        | int i => cases rx2; exact ⟨i, rfl, slice_fin R2 (rx.le e2.le) o2⟩
        | _ => exact o2.elim
      | none, some c, none, some w, m2, m3 =>
        have m3 : mtE M.st M.gl M.cl M.N M.sc c w = true := m3
        rw [evE_slch] at o
        refine SE.of (pe_slice hr (peS X x) po_none (po_some (peS X w))) ?_
        refine SE.mono (sdE a gm tk m1 R rs o.q) ?_
        rintro y H1 ⟨v, h1, G1, e1, R1, rx, o1⟩
        refine SE.mono (sdE c gm tk m3 R1 (rs.le e1.le) o1.q) ?_
        rintro y2 H2 ⟨v2, h2, G2, e2, R2, rx2, o2⟩
        cases v2 with
        | int i => cases rx2; exact ⟨i, rfl, slice_fin R2 (rx.le e2.le) o2⟩
        | _ => exact o2.elim
      | some b, some c, some z, some w, m2, m3 =>
        have m2 : mtE M.st M.gl M.cl M.N M.sc b z = true := m2
        have m3 : mtE M.st M.gl M.cl M.N M.sc c w = true := m3
        rw [evE_slcb] at o
        refine SE.of (pe_slice hr (peS X x) (po_some (peS X z)) (po_some (peS X w))) ?_
        refine SE.mono (sdE a gm tk m1 R rs o.q) ?_
        rintro y H1 ⟨v, h1, G1, e1, R1, rx, o1⟩
        refine SE.mono (sdE b gm tk m2 R1 (rs.le e1.le) o1.q) ?_
        rintro y2 H2 ⟨v2, h2, G2, e2, R2, rx2, o2⟩
        cases v2 with
        | int i =>
          cases rx2
          refine ⟨i, rfl, ?_⟩
          have o2 : OkR T σ W G2 H2 ((evE (cx P d) c σe h2).bind fun z h => intK (fun j h => sliceR v (some i) (some j) h) z h) (KV T Q) := o2
          refine SE.mono (sdE c gm tk m3 R2 (rs.le (e1.le.trans e2.le)) o2.q) ?_
          rintro y3 H3 ⟨v3, h3, G3, e3, R3, rx3, o3⟩
          cases v3 with
          | int j => cases rx3; exact ⟨j, rfl, slice_fin R3 (rx.le (e2.le.trans e3.le)) o3⟩
          | _ => exact o3.elim
        | _ => exact o2.elim
      | none, _, some _, _, m2, _ => exact Bool.noConfusion m2
      | some _, _, none, _, m2, _ => exact Bool.noConfusion m2
      | _, none, _, some _, _, m3 => exact Bool.noConfusion m3
      | _, some _, _, none, _, m3 => exact Bool.noConfusion m3
  | .lof mu a, X, M, W, pe, σ, σe, H, G, h, Q, gm, tk, m, R, rs, o => by
    match pe, m with
    | .Call (.Name x p) [q] [] pos, m =>
      have m : (decide (x = ("list" : Str)) && glB M.sc x && mtE M.st M.gl M.cl M.N M.sc a q) = true := m
      rw [Bool.and_eq_true, Bool.and_eq_true] at m
      obtain ⟨⟨m1, m2⟩, m3⟩ := m
      have m1 := of_decide_eq_true m1
      subst m1
      rw [evE_lof] at o
      intro pins s I
      refine wpAny_Call_Name_kw (ld_blt I (gl_ok gm.sc m2) (gm.nob "list" (by decide)) (bu_boot .list) ?_ (by decide) (by decide))
      have hs := plain_star (es := []) (env := X.env) (mt_plain m3)
      have ha : SA X [q] σ H fun vs H1 => ∃ p ys, vs = [V.ref p] ∧ (SqL X.K H1 p ys ∨ SqT X.K H1 p ys) ∧ ∀ l, H1 l = none → Q (.ref l) (upd H1 l (.lst ys)) := by
        refine SA.of (pa_cons (peS X q) pa_nil hs) ?_
        refine SE.mono (sdE a gm tk m3 R rs o.q) ?_
        rintro y H1 ⟨v, h1, G1, e1, R1, rx, o1⟩
        rw [gm.gd.K]
        exact listR_fin R1 rx o1
      exact bu_tail (f := .list) hs rfl (thn (ha pos pins s I) fun us s1 ⟨ys, H1, I1, r1, q1⟩ => call_list_of pins s1 σ H1 ys us Q I1 r1 q1)
  | .tof a, X, M, W, pe, σ, σe, H, G, h, Q, gm, tk, m, R, rs, o => by
    match pe, m with
    | .Call (.Name x p) [q] [] pos, m =>
      have m : (decide (x = ("tuple" : Str)) && glB M.sc x && mtE M.st M.gl M.cl M.N M.sc a q) = true := m
      rw [Bool.and_eq_true, Bool.and_eq_true] at m
      obtain ⟨⟨m1, m2⟩, m3⟩ := m
      have m1 := of_decide_eq_true m1
      subst m1
      rw [evE_tof] at o
      intro pins s I
      refine wpAny_Call_Name_kw (ld_blt I (gl_ok gm.sc m2) (gm.nob "tuple" (by decide)) (bu_boot .tuple) ?_ (by decide) (by decide))
      have hs := plain_star (es := []) (env := X.env) (mt_plain m3)
      have ha : SA X [q] σ H fun vs H1 => ∃ p ys, vs = [V.ref p] ∧ ((SqL X.K H1 p ys ∧ ∀ l, H1 l = none → Q (.ref l) (upd H1 l (.tup ys))) ∨ (SqT X.K H1 p ys ∧ Q (.ref p) H1)) := by
        refine SA.of (pa_cons (peS X q) pa_nil hs) ?_
        refine SE.mono (sdE a gm tk m3 R rs o.q) ?_
        rintro y H1 ⟨v, h1, G1, e1, R1, rx, o1⟩
        rw [gm.gd.K]
        exact tupR_fin R1 rx o1
      exact bu_tail (f := .tuple) hs rfl (thn (ha pos pins s I) fun us s1 ⟨ys, H1, I1, r1, q1⟩ => call_tuple_of pins s1 σ H1 ys us Q I1 r1 q1)
  | .lset a, X, M, W, pe, σ, σe, H, G, h, Q, gm, tk, m, R, rs, o => by
    match pe, m with
    | .Call (.Name x p) [.Call (.Name z p2) [q] [] pos2] [] pos, m =>
      have m : (decide (x = ("len" : Str)) && glB M.sc x && decide (z = ("set" : Str)) && glB M.sc z && mtE M.st M.gl M.cl M.N M.sc a q) = true := m
      rw [Bool.and_eq_true, Bool.and_eq_true, Bool.and_eq_true, Bool.and_eq_true] at m
      obtain ⟨⟨⟨⟨m1, m2⟩, m3⟩, m4⟩, m5⟩ := m
      have m1 := of_decide_eq_true m1
      have m3 := of_decide_eq_true m3
      subst m1 m3
      rw [evE_lset] at o
      have hs := plain_star (es := []) (env := X.env) (mt_plain m5)
      refine SE.of (pe_lenSetN gm.gd.calm (gl_ok gm.sc m2) (gm.nob "len" (by decide)) (gl_ok gm.sc m4) (gm.nob "set" (by decide)) (peS X q) hs) ?_
      refine SE.mono (sdE a gm tk m5 R rs o.q) ?_
      rintro y H1 ⟨v, h1, G1, e1, R1, rx, o1⟩
      rw [gm.gd.K]
      exact lset_fin R1 rx o1
  | .rev a, X, M, W, pe, σ, σe, H, G, h, Q, gm, tk, m, R, rs, o => by
    match pe, m with
    | .Subscript x (.Slice none none (some (.UnaryOp .USub (.Constant (.int k) kk p1) p2)) p3) pos, m =>
      have m : (decide (k = 1) && mtE M.st M.gl M.cl M.N M.sc a x) = true := m
      rw [Bool.and_eq_true] at m
      have m1 := of_decide_eq_true m.1
      subst m1
      rw [evE_rev] at o
      refine SE.of (pe_revL (peS X x)) ?_
      refine SE.mono (sdE a gm tk m.2 R rs o.q) ?_
      rintro y H1 ⟨v, h1, G1, e1, R1, rx, o1⟩
      rw [gm.gd.K]
      exact rev_fin R1 rx o1
  | .srt a, X, M, W, pe, σ, σe, H, G, h, Q, gm, tk, m, R, rs, o => by
    match pe, m with
    | .Call (.Name x p) [q] [] pos, m =>
      have m : (decide (x = ("sorted" : Str)) && glB M.sc x && mtE M.st M.gl M.cl M.N M.sc a q) = true := m
      rw [Bool.and_eq_true, Bool.and_eq_true] at m
      obtain ⟨⟨m1, m2⟩, m3⟩ := m
      have m1 := of_decide_eq_true m1
      subst m1
      rw [evE_srt] at o
      intro pins s I
      refine wpAny_Call_Name_kw (ld_blt I (gl_ok gm.sc m2) (gm.nob "sorted" (by decide)) (bu_boot .sorted) ?_ (by decide) (by decide))
      have hs := plain_star (es := []) (env := X.env) (mt_plain m3)
      have ha : SA X [q] σ H fun vs H1 => rSortedS X.K vs H1 Q := by
        refine SA.of (pa_cons (peS X q) pa_nil hs) ?_
        refine SE.mono (sdE a gm tk m3 R rs o.q) ?_
        rintro y H1 ⟨v, h1, G1, e1, R1, rx, o1⟩
        rw [gm.gd.K]
        exact srt_fin R1 rx o1
      exact bu_tail (f := .sorted) hs rfl (thn (ha pos pins s I) fun us s1 ⟨ys, H1, I1, r1, q1⟩ => cr_sortedS pins s1 σ H1 ys us Q I1 r1 q1)
  | .cat mu x y, X, M, W, pe, σ, σe, H, G, h, Q, gm, tk, m, R, rs, o => by
    cases pe with
    | BinOp px op py pos =>
      cases op with
      | Add =>
        have m : (mtE M.st M.gl M.cl M.N M.sc x px && mtE M.st M.gl M.cl M.N M.sc y py) = true := m
        rw [Bool.and_eq_true] at m
        obtain ⟨m2, m3⟩ := m
        rw [evE_cat] at o
        intro pins s I
        refine wpAny_BinOp (thn (sdE x gm tk m2 R rs o.q pins s I) fun u s1 ⟨v, H1, I1, r1, xv, h1, G1, e1, R1, rx, o1⟩ => ?_)
        refine thn (sdE y gm tk m3 R1 (rs.le e1.le) o1.q pins s1 I1) fun u2 s2 ⟨v2, H2, I2, r2, xv2, h2, G2, e2, R2, ry, o2⟩ => ?_
        exact cat_ok I2 R2 (rx.le e2.le) ry r1 r2 o2
      | _ => exact Bool.noConfusion m
    | _ => exact Bool.noConfusion m
  | .dic mu ks vs, X, M, W, pe, σ, σe, H, G, h, Q, gm, tk, m, R, rs, o => by
    cases pe with
    | Dict a b pos =>
      cases a with
      | cons => exact Bool.noConfusion m
      | nil =>
        cases b with
        | cons => exact Bool.noConfusion m
        | nil =>
          have m : (ks.isEmpty && vs.isEmpty) = true := m
          rw [Bool.and_eq_true] at m
          have e1 : ks = [] := List.isEmpty_iff.mp m.1
          have e2 : vs = [] := List.isEmpty_iff.mp m.2
          subst e1 e2
          rw [evE_dic0] at o
          refine SE.of pe_dnewK ?_
          intro p hp
          cases mu with
          | false => exact OkR.newp o R hp ⟨p, [], rfl, upd_same, rfl⟩
          | true =>
            have k : ∀ a u, H a = some u → upd H p (.dK []) a = some u := fun a u q => by rw [upd_ne (ne_of_none q hp)]; exact q
            refine o (G.push p) (upd H p (.dK [])) (Ev.push hp k) (R.push hp k ⟨_, upd_same⟩ ⟨(R.fresh hp).1, [], upd_same, rfl⟩) (.ref p) ⟨p, rfl, ?_⟩
            show mget h.length (p :: G.m) = some p
            rw [← R.len]
            exact mget_top (e := [])
    | _ => exact Bool.noConfusion m
  | .tst _, _, _, _, _, _, _, _, _, _, _, _, _, m, _, _, _ => Bool.noConfusion m
  | .bad, _, _, _, _, _, _, _, _, _, _, _, _, m, _, _, o => False.elim o
  | .ni, _, _, _, _, _, _, _, _, _, _, _, _, m, _, _, o => False.elim o
theorem sdQV : ∀ (e : E) {X : Cx} {M : Mt} {W : L2.WX} {pe : Expr} {σ : L2.St} {σe : Env} {H : Hp} {G : Gh} {h : EH} {Q : Bool → Hp → Prop}, GoodM T P d X M → Takes X W → valB e = true → mtQ M.st M.gl M.cl M.N M.sc e pe = true → Rel T G h H → RepS T G σe σ →
    OkR T σ W G H (evT (cx P d) e σe h) (KB Q) → SE X pe σ H (fun y H' => ∃ b, TruV X.K y H' b ∧ Q b H')
  | .tst x, X, M, W, pe, σ, σe, H, G, h, Q, gm, tk, vb, m, R, rs, o => by
    have m : (tstB pe && mtE M.st M.gl M.cl M.N M.sc x pe) = true := m
    rw [Bool.and_eq_true] at m
    rw [evT_tst] at o
    refine SE.mono (sdE x gm tk m.2 R rs o.q) ?_
    rintro y H1 ⟨v, h1, G1, e1, R1, rx, o1⟩
    unfold truR at o1
    cases e : truth h1 v with
    | none => rw [e] at o1; exact o1.elim
    | some b => rw [e] at o1; exact ⟨b, truth_ok gm.gd R1 rx e, o1.valB R1⟩
  | .cmp b x y, X, M, W, pe, σ, σe, H, G, h, Q, gm, tk, vb, m, R, rs, o => by
    cases pe with
    | Compare px ops pys pos =>
      match ops, pys, m with
      | [op], [py], m =>
        have m : (decide (b.op = op) && mtE M.st M.gl M.cl M.N M.sc x px && mtE M.st M.gl M.cl M.N M.sc y py) = true := m
        rw [Bool.and_eq_true, Bool.and_eq_true] at m
        obtain ⟨⟨m1, m2⟩, m3⟩ := m
        have m1 := of_decide_eq_true m1
        subst m1
        rw [evT_cmp] at o
        intro pins s I
        refine wpAny_Compare1 (thn (sdE x gm tk m2 R rs o.q pins s I) fun u s1 ⟨v, H1, I1, r1, xv, h1, G1, e1, R1, rx, o1⟩ => ?_) (plain_marks (mt_plain m3))
        refine thn (sdE y gm tk m3 R1 (rs.le e1.le) o1.q pins s1 I1) fun u2 s2 ⟨v2, H2, I2, r2, xv2, h2, G2, e2, R2, ry, o2⟩ => ?_
        exact thn (opCmp_ok gm.gd tk I2 R2 (rx.le e2.le) ry r1 r2 (OkR.bolB (K := Q) o2)) fun c s3 ⟨z, H3, I3, r3, k, e, q3⟩ => ⟨z, H3, I3, r3, k, by subst e; rfl, q3⟩
      | [], _, m => exact Bool.noConfusion m
      | [_], [], m => exact Bool.noConfusion m
      | [_], _ :: _ :: _, m => exact Bool.noConfusion m
      | _ :: _ :: _, [], m => exact Bool.noConfusion m
      | _ :: _ :: _, _ :: _, m => exact Bool.noConfusion m
    | _ => exact Bool.noConfusion m
  | .chn b c x y z, X, M, W, pe, σ, σe, H, G, h, Q, gm, tk, vb, m, R, rs, o => by
    cases pe with
    | Compare px ops pys pos =>
      match ops, pys, m with
      | [op, op'], [py, pz], m =>
        have m : (decide (b.op = op) && decide (c.op = op') && mtE M.st M.gl M.cl M.N M.sc x px && mtE M.st M.gl M.cl M.N M.sc y py && mtE M.st M.gl M.cl M.N M.sc z pz) = true := m
        rw [Bool.and_eq_true, Bool.and_eq_true, Bool.and_eq_true, Bool.and_eq_true] at m
        obtain ⟨⟨⟨⟨m1, m1'⟩, m2⟩, m3⟩, m4⟩ := m
        have m1 := of_decide_eq_true m1
        have m1' := of_decide_eq_true m1'
        subst m1 m1'
        rw [evT_chn] at o
        intro pins s I
        refine Compare_chain (thn (sdE x gm tk m2 R rs o.q pins s I) fun u s1 ⟨v, H1, I1, r1, xv, h1, G1, e1, R1, rx, o1⟩ => chain_link (thn (sdE y gm tk m3 R1 (rs.le e1.le) o1.q pins s1 I1) fun u2 s2 ⟨v2, H2, I2, r2, xv2, h2, G2, e2, R2, ry, o2⟩ => ?_)) (plain_marks (op := c.op) (mt_plain m4))
        obtain ⟨ho, o3⟩ := lnk_ok (P := P) (d := d) o2.qT
        refine thn (ord_ok gm.gd tk I2 R2 ho (rx.le e2.le) ry r1 r2 o3) fun dd s3 ⟨zz, H3, I3, r3, k, e, h3, G3, e3, R3, o4⟩ => ?_
        subst e
        cases r3
        refine wpAny_truthy_bool ?_
        cases k with
        | false => exact ite_ff ⟨.bl false, H3, I3, rfl, false, rfl, OkR.valB o4 R3⟩
        | true =>
          have o4 : OkR T σ W G3 H3 ((evE (cx P d) z σe h3).bind fun z h => lnk c xv2 z h) (KB Q) := o4
          refine ite_tt (chain_last (thn (sdE z gm tk m4 R3 (rs.le ((e1.le.trans e2.le).trans e3.le)) o4.q pins s3 I3) fun w' s4 ⟨v4, H4, I4, r4, xv4, h4, G4, e4, R4, rz, o5⟩ => ?_))
          obtain ⟨ho', o6⟩ := lnk_ok (P := P) (d := d) o5
          refine thn (ord_ok gm.gd tk I4 R4 ho' (ry.le (e3.le.trans e4.le)) rz r2 r4 o6) fun d5 s5 ⟨z5, H5, I5, r5, k5, ee, o7⟩ => ?_
          exact ⟨z5, H5, I5, r5, k5, by subst ee; rfl, o7⟩
      | [], _, m => exact Bool.noConfusion m
      | [_], _, m => exact Bool.noConfusion m
      | [_, _], [], m => exact Bool.noConfusion m
      | [_, _], [_], m => exact Bool.noConfusion m
      | [_, _], _ :: _ :: _ :: _, m => exact Bool.noConfusion m
      | _ :: _ :: _ :: _, [], m => exact Bool.noConfusion m
      | _ :: _ :: _ :: _, _ :: _, m => exact Bool.noConfusion m
    | _ => exact Bool.noConfusion m
  | .not x, X, M, W, pe, σ, σe, H, G, h, Q, gm, tk, vb, m, R, rs, o => by
    cases pe with
    | UnaryOp op px pos =>
      cases op with
      | Not =>
        have m : mtQ M.st M.gl M.cl M.N M.sc x px = true := m
        have vb : valB x = true := vb
        rw [evT_not] at o
        intro pins s I
        refine UnaryOp_ (thn (sdQV x gm tk vb m R rs o.qT pins s I) fun v s1 ⟨y, H1, I1, r1, b, t1, h1, G1, e1, R1, o1⟩ => ?_)
        exact not_of (thn (tru_ok pins s1 σ H1 y v (fun c H2 => ∃ b, TruV X.K (.bl !c) H2 b ∧ Q b H2) I1 r1 ⟨b, t1, !b, rfl, o1.valB R1⟩) fun c s2 ⟨H2, I2, q2⟩ => ⟨.bl (!c), H2, I2, rfl, q2⟩)
      | _ => exact Bool.noConfusion m
    | _ => exact Bool.noConfusion m
  | .and _, _, _, _, _, _, _, _, _, _, _, _, _, vb, _, _, _, _ => Bool.noConfusion vb
  | .or _, _, _, _, _, _, _, _, _, _, _, _, _, vb, _, _, _, _ => Bool.noConfusion vb
  | .v _, _, _, _, _, _, _, _, _, _, _, _, _, _, m, _, _, _ => Bool.noConfusion m
  | .g _, _, _, _, _, _, _, _, _, _, _, _, _, _, m, _, _, _ => Bool.noConfusion m
  | .ty _, _, _, _, _, _, _, _, _, _, _, _, _, _, m, _, _, _ => Bool.noConfusion m
  | .i _, _, _, _, _, _, _, _, _, _, _, _, _, _, m, _, _, _ => Bool.noConfusion m
  | .s _, _, _, _, _, _, _, _, _, _, _, _, _, _, m, _, _, _ => Bool.noConfusion m
  | .b _, _, _, _, _, _, _, _, _, _, _, _, _, _, m, _, _, _ => Bool.noConfusion m
  | .n, _, _, _, _, _, _, _, _, _, _, _, _, _, m, _, _, _ => Bool.noConfusion m
  | .bin _ _ _, _, _, _, _, _, _, _, _, _, _, _, _, _, m, _, _, _ => Bool.noConfusion m
  | .neg _, _, _, _, _, _, _, _, _, _, _, _, _, _, m, _, _, _ => Bool.noConfusion m
  | .pos _, _, _, _, _, _, _, _, _, _, _, _, _, _, m, _, _, _ => Bool.noConfusion m
  | .ite _ _ _, _, _, _, _, _, _, _, _, _, _, _, _, _, m, _, _, _ => Bool.noConfusion m
  | .att _ _, _, _, _, _, _, _, _, _, _, _, _, _, _, m, _, _, _ => Bool.noConfusion m
  | .sub _ _, _, _, _, _, _, _, _, _, _, _, _, _, _, m, _, _, _ => Bool.noConfusion m
  | .slc _ _ _, _, _, _, _, _, _, _, _, _, _, _, _, _, m, _, _, _ => Bool.noConfusion m
  | .tup _, _, _, _, _, _, _, _, _, _, _, _, _, _, m, _, _, _ => Bool.noConfusion m
  | .lst _ _, _, _, _, _, _, _, _, _, _, _, _, _, _, m, _, _, _ => Bool.noConfusion m
  | .cat _ _ _, _, _, _, _, _, _, _, _, _, _, _, _, _, m, _, _, _ => Bool.noConfusion m
  | .lof _ _, _, _, _, _, _, _, _, _, _, _, _, _, _, m, _, _, _ => Bool.noConfusion m
  | .tof _, _, _, _, _, _, _, _, _, _, _, _, _, _, m, _, _, _ => Bool.noConfusion m
  | .lset _, _, _, _, _, _, _, _, _, _, _, _, _, _, m, _, _, _ => Bool.noConfusion m
  | .rev _, _, _, _, _, _, _, _, _, _, _, _, _, _, m, _, _, _ => Bool.noConfusion m
  | .srt _, _, _, _, _, _, _, _, _, _, _, _, _, _, m, _, _, _ => Bool.noConfusion m
  | .dic _ _ _, _, _, _, _, _, _, _, _, _, _, _, _, _, m, _, _, _ => Bool.noConfusion m
  | .call _ _ _, _, _, _, _, _, _, _, _, _, _, _, _, _, m, _, _, _ => Bool.noConfusion m
  | .bu _ _, _, _, _, _, _, _, _, _, _, _, _, _, _, m, _, _, _ => Bool.noConfusion m
  | .met _ _ _ _, _, _, _, _, _, _, _, _, _, _, _, _, _, m, _, _, _ => Bool.noConfusion m
  | .lc _ _ _ _ _, _, _, _, _, _, _, _, _, _, _, _, _, _, m, _, _, _ => Bool.noConfusion m
  | .bad, _, _, _, _, _, _, _, _, _, _, _, _, _, m, _, _, _ => Bool.noConfusion m
  | .ni, _, _, _, _, _, _, _, _, _, _, _, _, _, m, _, _, _ => Bool.noConfusion m
  | .binr _ _ _, _, _, _, _, _, _, _, _, _, _, _, _, _, m, _, _, _ => Bool.noConfusion m
theorem sdT : ∀ (e : E) {X : Cx} {M : Mt} {W : L2.WX} {pe : Expr} {σ : L2.St} {σe : Env} {H : Hp} {G : Gh} {h : EH} {Q : Bool → Hp → Prop}, GoodM T P d X M → Takes X W → mtQ M.st M.gl M.cl M.N M.sc e pe = true → Rel T G h H → RepS T G σe σ →
    OkR T σ W G H (evT (cx P d) e σe h) (KB Q) → ST X pe σ H Q
  | .tst x, X, M, W, pe, σ, σe, H, G, h, Q, gm, tk, m, R, rs, o => by
    have m : (tstB pe && mtE M.st M.gl M.cl M.N M.sc x pe) = true := m
    rw [Bool.and_eq_true] at m
    rw [evT_tst] at o
    intro pins s I
    exact isTrue_plain (thn (sdE x gm tk m.2 R rs o.q pins s I) fun u s1 ⟨v, H1, I1, r1, xv, h1, G1, e1, R1, rx, o1⟩ => truR_ok gm.gd I1 R1 rx r1 o1) (tst_ok m.1 _ _)
  | .cmp b x y, X, M, W, pe, σ, σe, H, G, h, Q, gm, tk, m, R, rs, o => by
    cases pe with
    | Compare px ops pys pos =>
      match ops, pys, m with
      | [op], [py], m =>
        have m : (decide (b.op = op) && mtE M.st M.gl M.cl M.N M.sc x px && mtE M.st M.gl M.cl M.N M.sc y py) = true := m
        rw [Bool.and_eq_true, Bool.and_eq_true] at m
        obtain ⟨⟨m1, m2⟩, m3⟩ := m
        have m1 := of_decide_eq_true m1
        subst m1
        rw [evT_cmp] at o
        intro pins s I
        refine wpAny_isTrue_Compare1 (thn (sdE x gm tk m2 R rs o.q pins s I) fun u s1 ⟨v, H1, I1, r1, xv, h1, G1, e1, R1, rx, o1⟩ => ?_) (plain_marks (mt_plain m3))
        refine thn (sdE y gm tk m3 R1 (rs.le e1.le) o1.q pins s1 I1) fun u2 s2 ⟨v2, H2, I2, r2, xv2, h2, G2, e2, R2, ry, o2⟩ => ?_
        refine thn (opCmp_ok gm.gd tk I2 R2 (rx.le e2.le) ry r1 r2 (OkR.bolB (K := Q) o2)) fun c s3 ⟨z, H3, I3, r3, k, e, q3⟩ => ?_
        subst e
        cases r3
        exact wpAny_truthy_bool (show TP X pins σ Q k s3 from ⟨H3, I3, q3⟩)
      | [], _, m => exact Bool.noConfusion m
      | [_], [], m => exact Bool.noConfusion m
      | [_], _ :: _ :: _, m => exact Bool.noConfusion m
      | _ :: _ :: _, [], m => exact Bool.noConfusion m
      | _ :: _ :: _, _ :: _, m => exact Bool.noConfusion m
    | _ => exact Bool.noConfusion m
  | .chn b c x y z, X, M, W, pe, σ, σe, H, G, h, Q, gm, tk, m, R, rs, o => by
    cases pe with
    | Compare px ops pys pos =>
      match ops, pys, m with
      | [op, op'], [py, pz], m =>
        have m : (decide (b.op = op) && decide (c.op = op') && mtE M.st M.gl M.cl M.N M.sc x px && mtE M.st M.gl M.cl M.N M.sc y py && mtE M.st M.gl M.cl M.N M.sc z pz) = true := m
        rw [Bool.and_eq_true, Bool.and_eq_true, Bool.and_eq_true, Bool.and_eq_true] at m
        obtain ⟨⟨⟨⟨m1, m1'⟩, m2⟩, m3⟩, m4⟩ := m
        have m1 := of_decide_eq_true m1
        have m1' := of_decide_eq_true m1'
        subst m1 m1'
        rw [evT_chn] at o
        intro pins s I
        refine isTrue_chain (thn (sdE x gm tk m2 R rs o.q pins s I) fun u s1 ⟨v, H1, I1, r1, xv, h1, G1, e1, R1, rx, o1⟩ => test_link (thn (sdE y gm tk m3 R1 (rs.le e1.le) o1.q pins s1 I1) fun u2 s2 ⟨v2, H2, I2, r2, xv2, h2, G2, e2, R2, ry, o2⟩ => ?_)) (plain_marks (op := c.op) (mt_plain m4))
        obtain ⟨ho, o3⟩ := lnk_ok (P := P) (d := d) o2.qT
        refine thn (ord_ok gm.gd tk I2 R2 ho (rx.le e2.le) ry r1 r2 o3) fun dd s3 ⟨zz, H3, I3, r3, k, e, h3, G3, e3, R3, o4⟩ => ?_
        subst e
        cases r3
        refine wpAny_truthy_bool ?_
        cases k with
        | false => exact ite_ff ⟨H3, I3, OkR.valB o4 R3⟩
        | true =>
          have o4 : OkR T σ W G3 H3 ((evE (cx P d) z σe h3).bind fun z h => lnk c xv2 z h) (KB Q) := o4
          refine ite_tt (test_last (thn (sdE z gm tk m4 R3 (rs.le ((e1.le.trans e2.le).trans e3.le)) o4.q pins s3 I3) fun w' s4 ⟨v4, H4, I4, r4, xv4, h4, G4, e4, R4, rz, o5⟩ => ?_))
          obtain ⟨ho', o6⟩ := lnk_ok (P := P) (d := d) o5
          refine thn (ord_ok gm.gd tk I4 R4 ho' (ry.le (e3.le.trans e4.le)) rz r2 r4 o6) fun d5 s5 ⟨z5, H5, I5, r5, k5, ee, o7⟩ => ?_
          subst ee
          cases r5
          exact wpAny_truthy_bool ⟨H5, I5, o7⟩
      | [], _, m => exact Bool.noConfusion m
      | [_], _, m => exact Bool.noConfusion m
      | [_, _], [], m => exact Bool.noConfusion m
      | [_, _], [_], m => exact Bool.noConfusion m
      | [_, _], _ :: _ :: _ :: _, m => exact Bool.noConfusion m
      | _ :: _ :: _ :: _, [], m => exact Bool.noConfusion m
      | _ :: _ :: _ :: _, _ :: _, m => exact Bool.noConfusion m
    | _ => exact Bool.noConfusion m
  | .not x, X, M, W, pe, σ, σe, H, G, h, Q, gm, tk, m, R, rs, o => by
    cases pe with
    | UnaryOp op px pos =>
      cases op with
      | Not =>
        have m : mtQ M.st M.gl M.cl M.N M.sc x px = true := m
        rw [evT_not] at o
        intro pins s I
        refine isTrue_not (thn (sdT x gm tk m R rs o.qT pins s I) fun b s1 ⟨H1, I1, h1, G1, e1, R1, o1⟩ => ⟨H1, I1, o1.valB R1⟩)
      | _ => exact Bool.noConfusion m
    | _ => exact Bool.noConfusion m
  | .and es, X, M, W, pe, σ, σe, H, G, h, Q, gm, tk, m, R, rs, o => by
    cases pe with
    | BoolOp op ps pos =>
      cases op with
      | And =>
        have m : (!ps.isEmpty && mtQs M.st M.gl M.cl M.N M.sc es ps) = true := m
        rw [Bool.and_eq_true] at m
        intro pins s I
        exact sdAndT es gm tk m.1 m.2 R rs o _ pins s I
      | Or => exact Bool.noConfusion m
    | _ => exact Bool.noConfusion m
  | .or es, X, M, W, pe, σ, σe, H, G, h, Q, gm, tk, m, R, rs, o => by
    cases pe with
    | BoolOp op ps pos =>
      cases op with
      | Or =>
        have m : (!ps.isEmpty && mtQs M.st M.gl M.cl M.N M.sc es ps) = true := m
        rw [Bool.and_eq_true] at m
        intro pins s I
        exact sdOrT es gm tk m.1 m.2 R rs o _ pins s I
      | And => exact Bool.noConfusion m
    | _ => exact Bool.noConfusion m
  | .v _, _, _, _, _, _, _, _, _, _, _, _, _, m, _, _, _ => Bool.noConfusion m
  | .g _, _, _, _, _, _, _, _, _, _, _, _, _, m, _, _, _ => Bool.noConfusion m
  | .ty _, _, _, _, _, _, _, _, _, _, _, _, _, m, _, _, _ => Bool.noConfusion m
  | .i _, _, _, _, _, _, _, _, _, _, _, _, _, m, _, _, _ => Bool.noConfusion m
  | .s _, _, _, _, _, _, _, _, _, _, _, _, _, m, _, _, _ => Bool.noConfusion m
  | .b _, _, _, _, _, _, _, _, _, _, _, _, _, m, _, _, _ => Bool.noConfusion m
  | .n, _, _, _, _, _, _, _, _, _, _, _, _, m, _, _, _ => Bool.noConfusion m
  | .bin _ _ _, _, _, _, _, _, _, _, _, _, _, _, _, m, _, _, _ => Bool.noConfusion m
  | .neg _, _, _, _, _, _, _, _, _, _, _, _, _, m, _, _, _ => Bool.noConfusion m
  | .pos _, _, _, _, _, _, _, _, _, _, _, _, _, m, _, _, _ => Bool.noConfusion m
  | .ite _ _ _, _, _, _, _, _, _, _, _, _, _, _, _, m, _, _, _ => Bool.noConfusion m
  | .att _ _, _, _, _, _, _, _, _, _, _, _, _, _, m, _, _, _ => Bool.noConfusion m
  | .sub _ _, _, _, _, _, _, _, _, _, _, _, _, _, m, _, _, _ => Bool.noConfusion m
  | .slc _ _ _, _, _, _, _, _, _, _, _, _, _, _, _, m, _, _, _ => Bool.noConfusion m
  | .tup _, _, _, _, _, _, _, _, _, _, _, _, _, m, _, _, _ => Bool.noConfusion m
  | .lst _ _, _, _, _, _, _, _, _, _, _, _, _, _, m, _, _, _ => Bool.noConfusion m
  | .cat _ _ _, _, _, _, _, _, _, _, _, _, _, _, _, m, _, _, _ => Bool.noConfusion m
  | .lof _ _, _, _, _, _, _, _, _, _, _, _, _, _, m, _, _, _ => Bool.noConfusion m
  | .tof _, _, _, _, _, _, _, _, _, _, _, _, _, m, _, _, _ => Bool.noConfusion m
  | .lset _, _, _, _, _, _, _, _, _, _, _, _, _, m, _, _, _ => Bool.noConfusion m
  | .rev _, _, _, _, _, _, _, _, _, _, _, _, _, m, _, _, _ => Bool.noConfusion m
  | .srt _, _, _, _, _, _, _, _, _, _, _, _, _, m, _, _, _ => Bool.noConfusion m
  | .dic _ _ _, _, _, _, _, _, _, _, _, _, _, _, _, m, _, _, _ => Bool.noConfusion m
  | .call _ _ _, _, _, _, _, _, _, _, _, _, _, _, _, m, _, _, _ => Bool.noConfusion m
  | .bu _ _, _, _, _, _, _, _, _, _, _, _, _, _, m, _, _, _ => Bool.noConfusion m
  | .met _ _ _ _, _, _, _, _, _, _, _, _, _, _, _, _, m, _, _, _ => Bool.noConfusion m
  | .lc _ _ _ _ _, _, _, _, _, _, _, _, _, _, _, _, _, m, _, _, _ => Bool.noConfusion m
  | .bad, _, _, _, _, _, _, _, _, _, _, _, _, m, _, _, _ => Bool.noConfusion m
  | .ni, _, _, _, _, _, _, _, _, _, _, _, _, m, _, _, _ => Bool.noConfusion m
  | .binr _ _ _, _, _, _, _, _, _, _, _, _, _, _, _, m, _, _, _ => Bool.noConfusion m
theorem sdAnd : ∀ (es : List E) {X : Cx} {M : Mt} {W : L2.WX} {ps : List Expr} {pos : Pos} {σ : L2.St} {σe : Env} {H : Hp} {G : Gh} {h : EH} {Q : VK}, GoodM T P d X M → Takes X W → mtEs M.st M.gl M.cl M.N M.sc es ps = true → Rel T G h H → RepS T G σe σ →
    OkR T σ W G H (evAnd (cx P d) es σe h) (KV T Q) → SE X (.BoolOp .And ps pos) σ H Q
  | [], X, M, W, ps, pos, σ, σe, H, G, h, Q, gm, tk, m, R, rs, o => (show False from o).elim
  | [e], X, M, W, ps, pos, σ, σe, H, G, h, Q, gm, tk, m, R, rs, o => by
    match ps, m with
    | [p], m =>
      have m : (mtE M.st M.gl M.cl M.N M.sc e p && true) = true := m
      rw [Bool.and_true] at m
      rw [evAnd_one, bind_pure] at o
      exact SE.of (pe_one (peS X p)) (sdE e gm tk m R rs o)
    | [], m => exact Bool.noConfusion m
    | _ :: _ :: _, m => exact absurd (Bool.and_eq_true_iff.mp m).2 Bool.noConfusion
  | e :: f :: r, X, M, W, ps, pos, σ, σe, H, G, h, Q, gm, tk, m, R, rs, o => by
    match ps, m with
    | p :: q :: ps, m =>
      have m : (mtE M.st M.gl M.cl M.N M.sc e p && mtEs M.st M.gl M.cl M.N M.sc (f :: r) (q :: ps)) = true := m
      rw [Bool.and_eq_true] at m
      rw [evAnd_cons] at o
      refine SE.of (pe_and (peS X p) (peS X (.BoolOp .And (q :: ps) pos))) ?_
      intro pins s I
      refine thn (sdE e gm tk m.1 R rs o.q pins s I) fun u s1 ⟨v, H1, I1, r1, xv, h1, G1, e1, R1, rx, o1⟩ => ⟨v, H1, I1, r1, ?_⟩
      cases xv with
      | bl b =>
        cases rx
        refine ⟨b, rfl, ?_⟩
        cases b with
        | true => exact ite_tt (sdAnd (f :: r) gm tk m.2 R1 (rs.le e1.le) o1)
        | false => exact ite_ff (OkR.val o1 R1 rfl)
      | _ => exact (show False from o1).elim
    | [], m => exact Bool.noConfusion m
    | [_], m => exact absurd (Bool.and_eq_true_iff.mp m).2 Bool.noConfusion
theorem sdOr : ∀ (es : List E) {X : Cx} {M : Mt} {W : L2.WX} {ps : List Expr} {pos : Pos} {σ : L2.St} {σe : Env} {H : Hp} {G : Gh} {h : EH} {Q : VK}, GoodM T P d X M → Takes X W → mtEs M.st M.gl M.cl M.N M.sc es ps = true → Rel T G h H → RepS T G σe σ →
    OkR T σ W G H (evOr (cx P d) es σe h) (KV T Q) → SE X (.BoolOp .Or ps pos) σ H Q
  | [], X, M, W, ps, pos, σ, σe, H, G, h, Q, gm, tk, m, R, rs, o => (show False from o).elim
  | [e], X, M, W, ps, pos, σ, σe, H, G, h, Q, gm, tk, m, R, rs, o => by
    match ps, m with
    | [p], m =>
      have m : (mtE M.st M.gl M.cl M.N M.sc e p && true) = true := m
      rw [Bool.and_true] at m
      rw [evOr_one, bind_pure] at o
      exact SE.of (pe_one (peS X p)) (sdE e gm tk m R rs o)
    | [], m => exact Bool.noConfusion m
    | _ :: _ :: _, m => exact absurd (Bool.and_eq_true_iff.mp m).2 Bool.noConfusion
  | e :: f :: r, X, M, W, ps, pos, σ, σe, H, G, h, Q, gm, tk, m, R, rs, o => by
    match ps, m with
    | p :: q :: ps, m =>
      have m : (mtE M.st M.gl M.cl M.N M.sc e p && mtEs M.st M.gl M.cl M.N M.sc (f :: r) (q :: ps)) = true := m
      rw [Bool.and_eq_true] at m
      rw [evOr_cons] at o
      refine SE.of (pe_or (peS X p) (peS X (.BoolOp .Or (q :: ps) pos))) ?_
      intro pins s I
      refine thn (sdE e gm tk m.1 R rs o.q pins s I) fun u s1 ⟨v, H1, I1, r1, xv, h1, G1, e1, R1, rx, o1⟩ => ⟨v, H1, I1, r1, ?_⟩
      cases xv with
      | bl b =>
        cases rx
        refine ⟨b, rfl, ?_⟩
        cases b with
        | true => exact ite_tt (OkR.val o1 R1 rfl)
        | false => exact ite_ff (sdOr (f :: r) gm tk m.2 R1 (rs.le e1.le) o1)
      | _ => exact (show False from o1).elim
    | [], m => exact Bool.noConfusion m
    | [_], m => exact absurd (Bool.and_eq_true_iff.mp m).2 Bool.noConfusion
theorem sdAndT : ∀ (es : List E) {X : Cx} {M : Mt} {W : L2.WX} {ps : List Expr} {pos : Pos} {σ : L2.St} {σe : Env} {H : Hp} {G : Gh} {h : EH} {Q : Bool → Hp → Prop}, GoodM T P d X M → Takes X W → (!ps.isEmpty) = true → mtQs M.st M.gl M.cl M.N M.sc es ps = true → Rel T G h H → RepS T G σe σ →
    OkR T σ W G H (evAndT (cx P d) es σe h) (KB Q) → SW X (.BoolOp .And ps pos) σ H Q
  | [], X, M, W, ps, pos, σ, σe, H, G, h, Q, gm, tk, ne, m, R, rs, o => by
    cases ps with
    | nil => cases ne
    | cons => exact Bool.noConfusion m
  | [e], X, M, W, ps, pos, σ, σe, H, G, h, Q, gm, tk, ne, m, R, rs, o => by
    match ps, m with
    | [p], m =>
      have m : (mtQ M.st M.gl M.cl M.N M.sc e p && true) = true := m
      rw [Bool.and_true] at m
      rw [evAndT_cons] at o
      intro wh pins s I
      refine (pw_and1 (ptS X p)).run wh pins s σ H Q I ?_
      intro pins s I
      refine thn (sdT e gm tk m R rs o.qT pins s I) fun b s1 ⟨H1, I1, h1, G1, e1, R1, o1⟩ => ⟨H1, I1, ?_⟩
      cases b with
      | true => exact OkR.valB o1 R1
      | false => exact OkR.valB o1 R1
    | [], m => exact Bool.noConfusion m
    | _ :: _ :: _, m => exact absurd (Bool.and_eq_true_iff.mp m).2 Bool.noConfusion
  | e :: f :: r, X, M, W, ps, pos, σ, σe, H, G, h, Q, gm, tk, ne, m, R, rs, o => by
    match ps, m with
    | p :: q :: ps, m =>
      have m : (mtQ M.st M.gl M.cl M.N M.sc e p && mtQs M.st M.gl M.cl M.N M.sc (f :: r) (q :: ps)) = true := m
      rw [Bool.and_eq_true] at m
      rw [evAndT_cons] at o
      intro wh pins s I
      refine (pw_and (ptS X p) (pwS X (.BoolOp .And (q :: ps) pos))).run wh pins s σ H Q I ?_
      intro pins s I
      refine thn (sdT e gm tk m.1 R rs o.qT pins s I) fun b s1 ⟨H1, I1, h1, G1, e1, R1, o1⟩ => ⟨H1, I1, ?_⟩
      cases b with
      | true => exact ite_tt (sdAndT (f :: r) gm tk rfl m.2 R1 (rs.le e1.le) o1)
      | false => exact ite_ff (OkR.valB o1 R1)
    | [], m => exact Bool.noConfusion m
    | [_], m => exact absurd (Bool.and_eq_true_iff.mp m).2 Bool.noConfusion
theorem sdOrT : ∀ (es : List E) {X : Cx} {M : Mt} {W : L2.WX} {ps : List Expr} {pos : Pos} {σ : L2.St} {σe : Env} {H : Hp} {G : Gh} {h : EH} {Q : Bool → Hp → Prop}, GoodM T P d X M → Takes X W → (!ps.isEmpty) = true → mtQs M.st M.gl M.cl M.N M.sc es ps = true → Rel T G h H → RepS T G σe σ →
    OkR T σ W G H (evOrT (cx P d) es σe h) (KB Q) → SW X (.BoolOp .Or ps pos) σ H Q
  | [], X, M, W, ps, pos, σ, σe, H, G, h, Q, gm, tk, ne, m, R, rs, o => by
    cases ps with
    | nil => cases ne
    | cons => exact Bool.noConfusion m
  | [e], X, M, W, ps, pos, σ, σe, H, G, h, Q, gm, tk, ne, m, R, rs, o => by
    match ps, m with
    | [p], m =>
      have m : (mtQ M.st M.gl M.cl M.N M.sc e p && true) = true := m
      rw [Bool.and_true] at m
      rw [evOrT_cons] at o
      intro wh pins s I
      refine (pw_or1 (ptS X p)).run wh pins s σ H Q I ?_
      intro pins s I
      refine thn (sdT e gm tk m R rs o.qT pins s I) fun b s1 ⟨H1, I1, h1, G1, e1, R1, o1⟩ => ⟨H1, I1, ?_⟩
      cases b with
      | true => exact OkR.valB o1 R1
      | false => exact OkR.valB o1 R1
    | [], m => exact Bool.noConfusion m
    | _ :: _ :: _, m => exact absurd (Bool.and_eq_true_iff.mp m).2 Bool.noConfusion
  | e :: f :: r, X, M, W, ps, pos, σ, σe, H, G, h, Q, gm, tk, ne, m, R, rs, o => by
    match ps, m with
    | p :: q :: ps, m =>
      have m : (mtQ M.st M.gl M.cl M.N M.sc e p && mtQs M.st M.gl M.cl M.N M.sc (f :: r) (q :: ps)) = true := m
      rw [Bool.and_eq_true] at m
      rw [evOrT_cons] at o
      intro wh pins s I
      refine (pw_or (ptS X p) (pwS X (.BoolOp .Or (q :: ps) pos))).run wh pins s σ H Q I ?_
      intro pins s I
      refine thn (sdT e gm tk m.1 R rs o.qT pins s I) fun b s1 ⟨H1, I1, h1, G1, e1, R1, o1⟩ => ⟨H1, I1, ?_⟩
      cases b with
      | true => exact ite_tt (OkR.valB o1 R1)
      | false => exact ite_ff (sdOrT (f :: r) gm tk rfl m.2 R1 (rs.le e1.le) o1)
    | [], m => exact Bool.noConfusion m
    | [_], m => exact absurd (Bool.and_eq_true_iff.mp m).2 Bool.noConfusion
theorem sdA : ∀ (es : List E) {X : Cx} {M : Mt} {W : L2.WX} {ps : List Expr} {σ : L2.St} {σe : Env} {H : Hp} {G : Gh} {h : EH} {Q : List V → Hp → Prop}, GoodM T P d X M → Takes X W → mtEs M.st M.gl M.cl M.N M.sc es ps = true → Rel T G h H → RepS T G σe σ →
    OkR T σ W G H (evEs (cx P d) es σe h) (KL T Q) → SA X ps σ H Q
  | [], X, M, W, ps, σ, σe, H, G, h, Q, gm, tk, m, R, rs, o => by
    cases ps with
    | nil => exact SA.of pa_nil (o G H (Ev.refl _ _) R [] rfl)
    | cons => exact Bool.noConfusion m
  | e :: es, X, M, W, ps, σ, σe, H, G, h, Q, gm, tk, m, R, rs, o => by
    cases ps with
    | nil => exact Bool.noConfusion m
    | cons p ps =>
      have m : (mtE M.st M.gl M.cl M.N M.sc e p && mtEs M.st M.gl M.cl M.N M.sc es ps) = true := m
      rw [Bool.and_eq_true] at m
      rw [evEs_cons] at o
      refine SA.of (pa_cons (peS X p) (paS X ps) (plain_star (mt_plain m.1))) ?_
      intro pins s I
      refine thn (sdE e gm tk m.1 R rs o.q pins s I) fun u s1 ⟨v, H1, I1, r1, xv, h1, G1, e1, R1, rx, o1⟩ => ⟨v, H1, I1, r1, ?_⟩
      intro pos pins s I
      refine thn (sdA es gm tk m.2 R1 (rs.le e1.le) o1.qL pos pins s I) fun us s2 ⟨ys, H2, I2, r2, xs, h2, G2, e2, R2, rxs, o2⟩ => ⟨ys, H2, I2, r2, ?_⟩
      exact o2 G2 H2 (Ev.refl _ _) R2 _ (RepL.cons (rx.le e2.le) rxs)
theorem sdK : ∀ (es : List (Nm × E)) {X : Cx} {M : Mt} {W : L2.WX} {ps : List Keyword} {σ : L2.St} {σe : Env} {H : Hp} {G : Gh} {h : EH} {Q : List V → Hp → Prop}, GoodM T P d X M → Takes X W → mtKs M.st M.gl M.cl M.N M.sc es ps = true → Rel T G h H → RepS T G σe σ →
    OkR T σ W G H (evKs (cx P d) es σe h) (KK T (es.map (·.1)) Q) → SK X ps σ H Q
  | [], X, M, W, ps, σ, σe, H, G, h, Q, gm, tk, m, R, rs, o => by
    cases ps with
    | nil => exact SK.of pk_nil (o G H (Ev.refl _ _) R rfl [] rfl)
    | cons => exact Bool.noConfusion m
  | (n, e) :: es, X, M, W, ps, σ, σe, H, G, h, Q, gm, tk, m, R, rs, o => by
    match ps, m with
    | [], m => exact Bool.noConfusion m
    | ⟨none, _, _⟩ :: _, m => exact Bool.noConfusion m
    | ⟨some y, p, kp⟩ :: ps, m =>
      have m : (decide (M.st n = y) && mtE M.st M.gl M.cl M.N M.sc e p && mtKs M.st M.gl M.cl M.N M.sc es ps) = true := m
      rw [Bool.and_eq_true, Bool.and_eq_true] at m
      rw [evKs_cons] at o
      refine SK.of (pk_cons (peS X p) (pkS X ps)) ?_
      intro pins s I
      refine thn (sdE e gm tk m.1.2 R rs o.q pins s I) fun u s1 ⟨v, H1, I1, r1, xv, h1, G1, e1, R1, rx, o1⟩ => ⟨v, H1, I1, r1, ?_⟩
      intro pos pins s I
      refine thn (sdK es gm tk m.2 R1 (rs.le e1.le) o1.qK pos pins s I) fun us s2 ⟨ys, H2, I2, r2, xs, h2, G2, e2, R2, hn, rxs, o2⟩ => ⟨ys, H2, I2, r2, ?_⟩
      exact o2 G2 H2 (Ev.refl _ _) R2 (by rw [List.map_cons, List.map_cons, hn]) _ (RepL.cons (rx.le e2.le) rxs)
theorem sdI : ∀ (it : I) {X : Cx} {M : Mt} {W : L2.WX} {pe tg : Expr} {σ : L2.St} {σe : Env} {H : Hp} {G : Gh} {h : EH} {Q : It → Hp → Prop}, GoodM T P d X M → Takes X W → mtI M.st M.gl M.cl M.N M.sc it pe tg = true → Rel T G h H → RepS T G σe σ →
    OkR T σ W G H (evI (cx P d) it σe h) (fun p h1 G1 H1 => ∀ J, JOk T G1 J p.1 p.2 → p.1.ok h1 → Q J H1) → SI X tg pe σ H Q
  | .seq a, X, M, W, pe, tg, σ, σe, H, G, h, Q, gm, tk, m, R, rs, o => by
    have m : mtE M.st M.gl M.cl M.N M.sc a pe = true := m
    rw [evI_seq] at o
    intro pins s I
    have key : SE X pe σ H fun x H1 => (∃ a, x = .ref a ∧ (∃ xs, SqL X.K H1 a xs) ∧ Q (Itl X.K a) H1) ∨ (∃ a, x = .ref a ∧ (∃ xs, SqT X.K H1 a xs) ∧ Q (Itt X.K a) H1) ∨ ∃ z, x = .str z ∧ Q (Its z) H1 := by
      refine SE.mono (sdE a gm tk m R rs o.q) ?_
      rintro y H1 ⟨v, h1, G1, e1, R1, rx, o1⟩
      cases v with
      | str z =>
        cases rx
        exact .inr (.inr ⟨z, rfl, o1 G1 H1 (Ev.refl _ _) R1 _ j_str trivial⟩)
      | tup xs =>
        obtain ⟨b, rfl, k⟩ := at_tup (q := .std) rx
        obtain ⟨ys, s1, _⟩ := k G1 h1 H1 (Le.refl _) R1 trivial
        refine .inr (.inl ⟨b, rfl, ⟨ys, gm.gd.K ▸ s1⟩, ?_⟩)
        rw [gm.gd.K]
        exact o1 G1 H1 (Ev.refl _ _) R1 _ (j_tup k) trivial
      | lst xs =>
        obtain ⟨b, rfl, k⟩ := at_lst (q := .std) rx
        obtain ⟨ys, s1, _⟩ := k G1 h1 H1 (Le.refl _) R1 trivial
        refine .inl ⟨b, rfl, ⟨ys, gm.gd.K ▸ s1⟩, ?_⟩
        rw [gm.gd.K]
        exact o1 G1 H1 (Ev.refl _ _) R1 _ (j_list k) trivial
      | loc n =>
        dsimp only at o1
        cases z : hget n h1 with
        | none => rw [z] at o1; exact o1.elim
        | some ob =>
          rw [z] at o1
          cases ob with
          | lst xs =>
            obtain ⟨b, rfl, k⟩ := at_loc (xs := xs) rx
            obtain ⟨ys, s1, _⟩ := k G1 h1 H1 (Le.refl _) R1 z
            refine .inl ⟨b, rfl, ⟨ys, gm.gd.K ▸ s1⟩, ?_⟩
            rw [gm.gd.K]
            exact o1 G1 H1 (Ev.refl _ _) R1 _ (j_list k) z
          | _ => exact o1.elim
      | _ => exact o1.elim
    refine thn (key pins s I) fun u s1 ⟨x, H1, I1, r1, q1⟩ => ?_
    rcases q1 with ⟨b, rfl, ⟨xs, sq⟩, q⟩ | ⟨b, rfl, ⟨xs, sq⟩, q⟩ | ⟨z, rfl, q⟩
    · cases r1; exact iter_lst I1 sq q
    · cases r1; exact iter_tup I1 sq q
    · exact iter_str I1 r1 q
  | .enum a, X, M, W, pe, tg, σ, σe, H, G, h, Q, gm, tk, m, R, rs, o => by
    match pe, tg, m with
    | .Call (.Name x p) [q] [] pos, .Tuple elts kk tpos, m =>
      have m : (decide (x = ("enumerate" : Str)) && glB M.sc x && mtE M.st M.gl M.cl M.N M.sc a q) = true := m
      rw [Bool.and_eq_true, Bool.and_eq_true] at m
      have m1 := of_decide_eq_true m.1.1
      subst m1
      rw [evI_enum] at o
      intro pins s I
      refine (pi_enum (gl_ok gm.sc m.1.2) (gm.nob "enumerate" (by decide)) (paS X [q]) (plain_star (mt_plain m.2))).run pins s σ H _ I ?_
      intro pos pins s I
      have ha : SA X [q] σ H fun vs H1 => ∃ a xs, vs = [.ref a] ∧ SqL X.K H1 a xs ∧ Q (Ite X.K a) H1 := by
        refine SA.of (pa_cons (peS X q) pa_nil (plain_star (mt_plain m.2))) ?_
        refine SE.mono (sdE a gm tk m.2 R rs o.q) ?_
        rintro y H1 ⟨v, h1, G1, e1, R1, rx, o1⟩
        cases v with
        | lst xs =>
          obtain ⟨b, rfl, k⟩ := at_lst (q := .std) rx
          obtain ⟨ys, s1, _⟩ := k G1 h1 H1 (Le.refl _) R1 trivial
          refine ⟨b, ys, rfl, gm.gd.K ▸ s1, ?_⟩
          rw [gm.gd.K]
          exact o1 G1 H1 (Ev.refl _ _) R1 _ (j_enum k) trivial
        | loc n =>
          dsimp only at o1
          cases z : hget n h1 with
          | none => rw [z] at o1; exact o1.elim
          | some ob =>
            rw [z] at o1
            cases ob with
            | lst xs =>
              obtain ⟨b, rfl, k⟩ := at_loc (xs := xs) rx
              obtain ⟨ys, s1, _⟩ := k G1 h1 H1 (Le.refl _) R1 z
              refine ⟨b, ys, rfl, gm.gd.K ▸ s1, ?_⟩
              rw [gm.gd.K]
              exact o1 G1 H1 (Ev.refl _ _) R1 _ (j_enum k) z
            | _ => exact o1.elim
        | _ => exact o1.elim
      exact ha pos pins s I
  | .zip a b, X, M, W, pe, tg, σ, σe, H, G, h, Q, gm, tk, m, R, rs, o => by
    match pe, tg, m with
    | .Call (.Name x p) [q, r] [] pos, .Tuple elts kk tpos, m =>
      have m : (decide (x = ("zip" : Str)) && glB M.sc x && mtE M.st M.gl M.cl M.N M.sc a q && mtE M.st M.gl M.cl M.N M.sc b r) = true := m
      rw [Bool.and_eq_true, Bool.and_eq_true, Bool.and_eq_true] at m
      have m1 := of_decide_eq_true m.1.1.1
      subst m1
      rw [evI_zip] at o
      intro pins s I
      have hs1 := plain_star (es := [r]) (env := X.env) (mt_plain m.1.2)
      have hs2 := plain_star (es := []) (env := X.env) (mt_plain m.2)
      refine (pi_zipM (gl_ok gm.sc m.1.1.2) (gm.nob "zip" (by decide)) (paS X [q, r]) hs1 (by rw [hs2]; rfl)).run pins s σ H _ I ?_
      intro pos pins s I
      have ha : SA X [q, r] σ H fun vs H1 => ∃ a b xs ys, vs = [.ref a, .ref b] ∧ ((SqL X.K H1 a xs ∧ SqL X.K H1 b ys ∧ Q (Itz X.K a b) H1) ∨ (SqT X.K H1 a xs ∧ SqT X.K H1 b ys ∧ Q (RZ.ItzT X.K a b) H1) ∨ (SqT X.K H1 a xs ∧ SqL X.K H1 b ys ∧ Q (ItzM X.K a b) H1)) := by
        refine SA.of (pa_cons (peS X q) (pa_cons (peS X r) pa_nil hs2) hs1) ?_
        refine SE.mono (sdE a gm tk m.1.2 R rs o.q) ?_
        rintro y H1 ⟨v, h1, G1, e1, R1, rx, o1⟩
        refine SE.mono (sdE b gm tk m.2 R1 (rs.le e1.le) o1.q) ?_
        rintro y2 H2 ⟨v2, h2, G2, e2, R2, rx2, o2⟩
        have rx := rx.le e2.le
        cases v with
        | lst xs =>
          cases v2 with
          | lst us =>
            obtain ⟨c, rfl, k⟩ := at_lst (q := .std) rx
            obtain ⟨c', rfl, k'⟩ := at_lst (q := .std) rx2
            obtain ⟨ys, s1, _⟩ := k G2 h2 H2 (Le.refl _) R2 trivial
            obtain ⟨ys', s1', _⟩ := k' G2 h2 H2 (Le.refl _) R2 trivial
            refine ⟨c, c', ys, ys', rfl, .inl ⟨gm.gd.K ▸ s1, gm.gd.K ▸ s1', ?_⟩⟩
            rw [gm.gd.K]
            exact o2 G2 H2 (Ev.refl _ _) R2 _ (j_zip k k') trivial
          | loc n =>
            dsimp only at o2
            cases z : hget n h2 with
            | none => rw [z] at o2; exact o2.elim
            | some ob =>
              rw [z] at o2
              cases ob with
              | lst us =>
                obtain ⟨c, rfl, k⟩ := at_lst (q := .at n us) rx
                obtain ⟨c', rfl, k'⟩ := at_loc (xs := us) rx2
                obtain ⟨ys, s1, _⟩ := k G2 h2 H2 (Le.refl _) R2 z
                obtain ⟨ys', s1', _⟩ := k' G2 h2 H2 (Le.refl _) R2 z
                refine ⟨c, c', ys, ys', rfl, .inl ⟨gm.gd.K ▸ s1, gm.gd.K ▸ s1', ?_⟩⟩
                rw [gm.gd.K]
                exact o2 G2 H2 (Ev.refl _ _) R2 _ (j_zip k k') z
              | _ => exact o2.elim
          | _ => exact o2.elim
        | tup xs =>
          cases v2 with
          | tup us =>
            obtain ⟨c, rfl, k⟩ := at_tup (q := .std) rx
            obtain ⟨c', rfl, k'⟩ := at_tup (q := .std) rx2
            obtain ⟨ys, s1, _⟩ := k G2 h2 H2 (Le.refl _) R2 trivial
            obtain ⟨ys', s1', _⟩ := k' G2 h2 H2 (Le.refl _) R2 trivial
            refine ⟨c, c', ys, ys', rfl, .inr (.inl ⟨gm.gd.K ▸ s1, gm.gd.K ▸ s1', ?_⟩)⟩
            rw [gm.gd.K]
            exact o2 G2 H2 (Ev.refl _ _) R2 _ (j_zipT k k') trivial
          | lst us =>
            obtain ⟨c, rfl, k⟩ := at_tup (q := .std) rx
            obtain ⟨c', rfl, k'⟩ := at_lst (q := .std) rx2
            obtain ⟨ys, s1, _⟩ := k G2 h2 H2 (Le.refl _) R2 trivial
            obtain ⟨ys', s1', _⟩ := k' G2 h2 H2 (Le.refl _) R2 trivial
            refine ⟨c, c', ys, ys', rfl, .inr (.inr ⟨gm.gd.K ▸ s1, gm.gd.K ▸ s1', ?_⟩)⟩
            rw [gm.gd.K]
            exact o2 G2 H2 (Ev.refl _ _) R2 _ (j_zipM k k') trivial
          | loc n =>
            dsimp only at o2
            cases z : hget n h2 with
            | none => rw [z] at o2; exact o2.elim
            | some ob =>
              rw [z] at o2
              cases ob with
              | lst us =>
                obtain ⟨c, rfl, k⟩ := at_tup (q := .at n us) rx
                obtain ⟨c', rfl, k'⟩ := at_loc (xs := us) rx2
                obtain ⟨ys, s1, _⟩ := k G2 h2 H2 (Le.refl _) R2 z
                obtain ⟨ys', s1', _⟩ := k' G2 h2 H2 (Le.refl _) R2 z
                refine ⟨c, c', ys, ys', rfl, .inr (.inr ⟨gm.gd.K ▸ s1, gm.gd.K ▸ s1', ?_⟩)⟩
                rw [gm.gd.K]
                exact o2 G2 H2 (Ev.refl _ _) R2 _ (j_zipM k k') z
              | _ => exact o2.elim
          | _ => exact o2.elim
        | _ => exact o2.elim
      exact ha pos pins s I
  | .range es, X, M, W, pe, tg, σ, σe, H, G, h, Q, gm, tk, m, R, rs, o => by
    match es, pe, m with
    | [e], .Call (.Name x p) [q] [] pos, m =>
      have m : (decide (x = ("range" : Str)) && glB M.sc x && (mtE M.st M.gl M.cl M.N M.sc e q && true)) = true := m
      rw [Bool.and_true, Bool.and_eq_true, Bool.and_eq_true] at m
      have m1 := of_decide_eq_true m.1.1
      subst m1
      have hs := plain_star (es := []) (env := X.env) (mt_plain m.2)
      rw [evI_range1] at o
      intro pins s I
      refine (pi_range1 (gl_ok gm.sc m.1.2) (gm.nob "range" (by decide)) (paS X [q]) hs).run pins s σ H _ I ?_
      have ha : SA X [q] σ H fun vs H1 => ∃ j : Int, vs = [.int j] ∧ -(2 ^ 62) ≤ j ∧ j < 2 ^ 62 ∧ Q (Itr 0 j.toNat) H1 := by
        refine SA.of (pa_cons (peS X q) pa_nil hs) ?_
        refine SE.mono (sdE e gm tk m.2 R rs o.q) ?_
        rintro y H1 ⟨v, h1, G1, e1, R1, rx, o1⟩
        cases v with
        | int n =>
          cases rx
          dsimp only at o1
          split at o1
          · rename_i hn
            exact ⟨n, rfl, hn.2, hn.1, o1 G1 H1 (Ev.refl _ _) R1 _ j_range trivial⟩
          · exact o1.elim
        | _ => exact o1.elim
      exact ha
    | [e, f], .Call (.Name x p) [q, r] [] pos, m =>
      have m : (decide (x = ("range" : Str)) && glB M.sc x && (mtE M.st M.gl M.cl M.N M.sc e q && (mtE M.st M.gl M.cl M.N M.sc f r && true))) = true := m
      rw [Bool.and_true, Bool.and_eq_true, Bool.and_eq_true, Bool.and_eq_true] at m
      have m1 := of_decide_eq_true m.1.1
      subst m1
      have hs1 := plain_star (es := [r]) (env := X.env) (mt_plain m.2.1)
      have hs2 := plain_star (es := []) (env := X.env) (mt_plain m.2.2)
      rw [evI_range2] at o
      intro pins s I
      refine (pi_range2 (gl_ok gm.sc m.1.2) (gm.nob "range" (by decide)) (paS X [q, r]) (by rw [hs1, hs2]; rfl) hs2).run pins s σ H _ I ?_
      have ha : SA X [q, r] σ H fun vs H1 => ∃ i j : Int, vs = [.int i, .int j] ∧ (-(2 ^ 62) ≤ i ∧ i < 2 ^ 62 ∧ -(2 ^ 62) ≤ j ∧ j < 2 ^ 62) ∧ Q (Itr i (j - i).toNat) H1 := by
        refine SA.of (pa_cons (peS X q) (pa_cons (peS X r) pa_nil hs2) hs1) ?_
        refine SE.mono (sdE e gm tk m.2.1 R rs o.q) ?_
        rintro y H1 ⟨v, h1, G1, e1, R1, rx, o1⟩
        refine SE.mono (sdE f gm tk m.2.2 R1 (rs.le e1.le) o1.q) ?_
        rintro y2 H2 ⟨v2, h2, G2, e2, R2, rx2, o2⟩
        cases v with
        | int k =>
          cases v2 with
          | int n =>
            cases rx; cases rx2
            dsimp only at o2
            split at o2
            · rename_i hn
              exact ⟨k, n, rfl, ⟨hn.1.2, hn.1.1, hn.2.2, hn.2.1⟩, o2 G2 H2 (Ev.refl _ _) R2 _ j_range trivial⟩
            · exact o2.elim
          | _ => exact o2.elim
        | _ => exact o2.elim
      exact ha
    | [], .Call (.Name x p) [q] [] pos, m => exact absurd (Bool.and_eq_true_iff.mp m).2 Bool.noConfusion
    | [], .Call (.Name x p) [q, _] [] pos, m => exact absurd (Bool.and_eq_true_iff.mp m).2 Bool.noConfusion
    | _ :: _ :: _, .Call (.Name x p) [q] [] pos, m => exact absurd (Bool.and_eq_true_iff.mp (Bool.and_eq_true_iff.mp m).2).2 Bool.noConfusion
    | [_], .Call (.Name x p) [q, _] [] pos, m => exact absurd (Bool.and_eq_true_iff.mp (Bool.and_eq_true_iff.mp m).2).2 Bool.noConfusion
    | _ :: _ :: _ :: _, .Call (.Name x p) [q, _] [] pos, m => exact absurd (Bool.and_eq_true_iff.mp (Bool.and_eq_true_iff.mp (Bool.and_eq_true_iff.mp m).2).2).2 Bool.noConfusion
end
end
end Py

set_option linter.all false
set_option Elab.async false
/-! My statements against the program's. -/
namespace Py
open L2 PyProof.Rows PySem.Spec PySem
def compB : Expr → Bool
  | .ListComp .. => true
  | .SetComp .. => true
  | .DictComp .. => true
  | _ => false
def tupB : Expr → Bool
  | .Tuple .. => true
  | _ => false
def docB : Stmt → Bool
  | .Expr (.Constant (.str _) _ _) _ => true
  | _ => false
/-- no docstring ahead -/
def undoc : List Stmt → List Stmt
  | s :: r => if docB s then r else s :: r
  | [] => []
def starB : Expr → Bool
  | .Starred .. => true
  | _ => false
def par2B (sc : Scope) (x y : Str) (px py : Pos) (a b : Expr) : Bool :=
  locB sc x && locB sc y && (py.line == px.line) && !(decide (x = y)) && plainX a && plainX b && !(foldedForSure 8 a && foldedForSure 8 b) && !(constantsAlone 8 a && constantsAlone 8 b)
def mtPar (st : Nm → Str) (gl cl : Nm → Bool) (N : List Str) (sc : Scope) (is : List Nat) (es : List E) (p : Stmt) : Bool := match is, es, p with
  | [i, j], [e, f], .Assign [.Tuple [.Name x px, .Name y py] _ _] (.Tuple [a, b] _ _) _ => par2B sc x y px py a b && mtL N sc i x && mtL N sc j y && mtE st gl cl N sc e a && mtE st gl cl N sc f b
  | _, _, _ => false
section
variable (st : Nm → Str) (gl cl : Nm → Bool) (N : List Str) (sc : Scope)
/-- the clause's name -/
def mtN (n : Option Nat) (x : Str) : Bool := match n with
  | some i => mtV N sc i x
  | none => false
def mtHX (n : Option Nat) : HX → Expr → Bool
  | .n, p => (match p with
    | .Constant .none _ _ => true
    | _ => false)
  | .b k, p => (match p with
    | .Constant (.bool j) _ _ => decide (k = j)
    | _ => false)
  | .i k, p => (match p with
    | .Constant (.int j) _ _ => decide (k = j)
    | _ => false)
  | .s k, p => (match p with
    | .Constant (.str j) _ _ => decide (k = j)
    | _ => false)
  | .v i, p => (match p with
    | .Name x _ => mtV N sc i x
    | _ => false)
  | .xf f, p => (match p with
    | .Attribute (.Name x _) g _ => mtN N sc n x && decide (st f = g)
    | _ => false)
  | .xm m, p => (match p with
    | .Call (.Attribute (.Name x _) g apos) [] [] pos => mtN N sc n x && decide (st m = g) && (apos.endLine == pos.line)
    | _ => false)
  | .xis c, p => (match p with
    | .Call (.Name y _) [.Name x _, .Name z _] [] _ => decide (y = ("isinstance" : Str)) && glB sc y && mtN N sc n x && decide (st c = z) && glB sc z && dbgB z && cl c
    | _ => false)
def mtHXs (n : Option Nat) : List HX → List Expr → Bool
  | [], p => p.isEmpty
  | a :: as, p => (match p with
    | x :: ps => mtHX st cl N sc n a x && mtHXs n as ps
    | _ => false)
def mtHE (n : Option Nat) : HE → Expr → Bool
  | .x a, p => mtHX st cl N sc n a p
  | .tup as, p => (match p with
    | .Tuple ps _ _ => mtHXs st cl N sc n as ps
    | _ => false)
/-- e is the clause's name -/
def mtIs (n : Option Nat) (p : Expr) : Bool := match p with
  | .Name y _ => mtN N sc n y
  | _ => false
def mtNms (cs : List Nm) (ps : List Expr) : Bool := match cs with
  | [] => ps.isEmpty
  | c :: cs => (match ps with
    | .Name z _ :: ps => decide (st c = z) && glB sc z && dbgB z && cl c && mtNms cs ps
    | _ => false)
def mtHB (n : Option Nat) : HB → Expr → Bool
  | .is true c, p => (match p with
    | .UnaryOp .Not q _ => mtHX st cl N sc n (.xis c) q
    | _ => false)
  | .is false c, p => mtHX st cl N sc n (.xis c) p
  | .isT _, _ => false
def mtHBl (n : Option Nat) : List HB → List Expr → Bool
  | [], p => p.isEmpty
  | b :: bs, p => (match p with
    | x :: ps => mtHB st cl N sc n b x && mtHBl n bs ps
    | _ => false)
def mtHBs (n : Option Nat) (bs : List HB) (p : Expr) : Bool := match bs with
  | [] => false
  | [b] => mtHB st cl N sc n b p
  | b :: c :: r => (match p with
    | .BoolOp .Or ps _ => mtHBl st cl N sc n (b :: c :: r) ps
    | _ => false)
/-- a row of one assignment -/
def tgA (tgs : List Expr) : Option Str := match tgs with
  | [t] => (match t with
    | .Name y _ => some y
    | _ => none)
  | _ => none
def oneA (bd : List Stmt) : Option (Str × Expr) := match bd with
  | [s] => (match s with
    | .Assign tgs x _ => (match tgA tgs with
      | some y => some (y, x)
      | none => none)
    | _ => none)
  | _ => none
theorem tgA_inv {tgs : List Expr} {y : Str} (h : tgA tgs = some y) : ∃ py, tgs = [.Name y py] := by
  unfold tgA at h
  split at h
  · split at h
    · cases h; exact ⟨_, rfl⟩
    · cases h
  · cases h
theorem oneA_inv {bd : List Stmt} {q : Str × Expr} (h : oneA bd = some q) : ∃ py pa, bd = [.Assign [.Name q.1 py] q.2 pa] := by
  unfold oneA at h
  split at h
  · split at h
    · split at h
      · rename_i e
        cases h
        obtain ⟨py, rfl⟩ := tgA_inv e
        exact ⟨py, _, rfl⟩
      · cases h
    · cases h
  · cases h
def mtHS (n : Option Nat) : HS → Stmt → Bool
  | .ifa bs i e, p => (match p with
    | .If t bd oe _ => oe.isEmpty && (match oneA bd with
      | some q => mtHBs st cl N sc n bs t && mtL N sc i q.1 && decide (n ≠ some i) && !compB q.2 && mtHE st cl N sc n e q.2
      | none => false)
    | _ => false)
  | .asg i e, p => (match p with
    | .Assign [.Name y _] x _ => mtL N sc i y && decide (n ≠ some i) && !compB x && mtHE st cl N sc n e x
    | _ => false)
  | .ret e, p => (match p with
    | .Return (some x) _ => mtHE st cl N sc n e x
    | _ => false)
def mtHSs (n : Option Nat) : List HS → List Stmt → Bool
  | [], p => p.isEmpty
  | a :: as, p => (match p with
    | x :: ps => mtHS st cl N sc n a x && mtHSs n as ps
    | _ => false)
def mtNm (n : Option Nat) (y : Option Str) : Bool := match n with
  | some i => (match y with
    | some y => mtL N sc i y
    | none => false)
  | none => y.isNone
def mtCls : List (Nm × Option Nat × List HS) → List ExceptHandler → Bool
  | [], p => p.isEmpty
  | q :: cs, p => (match p with
    | .ExceptHandler (some (.Name x _)) nm (s0 :: su) _ :: hds => decide (st q.1 = x) && glB sc x && dbgB x && cl q.1 && mtNm N sc q.2.1 nm && mtHSs st cl N sc q.2.1 q.2.2 (s0 :: su) && mtCls cs hds
    | _ => false)
mutual
def mtS : S → Stmt → Bool
  | .ex e, p => (match p with
    | .Expr x _ => !compB x && mtE st gl cl N sc e x
    | _ => false)
  | .asg t e, p => (match p with
    | .Assign [tg] x pos => mtTc N sc t tg && mtE st gl cl N sc e x && (match t with
      | .v _ => !compB x || (match tg, x with
        | .Name y py, .ListComp _ _ scope px => cellB sc y || ((py.line == px.line) && !(scope.names.any fun (n, k) => n == y && (k == .local || k == .cell)))
        | _, _ => false)
      | .t _ => !compB x && !tupB x)
    | _ => false)
  | .par is es, p => mtPar st gl cl N sc is es p
  | .sat o f e, p => (match p with
    | .Assign [.Attribute y g _] x _ => !compB x && decide (st f = g) && mtE st gl cl N sc o y && mtE st gl cl N sc e x
    | _ => false)
  | .sit o k e, p => (match p with
    | .Assign [.Subscript y z _] x _ => !compB x && mtE st gl cl N sc o y && mtE st gl cl N sc k z && mtE st gl cl N sc e x
    | _ => false)
  | .aug i o e, p => (match p with
    | .AugAssign (.Name x _) op q _ => decide (o.op = op) && mtLc N sc i x && mtE st gl cl N sc e q
    | _ => false)
  | .ret e, p => (match p with
    | .Return (some x) _ => mtE st gl cl N sc e x
    | _ => false)
  | .retn, p => (match p with
    | .Return none _ => true
    | _ => false)
  | .ifs c a b, p => (match p with
    | .If z x y _ => mtQ st gl cl N sc c z && mtSs a x && mtSs b y
    | _ => false)
  | .whl c b, p => (match p with
    | .While z x [] _ => mtQ st gl cl N sc c z && mtSs b x
    | _ => false)
  | .for_ t it b, p => (match p with
    | .For tg pit x [] _ => mtTc N sc t tg && mtI st gl cl N sc it pit tg && mtSs b x
    | _ => false)
  | .rai c es, p => (match p with
    | .Raise (some (.Call (.Name x _) [] [] _)) none _ => decide (st c = x) && glB sc x && dbgB x && cl c && es.isEmpty
    | .Raise (some (.Call (.Name x _) (q :: ps) [] _)) none _ => decide (st c = x) && glB sc x && dbgB x && cl c && mtEs st gl cl N sc es (q :: ps)
    | _ => false)
  | .try_ b c n hb, p => (match p with
    | .Try body [.ExceptHandler (some (.Name x _)) nm (s0 :: suite) _] [] [] _ => decide (st c = x) && glB sc x && dbgB x && cl c && mtNm N sc n nm && mtHSs st cl N sc n hb (s0 :: suite) && mtSs b body
    | _ => false)
  | .trym b cs, p => (match p with
    | .Try body (hd :: hds) [] [] _ => mtCls st cl N sc cs (hd :: hds) && mtSs b body
    | _ => false)
  | .bad, _ => true
  | .pass, p => (match p with
    | .Pass _ => true
    | _ => false)
  | .brk, p => (match p with
    | .Break _ => true
    | _ => false)
  | .cnt, p => (match p with
    | .Continue _ => true
    | _ => false)
def mtSs : List S → List Stmt → Bool
  | [], p => (match p with
    | [] => true
    | _ => false)
  | s :: ss, p => (match p with
    | x :: ps => mtS s x && mtSs ss ps
    | _ => false)
end
end
end Py

set_option linter.all false
set_option Elab.async false
set_option maxRecDepth 100000
set_option maxHeartbeats 4000017
/-! The evaluator's statements are the model's. -/
namespace Py
open L2 PyProof.Rows PySem.Spec PySem
/-- what is wanted of a statement -/
def OkS (T : Tx) (W : L2.WX) (D : Ends) (G : Gh) (H : Hp) (r : RS) : Prop := match r with
  | .ok f σe h' => ∀ G' H' σ', Ev G H G' H' → Rel T G' h' H' → RepS T G' σe σ' → (match f with
    | .nx => D.nx σ' H'
    | .rt v => ∀ y, RepV T G' v y → D.rt y H'
    | .br => D.bk σ' H'
    | .ct => D.ct σ' H')
  | .err x σe h' => ∀ G' d H' σ', Ev G H G' H' → Rel T G' h' H' → RepS T G' σe σ' → ExcAt T G' x d → W (.ref (T.ad x.c)) d σ' H'
  | .stuck => False
abbrev SS (X : Cx) (ps : Stmt) : TS := fun D σ H => ∀ pins s, Inv X pins σ H s → wpAny (model X.prog X.w) X.A (exec ps X.env) (SP X pins D) X.xe s
abbrev SSs (X : Cx) (ps : List Stmt) : TS := fun D σ H => ∀ pins s, Inv X pins σ H s → wpAny (model X.prog X.w) X.A (execs ps X.env) (SP X pins D) X.xe s
theorem psS (X : Cx) (ps : Stmt) : PS X ps (SS X ps) := ⟨fun pins s σ H D I h => h pins s I⟩
theorem pssS (X : Cx) (ps : List Stmt) : PSs X ps (SSs X ps) := ⟨fun pins s σ H D I h => h pins s I⟩
theorem SS.of {X : Cx} {ps : Stmt} {t : TS} (h : PS X ps t) {D : Ends} {σ : L2.St} {H : Hp} (q : t D σ H) : SS X ps D σ H := fun pins s I => h.run pins s σ H D I q
theorem SSs.of {X : Cx} {ps : List Stmt} {t : TS} (h : PSs X ps t) {D : Ends} {σ : L2.St} {H : Hp} (q : t D σ H) : SSs X ps D σ H := fun pins s I => h.run pins s σ H D I q
section
variable {T : Tx} {W : L2.WX} {D : Ends} {G G' : Gh} {H H' : Hp} {σ : L2.St} {σe : Env}
theorem OkS.ev {r : RS} (o : OkS T W D G H r) (e : Ev G H G' H') : OkS T W D G' H' r := by
  cases r with
  | ok f σe h => exact fun G2 H2 σ2 e2 R => o G2 H2 σ2 (e.trans e2) R
  | err x σe h => exact fun G2 d H2 σ2 e2 R => o G2 d H2 σ2 (e.trans e2) R
  | stuck => exact o
/-- an expression in a statement -/
theorem OkS.thn {α : Type} {r : Res α} {f : α → EH → RS} (rs : RepS T G σe σ) (o : OkS T W D G H (r.thn σe f)) : OkR T σ W G H r (fun a h1 G1 H1 => OkS T W D G1 H1 (f a h1)) := by
  cases r with
  | ok a h => exact fun G2 H2 e2 R => OkS.ev (r := f a h) o e2
  | err x h => exact fun G2 d H2 e2 R ex => o G2 d H2 σ e2 R (rs.le e2.le) ex
  | stuck => exact o
theorem OkS.q {r : Res PV} {f : PV → EH → RS} (rs : RepS T G σe σ) (o : OkS T W D G H (r.thn σe f)) : OkR T σ W G H r (KV T fun y H1 => ∃ x h1 G1, Ev G H G1 H1 ∧ Rel T G1 h1 H1 ∧ RepV T G1 x y ∧ OkS T W D G1 H1 (f x h1)) :=
  OkR.imp (OkS.thn rs o) fun x h1 G1 H1 e R o y ry => ⟨x, h1, G1, e, R, ry, o⟩
theorem OkS.qT {r : Res Bool} {f : Bool → EH → RS} (rs : RepS T G σe σ) (o : OkS T W D G H (r.thn σe f)) : OkR T σ W G H r (KB fun b H1 => ∃ h1 G1, Ev G H G1 H1 ∧ Rel T G1 h1 H1 ∧ OkS T W D G1 H1 (f b h1)) :=
  OkR.imp (OkS.thn rs o) fun x h1 G1 H1 e R o => ⟨h1, G1, e, R, o⟩
theorem OkS.nx {h : EH} (o : OkS T W D G H (.ok .nx σe h)) (R : Rel T G h H) (rs : RepS T G σe σ) : D.nx σ H := o G H σ (Ev.refl _ _) R rs
/-- a while's turns -/
theorem wh_run {c : Env → EH → Res Bool} {b : Env → EH → RS} {h : EH} {tc : TT} {tb : TS} (R : Rel T G h H) (rs : RepS T G σe σ) (o : OkS T W D G H (whR c b σe h))
    (hc : ∀ {σ σe G H h Q}, Rel T G h H → RepS T G σe σ → OkR T σ W G H (c σe h) (KB Q) → tc σ H Q) (hb : ∀ {D σ σe G H h}, Rel T G h H → RepS T G σe σ → OkS T W D G H (b σe h) → tb D σ H) : tWhile tc tb D σ H := by
  unfold whR at o
  split at o
  · rename_i z
    obtain ⟨n, e⟩ := Classical.choose_spec z
    generalize Classical.choose z = r at e o
    refine ⟨fun m σ2 H2 => ∃ σe2 h2 G2, Ev G H G2 H2 ∧ Rel T G2 h2 H2 ∧ RepS T G2 σe2 σ2 ∧ whN c b m σe2 h2 = some r, ⟨n, σe, h, G, Ev.refl _ _, R, rs, e⟩, ?_⟩
    rintro m σ2 H2 ⟨σe2, h2, G2, ev, R2, rs2, e2⟩
    cases m with
    | zero => cases e2
    | succ m =>
      refine hc R2 rs2 ?_
      unfold whN at e2
      cases ec : c σe2 h2 with
      | stuck => rw [ec] at e2; cases e2; exact o.elim
      | err x h3 =>
        rw [ec] at e2
        cases e2
        exact fun G3 d H3 e3 R3 ex => o G3 d H3 σ2 (ev.trans e3) R3 (rs2.le e3.le) ex
      | ok t h3 =>
        rw [ec] at e2
        intro G3 H3 e3 R3
        cases t with
        | false =>
          cases e2
          show (if false = true then _ else _)
          rw [if_neg (by decide)]
          exact o G3 H3 σ2 (ev.trans e3) R3 (rs2.le e3.le)
        | true =>
          dsimp only at e2
          refine (ite_tt ?_ : (if true = true then _ else _))
          refine ⟨fun σ' H' => ∃ σe2 h2 G2, Ev G H G2 H' ∧ Rel T G2 h2 H' ∧ RepS T G2 σe2 σ' ∧ whN c b m σe2 h2 = some r, fun σ' H' w => ⟨m, Nat.lt_succ_self _, w⟩, ?_⟩
          refine hb R3 (rs2.le e3.le) ?_
          cases eb : b σe2 h3 with
          | stuck => rw [eb] at e2; cases e2; exact o.elim
          | err x σ4 h4 =>
            rw [eb] at e2
            cases e2
            exact fun G4 d H4 σ5 e4 R4 r4 ex => o G4 d H4 σ5 ((ev.trans e3).trans e4) R4 r4 ex
          | ok f σ4 h4 =>
            rw [eb] at e2
            cases f with
            | nx => exact fun G4 H4 σ5 e4 R4 r4 => ⟨σ4, h4, G4, (ev.trans e3).trans e4, R4, r4, e2⟩
            | ct => exact fun G4 H4 σ5 e4 R4 r4 => ⟨σ4, h4, G4, (ev.trans e3).trans e4, R4, r4, e2⟩
            | br => cases e2; exact fun G4 H4 σ5 e4 R4 r4 => o G4 H4 σ5 ((ev.trans e3).trans e4) R4 r4
            | rt v => cases e2; exact fun G4 H4 σ5 e4 R4 r4 => o G4 H4 σ5 ((ev.trans e3).trans e4) R4 r4
  · exact o.elim
/-- a for's turns -/
theorem for_run {t : Py.T} {body : Env → EH → RS} {q : Src} {xs : List PV} {h : EH} {J : It} {tb : TS} (j : JOk T G J q xs) (R : Rel T G h H) (rs : RepS T G σe σ) (o : OkS T W D G H (forL t body q xs σe h))
    (hb : ∀ {D σ σe G H h}, Rel T G h H → RepS T G σe σ → OkS T W D G H (body σe h) → tb D σ H) : ∃ W : Nat → Nat → L2.St → Hp → Prop, (∃ m, W 0 m σ H) ∧ ∀ i m σ H, W i m σ H →
      (J.stop i H ∧ D.nx σ H) ∨ (J.go i H ∧ ∃ N : L2.St → Hp → Prop, (∀ σ' H', N σ' H' → ∃ m', m' < m ∧ W (i + 1) m' σ' H') ∧ ∀ x H', J.yld i H x H' → gOf T.K t x σ H' fun σ2 H2 => tb { D with nx := N, ct := N, bk := D.nx } σ2 H2) := by
  refine ⟨fun i m σ2 H2 => m = xs.length - i ∧ i ≤ xs.length ∧ ∃ σe2 h2 G2, Ev G H G2 H2 ∧ Rel T G2 h2 H2 ∧ RepS T G2 σe2 σ2 ∧ OkS T W D G H (forL t body q (xs.drop i) σe2 h2), ⟨xs.length, rfl, Nat.zero_le _, σe, h, G, Ev.refl _ _, R, rs, o⟩, ?_⟩
  rintro i m σ2 H2 ⟨rfl, hi, σe2, h2, G2, ev, R2, rs2, o⟩
  by_cases hlt : i < xs.length
  · obtain ⟨x, hx⟩ : ∃ x, xs[i]? = some x := ⟨xs[i], by simp [hlt]⟩
    have hdrop : xs.drop i = x :: xs.drop (i + 1) := by
      rw [List.drop_eq_getElem_cons (h := hlt)]
      have : xs[i] = x := by simpa [hlt] using hx
      rw [this]
    rw [hdrop] at o
    unfold forL at o
    split at o
    · rename_i ok
      cases es : setT t x σe2 with
      | none => rw [es] at o; exact o.elim
      | some σ3 =>
        rw [es] at o
        dsimp only at o
        obtain ⟨jg, jy⟩ := (j G2 h2 H2 ev.le R2 ok i).1 x hx
        refine .inr ⟨jg, fun σ' H' => i + 1 ≤ xs.length ∧ ∃ σe2 h2 G2, Ev G H G2 H' ∧ Rel T G2 h2 H' ∧ RepS T G2 σe2 σ' ∧ OkS T W D G H (forL t body q (xs.drop (i + 1)) σe2 h2), fun σ' H' w => ⟨xs.length - (i + 1), by omega, rfl, w⟩, fun v H' yd => ?_⟩
        obtain ⟨G', e', R', rv⟩ := jy v H' yd
        refine gOf_ok R' rv es ((rs2.le e'.le).b) fun σ4 _ rs4 => hb R' rs4 ?_
        cases eb : body σ3 h2 with
        | stuck => rw [eb] at o; exact o.elim
        | err x σ5 h5 =>
          rw [eb] at o
          exact fun G5 d H5 σ6 e5 R5 r5 ex => o G5 d H5 σ6 ((ev.trans e').trans e5) R5 r5 ex
        | ok f σ5 h5 =>
          rw [eb] at o
          cases f with
          | nx => exact fun G5 H5 σ6 e5 R5 r5 => ⟨hlt, σ5, h5, G5, (ev.trans e').trans e5, R5, r5, o⟩
          | ct => exact fun G5 H5 σ6 e5 R5 r5 => ⟨hlt, σ5, h5, G5, (ev.trans e').trans e5, R5, r5, o⟩
          | br => exact fun G5 H5 σ6 e5 R5 r5 => o G5 H5 σ6 ((ev.trans e').trans e5) R5 r5
          | rt v => exact fun G5 H5 σ6 e5 R5 r5 => o G5 H5 σ6 ((ev.trans e').trans e5) R5 r5
    · exact o.elim
  · obtain e : i = xs.length := by omega
    subst e
    rw [List.drop_length] at o
    unfold forL at o
    split at o
    · rename_i ok
      exact .inl ⟨(j G2 h2 H2 ev.le R2 ok _).2 (Nat.le_refl _), o G2 H2 σ2 ev R2 rs2⟩
    · exact o.elim
end
end Py

set_option linter.all false
set_option Elab.async false
set_option maxRecDepth 100000
set_option maxHeartbeats 1000017
/-! Exceptions are raised. -/
namespace Py
open L2 PyProof.Rows PySem.Spec PySem
section
variable {T : Tx} {P : Prog} {d : Nat}
theorem lookup_rev {k : Str} : ∀ {l : List (Str × V)}, (l.map (·.1)).Nodup → l.reverse.lookup k = l.lookup k
  | [], _ => rfl
  | (a, v) :: l, h => by
    simp only [List.map_cons, List.nodup_cons] at h
    rw [List.reverse_cons, List.lookup_append, lookup_rev h.2]
    by_cases e : k = a
    · subst e
      have : l.lookup k = none := by
        cases q : l.lookup k with
        | none => rfl
        | some w =>
          exfalso
          refine h.1 ?_
          have := within_of (fs := l) (mA := fun y => if y = k then some (Value.none) else none)
          clear this
          revert q
          clear h
          induction l with
          | nil => intro q; cases q
          | cons p l ih =>
            obtain ⟨f, z⟩ := p
            intro q
            rw [lookup_put] at q
            by_cases e : k = f
            · rw [e]; exact List.mem_cons_self ..
            · rw [if_neg e] at q; exact List.mem_cons_of_mem _ (ih q)
      rw [this]
      simp [List.lookup]
    · have e2 : (k == a) = false := by simpa using e
      rw [lookup_put, if_neg e]
      simp [List.lookup, e2]
theorem xfld {G : Gh} (inj : ∀ a b, T.st a = T.st b → a = b) (f : Nm) : ∀ {fs : List Nm} {xs : List PV} {ys : List V}, RepL T G xs ys → FldAt T G (look f (fs.zip xs)) (((fs.map T.st).zip ys).lookup (T.st f))
  | [], _, _, _ => rfl
  | g :: fs, [], ys, r => by cases r; exact rfl
  | g :: fs, x :: xs, ys, r => by
    obtain ⟨y, q, rfl, h1, h2⟩ := r
    show FldAt T G (look f ((g, x) :: fs.zip xs)) (((T.st g, y) :: (fs.map T.st).zip q).lookup (T.st f))
    rw [look_cons, lookup_put]
    by_cases e : f = g
    · subst e
      rw [if_pos rfl, if_pos rfl]
      exact ⟨y, rfl, h1⟩
    · rw [if_neg e, if_neg (fun z => e (inj _ _ z))]
      exact xfld inj f h2
theorem zip_keys {α β : Type} : ∀ {l : List α} {m : List β}, l.length = m.length → (l.zip m).map (·.1) = l
  | [], _, _ => rfl
  | a :: l, [], h => by cases h
  | a :: l, b :: m, h => by
    show a :: (l.zip m).map (·.1) = _
    rw [zip_keys (by simpa using h)]
theorem OkS.qL {W : L2.WX} {D : Ends} {σ : L2.St} {σe : Env} {G : Gh} {H : Hp} {r : Res (List PV)} {f : List PV → EH → RS} (rs : RepS T G σe σ) (o : OkS T W D G H (r.thn σe f)) : OkR T σ W G H r (KL T fun ys H1 => ∃ xs h1 G1, Ev G H G1 H1 ∧ Rel T G1 h1 H1 ∧ RepL T G1 xs ys ∧ OkS T W D G1 H1 (f xs h1)) :=
  OkR.imp (OkS.thn rs o) fun x h1 G1 H1 e R o y ry => ⟨x, h1, G1, e, R, ry, o⟩
/-- C() -/
theorem pmk_own0 {X : Cx} {C : Addr} {bmB : List Value} {B newId initId : String} {x : Str} {p pos : Pos} (F : ExcBaseFacts B newId initId bmB) (q : PySem.W.excIn X.K C bmB newId = true) (gC : X.mg x = some (.ref C)) (kC : PySem.W.keepIn X.K (.ref C) = true) (r : Raises X (.ref C)) (hg : Gl X x)
    (hdb : (x == ("__debug__" : Str)) = false) : PMk X (.Call (.Name x p) [] [] pos) (fun _ H Q => Q (.ref C) none H) := by
  intro pins s σ H Q I h
  apply wpAny_Call_Name_kw (ld_glob I hg gC ?_ hdb)
  refine PySem.W.callWith_K0 I.kIn kC ?_
  obtain ⟨bm, N, nm, qn, bs, hdct, sn, sub, ab, col, dd, k0, k1, k2, k3, k5, mN, hC, hN, hni, Tl⟩ := exc_obj I.kIn q
  refine wpAny_call_exc_subT (rest := []) F Tl hC hN hni (fun h' e hm => ?_) (Nat.zero_le _)
  exact mk_of I hm r h (I.hok.gone hm.new)
/-- raise c() -/
theorem raise0_ok {X : Cx} {M : Mt} {W : L2.WX} {D : Ends} {σ : L2.St} {σe : Env} {H : Hp} {G : Gh} {h : EH} (gm : GoodM T P d X M) (tk : Takes X W) {c : Nm} {es : List E} {x : Str} {p1 pos pos2 : Pos}
    (m : (decide (M.st c = x) && glB M.sc x && dbgB x && M.cl c && es.isEmpty) = true) (R : Rel T G h H) (rs : RepS T G σe σ)
    (o : OkS T W D G H (evS (cx P d) (.rai c es) σe h)) : SS X (.Raise (some (.Call (.Name x p1) [] [] pos)) none pos2) D σ H := by
  simp only [Bool.and_eq_true] at m
  obtain ⟨⟨⟨⟨m1, m2⟩, m3⟩, m4⟩, m5⟩ := m
  have m1 := of_decide_eq_true m1
  cases List.isEmpty_iff.mp m5
  rw [evS_rai] at o
  cases hc : P.cls c with
  | none => rw [show (cx P d).P.cls c = none from hc] at o; exact o.elim
  | some cd =>
    rw [show (cx P d).P.cls c = some cd from hc] at o
    dsimp only at o
    cases hx : cd.ex with
    | none => rw [hx] at o; exact o.elim
    | some fs =>
      rw [hx] at o
      cases fs with
      | nil =>
        have K := gm.gd.K
        have XO := gm.gd.txt.exc c cd _ hc hx
        obtain ⟨g1, g2⟩ := gm.gc c m4
        refine SS.of (ps_raise gm.gd.calm tk (pmk_own0 PySem.F.excBase_ValueError (by rw [K]; exact XO.x0 rfl) (by rw [← m1, ← gm.st]; exact g1) g2 (raises_own (by rw [K]; exact XO.xf.exC) (by rw [K]; exact XO.tyC)) (gl_ok gm.sc m2) (dbg_ok m3).1)) ?_
        exact o G none H σ (Ev.refl _ _) R rs (.inl ⟨rfl, rfl⟩)
      | cons f0 fr =>
        have z : evEs (cx P d) [] σe h = .ok [] h := rfl
        dsimp only at o
        rw [z] at o
        exact o.elim
/-- raise c(..) -/
theorem raise_ok {X : Cx} {M : Mt} {W : L2.WX} {D : Ends} {σ : L2.St} {σe : Env} {H : Hp} {G : Gh} {h : EH} (gm : GoodM T P d X M) (tk : Takes X W) {c : Nm} {es : List E} {x : Str} {q : Expr} {ps : List Expr} {p1 pos pos2 : Pos}
    (m : (decide (M.st c = x) && glB M.sc x && dbgB x && M.cl c && mtEs M.st M.gl M.cl M.N M.sc es (q :: ps)) = true) (R : Rel T G h H) (rs : RepS T G σe σ)
    (o : OkS T W D G H (evS (cx P d) (.rai c es) σe h)) : SS X (.Raise (some (.Call (.Name x p1) (q :: ps) [] pos)) none pos2) D σ H := by
  simp only [Bool.and_eq_true] at m
  obtain ⟨⟨⟨⟨m1, m2⟩, m3⟩, m4⟩, m5⟩ := m
  have m1 := of_decide_eq_true m1
  rw [evS_rai] at o
  cases hc : P.cls c with
  | none => rw [show (cx P d).P.cls c = none from hc] at o; exact o.elim
  | some cd =>
    rw [show (cx P d).P.cls c = some cd from hc] at o
    dsimp only at o
    cases hx : cd.ex with
    | none => rw [hx] at o; exact o.elim
    | some fs =>
      rw [hx] at o
      cases fs with
      | nil =>
        cases es with
        | nil => exact Bool.noConfusion m5
        | cons => exact o.elim
      | cons f0 fr =>
        dsimp only at o
        have K := gm.gd.K
        have ne : f0 :: fr ≠ [] := by simp
        have XO := gm.gd.txt.exc c cd _ hc hx
        obtain ⟨fI, i1, i2, i3⟩ := XO.ini ne
        obtain ⟨fdt, pn, F, B⟩ := gm.gd.xin c cd _ fI hc hx ne i1
        obtain ⟨g1, g2⟩ := gm.gc c m4
        have hd := dbg_ok m3
        have hpl : plainX q = true ∧ (backTo pos (starEach ps X.env)).any (·.1) = false := by
          cases es with
          | nil => exact Bool.noConfusion m5
          | cons e es =>
            have m5 : (mtE M.st M.gl M.cl M.N M.sc e q && mtEs M.st M.gl M.cl M.N M.sc es ps) = true := m5
            rw [Bool.and_eq_true] at m5
            exact ⟨mt_plain m5.1, (mt_stars m5.2 pos).1⟩
        rw [← K] at i2 i3 F B
        refine SS.of (ps_raise gm.gd.calm tk (pmk_oex (C := T.ad c) (k := 1) (ds := []) (dvs := []) (K ▸ XO.oex ne) i2 i3 F (gm.gd.room.mono gm.gd.two) B .nil (passes_call tk fun _ _ _ _ z => z.elim) (gl_ok gm.sc m2) (by rw [← m1, ← gm.st]; exact g1) (paS X (q :: ps)) hd.1 (plain_star hpl.1) hpl.2)) ?_
        refine sdA es gm tk m5 R rs ?_
        refine OkR.imp (OkS.qL rs o) fun xs h1 G1 H1 e1 R1 k ys ry => ?_
        obtain ⟨xs1, h2, G2, e2, R2, rx, o2⟩ := k ys ry
        split at o2
        · rename_i hl
          have hly : ys.length = (f0 :: fr).length := by rw [← rx.length, hl]
          refine ⟨by have := XO.ln; omega, fun a ha => ?_⟩
          refine ⟨a, ys, by rw [List.append_nil], by rw [List.length_map]; exact hly, upd_same, fun dd H2 hd1 hd2 hd3 hd4 hd5 => ?_⟩
          have hd0 : H1 dd = none := by rw [upd_ne hd2] at hd1; exact hd1
          refine ⟨rfl, dd, _, hd3, hd4, hd0, ?_⟩
          have eH : upd (del H2 a) dd (.xd (((f0 :: fr).map T.st).zip ys).reverse) = upd H1 dd (.xd (((f0 :: fr).map T.st).zip ys).reverse) := by
            funext b
            by_cases b1 : b = dd
            · rw [b1, upd_same, upd_same]
            · rw [upd_ne b1, upd_ne b1]
              by_cases b2 : b = a
              · rw [b2, del_same, ha]
              · rw [del_ne b2, hd5 b b2 b1, upd_ne b2]
          rw [eH]
          refine o2 _ (some dd) _ σ (Ev.put R2 hd0) (R2.put hd0) (rs.le (e2.le.trans (Le.put (R2.fresh hd0).1))) (.inr ⟨dd, _, rfl, upd_same, fun f => ?_⟩)
          have hn : ((((f0 :: fr).map T.st).zip ys).map (·.1)).Nodup := by
            rw [zip_keys (by rw [List.length_map, hly])]
            exact List.Pairwise.map _ (fun a b n z => n (gm.gd.txt.inj _ _ z)) XO.nd
          rw [lookup_rev hn]
          exact xfld gm.gd.txt.inj f (rx.le (Le.put (R2.fresh hd0).1))
        · exact o2.elim
end
end Py

set_option linter.all false
set_option Elab.async false
set_option maxRecDepth 100000
set_option maxHeartbeats 1000017
/-! Except suites. -/
namespace Py
open L2 PyProof.Rows PySem.Spec PySem
section
open PySem.W PySem.Calls Builtin.ObjectAttr
variable {prog : Program} {w : World} {A : Around} {E : Value → Shared → Prop} {s : Shared} {K : Frag} {y D : Addr} {oy : Obj} {od : Option Obj}
theorem find_data {C : Addr} {name : Str} {a g : Value} (hc : (clsIn K C).isSome = true) (ha : findIn K (.ref C) name = some (some a)) (hg : specialIn K a "__get__" = some (some g)) (ht : takesIn K a = some true) : findObj K C od name = some (.bind g a) := by
  obtain ⟨cd, e⟩ := Option.isSome_iff_exists.mp hc
  unfold findObj
  rw [e, Option.bind_some, ha, Option.bind_some]
  simp [hg, ht]
/-- x.__class__, x an exception of an own class -/
theorem class_exc {Q : Option Value → Shared → Prop} (xf : XfC K D) (c1 : findIn K (.ref D) "__class__" = some (some (.builtin "object.__class__")))
    (c2 : specialIn K (.builtin "object.__class__") "__get__" = some (some (.builtin "getset_descriptor.__get__"))) (c3 : takesIn K (.builtin "object.__class__") = some true) (c4 : mroIn K D (.type "object") = some true)
    (kin : K.In s.heap) (J : InstAt s.heap y oy D od) (h : Q (some (.ref D)) { s with toks := s.toks + 1 }) : wpAny (model prog w) A (getAttr? (.ref y) "__class__") Q E s := by
  have e0 : findObj K D od "__class__" = some (.bind (.builtin "getset_descriptor.__get__") (.builtin "object.__class__")) := find_data (by obtain ⟨cd, q, _⟩ := any_some xf.hdC; rw [q]; rfl) c1 c2 c3
  have ty := J.type (M := model prog w)
  have own := looks_findIn (M := model prog w) kin xf.ga
  have hook := looks_findIn (M := model prog w) kin xf.gg
  have found := looks_find (M := model prog w) kin J e0
  have isExc : Looks (model prog w) s.heap (isInstance (.ref y) (.type "BaseException")) true := ty.andThen (looks_subIn kin xf.exC)
  have other : (Value.builtin "BaseException.__getattribute__" == Value.builtin "object.__getattribute__") = false := by decide +kernel
  cases s with
  | mk hp g d t os =>
    delta getAttr? getAttrBy? getAttrBy
    try dsimp only
    refine wpAny_bind (wpAny_mkText (wpAny_bind (wpAny_attempt (wpAny_holding (wpAny_bind (ty.at (wpAny_bind (own.at ?_))))))))
    try dsimp only
    rw [other, Bool.and_false, if_neg Bool.false_ne_true]
    delta getAttrByItsOwn hookBefore
    try dsimp only
    have here : onTheHeap (Value.ref D) = true := rfl
    rw [if_pos here]
    refine wpAny_bind (hook.at (wpAny_bind (wpAny_attempt (wpAny_holding ?_))))
    delta callGetattribute
    try dsimp only
    rw [show (false && onTheHeap (Value.builtin "BaseException.__getattribute__")) = false from rfl, if_neg Bool.false_ne_true]
    delta boundAndCalled
    try dsimp only
    rw [PySem.F.excAttr_ValueError.ga.bind (.ref y)]
    refine wpAny_bind (wpAny_pure (wpAny_call (codeAny_call_builtin (id := "BaseException.__getattribute__") (args := ⟨[.ref y, .str "__class__" t], []⟩) PySem.F.excAttr_ValueError.ga.plain PySem.F.entry_bexc_ga ?_)))
    refine @check_slot (model prog w) _ _ ⟨hp, g, d, t + 1, os⟩ "BaseException.__getattribute__" "BaseException" "__getattribute__" (.ref y) [.str "__class__" t] [] _ (by decide +kernel) (by decide +kernel) isExc (PySem.F.args_bexc_ga (.ref y) (.str "__class__" t)) ?_
    delta Builtin.«object.__getattribute__»
    refine wpAny_bind (wpAny_of_eq (a := ((Value.ref y : Value), [Value.str "__class__" t])) (by first | rfl | (simp only [slotArgs]; rfl)) (wpAny_bind (wpAny_pure (wpAny_bind (ty.at (wpAny_bind (found.at ?_)))))))
    try dsimp only
    refine wpAny_bind (wpAny_holding (wpAny_call (class_get (s := ⟨hp, g, d, t + 1, os⟩) (ox := oy) (od := od) kin J c4 (wpAny_pure ?_))))
    try dsimp only
    rw [handedOut_of (show _ = _ from rfl)]
    repeat (first | exact h | refine wpAny_pure ?_ | refine wpAny_bind ?_)
theorem kit_exc (xf : XfC K D) (c1 : findIn K (.ref D) "__class__" = some (some (.builtin "object.__class__")))
    (c2 : specialIn K (.builtin "object.__class__") "__get__" = some (some (.builtin "getset_descriptor.__get__"))) (c3 : takesIn K (.builtin "object.__class__") = some true) (c4 : mroIn K D (.type "object") = some true) :
    KitX K (.ref y) (.ref D) (fun h => InstAt h y oy D od) where
  ty := fun _ _ _ J => J.type
  it := fun _ _ kin _ => by
    obtain ⟨ce, q, _⟩ := any_some xf.hdC
    unfold clsIn at q
    split at q
    · rename_i ho
      intro A' Q' E' s' k q
      unfold isType loadHead; exact wpAny_bind (wpAny_loadPart (k _ _ (kin _ _ ho)) (wpAny_pure q))
    · cases q
  ne := fun h tp dd its n sl kin htp => by
    obtain ⟨ce, q, _⟩ := any_some xf.hdC
    refine Bool.eq_false_iff.mpr fun z => ?_
    have e : D = tp := Value.ref.inj (beq_iff_eq.mp z)
    subst e
    unfold clsIn at q
    split at q
    · rename_i ho
      have z := (kin _ _ ho).symm.trans htp
      cases z
    · cases q
  ca := fun kin J k => class_exc xf c1 c2 c3 c4 kin J k
end
section
variable {T : Tx} {P : Prog} {d : Nat} {X : Cx} {M : Mt} {W : L2.WX} {pins : List (Addr × Obj)} {σ : L2.St} {σe : Env} {H : Hp} {s : Shared} {G : Gh} {h : EH} {a : Addr} {oe : Obj} {dd : Option Addr} {pn : List (Addr × Obj)} {x : Exc} {cd : CDef} {fs : List Nm}
/-- the caught exception, as an instance -/
theorem exc_inst (I : Inv (X.suite a ((a, oe) :: pn)) pins σ H s) (R : Rel T G h H) {C : Addr} (hz : Zc (.ref C) dd oe) (hf : ∃ vs, oe.data = .fields vs) (ex : ExcAt T G x dd) :
    ∃ od, PySem.W.InstAt s.heap a oe C od ∧ ∀ m, look m x.fs = none → PySem.W.shadowIn od (T.st m) = some false := by
  obtain ⟨ha, _⟩ := I.pin (a, oe) (List.mem_append_left _ List.mem_cons_self)
  obtain ⟨vs, hd⟩ := hf
  have nc : PySem.W.notCls oe = true := by unfold PySem.W.notCls; rw [hd] <;> rfl
  rcases ex with ⟨e1, e2⟩ | ⟨d0, ys, e1, e2, e3⟩
  · subst e2
    exact ⟨none, ⟨ha, hz.1, nc, by rw [hz.2]; trivial⟩, fun _ _ => rfl⟩
  · subst e1
    have hx : ObjOk X.prog X.w H s.heap d0 (.xd ys) := I.hok d0 _ (R.ext _ _ e2)
    obtain ⟨mA, hns, hr⟩ := hx
    obtain ⟨od, hook⟩ := lookIn_ns hns
    obtain ⟨ho, hl⟩ := hook
    refine ⟨some od, ⟨ha, hz.1, nc, by rw [hz.2]; exact ho⟩, fun m hm => ?_⟩
    have q0 := e3 m
    rw [hm] at q0
    have q := hr (T.st m)
    rw [show ys.lookup (T.st m) = none from q0] at q
    show (PySem.W.lookIn (T.st m) od).map (·.isSome) = some false
    rw [hl]
    cases z : mA (T.st m) with
    | none => rfl
    | some u => rw [z] at q; exact q.elim
/-- told() -/
theorem told_of {prog : Program} {w : World} {K : PySem.W.Frag} {mg : Str → Option Value} {base : Heap} {y qual self : Str} {params : Arguments} {body : List Stmt} {scope : Scope} {dvs : List V} {kws : List (Str × V)} {f : Addr} {fdt : FuncData} {N : List Str}
    (F : FunD K y qual params body scope dvs kws f fdt) (S : FnScope N [self] scope) (B : Binds K fdt [self] []) {t : Str} {k : Nat} {p0 pos : Pos} (hb : body = [.Return (some (.Constant (.str t) k p0)) pos]) : ToldOk prog w K mg base f t := by
  subst hb
  intro A outer s H p hr hpin e0 Q E q
  have kin : K.In s.heap := e0.mod.kin.keeps fun b o e => (e0.bs b o e).1
  have bare : s.heap.NoLimit := e0.mod.nolimit.keeps fun c u e => (e0.bs c u e).1
  have args := B s [.ref p.1] kin rfl
  obtain ⟨oc, _, _, _, _, _, _, cdv, _, _, rfl, look_, code_, _, _⟩ := F.ex
  refine codeAny_call_function hr.depth (kin _ _ look_) rfl S.co S.gen rfl (PySem.W.codeRec_of kin code_) (args _ _ _ _ ?_)
  refine wpAny_newFunctionEnv_cells S.kind (fun ⟨n, v⟩ hz => ?par) fun env he s1 x1 => ?_
  case par => exact (S.par n (List.of_mem_zip hz).1).elim .inl fun q => .inr ⟨q, PySem.W.cellsFrom_some _ _ [] (.inl q)⟩
  subst he
  refine ⟨bare.keeps x1.toInCall.keep, codeAny_func ?_⟩
  have J := L2H.inv_startH (CX := L2.CX prog w) (E := E) S hpin e0 (vs := [.ref p.1]) rfl (.cons rfl .nil) x1
  have ps := pss_cons (ps_ret (X := L2H.cxH (L2.CX prog w) prog w K mg base N qual scope f cdv A outer s H E p) (pos := pos) (pe_str (x := t) (j := k) (pos := p0))) pss_nil
  refine wpAny_mono (ps.run [] s1 _ H { nx := fun _ H' => Q .non H', rt := Q } J q) (fun fl s' hs => ?_) fun e s' hs => hs
  cases fl
  case ret u => exact let ⟨v, _, H', J', r, q'⟩ := hs; ⟨v, H', J'.os, J'.bare, J'.base, J'.hok, r, q'⟩
  case next => exact let ⟨_, H', J', q'⟩ := hs; ⟨.non, H', J'.os, J'.bare, J'.base, J'.hok, rfl, q'⟩
  all_goals exact let ⟨_, _, _, q'⟩ := hs; False.elim q'
end
end Py

set_option linter.all false
set_option Elab.async false
set_option maxRecDepth 100000
set_option maxHeartbeats 1000017
/-! What an except suite tells. -/
namespace Py
open L2 PyProof.Rows PySem.Spec PySem
section
variable {T : Tx} {P : Prog} {d : Nat} {X : Cx} {M : Mt} {σ : L2.St} {σe : Env} {H : Hp} {G : Gh} {h : EH} {a : Addr} {oe : Obj} {dd : Option Addr} {pn : List (Addr × Obj)} {x : Exc} {cd : CDef} {fs : List Nm} {n : Option Nat}
theorem var_su (gm : GoodM T P d X M) {i : Nat} {y : Str} (m : mtV M.N M.sc i y = true) {p : Pos} : PE (X.suite a ((a, oe) :: pn)) (.Name y p) (tVar i) := by
  unfold mtV at m
  rw [Bool.and_eq_true, Bool.and_eq_true] at m
  have hd := dbg_ok m.2
  exact pe_var (X := X.suite a ((a, oe) :: pn)) (i := i) (by show X.N[i]? = _; rw [gm.N]; exact of_decide_eq_true m.1.1) (by show Vis X.env.scope y; rw [gm.sc]; exact visB_ok m.1.2) hd.1 hd.2.1
theorem sup_eq {c e : Nm} {cd : CDef} (hc : P.cls c = some cd) : isSup (cx P d) c e = (decide (c = e) || cd.sup.any fun x => decide (x = e)) := by
  unfold isSup
  rw [show (cx P d).P.cls c = some cd from hc]
  by_cases q : c = e
  · simp [q]
  · simp only [q, decide_false, Bool.false_or, if_false]
    congr 1
theorem sdHX {hx : HX} {pe : Expr} (gm : GoodM T P d X M) (hz : Zc (.ref (T.ad x.c)) dd oe) (hf : ∃ vs, oe.data = .fields vs) (ex : ExcAt T G x dd) (hcd : P.cls x.c = some cd) (hex : cd.ex = some fs)
    (self : ∀ i, n = some i → σ[i]? = some (some (.ref a))) (m : mtHX M.st M.cl M.N M.sc n hx pe = true) (R : Rel T G h H) (rs : RepS T G σe σ) {v : PV} (e : hxV (cx P d) x σe hx = some v) {Q : VK} (q : ∀ y, RepV T G v y → Q y H) :
    SE (X.suite a ((a, oe) :: pn)) pe σ H Q := by
  have XO := gm.gd.txt.exc _ _ _ hcd hex
  have K := gm.gd.K
  have nm : ∀ {y : Str} {p : Pos}, mtN M.N M.sc n y = true → ∃ i, n = some i ∧ PE (X.suite a ((a, oe) :: pn)) (.Name y p) (tVar i) := fun {y p} m => by
    cases n with
    | none => cases m
    | some i => exact ⟨i, rfl, var_su gm m⟩
  cases hx with
  | n =>
    cases pe with
    | Constant c k2 pos =>
      cases c with
      | none => cases e; exact SE.of pe_non (q _ rfl)
      | _ => exact Bool.noConfusion m
    | _ => exact Bool.noConfusion m
  | b k =>
    cases pe with
    | Constant c k2 pos =>
      cases c with
      | bool j =>
        have m1 := of_decide_eq_true (show decide (k = j) = true from m)
        subst m1
        cases e; exact SE.of pe_bl (q _ rfl)
      | _ => exact Bool.noConfusion m
    | _ => exact Bool.noConfusion m
  | i k =>
    cases pe with
    | Constant c k2 pos =>
      cases c with
      | int j =>
        have m1 := of_decide_eq_true (show decide (k = j) = true from m)
        subst m1
        cases e; exact SE.of pe_int (q _ rfl)
      | _ => exact Bool.noConfusion m
    | _ => exact Bool.noConfusion m
  | s k =>
    cases pe with
    | Constant c k2 pos =>
      cases c with
      | str j =>
        have m1 := of_decide_eq_true (show decide (k = j) = true from m)
        subst m1
        cases e; exact SE.of pe_str (q _ rfl)
      | _ => exact Bool.noConfusion m
    | _ => exact Bool.noConfusion m
  | v i =>
    cases pe with
    | Name y p =>
      obtain ⟨w, w1, w2⟩ := rs.get (show slot i σe = some v from e)
      exact SE.of (var_su gm m) ⟨w, w1, q _ w2⟩
    | _ => exact Bool.noConfusion m
  | xf f =>
    cases pe with
    | Attribute o g p =>
      cases o with
      | Name y p2 =>
        have m : (mtN M.N M.sc n y && decide (M.st f = g)) = true := m
        rw [Bool.and_eq_true] at m
        obtain ⟨i, e1, p1⟩ := nm (p := p2) m.1
        have m2 := of_decide_eq_true m.2
        have e : (match (cx P d).P.cls x.c with
          | some cd => (match cd.ex with
            | some fs => if fs.any (fun g => decide (g = f)) then look f x.fs else none
            | none => none)
          | none => none) = some v := e
        rw [show (cx P d).P.cls x.c = some cd from hcd] at e
        dsimp only at e
        rw [hex] at e
        dsimp only at e
        split at e
        · rename_i hin
          obtain ⟨g', g1, g2⟩ := List.any_eq_true.mp hin
          have g2 := of_decide_eq_true g2
          subst g2
          rcases ex with ⟨z1, z2⟩ | ⟨d0, ys, z1, z2, z3⟩
          · rw [z1] at e; cases e
          · have q0 := z3 g'
            rw [e] at q0
            obtain ⟨w, w1, w2⟩ := q0
            rw [← m2, ← gm.st]
            exact SE.of (pe_xf (X := X) (C := T.ad x.c) (K.symm ▸ XO.xf) (K.symm ▸ XO.fl g' g1) hz hf p1 rfl) ⟨.ref a, self i e1, rfl, rfl, d0, ys, w, z1, R.ext _ _ z2, w1, q _ w2⟩
        · cases e
      | _ => exact Bool.noConfusion m
    | _ => exact Bool.noConfusion m
  | xm mm =>
    cases pe with
    | Call fe ps kp pos =>
      cases fe with
      | Attribute o g apos =>
        cases o with
        | Name y p2 =>
          cases ps with
          | cons => exact Bool.noConfusion m
          | nil =>
            cases kp with
            | cons => exact Bool.noConfusion m
            | nil =>
              have m : (mtN M.N M.sc n y && decide (M.st mm = g) && (apos.endLine == pos.line)) = true := m
              rw [Bool.and_eq_true, Bool.and_eq_true] at m
              obtain ⟨i, e1, p1⟩ := nm (p := p2) m.1.1
              have m2 := of_decide_eq_true m.1.2
              unfold hxV at e
              dsimp only at e
              cases l0 : look mm x.fs with
              | some _ => rw [l0] at e; cases e
              | none =>
                rw [l0] at e
                dsimp only at e
                rw [show (cx P d).P.cls x.c = some cd from hcd] at e
                dsimp only at e
                cases l1 : look mm cd.ms with
                | none => rw [l1] at e; cases e
                | some f =>
                  rw [l1] at e
                  dsimp only at e
                  cases l2 : P.fn f with
                  | none => rw [show (cx P d).P.fn f = none from l2] at e; cases e
                  | some fd =>
                    rw [show (cx P d).P.fn f = some fd from l2] at e
                    dsimp only at e
                    obtain ⟨t, t1, t2⟩ := Option.map_eq_some_iff.mp e
                    subst t2
                    have TO := gm.gd.tld _ _ _ _ _ _ _ hcd hex l1 l2 t1
                    obtain ⟨o1, o2, o3⟩ := XO.told _ _ l1
                    intro pins s I
                    refine meth_tree (X := X.suite a ((a, oe) :: pn)) rfl (form_ok (X := X.suite a ((a, oe) :: pn)) (ps := []) (kp := []) rfl rfl (by decide)) m.2 (thn (p1.run pins s σ H (fun y H1 => y = .ref a ∧ H1 = H) I ⟨.ref a, self i e1, rfl, rfl⟩) fun ov s1 hh => ?_)
                    obtain ⟨w, H1, I1, r1, w1, w2⟩ := hh
                    subst w1 w2
                    obtain rfl : ov = Value.ref a := r1
                    obtain ⟨od, J, sh⟩ := exc_inst I1 R hz hf ex
                    obtain ⟨m0, fr⟩ := I1.fr
                    rw [← m2, ← gm.st]
                    refine PySem.W.method_exc (K := X.K) fr I1.ok.mod.kin J (K.symm ▸ XO.xf.ga) (K.symm ▸ XO.xf.gg) (K.symm ▸ o1) (K.symm ▸ o2) (sh mm l0) ?_
                    refine PySem.W.callWith_K0 I1.kIn (K.symm ▸ o3) ?_
                    obtain ⟨i1, i2, i3, i4, i5⟩ := I1.pin (a, oe) (List.mem_append_left _ List.mem_cons_self)
                    have e0 := I1.env0
                    rw [K] at e0
                    have rm := L2H.roomH_of (gm.gd.room.mono (j := 1) (by have := gm.gd.two; omega))
                    refine wpAny_call (codeAny_mono (TO (X.suite a ((a, oe) :: pn)).A (X.suite a ((a, oe) :: pn)).stack s1 H1 (a, oe) ⟨rm.dp, rm.un⟩ ⟨i1, i2, fun hm => (List.mem_cons.mp (I1.stkSub a hm)).elim i3 i4, i5⟩ e0 Q (fun _ _ _ => False) (q _ rfl)) fun r s' hq => ?_)
                    cases r with
                    | error er => exact (L2.passes_call (X := X.suite a ((a, oe) :: pn)) (W := fun _ _ _ _ => False) (fun _ _ ⟨_, _, _, _, _, _, _, _, _, _, _, _, _, _, _, _, z⟩ => z.elim) (fun _ _ _ _ z => z.elim)) pins σ H1 s1 er s' I1 hq
                    | ok fl =>
                      cases fl with
                      | ret u => exact I1.after hq
                      | next => exact False.elim hq
                      | brk => exact False.elim hq
                      | cont => exact False.elim hq
        | _ => exact Bool.noConfusion m
      | _ => exact Bool.noConfusion m
    | _ => exact Bool.noConfusion m
  | xis c =>
    cases pe with
    | Call fe ps kp pos =>
      cases fe with
      | Name y p1 =>
        cases ps with
        | nil => exact Bool.noConfusion m
        | cons p ps =>
          cases ps with
          | nil => cases p <;> exact Bool.noConfusion m
          | cons p' ps =>
            cases ps with
            | cons => cases p <;> first | exact Bool.noConfusion m | (cases p' <;> exact Bool.noConfusion m)
            | nil =>
              cases p with
              | Name y2 p2 =>
                cases p' with
                | Name y3 p3 =>
                  cases kp with
                  | cons => exact Bool.noConfusion m
                  | nil =>
                    have m : (decide (y = ("isinstance" : Str)) && glB M.sc y && mtN M.N M.sc n y2 && decide (M.st c = y3) && glB M.sc y3 && dbgB y3 && M.cl c) = true := m
                    simp only [Bool.and_eq_true] at m
                    obtain ⟨⟨⟨⟨⟨⟨m1, m2⟩, m3⟩, m4⟩, m5⟩, m6⟩, m7⟩ := m
                    have m1 := of_decide_eq_true m1
                    have m4 := of_decide_eq_true m4
                    subst m1
                    obtain ⟨i, e1, pv⟩ := nm (p := p2) m3
                    unfold hxV at e
                    dsimp only at e
                    cases l1 : P.cls c with
                    | none => rw [show (cx P d).P.cls c = none from l1] at e; cases e
                    | some ce =>
                      rw [show (cx P d).P.cls c = some ce from l1] at e
                      cases e
                      have kit := (gm.gd.txt.cls _ _ hcd).1.sub c ce l1
                      rw [← sup_eq (d := d) hcd] at kit
                      obtain ⟨g1, g2⟩ := gm.gc c m7
                      rw [gm.st, m4] at g1
                      have hdb := dbg_ok m6
                      have pg : PE (X.suite a ((a, oe) :: pn)) (.Name y3 p3) (fun _ H Q => Q (.ref (T.ad c)) H) := ⟨fun pins s σ H Q I h => ld_glob (X := X.suite a ((a, oe) :: pn)) I (gl_ok (X := X) gm.sc m5) g1 ⟨.ref (T.ad c), H, I, rfl, h⟩ hdb.1⟩
                      intro pins s I
                      refine wpAny_Call_Name_kw (ld_blt (X := X.suite a ((a, oe) :: pn)) I (gl_ok (X := X) gm.sc m2) (gm.nob "isinstance" (by decide)) (bu_boot .isinst) ?_ (by decide) (by decide))
                      refine bu_tail (X := X.suite a ((a, oe) :: pn)) (f := .isinst) rfl rfl ?_
                      have pa : PA (X.suite a ((a, oe) :: pn)) [.Name y2 p2, .Name y3 p3] _ := pa_cons pv (pa_cons pg pa_nil)
                      refine thn (pa.run pos pins s σ H (fun ys H1 => ys = [.ref a, .ref (T.ad c)] ∧ H1 = H) I ⟨.ref a, self i e1, rfl, rfl⟩) fun us s1 hh => ?_
                      obtain ⟨ys, H1, I1, r1, w1, w2⟩ := hh
                      subst w1 w2
                      cases r1 with
                      | cons ra rr =>
                        cases rr with
                        | cons rb rr =>
                          cases rr
                          cases ra
                          cases rb
                          obtain ⟨od, J, _⟩ := exc_inst I1 R hz hf ex
                          exact PySem.W.kia_one (kit_exc XO.xf XO.ca XO.cn XO.ct XO.cm) (K ▸ I1.kIn) J kit (fun z => nomatch z) fun tk => ⟨.bl (isSup (cx P d) x.c c), H1, I1.kept (t' := tk) fun _ _ z => z, rfl, q _ rfl⟩
                | _ => exact Bool.noConfusion m
              | _ => exact Bool.noConfusion m
      | _ => exact Bool.noConfusion m
    | _ => exact Bool.noConfusion m
end
end Py

set_option linter.all false
set_option Elab.async false
set_option maxRecDepth 100000
set_option maxHeartbeats 1000017
/-! Except suites, whole. -/
namespace Py
open L2 PyProof.Rows PySem.Spec PySem
section
variable {T : Tx} {P : Prog} {d : Nat} {X : Cx} {M : Mt} {a : Addr} {oe : Obj} {dd : Option Addr} {pn : List (Addr × Obj)} {x : Exc} {cd : CDef} {fs : List Nm} {n : Option Nat} {h : EH}
theorem swn {x : Expr} {l : Nat} {env : PySem.Env} (h : compB x = false) : swapsWith x none l env = pure false := by cases x <;> first | rfl | cases h
theorem swo {x : Expr} {t : Expr} {l : Nat} {env : PySem.Env} (h : compB x = false) : swapsWith x (some t) l env = pure false := by cases x <;> first | rfl | cases h
theorem RepS.off {G : Gh} {w : Option V} : ∀ {xs : Env} {ys : L2.St} (i : Nat), RepS T G xs ys → RepS T G (setS i none xs) (ys.set i w)
  | [], ys, i, r => by cases r; cases i <;> exact rfl
  | x :: xs, ys, 0, ⟨y, q, e, h1, t1⟩ => by subst e; exact ⟨w, q, rfl, (fun v e => by cases e), t1⟩
  | x :: xs, ys, i + 1, ⟨y, q, e, h1, t1⟩ => by subst e; exact ⟨y, _, rfl, h1, t1.off i⟩
theorem hx_plain {hx : HX} {p : Expr} (h : mtHX M.st M.cl M.N M.sc n hx p = true) : plainX p = true := by
  cases p with
  | Starred => cases hx <;> exact Bool.noConfusion h
  | Set => cases hx <;> exact Bool.noConfusion h
  | Slice => cases hx <;> exact Bool.noConfusion h
  | _ => rfl
theorem sdHXs (gm : GoodM T P d X M) (hz : Zc (.ref (T.ad x.c)) dd oe) (hf : ∃ vs, oe.data = .fields vs) {σ : L2.St} {σe : Env} {H : Hp} {G : Gh} (ex : ExcAt T G x dd) (hcd : P.cls x.c = some cd) (hex : cd.ex = some fs)
    (self : ∀ i, n = some i → σ[i]? = some (some (.ref a))) (R : Rel T G h H) (rs : RepS T G σe σ) : ∀ {as : List HX} {ps : List Expr} {vs : List PV} {Q : List V → Hp → Prop}, mtHXs M.st M.cl M.N M.sc n as ps = true → hxL (cx P d) x σe as = some vs → (∀ ys, RepL T G vs ys → Q ys H) →
    SA (X.suite a ((a, oe) :: pn)) ps σ H Q
  | [], ps, vs, Q, m, e, q => by
    cases ps with
    | cons => exact Bool.noConfusion m
    | nil => cases e; exact SA.of pa_nil (q [] rfl)
  | b :: as, ps, vs, Q, m, e, q => by
    cases ps with
    | nil => exact Bool.noConfusion m
    | cons p ps =>
      have m : (mtHX M.st M.cl M.N M.sc n b p && mtHXs M.st M.cl M.N M.sc n as ps) = true := m
      rw [Bool.and_eq_true] at m
      unfold hxL at e
      cases e1 : hxV (cx P d) x σe b with
      | none => rw [e1] at e; cases e
      | some v =>
        rw [e1] at e
        obtain ⟨vs2, e2, e3⟩ := Option.map_eq_some_iff.mp e
        subst e3
        refine SA.of (pa_cons (peS _ p) (paS _ ps) (plain_star (hx_plain m.1))) ?_
        exact sdHX gm hz hf ex hcd hex self m.1 R rs e1 fun y ry => sdHXs gm hz hf ex hcd hex self R rs m.2 e2 fun ys rys => q _ (RepL.cons ry rys)
theorem sdHE (gm : GoodM T P d X M) (hz : Zc (.ref (T.ad x.c)) dd oe) (hf : ∃ vs, oe.data = .fields vs) {σ : L2.St} {σe : Env} {H : Hp} {G : Gh} (ex : ExcAt T G x dd) (hcd : P.cls x.c = some cd) (hex : cd.ex = some fs)
    (self : ∀ i, n = some i → σ[i]? = some (some (.ref a))) (R : Rel T G h H) (rs : RepS T G σe σ) {e : HE} {pe : Expr} {v : PV} {Q : VK} (m : mtHE M.st M.cl M.N M.sc n e pe = true) (hv : heV (cx P d) x σe e = some v)
    (q : ∀ G' H' y, Ev G H G' H' → Rel T G' h H' → RepV T G' v y → Q y H') : SE (X.suite a ((a, oe) :: pn)) pe σ H Q := by
  cases e with
  | x b => exact sdHX gm hz hf ex hcd hex self m R rs hv fun y ry => q G H y (Ev.refl _ _) R ry
  | tup as =>
    cases pe with
    | Tuple ps k pos =>
      unfold heV at hv
      dsimp only at hv
      cases e1 : hxL (cx P d) x σe as with
      | none => rw [e1] at hv; cases hv
      | some vs =>
        rw [e1] at hv
        dsimp only at hv
        split at hv
        · rename_i hb
          cases hv
          refine SE.of (pe_tup (paS _ ps)) ?_
          refine sdHXs gm hz hf ex hcd hex self R rs m e1 fun ys ry => ⟨by rw [← ry.length]; exact Nat.le_trans hb big_le, fun p hp => ?_⟩
          exact q (G.put p (.tup ys)) _ _ (Ev.put R hp) (R.put hp) (RepV.tupl (ry.le (Le.put (R.fresh hp).1)))
        · cases hv
    | _ => exact Bool.noConfusion m
theorem sup_isC {c e : Nm} {cd : CDef} (hc : P.cls c = some cd) (he : isC (cx P d) e = true) : hxV (cx P d) x σe (.xis e) = some (.bl (isSup (cx P d) x.c e)) := by
  unfold isC at he
  obtain ⟨ce, q⟩ := Option.isSome_iff_exists.mp he
  have r : hxV (cx P d) x σe (.xis e) = (match (cx P d).P.cls e with
    | some _ => some (.bl (isSup (cx P d) x.c e))
    | none => none) := rfl
  rw [r, q]
/-- a test of an except suite -/
theorem sdHB (gm : GoodM T P d X M) (hz : Zc (.ref (T.ad x.c)) dd oe) (hf : ∃ vs, oe.data = .fields vs) {σ : L2.St} {σe : Env} {H : Hp} {G : Gh} (ex : ExcAt T G x dd) (hcd : P.cls x.c = some cd) (hex : cd.ex = some fs)
    (self : ∀ i, n = some i → σ[i]? = some (some (.ref a))) (R : Rel T G h H) (rs : RepS T G σe σ) {b : HB} {pe : Expr} {v : Bool} {Q : Bool → Hp → Prop} (m : mtHB M.st M.cl M.N M.sc n b pe = true) (hv : hbV (cx P d) x b = some v) (q : Q v H) :
    ST (X.suite a ((a, oe) :: pn)) pe σ H Q := by
  have base : ∀ {c : Nm} {pe : Expr} {Q : Bool → Hp → Prop}, mtHX M.st M.cl M.N M.sc n (.xis c) pe = true → isC (cx P d) c = true → Q (isSup (cx P d) x.c c) H → ST (X.suite a ((a, oe) :: pn)) pe σ H Q := by
    intro c pe Q m hc q pins s I
    have tb : tstB pe = true := by cases pe <;> first | rfl | exact Bool.noConfusion m
    have e := sup_isC (x := x) (σe := σe) hcd hc
    refine isTrue_plain (thn (sdHX gm hz hf ex hcd hex self m R rs e (Q := fun y H1 => y = .bl (isSup (cx P d) x.c c) ∧ H1 = H) (fun y ry => ⟨ry, rfl⟩) pins s I) fun u s1 ⟨y, H1, I1, r1, e1, e2⟩ => ?_) (tst_ok tb _ _)
    subst e1 e2
    cases r1
    refine wpAny_truthy_bool ?_
    exact ⟨H1, I1, q⟩
  cases b with
  | isT => exact Bool.noConfusion m
  | is neg c =>
    have hv : (if isC (cx P d) c = true then some (if neg = true then !isSup (cx P d) x.c c else isSup (cx P d) x.c c) else none) = some v := hv
    split at hv
    · rename_i hc
      cases neg with
      | false => cases hv; exact base m hc q
      | true =>
        cases hv
        cases pe with
        | UnaryOp op px pos =>
          cases op with
          | Not =>
            intro pins s I
            exact isTrue_not (thn (base (Q := fun b H1 => Q (!b) H1) m hc q pins s I) fun b s1 ⟨H1, I1, q1⟩ => ⟨H1, I1, q1⟩)
          | _ => exact Bool.noConfusion m
        | _ => exact Bool.noConfusion m
    · cases hv
theorem sdHBl (gm : GoodM T P d X M) (hz : Zc (.ref (T.ad x.c)) dd oe) (hf : ∃ vs, oe.data = .fields vs) {σ : L2.St} {σe : Env} {H : Hp} {G : Gh} (ex : ExcAt T G x dd) (hcd : P.cls x.c = some cd) (hex : cd.ex = some fs)
    (self : ∀ i, n = some i → σ[i]? = some (some (.ref a))) (R : Rel T G h H) (rs : RepS T G σe σ) {pos : Pos} {Q : Bool → Hp → Prop} : ∀ {b : HB} {bs : List HB} {p : Expr} {ps : List Expr} {v : Bool}, mtHBl M.st M.cl M.N M.sc n (b :: bs) (p :: ps) = true → hbsV (cx P d) x (b :: bs) = some v → Q v H →
    SW (X.suite a ((a, oe) :: pn)) (.BoolOp .Or (p :: ps) pos) σ H Q
  | b, [], p, ps, v, m, hv, q => by
    have m : (mtHB M.st M.cl M.N M.sc n b p && mtHBl M.st M.cl M.N M.sc n [] ps) = true := m
    rw [Bool.and_eq_true] at m
    cases ps with
    | cons => exact Bool.noConfusion m.2
    | nil =>
      intro wh pins s I
      refine (pw_or1 (ptS _ p)).run wh pins s σ H Q I ?_
      unfold hbsV at hv
      cases e : hbV (cx P d) x b with
      | none => rw [e] at hv; cases hv
      | some t =>
        rw [e] at hv
        refine sdHB gm hz hf ex hcd hex self R rs m.1 e ?_
        cases t with
        | true => cases hv; exact q
        | false => cases hv; exact q
  | b, c :: bs, p, ps, v, m, hv, q => by
    have m : (mtHB M.st M.cl M.N M.sc n b p && mtHBl M.st M.cl M.N M.sc n (c :: bs) ps) = true := m
    rw [Bool.and_eq_true] at m
    cases ps with
    | nil => exact Bool.noConfusion m.2
    | cons p2 ps =>
      intro wh pins s I
      refine (pw_or (ptS _ p) (pwS _ (.BoolOp .Or (p2 :: ps) pos))).run wh pins s σ H Q I ?_
      unfold hbsV at hv
      cases e : hbV (cx P d) x b with
      | none => rw [e] at hv; cases hv
      | some t =>
        rw [e] at hv
        intro pins2 s2 I2
        refine thn (sdHB gm hz hf ex hcd hex self R rs m.1 e (Q := fun t2 H2 => t2 = t ∧ H2 = H) ⟨rfl, rfl⟩ pins2 s2 I2) fun t2 s3 ⟨H3, I3, e1, e2⟩ => ⟨H3, I3, ?_⟩
        subst e1 e2
        cases t2 with
        | true => cases hv; exact ite_tt q
        | false => exact ite_ff (sdHBl gm hz hf ex hcd hex self R rs m.2 hv q)
theorem sdHBs (gm : GoodM T P d X M) (hz : Zc (.ref (T.ad x.c)) dd oe) (hf : ∃ vs, oe.data = .fields vs) {σ : L2.St} {σe : Env} {H : Hp} {G : Gh} (ex : ExcAt T G x dd) (hcd : P.cls x.c = some cd) (hex : cd.ex = some fs)
    (self : ∀ i, n = some i → σ[i]? = some (some (.ref a))) (R : Rel T G h H) (rs : RepS T G σe σ) {Q : Bool → Hp → Prop} {bs : List HB} {p : Expr} {v : Bool} (m : mtHBs M.st M.cl M.N M.sc n bs p = true) (hv : hbsV (cx P d) x bs = some v) (q : Q v H) :
    ST (X.suite a ((a, oe) :: pn)) p σ H Q := by
  match bs, m, hv with
  | [], m, _ => exact Bool.noConfusion m
  | [b], m, hv =>
    unfold hbsV at hv
    cases e : hbV (cx P d) x b with
    | none => rw [e] at hv; cases hv
    | some t =>
      rw [e] at hv
      refine sdHB gm hz hf ex hcd hex self R rs m e ?_
      cases t with
      | true => cases hv; exact q
      | false => cases hv; exact q
  | b :: c :: r, m, hv =>
    cases p with
    | BoolOp op ps pos =>
      cases op with
      | Or =>
        have m : mtHBl M.st M.cl M.N M.sc n (b :: c :: r) ps = true := m
        cases ps with
        | nil => exact Bool.noConfusion m
        | cons p ps =>
          intro pins s I
          exact sdHBl gm hz hf ex hcd hex self R rs m hv q _ pins s I
      | And => exact Bool.noConfusion m
    | _ => exact Bool.noConfusion m
theorem sdHS (gm : GoodM T P d X M) (hz : Zc (.ref (T.ad x.c)) dd oe) (hf : ∃ vs, oe.data = .fields vs) (hcd : P.cls x.c = some cd) (hex : cd.ex = some fs) {W : L2.WX} {D : Ends} : ∀ {hb : List HS} {ps : List Stmt} {σ : L2.St} {σe : Env} {H : Hp} {G : Gh},
    ExcAt T G x dd → (∀ i, n = some i → σ[i]? = some (some (.ref a))) → mtHSs M.st M.cl M.N M.sc n hb ps = true → Rel T G h H → RepS T G σe σ → OkS T W D G H (evHs (cx P d) x hb σe h) → SSs (X.suite a ((a, oe) :: pn)) ps D σ H
  | [], ps, σ, σe, H, G, ex, self, m, R, rs, o => by
    cases ps with
    | cons => exact Bool.noConfusion m
    | nil => exact SSs.of pss_nil (OkS.nx o R rs)
  | b :: hb, ps, σ, σe, H, G, ex, self, m, R, rs, o => by
    cases ps with
    | nil => exact Bool.noConfusion m
    | cons p ps =>
      have m : (mtHS M.st M.cl M.N M.sc n b p && mtHSs M.st M.cl M.N M.sc n hb ps) = true := m
      rw [Bool.and_eq_true] at m
      obtain ⟨m1, m2⟩ := m
      refine SSs.of (pss_cons (psS _ p) (pssS _ ps)) ?_
      cases b with
      | asg i e =>
        have o : OkS T W D G H (match heV (cx P d) x σe e with
          | some v => evHs (cx P d) x hb (setS i (some v) σe) h
          | none => .stuck) := o
        cases p with
        | Assign tgs px pos =>
          cases tgs with
          | nil => exact Bool.noConfusion m1
          | cons tg rr =>
            cases rr with
            | cons => cases tg <;> exact Bool.noConfusion m1
            | nil =>
              cases tg with
              | Name y py =>
                have m1 : (mtL M.N M.sc i y && decide (n ≠ some i) && !compB px && mtHE M.st M.cl M.N M.sc n e px) = true := m1
                simp only [Bool.and_eq_true] at m1
                obtain ⟨⟨⟨a1, a2⟩, a3⟩, a4⟩ := m1
                have a2 := of_decide_eq_true a2
                obtain ⟨n1, n2, n3⟩ := mtL_ok gm.N gm.sc a1
                cases hv : heV (cx P d) x σe e with
                | none => rw [hv] at o; exact o.elim
                | some v =>
                  rw [hv] at o
                  refine SS.of (ps_set (X := X.suite a ((a, oe) :: pn)) gm.gd.nd n1 (.inl n2) (peS _ px) (swo (by simpa using a3)) (.inr n2)) ?_
                  refine sdHE gm hz hf ex hcd hex self R rs a4 hv fun G' H' y ev R' ry => ?_
                  refine sdHS gm hz hf hcd hex (ex.le ev.le) (fun j e => ?_) m2 R' ((rs.le ev.le).set ry i) (OkS.ev (r := evHs (cx P d) x hb (setS i (some v) σe) h) o ev)
                  rw [List.getElem?_set_ne (by rintro rfl; exact a2 e)]
                  exact self j e
              | _ => exact Bool.noConfusion m1
        | _ => exact Bool.noConfusion m1
      | ifa bs i e =>
        have o : OkS T W D G H (match hbsV (cx P d) x bs with
          | some true => (match heV (cx P d) x σe e with
            | some v => evHs (cx P d) x hb (setS i (some v) σe) h
            | none => .stuck)
          | some false => evHs (cx P d) x hb σe h
          | none => .stuck) := o
        cases p with
        | If t bd oe2 pos =>
          have m1 : (oe2.isEmpty && (match oneA bd with
            | some q => mtHBs M.st M.cl M.N M.sc n bs t && mtL M.N M.sc i q.1 && decide (n ≠ some i) && !compB q.2 && mtHE M.st M.cl M.N M.sc n e q.2
            | none => false)) = true := m1
          rw [Bool.and_eq_true] at m1
          obtain ⟨m0, m9⟩ := m1
          obtain rfl := List.isEmpty_iff.mp m0
          cases eo : oneA bd with
          | none => rw [eo] at m9; exact Bool.noConfusion m9
          | some q0 =>
            rw [eo] at m9
            obtain ⟨y, px⟩ := q0
            obtain ⟨py, pa, rfl⟩ := oneA_inv eo
            have m1 : (mtHBs M.st M.cl M.N M.sc n bs t && mtL M.N M.sc i y && decide (n ≠ some i) && !compB px && mtHE M.st M.cl M.N M.sc n e px) = true := m9
            simp only [Bool.and_eq_true] at m1
            obtain ⟨⟨⟨⟨a0, a1⟩, a2⟩, a3⟩, a4⟩ := m1
            have a2 := of_decide_eq_true a2
            obtain ⟨n1, n2, n3⟩ := mtL_ok gm.N gm.sc a1
            cases hbv : hbsV (cx P d) x bs with
            | none => rw [hbv] at o; exact o.elim
            | some t2 =>
              rw [hbv] at o
              refine SS.of (ps_if (ptS _ t) (pssS _ [.Assign [.Name y py] px pa]) pss_nil) ?_
              refine sdHBs gm hz hf ex hcd hex self R rs a0 hbv ?_
              cases t2 with
              | false => exact ite_ff (sdHS gm hz hf hcd hex ex self m2 R rs o)
              | true =>
                refine ite_tt ?_
                cases hv : heV (cx P d) x σe e with
                | none => rw [hv] at o; exact o.elim
                | some v =>
                  rw [hv] at o
                  refine SSs.of (pss_cons (psS _ _) pss_nil) ?_
                  refine SS.of (ps_set (X := X.suite a ((a, oe) :: pn)) gm.gd.nd n1 (.inl n2) (peS _ px) (swo (by simpa using a3)) (.inr n2)) ?_
                  refine sdHE gm hz hf ex hcd hex self R rs a4 hv fun G' H' y ev R' ry => ?_
                  refine sdHS gm hz hf hcd hex (ex.le ev.le) (fun j e => ?_) m2 R' ((rs.le ev.le).set ry i) (OkS.ev (r := evHs (cx P d) x hb (setS i (some v) σe) h) o ev)
                  rw [List.getElem?_set_ne (by rintro rfl; exact a2 e)]
                  exact self j e
        | _ => exact Bool.noConfusion m1
      | ret e =>
        have o : OkS T W D G H (match heV (cx P d) x σe e with
          | some v => .ok (.rt v) σe h
          | none => .stuck) := o
        cases p with
        | Return vv pos =>
          cases vv with
          | none => exact Bool.noConfusion m1
          | some px =>
            have m1 : mtHE M.st M.cl M.N M.sc n e px = true := m1
            cases hv : heV (cx P d) x σe e with
            | none => rw [hv] at o; exact o.elim
            | some v =>
              rw [hv] at o
              refine SS.of (ps_ret (peS _ px)) ?_
              exact sdHE gm hz hf ex hcd hex self R rs m1 hv fun G' H' y ev R' ry => o G' H' σ ev R' (rs.le ev.le) y ry
        | _ => exact Bool.noConfusion m1
theorem OkS.off {W : L2.WX} {D : Ends} {G : Gh} {H : Hp} {i : Nat} {r : RS} (o : OkS T W D G H (r.off (some i))) :
    OkS T W { nx := fun σ' H' => D.nx (σ'.set i none) H', rt := D.rt, bk := fun σ' H' => D.bk (σ'.set i none) H', ct := fun σ' H' => D.ct (σ'.set i none) H' } G H r := by
  cases r with
  | stuck => exact o
  | err x σ h => exact o
  | ok f σ h =>
    intro G' H' σ' ev R rs
    have q := o G' H' (σ'.set i none) ev R (rs.off i)
    cases f <;> exact q
theorem OkS.off0 {W : L2.WX} {D : Ends} {G : Gh} {H : Hp} {r : RS} (o : OkS T W D G H (r.off none)) : OkS T W D G H r := by
  cases r <;> exact o
end
end Py

set_option linter.all false
set_option Elab.async false
set_option maxRecDepth 100000
set_option maxHeartbeats 1000017
/-! try with several except clauses, with names or without. -/
namespace Py
open L2 PyProof.Rows PySem.Spec PySem
/-- a clause's name goes at each end -/
abbrev offD (i : Nat) (D : Ends) : Ends := { nx := fun σ' H' => D.nx (σ'.set i none) H', rt := D.rt, bk := fun σ' H' => D.bk (σ'.set i none) H', ct := fun σ' H' => D.ct (σ'.set i none) H' }
abbrev CTS : Type := Value × Option Nat × (Addr → Value → Option Addr → TS)
/-- what a clause's suite wishes -/
def wSu (D : Ends) (q : CTS) (a : Addr) (cls : Value) (d : Option Addr) (σ : L2.St) (H : Hp) : Prop := match q.2.1 with
  | none => q.2.2 a cls d D σ H
  | some i => q.2.2 a cls d (offD i D) (σ.set i (some (.ref a))) H
def wCls (K : PySem.W.Frag) (Wout : WX) (D : Ends) : List CTS → WX
  | [] => Wout
  | q :: r => fun cls d σ H => ∃ b, PySem.W.exmOne K cls q.1 = some b ∧ (b = true → ∀ a, H a = none → wSu D q a cls d σ H) ∧ (b = false → wCls K Wout D r cls d σ H)
/-- the name of a clause, and its place -/
def NmOk (X : Cx) : Option Str → Option Nat → Prop
  | none, none => True
  | some n, some i => X.N[i]? = some n ∧ X.env.kindOf n = some .local
  | _, _ => False
inductive ClsOk (X : Cx) : List ExceptHandler → List CTS → Prop
  | nil : ClsOk X [] []
  | cons {x : Str} {nm : Option Str} {b0 : Stmt} {su : List Stmt} {p1 p2 : Pos} {q : CTS} {hds : List ExceptHandler} {l : List CTS} (hc : Names X x q.1) (hn : NmOk X nm q.2.1)
      (hsu : ∀ (a : Addr) (oe : Obj) (cls : Value) (d : Option Addr) (pn : List (Addr × Obj)), Zc cls d oe → (∃ vs, oe.data = .fields vs) → PSs (X.suite a ((a, oe) :: pn)) (b0 :: su) (q.2.2 a cls d)) (r : ClsOk X hds l) :
      ClsOk X (.ExceptHandler (some (.Name x p1)) nm (b0 :: su) p2 :: hds) (q :: l)
/-- an exception that lies before the clauses -/
structure Down (X : Cx) (W : WX) (pins : List (Addr × Obj)) (B : Heap) (σ : L2.St) (H : Hp) (a : Addr) (cls : Value) (d : Option Addr) (s : Shared) : Prop where
  fly : HandSPX.FlyingZ B X.stack a (Zc cls d) s.heap
  no : H a = none
  inv : ∀ h2, B.StaysIn h2 → s.heap.UpToSlots h2 → Inv X pins σ H { s with heap := h2 }
  air : ∀ h2, Sky B X.stack a (Zc cls d) X.env.locals h2 → s.heap.UpToSlots h2 → W cls d σ H → XE X W (.ref a) { s with heap := h2 }
section
variable {X : Cx} {pins : List (Addr × Obj)} {W : WX} {B : Heap} {σ : L2.St} {H : Hp} {a : Addr} {cls : Value} {d : Option Addr} {s : Shared}
theorem up_refl {h : Heap} : h.UpToSlots h := Heap.UpToSlots.refl _
theorem come_down {M : Model} {W0 : WX} {xe E : Value → Shared → Prop} {u : Value} {Q : Unit → Shared → Prop} (hs : X.stack = X.env :: X.outer) (hf : X.env.frame = some X.env.locals) (ok : X.Ok) (xx : XE (X.tr (X.pn ++ pins) xe) W0 u s)
    (k : ∀ a B σ H cls d s', u = .ref a → W0 cls d σ H → Down X W pins B σ H a cls d s' → Q () s') : wpAny M X.A (noteFrame u X.env) (fun _ s2 => wpAny M X.A (setFlight u none) Q E s2) E s := by
  obtain ⟨a, B, sI, _, σ, H, cls, d, rfl, J0, nb, up, sky, na, os, ag, w⟩ := xx
  have J := J0.ofTry ok
  have sk : Sky B (X.env :: X.outer) a (Zc cls d) X.env.locals s.heap := hs ▸ sky
  refine Sky.land Zc.steady (by rw [ok.frames, hs]) hf sk fun h3 fl up3 => k a B σ H cls d _ rfl w ?_
  exact ⟨by rw [hs]; exact fl, na, fun h2 st up2 => J.landed nb st ((up.trans up3).trans up2) os ag, fun h2 sk2 up2 w2 => ⟨a, B, sI, pins, σ, H, cls, d, rfl, J, nb, (up.trans up3).trans up2, sk2, na, os, ag, w2⟩⟩
/-- the exception's object, apart from the frames -/
theorem Down.obj (dn : Down X W pins B σ H a cls d s) (hs : X.stack = X.env :: X.outer) (hf : X.env.frame = some X.env.locals) : ∃ oe vs, s.heap.get? a = some oe ∧ Zc cls d oe ∧ oe.data = .fields vs ∧ a ≠ X.env.locals ∧ a ∉ X.fs := by
  obtain ⟨oe, vs, e, z, dt⟩ := HandSPX.FlyingZ.there dn.fly
  have out : a ∉ frs X.stack := fun hm => by
    obtain ⟨_, o2, e2, q⟩ := dn.fly.2.2.1.mem hm
    cases e.symm.trans e2
    exact q _ dt
  refine ⟨oe, vs, e, z, dt, fun w => out ?_, fun w => out ?_⟩
  · rw [hs]
    exact List.mem_filterMap.mpr ⟨X.env, List.mem_cons_self, by rw [hf, w]⟩
  · obtain ⟨en, hen, q⟩ := List.mem_filterMap.mp w
    rw [hs]
    exact List.mem_filterMap.mpr ⟨en, List.mem_cons_of_mem _ hen, q⟩
theorem Down.sui (dn : Down X W pins B σ H a cls d s) (hs : X.stack = X.env :: X.outer) (hf : X.env.frame = some X.env.locals) : ∃ oe, (s.heap.get? a = some oe ∧ Zc cls d oe ∧ ∃ vs, oe.data = .fields vs) ∧ Inv (X.suite a ((a, oe) :: (X.pn ++ pins))) [] σ H s := by
  obtain ⟨oe, vs, e, z, dt, n1, n2⟩ := dn.obj hs hf
  exact ⟨oe, ⟨e, z, vs, dt⟩, (dn.inv s.heap dn.fly.1 up_refl).suite e dt dn.no n1 n2⟩
theorem Down.again (dn : Down X W pins B σ H a cls d s) {h2 : Heap} (fl : HandSPX.FlyingZ B X.stack a (Zc cls d) h2) (up : s.heap.UpToSlots h2) : Down X W pins B σ H a cls d { s with heap := h2 } :=
  ⟨fl, dn.no, fun h3 st up3 => dn.inv h3 st (up.trans up3), fun h3 sk up3 w => dn.air h3 sk (up.trans up3) w⟩
/-- no clause is left: the exception flies on -/
theorem Down.on {D : Ends} (dn : Down X W pins B σ H a cls d s) (hs : X.stack = X.env :: X.outer) (hf : X.env.frame = some X.env.locals) (tk : Takes X W) (w : W cls d σ H) :
    wpAny (model X.prog X.w) X.A (handleBy (.ref a) X.env []) (SP X pins D) X.xe s := by
  have up0 : s.heap.UpToSlots s.heap := up_refl
  have go : wpAny (model X.prog X.w) X.A (setFlight (.ref a) X.env.frame) (fun _ z => wpAny (model X.prog X.w) X.A (throw (.ref a) : Sem Flow) (SP X pins D) X.xe z) X.xe s := by
    rw [hf]
    exact HandSPX.setFlight_upZ (L := X.env.locals) dn.fly fun h2 held up2 => wpAny_throw (tk _ _ (dn.air h2 (.inr (.inr held)) up2 w))
  obtain ⟨oe, vs, t, _, _, he, _, hd, g1, _⟩ := dn.fly.2.2.2
  refine wpAny_handleBy_nil ?_
  delta PySem.passOn
  refine wpAny_bind (wpAny_field he hd g1 ?_)
  rw [if_neg (show ¬ ((Value.ref t == Value.none) = true) by simp)]
  first
    | exact wpAny_bind (wpAny_pure (wpAny_bind go))
    | exact wpAny_bind go
/-- a clause's test -/
theorem Down.test {c : Value} {x : Str} {p : Pos} {b : Bool} {Q : Bool → Shared → Prop} {E E' : Value → Shared → Prop} (dn : Down X W pins B σ H a cls d s) (hs : X.stack = X.env :: X.outer) (hf : X.env.frame = some X.env.locals) (hc : Names X x c)
    (hb : PySem.W.exmOne X.K cls c = some b) (q : Q b s) :
    wpAny (model X.prog X.w) (X.A.mark (some (.ref a))) (eval (.Name x p) X.env) (fun v s1 => wpAny (model X.prog X.w) (X.A.mark (some (.ref a))) (excMatches (.ref a) v) Q E s1) E' s := by
  obtain ⟨oe, ⟨he, hz, _⟩, S⟩ := dn.sui hs hf
  have ty : PySem.W.Looks (model X.prog X.w) s.heap (typeOf (.ref a)) cls := fun A2 Q2 E2 s2 k2 q2 => wpAny_typeOf_ref (k2 _ _ he) (by rw [hz.1]; exact q2)
  have mat := PySem.W.exm_one (M := model X.prog X.w) (dn.inv s.heap dn.fly.1 up_refl).kIn ty hb
  obtain ⟨g1, g2, g3⟩ := hc
  rcases g3 with g3 | ⟨g3, g4, g5⟩
  · exact ld_glob (X := X.suite a ((a, oe) :: (X.pn ++ pins))) S g1 g3 (mat.here q) g2
  · exact ld_blt (X := X.suite a ((a, oe) :: (X.pn ++ pins))) S g1 g3 g4 (mat.here q) g5 g2
theorem walk_cls {D : Ends} (hs : X.stack = X.env :: X.outer) (hf : X.env.frame = some X.env.locals) (hN : X.N.Nodup) (ok : X.Ok) (tk : Takes X W) : ∀ {hds : List ExceptHandler} {l : List CTS}, ClsOk X hds l → Down X W pins B σ H a cls d s → wCls X.K W D l cls d σ H →
    wpAny (model X.prog X.w) X.A (handleBy (.ref a) X.env hds) (SP X pins D) X.xe s := by
  intro hds l hk
  induction hk with
  | nil => intro dn w; exact dn.on hs hf tk w
  | @cons x nm b0 su p1 p2 q hds l hc hn hsu _ ih =>
    intro dn ⟨b, hb, yes, no⟩
    refine wpAny_handleBy_cons (codeAny_handlers_test ?_) nofun
    refine dn.test hs hf hc hb ?_
    cases b with
    | false => exact ih dn (no rfl)
    | true =>
      have yes := yes rfl a dn.no
      unfold wSu at yes
      obtain ⟨c, o, ts⟩ := q
      cases nm with
      | none =>
        cases o with
        | some _ => exact hn.elim
        | none =>
          refine codeAny_handlers_suite (HandSPX.lands_againZ dn.fly fun h2 fl up2 => ?_)
          obtain ⟨oe, ⟨_, hz, hv⟩, S⟩ := (dn.again fl up2).sui hs hf
          refine wpAny_mono ((hsu a oe cls d (X.pn ++ pins) hz hv).run [] _ σ H D S yes) (fun f s3 e => ?_) fun _ _ z => z.elim
          cases f with
          | ret u => obtain ⟨v, σ3, H3, S3, r3, e⟩ := e; exact ⟨v, σ3, H3, S3.unsuite ok, r3, e⟩
          | _ => obtain ⟨σ3, H3, S3, e⟩ := e; exact ⟨σ3, H3, S3.unsuite ok, e⟩
      | some n =>
        cases o with
        | none => exact hn.elim
        | some i =>
          obtain ⟨hi, hl⟩ := hn
          refine codeAny_handlers_suite_as (HandSPX.lands_againZ dn.fly fun h2 fl up2 => ?_)
          obtain ⟨oe, ⟨_, hz, hv⟩, S⟩ := (dn.again fl up2).sui hs hf
          refine store_ok (X := X.suite a ((a, oe) :: (X.pn ++ pins))) (v := .ref a) S hN hi (.inl hl) rfl (fun s3 S3 => ?_) (.inr hl)
          refine wpAny_mono ((hsu a oe cls d (X.pn ++ pins) hz hv).run [] s3 _ H (offD i D) S3 yes) (fun f s4 e => ?_) fun _ _ z => z.elim
          cases f with
          | ret u => obtain ⟨v, σ4, H4, S4, r4, e⟩ := e; exact gone_ok (S4.unsuite ok) hN hi hl fun s5 J5 => ⟨v, _, H4, J5, r4, e⟩
          | _ => obtain ⟨σ4, H4, S4, e⟩ := e; exact gone_ok (S4.unsuite ok) hN hi hl fun s5 J5 => ⟨_, H4, J5, e⟩
theorem ps_try_cls {body : List Stmt} {h0 : ExceptHandler} {hds : List ExceptHandler} {l : List CTS} {pos : Pos} {tb : WX → TS} (hs : X.stack = X.env :: X.outer) (hf : X.env.frame = some X.env.locals) (hN : X.N.Nodup) (tk : Takes X W)
    (hb : ∀ (W' : WX) (pn : List (Addr × Obj)) (xe : Value → Shared → Prop), Takes (X.tr pn xe) W' → PassesOwn (model X.prog X.w) X.A X.env xe → PSs (X.tr pn xe) body (tb W'))
    (hh : ClsOk X (h0 :: hds) l) : PS X (.Try body (h0 :: hds) [] [] pos) (fun D σ H => tb (wCls X.K W D l) D σ H) := by
  constructor
  intro pins s σ H D I w
  have ok := I.ok
  let xe : Value → Shared → Prop := fun u s1 => wpAny (model X.prog X.w) X.A (noteFrame u X.env) (fun _ s2 => wpAny (model X.prog X.w) X.A (setFlight u none) (fun _ s3 => wpAny (model X.prog X.w) X.A (handleBy u X.env (h0 :: hds)) (SP X pins D) X.xe s3) X.xe s2) X.xe s1
  have takes : Takes (X.tr (X.pn ++ pins) xe) (wCls X.K W D l) := fun u s1 xx => come_down hs hf ok xx fun a B σ2 H2 cls d s2 e w2 dn => by
    subst e
    exact walk_cls hs hf hN ok tk hh dn w2
  refine wpAny_Try_except (wpAny_mono ((hb _ (X.pn ++ pins) xe takes PassesOwn.looking).run [] s σ H D (I.toTry _) w) (fun f s1 e => ?_) fun u s1 e => e)
  cases f with
  | next => obtain ⟨σ2, H2, J, e⟩ := e; exact wpAny_execs_nil ⟨σ2, H2, J.ofTry ok, e⟩
  | ret u => obtain ⟨v, σ2, H2, J, r, e⟩ := e; exact ⟨v, σ2, H2, J.ofTry ok, r, e⟩
  | brk => obtain ⟨σ2, H2, J, e⟩ := e; exact ⟨σ2, H2, J.ofTry ok, e⟩
  | cont => obtain ⟨σ2, H2, J, e⟩ := e; exact ⟨σ2, H2, J.ofTry ok, e⟩
end
end Py

set_option linter.all false
set_option Elab.async false
set_option maxRecDepth 100000
set_option maxHeartbeats 4000017
/-! The evaluator's statements are the model's. -/
namespace Py
open L2 PyProof.Rows PySem.Spec PySem
section
variable {T : Tx} {P : Prog} {d : Nat}
/-- a comprehension, its reading -/
theorem sdLc {mu : Bool} {t : Py.T} {it : I} {c : Option E} {x : E} {X : Cx} {M : Mt} {W : L2.WX} {px pt pit : Expr} {pc : List Expr} {scope : Scope} {pos : Pos} {σ : L2.St} {σe : Env} {H : Hp} {G : Gh} {h : EH} {Q : VK} (gm : GoodM T P d X M) (tk : Takes X W)
    (m : mtE M.st M.gl M.cl M.N M.sc (.lc mu t it c x) (.ListComp px [⟨pt, pit, pc, 0⟩] scope pos) = true) (R : Rel T G h H) (rs : RepS T G σe σ) (o : OkR T σ W G H (evE (cx P d) (.lc mu t it c x) σe h) (KV T Q)) :
    ∃ (wi : TI) (g : TG) (tt : TT) (te : TE) (own : List (Str × Nat)), PI X pt pit wi ∧ BlkOk X.N X.env.scope scope own ∧
      (∀ (s : Shared) (H : Hp) (C : Addr) (cl : List (Str × Addr)) (fp : List Addr), PG (X.blk s H scope (compEnvC scope cl C X.env) fp) pt g) ∧
      (∀ (s : Shared) (H : Hp) (C : Addr) (cl : List (Str × Addr)) (fp : List Addr), PTs (X.blk s H scope (compEnvC scope cl C X.env) fp) pc tt) ∧
      (∀ (s : Shared) (H : Hp) (C : Addr) (cl : List (Str × Addr)) (fp : List Addr), PE (X.blk s H scope (compEnvC scope cl C X.env) fp) px te) ∧ (∀ x, foldedSetIterable pit X.env x = pure x) ∧ tLc wi g tt te (own.map (·.2)) σ H Q := by
  have m : (mtI M.st M.gl M.cl M.N M.sc it pit pt && mtT M.N (relS scope M.sc) t pt && blkC M.N M.sc scope (t.ix.filterMap fun i => (M.N[i]?).map fun x => (x, i)) && mtO M.st M.gl M.cl M.N (relS scope M.sc) c pc && mtE M.st M.gl M.cl M.N (relS scope M.sc) x px) = true := m
  rw [Bool.and_eq_true, Bool.and_eq_true, Bool.and_eq_true, Bool.and_eq_true] at m
  obtain ⟨⟨⟨⟨m1, m2⟩, m3⟩, m4⟩, m5⟩ := m
  have hsc : ∀ (C : Addr) (cl : List (Str × Addr)), (compEnvC scope cl C X.env).scope = relS scope M.sc := fun C cl => by rw [← gm.sc]; rfl
  have gmB : ∀ (s : Shared) (H0 : Hp) (C : Addr) (cl : List (Str × Addr)) (fp : List Addr), GoodM T P d (X.blk s H0 scope (compEnvC scope cl C X.env) fp) { M with sc := relS scope M.sc } := fun s H0 C cl fp =>
    ⟨⟨gm.gd.K, gm.gd.calm, gm.gd.nd, gm.gd.room, gm.gd.txt, gm.gd.fns, gm.gd.fns', gm.gd.two, gm.gd.xin, gm.gd.tld⟩, gm.N, hsc C cl, gm.st, gm.gv, gm.gc, gm.nob⟩
  have tkB : ∀ (s : Shared) (H0 : Hp) (C : Addr) (cl : List (Str × Addr)) (fp : List Addr), Takes (X.blk s H0 scope (compEnvC scope cl C X.env) fp) (fun _ _ _ _ => False) := fun s H0 C cl fp u s' ⟨_, _, _, _, _, _, _, _, _, _, _, _, _, _, _, _, w⟩ => w
  have ok : BlkOk X.N X.env.scope scope (t.ix.filterMap fun i => (M.N[i]?).map fun x => (x, i)) := by rw [gm.N, gm.sc]; exact blkOk_by m3
  have hix := mtT_ix m2
  let te : TE := fun σ H Q => ∀ (s : Shared) (H0 : Hp) (C : Addr) (cl : List (Str × Addr)) (fp : List Addr), SE (X.blk s H0 scope (compEnvC scope cl C X.env) fp) px σ H Q
  have he : ∀ (s : Shared) (H0 : Hp) (C : Addr) (cl : List (Str × Addr)) (fp : List Addr), PE (X.blk s H0 scope (compEnvC scope cl C X.env) fp) px te := fun s H0 C cl fp => ⟨fun pins s' σ H Q I h => h s H0 C cl fp pins s' I⟩
  have hg : ∀ (s : Shared) (H0 : Hp) (C : Addr) (cl : List (Str × Addr)) (fp : List Addr), PG (X.blk s H0 scope (compEnvC scope cl C X.env) fp) pt (gOf X.K t) := fun s H0 C cl fp => pg_of (X := X.blk s H0 scope (compEnvC scope cl C X.env) fp) (N := M.N) (sc := relS scope M.sc) gm.gd.nd gm.N (hsc C cl) gm.gd.calm m2
  have val : ∀ {σ' : Env} {σ2 : L2.St} {G : Gh} {h h2 : EH} {H : Hp} {r : Option PV} {Kc : Option V → Hp → Prop}, Rel T G h H → RepS T G σ' σ2 → ((evE (cx P d) x σ' h).bind fun y h => .ok (some y) h) = .ok r h2 →
      (∀ G' H', Ev G H G' H' → Rel T G' h2 H' → (match r with
        | none => Kc none H'
        | some y => ∀ w, RepV T G' y w → Kc (some w) H')) → te σ2 H fun y H4 => Kc (some y) H4 := fun {σ' σ2 G h h2 H r Kc} R rs2 hf k => by
    intro s H0 C cl fp
    refine sdE x (gmB s H0 C cl fp) (tkB s H0 C cl fp) m5 R rs2 ?_
    cases e : evE (cx P d) x σ' h with
    | ok y h3 =>
      rw [e] at hf
      cases hf
      exact fun G' H' e' R' w rw => k G' H' e' R' w rw
    | err y h3 => rw [e] at hf; cases hf
    | stuck => rw [e] at hf; cases hf
  cases c with
  | none =>
    have hpc : pc = [] := List.isEmpty_iff.mp m4
    subst hpc
    rw [evE_lc0] at o
    refine ⟨_, _, _, _, _, piS X pt pit, ok, hg, (fun _ _ _ _ _ => pts_nil), he, plain_fold (mtI_plain m1), ?_⟩
    unfold tLc
    rw [hix]
    refine sdI it gm tk m1 R rs (OkR.imp (OkR.bnd o) fun p h1 G1 H1 e1 R1 o1 J j ok => ?_)
    intro D hD
    refine lc_run (g := gOf X.K t) (tt := tYes) (te := te) (vs := t.ix) j R1 o1 (fun x0 v0 G h H r h2 le R rv hf Kc k => ?_) D hD
    cases es : setT t x0 σe with
    | none => rw [es] at hf; cases hf
    | some σ' =>
      rw [es] at hf
      rw [gm.gd.K]
      refine gOf_ok R rv es ((rs.le (e1.le.trans le)).wiped) fun σ2 w rs2 => ⟨w.trans wipe_wipe, ?_⟩
      show (if true = true then te σ2 H fun y H4 => Kc (some y) H4 else Kc none H)
      rw [if_pos rfl]
      exact val R rs2 hf k
  | some c =>
    rw [evE_lc1] at o
    cases pc with
    | nil => exact Bool.noConfusion m4
    | cons q rest =>
    cases rest with
    | cons => exact Bool.noConfusion m4
    | nil =>
      have m4 : mtQ M.st M.gl M.cl M.N (relS scope M.sc) c q = true := m4
      let tt : TT := fun σ H Q => ∀ (s : Shared) (H0 : Hp) (C : Addr) (cl : List (Str × Addr)) (fp : List Addr), ST (X.blk s H0 scope (compEnvC scope cl C X.env) fp) q σ H Q
      have ht : ∀ (s : Shared) (H0 : Hp) (C : Addr) (cl : List (Str × Addr)) (fp : List Addr), PTs (X.blk s H0 scope (compEnvC scope cl C X.env) fp) [q] tt := fun s H0 C cl fp => pts_one ⟨fun pins s' σ H Q I h => h s H0 C cl fp pins s' I⟩
      refine ⟨_, _, _, _, _, piS X pt pit, ok, hg, ht, he, plain_fold (mtI_plain m1), ?_⟩
      unfold tLc
      rw [hix]
      refine sdI it gm tk m1 R rs (OkR.imp (OkR.bnd o) fun p h1 G1 H1 e1 R1 o1 J j ok => ?_)
      intro D hD
      refine lc_run (g := gOf X.K t) (tt := tt) (te := te) (vs := t.ix) j R1 o1 (fun x0 v0 G h H r h2 le R rv hf Kc k => ?_) D hD
      cases es : setT t x0 σe with
      | none => rw [es] at hf; cases hf
      | some σ' =>
        rw [es] at hf
        rw [gm.gd.K]
        refine gOf_ok R rv es ((rs.le (e1.le.trans le)).wiped) fun σ2 w rs2 => ⟨w.trans wipe_wipe, ?_⟩
        intro s H0 C cl fp
        refine sdT c (gmB s H0 C cl fp) (tkB s H0 C cl fp) m4 R rs2 ?_
        dsimp only at hf
        cases ec : evT (cx P d) c σ' h with
        | ok b h3 =>
          rw [ec] at hf
          intro G' H' e' R'
          cases b with
          | true =>
            show (if true = true then te σ2 H' fun y H4 => Kc (some y) H4 else Kc none H')
            rw [if_pos rfl]
            have hf : ((evE (cx P d) x σ' h3).bind fun y h => .ok (some y) h) = .ok r h2 := hf
            exact val R' (rs2.le e'.le) hf fun G2 H2 e2 R2 => k G2 H2 (e'.trans e2) R2
          | false =>
            show (if false = true then te σ2 H' fun y H4 => Kc (some y) H4 else Kc none H')
            rw [if_neg (by decide)]
            cases hf
            exact k G' H' e' R'
        | err y h3 => rw [ec] at hf; cases hf
        | stuck => rw [ec] at hf; cases hf
theorem par2_sw {sc : Scope} {x y : Str} {px py pt pt2 : Pos} {kt k2 : Nat} {a b : Expr} {env : PySem.Env} (hs : env.scope = sc) (hk : env.scope.kind = .function) (m : par2B sc x y px py a b = true) :
    swappedStores [.Tuple [.Name x px, .Name y py] kt pt] (.Tuple [a, b] k2 pt2) env = pure (some [x, y]) := by
  unfold par2B at m
  simp only [Bool.and_eq_true, Bool.not_eq_true', decide_eq_false_iff_not] at m
  obtain ⟨⟨⟨⟨⟨⟨⟨m1, m2⟩, m3⟩, m4⟩, m5⟩, m6⟩, m7⟩, m8⟩ := m
  have lx : env.kindOf x = some .local := by
    unfold Env.kindOf; rw [hs]
    unfold locB at m1; split at m1
    · assumption
    · cases m1
  have ly : env.kindOf y = some .local := by
    unfold Env.kindOf; rw [hs]
    unfold locB at m2; split at m2
    · assumption
    · cases m2
  have hb : env.blockKind = .function := by simp only [Env.blockKind, hk]; rfl
  have sa : (match a with | .Starred .. => true | _ => false) = false := by cases a <;> first | rfl | cases m5
  have sb : (match b with | .Starred .. => true | _ => false) = false := by cases b <;> first | rfl | cases m6
  have f1 : ([a, b].all (foldedForSure 8)) = false := by simpa using m7
  have f2 : ([a, b].all (constantsAlone 8)) = false := by simpa using m8
  unfold swappedStores
  have ne : (y == x) = false := by simpa using fun z => m4 z.symm
  simp only [List.length_cons, List.length_nil, hb, List.any_cons, List.any_nil, sa, sb, List.head?_cons, Option.map_some, Expr.pos, Option.getD_some, List.filterMap_cons, List.filterMap_nil, lx, ly, m3, f1, f2]
  simp [List.eraseDups_cons, ne]
  rintro (h | h)
  · exfalso
    clear sa sb f1 f2 m7 m8
    revert h m5
    cases a <;> intro h m5 <;> first | (cases h; done) | (cases m5; done)
  · exfalso
    clear sa sb f1 f2 m7 m8
    revert h m6
    cases b <;> intro h m6 <;> first | (cases h; done) | (cases m6; done)
theorem sws {tg x : Expr} {l : Nat} {env : PySem.Env} (h : compB x = false) : swapsWithSole [tg] x l env = pure false := by cases x <;> first | rfl | cases h
theorem sst {tg x : Expr} {env : PySem.Env} (h : tupB tg = false ∨ tupB x = false) (hl : ∀ es p, tg ≠ .List es p) : swappedStores [tg] x env = pure none := by
  cases tg with
  | Tuple a b c =>
    rcases h with h | h
    · cases h
    · cases x <;> first | rfl | cases h
  | List a b => exact absurd rfl (hl a b)
  | _ => rfl
theorem sws2 {tg x : Expr} {l : Nat} {X : Cx} (h : compB x = false ∨ ∃ y py, tg = .Name y py ∧ X.env.scope.names.lookup y = some .cell) : swapsWithSole [tg] x l X.env = pure false := by
  rcases h with h | ⟨y, py, rfl, h⟩
  · exact sws h
  · have ky : (X.env.kindOf y == some NameKind.local) = false := by
      unfold Env.kindOf
      rw [h]; rfl
    cases x <;> first | rfl | (unfold swapsWithSole swapsWith; simp only [ky, Bool.and_false, Bool.false_and])
theorem asg1 {N : List Str} {sc : Scope} {t : Py.T} {tg : Expr} {env : PySem.Env} (m : mtTc N sc t tg = true) : (assignEach [tg] env).map (·.2) = [assign tg env] := by
  cases t with
  | v i => cases tg <;> first | rfl | exact Bool.noConfusion m
  | t is => cases tg <;> first | rfl | exact Bool.noConfusion m
/-- o.f = v -/
theorem setAt_ok {X : Cx} {W : L2.WX} {σ : L2.St} {σe : Env} {H : Hp} {G : Gh} {h : EH} {D : Ends} (Gd : GoodX T P d X) (R : Rel T G h H) {x v : PV} {vx vv : V} (rx : RepV T G x vx) (rv : RepV T G v vv) {f : Nm} (rs : RepS T G σe σ)
    (o : OkS T W D G H ((setAt (cx P d) x f v h).thn σe fun _ h => .ok .nx σe h)) : ∃ a C dx fs, vx = .ref a ∧ H a = some (.ins C dx fs) ∧ Cls X.K C ∧ NoAttr X.K C (T.st f) ∧ fs.length < 1000 ∧ D.nx σ (upd H a (.ins C dx (putF (T.st f) vv fs))) := by
  unfold setAt at o
  cases x with
  | loc n =>
    obtain ⟨a, rfl, m⟩ := rx
    dsimp only at o
    cases z : hget n h with
    | none => rw [z] at o; exact o.elim
    | some ob =>
      rw [z] at o
      obtain ⟨b, m2, r⟩ := R.ob n ob z
      rw [m] at m2; cases m2
      cases ob with
      | ins c fs =>
        obtain ⟨f0, dx, ys, e1, rf⟩ := r
        dsimp only at o
        split at o
        · rename_i hc
          obtain ⟨h1, h2⟩ := Bool.and_eq_true_iff.mp hc
          have h2 := of_decide_eq_true h2
          obtain ⟨cd, c1, c2, c3⟩ := fld_inv h1
          have IO := (Gd.txt.cls c cd c1).2 c2
          refine ⟨a, _, dx, ys, rfl, e1, Gd.K ▸ IO.cls, Gd.K ▸ IO.fl f c3, by rw [← rf.length]; omega, ?_⟩
          exact o G _ σ (Ev.set m) (R.set m f0 ⟨f0, dx, _, upd_same, rf.put Gd.txt.inj f rv⟩) rs
        · exact o.elim
      | _ => exact o.elim
  | _ => exact o.elim
/-- y = [.. for ..] -/
theorem asgLc {i : Nat} {e : E} {X : Cx} {M : Mt} {W : L2.WX} {D : Ends} {px : Expr} {gs : List Comprehension} {scope : Scope} {lpos spos py : Pos} {y : Str} {σ : L2.St} {σe : Env} {H : Hp} {G : Gh} {h : EH} (gm : GoodM T P d X M) (tk : Takes X W)
    (m : mtE M.st M.gl M.cl M.N M.sc e (.ListComp px gs scope lpos) = true) (R : Rel T G h H) (rs : RepS T G σe σ) (n1 : X.N[i]? = some y) (n2 : X.env.scope.names.lookup y = some .local) (hl : (py.line == lpos.line) = true)
    (ha : (scope.names.any fun (n, k) => n == y && (k == .local || k == .cell)) = false)
    (o : OkS T W D G H ((evE (cx P d) e σe h).thn σe fun v h => (match setT (.v i) v σe with
      | some σ => .ok .nx σ h
      | none => .stuck))) : SS X (.Assign [.Name y py] (.ListComp px gs scope lpos) spos) D σ H := by
  have o2 : OkR T σ W G H (evE (cx P d) e σe h) (KV T fun v H1 => D.nx (σ.set i (some v)) H1) := OkR.imp (OkS.thn rs o) fun v h1 G1 H1 e1 R1 o1 w rw => OkS.nx o1 R1 ((rs.le e1.le).set rw i)
  cases e with
  | lc mu t it c x =>
    match gs, m with
    | [], m => exact Bool.noConfusion m
    | ⟨_, _, _, k⟩ :: _ :: _, m =>
      exfalso
      revert m
      unfold mtE
      split <;> rename_i h <;> first | (cases h; done) | (intro m; cases m)
    | [⟨pt, pit, pc, k⟩], m =>
      match k, m with
      | 0, m =>
        obtain ⟨wi, g, tt, te, own, a1, a2, a3, a4, a5, a6, rd⟩ := sdLc gm tk m R rs o2
        intro pins s I
        exact (ps_setLc gm.gd.calm gm.gd.nd n1 n2 (sw_true I.ok.kind n2 hl ha) a1 a2 a3 a4 a5 a6).run pins s σ H D I rd
  | bad => exact False.elim o
  | _ => exact Bool.noConfusion m
/-- x op= y -/
theorem aug_ok {X : Cx} {σ : L2.St} {W : L2.WX} {G : Gh} {h : EH} {H : Hp} {b : BO} {x y : PV} {vx vy : V} {Q : VK} {pins : List (Addr × Obj)} {s : Shared} {ux uy : Value} (Gd : GoodX T P d X) (tk : Takes X W) (I : Inv X pins σ H s) (R : Rel T G h H) (rx : RepV T G x vx) (ry : RepV T G y vy)
    (sx : RelV vx ux) (sy : RelV vy uy) (q : OkR T σ W G H (opAug (cx P d) b x y h) (KV T Q)) : wpAny (model X.prog X.w) X.A (inplaceOp b.op ux uy) (EP X pins σ Q) X.xe s := by
  have ins : ∀ {x : PV}, RepV T G x vx → OkR T σ W G H (match asIns h x with
      | some _ => if b.ipB then opBin (cx P d) b x y h else .stuck
      | none => .stuck) (KV T Q) → wpAny (model X.prog X.w) X.A (inplaceOp b.op ux uy) (EP X pins σ Q) X.xe s := fun {x} rx q => by
    cases e : asIns h x with
    | none => rw [e] at q; exact q.elim
    | some p =>
      rw [e] at q
      dsimp only at q
      split at q
      · rename_i hb
        have q2 : OkR T σ W G H (if okB (cx P d) h y then callM (cx P d) x b.dun [y] [] h else .stuck) (KV T Q) := by
          cases x with
          | loc n => exact q
          | obj c fs => exact q
          | _ => cases e
        split at q2
        · rename_i ok
          exact iop_ins Gd tk I R rx ry sx sy ok hb q2
        · exact q2.elim
      · exact q.elim
  cases x with
  | int i =>
    cases y with
    | int j =>
      cases rx; cases ry
      cases b with
      | add => exact iop_add pins s σ H _ _ ux uy Q I sx sy ⟨i, j, rfl, rfl, OkR.val q R rfl⟩
      | sub => exact iop_sub pins s σ H _ _ ux uy Q I sx sy ⟨i, j, rfl, rfl, OkR.val q R rfl⟩
      | _ => exact q.elim
    | _ => exact q.elim
  | str i =>
    cases y with
    | str j =>
      cases rx; cases ry
      cases b with
      | add =>
        unfold opAug at q
        dsimp only at q
        split at q
        · rename_i hb; exact iop_add_str pins s σ H _ _ ux uy Q I sx sy ⟨i, j, rfl, rfl, Nat.le_trans hb big_le, OkR.val q R rfl⟩
        · exact q.elim
      | _ => exact q.elim
    | _ => exact q.elim
  | loc n => exact ins rx q
  | obj c fs => exact ins rx q
  | _ => exact q.elim
theorem aug_stm {X : Cx} {i : Nat} {y : Str} {e : Expr} {o : Operator} {p1 pos : Pos} {σ : L2.St} {H : Hp} {D : Ends} {v : V} (hN : X.N.Nodup) (hi : X.N[i]? = some y) (hx : Loc X.env.scope y) (hl : X.fn y = true ∨ X.env.scope.names.lookup y = some .local) (e1 : σ[i]? = some (some v))
    (he : SE X e σ H fun z H1 => ∀ pins s u w, Inv X pins σ H1 s → RelV v u → RelV z w → wpAny (model X.prog X.w) X.A (inplaceOp o u w) (EP X pins σ fun z H2 => D.nx (σ.set i (some z)) H2) X.xe s) : SS X (.AugAssign (.Name y p1) o e pos) D σ H := by
  intro pins s I
  obtain ⟨m, hn, q⟩ := I.loc
  obtain ⟨u, r, l⟩ := q i y v hi e1 (hx.elim .inl fun k => .inr (.inl k))
  have go : wpAny (model X.prog X.w) X.A (eval e X.env) (fun w t => wpAny (model X.prog X.w) X.A (inplaceOp o u w) (fun r t => wpAny (model X.prog X.w) X.A (storeName X.env y r) (fun _ => SP X pins D .next) X.xe t) X.xe t) X.xe s :=
    thn (he pins s I) fun w s1 ⟨z, H1, I1, r1, q1⟩ => thn (q1 pins s1 u w I1 r r1) fun k s2 ⟨z2, H2, I2, r2, q2⟩ => store_ok I2 hN hi hx r2 (fun s3 I3 => ⟨_, H2, I3, q2⟩) hl
  rcases l with ⟨lo, at_⟩ | ⟨ce | fr, c, c1, c2⟩
  · exact wpAny_AugAssign_Name (wpAny_loadName_local I.ok.kind lo hn at_ go)
  · exact wpAny_AugAssign_Name (wpAny_loadName_cell I.ok.kind ce c1 c2 go)
  · have fr : X.env.scope.names.lookup y = some .free := fr
    rcases hx with k | k <;> (rw [k] at fr; cases fr)
/-- x, y = a, b -/
theorem par2_ok {i j : Nat} {e f : E} {X : Cx} {M : Mt} {W : L2.WX} {D : Ends} {x y : Str} {px py pt pt2 pos : Pos} {kt k2 : Nat} {a b : Expr} {σ : L2.St} {σe : Env} {H : Hp} {G : Gh} {h : EH} (gm : GoodM T P d X M) (tk : Takes X W)
    (m : (par2B M.sc x y px py a b && mtL M.N M.sc i x && mtL M.N M.sc j y && mtE M.st M.gl M.cl M.N M.sc e a && mtE M.st M.gl M.cl M.N M.sc f b) = true) (R : Rel T G h H) (rs : RepS T G σe σ)
    (o : OkS T W D G H ((evEs (cx P d) [e, f] σe h).thn σe fun vs h => if vs.length = [i, j].length then .ok .nx (([i, j].zip vs).foldl (fun σ p => setS p.1 (some p.2) σ) σe) h else .stuck)) :
    SS X (.Assign [.Tuple [.Name x px, .Name y py] kt pt] (.Tuple [a, b] k2 pt2) pos) D σ H := by
  rw [Bool.and_eq_true, Bool.and_eq_true, Bool.and_eq_true, Bool.and_eq_true] at m
  obtain ⟨⟨⟨⟨m1, m2⟩, m3⟩, m4⟩, m5⟩ := m
  obtain ⟨n1, n2, _⟩ := mtL_ok gm.N gm.sc m2
  obtain ⟨n3, n4, _⟩ := mtL_ok gm.N gm.sc m3
  have hxy : ¬ x = y := by
    unfold par2B at m1
    simp only [Bool.and_eq_true, Bool.not_eq_true', decide_eq_false_iff_not] at m1
    exact m1.1.1.1.1.2
  have hij : i ≠ j := fun z => by subst z; rw [n1] at n3; exact hxy (Option.some.inj n3)
  intro pins s I
  refine (ps_par gm.gd.calm gm.gd.nd n1 n3 hij n2 n4 (paS X [a, b]) (par2_sw gm.sc I.ok.kind m1)).run pins s σ H D I ?_
  have ms : mtEs M.st M.gl M.cl M.N M.sc [e, f] [a, b] = true := by
    show (mtE M.st M.gl M.cl M.N M.sc e a && (mtE M.st M.gl M.cl M.N M.sc f b && true)) = true
    rw [m4, m5]; rfl
  refine sdA [e, f] gm tk ms R rs (OkR.imp (OkS.thn rs o) fun vs h1 G1 H1 e1 R1 o1 ys ry => ?_)
  split at o1
  · rename_i hl
    match vs, hl, ry, o1 with
    | [v, w], hl, ry, o1 =>
      obtain ⟨y1, r1, rfl, q1, y2, r2, rfl, q2, q3⟩ := ry
      cases q3
      exact ⟨y1, y2, rfl, OkS.nx o1 R1 (((rs.le e1.le).set q1 i).set q2 j)⟩
  · exact o1.elim
/-- the frame and its stack -/
def Fra (X : Cx) : Prop := X.stack = X.env :: X.outer ∧ X.env.frame = some X.env.locals ∧ ∀ x, X.fn x = true
/-- try: .. except c as n: .. -/
theorem try_ok {b : List S} {c : Nm} {n : Option Nat} {hb : List HS} {X : Cx} {M : Mt} {W : L2.WX} {D : Ends} {body suite : List Stmt} {s0 : Stmt} {y : Str} {nm : Option Str} {np pos pos2 : Pos} {σ : L2.St} {σe : Env} {H : Hp} {G : Gh} {h : EH} (gm : GoodM T P d X M) (tk : Takes X W) (fr : Fra X)
    (m1 : decide (M.st c = y) = true) (m2 : glB M.sc y = true) (m3 : dbgB y = true) (m4 : M.cl c = true) (m5 : mtNm M.N M.sc n nm = true) (m6 : mtHSs M.st M.cl M.N M.sc n hb (s0 :: suite) = true) (R : Rel T G h H) (rs : RepS T G σe σ)
    (o : OkS T W D G H (evS (cx P d) (.try_ b c n hb) σe h))
    (body_ok : ∀ (W' : L2.WX) (pn : List (Addr × Obj)) (xe : Value → Shared → Prop), Takes (X.tr pn xe) W' → PassesOwn (model X.prog X.w) X.A X.env xe → ∀ {D : Ends} {σ : L2.St} {σe : Env} {H : Hp} {G : Gh} {h : EH}, Rel T G h H → RepS T G σe σ → OkS T W' D G H (evSs (cx P d) b σe h) → SSs (X.tr pn xe) body D σ H) :
    SS X (.Try body [.ExceptHandler (some (.Name y np)) nm (s0 :: suite) pos2] [] [] pos) D σ H := by
  have m1 := of_decide_eq_true m1
  have K := gm.gd.K
  obtain ⟨g1, g2⟩ := gm.gc c m4
  rw [gm.st, m1] at g1
  have hdb := dbg_ok m3
  have hnm : Names X y (.ref (T.ad c)) := ⟨gl_ok gm.sc m2, hdb.1, .inl g1⟩
  rw [evS_try] at o
  cases hc : P.cls c with
  | none => rw [show (cx P d).P.cls c = none from hc] at o; exact o.elim
  | some ce =>
    rw [show (cx P d).P.cls c = some ce from hc] at o
    dsimp only at o
    cases hx : ce.ex with
    | none => rw [hx] at o; exact o.elim
    | some gs =>
      rw [hx] at o
      dsimp only at o
      let tb : L2.WX → TS := fun W' D σ H => ∃ G h σe, Rel T G h H ∧ RepS T G σe σ ∧ OkS T W' D G H (evSs (cx P d) b σe h)
      let ts : Addr → Value → Option Addr → TS := fun a cls dd D σ H => ∃ (x : Exc) (cd : CDef) (fs : List Nm) (G : Gh) (h : EH) (σe : Env), cls = .ref (T.ad x.c) ∧ P.cls x.c = some cd ∧ cd.ex = some fs ∧ ExcAt T G x dd ∧ (∀ i, n = some i → i < σ.length → σ[i]? = some (some (.ref a))) ∧ Rel T G h H ∧ RepS T G σe σ ∧
        OkS T W D G H (evHs (cx P d) x hb σe h)
      have hbody : ∀ (W' : L2.WX) (pn : List (Addr × Obj)) (xe : Value → Shared → Prop), Takes (X.tr pn xe) W' → PassesOwn (model X.prog X.w) X.A X.env xe → PSs (X.tr pn xe) body (tb W') := fun W' pn xe tk' pa => ⟨fun pins s σ H D I ⟨G, h, σe, R, rs, o⟩ => body_ok W' pn xe tk' pa R rs o pins s I⟩
      have hlen : ∀ i, n = some i → i < X.N.length := fun i e => by
        subst e
        cases nm with
        | none => exact Bool.noConfusion m5
        | some z =>
          have q := (mtL_ok gm.N gm.sc (show mtL M.N M.sc i z = true from m5)).1
          exact (List.getElem?_eq_some_iff.mp q).1
      have hsuite : ∀ (a : Addr) (oe : Obj) (cls : Value) (dd : Option Addr) (pn : List (Addr × Obj)), Zc cls dd oe → (∃ vs, oe.data = .fields vs) → PSs (X.suite a ((a, oe) :: pn)) (s0 :: suite) (ts a cls dd) := fun a oe cls dd pn hz hf => ⟨fun pins s σ H D I ⟨x, cd, fs, G, h, σe, e1, e2, e3, e4, e5, R, rs, o⟩ => by
        subst e1
        exact sdHS gm hz hf e2 e3 e4 (fun i e => e5 i e (by have := hlen i e; have q : σ.length = X.N.length := I.len; omega)) m6 R rs o pins s I⟩
      have key : ∀ {x : Exc} {σ2 : Env} {h2 : EH} {G' : Gh} {dd : Option Addr} {H' : Hp} {σ' : L2.St}, evSs (cx P d) b σe h = .err x σ2 h2 → Ev G H G' H' → Rel T G' h2 H' → RepS T G' σ2 σ' → ExcAt T G' x dd →
          ∃ cd fs, P.cls x.c = some cd ∧ cd.ex = some fs ∧ PySem.W.exmOne X.K (.ref (T.ad x.c)) (.ref (T.ad c)) = some (isSup (cx P d) x.c c) ∧
            (isSup (cx P d) x.c c = true → OkS T W D G' H' ((evHs (cx P d) x hb (offS n σ2) h2).off n)) ∧ (isSup (cx P d) x.c c = false → W (.ref (T.ad x.c)) dd σ' H') := fun {x σ2 h2 G' dd H' σ'} er ev R' rs' xa => by
        rw [er, tryR_err] at o
        cases hc2 : P.cls x.c with
        | none => rw [show (cx P d).P.cls x.c = none from hc2] at o; exact o.elim
        | some cd =>
          rw [show (cx P d).P.cls x.c = some cd from hc2] at o
          dsimp only at o
          cases hx2 : cd.ex with
          | none => rw [hx2] at o; exact o.elim
          | some fs =>
            rw [hx2] at o
            dsimp only at o
            refine ⟨cd, fs, rfl, hx2, ?_, fun q => ?_, fun q => ?_⟩
            · rw [K, sup_eq hc2]
              exact (gm.gd.txt.exc _ _ _ hc2 hx2).exm c ce hc (by rw [hx]; rfl)
            · rw [q, if_pos rfl] at o
              exact OkS.ev o ev
            · rw [q, if_neg (by decide)] at o
              exact o G' dd H' σ' ev R' rs' xa
      cases n with
      | some i =>
        cases nm with
        | none => exact Bool.noConfusion m5
        | some z =>
          obtain ⟨n1, n2, n3⟩ := mtL_ok gm.N gm.sc (show mtL M.N M.sc i z = true from m5)
          refine SS.of (ps_try_as fr.1 fr.2.1 gm.gd.nd n1 n2 hnm tk hbody hsuite) ⟨G, h, σe, R, rs, ?_⟩
          cases er : evSs (cx P d) b σe h with
          | stuck => rw [er] at o; exact o
          | ok f σ2 h2 => rw [er] at o; exact o
          | err x σ2 h2 =>
            intro G' dd H' σ' ev R' rs' xa
            obtain ⟨cd, fs, k1, k2, k3, k4, k5⟩ := key er ev R' rs' xa
            refine ⟨_, k3, fun q a na => ?_, k5⟩
            refine ⟨x, cd, fs, G', h2, offS (some i) σ2, rfl, k1, k2, xa, fun j ej lj => ?_, R', rs'.off i, OkS.off (k4 q)⟩
            cases ej
            rw [List.length_set] at lj
            exact List.getElem?_set_self lj
      | none =>
        cases nm with
        | some z => exact Bool.noConfusion m5
        | none =>
          refine SS.of (ps_try_only fr.1 fr.2.1 hnm tk hbody hsuite) ⟨G, h, σe, R, rs, ?_⟩
          cases er : evSs (cx P d) b σe h with
          | stuck => rw [er] at o; exact o
          | ok f σ2 h2 => rw [er] at o; exact o
          | err x σ2 h2 =>
            intro G' dd H' σ' ev R' rs' xa
            obtain ⟨cd, fs, k1, k2, k3, k4, k5⟩ := key er ev R' rs' xa
            exact ⟨_, k3, fun q a na => ⟨x, cd, fs, G', h2, σ2, rfl, k1, k2, xa, (fun j ej => by cases ej), R', rs', OkS.off0 (k4 q)⟩, k5⟩
/-- the clauses' wishes -/
def clT (T : Tx) (P : Prog) (d : Nat) (W : L2.WX) (q : Nm × Option Nat × List HS) : CTS := (.ref (T.ad q.1), q.2.1, fun a cls dd D σ H => ∃ (x : Exc) (cd : CDef) (fs : List Nm) (G : Gh) (h : EH) (σe : Env), cls = .ref (T.ad x.c) ∧ P.cls x.c = some cd ∧ cd.ex = some fs ∧ ExcAt T G x dd ∧ (∀ i, q.2.1 = some i → i < σ.length → σ[i]? = some (some (.ref a))) ∧ Rel T G h H ∧ RepS T G σe σ ∧
        OkS T W D G H (evHs (cx P d) x q.2.2 σe h))
theorem cls_ok {X : Cx} {M : Mt} {W : L2.WX} (gm : GoodM T P d X M) : ∀ {cs : List (Nm × Option Nat × List HS)} {hds : List ExceptHandler}, mtCls M.st M.cl M.N M.sc cs hds = true → ClsOk X hds (cs.map (clT T P d W))
  | [], hds, m => by
    obtain rfl := List.isEmpty_iff.mp (show hds.isEmpty = true from m)
    exact .nil
  | q :: cs, hds, m => by
    cases hds with
    | nil => exact Bool.noConfusion m
    | cons hd hds =>
      cases hd with
      | ExceptHandler ty nm su pos2 =>
        cases ty with
        | none => exact Bool.noConfusion m
        | some ty =>
          cases ty with
          | Name y np =>
            cases su with
            | nil => exact Bool.noConfusion m
            | cons s0 suite =>
              have m : (decide (M.st q.1 = y) && glB M.sc y && dbgB y && M.cl q.1 && mtNm M.N M.sc q.2.1 nm && mtHSs M.st M.cl M.N M.sc q.2.1 q.2.2 (s0 :: suite) && mtCls M.st M.cl M.N M.sc cs hds) = true := m
              simp only [Bool.and_eq_true] at m
              obtain ⟨⟨⟨⟨⟨⟨m1, m2⟩, m3⟩, m4⟩, m5⟩, m6⟩, m7⟩ := m
              have m1 := of_decide_eq_true m1
              obtain ⟨g1, g2⟩ := gm.gc q.1 m4
              rw [gm.st, m1] at g1
              have hdb := dbg_ok m3
              obtain ⟨c, n, hb⟩ := q
              have hnn : NmOk X nm n ∧ ∀ i, n = some i → i < X.N.length := by
                cases nm with
                | none =>
                  cases n with
                  | none => exact ⟨trivial, fun _ e => by cases e⟩
                  | some _ => exact Bool.noConfusion m5
                | some z =>
                  cases n with
                  | none => exact Bool.noConfusion m5
                  | some i =>
                    obtain ⟨n1, n2, n3⟩ := mtL_ok gm.N gm.sc (show mtL M.N M.sc i z = true from m5)
                    exact ⟨⟨n1, n2⟩, fun j e => by cases e; exact (List.getElem?_eq_some_iff.mp n1).1⟩
              refine .cons (q := clT T P d W (c, n, hb)) ⟨gl_ok gm.sc m2, hdb.1, .inl g1⟩ hnn.1 (fun a oe cls dd pn hz hf => ⟨fun pins s σ H D I ⟨x, cd, fs, G, h, σe, e1, e2, e3, e4, e5, R, rs, o⟩ => ?_⟩) (cls_ok gm m7)
              subst e1
              exact sdHS gm hz hf e2 e3 e4 (fun i e => e5 i e (by have := hnn.2 i e; have q : σ.length = X.N.length := I.len; omega)) m6 R rs o pins s I
          | _ => exact Bool.noConfusion m
/-- what the clauses want, out of the reckoned end -/
theorem cls_want {X : Cx} {M : Mt} {W : L2.WX} {D : Ends} (gm : GoodM T P d X M) {x : Exc} {cd : CDef} {fs : List Nm} {G : Gh} {H : Hp} {dd : Option Addr} {σ : L2.St} {σe : Env} {h : EH} (hc : P.cls x.c = some cd) (hx : cd.ex = some fs) (xa : ExcAt T G x dd) (R : Rel T G h H) (rs : RepS T G σe σ) :
    ∀ {cs : List (Nm × Option Nat × List HS)}, OkS T W D G H (clsR (cx P d) x σe h cs) → wCls X.K W D (cs.map (clT T P d W)) (.ref (T.ad x.c)) dd σ H
  | [], o => o G dd H σ (Ev.refl _ _) R rs xa
  | q :: cs, o => by
    have o : OkS T W D G H (match (cx P d).P.cls q.1 with
      | some cd => (match cd.ex with
        | some _ => if isSup (cx P d) x.c q.1 then (evHs (cx P d) x q.2.2 (offS q.2.1 σe) h).off q.2.1 else clsR (cx P d) x σe h cs
        | none => .stuck)
      | none => .stuck) := o
    cases hq : P.cls q.1 with
    | none => rw [show (cx P d).P.cls q.1 = none from hq] at o; exact o.elim
    | some ce =>
      rw [show (cx P d).P.cls q.1 = some ce from hq] at o
      dsimp only at o
      cases he : ce.ex with
      | none => rw [he] at o; exact o.elim
      | some gs =>
        rw [he] at o
        dsimp only at o
        refine ⟨isSup (cx P d) x.c q.1, ?_, fun yes a na => ?_, fun no => ?_⟩
        · show PySem.W.exmOne X.K (.ref (T.ad x.c)) (.ref (T.ad q.1)) = some (isSup (cx P d) x.c q.1)
          rw [gm.gd.K, sup_eq hc]
          exact (gm.gd.txt.exc _ _ _ hc hx).exm q.1 ce hq (by rw [he]; rfl)
        · rw [yes, if_pos rfl] at o
          obtain ⟨c, n, hb⟩ := q
          cases n with
          | none => exact ⟨x, cd, fs, G, h, σe, rfl, hc, hx, xa, (fun j ej => by cases ej), R, rs, OkS.off0 o⟩
          | some i => exact ⟨x, cd, fs, G, h, offS (some i) σe, rfl, hc, hx, xa, (fun j ej lj => by
              cases ej
              rw [List.length_set] at lj
              exact List.getElem?_set_self lj), R, rs.off i, OkS.off o⟩
        · rw [no, if_neg (by decide)] at o
          exact cls_want gm hc hx xa R rs o
theorem trym_ok {b : List S} {cs : List (Nm × Option Nat × List HS)} {X : Cx} {M : Mt} {W : L2.WX} {D : Ends} {body : List Stmt} {hd : ExceptHandler} {hds : List ExceptHandler} {pos : Pos} {σ : L2.St} {σe : Env} {H : Hp} {G : Gh} {h : EH} (gm : GoodM T P d X M) (tk : Takes X W) (fr : Fra X)
    (m : mtCls M.st M.cl M.N M.sc cs (hd :: hds) = true) (R : Rel T G h H) (rs : RepS T G σe σ) (o : OkS T W D G H (trymR (cx P d) cs (evSs (cx P d) b σe h)))
    (body_ok : ∀ (W' : L2.WX) (pn : List (Addr × Obj)) (xe : Value → Shared → Prop), Takes (X.tr pn xe) W' → PassesOwn (model X.prog X.w) X.A X.env xe → ∀ {D : Ends} {σ : L2.St} {σe : Env} {H : Hp} {G : Gh} {h : EH}, Rel T G h H → RepS T G σe σ → OkS T W' D G H (evSs (cx P d) b σe h) → SSs (X.tr pn xe) body D σ H) :
    SS X (.Try body (hd :: hds) [] [] pos) D σ H := by
  let tb : L2.WX → TS := fun W' D σ H => ∃ G h σe, Rel T G h H ∧ RepS T G σe σ ∧ OkS T W' D G H (evSs (cx P d) b σe h)
  have hbody : ∀ (W' : L2.WX) (pn : List (Addr × Obj)) (xe : Value → Shared → Prop), Takes (X.tr pn xe) W' → PassesOwn (model X.prog X.w) X.A X.env xe → PSs (X.tr pn xe) body (tb W') := fun W' pn xe tk' pa => ⟨fun pins s σ H D I ⟨G, h, σe, R, rs, o⟩ => body_ok W' pn xe tk' pa R rs o pins s I⟩
  refine SS.of (ps_try_cls fr.1 fr.2.1 gm.gd.nd tk hbody (cls_ok (W := W) gm m)) ⟨G, h, σe, R, rs, ?_⟩
  cases er : evSs (cx P d) b σe h with
  | stuck => rw [er] at o; exact o
  | ok f σ2 h2 => rw [er] at o; exact o
  | err x σ2 h2 =>
    intro G' dd H' σ' ev R' rs' xa
    rw [er, trymR_err] at o
    cases hc2 : P.cls x.c with
    | none => rw [show (cx P d).P.cls x.c = none from hc2] at o; exact o.elim
    | some cd =>
      rw [show (cx P d).P.cls x.c = some cd from hc2] at o
      dsimp only at o
      cases hx2 : cd.ex with
      | none => rw [hx2] at o; exact o.elim
      | some fs =>
        rw [hx2] at o
        exact cls_want gm hc2 hx2 xa R' rs' (OkS.ev o ev)
mutual
theorem sdS : ∀ (e : S) {X : Cx} {M : Mt} {W : L2.WX} {D : Ends} {ps : Stmt} {σ : L2.St} {σe : Env} {H : Hp} {G : Gh} {h : EH}, GoodM T P d X M → Takes X W → PassesOwn (model X.prog X.w) X.A X.env X.xe → Fra X → mtS M.st M.gl M.cl M.N M.sc e ps = true → Rel T G h H → RepS T G σe σ →
    OkS T W D G H (evS (cx P d) e σe h) → SS X ps D σ H
  | .ex e, X, M, W, D, ps, σ, σe, H, G, h, gm, tk, hp, fr, m, R, rs, o => by
    cases ps with
    | Expr x pos =>
      have m : (!compB x && mtE M.st M.gl M.cl M.N M.sc e x) = true := m
      rw [Bool.and_eq_true] at m
      have o : OkS T W D G H ((evE (cx P d) e σe h).thn σe fun _ h => .ok .nx σe h) := o
      refine SS.of (ps_expr (peS X x) (swn (by simpa using m.1))) ?_
      refine SE.mono (sdE e gm tk m.2 R rs (OkS.q rs o)) ?_
      rintro y H1 ⟨v, h1, G1, e1, R1, rx, o1⟩
      exact OkS.nx o1 R1 (rs.le e1.le)
    | _ => exact Bool.noConfusion m
  | .asg t e, X, M, W, D, ps, σ, σe, H, G, h, gm, tk, hp, fr, m, R, rs, o => by
    cases ps with
    | Assign tgs x pos =>
      cases tgs with
      | nil => exact Bool.noConfusion m
      | cons tg rr =>
        cases rr with
        | cons => exact Bool.noConfusion m
        | nil =>
          have o : OkS T W D G H ((evE (cx P d) e σe h).thn σe fun v h => (match setT t v σe with
            | some σ => .ok .nx σ h
            | none => .stuck)) := o
          by_cases hc : compB x = false ∨ ∃ y py, tg = .Name y py ∧ X.env.scope.names.lookup y = some .cell
          · have m' : mtTc M.N M.sc t tg = true ∧ mtE M.st M.gl M.cl M.N M.sc e x = true ∧ (tupB tg = false ∨ tupB x = false) ∧ ∀ es p, tg ≠ .List es p := by
              cases t with
              | v i =>
                have m : (mtTc M.N M.sc (.v i) tg && mtE M.st M.gl M.cl M.N M.sc e x && _) = true := m
                rw [Bool.and_eq_true, Bool.and_eq_true] at m
                refine ⟨m.1.1, m.1.2, .inl ?_, ?_⟩
                · cases tg <;> first | rfl | exact Bool.noConfusion m.1.1
                · rintro es p rfl; exact Bool.noConfusion m.1.1
              | t is =>
                have m : (mtTc M.N M.sc (.t is) tg && mtE M.st M.gl M.cl M.N M.sc e x && (!compB x && !tupB x)) = true := m
                rw [Bool.and_eq_true, Bool.and_eq_true, Bool.and_eq_true] at m
                refine ⟨m.1.1, m.1.2, .inr (by simpa using m.2.2), ?_⟩
                rintro es p rfl; exact Bool.noConfusion m.1.1
            refine SS.of (ps_asg (peS X x) (pg_ofc gm.gd.nd gm.N gm.sc fr.2.2 gm.gd.calm m'.1) (sws2 hc) (sst m'.2.2.1 m'.2.2.2) (asg1 m'.1)) ?_
            refine SE.mono (sdE e gm tk m'.2.1 R rs (OkS.q rs o)) ?_
            rintro y H1 ⟨v, h1, G1, e1, R1, rx, o1⟩
            rw [gm.gd.K]
            cases es : setT t v σe with
            | none => rw [es] at o1; exact o1.elim
            | some σ' =>
              rw [es] at o1
              exact gOf_ok R1 rx es ((rs.le e1.le).b) fun σ2 _ rs2 => OkS.nx o1 R1 rs2
          · cases t with
              | t is =>
                have m : (mtTc M.N M.sc (.t is) tg && mtE M.st M.gl M.cl M.N M.sc e x && (!compB x && !tupB x)) = true := m
                rw [Bool.and_eq_true, Bool.and_eq_true, Bool.and_eq_true] at m
                exact absurd (.inl (by simpa using m.2.1)) hc
              | v i =>
                cases tg with
                | Name y py =>
                  cases x with
                  | ListComp px gs scope lpos =>
                    have m : (mtLc M.N M.sc i y && mtE M.st M.gl M.cl M.N M.sc e (.ListComp px gs scope lpos) && (!true || (cellB M.sc y || ((py.line == lpos.line) && !(scope.names.any fun (n, k) => n == y && (k == .local || k == .cell)))))) = true := m
                    have nc : X.env.scope.names.lookup y ≠ some .cell := fun z => hc (.inr ⟨y, py, rfl, z⟩)
                    have nc2 : cellB M.sc y = false := by
                      unfold cellB
                      rw [← gm.sc]
                      split
                      · exact absurd (by assumption) nc
                      · rfl
                    rw [Bool.and_eq_true, Bool.and_eq_true, Bool.not_true, Bool.false_or, nc2, Bool.false_or, Bool.and_eq_true] at m
                    obtain ⟨⟨m1, m2⟩, m3, m4⟩ := m
                    obtain ⟨n1, _, n3⟩ := mtLc_ok gm.N gm.sc fr.2.2 m1
                    have n2 : X.env.scope.names.lookup y = some .local := n3.elim (fun z => z) fun z => absurd z nc
                    exact asgLc gm tk m2 R rs n1 n2 m3 (by simpa using m4) o
                  | SetComp a b c d2 =>
                    have m : (mtLc M.N M.sc i y && mtE M.st M.gl M.cl M.N M.sc e (.SetComp a b c d2) && (!true || false)) = true := m
                    rw [Bool.and_eq_true] at m
                    exact Bool.noConfusion m.2
                  | DictComp a b c d2 e2 =>
                    have m : (mtLc M.N M.sc i y && mtE M.st M.gl M.cl M.N M.sc e (.DictComp a b c d2 e2) && (!true || false)) = true := m
                    rw [Bool.and_eq_true] at m
                    exact Bool.noConfusion m.2
                  | _ => exact absurd (.inl rfl) hc
                | _ => exact Bool.noConfusion m
    | _ => exact Bool.noConfusion m
  | .par is es, X, M, W, D, ps, σ, σe, H, G, h, gm, tk, hp, fr, m, R, rs, o => by
    have m : mtPar M.st M.gl M.cl M.N M.sc is es ps = true := m
    unfold mtPar at m
    split at m
    · exact par2_ok gm tk m R rs o
    · cases m
  | .sat ob f e, X, M, W, D, ps, σ, σe, H, G, h, gm, tk, hp, fr, m, R, rs, o => by
    cases ps with
    | Assign tgs x pos =>
      cases tgs with
      | nil => exact Bool.noConfusion m
      | cons tg rr =>
        cases tg with
        | Attribute y g p2 =>
          cases rr with
          | cons => exact Bool.noConfusion m
          | nil =>
            have m : (!compB x && decide (M.st f = g) && mtE M.st M.gl M.cl M.N M.sc ob y && mtE M.st M.gl M.cl M.N M.sc e x) = true := m
            rw [Bool.and_eq_true, Bool.and_eq_true, Bool.and_eq_true] at m
            obtain ⟨⟨⟨m1, m2⟩, m3⟩, m4⟩ := m
            have m2 := of_decide_eq_true m2
            subst m2
            have o : OkS T W D G H ((evE (cx P d) e σe h).thn σe fun v h => (evE (cx P d) ob σe h).thn σe fun o h => (setAt (cx P d) o f v h).thn σe fun _ h => .ok .nx σe h) := o
            refine SS.of (ps_fld (peS X y) (peS X x) (swo (by simpa using m1))) ?_
            refine SE.mono (sdE e gm tk m4 R rs (OkS.q rs o)) ?_
            rintro y1 H1 ⟨v, h1, G1, e1, R1, rx, o1⟩
            refine SE.mono (sdE ob gm tk m3 R1 (rs.le e1.le) (OkS.q (rs.le e1.le) o1)) ?_
            rintro y2 H2 ⟨v2, h2, G2, e2, R2, rx2, o2⟩
            rw [← gm.st]
            exact setAt_ok gm.gd R2 rx2 (rx.le e2.le) (rs.le (e1.le.trans e2.le)) o2
        | _ => cases rr <;> exact Bool.noConfusion m
    | _ => exact Bool.noConfusion m
  | .sit ob k e, X, M, W, D, ps, σ, σe, H, G, h, gm, tk, hp, fr, m, R, rs, o => by
    cases ps with
    | Assign tgs x pos =>
      cases tgs with
      | nil => exact Bool.noConfusion m
      | cons tg rr =>
        cases tg with
        | Subscript y z p2 =>
          cases rr with
          | cons => exact Bool.noConfusion m
          | nil =>
            have m : (!compB x && mtE M.st M.gl M.cl M.N M.sc ob y && mtE M.st M.gl M.cl M.N M.sc k z && mtE M.st M.gl M.cl M.N M.sc e x) = true := m
            rw [Bool.and_eq_true, Bool.and_eq_true, Bool.and_eq_true] at m
            obtain ⟨⟨⟨m1, m2⟩, m3⟩, m4⟩ := m
            have o : OkS T W D G H ((evE (cx P d) e σe h).thn σe fun v h => (evE (cx P d) ob σe h).thn σe fun o h => (evE (cx P d) k σe h).thn σe fun k h => (setIt o k v h).thn σe fun _ h => .ok .nx σe h) := o
            refine SS.of (ps_asg (peS X x) (pg_sub (peS X y) (peS X z) set_list (by intro v; have hz := mt_plain m3; revert hz; cases z <;> intro hz <;> first | rfl | cases hz)) (sws (by simpa using m1)) (sst (.inl rfl) (fun _ _ => Expr.noConfusion)) rfl) ?_
            refine SE.mono (sdE e gm tk m4 R rs (OkS.q rs o)) ?_
            rintro y1 H1 ⟨v, h1, G1, e1, R1, rx, o1⟩
            have rs1 := rs.le e1.le
            refine SE.mono (sdE ob gm tk m2 R1 rs1 (OkS.q rs1 o1)) ?_
            rintro y2 H2 ⟨v2, h2, G2, e2, R2, rx2, o2⟩
            have rs2 := rs1.le e2.le
            refine SE.mono (sdE k gm tk m3 R2 rs2 (OkS.q rs2 o2)) ?_
            rintro y3 H3 ⟨v3, h3, G3, e3, R3, rx3, o3⟩
            have rs3 := rs2.le e3.le
            exact setIt_ok R3 (rx2.le e3.le) rx3 ((rx.le e2.le).le e3.le) (OkR.imp (OkS.thn rs3 o3) fun _ h4 G4 H4 e4 R4 o4 R5 e5 => OkS.nx o4 R4 (rs3.le e4.le))
        | _ => cases rr <;> exact Bool.noConfusion m
    | _ => exact Bool.noConfusion m
  | .aug i b e, X, M, W, D, ps, σ, σe, H, G, h, gm, tk, hp, fr, m, R, rs, o => by
    cases ps with
    | AugAssign tg op q pos =>
      cases tg with
      | Name x p2 =>
        have m : (decide (b.op = op) && mtLc M.N M.sc i x && mtE M.st M.gl M.cl M.N M.sc e q) = true := m
        rw [Bool.and_eq_true, Bool.and_eq_true] at m
        obtain ⟨⟨m1, m2⟩, m3⟩ := m
        have m1 := of_decide_eq_true m1
        subst m1
        obtain ⟨n1, n2, n3⟩ := mtLc_ok gm.N gm.sc fr.2.2 m2
        have o : OkS T W D G H (match slot i σe with
          | some a => (evE (cx P d) e σe h).thn σe fun c h => (opAug (cx P d) b a c h).thn σe fun v h => .ok .nx (setS i (some v) σe) h
          | none => .stuck) := o
        cases es : slot i σe with
        | none => rw [es] at o; exact o.elim
        | some a =>
          rw [es] at o
          dsimp only at o
          obtain ⟨w, w1, w2⟩ := rs.get es
          refine aug_stm gm.gd.nd n1 n3 n2 w1 ?_
          refine SE.mono (sdE e gm tk m3 R rs (OkS.q rs o)) ?_
          rintro y H1 ⟨v, h1, G1, e1, R1, rx, o1⟩ pins s ux uy I sx sy
          exact aug_ok gm.gd tk I R1 (w2.le e1.le) rx sx sy (OkR.imp (OkS.thn (rs.le e1.le) o1) fun z h2 G2 H2 e2 R2 o2 k rk => OkS.nx o2 R2 (((rs.le e1.le).le e2.le).set rk i))
      | _ => exact Bool.noConfusion m
    | _ => exact Bool.noConfusion m
  | .ret e, X, M, W, D, ps, σ, σe, H, G, h, gm, tk, hp, fr, m, R, rs, o => by
    cases ps with
    | Return vv pos =>
      cases vv with
      | none => exact Bool.noConfusion m
      | some x =>
        have m : mtE M.st M.gl M.cl M.N M.sc e x = true := m
        have o : OkS T W D G H ((evE (cx P d) e σe h).thn σe fun v h => .ok (.rt v) σe h) := o
        refine SS.of (ps_ret (peS X x)) ?_
        refine SE.mono (sdE e gm tk m R rs (OkS.q rs o)) ?_
        rintro y H1 ⟨v, h1, G1, e1, R1, rx, o1⟩
        exact o1 G1 H1 σ (Ev.refl _ _) R1 (rs.le e1.le) y rx
    | _ => exact Bool.noConfusion m
  | .retn, X, M, W, D, ps, σ, σe, H, G, h, gm, tk, hp, fr, m, R, rs, o => by
    cases ps with
    | Return vv pos =>
      cases vv with
      | some x => exact Bool.noConfusion m
      | none =>
        exact SS.of ps_retN (o G H σ (Ev.refl _ _) R rs .non rfl)
    | _ => exact Bool.noConfusion m
  | .ifs c a b, X, M, W, D, ps, σ, σe, H, G, h, gm, tk, hp, fr, m, R, rs, o => by
    cases ps with
    | If z x y pos =>
      have m : (mtQ M.st M.gl M.cl M.N M.sc c z && mtSs M.st M.gl M.cl M.N M.sc a x && mtSs M.st M.gl M.cl M.N M.sc b y) = true := m
      rw [Bool.and_eq_true, Bool.and_eq_true] at m
      have o : OkS T W D G H ((evT (cx P d) c σe h).thn σe fun t h => if t then evSs (cx P d) a σe h else evSs (cx P d) b σe h) := o
      refine SS.of (ps_if (ptS X z) (pssS X x) (pssS X y)) ?_
      intro pins s I
      refine thn (sdT c gm tk m.1.1 R rs (OkS.qT rs o) pins s I) fun t s1 ⟨H1, I1, h1, G1, e1, R1, o1⟩ => ⟨H1, I1, ?_⟩
      cases t with
      | true => exact ite_tt (sdSs a gm tk hp fr m.1.2 R1 (rs.le e1.le) o1)
      | false => exact ite_ff (sdSs b gm tk hp fr m.2 R1 (rs.le e1.le) o1)
    | _ => exact Bool.noConfusion m
  | .whl c b, X, M, W, D, ps, σ, σe, H, G, h, gm, tk, hp, fr, m, R, rs, o => by
    cases ps with
    | While z x oo pos =>
      cases oo with
      | cons => exact Bool.noConfusion m
      | nil =>
        have m : (mtQ M.st M.gl M.cl M.N M.sc c z && mtSs M.st M.gl M.cl M.N M.sc b x) = true := m
        rw [Bool.and_eq_true] at m
        refine SS.of (ps_while hp (ptS X z) (pssS X x)) ?_
        exact wh_run R rs o (fun R rs o => sdT c gm tk m.1 R rs o) (fun R rs o => sdSs b gm tk hp fr m.2 R rs o)
    | _ => exact Bool.noConfusion m
  | .for_ t it b, X, M, W, D, ps, σ, σe, H, G, h, gm, tk, hp, fr, m, R, rs, o => by
    cases ps with
    | For tg pit x oo pos =>
      cases oo with
      | cons => exact Bool.noConfusion m
      | nil =>
        have m : (mtTc M.N M.sc t tg && mtI M.st M.gl M.cl M.N M.sc it pit tg && mtSs M.st M.gl M.cl M.N M.sc b x) = true := m
        rw [Bool.and_eq_true, Bool.and_eq_true] at m
        have o : OkS T W D G H ((evI (cx P d) it σe h).thn σe fun p h => forL t (fun σ h => evSs (cx P d) b σ h) p.1 p.2 σe h) := o
        refine SS.of (ps_for hp gm.gd.calm (piS X tg pit) (pg_ofc gm.gd.nd gm.N gm.sc fr.2.2 gm.gd.calm m.1.1) (pssS X x) (plain_fold (mtI_plain m.1.2))) ?_
        rw [gm.gd.K]
        refine sdI it gm tk m.1.2 R rs (OkR.imp (OkS.thn rs o) fun p h1 G1 H1 e1 R1 o1 J j ok => ?_)
        exact for_run j R1 (rs.le e1.le) o1 (fun R rs o => sdSs b gm tk hp fr m.2 R rs o)
    | _ => exact Bool.noConfusion m
  | .rai c es, X, M, W, D, ps, σ, σe, H, G, h, gm, tk, hp, fr, m, R, rs, o => by
    cases ps with
    | Raise ex ca pos =>
      cases ex with
      | none => exact Bool.noConfusion m
      | some ex =>
        cases ex with
        | Call fe qs kp pos2 =>
          cases fe with
          | Name y p1 =>
            cases qs with
            | nil =>
              cases kp with
              | cons => exact Bool.noConfusion m
              | nil =>
                cases ca with
                | some => exact Bool.noConfusion m
                | none => exact raise0_ok gm tk m R rs o
            | cons q qs =>
              cases kp with
              | cons => exact Bool.noConfusion m
              | nil =>
                cases ca with
                | some => exact Bool.noConfusion m
                | none => exact raise_ok gm tk m R rs o
          | _ => exact Bool.noConfusion m
        | _ => exact Bool.noConfusion m
    | _ => exact Bool.noConfusion m
  | .try_ b c n hb, X, M, W, D, ps, σ, σe, H, G, h, gm, tk, hp, fr, m, R, rs, o => by
    cases ps with
    | Try body hds oe fin pos =>
      cases hds with
      | nil => exact Bool.noConfusion m
      | cons hd hds =>
        cases hd with
        | ExceptHandler ty nm su pos2 =>
          cases ty with
          | none => exact Bool.noConfusion m
          | some ty =>
            cases ty with
            | Name y np =>
              cases su with
              | nil => exact Bool.noConfusion m
              | cons s0 suite =>
                cases hds with
                | cons => exact Bool.noConfusion m
                | nil =>
                  cases oe with
                  | cons => exact Bool.noConfusion m
                  | nil =>
                    cases fin with
                    | cons => exact Bool.noConfusion m
                    | nil =>
                      have m : (decide (M.st c = y) && glB M.sc y && dbgB y && M.cl c && mtNm M.N M.sc n nm && mtHSs M.st M.cl M.N M.sc n hb (s0 :: suite) && mtSs M.st M.gl M.cl M.N M.sc b body) = true := m
                      simp only [Bool.and_eq_true] at m
                      obtain ⟨⟨⟨⟨⟨⟨m1, m2⟩, m3⟩, m4⟩, m5⟩, m6⟩, m7⟩ := m
                      exact try_ok gm tk fr m1 m2 m3 m4 m5 m6 R rs o fun W' pn xe tk' pa' {D σ σe H G h} R rs o => sdSs (X := X.tr pn xe) b ⟨⟨gm.gd.K, gm.gd.calm, gm.gd.nd, gm.gd.room, gm.gd.txt, gm.gd.fns, gm.gd.fns', gm.gd.two, gm.gd.xin, gm.gd.tld⟩, gm.N, gm.sc, gm.st, gm.gv, gm.gc, gm.nob⟩ tk' pa' fr m7 R rs o
            | _ => exact Bool.noConfusion m
    | _ => exact Bool.noConfusion m
  | .trym b cs, X, M, W, D, ps, σ, σe, H, G, h, gm, tk, hp, fr, m, R, rs, o => by
    cases ps with
    | Try body hds oe fin pos =>
      cases hds with
      | nil => exact Bool.noConfusion m
      | cons hd hds =>
        cases oe with
        | cons => exact Bool.noConfusion m
        | nil =>
          cases fin with
          | cons => exact Bool.noConfusion m
          | nil =>
            have m : (mtCls M.st M.cl M.N M.sc cs (hd :: hds) && mtSs M.st M.gl M.cl M.N M.sc b body) = true := m
            rw [Bool.and_eq_true] at m
            rw [evS_trym] at o
            exact trym_ok gm tk fr m.1 R rs o fun W' pn xe tk' pa' {D σ σe H G h} R rs o => sdSs (X := X.tr pn xe) b ⟨⟨gm.gd.K, gm.gd.calm, gm.gd.nd, gm.gd.room, gm.gd.txt, gm.gd.fns, gm.gd.fns', gm.gd.two, gm.gd.xin, gm.gd.tld⟩, gm.N, gm.sc, gm.st, gm.gv, gm.gc, gm.nob⟩ tk' pa' fr m.2 R rs o
    | _ => exact Bool.noConfusion m
  | .pass, X, M, W, D, ps, σ, σe, H, G, h, gm, tk, hp, fr, m, R, rs, o => by
    cases ps with
    | Pass pos =>
      exact SS.of ps_pass (OkS.nx o R rs)
    | _ => exact Bool.noConfusion m
  | .brk, X, M, W, D, ps, σ, σe, H, G, h, gm, tk, hp, fr, m, R, rs, o => by
    cases ps with
    | Break pos =>
      exact SS.of ps_break (o G H σ (Ev.refl _ _) R rs)
    | _ => exact Bool.noConfusion m
  | .cnt, X, M, W, D, ps, σ, σe, H, G, h, gm, tk, hp, fr, m, R, rs, o => by
    cases ps with
    | Continue pos =>
      exact SS.of ps_continue (o G H σ (Ev.refl _ _) R rs)
    | _ => exact Bool.noConfusion m
  | .bad, X, M, W, D, ps, σ, σe, H, G, h, gm, tk, hp, fr, m, R, rs, o => False.elim o

theorem sdSs : ∀ (e : List S) {X : Cx} {M : Mt} {W : L2.WX} {D : Ends} {ps : List Stmt} {σ : L2.St} {σe : Env} {H : Hp} {G : Gh} {h : EH}, GoodM T P d X M → Takes X W → PassesOwn (model X.prog X.w) X.A X.env X.xe → Fra X → mtSs M.st M.gl M.cl M.N M.sc e ps = true → Rel T G h H → RepS T G σe σ →
    OkS T W D G H (evSs (cx P d) e σe h) → SSs X ps D σ H
  | [], X, M, W, D, ps, σ, σe, H, G, h, gm, tk, hp, fr, m, R, rs, o => by
    cases ps with
    | nil => exact SSs.of pss_nil (OkS.nx o R rs)
    | cons => exact Bool.noConfusion m
  | e :: es, X, M, W, D, ps, σ, σe, H, G, h, gm, tk, hp, fr, m, R, rs, o => by
    cases ps with
    | nil => exact Bool.noConfusion m
    | cons p ps =>
      have m : (mtS M.st M.gl M.cl M.N M.sc e p && mtSs M.st M.gl M.cl M.N M.sc es ps) = true := m
      rw [Bool.and_eq_true] at m
      refine SSs.of (pss_cons (psS X p) (pssS X ps)) ?_
      refine sdS e gm tk hp fr m.1 R rs (D := { D with nx := fun σ H => SSs X ps D σ H }) ?_
      have o : OkS T W D G H ((evS (cx P d) e σe h).next fun σ h => evSs (cx P d) es σ h) := o
      cases z : evS (cx P d) e σe h with
      | stuck => rw [z] at o; exact o
      | err x σ2 h2 => rw [z] at o; exact o
      | ok f σ2 h2 =>
        rw [z] at o
        cases f with
        | nx => exact fun G2 H2 σ3 e2 R2 rs2 => sdSs es gm tk hp fr m.2 R2 rs2 (OkS.ev (r := evSs (cx P d) es σ2 h2) o e2)
        | rt v => exact o
        | br => exact o
        | ct => exact o
end
end
end Py

set_option linter.all false
set_option Elab.async false
set_option maxRecDepth 100000
set_option maxHeartbeats 4000017
/-! A def's end. -/
namespace Py
open L2 PyProof.Rows PySem.Spec PySem
section
variable {T : Tx} {G : Gh} {h : EH} {H : Hp} {Q : VK} {E : XK}
theorem look_low {k : Nat} {f : Nm} : ∀ {fs : List (Nm × PV)} {v : PV}, lowF k fs = true → look f fs = some v → v.lowB k = true
  | [], _, _, e => by cases e
  | (g, x) :: r, v, l, e => by
    obtain ⟨l1, l2⟩ := Bool.and_eq_true_iff.mp l
    rw [look_cons] at e
    split at e
    · cases e; exact l1
    · exact look_low l2 e
open Classical in
theorem endF_ok {fd : FDef} {r : RS} (R : Rel T G h H) (o : OkR T [] (fun c x _ H' => E c x H') G H (endF fd h r) (KV T Q)) :
    OkS T (fun c x _ H' => E c x H') { nx := fun _ H' => Q .non H', rt := Q } G H r := by
  unfold endF at o
  cases r with
  | stuck => exact o
  | err x σ2 h2 =>
    dsimp only at o
    intro G2 d H2 σ3 e R2 _ ex
    cases hz : fd.fz with
    | false =>
      rw [hz] at o
      exact o G2 d H2 e R2 ex
    | true =>
      rw [hz, if_pos rfl] at o
      split at o
      · rename_i hc
        obtain ⟨⟨g, rfl⟩, hl⟩ := hc
        obtain ⟨R3, E3, k, k1, k2⟩ := forget R e R2
        refine o _ d H2 E3 R3 ?_
        rcases ex with ex | ⟨dd, ys, d1, d2, d3⟩
        · exact .inl ex
        · refine .inr ⟨dd, ys, d1, d2, fun f => ?_⟩
          have q3 := d3 f
          cases q : look f x.fs with
          | none => rw [q] at q3; exact q3
          | some v =>
            rw [q] at q3
            obtain ⟨y, y1, y2⟩ := q3
            refine ⟨y, y1, ?_⟩
            obtain ⟨F2, m2⟩ := G2
            dsimp only at k1
            subst k1
            exact RepV.low (e := k) (by rw [R.len]; exact look_low hl q) y2
      · exact o G2 d H2 e R2 ex
  | ok f σ2 h2 =>
    have sh : ∀ {v : PV}, fd.fz = true → OkR T [] (fun c x _ H' => E c x H') G H (shut h v h2) (KV T Q) → ∀ G2 H2, Ev G H G2 H2 → Rel T G2 h2 H2 → ∀ y, RepV T G2 v y → Q y H2 := fun {v} hz oo G2 H2 e R2 y ry => by
      have plain : ∀ {v : PV} {y : V} {r : Res PV}, RepV T G2 v y → (OkR T [] (fun c x _ H' => E c x H') G H r (KV T Q) → Q y H2) → OkR T [] (fun c x _ H' => E c x H') G H (if suf h h2 ∧ v.lowB h.length = true then .ok v h else r) (KV T Q) → Q y H2 := fun {v y r} ry w op => by
        split at op
        · rename_i hc
          obtain ⟨⟨g, rfl⟩, hl⟩ := hc
          obtain ⟨R3, E3, k, k1, k2⟩ := forget R e R2
          refine op _ H2 E3 R3 y ?_
          obtain ⟨F2, m2⟩ := G2
          dsimp only at k1
          subst k1
          exact RepV.low (e := k) (by rw [R.len]; exact hl) ry
        · exact w op
      have same : OkR T [] (fun c x _ H' => E c x H') G H (.ok v h2) (KV T Q) → Q y H2 := fun o => o G2 H2 e R2 y ry
      unfold shut at oo
      cases v with
      | loc n =>
        dsimp only at oo
        by_cases hn : h.length ≤ n
        · rw [if_pos hn] at oo
          have ry0 := ry
          obtain ⟨a, rfl, ma⟩ := ry
          have na : H a = none := by
            rcases e.new n a ma with z | z
            · have := mget_lt z; rw [R.len] at this; omega
            · exact z
          have nm : ∀ k, mget k G.m ≠ some a := fun k q => by
            obtain ⟨u, w⟩ := R.here k a q
            rw [na] at w; cases w
          cases z : hget n h2 with
          | none => rw [z] at oo; dsimp only at oo; (try rw [if_pos hn] at oo); exact plain (r := .stuck) ry0 (fun o => False.elim o) oo
          | some ob =>
            rw [z] at oo
            obtain ⟨b, b1, b2⟩ := R2.ob n ob z
            rw [ma] at b1; cases b1
            cases ob with
            | lst xs =>
              obtain ⟨f, ys, q1, q2⟩ := b2
              dsimp only at oo
              split at oo
              · rename_i hc
                obtain ⟨⟨g, rfl⟩, hl⟩ := hc
                obtain ⟨R3, E3, k, k1, k2⟩ := forget R e R2
                refine oo _ H2 (E3.keepF (u := .lst ys) f na) (R3.keepF f nm q1) (.ref a) ⟨a, ys, rfl, upd_same, ?_⟩
                refine RepL.le (G := ⟨G2.F, G.m⟩) (Le.put f) ?_
                obtain ⟨F2, m2⟩ := G2
                dsimp only at k1
                subst k1
                exact RepL.low (e := k) (by rw [R.len]; exact hl) q2
              · try rw [if_pos hn] at oo
                exact oo _ H2 (e.keepF (u := .lst ys) f na) (R2.freeze ma f q1) (.ref a) ⟨a, ys, rfl, upd_same, q2.le (Le.put f)⟩
            | dct xs =>
              obtain ⟨f, ys, q1, q2⟩ := b2
              dsimp only at oo
              split at oo
              · rename_i hc
                obtain ⟨⟨g, rfl⟩, hl⟩ := hc
                obtain ⟨R3, E3, k, k1, k2⟩ := forget R e R2
                refine oo _ H2 (E3.keepF (u := .dK ys) f na) (R3.keepF f nm q1) (.ref a) ⟨a, ys, rfl, upd_same, ?_⟩
                refine RepK.le (G := ⟨G2.F, G.m⟩) (Le.put f) ?_
                obtain ⟨F2, m2⟩ := G2
                dsimp only at k1
                subst k1
                exact RepK.low (e := k) (by rw [R.len]; exact hl) q2
              · try rw [if_pos hn] at oo
                exact oo.elim
            | _ => exact plain ry0 (fun o => by (try rw [if_pos hn] at o); exact o.elim) oo
        · rw [if_neg hn] at oo
          exact plain ry (fun o => by (try rw [if_neg hn] at o); exact same o) oo
      | _ => exact plain ry same oo
    cases f with
    | nx =>
      dsimp only at o
      intro G2 H2 σ3 e R2 _
      cases hz : fd.fz with
      | false => rw [hz] at o; exact o G2 H2 e R2 .non rfl
      | true => rw [hz, if_pos rfl] at o; exact sh hz o G2 H2 e R2 .non rfl
    | rt v =>
      dsimp only at o
      intro G2 H2 σ3 e R2 _ y ry
      cases hz : fd.fz with
      | false => rw [hz] at o; exact o G2 H2 e R2 y ry
      | true => rw [hz, if_pos rfl] at o; exact sh hz o G2 H2 e R2 y ry
    | br => exact o.elim
    | ct => exact o.elim
end
end Py

set_option linter.all false
set_option Elab.async false
set_option maxRecDepth 100000
set_option maxHeartbeats 4000017
/-! A def keeps its promise. -/
namespace Py
open L2 PyProof.Rows PySem.Spec PySem
section
variable {T : Tx} {P : Prog} {prog : Program} {w : World} {mg : Str → Option Value} {base : Heap}
theorem rep_start {G : Gh} {n : Nat} {N : List Str} (hn : n = N.length) : ∀ {as : List PV} {vs : List V}, RepL T G as vs → RepS T G (start n as) (L2.start N vs) := by
  intro as vs r
  subst hn
  unfold start L2.start
  rw [r.length]
  generalize N.length - vs.length = k
  have tl : RepS T G (List.replicate k none) (List.replicate k none) := by
    induction k with
    | zero => rfl
    | succ k ih => exact ⟨none, _, rfl, (fun v e => by cases e), ih⟩
  revert vs
  induction as with
  | nil => intro vs r; cases r; exact tl
  | cons a as ih =>
    intro vs r
    obtain ⟨y, q, rfl, h1, t1⟩ := r
    exact ⟨some y, _, rfl, (fun v e => by cases e; exact ⟨y, rfl, h1⟩), ih t1⟩
/-- self.f = y -/
def mtIn1 (st : Nm → Str) (sc : Scope) (self : Str) (f : Nm) (y : Str) (p : Stmt) : Bool := match p with
  | .Assign [.Attribute (.Name s _) g _] (.Name z _) _ => decide (s = self) && decide (st f = g) && decide (z = y) && visB sc self && dbgB self && visB sc y && dbgB y
  | _ => false
/-- an exception's __init__ -/
def mtInit (st : Nm → Str) (sc : Scope) (self : Str) (fs : List Nm) (ps : List Str) (body : List Stmt) : Bool := match fs, ps, body with
  | [f], [y], [p] => mtIn1 st sc self f y p
  | [f, f2], [y, y2], [p, p2] => mtIn1 st sc self f y p && mtIn1 st sc self f2 y2 p2
  | _, _, _ => false
theorem in1_ok {st : Nm → Str} {X : Cx} {self : Str} {f : Nm} {y : Str} {p : Stmt} {i : Nat} (h0 : X.N[0]? = some self) (hi : X.N[i]? = some y) (m : mtIn1 st X.env.scope self f y p = true) : PS X p (tOst X.K (st f) (tVar 0) (tVar i)) := by
  unfold mtIn1 at m
  split at m
  · simp only [Bool.and_eq_true, decide_eq_true_eq] at m
    obtain ⟨⟨⟨⟨⟨⟨rfl, rfl⟩, rfl⟩, m4⟩, m5⟩, m6⟩, m7⟩ := m
    have d1 := dbg_ok m5
    have d2 := dbg_ok m7
    exact ps_ost (pe_var h0 (visB_ok m4) d1.1 d1.2.1) (pe_var hi (visB_ok m6) d2.1 d2.2.1) rfl
  · cases m
/-- what is asked of a class of exceptions with fields -/
structure XinD (T : Tx) (c fI : Nm) (fs : List Nm) : Prop where
  ex : ∃ (x qual : Str) (params : Arguments) (body : List Stmt) (scope : Scope) (dvs : List V) (kws : List (Str × V)) (fdt : FuncData) (self : Str) (ps : List Str),
    FunD T.K x qual params body scope dvs kws (T.ad fI) fdt ∧ FnScope (self :: ps) (self :: ps) scope ∧ mtInit T.st scope self fs ps body = true ∧ Binds T.K fdt (self :: ps) []
structure TldD (T : Tx) (f : Nm) (t : Str) : Prop where
  ex : ∃ (x qual : Str) (params : Arguments) (body : List Stmt) (scope : Scope) (dvs : List V) (kws : List (Str × V)) (fdt : FuncData) (self : Str) (N : List Str) (k : Nat) (p0 pos : Pos),
    FunD T.K x qual params body scope dvs kws (T.ad f) fdt ∧ FnScope N [self] scope ∧ body = [.Return (some (.Constant (.str t) k p0)) pos] ∧ Binds T.K fdt [self] []
/-- what is asked of the text, whatever runs -/
structure GoodT (T : Tx) (P : Prog) (mg : Str → Option Value) (gl cl : Nm → Bool) : Prop where
  txt : Txt T P mg
  gv : ∀ n v, P.glob n = some v → gl n = true → ∃ y u, mg (T.st n) = some u ∧ RelV y u ∧ ∀ G, RepV T G v y
  gc : ∀ f, cl f = true → mg (T.st f) = some (.ref (T.ad f)) ∧ PySem.W.keepIn T.K (.ref (T.ad f)) = true
  nob : ∀ n ∈ buL, mg (Str.ofString n) = none
  xin : ∀ c cd fs fI, P.cls c = some cd → cd.ex = some fs → fs ≠ [] → cd.ini = some fI → XinD T c fI fs
  tld : ∀ c cd fs m f fd t, P.cls c = some cd → cd.ex = some fs → look m cd.ms = some f → P.fn f = some fd → constR fd.body = some t → TldD T f t
theorem xin_ok {c fI : Nm} {cd : CDef} {fs : List Nm} (XO : XOk T P c cd fs) (ne : fs ≠ []) (D : XinD T c fI fs) :
    ∃ fdt ps, FnOk prog w T.K mg base (L2.CX prog w) 1 (T.ad fI) fdt ps (spX T.K (T.ad c) (fs.map T.st)) ∧ Binds T.K fdt ps [] := by
  obtain ⟨x, qual, params, body, scope, dvs, kws, fdt, self, ps, F, S, m, B⟩ := D.ex
  have lp : ps.length = fs.length := by
    unfold mtInit at m
    split at m
    · rfl
    · rfl
    · cases m
  refine ⟨fdt, self :: ps, F.ok S (fun vs H Q E q => ?_) fun cdv A outer s H vs Q E hr sp => ?_, B⟩
  · obtain ⟨a, ys, rfl, l, _⟩ := q
    rw [List.length_map] at l
    simp [l, lp]
  · obtain ⟨a, ys, rfl, l, ha, k⟩ := sp
    rw [List.length_map] at l
    unfold mtInit at m
    split at m
    · rename_i f y p
      match ys, l with
      | [v], _ =>
        refine ⟨_, pss_cons (in1_ok (X := cxOf (L2.CX prog w) prog w T.K mg base [self, y] qual scope (T.ad fI) cdv A outer s H E) (i := 1) rfl rfl m) pss_nil, ?_⟩
        refine ⟨v, rfl, .ref a, rfl, a, T.ad c, rfl, XO.oex ne, XO.fl f (by simp), .inl ⟨ha, fun dx h1 h2 => ?_⟩⟩
        exact k dx _ h1 h2 upd_same (by rw [upd_ne h2, upd_same]; rfl) fun b b1 b2 => by rw [upd_ne b1, upd_ne b2]
    · rename_i f f2 y y2 p p2
      rw [Bool.and_eq_true] at m
      match ys, l with
      | [v, v2], _ =>
        refine ⟨_, pss_cons (in1_ok (X := cxOf (L2.CX prog w) prog w T.K mg base [self, y, y2] qual scope (T.ad fI) cdv A outer s H E) (i := 1) rfl rfl m.1) (pss_cons (in1_ok (i := 2) rfl rfl m.2) pss_nil), ?_⟩
        refine ⟨v, rfl, .ref a, rfl, a, T.ad c, rfl, XO.oex ne, XO.fl f (by simp), .inl ⟨ha, fun dx h1 h2 => ?_⟩⟩
        refine ⟨v2, rfl, .ref a, rfl, a, T.ad c, rfl, XO.oex ne, XO.fl f2 (by simp), .inr ⟨dx, _, upd_same, by rw [upd_ne h2, upd_same], by simp, ?_⟩⟩
        exact k dx _ h1 h2 (by rw [upd_ne (Ne.symm h2), upd_same]) (by rw [upd_same]; rfl) fun b b1 b2 => by rw [upd_ne b2, upd_ne b1, upd_ne b2]
    · cases m
theorem tld_ok {f : Nm} {t : Str} (D : TldD T f t) : ToldOk prog w T.K mg base (T.ad f) t := by
  obtain ⟨x, qual, params, body, scope, dvs, kws, fdt, self, N, k, p0, pos, F, S, e, B⟩ := D.ex
  exact told_of F S B e
theorem fn_ok {gl cl : Nm → Bool} (Gt : GoodT T P mg gl cl) {k : Nat} {f : Nm} {fd : FDef} (hf : P.fn f = some fd) {x qual : Str} {params : Arguments} {body : List Stmt} {scope : Scope} {dvs : List V} {kws : List (Str × V)} {fdt : FuncData} {N : List Str}
    (F : FunD T.K x qual params body scope dvs kws (T.ad f) fdt) (S : FnScope N (fd.ps.map T.st) scope) (hns : fd.ns = N.length) (m : mtSs T.st gl cl N scope fd.body body = true)
    (fns : ∀ g gd, P.fn g = some gd → FOk T P prog w mg base k g gd) (fns' : ∀ g gd, P.fn g = some gd → FOk T P prog w mg base (k - 1) g gd) (two : 2 ≤ k) : FnOk prog w T.K mg base (L2.CX prog w) (k + 1) (T.ad f) fdt (fd.ps.map T.st) (spE T P (k + 1) f) := by
  refine F.ok S (fun vs H Q E q => ?_) fun cdv A outer s H vs Q E hr sp => ?_
  · obtain ⟨G, h, as, _, _, _, q⟩ := q
    rw [q fd hf, List.length_map]
  · obtain ⟨G, h, as, R, r, o, _⟩ := sp
    refine ⟨SSs _ body, pssS _ body, ?_⟩
    unfold callF at o
    rw [hf] at o
    dsimp only at o
    rw [if_neg (by omega)] at o
    split at o
    · have o := endF_ok R o
      refine sdSs (M := ⟨N, scope, T.st, gl, cl⟩) (W := fun c d _ H => E c d H) fd.body ⟨⟨rfl, rfl, S.nd, hr, Gt.txt, fns, fns', two, (fun c cd fs fI h1 h2 h3 h4 => xin_ok (Gt.txt.exc c cd fs h1 h2) h3 (Gt.xin c cd fs fI h1 h2 h3 h4)), fun c cd fs m f fd t h1 h2 h3 h4 h5 => tld_ok (Gt.tld c cd fs m f fd t h1 h2 h3 h4 h5)⟩, rfl, rfl, rfl, Gt.gv, Gt.gc, Gt.nob⟩ (takes_of rfl rfl rfl rfl) (passes_of rfl) ⟨rfl, rfl, fun _ => rfl⟩ m R (rep_start hns r) o
    · exact o.elim
theorem deep {k : Nat} {f : Nm} {as : List PV} {h h' : EH} {v : PV} (e : callF P k f as h = .ok v h') : 3 ≤ k := by
  match k, e with
  | 0, e => unfold callF at e; cases e
  | k + 1, e =>
    unfold callF at e
    cases qf : P.fn f with
    | none => rw [qf] at e; cases e
    | some fd =>
      rw [qf] at e
      dsimp only at e
      split at e
      · cases e
      · omega
/-! a def that declines -/
theorem gE_inv {e : E} {g : Nm} (h : gE e = some g) : e = .call g [.v 1] [] := by
  unfold gE at h
  split at h
  · split at h
    · split at h
      · split at h
        · split at h
          · rename_i hk
            cases h
            obtain rfl := List.isEmpty_iff.mp hk
            rename_i hi
            subst hi
            rfl
          · cases h
        · cases h
      · cases h
    · cases h
  · cases h
theorem gC_inv {e : E} {g : Nm} (h : gC e = some g) : e = .not (.tst (.call g [.v 1] [])) := by
  unfold gC at h
  split at h
  · split at h
    · rw [gE_inv h]
    · cases h
  · cases h
theorem gR_inv {b : List S} (h : gR b = true) : b = [.ret .ni] := by
  unfold gR at h
  split at h
  · split at h
    · split at h
      · rfl
      · cases h
    · cases h
  · cases h
theorem guard_inv {b : List S} {g : Nm} (h : guardOf b = some g) : ∃ r, b = .ifs (.not (.tst (.call g [.v 1] []))) [.ret .ni] [] :: r := by
  unfold guardOf at h
  split at h
  · split at h
    · split at h
      · rename_i ha
        split at h
        · rename_i hb
          obtain rfl := List.isEmpty_iff.mp hb
          rw [gC_inv h, gR_inv ha]
          exact ⟨_, rfl⟩
        · cases h
      · cases h
    · cases h
  · cases h
theorem dec_ok {gl cl : Nm → Bool} (Gt : GoodT T P mg gl cl) {k : Nat} {f : Nm} {fd : FDef} (hf : P.fn f = some fd) {x qual : Str} {params : Arguments} {body : List Stmt} {scope : Scope} {dvs : List V} {kws : List (Str × V)} {fdt : FuncData} {N : List Str}
    (F : FunD T.K x qual params body scope dvs kws (T.ad f) fdt) (S : FnScope N (fd.ps.map T.st) scope) (hns : fd.ns = N.length) (m : mtSs T.st gl cl N scope fd.body body = true) (B : BindOk T fd fdt)
    (fns : ∀ g gd, P.fn g = some gd → FOk T P prog w mg base k g gd) (fns' : ∀ g gd, P.fn g = some gd → FOk T P prog w mg base (k - 1) g gd) : DecOk T P prog w mg base (k + 1) f fd := by
  intro g hg A outer s H G h a b va vb ua ub Q hr e0 R ra rb sa sb hsh hps hcall hgs q
  obtain ⟨rest, hb⟩ := guard_inv hg
  rw [hb] at m
  obtain ⟨gd, hgd⟩ := Option.isSome_iff_exists.mp hgs
  have hcall : callD (cx P k) g [b] [] h = .ok (.bl false) h := hcall
  have two : 2 ≤ k := by
    unfold callD at hcall
    rw [show (cx P k).P.fn g = some gd from hgd] at hcall
    dsimp only at hcall
    split at hcall
    · have := deep hcall; omega
    · cases hcall
  cases body with
  | nil => exact Bool.noConfusion m
  | cons p0 body =>
    have m : (mtS T.st gl cl N scope (.ifs (.not (.tst (.call g [.v 1] []))) [.ret .ni] []) p0 && mtSs T.st gl cl N scope rest body) = true := m
    rw [Bool.and_eq_true] at m
    cases p0 with
    | If z xs ys pos =>
      have m0 : (mtQ T.st gl cl N scope (.not (.tst (.call g [.v 1] []))) z && mtSs T.st gl cl N scope [.ret .ni] xs && mtSs T.st gl cl N scope [] ys) = true := m.1
      simp only [Bool.and_eq_true] at m0
      obtain ⟨⟨m1, m2⟩, m3⟩ := m0
      cases xs with
      | nil => exact Bool.noConfusion m2
      | cons r0 xs =>
        have m2 : (mtS T.st gl cl N scope (.ret .ni) r0 && mtSs T.st gl cl N scope [] xs) = true := m2
        rw [Bool.and_eq_true] at m2
        cases r0 with
        | Return o rp =>
          cases o with
          | none => exact Bool.noConfusion m2.1
          | some px =>
            have m4 : mtE T.st gl cl N scope .ni px = true := m2.1
            cases px with
            | Name y yp =>
              have m4 : (decide (y = ("NotImplemented" : Str)) && glB scope y && dbgB y) = true := m4
              simp only [Bool.and_eq_true] at m4
              obtain ⟨⟨m5, m6⟩, m7⟩ := m4
              obtain rfl := of_decide_eq_true m5
              obtain ⟨_, _, dV, kV, doc, pm, an, cdv, ct, _, rfl, lk, hcd, _⟩ := F.ex
              have kin : T.K.In s.heap := e0.mod.kin.keeps fun b o e => (e0.bs b o e).1
              have bare : s.heap.NoLimit := e0.mod.nolimit.keeps fun b1 o1 q1 => (e0.bs b1 o1 q1).1
              have hbind : bindA fd [a, b] [] = some [a, b] := by
                unfold bindA
                rw [if_pos (show ([a, b].length, ([] : List (Nm × PV)).map (·.1)) ∈ fd.sh from hsh)]
                rw [show fd.ps.drop [a, b].length = [] from List.drop_eq_nil_of_le (by simp [hps])]
                rfl
              have ru : RepL T G [a, b] [va, vb] := RepL.cons ra (RepL.one rb)
              have rv : Vals [va, vb] [ua, ub] := .cons sa (.cons sb .nil)
              obtain ⟨full, fvs, b1, b2, b3, b4⟩ := B G [a, b] [] [a, b] hbind [va, vb] [] [ua, ub] [] ru rv rfl .nil s kin
              have hkind : ∀ y ∈ (fd.ps.map T.st).zip full, scope.names.lookup y.1 = some .local ∨ (scope.names.lookup y.1 = some .cell ∧ ((cellsFrom (s.heap.objs.size + 1) scope.names []).lookup y.1).isSome = true) := fun ⟨n, v⟩ hy =>
                (S.par n (List.of_mem_zip hy).1).elim .inl fun q => .inr ⟨q, PySem.W.cellsFrom_some _ _ _ (.inl q)⟩
              refine codeAny_call_function hr.depth (kin _ _ lk) rfl S.co S.gen rfl (PySem.W.codeRec_of kin hcd) (b1 _ _ _ _ ?_)
              refine wpAny_newFunctionEnv_cells S.kind hkind fun env he s1 x1 => ?_
              subst he
              refine ⟨bare.keeps x1.toInCall.keep, codeAny_func ?_⟩
              have hl : fvs.length = (fd.ps.map T.st).length := by rw [List.length_map, ← b4]; exact b3.length
              have I : Inv (cxOf (L2.CX prog w) prog w T.K mg base N qual scope (T.ad f) cdv A outer s H fun _ _ _ => False) [] (L2.start N fvs) H s1 := inv_start S hr.hd e0 hl b3 x1
              have gm : GoodM T P k (cxOf (L2.CX prog w) prog w T.K mg base N qual scope (T.ad f) cdv A outer s H fun _ _ _ => False) ⟨N, scope, T.st, gl, cl⟩ := ⟨⟨rfl, rfl, S.nd, hr.deeper _, Gt.txt, fns, fns', two, (fun c cd fs fI h1 h2 h3 h4 => xin_ok (Gt.txt.exc c cd fs h1 h2) h3 (Gt.xin c cd fs fI h1 h2 h3 h4)), fun c cd fs m f fd t h1 h2 h3 h4 h5 => tld_ok (Gt.tld c cd fs m f fd t h1 h2 h3 h4 h5)⟩, rfl, rfl, rfl, Gt.gv, Gt.gc, Gt.nob⟩
              have ev : evT (cx P k) (.not (.tst (.call g [.v 1] []))) (start fd.ns [a, b]) h = .ok true h := by
                have hg2 : callG (cx P k) g [b] [] h = .ok (.bl false) h := by
                  unfold callG
                  rw [show (cx P k).P.fn g = some gd from hgd]
                  exact hcall
                have sl : slot 1 (start fd.ns [a, b]) = some b := rfl
                rw [evT_not, evT_tst, evE_call]
                simp [sl, hg2, truR, truth]
              have tt : ∀ xe, ST ((cxOf (L2.CX prog w) prog w T.K mg base N qual scope (T.ad f) cdv A outer s H fun _ _ _ => False).tr [] xe) z (L2.start N fvs) H (fun t H' => t = true ∧ ∃ G', Ev G H G' H' ∧ Rel T G' h H') := fun xe =>
                sdT (X := (cxOf (L2.CX prog w) prog w T.K mg base N qual scope (T.ad f) cdv A outer s H fun _ _ _ => False).tr [] xe) (W := fun _ _ _ _ => False) _ ⟨⟨gm.gd.K, gm.gd.calm, gm.gd.nd, gm.gd.room, gm.gd.txt, gm.gd.fns, gm.gd.fns', gm.gd.two, gm.gd.xin, gm.gd.tld⟩, gm.N, gm.sc, gm.st, gm.gv, gm.gc, gm.nob⟩ (fun _ _ ⟨_, _, _, _, _, _, _, _, _, _, _, _, _, _, _, _, w⟩ => w.elim) m1 R (rep_start hns b2) (by rw [ev]; exact fun G2 H2 e2 R2 => ⟨rfl, G2, e2, R2⟩)
              have bn : bootBuiltins ("NotImplemented" : Str) = some .notImplemented := by decide +kernel
              refine wpAny_execs_cons (wpAny_If (thn (tt _ [] s1 (I.toTry _)) fun t s2 ⟨H2, I2, et, G2, e2, R2⟩ => ?_))
              subst et
              refine wpAny_execs_cons (wpAny_Return_some (ld_blt (X := (cxOf (L2.CX prog w) prog w T.K mg base N qual scope (T.ad f) cdv A outer s H fun _ _ _ => False).tr [] _) I2 (gl_ok rfl m6) (Gt.nob "NotImplemented" (by decide)) bn ?_))
              exact ⟨rfl, .non, H2, I2.os, I2.bare, I2.base, I2.hok, rfl, q G2 H2 e2 R2⟩
            | _ => exact Bool.noConfusion m4
        | _ => exact Bool.noConfusion m2.1
    | _ => exact Bool.noConfusion m.1
/-- what is asked of a def -/
structure DefOk (T : Tx) (gl cl : Nm → Bool) (f : Nm) (fd : FDef) : Prop where
  ex : ∃ (x qual : Str) (params : Arguments) (body : List Stmt) (scope : Scope) (dvs : List V) (kws : List (Str × V)) (fdt : FuncData) (N : List Str),
    FunD T.K x qual params body scope dvs kws (T.ad f) fdt ∧ FnScope N (fd.ps.map T.st) scope ∧ fd.ns = N.length ∧ mtSs T.st gl cl N scope fd.body body = true ∧ BindOk T fd fdt
theorem all_ok {gl cl : Nm → Bool} (Gt : GoodT T P mg gl cl) (D : ∀ f fd, P.fn f = some fd → DefOk T gl cl f fd) : ∀ k f fd, P.fn f = some fd → FOk T P prog w mg base k f fd := by
  intro k
  induction k using Nat.strongRecOn with
  | ind k ih =>
    intro f fd hf
    obtain ⟨x, qual, params, body, scope, dvs, kws, fdt, N, F, S, hns, m, B⟩ := (D f fd hf).ex
    refine ⟨⟨fdt, ?_, B⟩, F.kp, ?_⟩
    rotate_left
    · cases k with
      | zero =>
        intro g hg A outer s H G h a b va vb ua ub Q hr e0 R ra rb sa sb hsh hps hcall
        unfold callD at hcall
        split at hcall
        · split at hcall
          · have := deep hcall; omega
          · cases hcall
        · cases hcall
      | succ k => exact dec_ok Gt hf F S hns m B (fun g gd hg => ih k (Nat.lt_succ_self _) g gd hg) (fun g gd hg => ih (k - 1) (by omega) g gd hg)
    cases k with
    | zero =>
      have no : ∀ vs H Q E, ¬ spE T P 0 f vs H Q E := fun vs H Q E ⟨G, h, as, _, _, o, _⟩ => by
        have : callF P 0 f as h = .stuck := by unfold callF; rfl
        rw [this] at o
        exact o
      exact ⟨fun vs H Q E q => absurd q (no _ _ _ _), fun A outer s H args us vs Q E _ _ _ _ q => absurd q (no _ _ _ _)⟩
    | succ k =>
      by_cases two : 2 ≤ k
      case neg =>
        have no : ∀ vs H Q E, ¬ spE T P (k + 1) f vs H Q E := fun vs H Q E ⟨G, h, as, _, _, o, _⟩ => by
          have : callF P (k + 1) f as h = .stuck := by
            unfold callF
            rw [hf]
            dsimp only
            rw [if_pos (by omega)]
          rw [this] at o
          exact o
        exact ⟨fun vs H Q E q => absurd q (no _ _ _ _), fun A outer s H args us vs Q E _ _ _ _ q => absurd q (no _ _ _ _)⟩
      exact fn_ok Gt hf F S hns m (fun g gd hg => ih k (Nat.lt_succ_self _) g gd hg) (fun g gd hg => ih (k - 1) (by omega) g gd hg) two
end
end Py

set_option linter.all false
set_option Elab.async false
set_option maxRecDepth 100000
set_option maxHeartbeats 1000017
/-! What is asked of a text, reckoned. -/
namespace Py
open L2 PyProof.Rows PySem.Spec PySem
def boL : List BO := [.add, .sub, .mul, .fdiv, .mod, .pow, .bor]
theorem boL_all (o : BO) : o ∈ boL := by cases o <;> simp [boL]
def eqB (a b : Option (Option Value)) : Bool := decide (a = b)
theorem eqB_ok {a b : Option (Option Value)} (h : eqB a b = true) : a = b := of_decide_eq_true h
def obB (a b : Option Bool) : Bool := decide (a = b)
theorem obB_ok {a b : Option Bool} (h : obB a b = true) : a = b := of_decide_eq_true h
/-- found: a def, or none -/
def fndB (a : Option (Option Value)) : Bool := match a with
  | some none => true
  | some (some (.ref _)) => true
  | _ => false
theorem fndB_ok {a : Option (Option Value)} (h : fndB a = true) : ∃ rc, a = some rc ∧ (rc = none ∨ ∃ g : Addr, rc = some (.ref g)) := by
  unfold fndB at h
  split at h
  · exact ⟨_, rfl, .inl rfl⟩
  · exact ⟨_, rfl, .inr ⟨_, rfl⟩⟩
  · cases h
def fndR (a : Option (Option Value)) : Bool := match a with
  | some (some (.ref _)) => true
  | _ => false
theorem fndR_ok {a : Option (Option Value)} (h : fndR a = true) : ∃ g : Addr, a = some (some (.ref g)) := by
  unfold fndR at h
  split at h
  · exact ⟨_, rfl⟩
  · cases h
def look_mem {α : Type} {k : Nm} {v : α} : ∀ {l : List (Nm × α)}, look k l = some v → (k, v) ∈ l
  | [], h => by cases h
  | (a, w) :: r, h => by
    rw [look_cons] at h
    split at h
    · rename_i e; subst e; cases h; exact List.mem_cons_self ..
    · exact List.mem_cons_of_mem _ (look_mem h)
section
variable (T : Tx) (cs : List (Nm × CDef))
abbrev fnd (c : Nm) (x : Str) : Option (Option Value) := PySem.W.findIn T.K (.ref (T.ad c)) x
/-- a class -/
def ckC (c : Nm) (cd : CDef) : Bool := decide (cd.n = c) && PySem.W.keepIn T.K (.ref (T.ad c)) &&
  (cs.all fun q => obB (PySem.W.kitOne T.K (.ref (T.ad c)) (.ref (T.ad q.1))) (some (decide (c = q.1) || cd.sup.any fun x => decide (x = q.1)))) &&
  (tyL.all fun n => obB (PySem.W.kitOne T.K (.ref (T.ad c)) (.type n)) (some false)) && tyNames.all fun n => obB (PySem.W.kitOne T.K (.type n) (.ref (T.ad c))) (some false)
theorem ckC_ok {P : Prog} (hP : ∀ c cd, P.cls c = some cd → (c, cd) ∈ cs) {c : Nm} {cd : CDef} (h : ckC T cs c cd = true) : COk T P c cd := by
  unfold ckC at h
  simp only [Bool.and_eq_true, and_true] at h
  obtain ⟨⟨⟨⟨h1, h2⟩, h3⟩, h4⟩, h5⟩ := h
  exact ⟨of_decide_eq_true h1, h2, fun e ce he => obB_ok (List.all_eq_true.mp h3 _ (hP e ce he)), fun n hn => obB_ok (List.all_eq_true.mp h4 n hn), fun n hn => obB_ok (List.all_eq_true.mp h5 n hn)⟩
def ckCls (c : Nm) : Bool := PySem.W.plainGet T.K (T.ad c) Str.empty && PySem.W.hasDictIn T.K (T.ad c) && PySem.W.plainOver T.K (T.ad c) && eqB (fnd T c "__setattr__") (some (some (.builtin "object.__setattr__")))
def ckM (c : Nm) (m f : Nm) : Bool := eqB (fnd T c (T.st m)) (some (some (.ref (T.ad f)))) && PySem.W.isFn T.K (.ref (T.ad f)) && PySem.W.keepIn T.K (.ref (T.ad f))
def ckMk (c : Nm) (i : Option Nm) : Bool := match i with
  | none => true
  | some f => PySem.W.makesIn T.K (T.ad c) && eqB (fnd T c "__init__") (some (some (.ref (T.ad f)))) && PySem.W.isFn T.K (.ref (T.ad f)) && PySem.W.keepIn T.K (.ref (T.ad c))
def hasB {α : Type} (o : Option α) : Bool := match o with
  | some _ => true
  | none => false
theorem hasB_of {α : Type} {o : Option α} (h : o.isSome) : hasB o = true := by cases o <;> first | rfl | cases h
/-- an operator -/
def ckO (fns : Nm → Bool) (c : Nm) (cd : CDef) (o : BO) : Bool :=
  (!hasB (look o.dun cd.ms) || (fndB (fnd T c (T.st o.rev)) && (tyNames.all fun n => hasB (PySem.W.findIn T.K (.type n) (T.st o.dun)) && hasB (PySem.W.findIn T.K (.type n) (T.st o.rev))) &&
    cs.all fun q => hasB q.2.ex || decide (q.1 = c) || slot2B T.K (T.ad q.1) o.op.info.2)) &&
  (!hasB (look o.rev cd.ms) || fndR (fnd T c (T.st o.dun)))
def ckIp (c : Nm) : Bool := match PySem.W.clsIn T.K (T.ad c) with
  | some ce => [BO.add, BO.sub, BO.mul].all fun o => ce.mro.all fun v => eqB (PySem.W.findIn T.K v (PySem.dunderI o.op.info.2)) (some none)
  | none => false
/-- a class of instances -/
def ckI (fns : Nm → Bool) (c : Nm) (cd : CDef) : Bool := ckCls T c && (cd.fl.all fun f => eqB (fnd T c (T.st f)) (some none)) && (cd.ms.all fun q => ckM T c q.1 q.2 && fns q.2) && ckMk T c cd.ini && PySem.W.selfFirst T.K (T.ad c) && PySem.W.noSeq T.K (T.ad c) &&
  eqB (fnd T c "__class__") (some (some (.builtin "object.__class__"))) && eqB (PySem.W.specialIn T.K (.builtin "object.__class__") "__get__") (some (some (.builtin "getset_descriptor.__get__"))) && obB (PySem.W.takesIn T.K (.builtin "object.__class__")) (some true) &&
  obB (PySem.W.mroIn T.K (T.ad c) (.type "object")) (some true) && (boL.all fun o => ckO T cs fns c cd o) && (tyNames.all fun n => obB (PySem.W.subIn T.K (.type n) (.ref (T.ad c))) (some false)) &&
  obB (PySem.W.subIn T.K (.type "int") (.ref (T.ad c))) (some false) && obB (PySem.W.subIn T.K (.ref (T.ad c)) (.type "int")) (some false) &&
  (cs.all fun q => hasB q.2.ex || decide (q.1 = c) || (obB (PySem.W.subIn T.K (.ref (T.ad q.1)) (.ref (T.ad c))) (some false) && !Nat.beq (T.ad q.1) (T.ad c))) && ckIp T c && (!hasB (look Nm.__eq__ cd.ms) || eqB (fnd T c "__ne__") (some (some (.builtin "object.__ne__"))))
theorem ckI_ok {P : Prog} (hP : ∀ c cd, P.cls c = some cd → (c, cd) ∈ cs) {fns : Nm → Bool} (hF : ∀ f, fns f = true → (P.fn f).isSome) {c : Nm} {cd : CDef} (h : ckI T cs fns c cd = true) : IOk T P c cd := by
  unfold ckI at h
  simp only [Bool.and_eq_true, and_true] at h
  obtain ⟨⟨⟨⟨⟨⟨⟨⟨⟨⟨⟨⟨⟨⟨⟨⟨a1, a2⟩, a3⟩, a4⟩, a5⟩, a6⟩, a7⟩, a8⟩, a9⟩, b1⟩, b2⟩, b3⟩, b4⟩, b5⟩, b6⟩, b7⟩, b8⟩ := h
  have op : ∀ o : BO, ckO T cs fns c cd o = true := fun o => List.all_eq_true.mp b2 o (boL_all o)
  have no : ∀ {a b : Bool}, (!a || b) = true → a = true → b = true := fun h e => by subst e; exact h
  have own : ∀ {e : Nm} {ce : CDef} {b : Bool}, P.cls e = some ce → ce.ex = none → e ≠ c → (hasB ce.ex || decide (e = c) || b) = true → b = true := fun {e ce b} h1 h2 h3 h => by
    rw [h2] at h
    have e1 : decide (e = c) = false := decide_eq_false h3
    rw [e1] at h
    exact h
  have dn : ∀ o : BO, (look o.dun cd.ms).isSome → _ := fun o ho => no (Bool.and_eq_true_iff.mp (show (_ && _) = true from op o)).1 (hasB_of ho)
  refine ⟨?_, fun f hf => eqB_ok (List.all_eq_true.mp a2 f hf), fun m f q => ?_, fun f hf => ?_, a5, a6, eqB_ok a7, eqB_ok a8, obB_ok a9, obB_ok b1, fun o ho => ?_, fun o ho => ?_, fun o ho n hn => ?_, fun n hn => obB_ok (List.all_eq_true.mp b3 n hn), fun o ho e ce h1 h2 h3 => ?_, obB_ok b4, obB_ok b5, fun e ce h1 h2 h3 => ?_, fun o ho => ?_, fun he => eqB_ok (no b8 (hasB_of he))⟩
  · unfold ckCls at a1
    simp only [Bool.and_eq_true] at a1
    exact ⟨a1.1.1.1, a1.1.1.2, a1.1.2, eqB_ok a1.2⟩
  · have q1 := List.all_eq_true.mp a3 _ (look_mem q)
    unfold ckM at q1
    simp only [Bool.and_eq_true] at q1
    exact ⟨⟨eqB_ok q1.1.1.1, q1.1.1.2, q1.1.2⟩, hF _ q1.2⟩
  · rw [hf] at a4
    unfold ckMk at a4
    simp only [Bool.and_eq_true] at a4
    exact ⟨a4.1.1.1, eqB_ok a4.1.1.2, a4.1.2, a4.2⟩
  · have q := dn o ho
    simp only [Bool.and_eq_true] at q
    exact fndB_ok q.1.1
  · have q := no (Bool.and_eq_true_iff.mp (show (_ && _) = true from op o)).2 (hasB_of ho)
    exact fndR_ok q
  · have q := dn o ho
    simp only [Bool.and_eq_true] at q
    have q2 := List.all_eq_true.mp q.1.2 n hn
    simp only [Bool.and_eq_true] at q2
    cases e1 : PySem.W.findIn T.K (.type n) (T.st o.dun) with
    | none => rw [e1] at q2; exact Bool.noConfusion q2.1
    | some fo =>
      cases e2 : PySem.W.findIn T.K (.type n) (T.st o.rev) with
      | none => rw [e2] at q2; exact Bool.noConfusion q2.2
      | some ro => exact ⟨fo, ro, rfl, rfl⟩
  · have q := dn o ho
    simp only [Bool.and_eq_true] at q
    exact slot2_ok (own h1 h2 h3 (List.all_eq_true.mp q.2 _ (hP e ce h1)))
  · have q2 := own h1 h2 h3 (List.all_eq_true.mp b6 _ (hP e ce h1))
    rw [Bool.and_eq_true] at q2
    refine ⟨obB_ok q2.1, fun z => ?_⟩
    have q3 := q2.2
    rw [z] at q3
    have : Nat.beq (T.ad c) (T.ad c) = true := Nat.beq_refl _
    rw [this] at q3
    cases q3
  · unfold ckIp at b7
    split at b7
    · rename_i ce hc
      refine ⟨ce, hc, fun v hv => eqB_ok (List.all_eq_true.mp (List.all_eq_true.mp b7 o ?_) v hv)⟩
      cases o <;> first | (cases ho; done) | simp
    · cases b7
/-- a class of exceptions whose __init__ is walked -/
def oexB (C : Addr) : Bool := eqB (PySem.W.findIn T.K (.ref C) "__setattr__") (some (some (.builtin "object.__setattr__"))) && PySem.W.keepIn T.K (.ref C) && match T.K.lookup C with
  | some ⟨.type "type", _, .cls cd, sl⟩ => (match cd.mro with
    | .ref C' :: bm => (match sl.toList with
      | [_, _, _, _, some (.builtin n), _] => Nat.beq C' C && decide (n = "ValueError.__new__") && !cd.hasDel && cd.hasDict && PySem.HandSPX.refsVE bm
      | _ => false)
    | _ => false)
  | _ => false
theorem oexB_ok {C : Addr} (h : oexB T C = true) (h1 : PySem.W.subIn T.K (.ref C) (.type "BaseException") = some true) (h2 : PySem.W.typeIn T.K (.ref C) = some (.type "type")) : OexC T.K C := by
  unfold oexB at h
  rw [Bool.and_eq_true, Bool.and_eq_true] at h
  obtain ⟨⟨h3, h4⟩, q⟩ := h
  refine ⟨?_, eqB_ok h3, h1, h2, h4⟩
  split at q
  · rename_i dd cd sl ho
    split at q
    · rename_i C' bm hm
      split at q
      · rename_i k0 k1 k2 k3 n k5 hs
        simp only [Bool.and_eq_true, decide_eq_true_eq, Bool.not_eq_true'] at q
        obtain ⟨⟨⟨⟨e1, e2⟩, hdel⟩, hdct⟩, hr⟩ := q
        have e1 := Nat.eq_of_beq_eq_true e1
        subst e1 e2
        rcases cd with ⟨nm, bs, mro, ns, qn, hd, sn, sub, ab, col, del⟩
        dsimp only at hm hdel hdct
        subst hm hdel hdct
        have hsl : sl = #[k0, k1, k2, k3, some (.builtin "ValueError.__new__"), k5] := by
          obtain ⟨l⟩ := sl
          simp only at hs
          rw [hs]
        subst hsl
        exact ⟨nm, qn, ns, bs, bm, sn, sub, ab, col, dd, k0, k1, k2, k3, k5, ho, hr⟩
      · cases q
    · cases q
  · cases q
/-- a class of exceptions -/
def ckX (c : Nm) (cd : CDef) (fs : List Nm) : Bool := eqB (fnd T c "__getattribute__") (some (some (.builtin "BaseException.__getattribute__"))) && eqB (fnd T c "__getattr__") (some none) && obB (PySem.W.subIn T.K (.ref (T.ad c)) (.type "BaseException")) (some true) && PySem.W.hasDictIn T.K (T.ad c) &&
  decide (PySem.W.typeIn T.K (.ref (T.ad c)) = some (.type "type")) && eqB (fnd T c "__class__") (some (some (.builtin "object.__class__"))) && eqB (PySem.W.specialIn T.K (.builtin "object.__class__") "__get__") (some (some (.builtin "getset_descriptor.__get__"))) && obB (PySem.W.takesIn T.K (.builtin "object.__class__")) (some true) &&
  obB (PySem.W.mroIn T.K (T.ad c) (.type "object")) (some true) && (fs.all fun f => eqB (fnd T c (T.st f)) (some none)) && decide fs.Nodup && Nat.ble fs.length 900 && (cd.ms.all fun q => ckM T c q.1 q.2) &&
  (cs.all fun q => !hasB q.2.ex || obB (PySem.W.exmOne T.K (.ref (T.ad c)) (.ref (T.ad q.1))) (some (decide (c = q.1) || cd.sup.any fun x => decide (x = q.1)))) &&
  (!fs.isEmpty || PySem.W.excIn T.K (T.ad c) veB "ValueError.__new__") &&
  (fs.isEmpty || (oexB T (T.ad c) && match cd.ini with
    | some f => eqB (fnd T c "__init__") (some (some (.ref (T.ad f)))) && decide (PySem.W.typeIn T.K (.ref (T.ad f)) = some (.type "function"))
    | none => false))
theorem ckX_ok {P : Prog} (hP : ∀ c cd, P.cls c = some cd → (c, cd) ∈ cs) {c : Nm} {cd : CDef} {fs : List Nm} (h : ckX T cs c cd fs = true) : XOk T P c cd fs := by
  unfold ckX at h
  simp only [decide_eq_true_eq, Bool.and_eq_true] at h
  obtain ⟨⟨⟨⟨⟨⟨⟨⟨⟨⟨⟨⟨⟨⟨⟨a1, a2⟩, a3⟩, a4⟩, a5⟩, a6⟩, a7⟩, a8⟩, a9⟩, b1⟩, b2⟩, b3⟩, b4⟩, b5⟩, bx⟩, b6⟩ := h
  have ii : fs ≠ [] → oexB T (T.ad c) = true ∧ ∃ f, cd.ini = some f ∧ fnd T c "__init__" = some (some (.ref (T.ad f))) ∧ PySem.W.typeIn T.K (.ref (T.ad f)) = some (.type "function") := fun ne => by
    have e : fs.isEmpty = false := by cases fs <;> first | exact absurd rfl ne | rfl
    rw [e, Bool.false_or, Bool.and_eq_true] at b6
    refine ⟨b6.1, ?_⟩
    have q := b6.2
    split at q
    · rename_i f hf
      rw [Bool.and_eq_true] at q
      exact ⟨f, hf, eqB_ok q.1, of_decide_eq_true q.2⟩
    · cases q
  refine ⟨⟨eqB_ok a1, eqB_ok a2, obB_ok a3, a4⟩, a5, eqB_ok a6, eqB_ok a7, obB_ok a8, obB_ok a9, fun f hf => eqB_ok (List.all_eq_true.mp b1 f hf), b2, Nat.le_of_ble_eq_true b3, fun m f q => ?_, fun e ce he hx => ?_, fun e0 => (by subst e0; exact bx), fun ne => oexB_ok T (ii ne).1 (obB_ok a3) a5, fun ne => (ii ne).2⟩
  · have q1 := List.all_eq_true.mp b4 _ (look_mem q)
    unfold ckM at q1
    simp only [Bool.and_eq_true] at q1
    exact ⟨eqB_ok q1.1.1, q1.1.2, q1.2⟩
  · have q := List.all_eq_true.mp b5 _ (hP e ce he)
    dsimp only at q
    rw [hasB_of hx] at q
    exact obB_ok q
end
end Py

set_option linter.all false
set_option Elab.async false
set_option maxRecDepth 100000
set_option maxHeartbeats 1000017
/-! How the arguments of a call bind. -/
namespace Py
open L2 PyProof.Rows PySem.Spec PySem
/-- the parameters behind the positional values: a keyword's value, or the default -/
def pick {α : Type} (o d : Option α) (r : List α) : List α := match o with
  | some v => v :: r
  | none => match d with
    | some v => v :: r
    | none => r
def fillV {α : Type} (kw : List (Str × α)) : List Str → List (Option α) → List α
  | [], _ => []
  | _ :: _, [] => []
  | p :: ps, d :: ds => pick (kw.lookup p) d (fillV kw ps ds)
/-- the defaults, in their places -/
def dfO {α : Type} (n : Nat) (its : List α) : List (Option α) := List.replicate (n - its.length) none ++ its.map some
/-- a shape of call without defaults -/
def Shp0 (params : Arguments) (st : Nm → Str) (ps : List Str) (q : Nat × List Nm) : Prop := ∀ (x qual : Str) (body : List Stmt) (scope : Scope) (kV doc pm : Value) (an : Option Addr) (cdv ct : Value) (us ws : List Value), us.length = q.1 → ws.length = q.2.length →
  bindArgs (PySem.W.fnOf x qual params body scope .none kV doc pm an cdv ct) ⟨us, (q.2.map st).zip ws⟩ = pure (ps.zip (us ++ fillV ((q.2.map st).zip ws) (ps.drop q.1) ((dfO ps.length []).drop q.1)))
/-- .. with defaults -/
def Shp1 (params : Arguments) (st : Nm → Str) (ps : List Str) (nd : Nat) (q : Nat × List Nm) : Prop := ∀ (x qual : Str) (body : List Stmt) (scope : Scope) (D : Addr) (kV doc pm : Value) (an : Option Addr) (cdv ct : Value) (us ws : List Value), us.length = q.1 → ws.length = q.2.length →
  ∃ k, bindArgs (PySem.W.fnOf x qual params body scope (.ref D) kV doc pm an cdv ct) ⟨us, (q.2.map st).zip ws⟩ = seqItems? (.ref D) >>= k ∧ ∀ its : List Value, its.length = nd → k (some its.toArray) = pure (ps.zip (us ++ fillV ((q.2.map st).zip ws) (ps.drop q.1) ((dfO ps.length its).drop q.1)))
/-- .. with keyword-only parameters (and no defaults of others) -/
def Shp2 (params : Arguments) (st : Nm → Str) (ps kn : List Str) (q : Nat × List Nm) : Prop := ∀ (x qual : Str) (body : List Stmt) (scope : Scope) (D : Addr) (doc pm : Value) (an : Option Addr) (cdv ct : Value) (us ws its : List Value), us.length = q.1 → ws.length = q.2.length → its.length = kn.length →
  ∃ l : List (Str × Value), (∀ p ∈ l, p ∈ kn.zip its) ∧ KwChain D l (bindArgs (PySem.W.fnOf x qual params body scope .none (.ref D) doc pm an cdv ct) ⟨us, (q.2.map st).zip ws⟩) (ps.zip (us ++ fillV ((q.2.map st).zip ws) (ps.drop q.1) ((dfO ps.length its).drop q.1)))
/-- a default's value as the text has it -/
def scaB : PV → V → Bool
  | .non, .non => true
  | .bl a, .bl b => a == b
  | .int i, .int j => decide (i = j)
  | .str x, .str y => decide (x = y)
  | _, _ => false
theorem scaB_ok {T : Tx} {G : Gh} {p : PV} {v : V} (h : scaB p v = true) : RepV T G p v := by
  unfold scaB at h
  split at h
  · rfl
  · rw [beq_iff_eq.mp h]; rfl
  · rw [of_decide_eq_true h]; rfl
  · rw [of_decide_eq_true h]; rfl
  · cases h
def dflB : List (Option PV) → List (Option V) → Bool
  | [], [] => true
  | none :: r, none :: q => dflB r q
  | some p :: r, some v :: q => scaB p v && dflB r q
  | _, _ => false
def RepD (T : Tx) (G : Gh) : List (Option PV) → List (Option V) → Prop
  | [], q => q = []
  | p :: r, q => ∃ v q', q = v :: q' ∧ FldAt T G p v ∧ RepD T G r q'
theorem dflB_ok {T : Tx} {G : Gh} : ∀ {ds : List (Option PV)} {vs : List (Option V)}, dflB ds vs = true → RepD T G ds vs
  | [], [], _ => rfl
  | none :: r, none :: q, h => ⟨none, q, rfl, rfl, dflB_ok (ds := r) h⟩
  | some p :: r, some v :: q, h => by
    have h : (scaB p v && dflB r q) = true := h
    rw [Bool.and_eq_true] at h
    exact ⟨some v, q, rfl, ⟨v, rfl, scaB_ok h.1⟩, dflB_ok h.2⟩
  | [], _ :: _, h => Bool.noConfusion h
  | none :: _, [], h => Bool.noConfusion h
  | none :: _, some _ :: _, h => Bool.noConfusion h
  | some _ :: _, [], h => Bool.noConfusion h
  | some _ :: _, none :: _, h => Bool.noConfusion h
theorem RepD.drop {T : Tx} {G : Gh} : ∀ {n : Nat} {ds : List (Option PV)} {vs : List (Option V)}, RepD T G ds vs → RepD T G (ds.drop n) (vs.drop n)
  | 0, _, _, h => h
  | n + 1, [], _, h => by cases h; exact rfl
  | n + 1, _ :: r, _, ⟨v, q, e, _, h⟩ => by subst e; exact RepD.drop (n := n) (ds := r) h
theorem fill_len {kw : List (Nm × PV)} : ∀ {ps : List Nm} {ds : List (Option PV)} {f : List PV}, fill kw ps ds = some f → f.length = ps.length
  | [], ds, f, h => by cases h; rfl
  | p :: ps, [], f, h => by cases h
  | p :: ps, d :: ds, f, h => by
    unfold fill at h
    split at h
    · obtain ⟨g, g1, rfl⟩ := Option.map_eq_some_iff.mp h
      simp [fill_len g1]
    · split at h
      · obtain ⟨g, g1, rfl⟩ := Option.map_eq_some_iff.mp h
        simp [fill_len g1]
      · cases h
theorem fill_rep {T : Tx} {G : Gh} {kw : List (Nm × PV)} {kv : List (Str × V)} (hk : ∀ f, FldAt T G (look f kw) (kv.lookup (T.st f))) : ∀ {ps : List Nm} {ds : List (Option PV)} {vs : List (Option V)} {f : List PV}, fill kw ps ds = some f → RepD T G ds vs →
    RepL T G f (fillV kv (ps.map T.st) vs)
  | [], ds, vs, f, h, _ => by cases h; exact rfl
  | p :: ps, [], vs, f, h, _ => by cases h
  | p :: ps, d :: ds, vs, f, h, ⟨v, q, e, h1, h2⟩ => by
    subst e
    have k := hk p
    unfold fill at h
    show RepL T G f (pick (kv.lookup (T.st p)) v (fillV kv (ps.map T.st) q))
    cases e1 : look p kw with
    | some w =>
      rw [e1] at h k
      obtain ⟨g, g1, rfl⟩ := Option.map_eq_some_iff.mp h
      obtain ⟨y, y1, y2⟩ := k
      rw [y1]
      exact RepL.cons y2 (fill_rep hk g1 h2)
    | none =>
      rw [e1] at h k
      rw [show kv.lookup (T.st p) = none from k]
      dsimp only at h
      cases d with
      | none => cases h
      | some w =>
        obtain ⟨g, g1, rfl⟩ := Option.map_eq_some_iff.mp h
        obtain ⟨y, y1, y2⟩ := h1
        subst y1
        exact RepL.cons y2 (fill_rep hk g1 h2)
theorem fill_val {kv : List (Str × V)} {ku : List (Str × Value)} (hk : ∀ f, RelO (kv.lookup f) (ku.lookup f)) : ∀ {ps : List Str} {vs : List (Option V)} {us : List (Option Value)}, Paired RelO vs us → Vals (fillV kv ps vs) (fillV ku ps us)
  | [], _, _, _ => .nil
  | p :: ps, _, _, .nil => .nil
  | p :: ps, v :: vs, u :: us, .cons h1 h2 => by
    have k := hk p
    show Vals (pick (kv.lookup p) v (fillV kv ps vs)) (pick (ku.lookup p) u (fillV ku ps us))
    cases e1 : kv.lookup p with
    | some w =>
      rw [e1] at k
      cases e2 : ku.lookup p with
      | none => rw [e2] at k; exact k.elim
      | some z => rw [e2] at k; exact .cons k (fill_val hk h2)
    | none =>
      rw [e1] at k
      cases e2 : ku.lookup p with
      | some z => rw [e2] at k; exact k.elim
      | none =>
        cases v with
        | some w =>
          cases u with
          | none => exact h1.elim
          | some z => exact .cons h1 (fill_val hk h2)
        | none =>
          cases u with
          | some z => exact h1.elim
          | none => exact fill_val hk h2
theorem zip_lookup {ks : List Str} {zs : List V} {ws : List Value} (r : Vals zs ws) (f : Str) : RelO ((ks.zip zs).lookup f) ((ks.zip ws).lookup f) := by
  induction ks generalizing zs ws with
  | nil => exact True.intro
  | cons k ks ih =>
    cases r with
    | nil => exact True.intro
    | cons h1 h2 =>
      rename_i z w zs ws
      show RelO (((k, z) :: ks.zip zs).lookup f) (((k, w) :: ks.zip ws).lookup f)
      by_cases e : f = k
      · subst e; simp [List.lookup]; exact h1
      · have e2 : (f == k) = false := by simpa using e
        simp [List.lookup, e2]
        exact ih h2
theorem paired_drop {α β : Type} {R : α → β → Prop} : ∀ {n : Nat} {a : List α} {b : List β}, Paired R a b → Paired R (a.drop n) (b.drop n)
  | 0, _, _, h => h
  | n + 1, _, _, .nil => .nil
  | n + 1, _, _, .cons _ h => paired_drop (n := n) h
theorem dfO_val {n : Nat} {dvs : List V} {its : List Value} (r : Vals dvs its) : Paired RelO (dfO n dvs) (dfO n its) := by
  unfold dfO
  rw [r.length]
  have q : Paired RelO (dvs.map some) (its.map some) := by
    induction r with
    | nil => exact .nil
    | cons h _ ih => exact .cons h ih
  induction n - its.length with
  | zero => exact q
  | succ k ih => exact .cons True.intro ih
theorem kw_zip : ∀ {kw : List (Nm × PV)}, (kw.map (·.1)).zip (kw.map (·.2)) = kw
  | [] => rfl
  | (a, b) :: r => by
    show (a, b) :: (r.map (·.1)).zip (r.map (·.2)) = _
    rw [kw_zip]
/-- a def binds as the evaluator says, at the shapes that it tells -/
theorem bindOk_of {T : Tx} (inj : ∀ a b, T.st a = T.st b → a = b) {fd : FDef} {fdt : FuncData} {x qual : Str} {params : Arguments} {body : List Stmt} {scope : Scope} {dvs : List V} {kws : List (Str × V)} {a : Addr} (F : FunD T.K x qual params body scope dvs kws a fdt)
    (hd : dflB fd.df (dfO fd.ps.length (dvs ++ kws.map (·.2))) = true) (hx : kws = [] ∨ dvs = []) (h0 : dvs = [] → kws = [] → ∀ q ∈ fd.sh, Shp0 params T.st (fd.ps.map T.st) q) (h1 : dvs ≠ [] → ∀ q ∈ fd.sh, Shp1 params T.st (fd.ps.map T.st) dvs.length q)
    (h2 : kws ≠ [] → ∀ q ∈ fd.sh, Shp2 params T.st (fd.ps.map T.st) (kws.map (·.1)) q) (hn : (fd.sh.all fun q => Nat.ble q.1 fd.ps.length) = true) : BindOk T fd fdt := by
  intro G args kw as hb vs zs us ws r1 r2 r3 r4 s kin
  unfold bindA at hb
  split at hb
  · rename_i hm
    obtain ⟨f, f1, rfl⟩ := Option.map_eq_some_iff.mp hb
    have lu : us.length = args.length := by rw [← r2.length, ← r1.length]
    have lw : ws.length = (kw.map (·.1)).length := by rw [← r4.length, ← r3.length, List.length_map, List.length_map]
    have hle := Nat.le_of_ble_eq_true (List.all_eq_true.mp hn _ hm)
    have hk : ∀ f, FldAt T G (look f kw) ((((kw.map (·.1)).map T.st).zip zs).lookup (T.st f)) := fun f => by
      have q := xfld (T := T) (G := G) inj f (fs := kw.map (·.1)) r3
      rw [kw_zip] at q
      exact q
    have ek : (kw.map fun q => T.st q.1) = (kw.map (·.1)).map T.st := by rw [List.map_map]; rfl
    have rep := fill_rep hk f1 ((dflB_ok (T := T) (G := G) hd).drop (n := args.length))
    have el : (fd.ps.drop args.length).map T.st = (fd.ps.map T.st).drop args.length := List.map_drop
    rw [el] at rep
    obtain ⟨oc, od, dV, kV, doc, pm, an, cdv, ct, osl, rfl, lk, hcd, hDf, hKw⟩ := F.ex
    have fin : ∀ its : List Value, Vals (dvs ++ kws.map (·.2)) its → (∀ M, PySem.W.Looks M s.heap (bindArgs (PySem.W.fnOf x qual params body scope dV kV doc pm an cdv ct) ⟨us, ((kw.map (·.1)).map T.st).zip ws⟩) ((fd.ps.map T.st).zip (us ++ fillV (((kw.map (·.1)).map T.st).zip ws) ((fd.ps.map T.st).drop args.length) ((dfO fd.ps.length its).drop args.length)))) →
        ∃ (full : List Value) (fvs : List V), BindsTo s (PySem.W.fnOf x qual params body scope dV kV doc pm an cdv ct) ⟨us, (kw.map fun q => T.st q.1).zip ws⟩ ((fd.ps.map T.st).zip full) ∧ RepL T G (args ++ f) fvs ∧ Vals fvs full ∧ full.length = fd.ps.length := fun its rT hl => by
      have vv : Vals (fillV (((kw.map (·.1)).map T.st).zip zs) ((fd.ps.map T.st).drop args.length) ((dfO fd.ps.length (dvs ++ kws.map (·.2))).drop args.length)) (fillV (((kw.map (·.1)).map T.st).zip ws) ((fd.ps.map T.st).drop args.length) ((dfO fd.ps.length its).drop args.length)) :=
        fill_val (zip_lookup r4) (paired_drop (dfO_val rT))
      refine ⟨_, vs ++ _, ?_, r1.append rep, r2.append vv, ?_⟩
      · rw [ek]; exact BindsTo.of_looks hl
      · rw [List.length_append, lu, ← vv.length, ← rep.length, fill_len f1, List.length_drop]; omega
    cases kws with
    | nil =>
      rcases hDf with ⟨e, e2⟩ | ⟨ne, D, o, its, m, e2, lT, oT, rT⟩
      · subst e2
        refine fin [] (by rw [e]; exact .nil) fun M => ?_
        have q := h0 e rfl _ hm x qual body scope kV doc pm an cdv ct us ws lu lw
        rw [q, List.length_map]
        exact (PySem.W.Looks.of_pure rfl :)
      · subst e2
        refine fin its (by simpa using rT) fun M => ?_
        obtain ⟨k, k1, k2⟩ := h1 ne _ hm x qual body scope D kV doc pm an cdv ct us ws lu lw
        rw [k1]
        refine looks_items kin lT oT (PySem.W.Looks.of_pure ?_)
        rw [k2 its rT.length.symm, List.length_map]
    | cons q0 qs =>
      have e : dvs = [] := hx.resolve_left (List.cons_ne_nil _ _)
      subst e
      have ek2 : dV = .none := by
        rcases hDf with ⟨_, e2⟩ | ⟨ne, _⟩
        · exact e2
        · exact absurd rfl ne
      subst ek2
      rcases hKw with e | ⟨D, ed, hq⟩
      · cases e
      · subst ed
        obtain ⟨its, hl, rk, hks⟩ := kwd_vals hq
        refine fin its rk fun M => ?_
        obtain ⟨l, l1, l2⟩ := h2 (List.cons_ne_nil _ _) _ hm x qual body scope D doc pm an cdv ct us ws its lu lw (by rw [hl, List.length_map])
        rw [List.length_map] at l2
        exact KwChain.looks kin (fun q m => hks q (l1 q m)) l2
  · cases hb
end Py

set_option linter.all false
set_option Elab.async false
set_option maxRecDepth 100000
set_option maxHeartbeats 1000017
/-! A law's text. -/
namespace Py
open L2 PyProof.Rows PySem.Spec PySem
/-! ### the part of the heap that the facts lean on: the module's names, its functions and classes with their code -/
def fnRefs (g : Addr → Option Obj) (v : Value) : List Addr := match v with
  | .ref a => a :: (match g a with
    | some ob => (match ob.data with
      | .func fd => He.refV fd.code ++ He.refV fd.defaults ++ He.refV fd.kwdefaults
      | .fields vs => vs.toList.flatMap fun u => match u with
        | .ref b => b :: (match g b with
          | some p => (match p.data with
            | .func fd => He.refV fd.code ++ He.refV fd.defaults ++ He.refV fd.kwdefaults
            | _ => [])
          | none => [])
        | _ => []
      | _ => [])
    | none => [])
  | _ => []
def topRefs (g : Addr → Option Obj) (v : Value) : List Addr := match v with
  | .ref a => a :: (match g a with
    | some ob => (match ob.data with
      | .func fd => He.refV fd.code ++ He.refV fd.defaults ++ He.refV fd.kwdefaults
      | .cls cd => cd.ns :: (match g cd.ns with
        | some p => (match p.data with
          | .dict es _ => es.toList.flatMap fun e => fnRefs g e.val
          | _ => [])
        | none => [])
      | _ => [])
    | none => [])
  | _ => []
def asM (g : Addr → Option Obj) : List Addr := mainGlobals :: (match g mainGlobals with
  | some o2 => (match o2.data with
    | .dict es _ => es.toList.flatMap fun e => topRefs g e.val
    | _ => [])
  | none => [])
/-! ### a law's data -/
structure DefX where
  fd : FDef
  d : He.DefD
  N : List Str
structure LD where
  st : Nm → Str
  wh : List (Nm × He.Defn)
  cs : List (Nm × CDef)
  gs : List (Nm × PV)
  ds : List DefX
def LD.fnl (L : LD) : List (Nm × FDef) := L.ds.map fun x => (x.fd.n, x.fd)
def LD.P (L : LD) : Prog := ⟨fun f => look f L.fnl, fun c => look c L.cs, fun n => look n L.gs⟩
def adOf (K : PySem.W.Frag) (wh : List (Nm × He.Defn)) (n : Nm) : Addr := match look n wh with
  | some p => He.fAd K p
  | none => 0
def LD.T (L : LD) (K : PySem.W.Frag) : Tx := ⟨K, adOf K L.wh, L.st⟩
def LD.gl (L : LD) (n : Nm) : Bool := hasB (look n L.gs)
/-- what may be called by its name: a def or class of the module's top -/
def LD.cl (L : LD) (n : Nm) : Bool := match look n L.wh with
  | some (_, none) => true
  | _ => false
/-- a constant: an int, a text -/
def conB (K : PySem.W.Frag) (wh : List (Nm × He.Defn)) (x : Str) : PV → Bool
  | .int i => He.Fa.ok K (.int x i)
  | .str z => He.Fa.ok K (.str x z)
  | .cls c => He.Fa.ok K (.glo x) && Nat.beq (adOf K wh c) (He.ga K x)
  | _ => false
/-- reckoned of the heap's part -/
def LD.chk (L : LD) (K : PySem.W.Frag) : Bool := (tyNames.all fun m => tyL.all fun n => obB (PySem.W.kitOne K (.type m) (.type n)) (some (m == n || (m == "bool" && n == "int")))) &&
  (L.cs.all fun q => ckC (L.T K) L.cs q.1 q.2 && (match q.2.ex with
    | none => ckI (L.T K) L.cs (fun f => hasB (look f L.fnl)) q.1 q.2
    | some fs => ckX (L.T K) L.cs q.1 q.2 fs)) &&
  (L.gs.all fun q => conB K L.wh (L.st q.1) q.2) &&
  (L.wh.all fun q => match q.2.2 with
    | none => He.Fa.ok K (.glo (L.st q.1)) && PySem.W.keepIn K (.ref (adOf K L.wh q.1))
    | some _ => true) &&
  buL.all fun n => He.Fa.ok K (.free (Str.ofString n))
abbrev AlL : Type := Bool × He.AlD
def LD.fa (L : LD) : List He.Fa := []
def LD.dl (L : LD) : List He.DefD := L.ds.map (·.d)
def LD.obsK (L : LD) (K : PySem.W.Frag) : AlL := (L.chk K, He.obsD [] L.dl K)
def LD.obs (L : LD) (g : Addr → Option Obj) : AlL := L.obsK (He.frG g (asM g))
def LD.val (L : LD) : AlL := (true, He.valD L.dl)
/-- what the top leaves -/
def LD.hook (L : LD) : PySem.W.Hook where
  α := AlL
  obs := fun s => L.obs s.heap.get?
  val := fun _ => L.val
  says := fun _ h => ∃ K : PySem.W.Frag, K.In h ∧ L.obsK K = L.val
  of := fun _ _ e => ⟨_, He.frG_in, e⟩
  keeps := fun _ _ _ says more => match says with | ⟨K, inH, c⟩ => ⟨K, inH.keeps more, c⟩
theorem LD.obs_eq {L : LD} {g : Addr → Option Obj} {s : Shared} (h : ∀ a, g a = s.heap.get? a) : L.obs g = L.hook.obs s := by
  obtain rfl : g = s.heap.get? := funext fun a => h a
  rfl
/-- told of the text alone -/
structure LD.Sta (L : LD) : Prop where
  inj : ∀ a b, L.st a = L.st b → a = b
  nm : (L.wh.all fun q => match q.2.2 with
    | none => decide (q.2.1 = L.st q.1)
    | some _ => true) = true
  app : L.st .append = "append"
  dun : L.st .__eq__ = "__eq__" ∧ L.st .__lt__ = "__lt__" ∧ L.st .__le__ = "__le__" ∧ L.st .__gt__ = "__gt__" ∧ L.st .__ge__ = "__ge__" ∧ L.st .__neg__ = "__neg__" ∧ L.st .__pos__ = "__pos__" ∧ L.st .__abs__ = "__abs__" ∧ L.st .__len__ = "__len__"
  bo : ∀ o : BO, L.st o.dun = PySem.dunder o.op.info.2
  bor : ∀ o : BO, L.st o.rev = PySem.dunderR o.op.info.2
  ad : ∀ x ∈ L.ds, look x.fd.n L.wh = some x.d.at_
  fs : ∀ x ∈ L.ds, FnScope x.N (x.fd.ps.map L.st) x.d.scope
  ns : ∀ x ∈ L.ds, x.fd.ns = x.N.length
  mt : ∀ x ∈ L.ds, mtSs L.st L.gl L.cl x.N x.d.scope x.fd.body x.d.body = true
  kw : ∀ x ∈ L.ds, x.d.kwd = [] ∨ x.d.dfl = []
  df : ∀ x ∈ L.ds, ∀ K, dflB x.fd.df (dfO x.fd.ps.length (x.d.dvs K ++ (x.d.kws K).map (·.2))) = true
  s0 : ∀ x ∈ L.ds, x.d.dfl = [] → x.d.kwd = [] → ∀ q ∈ x.fd.sh, Shp0 x.d.params L.st (x.fd.ps.map L.st) q
  s1 : ∀ x ∈ L.ds, x.d.dfl ≠ [] → ∀ q ∈ x.fd.sh, Shp1 x.d.params L.st (x.fd.ps.map L.st) x.d.dfl.length q
  s2 : ∀ x ∈ L.ds, x.d.kwd ≠ [] → ∀ q ∈ x.fd.sh, Shp2 x.d.params L.st (x.fd.ps.map L.st) (x.d.kwd.map (·.1)) q
  sn : ∀ x ∈ L.ds, (x.fd.sh.all fun q => Nat.ble q.1 x.fd.ps.length) = true
/-! ### small checks of the text -/
def locN (o : Option NameKind) : Bool := match o with
  | some .local => true
  | some .cell => true
  | _ => false
def fsB (N ps : List Str) (sc : Scope) : Bool := decide (sc.kind = .function) && !sc.isCoroutine && !sc.isGenerator && decide N.Nodup && decide (N.take ps.length = ps) && (ps.all fun x => locN (sc.names.lookup x)) && sc.names.all fun y => decide (y.2 ≠ .free)
theorem fsB_ok {N ps : List Str} {sc : Scope} (h : fsB N ps sc = true) : FnScope N ps sc := by
  unfold fsB at h
  simp only [Bool.and_eq_true, decide_eq_true_eq, Bool.not_eq_true'] at h
  rcases h with ⟨⟨⟨⟨⟨⟨h1, h2⟩, h3⟩, h4⟩, h5⟩, h6⟩, h7⟩
  refine ⟨h1, h2, h3, h4, h5, fun x hx => ?_, fun y hy => of_decide_eq_true (List.all_eq_true.mp h7 y hy)⟩
  have q := List.all_eq_true.mp h6 x hx
  unfold locN at q
  split at q
  · left; assumption
  · right; assumption
  · cases q
def scaD : PV → He.Dv → Bool
  | .non, .non => true
  | .bl a, .bl b => a == b
  | .int i, .int j => decide (i = j)
  | .str x, .str y => decide (x = y)
  | _, _ => false
theorem scaD_ok {K : PySem.W.Frag} {p : PV} {v : He.Dv} (h : scaD p v = true) : scaB p (v.v K) = true := by
  unfold scaD at h
  split at h <;> first | exact h | cases h
def dflD : List (Option PV) → List (Option He.Dv) → Bool
  | [], [] => true
  | none :: r, none :: q => dflD r q
  | some p :: r, some v :: q => scaD p v && dflD r q
  | _, _ => false
theorem dflD_ok {K : PySem.W.Frag} : ∀ {ds : List (Option PV)} {vs : List (Option He.Dv)}, dflD ds vs = true → dflB ds (vs.map (Option.map (He.Dv.v K))) = true
  | [], [], _ => rfl
  | none :: r, none :: q, h => dflD_ok (ds := r) (vs := q) h
  | some p :: r, some v :: q, h => by
    have h : (scaD p v && dflD r q) = true := h
    rw [Bool.and_eq_true] at h
    show (scaB p (v.v K) && dflB r (q.map (Option.map (He.Dv.v K)))) = true
    rw [scaD_ok h.1, dflD_ok h.2]
    rfl
  | [], _ :: _, h => Bool.noConfusion h
  | none :: _, [], h => Bool.noConfusion h
  | none :: _, some _ :: _, h => Bool.noConfusion h
  | some _ :: _, [], h => Bool.noConfusion h
  | some _ :: _, none :: _, h => Bool.noConfusion h
theorem dfO_map {α β : Type} (g : α → β) (n : Nat) (l : List α) : (dfO n l).map (Option.map g) = dfO n (l.map g) := by
  unfold dfO
  rw [List.map_append, List.map_replicate, List.map_map, List.map_map, List.length_map]
  rfl
/-- reckoned of a def's text -/
def LD.defB (L : LD) (x : DefX) : Bool := decide (look x.fd.n L.wh = some x.d.at_) && fsB x.N (x.fd.ps.map L.st) x.d.scope && Nat.beq x.fd.ns x.N.length && mtSs L.st L.gl L.cl x.N x.d.scope x.fd.body x.d.body && (x.d.kwd.isEmpty || x.d.dfl.isEmpty) && dflD x.fd.df (dfO x.fd.ps.length (x.d.dfl ++ x.d.kwd.map (·.2))) && (x.fd.sh.all fun q => Nat.ble q.1 x.fd.ps.length)
theorem LD.sta {L : LD} (inj : ∀ a b, L.st a = L.st b → a = b) (nm : (L.wh.all fun q => match q.2.2 with
    | none => decide (q.2.1 = L.st q.1)
    | some _ => true) = true) (app : L.st .append = "append") (dun : L.st .__eq__ = "__eq__" ∧ L.st .__lt__ = "__lt__" ∧ L.st .__le__ = "__le__" ∧ L.st .__gt__ = "__gt__" ∧ L.st .__ge__ = "__ge__" ∧ L.st .__neg__ = "__neg__" ∧ L.st .__pos__ = "__pos__" ∧ L.st .__abs__ = "__abs__" ∧ L.st .__len__ = "__len__")
    (bo : ∀ o : BO, L.st o.dun = PySem.dunder o.op.info.2) (bor : ∀ o : BO, L.st o.rev = PySem.dunderR o.op.info.2) (db : ∀ x ∈ L.ds, L.defB x = true)
    (s0 : ∀ x ∈ L.ds, x.d.dfl = [] → x.d.kwd = [] → ∀ q ∈ x.fd.sh, Shp0 x.d.params L.st (x.fd.ps.map L.st) q) (s1 : ∀ x ∈ L.ds, x.d.dfl ≠ [] → ∀ q ∈ x.fd.sh, Shp1 x.d.params L.st (x.fd.ps.map L.st) x.d.dfl.length q)
    (s2 : ∀ x ∈ L.ds, x.d.kwd ≠ [] → ∀ q ∈ x.fd.sh, Shp2 x.d.params L.st (x.fd.ps.map L.st) (x.d.kwd.map (·.1)) q) : L.Sta := by
  have d : ∀ x ∈ L.ds, _ := fun x hx => by
    have q := db x hx
    unfold LD.defB at q
    simp only [decide_eq_true_eq, Bool.and_eq_true] at q
    exact q
  refine ⟨inj, nm, app, dun, bo, bor, fun x hx => (d x hx).1.1.1.1.1.1, fun x hx => fsB_ok (d x hx).1.1.1.1.1.2, fun x hx => Nat.eq_of_beq_eq_true (d x hx).1.1.1.1.2, fun x hx => (d x hx).1.1.1.2, fun x hx => ?_, fun x hx K => ?_, s0, s1, s2, fun x hx => (d x hx).2⟩
  · have q := (d x hx).1.1.2
    rw [Bool.or_eq_true] at q
    exact q.imp List.isEmpty_iff.mp List.isEmpty_iff.mp
  · have q := dflD_ok (K := K) (d x hx).1.2
    rw [dfO_map] at q
    have e : (x.d.dfl ++ x.d.kwd.map (·.2)).map (He.Dv.v K) = x.d.dvs K ++ (x.d.kws K).map (·.2) := by simp [He.DefD.dvs, He.DefD.kws, Function.comp_def]
    rw [← e]
    exact q
/-- exceptions' own defs -/
def LD.xinB (L : LD) : Bool := L.cs.all fun q => match q.2.ex with
  | some (f0 :: fr) => (match q.2.ini with
    | some fI => L.ds.any fun x => decide (x.fd.n = fI) && decide (x.N = x.fd.ps.map L.st) && (match x.N with
      | self :: ps => mtInit L.st x.d.scope self (f0 :: fr) ps x.d.body
      | [] => false) && decide ((x.fd.ps.length, []) ∈ x.fd.sh) && (x.d.dfl.isEmpty && x.d.kwd.isEmpty)
    | none => true)
  | _ => true
def LD.tldB (L : LD) : Bool := L.cs.all fun q => match q.2.ex with
  | some _ => q.2.ms.all fun m => L.ds.all fun x => !decide (x.fd.n = m.2) || (Nat.beq x.fd.ps.length 1 && decide ((1, []) ∈ x.fd.sh) && (x.d.dfl.isEmpty && x.d.kwd.isEmpty))
  | none => true
theorem binds_of {K : PySem.W.Frag} {st : Nm → Str} {x qual : Str} {params : Arguments} {body : List Stmt} {scope : Scope} {a : Addr} {fdt : FuncData} {ps : List Str} (F : FunD K x qual params body scope [] [] a fdt) (h : Shp0 params st ps (ps.length, [])) : Binds K fdt ps [] := by
  obtain ⟨oc, od, dV, kV, doc, pm, an, cdv, ct, osl, rfl, lk, hcd, hD, _⟩ := F.ex
  rcases hD with ⟨_, rfl⟩ | ⟨e, -⟩
  · intro s us kin hl
    have hl : us.length = ps.length := by simpa using hl
    have q := h x qual body scope kV doc pm an cdv ct us [] hl rfl
    refine BindsTo.of_looks fun M => PySem.W.Looks.of_pure ?_
    have e0 : ps.drop ps.length = [] := by simp
    rw [show (⟨us, []⟩ : Args) = ⟨us, (([] : List Nm).map st).zip ([] : List Value)⟩ from rfl, q]
    show pure (ps.zip (us ++ fillV _ (ps.drop ps.length) _)) = _
    rw [e0]
    rfl
  · exact absurd rfl e
theorem const_mt {st : Nm → Str} {gl cl : Nm → Bool} {N : List Str} {sc : Scope} {b : List S} {t : Str} {body : List Stmt} (e : constR b = some t) (m : mtSs st gl cl N sc b body = true) : ∃ k p0 pos, body = [.Return (some (.Constant (.str t) k p0)) pos] := by
  unfold constR at e
  split at e
  · split at e
    · split at e
      · cases e
        cases body with
        | nil => exact Bool.noConfusion m
        | cons p ps =>
          cases ps with
          | cons q ps =>
            have m : (mtS st gl cl N sc (.ret (.s t)) p && false) = true := m
            rw [Bool.and_false] at m
            cases m
          | nil =>
            have m : (mtS st gl cl N sc (.ret (.s t)) p && true) = true := m
            rw [Bool.and_true] at m
            cases p with
            | Return v pos =>
              cases v with
              | none => exact Bool.noConfusion m
              | some v =>
                have m : mtE st gl cl N sc (.s t) v = true := m
                cases v with
                | Constant c k p0 =>
                  cases c with
                  | str j =>
                    have e := of_decide_eq_true (show decide (t = j) = true from m)
                    subst e
                    exact ⟨k, p0, pos, rfl⟩
                  | _ => exact Bool.noConfusion m
                | _ => exact Bool.noConfusion m
            | _ => exact Bool.noConfusion m
      · cases e
    · cases e
  · cases e
section
variable {L : LD} {K : PySem.W.Frag} {mg : Str → Option Value} {h : Heap}
theorem LD.fn_mem {f : Nm} {fd : FDef} (e : L.P.fn f = some fd) : ∃ x ∈ L.ds, x.fd = fd ∧ fd.n = f := by
  have q := look_mem (show look f L.fnl = some fd from e)
  obtain ⟨x, hx, ex⟩ := List.mem_map.mp q
  cases ex
  exact ⟨x, hx, rfl, rfl⟩
theorem funD0 {x qual : Str} {params : Arguments} {body : List Stmt} {scope : Scope} {dvs : List V} {kws : List (Str × V)} {f : Addr} {fd : FuncData} (F : FunD K x qual params body scope dvs kws f fd) : FunD K x qual params body scope dvs [] f fd := by
  obtain ⟨oc, od, dV, kV, doc, pm, an, cdv, ct, osl, e, lk, hcd, hD, _⟩ := F.ex
  exact ⟨⟨oc, od, dV, kV, doc, pm, an, cdv, ct, osl, e, lk, hcd, hD, .inl rfl⟩, F.kp⟩
theorem LD.funD2 (S : L.Sta) (c : L.obsK K = L.val) {x : DefX} (hx : x ∈ L.ds) : ∃ fdt, FunD K x.d.name x.d.qual x.d.params x.d.body x.d.scope (x.d.dvs K) (x.d.kws K) ((L.T K).ad x.fd.n) fdt := by
  have c2 : He.SaysD [] L.dl K := congrArg (fun z : AlL => z.2) c
  obtain ⟨fdt, F⟩ := He.SaysD.defs c2 (d := x.d) (List.mem_map_of_mem hx)
  have e : (L.T K).ad x.fd.n = He.fAd K x.d.at_ := by
    show adOf K L.wh x.fd.n = _
    unfold adOf
    rw [S.ad x hx]
  rw [e]
  exact ⟨fdt, F⟩
theorem LD.funD (S : L.Sta) (c : L.obsK K = L.val) {x : DefX} (hx : x ∈ L.ds) : ∃ fdt, FunD K x.d.name x.d.qual x.d.params x.d.body x.d.scope (x.d.dvs K) [] ((L.T K).ad x.fd.n) fdt :=
  let ⟨fdt, F⟩ := LD.funD2 S c hx
  ⟨fdt, funD0 F⟩
theorem LD.chk_ok (c : L.obsK K = L.val) : L.chk K = true := congrArg (fun z : AlL => z.1) c
theorem dvs_nil {d : He.DefD} (h : d.dfl = []) : d.dvs K = [] := by unfold He.DefD.dvs; rw [h]; rfl
theorem dvs_len {d : He.DefD} : (d.dvs K).length = d.dfl.length := by unfold He.DefD.dvs; rw [List.length_map]
theorem kws_nil {d : He.DefD} (h : d.kwd = []) : d.kws K = [] := by unfold He.DefD.kws; rw [h]; rfl
theorem LD.bindOk (S : L.Sta) {x : DefX} (hx : x ∈ L.ds) {fdt : FuncData} (F : FunD K x.d.name x.d.qual x.d.params x.d.body x.d.scope (x.d.dvs K) (x.d.kws K) ((L.T K).ad x.fd.n) fdt) : BindOk (L.T K) x.fd fdt := by
  have n1 : x.d.dvs K = [] → x.d.dfl = [] := fun e => by
    have := congrArg List.length e
    rw [dvs_len] at this
    exact List.length_eq_zero_iff.mp this
  have n2 : x.d.kws K = [] → x.d.kwd = [] := fun e => List.map_eq_nil_iff.mp e
  refine bindOk_of (T := L.T K) S.inj F (S.df x hx K) ((S.kw x hx).imp kws_nil dvs_nil) (fun e e2 q hq => S.s0 x hx (n1 e) (n2 e2) q hq) (fun e q hq => ?_) (fun e q hq => ?_) (S.sn x hx)
  · rw [dvs_len]
    exact S.s1 x hx (fun z => e (dvs_nil z)) q hq
  · have e2 : (x.d.kws K).map (·.1) = x.d.kwd.map (·.1) := by simp [He.DefD.kws, Function.comp_def]
    rw [e2]
    exact S.s2 x hx (fun z => e (kws_nil z)) q hq
theorem LD.goodT (S : L.Sta) (xb : L.xinB = true) (tb : L.tldB = true) (KX : K.In h) (G : h.Ns mainGlobals mg) (c : L.obsK K = L.val) : GoodT (L.T K) L.P mg L.gl L.cl := by
  have ck := LD.chk_ok c
  unfold LD.chk at ck
  simp only [Bool.and_eq_true] at ck
  obtain ⟨⟨⟨⟨c1, c2⟩, c3⟩, c4⟩, c5⟩ := ck
  have hP : ∀ k cd, L.P.cls k = some cd → (k, cd) ∈ L.cs := fun k cd e => look_mem e
  have hF : ∀ f, hasB (look f L.fnl) = true → (L.P.fn f).isSome := fun f e => by
    show (look f L.fnl).isSome
    revert e
    cases look f L.fnl with
    | none => exact fun e => Bool.noConfusion e
    | some _ => exact fun _ => rfl
  have cl := fun k cd (e : L.P.cls k = some cd) => Bool.and_eq_true_iff.mp (show (_ && _) = true from List.all_eq_true.mp c2 _ (hP k cd e))
  refine ⟨⟨fun m hm n hn => obB_ok (List.all_eq_true.mp (List.all_eq_true.mp c1 m hm) n hn), S.inj, S.app, fun f fd e => ?_, fun k cd e => ⟨ckC_ok (L.T K) L.cs hP (cl k cd e).1, fun he => ?_⟩, fun k cd fs e he => ?_, S.dun, fun o => (S.bo o).trans (by cases o <;> rfl), fun o => (S.bor o).trans (by cases o <;> rfl)⟩, fun n v e _ => ?_, fun f e => ?_, fun n hn => ?_, fun k cd fs fI e1 e2 e3 e4 => ?_, fun k cd fs m f fd t e1 e2 e3 e4 e5 => ?_⟩
  · obtain ⟨x, _, rfl, e⟩ := LD.fn_mem e; exact e
  · have q := (cl k cd e).2
    dsimp only at q
    rw [he] at q
    exact ckI_ok (L.T K) L.cs hP hF q
  · have q := (cl k cd e).2
    dsimp only at q
    rw [he] at q
    exact ckX_ok (L.T K) L.cs hP q
  · have q := List.all_eq_true.mp c3 _ (look_mem (show look n L.gs = some v from e))
    dsimp only at q
    unfold conB at q
    split at q
    · rename_i i
      obtain ⟨t, ht⟩ := He.int_ok KX G q
      exact ⟨.int i, _, ht, ⟨t, rfl⟩, fun _ => rfl⟩
    · rename_i z
      obtain ⟨t, ht⟩ := He.str_ok KX G q
      exact ⟨.str z, _, ht, ⟨t, rfl⟩, fun _ => rfl⟩
    · rename_i k
      rw [Bool.and_eq_true] at q
      have e := Nat.eq_of_beq_eq_true q.2
      refine ⟨.ref (He.ga K (L.st n)), _, He.glo_ok KX G q.1, rfl, fun _ => ?_⟩
      rw [← e]
      exact rfl
    · cases q
  · unfold LD.cl at e
    split at e
    · rename_i p hp
      have q := List.all_eq_true.mp c4 _ (look_mem hp)
      have q2 := List.all_eq_true.mp S.nm _ (look_mem hp)
      dsimp only at q q2
      have q2 := of_decide_eq_true q2
      rw [Bool.and_eq_true] at q
      have ea : adOf K L.wh f = He.ga K p := by unfold adOf; rw [hp]; rfl
      refine ⟨?_, q.2⟩
      show mg (L.st f) = some (.ref (adOf K L.wh f))
      rw [ea, q2]
      exact He.glo_ok KX G q.1
    · cases e
  · exact He.free_ok KX G (List.all_eq_true.mp c5 n hn)
  · have q := List.all_eq_true.mp xb _ (hP k cd e1)
    dsimp only at q
    rw [e2, e4] at q
    cases fs with
    | nil => exact absurd rfl e3
    | cons f0 fr =>
      dsimp only at q
      obtain ⟨x, hx, q⟩ := List.any_eq_true.mp q
      simp only [decide_eq_true_eq, Bool.and_eq_true] at q
      obtain ⟨⟨⟨⟨q1, q2⟩, q3⟩, q4⟩, q5, q6⟩ := q
      subst q1
      split at q3
      · rename_i self ps hN
        obtain ⟨fdt, F⟩ := LD.funD S c hx
        have hd := List.isEmpty_iff.mp q5
        rw [dvs_nil hd] at F
        have sh := S.s0 x hx hd (List.isEmpty_iff.mp q6) _ q4
        rw [← q2, hN, show x.fd.ps.length = (self :: ps).length by rw [← hN, q2, List.length_map]] at sh
        have fsc := S.fs x hx
        rw [← q2, hN] at fsc
        exact ⟨_, _, _, _, _, _, _, fdt, self, ps, F, fsc, q3, binds_of F sh⟩
      · cases q3
  · have q := List.all_eq_true.mp tb _ (hP k cd e1)
    dsimp only at q
    rw [e2] at q
    obtain ⟨x, hx, rfl, e⟩ := LD.fn_mem e4
    have q := List.all_eq_true.mp (List.all_eq_true.mp q _ (look_mem e3)) x hx
    dsimp only at q
    rw [e] at q
    simp only [decide_true, Bool.not_true, Bool.false_or, Bool.and_eq_true, decide_eq_true_eq] at q
    obtain ⟨⟨q1, q2⟩, q3, q6⟩ := q
    have q1 := Nat.eq_of_beq_eq_true q1
    have hd := List.isEmpty_iff.mp q3
    obtain ⟨fdt, F⟩ := LD.funD S c hx
    rw [dvs_nil hd] at F
    have sh := S.s0 x hx hd (List.isEmpty_iff.mp q6) _ q2
    have fsc := S.fs x hx
    obtain ⟨p, hp⟩ := List.length_eq_one_iff.mp q1
    rw [hp] at sh fsc
    obtain ⟨kk, p0, pos, hb⟩ := const_mt e5 (S.mt x hx)
    rw [e] at F
    exact ⟨_, _, _, _, _, _, _, fdt, L.st p, _, kk, p0, pos, F, fsc, hb, binds_of F sh⟩
theorem LD.defOk (S : L.Sta) (c : L.obsK K = L.val) (f : Nm) (fd : FDef) (e : L.P.fn f = some fd) : DefOk (L.T K) L.gl L.cl f fd := by
  obtain ⟨x, hx, rfl, en⟩ := LD.fn_mem e
  obtain ⟨fdt, F2⟩ := LD.funD2 S c hx
  have B := LD.bindOk S hx F2
  have F := funD0 F2
  rw [en] at F
  exact ⟨_, _, _, _, _, _, _, fdt, x.N, F, S.fs x hx, S.ns x hx, S.mt x hx, B⟩
end
/-! ### the end -/
def CXa (P : Program) : CXT := fun l H s E e s' => ∃ w, L2.CX P w l H s E e s'
theorem cxa_mono {P : Program} {w : World} {K : PySem.W.Frag} {mg : Str → Option Value} {base : Heap} {k : Nat} {f : Addr} {fd : FuncData} {ps : List Str} {sp : Sp} (F : FnOk P w K mg base (L2.CX P w) k f fd ps sp) : FnOk P w K mg base (CXa P) k f fd ps sp :=
  ⟨F.len, fun A outer s H args us vs Q E hr e0 hb r q => codeAny_mono (F.run A outer s H args us vs Q E hr e0 hb r q) fun r s' hq => by
    cases r with
    | error e => exact ⟨w, hq⟩
    | ok fl => cases fl <;> exact hq⟩
theorem cxa_end {P : Program} (H : Hp) (s : Shared) (e : Value) (s' : Shared) (h : CXa P [] H s (fun _ _ _ => False) e s') : False := by
  obtain ⟨w, h⟩ := h
  unfold L2.CX at h
  obtain ⟨_, _, _, _, _, _, _, _, _, _, _, _, _, q⟩ := h
/-- a law: what it answers at every script, by the evaluator -/
theorem LD.walk {L : LD} {l : PySem.W.OpenLaw} {n k : Nat} {q : Program} {loose : List Str} {XP : (Str → Option Value) → Heap → Prop} {d : DefRec} (S : L.Sta) (xb : L.xinB = true) (tb : L.tldB = true) (hn : l.most = some n) (hn2 : n ≤ sizeLine) (hdf : d.params.defaults = []) (hr : Room (k + 1) callerA) (two : 2 ≤ k)
    {f p : Nm} {fd : FDef} (hf : L.P.fn f = some fd) (hp : fd.ps = [p]) (hsh : (1, []) ∈ fd.sh) (hcl : L.cl f = true) (hname : L.st f = d.name) (hdd : ∀ x ∈ L.ds, x.fd.n = f → x.d.dfl = [] ∧ x.d.kwd = [])
    (con : ∀ ns : List Int, ns.length ≤ n → ∃ h', callF L.P (k + 1) f [.scr ns] [] = .ok (.bl true) h') :
    PySem.W.WalkO q loose XP L.hook.says l.row.toRowW d [] (fun f vs => PySem.call f vs) := by
  refine L2.walk_ofE (k := k + 1) (x := L.st p) (CX := CXa l.prog) hn hn2 hdf hr ?_ cxa_end
  intro w mg fa h Y G hmg
  obtain ⟨K, KX, c⟩ := Y
  have Gt := LD.goodT S xb tb KX G c
  obtain ⟨x, hx, rfl, en⟩ := LD.fn_mem hf
  obtain ⟨fdt, F⟩ := LD.funD S c hx
  obtain ⟨hd, hkw⟩ := hdd x hx en
  have sh := S.s0 x hx hd hkw _ hsh
  have F0 := F
  rw [dvs_nil hd] at F0
  rw [hp] at sh
  have B := binds_of F0 sh
  rw [en] at F
  have eq := (Gt.gc f hcl).1
  have e1 : mg (L.st f) = some (.ref fa) := hname ▸ hmg
  have e2 : (L.T K).ad f = fa := by
    have := (show mg (L.st f) = some (.ref ((L.T K).ad f)) from eq).symm.trans e1
    cases this; rfl
  refine ⟨K, fdt, spE (L.T K) L.P (k + 1) f, KX, ?_, fun H a ns hl _ hS => ?_, fun base _ _ => ?_⟩
  · intro s u
    have q := sh x.d.name x.d.qual x.d.body x.d.scope
    obtain ⟨oc, od, dV, kV, doc, pm, an, cdv, ct, osl, rfl, lk, hcd, hD, _⟩ := F0.ex
    rcases hD with ⟨_, rfl⟩ | ⟨e, -⟩
    · have q := q kV doc pm an cdv ct [u] [] rfl rfl
      refine BindsTo.of_looks fun M => PySem.W.Looks.of_pure ?_
      exact q
    · exact absurd rfl e
  · refine ⟨⟨H, []⟩, [], [.scr ns], ⟨fun _ _ e => e, rfl, (fun n o e => by cases e), (fun i j a e => by cases e), fun n a e => by cases e⟩, RepL.one ⟨a, rfl, hS⟩, ?_, fun fd' e => ?_⟩
    · obtain ⟨h', e⟩ := con ns hl
      rw [e]
      intro G' H' _ _ y ry
      exact ry
    · rw [hf] at e; cases e
      rw [hp]
      rfl
  · have go := fn_ok (prog := l.prog) (w := w) (base := base) Gt hf F (S.fs x hx) (S.ns x hx) (S.mt x hx) (fun g gd hg => all_ok Gt (LD.defOk S c) k g gd hg) (fun g gd hg => all_ok Gt (LD.defOk S c) (k - 1) g gd hg) two
    rw [hp, e2] at go
    exact cxa_mono go
end Py

set_option linter.all false
set_option maxRecDepth 100000
set_option maxHeartbeats 0
namespace Py
open PySem
/-- a name as the text has it -/
def stI (i : Nat) : Str := (bif Nat.blt i 80 then (bif Nat.blt i 40 then (bif Nat.blt i 20 then (bif Nat.blt i 10 then (bif Nat.blt i 5 then (bif Nat.blt i 2 then (bif Nat.blt i 1 then "k" else "at") else (bif Nat.blt i 3 then "Run" else (bif Nat.blt i 4 then "law" else "one"))) else (bif Nat.blt i 7 then (bif Nat.blt i 6 then "top" else "Goal") else (bif Nat.blt i 8 then "many" else (bif Nat.blt i 9 then "over" else "read")))) else (bif Nat.blt i 15 then (bif Nat.blt i 12 then (bif Nat.blt i 11 then "sees" else "self") else (bif Nat.blt i 13 then "slip" else (bif Nat.blt i 14 then "text" else "told"))) else (bif Nat.blt i 17 then (bif Nat.blt i 16 then "wild" else "word") else (bif Nat.blt i 18 then "NoRun" else (bif Nat.blt i 19 then "Ratio" else "_wall"))))) else (bif Nat.blt i 30 then (bif Nat.blt i 25 then (bif Nat.blt i 22 then (bif Nat.blt i 21 then "error" else "items") else (bif Nat.blt i 23 then "other" else (bif Nat.blt i 24 then "place" else "power"))) else (bif Nat.blt i 27 then (bif Nat.blt i 26 then "split" else "thing") else (bif Nat.blt i 28 then "world" else (bif Nat.blt i 29 then "DIGITS" else "NoGoal")))) else (bif Nat.blt i 35 then (bif Nat.blt i 32 then (bif Nat.blt i 31 then "NoWild" else "__eq__") else (bif Nat.blt i 33 then "__ge__" else (bif Nat.blt i 34 then "__gt__" else "__le__"))) else (bif Nat.blt i 37 then (bif Nat.blt i 36 then "__lt__" else "__ne__") else (bif Nat.blt i 38 then "__or__" else (bif Nat.blt i 39 then "append" else "bottom")))))) else (bif Nat.blt i 60 then (bif Nat.blt i 50 then (bif Nat.blt i 45 then (bif Nat.blt i 42 then (bif Nat.blt i 41 then "number" else "LETTERS") else (bif Nat.blt i 43 then "LONGEST" else (bif Nat.blt i 44 then "NoGoals" else "NoRatio"))) else (bif Nat.blt i 47 then (bif Nat.blt i 46 then "NoWorld" else "__abs__") else (bif Nat.blt i 48 then "__add__" else (bif Nat.blt i 49 then "__len__" else "__mod__")))) else (bif Nat.blt i 55 then (bif Nat.blt i 52 then (bif Nat.blt i 51 then "__mul__" else "__neg__") else (bif Nat.blt i 53 then "__pos__" else (bif Nat.blt i 54 then "__pow__" else "__ror__"))) else (bif Nat.blt i 57 then (bif Nat.blt i 56 then "__sub__" else "_law_at") else (bif Nat.blt i 58 then "effects" else (bif Nat.blt i 59 then "is_name" else "weights"))))) else (bif Nat.blt i 70 then (bif Nat.blt i 65 then (bif Nat.blt i 62 then (bif Nat.blt i 61 then "Question" else "Run_sees") else (bif Nat.blt i 63 then "__call__" else (bif Nat.blt i 64 then "__init__" else "__name__"))) else (bif Nat.blt i 67 then (bif Nat.blt i 66 then "__radd__" else "__rmod__") else (bif Nat.blt i 68 then "__rmul__" else (bif Nat.blt i 69 then "__rpow__" else "__rsub__")))) else (bif Nat.blt i 75 then (bif Nat.blt i 72 then (bif Nat.blt i 71 then "as_ratio" else "is_world") else (bif Nat.blt i 73 then "question" else (bif Nat.blt i 74 then "_law_hand" else "_law_made"))) else (bif Nat.blt i 77 then (bif Nat.blt i 76 then "_law_many" else "_law_pair") else (bif Nat.blt i 78 then "_law_slip" else (bif Nat.blt i 79 then "_law_take" else "is_digits"))))))) else (bif Nat.blt i 120 then (bif Nat.blt i 100 then (bif Nat.blt i 90 then (bif Nat.blt i 85 then (bif Nat.blt i 82 then (bif Nat.blt i 81 then "is_number" else "NoQuestion") else (bif Nat.blt i 83 then "NoRun_told" else (bif Nat.blt i 84 then "Ratio_over" else "Ratio_read"))) else (bif Nat.blt i 87 then (bif Nat.blt i 86 then "Ratio_text" else "Run___eq__") else (bif Nat.blt i 88 then "ValueError" else (bif Nat.blt i 89 then "_law_error" else "_law_names")))) else (bif Nat.blt i 95 then (bif Nat.blt i 92 then (bif Nat.blt i 91 then "_law_rogue" else "is_integer") else (bif Nat.blt i 93 then "Goal___eq__" else (bif Nat.blt i 94 then "MOST_DIGITS" else "MethodError"))) else (bif Nat.blt i 97 then (bif Nat.blt i 96 then "NoGoal_told" else "NoWild_told") else (bif Nat.blt i 98 then "Question_at" else (bif Nat.blt i 99 then "Ratio_power" else "__getitem__"))))) else (bif Nat.blt i 110 then (bif Nat.blt i 105 then (bif Nat.blt i 102 then (bif Nat.blt i 101 then "__setitem__" else "_law_number") else (bif Nat.blt i 103 then "_law_script" else (bif Nat.blt i 104 then "are_effects" else "are_numbers"))) else (bif Nat.blt i 107 then (bif Nat.blt i 106 then "is_sequence" else "MOST_EFFECTS") else (bif Nat.blt i 108 then "NoGoals_told" else (bif Nat.blt i 109 then "NoRatio_told" else "NoWorld_told")))) else (bif Nat.blt i 115 then (bif Nat.blt i 112 then (bif Nat.blt i 111 then "OtherEffects" else "Ratio___eq__") else (bif Nat.blt i 113 then "Ratio___ge__" else (bif Nat.blt i 114 then "Ratio___gt__" else "Ratio___le__"))) else (bif Nat.blt i 117 then (bif Nat.blt i 116 then "Ratio___lt__" else "Run___init__") else (bif Nat.blt i 118 then "__contains__" else (bif Nat.blt i 119 then "__floordiv__" else "_law_effects")))))) else (bif Nat.blt i 140 then (bif Nat.blt i 130 then (bif Nat.blt i 125 then (bif Nat.blt i 122 then (bif Nat.blt i 121 then "_law_weights" else "Goal___init__") else (bif Nat.blt i 123 then "Question_over" else (bif Nat.blt i 124 then "Ratio___abs__" else "Ratio___add__"))) else (bif Nat.blt i 127 then (bif Nat.blt i 126 then "Ratio___mod__" else "Ratio___mul__") else (bif Nat.blt i 128 then "Ratio___neg__" else (bif Nat.blt i 129 then "Ratio___pos__" else "Ratio___pow__")))) else (bif Nat.blt i 135 then (bif Nat.blt i 132 then (bif Nat.blt i 131 then "Ratio___sub__" else "__rfloordiv__") else (bif Nat.blt i 133 then "_law_fraction" else (bif Nat.blt i 134 then "_law_question" else "GREATEST_POWER"))) else (bif Nat.blt i 137 then (bif Nat.blt i 136 then "NoRun___init__" else "Ratio___init__") else (bif Nat.blt i 138 then "Ratio___radd__" else (bif Nat.blt i 139 then "Ratio___rmod__" else "Ratio___rmul__"))))) else (bif Nat.blt i 150 then (bif Nat.blt i 145 then (bif Nat.blt i 142 then (bif Nat.blt i 141 then "Ratio___rsub__" else "_law_hand_here") else (bif Nat.blt i 143 then "common_divisor" else (bif Nat.blt i 144 then "NoGoal___init__" else "NoQuestion_told"))) else (bif Nat.blt i 147 then (bif Nat.blt i 146 then "Question___eq__" else "MethodError_told") else (bif Nat.blt i 148 then "NoGoals___init__" else (bif Nat.blt i 149 then "NoRatio___init__" else "Question___add__")))) else (bif Nat.blt i 155 then (bif Nat.blt i 152 then (bif Nat.blt i 151 then "Question___mul__" else "Question___neg__") else (bif Nat.blt i 153 then "Question___sub__" else (bif Nat.blt i 154 then "OtherEffects_told" else "Question___init__"))) else (bif Nat.blt i 157 then (bif Nat.blt i 156 then "Question___rmul__" else "Ratio___floordiv__") else (bif Nat.blt i 158 then "_law_question_here" else (bif Nat.blt i 159 then "NoQuestion___init__" else "Ratio___rfloordiv__"))))))))
def st (n : Nm) : Str := stI n.ctorIdx
def enc (s : Str) : Nat := s.cps.toList.foldl (fun a c => a * 256 + c + 1) 0
def upB (g : Nat → Nat) : Nat → Bool
  | 0 => true
  | n + 1 => Nat.blt (g n) (g (n + 1)) && upB g n
theorem up_lt {g : Nat → Nat} : ∀ {n : Nat}, upB g n = true → ∀ {i j : Nat}, i < j → j ≤ n → g i < g j
  | 0, _, i, j, h1, h2 => by omega
  | n + 1, h, i, j, h1, h2 => by
    have h : (Nat.blt (g n) (g (n + 1)) && upB g n) = true := h
    rw [Bool.and_eq_true] at h
    have a : g n < g (n + 1) := Nat.le_of_ble_eq_true h.1
    by_cases e : j = n + 1
    · subst e
      by_cases e2 : i = n
      · subst e2; exact a
      · exact Nat.lt_trans (up_lt h.2 (by omega) (Nat.le_refl _)) a
    · exact up_lt h.2 h1 (by omega)
def nNm : Nat := 159
theorem idx_lt (n : Nm) : n.ctorIdx ≤ nNm := by cases n <;> decide
theorem st_up : upB (fun i => enc (stI i)) nNm = true := by decide +kernel
theorem st_inj (a b : Nm) (h : st a = st b) : a = b := by
  have e : enc (stI a.ctorIdx) = enc (stI b.ctorIdx) := congrArg enc h
  have la := idx_lt a
  have lb := idx_lt b
  have i : a.ctorIdx = b.ctorIdx := by
    rcases Nat.lt_trichotomy a.ctorIdx b.ctorIdx with q | q | q
    · have := up_lt st_up q lb; omega
    · exact q
    · have := up_lt st_up q la; omega
  have := congrArg Nm.ofNat i
  rwa [Nm.ofNat_ctorIdx, Nm.ofNat_ctorIdx] at this
end Py

set_option linter.all false
/-! Steps one by one: what stands behind a step is looked at when its value is there. -/
namespace Py
/-- what is wished, hidden from simp -/
inductive Kt {α : Type} (X : Exc → EH → Prop) (Q : α → EH → Prop) : Type where
  | mk
inductive KtS (X : Exc → Env → EH → Prop) (Q : Fl → Env → EH → Prop) : Type where
  | mk
/-- r ends with Q, or with an error and X -/
def TE {α : Type} {X : Exc → EH → Prop} {Q : α → EH → Prop} (_ : Kt X Q) (r : Res α) : Prop := match r with
  | .ok a h => Q a h
  | .err x h => X x h
  | .stuck => False
def TS {X : Exc → Env → EH → Prop} {Q : Fl → Env → EH → Prop} (_ : KtS X Q) (r : RS) : Prop := match r with
  | .ok f σ h => Q f σ h
  | .err x σ h => X x σ h
  | .stuck => False
abbrev Tr {α : Type} (X : Exc → EH → Prop) (Q : α → EH → Prop) (r : Res α) : Prop := TE (Kt.mk : Kt X Q) r
abbrev Ts (X : Exc → Env → EH → Prop) (Q : Fl → Env → EH → Prop) (r : RS) : Prop := TS (KtS.mk : KtS X Q) r
def nxt {X : Exc → Env → EH → Prop} {Q : Fl → Env → EH → Prop} (kk : KtS X Q) (k : Env → EH → RS) (f : Fl) (σ : Env) (h : EH) : Prop := match f with
  | .nx => TS kk (k σ h)
  | f => Q f σ h
def fin {X : Exc → EH → Prop} {Q : PV → EH → Prop} (_ : Kt X Q) (f : Fl) (_ : Env) (h : EH) : Prop := match f with
  | .nx => Q .non h
  | .rt v => Q v h
  | _ => False
/-- the error's wish, in a statement -/
def erS {X : Exc → EH → Prop} {Q : PV → EH → Prop} (_ : Kt X Q) (x : Exc) (_ : Env) (h : EH) : Prop := X x h
section
variable {α β : Type} {X : Exc → EH → Prop} {Q : α → EH → Prop} {Xs : Exc → Env → EH → Prop} {Qs : Fl → Env → EH → Prop} {C : Cxt} {σ : Env} {h : EH}
@[simp] theorem TE_ok (kk : Kt X Q) (a : α) : TE kk (.ok a h) = Q a h := rfl
@[simp] theorem TE_err (kk : Kt X Q) (x : Exc) : TE kk (.err x h) = X x h := rfl
@[simp] theorem TE_stuck (kk : Kt X Q) : TE kk .stuck = False := rfl
@[simp ↓] theorem TE_bind {Q : β → EH → Prop} (kk : Kt X Q) (r : Res α) (f : α → EH → Res β) : TE kk (r.bind f) = Tr X (fun a h => TE kk (f a h)) r := by cases r <;> rfl
@[simp] theorem TS_ok (kk : KtS Xs Qs) (f : Fl) : TS kk (.ok f σ h) = Qs f σ h := rfl
@[simp] theorem TS_err (kk : KtS Xs Qs) (x : Exc) : TS kk (.err x σ h) = Xs x σ h := rfl
@[simp] theorem TS_stuck (kk : KtS Xs Qs) : TS kk .stuck = False := rfl
@[simp ↓] theorem TS_thn (kk : KtS Xs Qs) (r : Res α) (f : α → EH → RS) : TS kk (r.thn σ f) = Tr (fun x h => Xs x σ h) (fun a h => TS kk (f a h)) r := by cases r <;> rfl
@[simp ↓] theorem TS_next (kk : KtS Xs Qs) (r : RS) (f : Env → EH → RS) : TS kk (r.next f) = Ts Xs (nxt kk f) r := by
  cases r with
  | ok f σ h => cases f <;> rfl
  | _ => rfl
@[simp ↓] theorem TS_nil (kk : KtS Xs Qs) : TS kk (evSs C [] σ h) = Qs .nx σ h := rfl
@[simp ↓] theorem TS_cons (kk : KtS Xs Qs) (s : S) (r : List S) : TS kk (evSs C (s :: r) σ h) = Ts Xs (nxt kk fun σ h => evSs C r σ h) (evS C s σ h) := TS_next _ _ _
@[simp ↓] theorem TS_one (kk : KtS Xs Qs) (s : S) : TS kk (evSs C [s] σ h) = TS kk (evS C s σ h) := by
  rw [TS_cons]
  cases evS C s σ h with
  | ok f σ h => cases f <;> rfl
  | _ => rfl
def trn {X : Exc → Env → EH → Prop} {Q : Fl → Env → EH → Prop} (kk : KtS X Q) (k : Env → EH → RS) (f : Fl) (σ : Env) (h : EH) : Prop := match f with
  | .nx => TS kk (k σ h)
  | .ct => TS kk (k σ h)
  | .br => Q .nx σ h
  | .rt v => Q (.rt v) σ h
@[simp ↓] theorem TS_turn (kk : KtS Xs Qs) (r : RS) (f : Env → EH → RS) : TS kk (r.turn f) = Ts Xs (trn kk f) r := by
  cases r with
  | ok f σ h => cases f <;> rfl
  | _ => rfl
@[simp] theorem trn_nx (kk : KtS Xs Qs) (k : Env → EH → RS) : trn kk k .nx σ h = TS kk (k σ h) := rfl
@[simp] theorem trn_ct (kk : KtS Xs Qs) (k : Env → EH → RS) : trn kk k .ct σ h = TS kk (k σ h) := rfl
@[simp] theorem trn_br (kk : KtS Xs Qs) (k : Env → EH → RS) : trn kk k .br σ h = Qs .nx σ h := rfl
@[simp] theorem trn_rt (kk : KtS Xs Qs) (k : Env → EH → RS) (v : PV) : trn kk k (.rt v) σ h = Qs (.rt v) σ h := rfl
/-- an error met by an except -/
def cat1 {X : Exc → Env → EH → Prop} {Q : Fl → Env → EH → Prop} (kk : KtS X Q) (C : Cxt) (c : Nm) (n : Option Nat) (hb : List HS) (x : Exc) (σ : Env) (h : EH) : Prop := TS kk (tryR C c n hb (.err x σ h))
@[simp ↓] theorem TS_tryR (kk : KtS Xs Qs) (c : Nm) (n : Option Nat) (hb : List HS) (r : RS) : TS kk (tryR C c n hb r) = Ts (cat1 kk C c n hb) Qs r := by
  cases r with
  | ok f σ h => rfl
  | err x σ h => rfl
  | stuck => rfl
/-- .. by several -/
def cat2 {X : Exc → Env → EH → Prop} {Q : Fl → Env → EH → Prop} (kk : KtS X Q) (C : Cxt) (cs : List (Nm × Option Nat × List HS)) (x : Exc) (σ : Env) (h : EH) : Prop := TS kk (trymR C cs (.err x σ h))
@[simp ↓] theorem TS_trymR (kk : KtS Xs Qs) (cs : List (Nm × Option Nat × List HS)) (r : RS) : TS kk (trymR C cs r) = Ts (cat2 kk C cs) Qs r := by
  cases r with
  | ok f σ h => rfl
  | err x σ h => rfl
  | stuck => rfl
@[simp] theorem nxt_nx (kk : KtS Xs Qs) (k : Env → EH → RS) : nxt kk k .nx σ h = TS kk (k σ h) := rfl
@[simp] theorem nxt_rt (kk : KtS Xs Qs) (k : Env → EH → RS) (v : PV) : nxt kk k (.rt v) σ h = Qs (.rt v) σ h := rfl
@[simp] theorem nxt_br (kk : KtS Xs Qs) (k : Env → EH → RS) : nxt kk k .br σ h = Qs .br σ h := rfl
@[simp] theorem nxt_ct (kk : KtS Xs Qs) (k : Env → EH → RS) : nxt kk k .ct σ h = Qs .ct σ h := rfl
@[simp] theorem fin_nx {Q : PV → EH → Prop} (kk : Kt X Q) : fin kk .nx σ h = Q .non h := rfl
@[simp] theorem fin_rt {Q : PV → EH → Prop} (kk : Kt X Q) (v : PV) : fin kk (.rt v) σ h = Q v h := rfl
@[simp] theorem erS_eq {Q : PV → EH → Prop} (kk : Kt X Q) (x : Exc) : erS kk x σ h = X x h := rfl
theorem TE.mono {X' : Exc → EH → Prop} {Q' : α → EH → Prop} {kk : Kt X Q} {kk' : Kt X' Q'} {r : Res α} (t : TE kk r) (q : ∀ a h, Q a h → Q' a h) (x : ∀ e h, X e h → X' e h) : TE kk' r := by
  cases r with
  | ok a h => exact q _ _ t
  | err e h => exact x _ _ t
  | stuck => exact t
theorem TS.mono {Xs' : Exc → Env → EH → Prop} {Qs' : Fl → Env → EH → Prop} {kk : KtS Xs Qs} {kk' : KtS Xs' Qs'} {r : RS} (t : TS kk r) (q : ∀ f σ h, Qs f σ h → Qs' f σ h) (x : ∀ e σ h, Xs e σ h → Xs' e σ h) : TS kk' r := by
  cases r with
  | ok a h => exact q _ _ _ t
  | err e h => exact x _ _ _ t
  | stuck => exact t
@[simp ↓] theorem TE_evE_v {X : Exc → EH → Prop} {Q : PV → EH → Prop} (kk : Kt X Q) (i) : TE kk (evE C (.v i) σ h) = TE kk ((match slot i σ with | some v => .ok v h | none => .stuck)) := congrArg _ (evE_v ..)
@[simp ↓] theorem TE_evE_g {X : Exc → EH → Prop} {Q : PV → EH → Prop} (kk : Kt X Q) (n) : TE kk (evE C (.g n) σ h) = TE kk ((match C.P.glob n with | some v => .ok v h | none => .stuck)) := congrArg _ (evE_g ..)
@[simp ↓] theorem TE_evE_ty {X : Exc → EH → Prop} {Q : PV → EH → Prop} (kk : Kt X Q) (n) : TE kk (evE C (.ty n) σ h) = TE kk (.ok (.ty n) h) := congrArg _ (evE_ty ..)
@[simp ↓] theorem TE_evE_i {X : Exc → EH → Prop} {Q : PV → EH → Prop} (kk : Kt X Q) (k) : TE kk (evE C (.i k) σ h) = TE kk (.ok (.int k) h) := congrArg _ (evE_i ..)
@[simp ↓] theorem TE_evE_s {X : Exc → EH → Prop} {Q : PV → EH → Prop} (kk : Kt X Q) (k) : TE kk (evE C (.s k) σ h) = TE kk (.ok (.str k) h) := congrArg _ (evE_s ..)
@[simp ↓] theorem TE_evE_b {X : Exc → EH → Prop} {Q : PV → EH → Prop} (kk : Kt X Q) (k) : TE kk (evE C (.b k) σ h) = TE kk (.ok (.bl k) h) := congrArg _ (evE_b ..)
@[simp ↓] theorem TE_evE_n {X : Exc → EH → Prop} {Q : PV → EH → Prop} (kk : Kt X Q)  : TE kk (evE C .n σ h) = TE kk (.ok .non h) := congrArg _ (evE_n ..)
@[simp ↓] theorem TE_evE_bin {X : Exc → EH → Prop} {Q : PV → EH → Prop} (kk : Kt X Q) (o a b) : TE kk (evE C (.bin o a b) σ h) = TE kk ((evE C a σ h).bind fun x h => (evE C b σ h).bind fun y h => opBin C o x y h) := congrArg _ (evE_bin ..)
@[simp ↓] theorem TE_evE_neg {X : Exc → EH → Prop} {Q : PV → EH → Prop} (kk : Kt X Q) (a) : TE kk (evE C (.neg a) σ h) = TE kk ((evE C a σ h).bind fun x h => opNeg C x h) := congrArg _ (evE_neg ..)
@[simp ↓] theorem TE_evE_pos {X : Exc → EH → Prop} {Q : PV → EH → Prop} (kk : Kt X Q) (a) : TE kk (evE C (.pos a) σ h) = TE kk ((evE C a σ h).bind fun x h => opPos C x h) := congrArg _ (evE_pos ..)
@[simp ↓] theorem TE_evE_cmp {X : Exc → EH → Prop} {Q : PV → EH → Prop} (kk : Kt X Q) (o a b) : TE kk (evE C (.cmp o a b) σ h) = TE kk ((evE C a σ h).bind fun x h => (evE C b σ h).bind fun y h => opCmp C o x y h) := congrArg _ (evE_cmp ..)
@[simp ↓] theorem TE_evE_chn {X : Exc → EH → Prop} {Q : PV → EH → Prop} (kk : Kt X Q) (o p a b c) : TE kk (evE C (.chn o p a b c) σ h) = TE kk ((evE C a σ h).bind fun x h => (evE C b σ h).bind fun y h => (lnk o x y h).bind fun t h =>
      if t then (evE C c σ h).bind fun z h => (lnk p y z h).bind fun t h => .ok (.bl t) h else .ok (.bl false) h) := congrArg _ (evE_chn ..)
@[simp ↓] theorem TE_evE_not {X : Exc → EH → Prop} {Q : PV → EH → Prop} (kk : Kt X Q) (a) : TE kk (evE C (.not a) σ h) = TE kk ((evT C a σ h).bind fun t h => .ok (.bl !t) h) := congrArg _ (evE_not ..)
@[simp ↓] theorem TE_evE_and {X : Exc → EH → Prop} {Q : PV → EH → Prop} (kk : Kt X Q) (es) : TE kk (evE C (.and es) σ h) = TE kk (evAnd C es σ h) := congrArg _ (evE_and ..)
@[simp ↓] theorem TE_evE_or {X : Exc → EH → Prop} {Q : PV → EH → Prop} (kk : Kt X Q) (es) : TE kk (evE C (.or es) σ h) = TE kk (evOr C es σ h) := congrArg _ (evE_or ..)
@[simp ↓] theorem TE_evE_ite {X : Exc → EH → Prop} {Q : PV → EH → Prop} (kk : Kt X Q) (c a b) : TE kk (evE C (.ite c a b) σ h) = TE kk ((evT C c σ h).bind fun t h => if t then evE C a σ h else evE C b σ h) := congrArg _ (evE_ite ..)
@[simp ↓] theorem TE_evE_att {X : Exc → EH → Prop} {Q : PV → EH → Prop} (kk : Kt X Q) (a f) : TE kk (evE C (.att a f) σ h) = TE kk ((evE C a σ h).bind fun x h => getAtt C x f h) := congrArg _ (evE_att ..)
@[simp ↓] theorem TE_evE_sub {X : Exc → EH → Prop} {Q : PV → EH → Prop} (kk : Kt X Q) (a i) : TE kk (evE C (.sub a i) σ h) = TE kk ((evE C a σ h).bind fun x h => (evE C i σ h).bind fun y h => getIt x y h) := congrArg _ (evE_sub ..)
@[simp ↓] theorem TE_evE_tup {X : Exc → EH → Prop} {Q : PV → EH → Prop} (kk : Kt X Q) (es) : TE kk (evE C (.tup es) σ h) = TE kk ((evEs C es σ h).bind fun xs h => if xs.length ≤ big then .ok (.tup xs) h else .stuck) := congrArg _ (evE_tup ..)
@[simp ↓] theorem TE_evE_lst {X : Exc → EH → Prop} {Q : PV → EH → Prop} (kk : Kt X Q) (m es) : TE kk (evE C (.lst m es) σ h) = TE kk ((evEs C es σ h).bind fun xs h => newL m xs h) := congrArg _ (evE_lst ..)
@[simp ↓] theorem TE_evE_call {X : Exc → EH → Prop} {Q : PV → EH → Prop} (kk : Kt X Q) (f es kw) : TE kk (evE C (.call f es kw) σ h) = TE kk ((evEs C es σ h).bind fun xs h => (evKs C kw σ h).bind fun ks h => callG C f xs ks h) := congrArg _ (evE_call ..)
@[simp ↓] theorem TE_evE_bu {X : Exc → EH → Prop} {Q : PV → EH → Prop} (kk : Kt X Q) (f es) : TE kk (evE C (.bu f es) σ h) = TE kk ((evEs C es σ h).bind fun xs h => bCall C f xs h) := congrArg _ (evE_bu ..)
@[simp ↓] theorem TE_evE_met {X : Exc → EH → Prop} {Q : PV → EH → Prop} (kk : Kt X Q) (a m es kw) : TE kk (evE C (.met a m es kw) σ h) = TE kk ((evE C a σ h).bind fun o h => (match resM C o m h with
    | some k => (evEs C es σ h).bind fun xs h => (evKs C kw σ h).bind fun ks h => doM C k o xs ks h
    | none => .stuck)) := congrArg _ (evE_met ..)
@[simp ↓] theorem TE_evE_lc0 {X : Exc → EH → Prop} {Q : PV → EH → Prop} (kk : Kt X Q) (m t it x) : TE kk (evE C (.lc m t it none x) σ h) = TE kk ((evI C it σ h).bind fun p h =>
      (lcL (fun v h => match setT t v σ with
        | some σ => (evE C x σ h).bind fun y h => .ok (some y) h
        | none => .stuck) p.1 p.2 h).bind fun ys h => newL m ys h) := congrArg _ (evE_lc0 ..)
@[simp ↓] theorem TE_evE_lc1 {X : Exc → EH → Prop} {Q : PV → EH → Prop} (kk : Kt X Q) (m t it c x) : TE kk (evE C (.lc m t it (some c) x) σ h) = TE kk ((evI C it σ h).bind fun p h =>
      (lcL (fun v h => match setT t v σ with
        | some σ => (evT C c σ h).bind fun b h => if b then (evE C x σ h).bind fun y h => .ok (some y) h else .ok none h
        | none => .stuck) p.1 p.2 h).bind fun ys h => newL m ys h) := congrArg _ (evE_lc1 ..)
@[simp ↓] theorem TE_evT_not {X : Exc → EH → Prop} {Q : Bool → EH → Prop} (kk : Kt X Q) (a) : TE kk (evT C (.not a) σ h) = TE kk ((evT C a σ h).bind fun t h => .ok (!t) h) := congrArg _ (evT_not ..)
@[simp ↓] theorem TE_evT_and {X : Exc → EH → Prop} {Q : Bool → EH → Prop} (kk : Kt X Q) (es) : TE kk (evT C (.and es) σ h) = TE kk (evAndT C es σ h) := congrArg _ (evT_and ..)
@[simp ↓] theorem TE_evT_or {X : Exc → EH → Prop} {Q : Bool → EH → Prop} (kk : Kt X Q) (es) : TE kk (evT C (.or es) σ h) = TE kk (evOrT C es σ h) := congrArg _ (evT_or ..)
@[simp ↓] theorem TE_evT_cmp {X : Exc → EH → Prop} {Q : Bool → EH → Prop} (kk : Kt X Q) (o a b) : TE kk (evT C (.cmp o a b) σ h) = TE kk ((evE C a σ h).bind fun x h => (evE C b σ h).bind fun y h => (opCmp C o x y h).bind fun r h => bolR r h) := congrArg _ (evT_cmp ..)
@[simp ↓] theorem TE_evT_chn {X : Exc → EH → Prop} {Q : Bool → EH → Prop} (kk : Kt X Q) (o p a b c) : TE kk (evT C (.chn o p a b c) σ h) = TE kk ((evE C a σ h).bind fun x h => (evE C b σ h).bind fun y h => (lnk o x y h).bind fun t h =>
      if t then (evE C c σ h).bind fun z h => lnk p y z h else .ok false h) := congrArg _ (evT_chn ..)
@[simp ↓] theorem TE_evT_tst {X : Exc → EH → Prop} {Q : Bool → EH → Prop} (kk : Kt X Q) (a) : TE kk (evT C (.tst a) σ h) = TE kk ((evE C a σ h).bind fun v h => truR v h) := congrArg _ (evT_tst ..)
@[simp ↓] theorem TE_evAnd_one {X : Exc → EH → Prop} {Q : PV → EH → Prop} (kk : Kt X Q) (e) : TE kk (evAnd C [e] σ h) = TE kk ((evE C e σ h).bind fun v h => .ok v h) := congrArg _ (evAnd_one ..)
@[simp ↓] theorem TE_evAnd_cons {X : Exc → EH → Prop} {Q : PV → EH → Prop} (kk : Kt X Q) (e f r) : TE kk (evAnd C (e :: f :: r) σ h) = TE kk ((evE C e σ h).bind fun v h => andV C (fun h => evAnd C (f :: r) σ h) false v h) := congrArg _ (evAnd_cons ..)
@[simp ↓] theorem TE_evOr_one {X : Exc → EH → Prop} {Q : PV → EH → Prop} (kk : Kt X Q) (e) : TE kk (evOr C [e] σ h) = TE kk ((evE C e σ h).bind fun v h => .ok v h) := congrArg _ (evOr_one ..)
@[simp ↓] theorem TE_evOr_cons {X : Exc → EH → Prop} {Q : PV → EH → Prop} (kk : Kt X Q) (e f r) : TE kk (evOr C (e :: f :: r) σ h) = TE kk ((evE C e σ h).bind fun v h => orV C (fun h => evOr C (f :: r) σ h) false v h) := congrArg _ (evOr_cons ..)
@[simp ↓] theorem TE_evAndT_nil {X : Exc → EH → Prop} {Q : Bool → EH → Prop} (kk : Kt X Q)  : TE kk (evAndT C [] σ h) = TE kk (.ok true h) := congrArg _ (evAndT_nil ..)
@[simp ↓] theorem TE_evAndT_cons {X : Exc → EH → Prop} {Q : Bool → EH → Prop} (kk : Kt X Q) (e r) : TE kk (evAndT C (e :: r) σ h) = TE kk ((evT C e σ h).bind fun t h => if t then evAndT C r σ h else .ok false h) := congrArg _ (evAndT_cons ..)
@[simp ↓] theorem TE_evOrT_nil {X : Exc → EH → Prop} {Q : Bool → EH → Prop} (kk : Kt X Q)  : TE kk (evOrT C [] σ h) = TE kk (.ok false h) := congrArg _ (evOrT_nil ..)
@[simp ↓] theorem TE_evOrT_cons {X : Exc → EH → Prop} {Q : Bool → EH → Prop} (kk : Kt X Q) (e r) : TE kk (evOrT C (e :: r) σ h) = TE kk ((evT C e σ h).bind fun t h => if t then .ok true h else evOrT C r σ h) := congrArg _ (evOrT_cons ..)
@[simp ↓] theorem TE_evEs_nil {X : Exc → EH → Prop} {Q : (List PV) → EH → Prop} (kk : Kt X Q)  : TE kk (evEs C [] σ h) = TE kk (.ok [] h) := congrArg _ (evEs_nil ..)
@[simp ↓] theorem TE_evEs_cons {X : Exc → EH → Prop} {Q : (List PV) → EH → Prop} (kk : Kt X Q) (e r) : TE kk (evEs C (e :: r) σ h) = TE kk ((evE C e σ h).bind fun v h => (evEs C r σ h).bind fun vs h => .ok (v :: vs) h) := congrArg _ (evEs_cons ..)
@[simp ↓] theorem TE_evKs_nil {X : Exc → EH → Prop} {Q : (List (Nm × PV)) → EH → Prop} (kk : Kt X Q)  : TE kk (evKs C [] σ h) = TE kk (.ok [] h) := congrArg _ (evKs_nil ..)
@[simp ↓] theorem TE_evKs_cons {X : Exc → EH → Prop} {Q : (List (Nm × PV)) → EH → Prop} (kk : Kt X Q) (n e r) : TE kk (evKs C ((n, e) :: r) σ h) = TE kk ((evE C e σ h).bind fun v h => (evKs C r σ h).bind fun vs h => .ok ((n, v) :: vs) h) := congrArg _ (evKs_cons ..)
@[simp ↓] theorem TE_evI_seq {X : Exc → EH → Prop} {Q : (Src × List PV) → EH → Prop} (kk : Kt X Q) (a) : TE kk (evI C (.seq a) σ h) = TE kk ((evE C a σ h).bind fun v h => (match v with
    | .tup xs => .ok (.std, xs) h
    | .lst xs => .ok (.std, xs) h
    | .str z => .ok (.std, z.cps.toList.map fun c => .str ⟨#[c]⟩) h
    | .loc n => (match hget n h with
      | some (.lst xs) => .ok (.at n xs, xs) h
      | _ => .stuck)
    | _ => .stuck)) := congrArg _ (evI_seq ..)
@[simp ↓] theorem TE_evI_enum {X : Exc → EH → Prop} {Q : (Src × List PV) → EH → Prop} (kk : Kt X Q) (a) : TE kk (evI C (.enum a) σ h) = TE kk ((evE C a σ h).bind fun v h => (match v with
    | .lst xs => .ok (.std, enumL 0 xs) h
    | .loc n => (match hget n h with
      | some (.lst xs) => .ok (.at n xs, enumL 0 xs) h
      | _ => .stuck)
    | _ => .stuck)) := congrArg _ (evI_enum ..)
@[simp ↓] theorem TE_evI_zip {X : Exc → EH → Prop} {Q : (Src × List PV) → EH → Prop} (kk : Kt X Q) (a b) : TE kk (evI C (.zip a b) σ h) = TE kk ((evE C a σ h).bind fun v h => (evE C b σ h).bind fun w h => (match v, w with
    | .tup xs, .tup ys => .ok (.std, zipL xs ys) h
    | .lst xs, .lst ys => .ok (.std, zipL xs ys) h
    | .tup xs, .lst ys => .ok (.std, zipL xs ys) h
    | .tup xs, .loc n => (match hget n h with
      | some (.lst ys) => .ok (.at n ys, zipL xs ys) h
      | _ => .stuck)
    | .lst xs, .loc n => (match hget n h with
      | some (.lst ys) => .ok (.at n ys, zipL xs ys) h
      | _ => .stuck)
    | _, _ => .stuck)) := congrArg _ (evI_zip ..)
@[simp ↓] theorem TE_evI_range2 {X : Exc → EH → Prop} {Q : (Src × List PV) → EH → Prop} (kk : Kt X Q) (a b) : TE kk (evI C (.range [a, b]) σ h) = TE kk ((evE C a σ h).bind fun v h => (evE C b σ h).bind fun w h => (match v, w with
    | .int k, .int n => if (k < 2 ^ 62 ∧ -(2 ^ 62) ≤ k) ∧ n < 2 ^ 62 ∧ -(2 ^ 62) ≤ n then .ok (.std, rangeL k (n - k).toNat) h else .stuck
    | _, _ => .stuck)) := congrArg _ (evI_range2 ..)
@[simp ↓] theorem TE_evI_range1 {X : Exc → EH → Prop} {Q : (Src × List PV) → EH → Prop} (kk : Kt X Q) (e) : TE kk (evI C (.range [e]) σ h) = TE kk ((evE C e σ h).bind fun v h => (match v with | .int n => if n < 2 ^ 62 ∧ -(2 ^ 62) ≤ n then .ok (.std, rangeL 0 n.toNat) h else .stuck | _ => .stuck)) := congrArg _ (evI_range1 ..)
@[simp ↓] theorem TS_evS_ex {Xs : Exc → Env → EH → Prop} {Qs : Fl → Env → EH → Prop} (kk : KtS Xs Qs) (e) : TS kk (evS C (.ex e) σ h) = TS kk ((evE C e σ h).thn σ fun _ h => .ok .nx σ h) := congrArg _ (evS_ex ..)
@[simp ↓] theorem TS_evS_asg {Xs : Exc → Env → EH → Prop} {Qs : Fl → Env → EH → Prop} (kk : KtS Xs Qs) (i e) : TS kk (evS C (.asg (.v i) e) σ h) = TS kk ((evE C e σ h).thn σ fun v h => .ok .nx (setS i (some v) σ) h) := congrArg _ (evS_asg ..)
@[simp ↓] theorem TS_evS_asgt {Xs : Exc → Env → EH → Prop} {Qs : Fl → Env → EH → Prop} (kk : KtS Xs Qs) (is e) : TS kk (evS C (.asg (.t is) e) σ h) = TS kk ((evE C e σ h).thn σ fun v h => (match setT (.t is) v σ with | some σ => .ok .nx σ h | none => .stuck)) := congrArg _ (evS_asgt ..)
@[simp ↓] theorem TS_evS_par {Xs : Exc → Env → EH → Prop} {Qs : Fl → Env → EH → Prop} (kk : KtS Xs Qs) (is es) : TS kk (evS C (.par is es) σ h) = TS kk ((evEs C es σ h).thn σ fun vs h => if vs.length = is.length then .ok .nx ((is.zip vs).foldl (fun σ p => setS p.1 (some p.2) σ) σ) h else .stuck) := congrArg _ (evS_par ..)
@[simp ↓] theorem TS_evS_sat {Xs : Exc → Env → EH → Prop} {Qs : Fl → Env → EH → Prop} (kk : KtS Xs Qs) (o f e) : TS kk (evS C (.sat o f e) σ h) = TS kk ((evE C e σ h).thn σ fun v h => (evE C o σ h).thn σ fun o h => (setAt C o f v h).thn σ fun _ h => .ok .nx σ h) := congrArg _ (evS_sat ..)
@[simp ↓] theorem TS_evS_sit {Xs : Exc → Env → EH → Prop} {Qs : Fl → Env → EH → Prop} (kk : KtS Xs Qs) (o k e) : TS kk (evS C (.sit o k e) σ h) = TS kk ((evE C e σ h).thn σ fun v h => (evE C o σ h).thn σ fun o h => (evE C k σ h).thn σ fun k h => (setIt o k v h).thn σ fun _ h => .ok .nx σ h) := congrArg _ (evS_sit ..)
@[simp ↓] theorem TS_evS_aug {Xs : Exc → Env → EH → Prop} {Qs : Fl → Env → EH → Prop} (kk : KtS Xs Qs) (i o e) : TS kk (evS C (.aug i o e) σ h) = TS kk ((match slot i σ with
    | some a => (evE C e σ h).thn σ fun b h => (opAug C o a b h).thn σ fun v h => .ok .nx (setS i (some v) σ) h
    | none => .stuck)) := congrArg _ (evS_aug ..)
@[simp ↓] theorem TS_evS_ret {Xs : Exc → Env → EH → Prop} {Qs : Fl → Env → EH → Prop} (kk : KtS Xs Qs) (e) : TS kk (evS C (.ret e) σ h) = TS kk ((evE C e σ h).thn σ fun v h => .ok (.rt v) σ h) := congrArg _ (evS_ret ..)
@[simp ↓] theorem TS_evS_retn {Xs : Exc → Env → EH → Prop} {Qs : Fl → Env → EH → Prop} (kk : KtS Xs Qs)  : TS kk (evS C .retn σ h) = TS kk (.ok (.rt .non) σ h) := congrArg _ (evS_retn ..)
@[simp ↓] theorem TS_evS_ifs {Xs : Exc → Env → EH → Prop} {Qs : Fl → Env → EH → Prop} (kk : KtS Xs Qs) (c a b) : TS kk (evS C (.ifs c a b) σ h) = TS kk ((evT C c σ h).thn σ fun t h => if t then evSs C a σ h else evSs C b σ h) := congrArg _ (evS_ifs ..)
@[simp ↓] theorem TS_evS_for {Xs : Exc → Env → EH → Prop} {Qs : Fl → Env → EH → Prop} (kk : KtS Xs Qs) (t it b) : TS kk (evS C (.for_ t it b) σ h) = TS kk ((evI C it σ h).thn σ fun p h => forS C t b p.1 p.2 σ h) := congrArg _ (evS_for ..)
@[simp ↓] theorem TS_evS_rai {Xs : Exc → Env → EH → Prop} {Qs : Fl → Env → EH → Prop} (kk : KtS Xs Qs) (c es) : TS kk (evS C (.rai c es) σ h) = TS kk ((match C.P.cls c with
    | some cd => (match cd.ex with
      | some fs => (match fs with
        | [] => (match es with
          | [] => .err ⟨c, []⟩ σ h
          | _ => .stuck)
        | f :: r => (evEs C es σ h).thn σ fun vs h => if (f :: r).length = vs.length then .err ⟨c, (f :: r).zip vs⟩ σ h else .stuck)
      | none => .stuck)
    | none => .stuck)) := congrArg _ (evS_rai ..)
@[simp ↓] theorem TS_evS_pass {Xs : Exc → Env → EH → Prop} {Qs : Fl → Env → EH → Prop} (kk : KtS Xs Qs)  : TS kk (evS C .pass σ h) = TS kk (.ok .nx σ h) := congrArg _ (evS_pass ..)
@[simp ↓] theorem TS_evS_brk {Xs : Exc → Env → EH → Prop} {Qs : Fl → Env → EH → Prop} (kk : KtS Xs Qs)  : TS kk (evS C .brk σ h) = TS kk (.ok .br σ h) := congrArg _ (evS_brk ..)
@[simp ↓] theorem TS_evS_cnt {Xs : Exc → Env → EH → Prop} {Qs : Fl → Env → EH → Prop} (kk : KtS Xs Qs)  : TS kk (evS C .cnt σ h) = TS kk (.ok .ct σ h) := congrArg _ (evS_cnt ..)
@[simp ↓] theorem TE_evE_lof {X : Exc → EH → Prop} {Q : PV → EH → Prop} (kk : Kt X Q) (m a) : TE kk (evE C (.lof m a) σ h) = TE kk ((evE C a σ h).bind fun x h => listR m x h) := congrArg _ (evE_lof ..)
@[simp ↓] theorem TE_evE_tof {X : Exc → EH → Prop} {Q : PV → EH → Prop} (kk : Kt X Q) (a) : TE kk (evE C (.tof a) σ h) = TE kk ((evE C a σ h).bind fun x h => tupR x h) := congrArg _ (evE_tof ..)
@[simp ↓] theorem TE_evE_lset {X : Exc → EH → Prop} {Q : PV → EH → Prop} (kk : Kt X Q) (a) : TE kk (evE C (.lset a) σ h) = TE kk ((evE C a σ h).bind fun x h => lsetR x h) := congrArg _ (evE_lset ..)
@[simp ↓] theorem TE_evE_rev {X : Exc → EH → Prop} {Q : PV → EH → Prop} (kk : Kt X Q) (a) : TE kk (evE C (.rev a) σ h) = TE kk ((evE C a σ h).bind fun x h => revR x h) := congrArg _ (evE_rev ..)
@[simp ↓] theorem TE_evE_binr {X : Exc → EH → Prop} {Q : PV → EH → Prop} (kk : Kt X Q) (o a b) : TE kk (evE C (.binr o a b) σ h) = TE kk ((evE C a σ h).bind fun x h => (evE C b σ h).bind fun y h => opBinR C o x y h) := congrArg _ (evE_binr ..)
@[simp ↓] theorem TE_evE_srt {X : Exc → EH → Prop} {Q : PV → EH → Prop} (kk : Kt X Q) (a) : TE kk (evE C (.srt a) σ h) = TE kk ((evE C a σ h).bind fun x h => srtR x h) := congrArg _ (evE_srt ..)
@[simp ↓] theorem TE_evE_slc0 {X : Exc → EH → Prop} {Q : PV → EH → Prop} (kk : Kt X Q) (a) : TE kk (evE C (.slc a none none) σ h) = TE kk ((evE C a σ h).bind fun x h => sliceR x none none h) := congrArg _ (evE_slc0 ..)
@[simp ↓] theorem TE_evE_slcl {X : Exc → EH → Prop} {Q : PV → EH → Prop} (kk : Kt X Q) (a u) : TE kk (evE C (.slc a (some u) none) σ h) = TE kk ((evE C a σ h).bind fun x h => (evE C u σ h).bind fun y h => intK (fun i h => sliceR x (some i) none h) y h) := congrArg _ (evE_slcl ..)
@[simp ↓] theorem TE_evE_slch {X : Exc → EH → Prop} {Q : PV → EH → Prop} (kk : Kt X Q) (a v) : TE kk (evE C (.slc a none (some v)) σ h) = TE kk ((evE C a σ h).bind fun x h => (evE C v σ h).bind fun z h => intK (fun j h => sliceR x none (some j) h) z h) := congrArg _ (evE_slch ..)
@[simp ↓] theorem TE_evE_slcb {X : Exc → EH → Prop} {Q : PV → EH → Prop} (kk : Kt X Q) (a u v) : TE kk (evE C (.slc a (some u) (some v)) σ h) = TE kk ((evE C a σ h).bind fun x h => (evE C u σ h).bind fun y h => intK (fun i h => (evE C v σ h).bind fun z h => intK (fun j h => sliceR x (some i) (some j) h) z h) y h) := congrArg _ (evE_slcb ..)
@[simp ↓] theorem TE_evE_cat {X : Exc → EH → Prop} {Q : PV → EH → Prop} (kk : Kt X Q) (m a b) : TE kk (evE C (.cat m a b) σ h) = TE kk ((evE C a σ h).bind fun x h => (evE C b σ h).bind fun y h => catL m x y h) := congrArg _ (evE_cat ..)
@[simp ↓] theorem TE_evE_dic0 {X : Exc → EH → Prop} {Q : PV → EH → Prop} (kk : Kt X Q) (m) : TE kk (evE C (.dic m [] []) σ h) = TE kk (if m then .ok (.loc h.length) (.dct [] :: h) else .ok (.dct []) h) := congrArg _ (evE_dic0 ..)
@[simp ↓] theorem TS_evS_trym {Xs : Exc → Env → EH → Prop} {Qs : Fl → Env → EH → Prop} (kk : KtS Xs Qs) (b cs) : TS kk (evS C (.trym b cs) σ h) = TS kk (trymR C cs (evSs C b σ h)) := congrArg _ (evS_trym ..)
@[simp ↓] theorem TS_evS_try {Xs : Exc → Env → EH → Prop} {Qs : Fl → Env → EH → Prop} (kk : KtS Xs Qs) (b c n hb) : TS kk (evS C (.try_ b c n hb) σ h) = TS kk ((match C.P.cls c with
    | some cd => (match cd.ex with
      | some _ => tryR C c n hb (evSs C b σ h)
      | none => .stuck)
    | none => .stuck)) := congrArg _ (evS_try ..)
/-- no error -/
abbrev NX : Exc → EH → Prop := fun _ _ => False
theorem TE.of {Q' : α → EH → Prop} {kk : Kt X Q'} {r : Res α} (t : Tr NX Q r) (q : ∀ a h, Q a h → Q' a h) : TE kk r := by
  cases r with
  | ok a h => exact q _ _ t
  | err e h => exact t.elim
  | stuck => exact t.elim
theorem TE.eq {r : Res α} {v : α} (t : Tr NX (fun a h' => a = v ∧ h' = h) r) : r = .ok v h := by
  cases r with
  | ok a h' => obtain ⟨rfl, rfl⟩ := t; rfl
  | err e h => exact t.elim
  | stuck => exact t.elim
theorem TE.err_eq {r : Res α} {x : Exc} (t : Tr (fun e h' => e = x ∧ h' = h) (fun _ _ => False) r) : r = .err x h := by
  cases r with
  | ok a h' => exact t.elim
  | err e h => obtain ⟨rfl, rfl⟩ := t; rfl
  | stuck => exact t.elim
theorem TE.ex {r : Res α} (t : Tr NX Q r) : ∃ a h', r = .ok a h' ∧ Q a h' := by
  cases r with
  | ok a h' => exact ⟨a, h', rfl, t⟩
  | err e h => exact t.elim
  | stuck => exact t.elim
/-! ifs whose test is open: the branches wait -/
/-- two ways, hidden from simp -/
inductive Br {α : Type} (a b : α) : Type where
  | mk
def TEi {X : Exc → EH → Prop} {Q : α → EH → Prop} (kk : Kt X Q) (c : Prop) {a b : Res α} (_ : Br a b) : Prop := (c → TE kk a) ∧ (¬ c → TE kk b)
def TSi {X : Exc → Env → EH → Prop} {Q : Fl → Env → EH → Prop} (kk : KtS X Q) (c : Prop) {a b : RS} (_ : Br a b) : Prop := (c → TS kk a) ∧ (¬ c → TS kk b)
@[simp ↓] theorem TE_ite (kk : Kt X Q) (c : Prop) [Decidable c] (a b : Res α) : TE kk (if c then a else b) = TEi kk c (Br.mk : Br a b) := by
  by_cases hc : c
  · rw [if_pos hc]; exact propext ⟨fun t => ⟨fun _ => t, fun n => absurd hc n⟩, fun t => t.1 hc⟩
  · rw [if_neg hc]; exact propext ⟨fun t => ⟨fun n => absurd n hc, fun _ => t⟩, fun t => t.2 hc⟩
@[simp ↓] theorem TS_ite (kk : KtS Xs Qs) (c : Prop) [Decidable c] (a b : RS) : TS kk (if c then a else b) = TSi kk c (Br.mk : Br a b) := by
  by_cases hc : c
  · rw [if_pos hc]; exact propext ⟨fun t => ⟨fun _ => t, fun n => absurd hc n⟩, fun t => t.1 hc⟩
  · rw [if_neg hc]; exact propext ⟨fun t => ⟨fun n => absurd n hc, fun _ => t⟩, fun t => t.2 hc⟩
@[simp] theorem TEi_true (kk : Kt X Q) {a b : Res α} (br : Br a b) : TEi kk True br = TE kk a := propext ⟨fun t => t.1 trivial, fun t => ⟨fun _ => t, fun n => absurd trivial n⟩⟩
@[simp] theorem TEi_false (kk : Kt X Q) {a b : Res α} (br : Br a b) : TEi kk False br = TE kk b := propext ⟨fun t => t.2 id, fun t => ⟨fun n => n.elim, fun _ => t⟩⟩
@[simp] theorem TSi_true (kk : KtS Xs Qs) {a b : RS} (br : Br a b) : TSi kk True br = TS kk a := propext ⟨fun t => t.1 trivial, fun t => ⟨fun _ => t, fun n => absurd trivial n⟩⟩
@[simp] theorem TSi_false (kk : KtS Xs Qs) {a b : RS} (br : Br a b) : TSi kk False br = TS kk b := propext ⟨fun t => t.2 id, fun t => ⟨fun n => n.elim, fun _ => t⟩⟩
theorem TEi_of {kk : Kt X Q} {c : Prop} {a b : Res α} {br : Br a b} (y : c → TE kk a) (n : ¬ c → TE kk b) : TEi kk c br := ⟨y, n⟩
theorem TSi_of {kk : KtS Xs Qs} {c : Prop} {a b : RS} {br : Br a b} (y : c → TS kk a) (n : ¬ c → TS kk b) : TSi kk c br := ⟨y, n⟩
/-! a def -/
theorem TE_end0 {fd : FDef} {Q : PV → EH → Prop} {kk : Kt X Q} {r : RS} (hf : fd.fz = false) (t : Ts (erS kk) (fin kk) r) : TE kk (endF fd h r) := by
  unfold endF
  cases r with
  | ok f σ h => cases f <;> simp only [hf] <;> exact t
  | err x σ h => simp only [hf]; exact t
  | stuck => exact t
/-- the end of a def that lets its things go -/
def fin1 {X : Exc → EH → Prop} {Q : PV → EH → Prop} (kk : Kt X Q) (b : EH) (f : Fl) (_ : Env) (h : EH) : Prop := match f with
  | .nx => TE kk (shut b .non h)
  | .rt v => TE kk (shut b v h)
  | _ => False
@[simp] theorem fin1_nx {Q : PV → EH → Prop} {b : EH} (kk : Kt X Q) : fin1 kk b .nx σ h = TE kk (shut b .non h) := rfl
@[simp] theorem fin1_rt {Q : PV → EH → Prop} {b : EH} (kk : Kt X Q) (v : PV) : fin1 kk b (.rt v) σ h = TE kk (shut b v h) := rfl
theorem TE_end1 {fd : FDef} {Q : PV → EH → Prop} {kk : Kt X Q} {r : RS} (hf : fd.fz = true) (t : Ts (fun x _ h' => suf h h' ∧ lowF h.length x.fs = true ∧ X x h) (fin1 kk h) r) : TE kk (endF fd h r) := by
  unfold endF
  cases r with
  | ok f σ h => cases f <;> simp only [hf] <;> exact t
  | err x σ h =>
    simp only [hf]
    obtain ⟨t1, t2, t3⟩ := t
    rw [if_pos trivial, if_pos ⟨t1, t2⟩]
    exact t3
  | stuck => exact t
theorem TE_call {P : Prog} {k : Nat} {f : Nm} {args : List PV} {Q : PV → EH → Prop} {kk : Kt X Q} (fd : FDef) (e : P.fn f = some fd) (l : args.length = fd.ps.length) (t : TE kk (endF fd h (evSs ⟨P, callF P (k + 2), callF P (k + 1)⟩ fd.body (start fd.ns args) h))) : TE kk (callF P (k + 3) f args h) := by
  rw [callF_eq, e]
  dsimp only
  rw [if_pos l]
  exact t
section
variable (i : Int) (x : PySem.Str) (b : Bool) (c : Nm) (fs : List (Nm × PV)) (kvs : List (Key × PV))
@[simp] theorem asSeq_int : asSeq h (.int i) = none := rfl
@[simp] theorem asSeq_str : asSeq h (.str x) = none := rfl
@[simp] theorem asSeq_bl : asSeq h (.bl b) = none := rfl
@[simp] theorem asSeq_non : asSeq h .non = none := rfl
@[simp] theorem asSeq_obj : asSeq h (.obj c fs) = none := rfl
@[simp] theorem asSeq_dct : asSeq h (.dct kvs) = none := rfl
@[simp] theorem tyOf_int : tyOf h (.int i) = some "int" := rfl
@[simp] theorem tyOf_str : tyOf h (.str x) = some "str" := rfl
@[simp] theorem tyOf_bl : tyOf h (.bl b) = some "bool" := rfl
@[simp] theorem tyOf_non : tyOf h .non = some "NoneType" := rfl
@[simp] theorem tyOf_tup (xs : List PV) : tyOf h (.tup xs) = some "tuple" := rfl
@[simp] theorem tyOf_lst (xs : List PV) : tyOf h (.lst xs) = some "list" := rfl
@[simp] theorem tyOf_dct : tyOf h (.dct kvs) = some "dict" := rfl
@[simp] theorem tyOf_obj : tyOf h (.obj c fs) = none := rfl
end
/-! the heap -/
theorem hgetA_app : ∀ {g b : EH} {n : Nat}, n < b.length → hget n (g ++ b) = hget n b
  | [], _, _, _ => rfl
  | o :: g, b, n, hn => by
    rw [List.cons_append, hget_cons, if_neg (by rw [List.length_append]; omega), hgetA_app hn]
theorem hgetA_some : ∀ {h : EH} {n : Nat}, n < h.length → ∃ o, hget n h = some o
  | [], n, l => by simp at l
  | o :: h, n, l => by
    rw [hget_cons]
    by_cases e : n = h.length
    · exact ⟨o, by rw [if_pos e]⟩
    · rw [if_neg e]; exact hgetA_some (by simp at l; omega)
theorem hgetA_none : ∀ {h : EH} {n : Nat}, h.length ≤ n → hget n h = none
  | [], n, l => rfl
  | o :: h, n, l => by
    rw [hget_cons, if_neg (by simp at l; omega)]
    exact hgetA_none (by simp at l; omega)
theorem hgetA_lt {h : EH} {n : Nat} {o : EO} (e : hget n h = some o) : n < h.length := by
  rcases Nat.lt_or_ge n h.length with q | q
  · exact q
  · rw [hgetA_none q] at e; cases e
theorem hsetA_get (n m : Nat) (o : EO) : ∀ h : EH, hget m (hset n o h) = if m = n ∧ n < h.length then some o else hget m h
  | [] => by simp [hset, hget]
  | a :: h => by
    rw [hset_cons]
    by_cases e : n = h.length
    · subst e
      simp only [if_pos, hget_cons]
      by_cases e2 : m = h.length
      · subst e2; simp
      · simp [e2]
    · rw [if_neg e, hget_cons, hset_length, hsetA_get n m o h, hget_cons]
      by_cases e2 : m = h.length
      · subst e2
        rw [if_pos rfl, if_neg (by rintro ⟨rfl, _⟩; exact e rfl), if_pos rfl]
      · rw [if_neg e2, if_neg e2]
        by_cases e3 : m = n
        · subst e3
          simp only [true_and, List.length_cons]
          by_cases e4 : m < h.length
          · rw [if_pos e4, if_pos (by omega)]
          · rw [if_neg e4, if_neg (by omega)]
        · rw [if_neg (by rintro ⟨q, _⟩; exact e3 q), if_neg (by rintro ⟨q, _⟩; exact e3 q)]
/-- what stood in b stands in h, but for l -/
structure Mo (l : Nat → Prop) (b h : EH) : Prop where
  le : b.length ≤ h.length
  at_ : ∀ n, n < b.length → ¬ l n → hget n h = hget n b
abbrev Gr (b h : EH) : Prop := Mo (fun _ => False) b h
theorem Mo.refl {l : Nat → Prop} (b : EH) : Mo l b b := ⟨Nat.le_refl _, fun _ _ _ => rfl⟩
theorem Mo.trans {l : Nat → Prop} {a b c : EH} (x : Mo l a b) (y : Mo l b c) : Mo l a c := ⟨Nat.le_trans x.le y.le, fun n hn w => by rw [y.at_ n (Nat.lt_of_lt_of_le hn x.le) w, x.at_ n hn w]⟩
theorem Mo.weak {l l' : Nat → Prop} {a b : EH} (x : Mo l a b) (w : ∀ n, n < a.length → l n → l' n) : Mo l' a b := ⟨x.le, fun n hn q => x.at_ n hn fun z => q (w n hn z)⟩
theorem Mo.set {l : Nat → Prop} {n : Nat} {o : EO} {b : EH} (w : n < b.length → l n) : Mo l b (hset n o b) := ⟨by rw [hset_length]; exact Nat.le_refl _, fun m hm q => by
  rw [hsetA_get, if_neg]
  rintro ⟨rfl, z⟩
  exact q (w z)⟩
theorem Mo.push {l : Nat → Prop} (o : EO) (b : EH) : Mo l b (o :: b) := ⟨by simp, fun m hm q => by rw [hget_cons, if_neg (by omega)]⟩
theorem Mo.get {l : Nat → Prop} {a b : EH} (x : Mo l a b) {n : Nat} {o : EO} (e : hget n a = some o) (w : ¬ l n) : hget n b = some o := by rw [x.at_ n (hgetA_lt e) w, e]
theorem Gr.suf : ∀ {h b : EH}, Gr b h → suf b h
  | [], b, g => by
    have := g.le
    cases b with
    | nil => exact ⟨[], rfl⟩
    | cons o b => simp at this
  | o :: h, b, g => by
    by_cases e : b.length ≤ h.length
    · obtain ⟨k, hk⟩ := Gr.suf (h := h) (b := b) ⟨e, fun n hn w => by rw [← g.at_ n hn w, hget_cons, if_neg (by omega)]⟩
      exact ⟨o :: k, by rw [hk]; rfl⟩
    · have l := g.le
      simp at l
      cases b with
      | nil => simp at e
      | cons o' b =>
        simp at l e
        have eq : b.length = h.length := by omega
        have h1 := g.at_ b.length (by simp) (fun z => z)
        rw [hget_cons, if_pos (by omega), hget_cons, if_pos rfl] at h1
        obtain ⟨k, hk⟩ := Gr.suf (h := h) (b := b) ⟨by omega, fun n hn w => by
          have := g.at_ n (by simp; omega) w
          rwa [hget_cons, if_neg (by omega), hget_cons, if_neg (by omega)] at this⟩
        have : k = [] := by
          have := congrArg List.length hk
          rw [List.length_append] at this
          exact List.eq_nil_of_length_eq_zero (by omega)
        subst this
        rw [List.nil_append] at hk
        cases h1
        exact ⟨[], by rw [hk]; rfl⟩
theorem suf.gr {h b : EH} (s : suf b h) : Gr b h := by
  obtain ⟨g, rfl⟩ := s
  exact ⟨by rw [List.length_append]; omega, fun n hn _ => hgetA_app hn⟩
/-- the end of a def that only made objects -/
theorem shut_pure {b h : EH} {v : PV} (s : suf b h) (nl : ∀ n, v ≠ .loc n) (lo : v.lowB b.length = true) : shut b v h = .ok v b := by
  unfold shut
  cases v with
  | loc n => exact (nl n rfl).elim
  | _ => exact if_pos ⟨s, lo⟩
open Classical in
theorem shut_loc {b h : EH} {n : Nat} {xs : List PV} (hn : b.length ≤ n) (e : hget n h = some (.lst xs)) : shut b (.loc n) h = if suf b h ∧ lowL b.length xs = true then .ok (.lst xs) b else .ok (.lst xs) (hset n .dead h) := by
  unfold shut
  simp [hn, e, PV.lowB]
theorem shut_lst {b h : EH} {n : Nat} {xs : List PV} (s : suf b h) (hn : b.length ≤ n) (e : hget n h = some (.lst xs)) (lo : lowL b.length xs = true) : shut b (.loc n) h = .ok (.lst xs) b := by
  rw [shut_loc hn e, if_pos ⟨s, lo⟩]
/-- .. of a def that changed something: a new list is handed on as it is -/
theorem shut_lst' {l : Nat → Prop} {b h : EH} {n : Nat} {xs : List PV} {Q : PV → EH → Prop} {kk : Kt X Q} (m : Mo l b h) (hn : b.length ≤ n) (e : hget n h = some (.lst xs)) (q : ∀ h', Mo l b h' → (∀ m, m < b.length → hget m h' = hget m h) → Q (.lst xs) h') : TE kk (shut b (.loc n) h) := by
  rw [shut_loc hn e]
  split
  · rename_i hc
    refine q b (Mo.refl _) fun k hk => ?_
    rw [hc.1.gr.at_ k hk (fun z => z)]
  · have at' : ∀ k, k < b.length → hget k (hset n .dead h) = hget k h := fun k hk => by
      rw [hsetA_get, if_neg]
      rintro ⟨rfl, _⟩
      omega
    exact q _ ⟨by rw [hset_length]; exact m.le, fun k hk w => by rw [at' k hk, m.at_ k hk w]⟩ at'
open Classical in
theorem shut_val {l : Nat → Prop} {b h : EH} {v : PV} {Q : PV → EH → Prop} {kk : Kt X Q} (m : Mo l b h) (nl : ∀ n, v ≠ .loc n) (q : ∀ h', Mo l b h' → (∀ m, m < b.length → hget m h' = hget m h) → Q v h') : TE kk (shut b v h) := by
  have go : TE kk (if suf b h ∧ v.lowB b.length = true then .ok v b else .ok v h) := by
    split
    · rename_i hc
      exact q b (Mo.refl _) fun k hk => by rw [hc.1.gr.at_ k hk (fun z => z)]
    · exact q h m fun _ _ => rfl
  unfold shut
  cases v with
  | loc n => exact (nl n rfl).elim
  | _ => exact go
/-! loops -/
/-- a turn's end -/
def tn (Q : Fl → Env → EH → Prop) (I : Env → EH → Prop) (f : Fl) (σ : Env) (h : EH) : Prop := match f with
  | .nx => I σ h
  | .ct => I σ h
  | .br => Q .nx σ h
  | .rt v => Q (.rt v) σ h
@[simp] theorem tn_nx (Q : Fl → Env → EH → Prop) (I : Env → EH → Prop) : tn Q I .nx σ h = I σ h := rfl
@[simp] theorem tn_ct (Q : Fl → Env → EH → Prop) (I : Env → EH → Prop) : tn Q I .ct σ h = I σ h := rfl
@[simp] theorem tn_br (Q : Fl → Env → EH → Prop) (I : Env → EH → Prop) : tn Q I .br σ h = Q .nx σ h := rfl
@[simp] theorem tn_rt (Q : Fl → Env → EH → Prop) (I : Env → EH → Prop) (v : PV) : tn Q I (.rt v) σ h = Q (.rt v) σ h := rfl
def ty (m : List PV) (I : List PV → EH → Prop) (y : Option PV) (h : EH) : Prop := match y with
  | some y => I (m ++ [y]) h
  | none => I m h
@[simp] theorem ty_some (m : List PV) (I : List PV → EH → Prop) (y : PV) : ty m I (some y) h = I (m ++ [y]) h := rfl
@[simp] theorem ty_none (m : List PV) (I : List PV → EH → Prop) : ty m I none h = I m h := rfl
/-- a for over a list that stands still: I: what is left and the state -/
theorem TS_for {kk : KtS Xs Qs} {t : T} {b : List S} {q : Src} (I : List PV → Env → EH → Prop) {xs : List PV} (h0 : I xs σ h)
    (ok : ∀ l σ h, I l σ h → q.ok h)
    (turn : ∀ x r σ h, I (x :: r) σ h → ∃ σ', setT t x σ = some σ' ∧ Ts Xs (tn Qs (I r)) (evSs C b σ' h))
    (done : ∀ σ h, I [] σ h → Qs .nx σ h) : TS kk (forS C t b q xs σ h) := by
  unfold forS
  induction xs generalizing σ h with
  | nil => rw [forL, if_pos (ok _ _ _ h0)]; exact done _ _ h0
  | cons x r ih =>
    obtain ⟨σ', e, w⟩ := turn x r σ h h0
    rw [forL, if_pos (ok _ _ _ h0), e]
    dsimp only
    cases z : evSs C b σ' h with
    | ok f σ2 h2 =>
      rw [z] at w
      cases f with
      | nx => exact ih w
      | ct => exact ih w
      | br => exact w
      | rt v => exact w
    | err x σ2 h2 => rw [z] at w; exact w
    | stuck => rw [z] at w; exact w
/-- a comprehension's turns: I: what is left, what is made -/
theorem TE_lc {f : PV → EH → Res (Option PV)} {q : Src} {Q : List PV → EH → Prop} {kk : Kt X Q} (I : List PV → List PV → EH → Prop) {xs : List PV}
    (ok : ∀ l m h, I l m h → q.ok h)
    (turn : ∀ x r m h, I (x :: r) m h → Tr NX (ty m (I r)) (f x h))
    (done : ∀ m h, I [] m h → Q m h) (h0 : I xs [] h) : TE kk (lcL f q xs h) := by
  have go : ∀ (xs m : List PV) (h : EH), I xs m h → ∃ ys h', lcL f q xs h = .ok ys h' ∧ I [] (m ++ ys) h' := by
    intro xs
    induction xs with
    | nil => intro m h w; exact ⟨[], h, by rw [lcL, if_pos (ok _ _ _ w)], by rw [List.append_nil]; exact w⟩
    | cons x r ih =>
      intro m h w
      obtain ⟨y, h1, e1, w1⟩ := TE.ex (turn x r m h w)
      obtain ⟨ys, h2, e2, w2⟩ := ih (match y with | some y => m ++ [y] | none => m) h1 (by cases y <;> exact w1)
      rw [lcL, if_pos (ok _ _ _ w), e1]
      dsimp only
      rw [e2]
      cases y with
      | none => exact ⟨ys, h2, rfl, w2⟩
      | some y => exact ⟨y :: ys, h2, rfl, by simpa using w2⟩
  obtain ⟨ys, h', e, w⟩ := go xs [] h h0
  rw [e]
  exact done _ _ w
/-- item by item -/
inductive Al {α β : Type} (P : α → β → Prop) : List α → List β → Prop where
  | nil : Al P [] []
  | cons {x y xs ys} (p : P x y) (r : Al P xs ys) : Al P (x :: xs) (y :: ys)
theorem Al.imp {α β γ : Type} {P : α → β → Prop} {P' : α → γ → Prop} {f : β → γ} (w : ∀ x y, P x y → P' x (f y)) {xs : List α} {ys : List β} (a : Al P xs ys) : Al P' xs (ys.map f) := by
  induction a with
  | nil => exact .nil
  | cons p _ ih => exact .cons (w _ _ p) ih
theorem Al.length {α β : Type} {P : α → β → Prop} {xs : List α} {ys : List β} (a : Al P xs ys) : xs.length = ys.length := by
  induction a with
  | nil => rfl
  | cons _ _ ih => simp [ih]
theorem Al.map {α β γ : Type} {P : β → γ → Prop} {f : α → β} {g : α → γ} : ∀ {xs : List α}, (∀ x ∈ xs, P (f x) (g x)) → Al P (xs.map f) (xs.map g)
  | [], _ => .nil
  | _ :: _, w => .cons (w _ (by simp)) (Al.map fun y hy => w y (by simp [hy]))
/-- a comprehension whose turns change nothing -/
theorem lc_al {C : Cxt} {mu : Bool} {t : T} {it : I} {x : E} {σ : Env} {h : EH} {q : Src} {xs ys : List PV} (e : evI C it σ h = .ok (q, xs) h) (hq : q.ok h) (al : Al (fun v y => ∃ σ', setT t v σ = some σ' ∧ evE C x σ' h = .ok y h) xs ys) :
    evE C (.lc mu t it none x) σ h = newL mu ys h := by
  rw [evE_lc0, e]
  simp only [bind_ok]
  have go : ∀ {xs ys : List PV}, Al (fun v y => ∃ σ', setT t v σ = some σ' ∧ evE C x σ' h = .ok y h) xs ys → lcL (fun v h => match setT t v σ with
        | some σ => (evE C x σ h).bind fun y h => .ok (some y) h
        | none => .stuck) q xs h = .ok ys h := by
    intro xs ys al
    induction al with
    | nil => rw [lcL, if_pos hq]
    | cons p _ ih =>
      obtain ⟨σ', e1, e2⟩ := p
      rw [lcL, if_pos hq, e1]
      dsimp only
      rw [e2]
      dsimp only [bind_ok]
      rw [ih]
      rfl
  refine Eq.trans (congrArg (fun r : Res (List PV) => r.bind fun ys h => newL mu ys h) (go al)) rfl
theorem newL_s {xs : List PV} {h : EH} (l : xs.length ≤ big) : newL false xs h = .ok (.lst xs) h := by simp [newL, l]
end
end Py

set_option linter.all false
set_option Elab.async false
/-! loops and comprehensions over range -/
namespace Py
section
variable {α : Type} {X : Exc → EH → Prop} {Xs : Exc → Env → EH → Prop} {Qs : Fl → Env → EH → Prop} {C : Cxt} {σ : Env} {h : EH}
theorem rangeL_len (lo : Int) (n : Nat) : (rangeL lo n).length = n := by simp [rangeL]
theorem range_drop {lo : Int} {n i : Nat} {x : PV} {r : List PV} (e : (rangeL lo n).drop i = x :: r) : i < n ∧ x = .int (lo + (i : Nat)) ∧ r = (rangeL lo n).drop (i + 1) := by
  have l : i < (rangeL lo n).length := by
    rcases Nat.lt_or_ge i (rangeL lo n).length with q | q
    · exact q
    · rw [List.drop_eq_nil_of_le q] at e; cases e
  rw [List.drop_eq_getElem_cons l] at e
  injection e with e1 e2
  rw [rangeL_len] at l
  exact ⟨l, by rw [← e1]; simp [rangeL], e2.symm⟩
/-- for i in range: I i: as it is ahead of turn i -/
theorem TS_rng {kk : KtS Xs Qs} {t : T} {b : List S} {lo : Int} {n : Nat} (I : Nat → Env → EH → Prop) (h0 : I 0 σ h)
    (turn : ∀ i σ h, i < n → I i σ h → ∃ σ', setT t (.int (lo + (i : Nat))) σ = some σ' ∧ Ts Xs (tn Qs (I (i + 1))) (evSs C b σ' h))
    (done : ∀ σ h, I n σ h → Qs .nx σ h) : TS kk (forS C t b .std (rangeL lo n) σ h) := by
  refine TS_for (fun l σ h => ∃ i, i ≤ n ∧ l = (rangeL lo n).drop i ∧ I i σ h) ⟨0, Nat.zero_le _, rfl, h0⟩ (fun _ _ _ _ => trivial) ?_ ?_
  · rintro x r σ h ⟨i, le, e, w⟩
    obtain ⟨lt, rfl, rfl⟩ := range_drop e.symm
    obtain ⟨σ', e', w'⟩ := turn i σ h lt w
    refine ⟨σ', e', ?_⟩
    have nxt : ∀ {σ h}, I (i + 1) σ h → ∃ j, j ≤ n ∧ (rangeL lo n).drop (i + 1) = (rangeL lo n).drop j ∧ I j σ h := fun w => ⟨i + 1, lt, rfl, w⟩
    cases z : evSs C b σ' h with
    | ok f σ2 h2 =>
      rw [z] at w'
      cases f with
      | nx => exact nxt w'
      | ct => exact nxt w'
      | br => exact w'
      | rt v => exact w'
    | err x σ2 h2 => rw [z] at w'; exact w'
    | stuck => rw [z] at w'; exact w'
  · rintro σ h ⟨i, le, e, w⟩
    have l : i = n := by
      have := congrArg List.length e
      rw [List.length_drop, rangeL_len] at this
      simp at this
      omega
    exact done σ h (l ▸ w)
/-- [f(i) for i in range]: I i m: what is made ahead of turn i -/
theorem TE_rng {f : PV → EH → Res (Option PV)} {Q : List PV → EH → Prop} {kk : Kt X Q} {lo : Int} {n : Nat} (I : Nat → List PV → EH → Prop) (h0 : I 0 [] h)
    (turn : ∀ i m h, i < n → I i m h → Tr NX (ty m (I (i + 1))) (f (.int (lo + (i : Nat))) h))
    (done : ∀ m h, I n m h → Q m h) : TE kk (lcL f .std (rangeL lo n) h) := by
  refine TE_lc (fun l m h => ∃ i, i ≤ n ∧ l = (rangeL lo n).drop i ∧ I i m h) (fun _ _ _ _ => trivial) ?_ ?_ ⟨0, Nat.zero_le _, rfl, h0⟩
  · rintro x r m h ⟨i, le, e, w⟩
    obtain ⟨lt, rfl, rfl⟩ := range_drop e.symm
    obtain ⟨y, h1, e1, w1⟩ := TE.ex (turn i m h lt w)
    rw [e1]
    cases y with
    | none => exact ⟨i + 1, lt, rfl, w1⟩
    | some y => exact ⟨i + 1, lt, rfl, w1⟩
  · rintro m h ⟨i, le, e, w⟩
    have l : i = n := by
      have := congrArg List.length e
      rw [List.length_drop, rangeL_len] at this
      simp at this
      omega
    exact done m h (l ▸ w)
/-- range of a small number -/
theorem pow62 {n : Int} (h0 : 0 ≤ n) (h1 : n ≤ 1000000) : n < 2 ^ 62 ∧ -(2 ^ 62) ≤ n := by
  have e : (1000000 : Int) < 2 ^ 62 := by decide +kernel
  generalize (2 : Int) ^ 62 = Z at e ⊢
  omega
theorem rng1 {e : E} {n : Int} (he : evE C e σ h = .ok (.int n) h) (h0 : 0 ≤ n) (h1 : n ≤ 1000000) : evI C (.range [e]) σ h = .ok (.std, rangeL 0 n.toNat) h := by
  have c := pow62 h0 h1
  rw [evI_range1, he, bind_ok]
  generalize (2 : Int) ^ 62 = Z at c ⊢
  exact if_pos c
/-- a list's append -/
theorem res_app {n : Nat} {xs : List PV} (e : hget n h = some (.lst xs)) : resM C (.loc n) .append h = some .app := by
  have a : asIns h (.loc n) = none := by simp [asIns, e]
  unfold resM
  rw [a]
  simp [e]
theorem do_app {n : Nat} {xs : List PV} {v : PV} (e : hget n h = some (.lst xs)) (l : xs.length < big) : doM C .app (.loc n) [v] [] h = .ok .non (hset n (.lst (xs ++ [v])) h) := by
  unfold doM
  dsimp only
  rw [e]
  dsimp only
  rw [if_pos l]
/-- a def that lets its things go -/
theorem TE_call1 {P : Prog} {k : Nat} {f : Nm} {args : List PV} {Q : PV → EH → Prop} {kk : Kt X Q} (fd : FDef) (e : P.fn f = some fd) (l : args.length = fd.ps.length) (hf : fd.fz = true) (t : Ts (fun x _ h' => suf h h' ∧ lowF h.length x.fs = true ∧ X x h) (fin1 kk h) (evSs ⟨P, callF P (k + 2), callF P (k + 1)⟩ fd.body (start fd.ns args) h)) :
    TE kk (callF P (k + 3) f args h) := TE_call fd e l (TE_end1 hf t)
end
end Py

set_option Elab.async false
set_option linter.all false
set_option maxRecDepth 100000
set_option maxHeartbeats 0
namespace Py
open L2 PyProof.Rows PySem.Spec PySem
abbrev W1 (n : Nm) (x : Str) : Nm × He.Defn := (n, x, none)
abbrev W2 (n : Nm) (c m : Str) : Nm × He.Defn := (n, c, some m)
abbrev C1 (n : Nm) (c : CDef) : Nm × CDef := (n, c)
abbrev G1 (n : Nm) (v : PV) : Nm × PV := (n, v)
def top (i : Nat) : Stmt := PySem.Challenge.pw_anymethod_k58_goals_and_their_refusals.main.body.getD i (.Pass ⟨0, 0, 0, 0⟩)
def d__wall : FDef := ⟨._wall, [.k], 1, [none], 1, false, [(1, [])], [.whl (.tst (.b true)) [.pass]]⟩
def x__wall : DefX := ⟨d__wall, ⟨("_wall", none), "_wall", "_wall", defArgs (top 0), defBody (top 0), defScope (top 0), [], []⟩, ["k"]⟩
def d_is_integer : FDef := ⟨.is_integer, [.thing], 1, [none], 1, false, [(1, [])], [.ret (.and [.bu .isinst [.v 0, .ty "int"], .not (.tst (.bu .isinst [.v 0, .ty "bool"]))])]⟩
def x_is_integer : DefX := ⟨d_is_integer, ⟨("is_integer", none), "is_integer", "is_integer", defArgs (top 5), defBody (top 5), defScope (top 5), [], []⟩, ["thing"]⟩
def d_is_sequence : FDef := ⟨.is_sequence, [.thing], 1, [none], 1, false, [(1, [])], [.ret (.bu .isinst [.v 0, .tup [.ty "list", .ty "tuple"]])]⟩
def x_is_sequence : DefX := ⟨d_is_sequence, ⟨("is_sequence", none), "is_sequence", "is_sequence", defArgs (top 6), defBody (top 6), defScope (top 6), [], []⟩, ["thing"]⟩
def d_is_name : FDef := ⟨.is_name, [.thing], 1, [none], 2, false, [(1, [])], [.ifs (.or [.not (.tst (.bu .isinst [.v 0, .ty "str"])), .not (.chn .le .le (.i 1) (.bu .len [.v 0]) (.g .LONGEST))]) [.ret (.b false)] [], .for_ (.v 1) (.seq (.v 0)) [.ifs (.and [.cmp .nin (.v 1) (.g .LETTERS), .cmp .nin (.v 1) (.g .DIGITS)]) [.ret (.b false)] []], .ret (.cmp .inn (.sub (.v 0) (.i 0)) (.g .LETTERS))]⟩
def x_is_name : DefX := ⟨d_is_name, ⟨("is_name", none), "is_name", "is_name", defArgs (top 7), defBody (top 7), defScope (top 7), [], []⟩, ["thing", "char"]⟩
def d_MethodError_told : FDef := ⟨.MethodError_told, [.self], 1, [none], 1, false, [(1, [])], [.ret (.s "refused methoderror")]⟩
def x_MethodError_told : DefX := ⟨d_MethodError_told, ⟨("MethodError", some "told"), "told", "MethodError.told", defArgs (inClass (top 9) 0), defBody (inClass (top 9) 0), defScope (inClass (top 9) 0), [], []⟩, ["self"]⟩
def d_NoRatio___init__ : FDef := ⟨.NoRatio___init__, [.self, .word], 2, [none, none], 2, false, [(2, [])], [.sat (.v 0) .word (.v 1)]⟩
def x_NoRatio___init__ : DefX := ⟨d_NoRatio___init__, ⟨("NoRatio", some "__init__"), "__init__", "NoRatio.__init__", defArgs (inClass (top 10) 0), defBody (inClass (top 10) 0), defScope (inClass (top 10) 0), [], []⟩, ["self", "word"]⟩
def d_NoRatio_told : FDef := ⟨.NoRatio_told, [.self], 1, [none], 1, false, [(1, [])], [.ret (.s "refused noratio")]⟩
def x_NoRatio_told : DefX := ⟨d_NoRatio_told, ⟨("NoRatio", some "told"), "told", "NoRatio.told", defArgs (inClass (top 10) 1), defBody (inClass (top 10) 1), defScope (inClass (top 10) 1), [], []⟩, ["self"]⟩
def d_NoQuestion___init__ : FDef := ⟨.NoQuestion___init__, [.self, .word], 2, [none, none], 2, false, [(2, [])], [.sat (.v 0) .word (.v 1)]⟩
def x_NoQuestion___init__ : DefX := ⟨d_NoQuestion___init__, ⟨("NoQuestion", some "__init__"), "__init__", "NoQuestion.__init__", defArgs (inClass (top 11) 0), defBody (inClass (top 11) 0), defScope (inClass (top 11) 0), [], []⟩, ["self", "word"]⟩
def d_NoQuestion_told : FDef := ⟨.NoQuestion_told, [.self], 1, [none], 1, false, [(1, [])], [.ret (.s "refused noquestion")]⟩
def x_NoQuestion_told : DefX := ⟨d_NoQuestion_told, ⟨("NoQuestion", some "told"), "told", "NoQuestion.told", defArgs (inClass (top 11) 1), defBody (inClass (top 11) 1), defScope (inClass (top 11) 1), [], []⟩, ["self"]⟩
def d_OtherEffects_told : FDef := ⟨.OtherEffects_told, [.self], 1, [none], 1, false, [(1, [])], [.ret (.s "refused othereffects")]⟩
def x_OtherEffects_told : DefX := ⟨d_OtherEffects_told, ⟨("OtherEffects", some "told"), "told", "OtherEffects.told", defArgs (inClass (top 12) 0), defBody (inClass (top 12) 0), defScope (inClass (top 12) 0), [], []⟩, ["self"]⟩
def d_NoWorld_told : FDef := ⟨.NoWorld_told, [.self], 1, [none], 1, false, [(1, [])], [.ret (.s "refused noworld")]⟩
def x_NoWorld_told : DefX := ⟨d_NoWorld_told, ⟨("NoWorld", some "told"), "told", "NoWorld.told", defArgs (inClass (top 13) 0), defBody (inClass (top 13) 0), defScope (inClass (top 13) 0), [], []⟩, ["self"]⟩
def d_NoRun___init__ : FDef := ⟨.NoRun___init__, [.self, .word], 2, [none, none], 2, false, [(2, [])], [.sat (.v 0) .word (.v 1)]⟩
def x_NoRun___init__ : DefX := ⟨d_NoRun___init__, ⟨("NoRun", some "__init__"), "__init__", "NoRun.__init__", defArgs (inClass (top 14) 0), defBody (inClass (top 14) 0), defScope (inClass (top 14) 0), [], []⟩, ["self", "word"]⟩
def d_NoRun_told : FDef := ⟨.NoRun_told, [.self], 1, [none], 1, false, [(1, [])], [.ret (.s "refused norun")]⟩
def x_NoRun_told : DefX := ⟨d_NoRun_told, ⟨("NoRun", some "told"), "told", "NoRun.told", defArgs (inClass (top 14) 1), defBody (inClass (top 14) 1), defScope (inClass (top 14) 1), [], []⟩, ["self"]⟩
def d_NoWild_told : FDef := ⟨.NoWild_told, [.self], 1, [none], 1, false, [(1, [])], [.ret (.s "refused nowild")]⟩
def x_NoWild_told : DefX := ⟨d_NoWild_told, ⟨("NoWild", some "told"), "told", "NoWild.told", defArgs (inClass (top 15) 0), defBody (inClass (top 15) 0), defScope (inClass (top 15) 0), [], []⟩, ["self"]⟩
def d_NoGoal___init__ : FDef := ⟨.NoGoal___init__, [.self, .word], 2, [none, none], 2, false, [(2, [])], [.sat (.v 0) .word (.v 1)]⟩
def x_NoGoal___init__ : DefX := ⟨d_NoGoal___init__, ⟨("NoGoal", some "__init__"), "__init__", "NoGoal.__init__", defArgs (inClass (top 16) 0), defBody (inClass (top 16) 0), defScope (inClass (top 16) 0), [], []⟩, ["self", "word"]⟩
def d_NoGoal_told : FDef := ⟨.NoGoal_told, [.self], 1, [none], 1, false, [(1, [])], [.ret (.s "refused nogoal")]⟩
def x_NoGoal_told : DefX := ⟨d_NoGoal_told, ⟨("NoGoal", some "told"), "told", "NoGoal.told", defArgs (inClass (top 16) 1), defBody (inClass (top 16) 1), defScope (inClass (top 16) 1), [], []⟩, ["self"]⟩
def d_NoGoals___init__ : FDef := ⟨.NoGoals___init__, [.self, .place], 2, [none, none], 2, false, [(2, [])], [.sat (.v 0) .place (.v 1)]⟩
def x_NoGoals___init__ : DefX := ⟨d_NoGoals___init__, ⟨("NoGoals", some "__init__"), "__init__", "NoGoals.__init__", defArgs (inClass (top 17) 0), defBody (inClass (top 17) 0), defScope (inClass (top 17) 0), [], []⟩, ["self", "place"]⟩
def d_NoGoals_told : FDef := ⟨.NoGoals_told, [.self], 1, [none], 1, false, [(1, [])], [.ret (.s "refused nogoals")]⟩
def x_NoGoals_told : DefX := ⟨d_NoGoals_told, ⟨("NoGoals", some "told"), "told", "NoGoals.told", defArgs (inClass (top 17) 1), defBody (inClass (top 17) 1), defScope (inClass (top 17) 1), [], []⟩, ["self"]⟩
def d_common_divisor : FDef := ⟨.common_divisor, [.one, .other], 2, [none, none], 2, false, [(2, [])], [.whl (.cmp .gt (.v 1) (.i 0)) [.par [0, 1] [.v 1, .bin .mod (.v 0) (.v 1)]], .ret (.v 0)]⟩
def x_common_divisor : DefX := ⟨d_common_divisor, ⟨("common_divisor", none), "common_divisor", "common_divisor", defArgs (top 21), defBody (top 21), defScope (top 21), [], []⟩, ["one", "other"]⟩
def d_Ratio___init__ : FDef := ⟨.Ratio___init__, [.self, .top, .bottom], 3, [none, none, some (.int 1)], 4, false, [(2, []), (3, [])], [.ifs (.not (.tst (.call .is_integer [.v 1] []))) [.rai .NoRatio [.s "top"]] [], .ifs (.not (.tst (.call .is_integer [.v 2] []))) [.rai .NoRatio [.s "bottom"]] [], .ifs (.cmp .eq (.v 2) (.i 0)) [.rai .NoRatio [.s "zero"]] [], .asg (.v 3) (.call .common_divisor [.bu .abs [.v 1], .bu .abs [.v 2]] []), .ifs (.cmp .lt (.v 2) (.i 0)) [.asg (.v 3) (.neg (.v 3))] [], .sat (.v 0) .top (.bin .fdiv (.v 1) (.v 3)), .sat (.v 0) .bottom (.bin .fdiv (.v 2) (.v 3))]⟩
def x_Ratio___init__ : DefX := ⟨d_Ratio___init__, ⟨("Ratio", some "__init__"), "__init__", "Ratio.__init__", defArgs (inClass (top 22) 0), defBody (inClass (top 22) 0), defScope (inClass (top 22) 0), [.int 1], []⟩, ["self", "top", "bottom", "divisor"]⟩
def d_Ratio___add__ : FDef := ⟨.Ratio___add__, [.self, .other], 2, [none, none], 2, false, [(2, [])], [.ifs (.not (.tst (.call .is_number [.v 1] []))) [.ret (.ni)] [], .asg (.v 1) (.call .as_ratio [.v 1] []), .ret (.call .Ratio [.bin .add (.bin .mul (.att (.v 0) .top) (.att (.v 1) .bottom)) (.bin .mul (.att (.v 1) .top) (.att (.v 0) .bottom)), .bin .mul (.att (.v 0) .bottom) (.att (.v 1) .bottom)] [])]⟩
def x_Ratio___add__ : DefX := ⟨d_Ratio___add__, ⟨("Ratio", some "__add__"), "__add__", "Ratio.__add__", defArgs (inClass (top 22) 1), defBody (inClass (top 22) 1), defScope (inClass (top 22) 1), [], []⟩, ["self", "other"]⟩
def d_Ratio___radd__ : FDef := ⟨.Ratio___radd__, [.self, .other], 2, [none, none], 2, false, [(2, [])], [.ret (.bin .add (.v 0) (.v 1))]⟩
def x_Ratio___radd__ : DefX := ⟨d_Ratio___radd__, ⟨("Ratio", some "__radd__"), "__radd__", "Ratio.__radd__", defArgs (inClass (top 22) 2), defBody (inClass (top 22) 2), defScope (inClass (top 22) 2), [], []⟩, ["self", "other"]⟩
def d_Ratio___sub__ : FDef := ⟨.Ratio___sub__, [.self, .other], 2, [none, none], 2, false, [(2, [])], [.ifs (.not (.tst (.call .is_number [.v 1] []))) [.ret (.ni)] [], .asg (.v 1) (.call .as_ratio [.v 1] []), .ret (.call .Ratio [.bin .sub (.bin .mul (.att (.v 0) .top) (.att (.v 1) .bottom)) (.bin .mul (.att (.v 1) .top) (.att (.v 0) .bottom)), .bin .mul (.att (.v 0) .bottom) (.att (.v 1) .bottom)] [])]⟩
def x_Ratio___sub__ : DefX := ⟨d_Ratio___sub__, ⟨("Ratio", some "__sub__"), "__sub__", "Ratio.__sub__", defArgs (inClass (top 22) 3), defBody (inClass (top 22) 3), defScope (inClass (top 22) 3), [], []⟩, ["self", "other"]⟩
def d_Ratio___rsub__ : FDef := ⟨.Ratio___rsub__, [.self, .other], 2, [none, none], 2, false, [(2, [])], [.ret (.bin .add (.neg (.v 0)) (.v 1))]⟩
def x_Ratio___rsub__ : DefX := ⟨d_Ratio___rsub__, ⟨("Ratio", some "__rsub__"), "__rsub__", "Ratio.__rsub__", defArgs (inClass (top 22) 4), defBody (inClass (top 22) 4), defScope (inClass (top 22) 4), [], []⟩, ["self", "other"]⟩
def d_Ratio___mul__ : FDef := ⟨.Ratio___mul__, [.self, .other], 2, [none, none], 2, false, [(2, [])], [.ifs (.not (.tst (.call .is_number [.v 1] []))) [.ret (.ni)] [], .asg (.v 1) (.call .as_ratio [.v 1] []), .ret (.call .Ratio [.bin .mul (.att (.v 0) .top) (.att (.v 1) .top), .bin .mul (.att (.v 0) .bottom) (.att (.v 1) .bottom)] [])]⟩
def x_Ratio___mul__ : DefX := ⟨d_Ratio___mul__, ⟨("Ratio", some "__mul__"), "__mul__", "Ratio.__mul__", defArgs (inClass (top 22) 5), defBody (inClass (top 22) 5), defScope (inClass (top 22) 5), [], []⟩, ["self", "other"]⟩
def d_Ratio___rmul__ : FDef := ⟨.Ratio___rmul__, [.self, .other], 2, [none, none], 2, false, [(2, [])], [.ret (.bin .mul (.v 0) (.v 1))]⟩
def x_Ratio___rmul__ : DefX := ⟨d_Ratio___rmul__, ⟨("Ratio", some "__rmul__"), "__rmul__", "Ratio.__rmul__", defArgs (inClass (top 22) 6), defBody (inClass (top 22) 6), defScope (inClass (top 22) 6), [], []⟩, ["self", "other"]⟩
def d_Ratio___neg__ : FDef := ⟨.Ratio___neg__, [.self], 1, [none], 1, false, [(1, [])], [.ret (.call .Ratio [.neg (.att (.v 0) .top), .att (.v 0) .bottom] [])]⟩
def x_Ratio___neg__ : DefX := ⟨d_Ratio___neg__, ⟨("Ratio", some "__neg__"), "__neg__", "Ratio.__neg__", defArgs (inClass (top 22) 7), defBody (inClass (top 22) 7), defScope (inClass (top 22) 7), [], []⟩, ["self"]⟩
def d_Ratio___pos__ : FDef := ⟨.Ratio___pos__, [.self], 1, [none], 1, false, [(1, [])], [.ret (.call .Ratio [.att (.v 0) .top, .att (.v 0) .bottom] [])]⟩
def x_Ratio___pos__ : DefX := ⟨d_Ratio___pos__, ⟨("Ratio", some "__pos__"), "__pos__", "Ratio.__pos__", defArgs (inClass (top 22) 8), defBody (inClass (top 22) 8), defScope (inClass (top 22) 8), [], []⟩, ["self"]⟩
def d_Ratio___abs__ : FDef := ⟨.Ratio___abs__, [.self], 1, [none], 1, false, [(1, [])], [.ret (.call .Ratio [.bu .abs [.att (.v 0) .top], .att (.v 0) .bottom] [])]⟩
def x_Ratio___abs__ : DefX := ⟨d_Ratio___abs__, ⟨("Ratio", some "__abs__"), "__abs__", "Ratio.__abs__", defArgs (inClass (top 22) 9), defBody (inClass (top 22) 9), defScope (inClass (top 22) 9), [], []⟩, ["self"]⟩
def d_Ratio___floordiv__ : FDef := ⟨.Ratio___floordiv__, [.self, .other], 2, [none, none], 2, false, [(2, [])], [.ifs (.not (.tst (.call .is_number [.v 1] []))) [.ret (.ni)] [], .asg (.v 1) (.call .as_ratio [.v 1] []), .ifs (.cmp .eq (.att (.v 1) .top) (.i 0)) [.rai .NoRatio [.s "zero"]] [], .ret (.bin .fdiv (.bin .mul (.att (.v 0) .top) (.att (.v 1) .bottom)) (.bin .mul (.att (.v 0) .bottom) (.att (.v 1) .top)))]⟩
def x_Ratio___floordiv__ : DefX := ⟨d_Ratio___floordiv__, ⟨("Ratio", some "__floordiv__"), "__floordiv__", "Ratio.__floordiv__", defArgs (inClass (top 22) 10), defBody (inClass (top 22) 10), defScope (inClass (top 22) 10), [], []⟩, ["self", "other"]⟩
def d_Ratio___rfloordiv__ : FDef := ⟨.Ratio___rfloordiv__, [.self, .other], 2, [none, none], 2, false, [(2, [])], [.ret (.bin .fdiv (.call .as_ratio [.v 1] []) (.v 0))]⟩
def x_Ratio___rfloordiv__ : DefX := ⟨d_Ratio___rfloordiv__, ⟨("Ratio", some "__rfloordiv__"), "__rfloordiv__", "Ratio.__rfloordiv__", defArgs (inClass (top 22) 11), defBody (inClass (top 22) 11), defScope (inClass (top 22) 11), [], []⟩, ["self", "other"]⟩
def d_Ratio___mod__ : FDef := ⟨.Ratio___mod__, [.self, .other], 2, [none, none], 2, false, [(2, [])], [.ifs (.not (.tst (.call .is_number [.v 1] []))) [.ret (.ni)] [], .ret (.bin .sub (.v 0) (.bin .mul (.call .as_ratio [.v 1] []) (.bin .fdiv (.v 0) (.v 1))))]⟩
def x_Ratio___mod__ : DefX := ⟨d_Ratio___mod__, ⟨("Ratio", some "__mod__"), "__mod__", "Ratio.__mod__", defArgs (inClass (top 22) 12), defBody (inClass (top 22) 12), defScope (inClass (top 22) 12), [], []⟩, ["self", "other"]⟩
def d_Ratio___rmod__ : FDef := ⟨.Ratio___rmod__, [.self, .other], 2, [none, none], 3, false, [(2, [])], [.asg (.v 2) (.bin .fdiv (.call .as_ratio [.v 1] []) (.v 0)), .ret (.bin .sub (.call .as_ratio [.v 1] []) (.bin .mul (.v 0) (.v 2)))]⟩
def x_Ratio___rmod__ : DefX := ⟨d_Ratio___rmod__, ⟨("Ratio", some "__rmod__"), "__rmod__", "Ratio.__rmod__", defArgs (inClass (top 22) 13), defBody (inClass (top 22) 13), defScope (inClass (top 22) 13), [], []⟩, ["self", "other", "whole"]⟩
def d_Ratio___pow__ : FDef := ⟨.Ratio___pow__, [.self, .k], 2, [none, none], 2, false, [(2, [])], [.ret (.met (.v 0) .power [.v 1] [])]⟩
def x_Ratio___pow__ : DefX := ⟨d_Ratio___pow__, ⟨("Ratio", some "__pow__"), "__pow__", "Ratio.__pow__", defArgs (inClass (top 22) 14), defBody (inClass (top 22) 14), defScope (inClass (top 22) 14), [], []⟩, ["self", "k"]⟩
def d_Ratio___eq__ : FDef := ⟨.Ratio___eq__, [.self, .other], 2, [none, none], 2, false, [(2, [])], [.ifs (.tst (.bu .isinst [.v 1, .g .Ratio])) [.ret (.and [.cmp .eq (.att (.v 0) .top) (.att (.v 1) .top), .cmp .eq (.att (.v 0) .bottom) (.att (.v 1) .bottom)])] [], .ret (.and [.call .is_integer [.v 1] [], .cmp .eq (.att (.v 0) .bottom) (.i 1), .cmp .eq (.att (.v 0) .top) (.v 1)])]⟩
def x_Ratio___eq__ : DefX := ⟨d_Ratio___eq__, ⟨("Ratio", some "__eq__"), "__eq__", "Ratio.__eq__", defArgs (inClass (top 22) 15), defBody (inClass (top 22) 15), defScope (inClass (top 22) 15), [], []⟩, ["self", "other"]⟩
def d_Ratio___lt__ : FDef := ⟨.Ratio___lt__, [.self, .other], 2, [none, none], 2, false, [(2, [])], [.ifs (.not (.tst (.call .is_number [.v 1] []))) [.ret (.ni)] [], .asg (.v 1) (.call .as_ratio [.v 1] []), .ret (.cmp .lt (.bin .mul (.att (.v 0) .top) (.att (.v 1) .bottom)) (.bin .mul (.att (.v 1) .top) (.att (.v 0) .bottom)))]⟩
def x_Ratio___lt__ : DefX := ⟨d_Ratio___lt__, ⟨("Ratio", some "__lt__"), "__lt__", "Ratio.__lt__", defArgs (inClass (top 22) 16), defBody (inClass (top 22) 16), defScope (inClass (top 22) 16), [], []⟩, ["self", "other"]⟩
def d_Ratio___le__ : FDef := ⟨.Ratio___le__, [.self, .other], 2, [none, none], 2, false, [(2, [])], [.ifs (.not (.tst (.call .is_number [.v 1] []))) [.ret (.ni)] [], .asg (.v 1) (.call .as_ratio [.v 1] []), .ret (.cmp .le (.bin .mul (.att (.v 0) .top) (.att (.v 1) .bottom)) (.bin .mul (.att (.v 1) .top) (.att (.v 0) .bottom)))]⟩
def x_Ratio___le__ : DefX := ⟨d_Ratio___le__, ⟨("Ratio", some "__le__"), "__le__", "Ratio.__le__", defArgs (inClass (top 22) 17), defBody (inClass (top 22) 17), defScope (inClass (top 22) 17), [], []⟩, ["self", "other"]⟩
def d_Ratio___gt__ : FDef := ⟨.Ratio___gt__, [.self, .other], 2, [none, none], 2, false, [(2, [])], [.ifs (.not (.tst (.call .is_number [.v 1] []))) [.ret (.ni)] [], .asg (.v 1) (.call .as_ratio [.v 1] []), .ret (.cmp .gt (.bin .mul (.att (.v 0) .top) (.att (.v 1) .bottom)) (.bin .mul (.att (.v 1) .top) (.att (.v 0) .bottom)))]⟩
def x_Ratio___gt__ : DefX := ⟨d_Ratio___gt__, ⟨("Ratio", some "__gt__"), "__gt__", "Ratio.__gt__", defArgs (inClass (top 22) 18), defBody (inClass (top 22) 18), defScope (inClass (top 22) 18), [], []⟩, ["self", "other"]⟩
def d_Ratio___ge__ : FDef := ⟨.Ratio___ge__, [.self, .other], 2, [none, none], 2, false, [(2, [])], [.ifs (.not (.tst (.call .is_number [.v 1] []))) [.ret (.ni)] [], .asg (.v 1) (.call .as_ratio [.v 1] []), .ret (.cmp .ge (.bin .mul (.att (.v 0) .top) (.att (.v 1) .bottom)) (.bin .mul (.att (.v 1) .top) (.att (.v 0) .bottom)))]⟩
def x_Ratio___ge__ : DefX := ⟨d_Ratio___ge__, ⟨("Ratio", some "__ge__"), "__ge__", "Ratio.__ge__", defArgs (inClass (top 22) 19), defBody (inClass (top 22) 19), defScope (inClass (top 22) 19), [], []⟩, ["self", "other"]⟩
def d_Ratio_over : FDef := ⟨.Ratio_over, [.self, .number], 2, [none, none], 2, false, [], [.ex (.call ._wall [.i 0] [])]⟩
def x_Ratio_over : DefX := ⟨d_Ratio_over, ⟨("Ratio", some "over"), "over", "Ratio.over", defArgs (inClass (top 22) 20), defBody (inClass (top 22) 20), defScope (inClass (top 22) 20), [], []⟩, ["self", "number"]⟩
def d_Ratio_power : FDef := ⟨.Ratio_power, [.self, .k], 2, [none, none], 4, false, [(2, [])], [.ifs (.or [.not (.tst (.call .is_integer [.v 1] [])), .cmp .gt (.bu .abs [.v 1]) (.g .GREATEST_POWER)]) [.rai .NoRatio [.s "power"]] [], .ifs (.and [.cmp .eq (.att (.v 0) .top) (.i 0), .cmp .lt (.v 1) (.i 0)]) [.rai .NoRatio [.s "zero"]] [], .asg (.v 2) (.call .Ratio [.i 1] []), .for_ (.v 3) (.range [.bu .abs [.v 1]]) [.asg (.v 2) (.bin .mul (.v 2) (.v 0))], .ifs (.cmp .lt (.v 1) (.i 0)) [.ret (.call .Ratio [.att (.v 2) .bottom, .att (.v 2) .top] [])] [], .ret (.v 2)]⟩
def x_Ratio_power : DefX := ⟨d_Ratio_power, ⟨("Ratio", some "power"), "power", "Ratio.power", defArgs (inClass (top 22) 21), defBody (inClass (top 22) 21), defScope (inClass (top 22) 21), [], []⟩, ["self", "k", "made", "turn"]⟩
def d_Ratio_text : FDef := ⟨.Ratio_text, [.self], 1, [none], 1, false, [(1, [])], [.ifs (.cmp .eq (.att (.v 0) .bottom) (.i 1)) [.ret (.bu .str [.att (.v 0) .top])] [], .ret (.bin .add (.bin .add (.bu .str [.att (.v 0) .top]) (.s "/")) (.bu .str [.att (.v 0) .bottom]))]⟩
def x_Ratio_text : DefX := ⟨d_Ratio_text, ⟨("Ratio", some "text"), "text", "Ratio.text", defArgs (inClass (top 22) 22), defBody (inClass (top 22) 22), defScope (inClass (top 22) 22), [], []⟩, ["self"]⟩
def d_is_digits : FDef := ⟨.is_digits, [.text], 1, [none], 2, false, [(1, [])], [.ifs (.not (.chn .le .le (.i 1) (.bu .len [.v 0]) (.g .MOST_DIGITS))) [.ret (.b false)] [], .for_ (.v 1) (.seq (.v 0)) [.ifs (.cmp .nin (.v 1) (.g .DIGITS)) [.ret (.b false)] []], .ret (.b true)]⟩
def x_is_digits : DefX := ⟨d_is_digits, ⟨("is_digits", none), "is_digits", "is_digits", defArgs (top 23), defBody (top 23), defScope (top 23), [], []⟩, ["text", "char"]⟩
def d_is_number : FDef := ⟨.is_number, [.thing], 1, [none], 1, false, [(1, [])], [.ret (.or [.bu .isinst [.v 0, .g .Ratio], .call .is_integer [.v 0] []])]⟩
def x_is_number : DefX := ⟨d_is_number, ⟨("is_number", none), "is_number", "is_number", defArgs (top 24), defBody (top 24), defScope (top 24), [], []⟩, ["thing"]⟩
def d_as_ratio : FDef := ⟨.as_ratio, [.number], 1, [none], 1, false, [(1, [])], [.ifs (.tst (.bu .isinst [.v 0, .g .Ratio])) [.ret (.v 0)] [], .ret (.call .Ratio [.v 0] [])]⟩
def x_as_ratio : DefX := ⟨d_as_ratio, ⟨("as_ratio", none), "as_ratio", "as_ratio", defArgs (top 25), defBody (top 25), defScope (top 25), [], []⟩, ["number"]⟩
def d_are_effects : FDef := ⟨.are_effects, [.effects], 1, [none], 2, false, [(1, [])], [.ifs (.or [.not (.tst (.call .is_sequence [.v 0] [])), .not (.chn .le .le (.i 1) (.bu .len [.v 0]) (.g .MOST_EFFECTS))]) [.ret (.b false)] [], .for_ (.v 1) (.seq (.v 0)) [.ifs (.not (.tst (.call .is_name [.v 1] []))) [.ret (.b false)] []], .ret (.cmp .eq (.lset (.lof false (.v 0))) (.bu .len [.v 0]))]⟩
def x_are_effects : DefX := ⟨d_are_effects, ⟨("are_effects", none), "are_effects", "are_effects", defArgs (top 28), defBody (top 28), defScope (top 28), [], []⟩, ["effects", "name"]⟩
def d_are_numbers : FDef := ⟨.are_numbers, [.items, .many], 2, [none, none], 3, false, [(2, [])], [.ifs (.or [.not (.tst (.call .is_sequence [.v 0] [])), .cmp .ne (.bu .len [.v 0]) (.v 1)]) [.ret (.b false)] [], .for_ (.v 2) (.seq (.v 0)) [.ifs (.not (.tst (.call .is_number [.v 2] []))) [.ret (.b false)] []], .ret (.b true)]⟩
def x_are_numbers : DefX := ⟨d_are_numbers, ⟨("are_numbers", none), "are_numbers", "are_numbers", defArgs (top 29), defBody (top 29), defScope (top 29), [], []⟩, ["items", "many", "item"]⟩
def d_is_world : FDef := ⟨.is_world, [.effects, .world], 2, [none, none], 2, false, [(2, [])], [.ret (.call .are_numbers [.v 1, .bu .len [.v 0]] [])]⟩
def x_is_world : DefX := ⟨d_is_world, ⟨("is_world", none), "is_world", "is_world", defArgs (top 30), defBody (top 30), defScope (top 30), [], []⟩, ["effects", "world"]⟩
def d_Question___init__ : FDef := ⟨.Question___init__, [.self, .effects, .weights], 3, [none, none, none], 4, false, [(3, [])], [.ifs (.not (.tst (.call .are_effects [.v 1] []))) [.rai .NoQuestion [.s "effects"]] [], .ifs (.not (.tst (.call .are_numbers [.v 2, .bu .len [.v 1]] []))) [.rai .NoQuestion [.s "weights"]] [], .sat (.v 0) .effects (.tof (.v 1)), .sat (.v 0) .weights (.tof (.lc false (.v 3) (.seq (.v 2)) none (.call .as_ratio [.v 3] [])))]⟩
def x_Question___init__ : DefX := ⟨d_Question___init__, ⟨("Question", some "__init__"), "__init__", "Question.__init__", defArgs (inClass (top 31) 0), defBody (inClass (top 31) 0), defScope (inClass (top 31) 0), [], []⟩, ["self", "effects", "weights", "number"]⟩
def d_Question_at : FDef := ⟨.Question_at, [.self, .world], 2, [none, none], 5, false, [], [.ifs (.not (.tst (.call .is_world [.att (.v 0) .effects, .v 1] []))) [.rai .NoWorld []] [], .asg (.v 2) (.call .Ratio [.i 0] []), .for_ (.t [3, 4]) (.zip (.att (.v 0) .weights) (.v 1)) [.asg (.v 2) (.bin .add (.v 2) (.bin .mul (.v 3) (.v 4)))], .ret (.v 2)]⟩
def x_Question_at : DefX := ⟨d_Question_at, ⟨("Question", some "at"), "at", "Question.at", defArgs (inClass (top 31) 1), defBody (inClass (top 31) 1), defScope (inClass (top 31) 1), [], []⟩, ["self", "world", "total", "weight", "number"]⟩
def d_Question_over : FDef := ⟨.Question_over, [.self, .number], 2, [none, none], 2, false, [], [.ex (.call ._wall [.i 1] [])]⟩
def x_Question_over : DefX := ⟨d_Question_over, ⟨("Question", some "over"), "over", "Question.over", defArgs (inClass (top 31) 2), defBody (inClass (top 31) 2), defScope (inClass (top 31) 2), [], []⟩, ["self", "number"]⟩
def d_Question___add__ : FDef := ⟨.Question___add__, [.self, .other], 2, [none, none], 4, false, [(2, [])], [.ifs (.cmp .ne (.att (.v 0) .effects) (.att (.v 1) .effects)) [.rai .OtherEffects []] [], .ret (.call .Question [.att (.v 0) .effects, .lc false (.t [2, 3]) (.zip (.att (.v 0) .weights) (.att (.v 1) .weights)) none (.bin .add (.v 2) (.v 3))] [])]⟩
def x_Question___add__ : DefX := ⟨d_Question___add__, ⟨("Question", some "__add__"), "__add__", "Question.__add__", defArgs (inClass (top 31) 3), defBody (inClass (top 31) 3), defScope (inClass (top 31) 3), [], []⟩, ["self", "other", "a", "b"]⟩
def d_Question___sub__ : FDef := ⟨.Question___sub__, [.self, .other], 2, [none, none], 4, false, [(2, [])], [.ifs (.cmp .ne (.att (.v 0) .effects) (.att (.v 1) .effects)) [.rai .OtherEffects []] [], .ret (.call .Question [.att (.v 0) .effects, .lc false (.t [2, 3]) (.zip (.att (.v 0) .weights) (.att (.v 1) .weights)) none (.bin .sub (.v 2) (.v 3))] [])]⟩
def x_Question___sub__ : DefX := ⟨d_Question___sub__, ⟨("Question", some "__sub__"), "__sub__", "Question.__sub__", defArgs (inClass (top 31) 4), defBody (inClass (top 31) 4), defScope (inClass (top 31) 4), [], []⟩, ["self", "other", "a", "b"]⟩
def d_Question___neg__ : FDef := ⟨.Question___neg__, [.self], 1, [none], 2, false, [(1, [])], [.ret (.call .Question [.att (.v 0) .effects, .lc false (.v 1) (.seq (.att (.v 0) .weights)) none (.neg (.v 1))] [])]⟩
def x_Question___neg__ : DefX := ⟨d_Question___neg__, ⟨("Question", some "__neg__"), "__neg__", "Question.__neg__", defArgs (inClass (top 31) 5), defBody (inClass (top 31) 5), defScope (inClass (top 31) 5), [], []⟩, ["self", "weight"]⟩
def d_Question___mul__ : FDef := ⟨.Question___mul__, [.self, .number], 2, [none, none], 3, false, [(2, [])], [.ret (.call .Question [.att (.v 0) .effects, .lc false (.v 2) (.seq (.att (.v 0) .weights)) none (.bin .mul (.v 2) (.v 1))] [])]⟩
def x_Question___mul__ : DefX := ⟨d_Question___mul__, ⟨("Question", some "__mul__"), "__mul__", "Question.__mul__", defArgs (inClass (top 31) 6), defBody (inClass (top 31) 6), defScope (inClass (top 31) 6), [], []⟩, ["self", "number", "weight"]⟩
def d_Question___rmul__ : FDef := ⟨.Question___rmul__, [.self, .number], 2, [none, none], 3, false, [(2, [])], [.ret (.call .Question [.att (.v 0) .effects, .lc false (.v 2) (.seq (.att (.v 0) .weights)) none (.bin .mul (.v 2) (.v 1))] [])]⟩
def x_Question___rmul__ : DefX := ⟨d_Question___rmul__, ⟨("Question", some "__rmul__"), "__rmul__", "Question.__rmul__", defArgs (inClass (top 31) 7), defBody (inClass (top 31) 7), defScope (inClass (top 31) 7), [], []⟩, ["self", "number", "weight"]⟩
def d_Question___eq__ : FDef := ⟨.Question___eq__, [.self, .other], 2, [none, none], 2, false, [(2, [])], [.ret (.and [.bu .isinst [.v 1, .g .Question], .cmp .eq (.att (.v 0) .effects) (.att (.v 1) .effects), .cmp .eq (.att (.v 0) .weights) (.att (.v 1) .weights)])]⟩
def x_Question___eq__ : DefX := ⟨d_Question___eq__, ⟨("Question", some "__eq__"), "__eq__", "Question.__eq__", defArgs (inClass (top 31) 8), defBody (inClass (top 31) 8), defScope (inClass (top 31) 8), [], []⟩, ["self", "other"]⟩
def d_Run___init__ : FDef := ⟨.Run___init__, [.self, .question, .slip], 3, [none, none, none], 3, false, [(3, [])], [.ifs (.not (.tst (.bu .isinst [.v 1, .g .Question]))) [.rai .NoRun [.s "question"]] [], .ifs (.or [.not (.tst (.call .is_number [.v 2] [])), .cmp .lt (.v 2) (.i 0)]) [.rai .NoRun [.s "slip"]] [], .sat (.v 0) .question (.v 1), .sat (.v 0) .slip (.call .as_ratio [.v 2] [])]⟩
def x_Run___init__ : DefX := ⟨d_Run___init__, ⟨("Run", some "__init__"), "__init__", "Run.__init__", defArgs (inClass (top 33) 0), defBody (inClass (top 33) 0), defScope (inClass (top 33) 0), [], []⟩, ["self", "question", "slip"]⟩
def d_Run_sees : FDef := ⟨.Run_sees, [.self, .world], 2, [none, none], 2, false, [], [.ex (.call ._wall [.i 2] [])]⟩
def x_Run_sees : DefX := ⟨d_Run_sees, ⟨("Run", some "sees"), "sees", "Run.sees", defArgs (inClass (top 33) 1), defBody (inClass (top 33) 1), defScope (inClass (top 33) 1), [], []⟩, ["self", "world"]⟩
def d_Run___eq__ : FDef := ⟨.Run___eq__, [.self, .other], 2, [none, none], 2, false, [(2, [])], [.ret (.and [.bu .isinst [.v 1, .g .Run], .cmp .eq (.att (.v 0) .question) (.att (.v 1) .question), .cmp .eq (.att (.v 0) .slip) (.att (.v 1) .slip)])]⟩
def x_Run___eq__ : DefX := ⟨d_Run___eq__, ⟨("Run", some "__eq__"), "__eq__", "Run.__eq__", defArgs (inClass (top 33) 2), defBody (inClass (top 33) 2), defScope (inClass (top 33) 2), [], []⟩, ["self", "other"]⟩
def d_Goal___init__ : FDef := ⟨.Goal___init__, [.self, .question, .error, .wild], 3, [none, none, none, some (.int 0)], 4, false, [(3, []), (3, [.wild])], [.ifs (.not (.tst (.bu .isinst [.v 1, .g .Question]))) [.rai .NoGoal [.s "question"]] [], .ifs (.or [.not (.tst (.call .is_number [.v 2] [])), .cmp .lt (.v 2) (.i 0)]) [.rai .NoGoal [.s "error"]] [], .ifs (.or [.not (.tst (.call .is_integer [.v 3] [])), .not (.chn .le .le (.i 0) (.v 3) (.i 1))]) [.rai .NoGoal [.s "wild"]] [], .sat (.v 0) .question (.v 1), .sat (.v 0) .error (.call .as_ratio [.v 2] []), .sat (.v 0) .wild (.v 3)]⟩
def x_Goal___init__ : DefX := ⟨d_Goal___init__, ⟨("Goal", some "__init__"), "__init__", "Goal.__init__", defArgs (inClass (top 35) 0), defBody (inClass (top 35) 0), defScope (inClass (top 35) 0), [], [("wild", .int 0)]⟩, ["self", "question", "error", "wild"]⟩
def d_Goal___eq__ : FDef := ⟨.Goal___eq__, [.self, .other], 2, [none, none], 2, false, [(2, [])], [.ifs (.not (.tst (.bu .isinst [.v 1, .g .Goal]))) [.ret (.b false)] [], .ret (.and [.cmp .eq (.att (.v 0) .question) (.att (.v 1) .question), .cmp .eq (.att (.v 0) .error) (.att (.v 1) .error), .cmp .eq (.att (.v 0) .wild) (.att (.v 1) .wild)])]⟩
def x_Goal___eq__ : DefX := ⟨d_Goal___eq__, ⟨("Goal", some "__eq__"), "__eq__", "Goal.__eq__", defArgs (inClass (top 35) 1), defBody (inClass (top 35) 1), defScope (inClass (top 35) 1), [], []⟩, ["self", "other"]⟩
def d__law_hand : FDef := ⟨._law_hand, [._law_script, ._law_at], 2, [none, none], 4, false, [(2, [])], [.asg (.v 2) (.i 7), .ifs (.cmp .lt (.v 1) (.bu .len [.v 0])) [.asg (.v 2) (.sub (.v 0) (.v 1))] [], .asg (.v 3) (.i 0), .ifs (.cmp .ge (.v 2) (.bin .pow (.i 10) (.i 18))) [.asg (.v 3) (.v 2)] [], .ret (.lst true [.v 3, .i 0, .bin .add (.bin .mod (.bu .int [.bin .add (.v 2) (.bin .mul (.i 104729) (.v 1))]) (.i 2147483629)) (.i 1)])]⟩
def x__law_hand : DefX := ⟨d__law_hand, ⟨("_law_hand", none), "_law_hand", "_law_hand", defArgs (top 37), defBody (top 37), defScope (top 37), [], []⟩, ["_law_script", "_law_at", "_law_cell", "_law_number_here"]⟩
def d__law_take : FDef := ⟨._law_take, [._law_hand_here, ._law_many], 2, [none, none], 4, false, [(2, [])], [.ifs (.cmp .gt (.sub (.v 0) (.i 0)) (.i 1)) [.asg (.v 2) (.bin .mod (.bu .int [.sub (.v 0) (.i 0)]) (.v 1)), .sit (.v 0) (.i 0) (.bin .fdiv (.sub (.v 0) (.i 0)) (.v 1)), .ret (.v 2)] [], .sit (.v 0) (.i 1) (.bin .add (.sub (.v 0) (.i 1)) (.i 1)), .asg (.v 3) (.bin .mod (.bu .int [.bin .mul (.bin .add (.sub (.v 0) (.i 2)) (.bin .mul (.i 7919) (.sub (.v 0) (.i 1)))) (.i 48271)]) (.i 2147483647)), .asg (.v 3) (.bin .mod (.bu .int [.bin .mul (.v 3) (.bin .add (.bin .fdiv (.v 3) (.i 1009)) (.i 69621))]) (.i 2147483647)), .asg (.v 3) (.bin .mod (.bu .int [.bin .mul (.v 3) (.bin .add (.bin .fdiv (.v 3) (.i 2003)) (.i 40692))]) (.i 2147483399)), .ret (.bin .mod (.bin .fdiv (.v 3) (.i 16)) (.v 1))]⟩
def x__law_take : DefX := ⟨d__law_take, ⟨("_law_take", none), "_law_take", "_law_take", defArgs (top 38), defBody (top 38), defScope (top 38), [], []⟩, ["_law_hand_here", "_law_many", "_law_digit", "_law_mixed"]⟩
def d__law_fraction : FDef := ⟨._law_fraction, [._law_hand_here], 1, [none], 2, false, [(1, [])], [.asg (.v 1) (.call ._law_take [.v 0, .i 8] []), .ifs (.cmp .lt (.v 1) (.i 4)) [.ret (.tup [.bin .sub (.call ._law_take [.v 0, .i 5] []) (.i 2), .i 1])] [], .ifs (.cmp .eq (.v 1) (.i 4)) [.ret (.tup [.bin .sub (.call ._law_take [.v 0, .i 61] []) (.i 30), .bin .add (.call ._law_take [.v 0, .i 6] []) (.i 1)])] [], .ifs (.cmp .eq (.v 1) (.i 5)) [.ret (.tup [.bin .sub (.call ._law_take [.v 0, .i 2000001] []) (.i 1000000), .i 1])] [], .ret (.tup [.bin .sub (.v 1) (.i 6), .i 1])]⟩
def x__law_fraction : DefX := ⟨d__law_fraction, ⟨("_law_fraction", none), "_law_fraction", "_law_fraction", defArgs (top 39), defBody (top 39), defScope (top 39), [], []⟩, ["_law_hand_here", "_law_kind"]⟩
def d__law_slip : FDef := ⟨._law_slip, [._law_hand_here], 1, [none], 2, false, [(1, [])], [.asg (.v 1) (.call ._law_take [.v 0, .i 6] []), .ifs (.cmp .lt (.v 1) (.i 3)) [.ret (.tup [.call ._law_take [.v 0, .i 4] [], .i 1])] [], .ifs (.cmp .eq (.v 1) (.i 3)) [.ret (.tup [.call ._law_take [.v 0, .i 31] [], .bin .add (.call ._law_take [.v 0, .i 6] []) (.i 1)])] [], .ifs (.cmp .eq (.v 1) (.i 4)) [.ret (.tup [.call ._law_take [.v 0, .i 1000001] [], .i 1])] [], .ret (.tup [.i 1, .i 1])]⟩
def x__law_slip : DefX := ⟨d__law_slip, ⟨("_law_slip", none), "_law_slip", "_law_slip", defArgs (top 40), defBody (top 40), defScope (top 40), [], []⟩, ["_law_hand_here", "_law_kind"]⟩
def d__law_names : FDef := ⟨._law_names, [._law_hand_here, ._law_many], 2, [none, none], 9, true, [(2, [])], [.asg (.v 2) (.s "abcdefghijklmnopqrstuvwxyz"), .asg (.v 3) (.lst true []), .for_ (.v 4) (.range [.v 1]) [.asg (.v 5) (.sub (.v 2) (.call ._law_take [.v 0, .i 26] [])), .for_ (.v 6) (.range [.call ._law_take [.v 0, .i 3] []]) [.asg (.v 5) (.bin .add (.v 5) (.sub (.bin .add (.v 2) (.s "0123456789")) (.call ._law_take [.v 0, .i 36] [])))], .ifs (.cmp .inn (.v 5) (.v 3)) [.asg (.v 7) (.lc false (.v 8) (.seq (.s "0123456789")) (some (.cmp .nin (.bin .add (.v 5) (.v 8)) (.v 3))) (.bin .add (.v 5) (.v 8))), .asg (.v 5) (.sub (.v 7) (.i 0))] [], .ex (.met (.v 3) .append [.v 5] [])], .ret (.v 3)]⟩
def x__law_names : DefX := ⟨d__law_names, ⟨("_law_names", none), "_law_names", "_law_names", defArgs (top 41), defBody (top 41), defScope (top 41), [], []⟩, ["_law_hand_here", "_law_many", "_law_letters", "_law_names_here", "_law_k", "_law_name", "_law_turn", "_law_free", "_law_tail"]⟩
def d__law_number : FDef := ⟨._law_number, [._law_pair], 1, [none], 1, false, [(1, [])], [.ifs (.and [.cmp .eq (.sub (.v 0) (.i 1)) (.i 1), .cmp .eq (.bin .mod (.bu .int [.sub (.v 0) (.i 0)]) (.i 2)) (.i 0)]) [.ret (.sub (.v 0) (.i 0))] [], .ret (.call .Ratio [.sub (.v 0) (.i 0), .sub (.v 0) (.i 1)] [])]⟩
def x__law_number : DefX := ⟨d__law_number, ⟨("_law_number", none), "_law_number", "_law_number", defArgs (top 42), defBody (top 42), defScope (top 42), [], []⟩, ["_law_pair"]⟩
def d__law_question : FDef := ⟨._law_question, [._law_effects, ._law_weights], 2, [none, none], 3, false, [(2, [])], [.ret (.call .Question [.tof (.v 0), .lc false (.v 2) (.seq (.v 1)) none (.call ._law_number [.v 2] [])] [])]⟩
def x__law_question : DefX := ⟨d__law_question, ⟨("_law_question", none), "_law_question", "_law_question", defArgs (top 43), defBody (top 43), defScope (top 43), [], []⟩, ["_law_effects", "_law_weights", "_law_pair"]⟩
def d__law_made : FDef := ⟨._law_made, [._law_question_here, ._law_error, ._law_rogue], 3, [none, none, none], 6, false, [(3, [])], [.asg (.v 3) .n, .asg (.v 4) .n, .trym [.ifs (.cmp .eq (.v 2) (.s "left out")) [.asg (.v 4) (.call .Goal [.v 0, .v 1] [])] [.asg (.v 4) (.call .Goal [.v 0, .v 1] [(.wild, .v 2)])]] [(.NoGoal, some 5, [.asg 3 (.x (.xf .word)), .ifa [.is true .MethodError, .is false .NoGoals, .is false .NoWild, .is false .NoRun] 3 (.x (.s "mixed"))])], .ret (.tup [.v 3, .v 4])]⟩
def x__law_made : DefX := ⟨d__law_made, ⟨("_law_made", none), "_law_made", "_law_made", defArgs (top 44), defBody (top 44), defScope (top 44), [], []⟩, ["_law_question_here", "_law_error", "_law_rogue", "_law_refused", "_law_made_here", "e"]⟩
def d_law : FDef := ⟨.law, [._law_script], 1, [none], 18, true, [(1, [])], [.asg (.v 1) (.call ._law_hand [.v 0, .i 0] []), .asg (.v 2) (.lc false (.v 3) (.range [.i 3]) none (.call ._law_take [.v 1, .i 4] [])), .asg (.v 4) (.call ._law_names [.v 1, .bin .add (.i 1) (.call ._law_take [.v 1, .i 4] [])] []), .asg (.v 5) (.lc false (.v 6) (.seq (.v 4)) none (.call ._law_fraction [.v 1] [])), .asg (.v 7) (.call ._law_question [.v 4, .v 5] []), .asg (.v 8) (.call ._law_slip [.v 1] []), .asg (.v 9) (.call ._law_number [.v 8] []), .asg (.v 10) (.sub (.lst false [.i 0, .i 1, .s "left out"]) (.call ._law_take [.v 1, .i 3] [])), .asg (.v 11) .n, .asg (.v 12) (.lst true [.v 7, .v 9, .v 10]), .ifs (.cmp .eq (.sub (.v 2) (.i 2)) (.i 0)) [.asg (.v 11) (.s "wild"), .sit (.v 12) (.i 2) (.sub (.lst false [.i 2, .neg (.i 1), .b true, .b false, .n, .s "0", .call .Ratio [.i 1] []]) (.call ._law_take [.v 1, .i 7] []))] [], .ifs (.cmp .eq (.sub (.v 2) (.i 1)) (.i 0)) [.asg (.v 11) (.s "error"), .sit (.v 12) (.i 1) (.sub (.lst false [.neg (.i 1), .call .Ratio [.neg (.i 1), .i 7] [], .n, .b true, .s "1", .lst false [.i 1]]) (.call ._law_take [.v 1, .i 6] []))] [], .ifs (.cmp .eq (.sub (.v 2) (.i 0)) (.i 0)) [.asg (.v 11) (.s "question"), .sit (.v 12) (.i 0) (.sub (.lst false [.n, .i 3, .call .Run [.v 7, .i 1] [], .v 5, .s "a"]) (.call ._law_take [.v 1, .i 5] []))] [], .ifs (.cmp .ne (.sub (.call ._law_made [.sub (.v 12) (.i 0), .sub (.v 12) (.i 1), .sub (.v 12) (.i 2)] []) (.i 0)) (.v 11)) [.ret (.b false)] [], .asg (.t [13, 14]) (.call ._law_made [.v 7, .v 9, .v 10] []), .ifs (.or [.cmp .isnt (.v 13) .n, .not (.tst (.bu .isinst [.v 14, .g .Goal]))]) [.ret (.b false)] [], .ifs (.or [.cmp .ne (.att (.v 14) .question) (.v 7), .not (.tst (.bu .isinst [.att (.v 14) .error, .g .Ratio])), .cmp .ne (.att (.v 14) .error) (.call .Ratio [.sub (.v 8) (.i 0), .sub (.v 8) (.i 1)] [])]) [.ret (.b false)] [], .ifs (.or [.tst (.bu .isinst [.att (.v 14) .wild, .ty "bool"]), .cmp .ne (.att (.v 14) .wild) (.bu .int [.cmp .eq (.v 10) (.i 1)])]) [.ret (.b false)] [], .ifs (.cmp .ne (.v 14) (.sub (.call ._law_made [.call ._law_question [.v 4, .v 5] [], .call .Ratio [.sub (.v 8) (.i 0), .sub (.v 8) (.i 1)] [], .bu .int [.cmp .eq (.v 10) (.i 1)]] []) (.i 1))) [.ret (.b false)] [], .asg (.v 15) (.lst false [.call .Goal [.bin .add (.v 7) (.v 7), .v 9] [], .call .Goal [.v 7, .bin .add (.v 9) (.i 1)] [], .call .Goal [.v 7, .v 9] [(.wild, .bin .sub (.i 1) (.att (.v 14) .wild))]]), .ifs (.or [.cmp .eq (.v 5) (.lc false (.v 6) (.seq (.v 4)) none (.tup [.i 0, .i 1])), .tst (.bu .all [.lc false (.v 16) (.seq (.v 5)) none (.cmp .eq (.sub (.v 16) (.i 0)) (.i 0))])]) [.asg (.v 15) (.slc (.v 15) (some (.i 1)) none)] [], .ret (.bu .all [.lc false (.v 17) (.seq (.bin .add (.v 15) (.lst false [.v 7, .att (.v 14) .error, .i 5, .n]))) none (.cmp .ne (.v 14) (.v 17))])]⟩
def x_law : DefX := ⟨d_law, ⟨("law", none), "law", "law", defArgs (top 45), defBody (top 45), defScope (top 45), [], []⟩, ["_law_script", "_law_hand_here", "_law_faults", "_law_turn", "_law_effects", "_law_weights", "_law_name", "_law_question_here", "_law_slip_here", "_law_error", "_law_rogue", "_law_due", "_law_parts", "_law_refused", "_law_made_here", "_law_others", "_law_pair", "_law_other"]⟩
def whL : List (Nm × He.Defn) := [W1 ._wall "_wall",
  W1 .is_integer "is_integer",
  W1 .is_sequence "is_sequence",
  W1 .is_name "is_name",
  W2 .MethodError_told "MethodError" "told",
  W2 .NoRatio___init__ "NoRatio" "__init__",
  W2 .NoRatio_told "NoRatio" "told",
  W2 .NoQuestion___init__ "NoQuestion" "__init__",
  W2 .NoQuestion_told "NoQuestion" "told",
  W2 .OtherEffects_told "OtherEffects" "told",
  W2 .NoWorld_told "NoWorld" "told",
  W2 .NoRun___init__ "NoRun" "__init__",
  W2 .NoRun_told "NoRun" "told",
  W2 .NoWild_told "NoWild" "told",
  W2 .NoGoal___init__ "NoGoal" "__init__",
  W2 .NoGoal_told "NoGoal" "told",
  W2 .NoGoals___init__ "NoGoals" "__init__",
  W2 .NoGoals_told "NoGoals" "told",
  W1 .common_divisor "common_divisor",
  W2 .Ratio___init__ "Ratio" "__init__",
  W2 .Ratio___add__ "Ratio" "__add__",
  W2 .Ratio___radd__ "Ratio" "__radd__",
  W2 .Ratio___sub__ "Ratio" "__sub__",
  W2 .Ratio___rsub__ "Ratio" "__rsub__",
  W2 .Ratio___mul__ "Ratio" "__mul__",
  W2 .Ratio___rmul__ "Ratio" "__rmul__",
  W2 .Ratio___neg__ "Ratio" "__neg__",
  W2 .Ratio___pos__ "Ratio" "__pos__",
  W2 .Ratio___abs__ "Ratio" "__abs__",
  W2 .Ratio___floordiv__ "Ratio" "__floordiv__",
  W2 .Ratio___rfloordiv__ "Ratio" "__rfloordiv__",
  W2 .Ratio___mod__ "Ratio" "__mod__",
  W2 .Ratio___rmod__ "Ratio" "__rmod__",
  W2 .Ratio___pow__ "Ratio" "__pow__",
  W2 .Ratio___eq__ "Ratio" "__eq__",
  W2 .Ratio___lt__ "Ratio" "__lt__",
  W2 .Ratio___le__ "Ratio" "__le__",
  W2 .Ratio___gt__ "Ratio" "__gt__",
  W2 .Ratio___ge__ "Ratio" "__ge__",
  W2 .Ratio_over "Ratio" "over",
  W2 .Ratio_power "Ratio" "power",
  W2 .Ratio_text "Ratio" "text",
  W1 .is_digits "is_digits",
  W1 .is_number "is_number",
  W1 .as_ratio "as_ratio",
  W1 .are_effects "are_effects",
  W1 .are_numbers "are_numbers",
  W1 .is_world "is_world",
  W2 .Question___init__ "Question" "__init__",
  W2 .Question_at "Question" "at",
  W2 .Question_over "Question" "over",
  W2 .Question___add__ "Question" "__add__",
  W2 .Question___sub__ "Question" "__sub__",
  W2 .Question___neg__ "Question" "__neg__",
  W2 .Question___mul__ "Question" "__mul__",
  W2 .Question___rmul__ "Question" "__rmul__",
  W2 .Question___eq__ "Question" "__eq__",
  W2 .Run___init__ "Run" "__init__",
  W2 .Run_sees "Run" "sees",
  W2 .Run___eq__ "Run" "__eq__",
  W2 .Goal___init__ "Goal" "__init__",
  W2 .Goal___eq__ "Goal" "__eq__",
  W1 ._law_hand "_law_hand",
  W1 ._law_take "_law_take",
  W1 ._law_fraction "_law_fraction",
  W1 ._law_slip "_law_slip",
  W1 ._law_names "_law_names",
  W1 ._law_number "_law_number",
  W1 ._law_question "_law_question",
  W1 ._law_made "_law_made",
  W1 .law "law",
  W1 .MethodError "MethodError",
  W1 .NoRatio "NoRatio",
  W1 .NoQuestion "NoQuestion",
  W1 .OtherEffects "OtherEffects",
  W1 .NoWorld "NoWorld",
  W1 .NoRun "NoRun",
  W1 .NoWild "NoWild",
  W1 .NoGoal "NoGoal",
  W1 .NoGoals "NoGoals",
  W1 .Ratio "Ratio",
  W1 .Question "Question",
  W1 .Run "Run",
  W1 .Goal "Goal"]
def csL : List (Nm × CDef) := [C1 .MethodError (⟨.MethodError, [(.told, .MethodError_told)], [], none, false, [], some [], []⟩),
  C1 .NoRatio (⟨.NoRatio, [(.told, .NoRatio_told)], [], some .NoRatio___init__, false, [.word], some [.word], [.MethodError]⟩),
  C1 .NoQuestion (⟨.NoQuestion, [(.told, .NoQuestion_told)], [], some .NoQuestion___init__, false, [.word], some [.word], [.MethodError]⟩),
  C1 .OtherEffects (⟨.OtherEffects, [(.told, .OtherEffects_told)], [], none, false, [], some [], [.MethodError]⟩),
  C1 .NoWorld (⟨.NoWorld, [(.told, .NoWorld_told)], [], none, false, [], some [], [.MethodError]⟩),
  C1 .NoRun (⟨.NoRun, [(.told, .NoRun_told)], [], some .NoRun___init__, false, [.word], some [.word], [.MethodError]⟩),
  C1 .NoWild (⟨.NoWild, [(.told, .NoWild_told)], [], none, false, [], some [], [.MethodError]⟩),
  C1 .NoGoal (⟨.NoGoal, [(.told, .NoGoal_told)], [], some .NoGoal___init__, false, [.word], some [.word], [.MethodError]⟩),
  C1 .NoGoals (⟨.NoGoals, [(.told, .NoGoals_told)], [], some .NoGoals___init__, false, [.place], some [.place], [.MethodError]⟩),
  C1 .Ratio (⟨.Ratio, [(.__add__, .Ratio___add__), (.__radd__, .Ratio___radd__), (.__sub__, .Ratio___sub__), (.__rsub__, .Ratio___rsub__), (.__mul__, .Ratio___mul__), (.__rmul__, .Ratio___rmul__), (.__neg__, .Ratio___neg__), (.__pos__, .Ratio___pos__), (.__abs__, .Ratio___abs__), (.__floordiv__, .Ratio___floordiv__), (.__rfloordiv__, .Ratio___rfloordiv__), (.__mod__, .Ratio___mod__), (.__rmod__, .Ratio___rmod__), (.__pow__, .Ratio___pow__), (.__eq__, .Ratio___eq__), (.__lt__, .Ratio___lt__), (.__le__, .Ratio___le__), (.__gt__, .Ratio___gt__), (.__ge__, .Ratio___ge__), (.over, .Ratio_over), (.power, .Ratio_power), (.text, .Ratio_text)], [], some .Ratio___init__, true, [.top, .bottom], none, []⟩),
  C1 .Question (⟨.Question, [(.«at», .Question_at), (.over, .Question_over), (.__add__, .Question___add__), (.__sub__, .Question___sub__), (.__neg__, .Question___neg__), (.__mul__, .Question___mul__), (.__rmul__, .Question___rmul__), (.__eq__, .Question___eq__)], [], some .Question___init__, true, [.effects, .weights], none, []⟩),
  C1 .Run (⟨.Run, [(.sees, .Run_sees), (.__eq__, .Run___eq__)], [], some .Run___init__, true, [.question, .slip], none, []⟩),
  C1 .Goal (⟨.Goal, [(.__eq__, .Goal___eq__)], [], some .Goal___init__, true, [.question, .error, .wild], none, []⟩)]
def gsL : List (Nm × PV) := [G1 .MethodError (.cls .MethodError),
  G1 .NoRatio (.cls .NoRatio),
  G1 .NoQuestion (.cls .NoQuestion),
  G1 .OtherEffects (.cls .OtherEffects),
  G1 .NoWorld (.cls .NoWorld),
  G1 .NoRun (.cls .NoRun),
  G1 .NoWild (.cls .NoWild),
  G1 .NoGoal (.cls .NoGoal),
  G1 .NoGoals (.cls .NoGoals),
  G1 .Ratio (.cls .Ratio),
  G1 .Question (.cls .Question),
  G1 .Run (.cls .Run),
  G1 .Goal (.cls .Goal),
  G1 .LETTERS (.str "abcdefghijklmnopqrstuvwxyz"),
  G1 .DIGITS (.str "0123456789"),
  G1 .LONGEST (.int 8),
  G1 .GREATEST_POWER (.int 20),
  G1 .MOST_DIGITS (.int 60),
  G1 .MOST_EFFECTS (.int 4)]
def dsL : List DefX := [x__wall, x_is_integer, x_is_sequence, x_is_name, x_MethodError_told, x_NoRatio___init__, x_NoRatio_told, x_NoQuestion___init__, x_NoQuestion_told, x_OtherEffects_told, x_NoWorld_told, x_NoRun___init__, x_NoRun_told, x_NoWild_told, x_NoGoal___init__, x_NoGoal_told, x_NoGoals___init__, x_NoGoals_told, x_common_divisor, x_Ratio___init__, x_Ratio___add__, x_Ratio___radd__, x_Ratio___sub__, x_Ratio___rsub__, x_Ratio___mul__, x_Ratio___rmul__, x_Ratio___neg__, x_Ratio___pos__, x_Ratio___abs__, x_Ratio___floordiv__, x_Ratio___rfloordiv__, x_Ratio___mod__, x_Ratio___rmod__, x_Ratio___pow__, x_Ratio___eq__, x_Ratio___lt__, x_Ratio___le__, x_Ratio___gt__, x_Ratio___ge__, x_Ratio_over, x_Ratio_power, x_Ratio_text, x_is_digits, x_is_number, x_as_ratio, x_are_effects, x_are_numbers, x_is_world, x_Question___init__, x_Question_at, x_Question_over, x_Question___add__, x_Question___sub__, x_Question___neg__, x_Question___mul__, x_Question___rmul__, x_Question___eq__, x_Run___init__, x_Run_sees, x_Run___eq__, x_Goal___init__, x_Goal___eq__, x__law_hand, x__law_take, x__law_fraction, x__law_slip, x__law_names, x__law_number, x__law_question, x__law_made, x_law]
def LL : LD := ⟨st, whL, csL, gsL, dsL⟩
def PP : Prog := LL.P
@[simp] theorem fn__wall : PP.fn ._wall = some d__wall := by kernel_rfl
@[simp] theorem fn_is_integer : PP.fn .is_integer = some d_is_integer := by kernel_rfl
@[simp] theorem fn_is_sequence : PP.fn .is_sequence = some d_is_sequence := by kernel_rfl
@[simp] theorem fn_is_name : PP.fn .is_name = some d_is_name := by kernel_rfl
@[simp] theorem fn_MethodError_told : PP.fn .MethodError_told = some d_MethodError_told := by kernel_rfl
@[simp] theorem fn_NoRatio___init__ : PP.fn .NoRatio___init__ = some d_NoRatio___init__ := by kernel_rfl
@[simp] theorem fn_NoRatio_told : PP.fn .NoRatio_told = some d_NoRatio_told := by kernel_rfl
@[simp] theorem fn_NoQuestion___init__ : PP.fn .NoQuestion___init__ = some d_NoQuestion___init__ := by kernel_rfl
@[simp] theorem fn_NoQuestion_told : PP.fn .NoQuestion_told = some d_NoQuestion_told := by kernel_rfl
@[simp] theorem fn_OtherEffects_told : PP.fn .OtherEffects_told = some d_OtherEffects_told := by kernel_rfl
@[simp] theorem fn_NoWorld_told : PP.fn .NoWorld_told = some d_NoWorld_told := by kernel_rfl
@[simp] theorem fn_NoRun___init__ : PP.fn .NoRun___init__ = some d_NoRun___init__ := by kernel_rfl
@[simp] theorem fn_NoRun_told : PP.fn .NoRun_told = some d_NoRun_told := by kernel_rfl
@[simp] theorem fn_NoWild_told : PP.fn .NoWild_told = some d_NoWild_told := by kernel_rfl
@[simp] theorem fn_NoGoal___init__ : PP.fn .NoGoal___init__ = some d_NoGoal___init__ := by kernel_rfl
@[simp] theorem fn_NoGoal_told : PP.fn .NoGoal_told = some d_NoGoal_told := by kernel_rfl
@[simp] theorem fn_NoGoals___init__ : PP.fn .NoGoals___init__ = some d_NoGoals___init__ := by kernel_rfl
@[simp] theorem fn_NoGoals_told : PP.fn .NoGoals_told = some d_NoGoals_told := by kernel_rfl
@[simp] theorem fn_common_divisor : PP.fn .common_divisor = some d_common_divisor := by kernel_rfl
@[simp] theorem fn_Ratio___init__ : PP.fn .Ratio___init__ = some d_Ratio___init__ := by kernel_rfl
@[simp] theorem fn_Ratio___add__ : PP.fn .Ratio___add__ = some d_Ratio___add__ := by kernel_rfl
@[simp] theorem fn_Ratio___radd__ : PP.fn .Ratio___radd__ = some d_Ratio___radd__ := by kernel_rfl
@[simp] theorem fn_Ratio___sub__ : PP.fn .Ratio___sub__ = some d_Ratio___sub__ := by kernel_rfl
@[simp] theorem fn_Ratio___rsub__ : PP.fn .Ratio___rsub__ = some d_Ratio___rsub__ := by kernel_rfl
@[simp] theorem fn_Ratio___mul__ : PP.fn .Ratio___mul__ = some d_Ratio___mul__ := by kernel_rfl
@[simp] theorem fn_Ratio___rmul__ : PP.fn .Ratio___rmul__ = some d_Ratio___rmul__ := by kernel_rfl
@[simp] theorem fn_Ratio___neg__ : PP.fn .Ratio___neg__ = some d_Ratio___neg__ := by kernel_rfl
@[simp] theorem fn_Ratio___pos__ : PP.fn .Ratio___pos__ = some d_Ratio___pos__ := by kernel_rfl
@[simp] theorem fn_Ratio___abs__ : PP.fn .Ratio___abs__ = some d_Ratio___abs__ := by kernel_rfl
@[simp] theorem fn_Ratio___floordiv__ : PP.fn .Ratio___floordiv__ = some d_Ratio___floordiv__ := by kernel_rfl
@[simp] theorem fn_Ratio___rfloordiv__ : PP.fn .Ratio___rfloordiv__ = some d_Ratio___rfloordiv__ := by kernel_rfl
@[simp] theorem fn_Ratio___mod__ : PP.fn .Ratio___mod__ = some d_Ratio___mod__ := by kernel_rfl
@[simp] theorem fn_Ratio___rmod__ : PP.fn .Ratio___rmod__ = some d_Ratio___rmod__ := by kernel_rfl
@[simp] theorem fn_Ratio___pow__ : PP.fn .Ratio___pow__ = some d_Ratio___pow__ := by kernel_rfl
@[simp] theorem fn_Ratio___eq__ : PP.fn .Ratio___eq__ = some d_Ratio___eq__ := by kernel_rfl
@[simp] theorem fn_Ratio___lt__ : PP.fn .Ratio___lt__ = some d_Ratio___lt__ := by kernel_rfl
@[simp] theorem fn_Ratio___le__ : PP.fn .Ratio___le__ = some d_Ratio___le__ := by kernel_rfl
@[simp] theorem fn_Ratio___gt__ : PP.fn .Ratio___gt__ = some d_Ratio___gt__ := by kernel_rfl
@[simp] theorem fn_Ratio___ge__ : PP.fn .Ratio___ge__ = some d_Ratio___ge__ := by kernel_rfl
@[simp] theorem fn_Ratio_over : PP.fn .Ratio_over = some d_Ratio_over := by kernel_rfl
@[simp] theorem fn_Ratio_power : PP.fn .Ratio_power = some d_Ratio_power := by kernel_rfl
@[simp] theorem fn_Ratio_text : PP.fn .Ratio_text = some d_Ratio_text := by kernel_rfl
@[simp] theorem fn_is_digits : PP.fn .is_digits = some d_is_digits := by kernel_rfl
@[simp] theorem fn_is_number : PP.fn .is_number = some d_is_number := by kernel_rfl
@[simp] theorem fn_as_ratio : PP.fn .as_ratio = some d_as_ratio := by kernel_rfl
@[simp] theorem fn_are_effects : PP.fn .are_effects = some d_are_effects := by kernel_rfl
@[simp] theorem fn_are_numbers : PP.fn .are_numbers = some d_are_numbers := by kernel_rfl
@[simp] theorem fn_is_world : PP.fn .is_world = some d_is_world := by kernel_rfl
@[simp] theorem fn_Question___init__ : PP.fn .Question___init__ = some d_Question___init__ := by kernel_rfl
@[simp] theorem fn_Question_at : PP.fn .Question_at = some d_Question_at := by kernel_rfl
@[simp] theorem fn_Question_over : PP.fn .Question_over = some d_Question_over := by kernel_rfl
@[simp] theorem fn_Question___add__ : PP.fn .Question___add__ = some d_Question___add__ := by kernel_rfl
@[simp] theorem fn_Question___sub__ : PP.fn .Question___sub__ = some d_Question___sub__ := by kernel_rfl
@[simp] theorem fn_Question___neg__ : PP.fn .Question___neg__ = some d_Question___neg__ := by kernel_rfl
@[simp] theorem fn_Question___mul__ : PP.fn .Question___mul__ = some d_Question___mul__ := by kernel_rfl
@[simp] theorem fn_Question___rmul__ : PP.fn .Question___rmul__ = some d_Question___rmul__ := by kernel_rfl
@[simp] theorem fn_Question___eq__ : PP.fn .Question___eq__ = some d_Question___eq__ := by kernel_rfl
@[simp] theorem fn_Run___init__ : PP.fn .Run___init__ = some d_Run___init__ := by kernel_rfl
@[simp] theorem fn_Run_sees : PP.fn .Run_sees = some d_Run_sees := by kernel_rfl
@[simp] theorem fn_Run___eq__ : PP.fn .Run___eq__ = some d_Run___eq__ := by kernel_rfl
@[simp] theorem fn_Goal___init__ : PP.fn .Goal___init__ = some d_Goal___init__ := by kernel_rfl
@[simp] theorem fn_Goal___eq__ : PP.fn .Goal___eq__ = some d_Goal___eq__ := by kernel_rfl
@[simp] theorem fn__law_hand : PP.fn ._law_hand = some d__law_hand := by kernel_rfl
@[simp] theorem fn__law_take : PP.fn ._law_take = some d__law_take := by kernel_rfl
@[simp] theorem fn__law_fraction : PP.fn ._law_fraction = some d__law_fraction := by kernel_rfl
@[simp] theorem fn__law_slip : PP.fn ._law_slip = some d__law_slip := by kernel_rfl
@[simp] theorem fn__law_names : PP.fn ._law_names = some d__law_names := by kernel_rfl
@[simp] theorem fn__law_number : PP.fn ._law_number = some d__law_number := by kernel_rfl
@[simp] theorem fn__law_question : PP.fn ._law_question = some d__law_question := by kernel_rfl
@[simp] theorem fn__law_made : PP.fn ._law_made = some d__law_made := by kernel_rfl
@[simp] theorem fn_law : PP.fn .law = some d_law := by kernel_rfl
def c_MethodError : CDef := ⟨.MethodError, [(.told, .MethodError_told)], [], none, false, [], some [], []⟩
@[simp] theorem cls_MethodError : PP.cls .MethodError = some c_MethodError := by kernel_rfl
@[simp] theorem ncl_MethodError : PP.fn .MethodError = none := by kernel_rfl
def c_NoRatio : CDef := ⟨.NoRatio, [(.told, .NoRatio_told)], [], some .NoRatio___init__, false, [.word], some [.word], [.MethodError]⟩
@[simp] theorem cls_NoRatio : PP.cls .NoRatio = some c_NoRatio := by kernel_rfl
@[simp] theorem ncl_NoRatio : PP.fn .NoRatio = none := by kernel_rfl
def c_NoQuestion : CDef := ⟨.NoQuestion, [(.told, .NoQuestion_told)], [], some .NoQuestion___init__, false, [.word], some [.word], [.MethodError]⟩
@[simp] theorem cls_NoQuestion : PP.cls .NoQuestion = some c_NoQuestion := by kernel_rfl
@[simp] theorem ncl_NoQuestion : PP.fn .NoQuestion = none := by kernel_rfl
def c_OtherEffects : CDef := ⟨.OtherEffects, [(.told, .OtherEffects_told)], [], none, false, [], some [], [.MethodError]⟩
@[simp] theorem cls_OtherEffects : PP.cls .OtherEffects = some c_OtherEffects := by kernel_rfl
@[simp] theorem ncl_OtherEffects : PP.fn .OtherEffects = none := by kernel_rfl
def c_NoWorld : CDef := ⟨.NoWorld, [(.told, .NoWorld_told)], [], none, false, [], some [], [.MethodError]⟩
@[simp] theorem cls_NoWorld : PP.cls .NoWorld = some c_NoWorld := by kernel_rfl
@[simp] theorem ncl_NoWorld : PP.fn .NoWorld = none := by kernel_rfl
def c_NoRun : CDef := ⟨.NoRun, [(.told, .NoRun_told)], [], some .NoRun___init__, false, [.word], some [.word], [.MethodError]⟩
@[simp] theorem cls_NoRun : PP.cls .NoRun = some c_NoRun := by kernel_rfl
@[simp] theorem ncl_NoRun : PP.fn .NoRun = none := by kernel_rfl
def c_NoWild : CDef := ⟨.NoWild, [(.told, .NoWild_told)], [], none, false, [], some [], [.MethodError]⟩
@[simp] theorem cls_NoWild : PP.cls .NoWild = some c_NoWild := by kernel_rfl
@[simp] theorem ncl_NoWild : PP.fn .NoWild = none := by kernel_rfl
def c_NoGoal : CDef := ⟨.NoGoal, [(.told, .NoGoal_told)], [], some .NoGoal___init__, false, [.word], some [.word], [.MethodError]⟩
@[simp] theorem cls_NoGoal : PP.cls .NoGoal = some c_NoGoal := by kernel_rfl
@[simp] theorem ncl_NoGoal : PP.fn .NoGoal = none := by kernel_rfl
def c_NoGoals : CDef := ⟨.NoGoals, [(.told, .NoGoals_told)], [], some .NoGoals___init__, false, [.place], some [.place], [.MethodError]⟩
@[simp] theorem cls_NoGoals : PP.cls .NoGoals = some c_NoGoals := by kernel_rfl
@[simp] theorem ncl_NoGoals : PP.fn .NoGoals = none := by kernel_rfl
def c_Ratio : CDef := ⟨.Ratio, [(.__add__, .Ratio___add__), (.__radd__, .Ratio___radd__), (.__sub__, .Ratio___sub__), (.__rsub__, .Ratio___rsub__), (.__mul__, .Ratio___mul__), (.__rmul__, .Ratio___rmul__), (.__neg__, .Ratio___neg__), (.__pos__, .Ratio___pos__), (.__abs__, .Ratio___abs__), (.__floordiv__, .Ratio___floordiv__), (.__rfloordiv__, .Ratio___rfloordiv__), (.__mod__, .Ratio___mod__), (.__rmod__, .Ratio___rmod__), (.__pow__, .Ratio___pow__), (.__eq__, .Ratio___eq__), (.__lt__, .Ratio___lt__), (.__le__, .Ratio___le__), (.__gt__, .Ratio___gt__), (.__ge__, .Ratio___ge__), (.over, .Ratio_over), (.power, .Ratio_power), (.text, .Ratio_text)], [], some .Ratio___init__, true, [.top, .bottom], none, []⟩
@[simp] theorem cls_Ratio : PP.cls .Ratio = some c_Ratio := by kernel_rfl
@[simp] theorem ncl_Ratio : PP.fn .Ratio = none := by kernel_rfl
def c_Question : CDef := ⟨.Question, [(.«at», .Question_at), (.over, .Question_over), (.__add__, .Question___add__), (.__sub__, .Question___sub__), (.__neg__, .Question___neg__), (.__mul__, .Question___mul__), (.__rmul__, .Question___rmul__), (.__eq__, .Question___eq__)], [], some .Question___init__, true, [.effects, .weights], none, []⟩
@[simp] theorem cls_Question : PP.cls .Question = some c_Question := by kernel_rfl
@[simp] theorem ncl_Question : PP.fn .Question = none := by kernel_rfl
def c_Run : CDef := ⟨.Run, [(.sees, .Run_sees), (.__eq__, .Run___eq__)], [], some .Run___init__, true, [.question, .slip], none, []⟩
@[simp] theorem cls_Run : PP.cls .Run = some c_Run := by kernel_rfl
@[simp] theorem ncl_Run : PP.fn .Run = none := by kernel_rfl
def c_Goal : CDef := ⟨.Goal, [(.__eq__, .Goal___eq__)], [], some .Goal___init__, true, [.question, .error, .wild], none, []⟩
@[simp] theorem cls_Goal : PP.cls .Goal = some c_Goal := by kernel_rfl
@[simp] theorem ncl_Goal : PP.fn .Goal = none := by kernel_rfl
@[simp] theorem gl_MethodError : PP.glob .MethodError = some (.cls .MethodError) := by kernel_rfl
@[simp] theorem gl_NoRatio : PP.glob .NoRatio = some (.cls .NoRatio) := by kernel_rfl
@[simp] theorem gl_NoQuestion : PP.glob .NoQuestion = some (.cls .NoQuestion) := by kernel_rfl
@[simp] theorem gl_OtherEffects : PP.glob .OtherEffects = some (.cls .OtherEffects) := by kernel_rfl
@[simp] theorem gl_NoWorld : PP.glob .NoWorld = some (.cls .NoWorld) := by kernel_rfl
@[simp] theorem gl_NoRun : PP.glob .NoRun = some (.cls .NoRun) := by kernel_rfl
@[simp] theorem gl_NoWild : PP.glob .NoWild = some (.cls .NoWild) := by kernel_rfl
@[simp] theorem gl_NoGoal : PP.glob .NoGoal = some (.cls .NoGoal) := by kernel_rfl
@[simp] theorem gl_NoGoals : PP.glob .NoGoals = some (.cls .NoGoals) := by kernel_rfl
@[simp] theorem gl_Ratio : PP.glob .Ratio = some (.cls .Ratio) := by kernel_rfl
@[simp] theorem gl_Question : PP.glob .Question = some (.cls .Question) := by kernel_rfl
@[simp] theorem gl_Run : PP.glob .Run = some (.cls .Run) := by kernel_rfl
@[simp] theorem gl_Goal : PP.glob .Goal = some (.cls .Goal) := by kernel_rfl
@[simp] theorem gl_LETTERS : PP.glob .LETTERS = some (.str "abcdefghijklmnopqrstuvwxyz") := by kernel_rfl
@[simp] theorem gl_DIGITS : PP.glob .DIGITS = some (.str "0123456789") := by kernel_rfl
@[simp] theorem gl_LONGEST : PP.glob .LONGEST = some (.int 8) := by kernel_rfl
@[simp] theorem gl_GREATEST_POWER : PP.glob .GREATEST_POWER = some (.int 20) := by kernel_rfl
@[simp] theorem gl_MOST_DIGITS : PP.glob .MOST_DIGITS = some (.int 60) := by kernel_rfl
@[simp] theorem gl_MOST_EFFECTS : PP.glob .MOST_EFFECTS = some (.int 4) := by kernel_rfl
theorem db__wall : LL.defB x__wall = true := by decide +kernel
theorem db_is_integer : LL.defB x_is_integer = true := by decide +kernel
theorem db_is_sequence : LL.defB x_is_sequence = true := by decide +kernel
theorem db_is_name : LL.defB x_is_name = true := by decide +kernel
theorem db_MethodError_told : LL.defB x_MethodError_told = true := by decide +kernel
theorem db_NoRatio___init__ : LL.defB x_NoRatio___init__ = true := by decide +kernel
theorem db_NoRatio_told : LL.defB x_NoRatio_told = true := by decide +kernel
theorem db_NoQuestion___init__ : LL.defB x_NoQuestion___init__ = true := by decide +kernel
theorem db_NoQuestion_told : LL.defB x_NoQuestion_told = true := by decide +kernel
theorem db_OtherEffects_told : LL.defB x_OtherEffects_told = true := by decide +kernel
theorem db_NoWorld_told : LL.defB x_NoWorld_told = true := by decide +kernel
theorem db_NoRun___init__ : LL.defB x_NoRun___init__ = true := by decide +kernel
theorem db_NoRun_told : LL.defB x_NoRun_told = true := by decide +kernel
theorem db_NoWild_told : LL.defB x_NoWild_told = true := by decide +kernel
theorem db_NoGoal___init__ : LL.defB x_NoGoal___init__ = true := by decide +kernel
theorem db_NoGoal_told : LL.defB x_NoGoal_told = true := by decide +kernel
theorem db_NoGoals___init__ : LL.defB x_NoGoals___init__ = true := by decide +kernel
theorem db_NoGoals_told : LL.defB x_NoGoals_told = true := by decide +kernel
theorem db_common_divisor : LL.defB x_common_divisor = true := by decide +kernel
theorem db_Ratio___init__ : LL.defB x_Ratio___init__ = true := by decide +kernel
theorem db_Ratio___add__ : LL.defB x_Ratio___add__ = true := by decide +kernel
theorem db_Ratio___radd__ : LL.defB x_Ratio___radd__ = true := by decide +kernel
theorem db_Ratio___sub__ : LL.defB x_Ratio___sub__ = true := by decide +kernel
theorem db_Ratio___rsub__ : LL.defB x_Ratio___rsub__ = true := by decide +kernel
theorem db_Ratio___mul__ : LL.defB x_Ratio___mul__ = true := by decide +kernel
theorem db_Ratio___rmul__ : LL.defB x_Ratio___rmul__ = true := by decide +kernel
theorem db_Ratio___neg__ : LL.defB x_Ratio___neg__ = true := by decide +kernel
theorem db_Ratio___pos__ : LL.defB x_Ratio___pos__ = true := by decide +kernel
theorem db_Ratio___abs__ : LL.defB x_Ratio___abs__ = true := by decide +kernel
theorem db_Ratio___floordiv__ : LL.defB x_Ratio___floordiv__ = true := by decide +kernel
theorem db_Ratio___rfloordiv__ : LL.defB x_Ratio___rfloordiv__ = true := by decide +kernel
theorem db_Ratio___mod__ : LL.defB x_Ratio___mod__ = true := by decide +kernel
theorem db_Ratio___rmod__ : LL.defB x_Ratio___rmod__ = true := by decide +kernel
theorem db_Ratio___pow__ : LL.defB x_Ratio___pow__ = true := by decide +kernel
theorem db_Ratio___eq__ : LL.defB x_Ratio___eq__ = true := by decide +kernel
theorem db_Ratio___lt__ : LL.defB x_Ratio___lt__ = true := by decide +kernel
theorem db_Ratio___le__ : LL.defB x_Ratio___le__ = true := by decide +kernel
theorem db_Ratio___gt__ : LL.defB x_Ratio___gt__ = true := by decide +kernel
theorem db_Ratio___ge__ : LL.defB x_Ratio___ge__ = true := by decide +kernel
theorem db_Ratio_over : LL.defB x_Ratio_over = true := by decide +kernel
theorem db_Ratio_power : LL.defB x_Ratio_power = true := by decide +kernel
theorem db_Ratio_text : LL.defB x_Ratio_text = true := by decide +kernel
theorem db_is_digits : LL.defB x_is_digits = true := by decide +kernel
theorem db_is_number : LL.defB x_is_number = true := by decide +kernel
theorem db_as_ratio : LL.defB x_as_ratio = true := by decide +kernel
theorem db_are_effects : LL.defB x_are_effects = true := by decide +kernel
theorem db_are_numbers : LL.defB x_are_numbers = true := by decide +kernel
theorem db_is_world : LL.defB x_is_world = true := by decide +kernel
theorem db_Question___init__ : LL.defB x_Question___init__ = true := by decide +kernel
theorem db_Question_at : LL.defB x_Question_at = true := by decide +kernel
theorem db_Question_over : LL.defB x_Question_over = true := by decide +kernel
theorem db_Question___add__ : LL.defB x_Question___add__ = true := by decide +kernel
theorem db_Question___sub__ : LL.defB x_Question___sub__ = true := by decide +kernel
theorem db_Question___neg__ : LL.defB x_Question___neg__ = true := by decide +kernel
theorem db_Question___mul__ : LL.defB x_Question___mul__ = true := by decide +kernel
theorem db_Question___rmul__ : LL.defB x_Question___rmul__ = true := by decide +kernel
theorem db_Question___eq__ : LL.defB x_Question___eq__ = true := by decide +kernel
theorem db_Run___init__ : LL.defB x_Run___init__ = true := by decide +kernel
theorem db_Run_sees : LL.defB x_Run_sees = true := by decide +kernel
theorem db_Run___eq__ : LL.defB x_Run___eq__ = true := by decide +kernel
theorem db_Goal___init__ : LL.defB x_Goal___init__ = true := by decide +kernel
theorem db_Goal___eq__ : LL.defB x_Goal___eq__ = true := by decide +kernel
theorem db__law_hand : LL.defB x__law_hand = true := by decide +kernel
theorem db__law_take : LL.defB x__law_take = true := by decide +kernel
theorem db__law_fraction : LL.defB x__law_fraction = true := by decide +kernel
theorem db__law_slip : LL.defB x__law_slip = true := by decide +kernel
theorem db__law_names : LL.defB x__law_names = true := by decide +kernel
theorem db__law_number : LL.defB x__law_number = true := by decide +kernel
theorem db__law_question : LL.defB x__law_question = true := by decide +kernel
theorem db__law_made : LL.defB x__law_made = true := by decide +kernel
theorem db_law : LL.defB x_law = true := by decide +kernel
theorem dbL : ∀ x ∈ LL.ds, LL.defB x = true :=
  List.forall_mem_cons.mpr ⟨db__wall, List.forall_mem_cons.mpr ⟨db_is_integer, List.forall_mem_cons.mpr ⟨db_is_sequence, List.forall_mem_cons.mpr ⟨db_is_name, List.forall_mem_cons.mpr ⟨db_MethodError_told, List.forall_mem_cons.mpr ⟨db_NoRatio___init__, List.forall_mem_cons.mpr ⟨db_NoRatio_told, List.forall_mem_cons.mpr ⟨db_NoQuestion___init__, List.forall_mem_cons.mpr ⟨db_NoQuestion_told, List.forall_mem_cons.mpr ⟨db_OtherEffects_told, List.forall_mem_cons.mpr ⟨db_NoWorld_told, List.forall_mem_cons.mpr ⟨db_NoRun___init__, List.forall_mem_cons.mpr ⟨db_NoRun_told, List.forall_mem_cons.mpr ⟨db_NoWild_told, List.forall_mem_cons.mpr ⟨db_NoGoal___init__, List.forall_mem_cons.mpr ⟨db_NoGoal_told, List.forall_mem_cons.mpr ⟨db_NoGoals___init__, List.forall_mem_cons.mpr ⟨db_NoGoals_told, List.forall_mem_cons.mpr ⟨db_common_divisor, List.forall_mem_cons.mpr ⟨db_Ratio___init__, List.forall_mem_cons.mpr ⟨db_Ratio___add__, List.forall_mem_cons.mpr ⟨db_Ratio___radd__, List.forall_mem_cons.mpr ⟨db_Ratio___sub__, List.forall_mem_cons.mpr ⟨db_Ratio___rsub__, List.forall_mem_cons.mpr ⟨db_Ratio___mul__, List.forall_mem_cons.mpr ⟨db_Ratio___rmul__, List.forall_mem_cons.mpr ⟨db_Ratio___neg__, List.forall_mem_cons.mpr ⟨db_Ratio___pos__, List.forall_mem_cons.mpr ⟨db_Ratio___abs__, List.forall_mem_cons.mpr ⟨db_Ratio___floordiv__, List.forall_mem_cons.mpr ⟨db_Ratio___rfloordiv__, List.forall_mem_cons.mpr ⟨db_Ratio___mod__, List.forall_mem_cons.mpr ⟨db_Ratio___rmod__, List.forall_mem_cons.mpr ⟨db_Ratio___pow__, List.forall_mem_cons.mpr ⟨db_Ratio___eq__, List.forall_mem_cons.mpr ⟨db_Ratio___lt__, List.forall_mem_cons.mpr ⟨db_Ratio___le__, List.forall_mem_cons.mpr ⟨db_Ratio___gt__, List.forall_mem_cons.mpr ⟨db_Ratio___ge__, List.forall_mem_cons.mpr ⟨db_Ratio_over, List.forall_mem_cons.mpr ⟨db_Ratio_power, List.forall_mem_cons.mpr ⟨db_Ratio_text, List.forall_mem_cons.mpr ⟨db_is_digits, List.forall_mem_cons.mpr ⟨db_is_number, List.forall_mem_cons.mpr ⟨db_as_ratio, List.forall_mem_cons.mpr ⟨db_are_effects, List.forall_mem_cons.mpr ⟨db_are_numbers, List.forall_mem_cons.mpr ⟨db_is_world, List.forall_mem_cons.mpr ⟨db_Question___init__, List.forall_mem_cons.mpr ⟨db_Question_at, List.forall_mem_cons.mpr ⟨db_Question_over, List.forall_mem_cons.mpr ⟨db_Question___add__, List.forall_mem_cons.mpr ⟨db_Question___sub__, List.forall_mem_cons.mpr ⟨db_Question___neg__, List.forall_mem_cons.mpr ⟨db_Question___mul__, List.forall_mem_cons.mpr ⟨db_Question___rmul__, List.forall_mem_cons.mpr ⟨db_Question___eq__, List.forall_mem_cons.mpr ⟨db_Run___init__, List.forall_mem_cons.mpr ⟨db_Run_sees, List.forall_mem_cons.mpr ⟨db_Run___eq__, List.forall_mem_cons.mpr ⟨db_Goal___init__, List.forall_mem_cons.mpr ⟨db_Goal___eq__, List.forall_mem_cons.mpr ⟨db__law_hand, List.forall_mem_cons.mpr ⟨db__law_take, List.forall_mem_cons.mpr ⟨db__law_fraction, List.forall_mem_cons.mpr ⟨db__law_slip, List.forall_mem_cons.mpr ⟨db__law_names, List.forall_mem_cons.mpr ⟨db__law_number, List.forall_mem_cons.mpr ⟨db__law_question, List.forall_mem_cons.mpr ⟨db__law_made, List.forall_mem_cons.mpr ⟨db_law, (fun _ h => nomatch h)⟩⟩⟩⟩⟩⟩⟩⟩⟩⟩⟩⟩⟩⟩⟩⟩⟩⟩⟩⟩⟩⟩⟩⟩⟩⟩⟩⟩⟩⟩⟩⟩⟩⟩⟩⟩⟩⟩⟩⟩⟩⟩⟩⟩⟩⟩⟩⟩⟩⟩⟩⟩⟩⟩⟩⟩⟩⟩⟩⟩⟩⟩⟩⟩⟩⟩⟩⟩⟩⟩⟩
theorem sh__wall : ∀ q ∈ d__wall.sh, Shp0 (defArgs (top 0)) st (d__wall.ps.map st) q := by
  intro q hq
  have hq : q ∈ [(1, [])] := hq
  simp only [List.mem_cons, List.not_mem_nil, or_false] at hq
  rcases hq with rfl
  · intro x qual body scope kV doc pm an cdv ct us ws h1 h2
    match us, h1, ws, h2 with
    | [_], _, [], _ => kernel_rfl
theorem sh_is_integer : ∀ q ∈ d_is_integer.sh, Shp0 (defArgs (top 5)) st (d_is_integer.ps.map st) q := by
  intro q hq
  have hq : q ∈ [(1, [])] := hq
  simp only [List.mem_cons, List.not_mem_nil, or_false] at hq
  rcases hq with rfl
  · intro x qual body scope kV doc pm an cdv ct us ws h1 h2
    match us, h1, ws, h2 with
    | [_], _, [], _ => kernel_rfl
theorem sh_is_sequence : ∀ q ∈ d_is_sequence.sh, Shp0 (defArgs (top 6)) st (d_is_sequence.ps.map st) q := by
  intro q hq
  have hq : q ∈ [(1, [])] := hq
  simp only [List.mem_cons, List.not_mem_nil, or_false] at hq
  rcases hq with rfl
  · intro x qual body scope kV doc pm an cdv ct us ws h1 h2
    match us, h1, ws, h2 with
    | [_], _, [], _ => kernel_rfl
theorem sh_is_name : ∀ q ∈ d_is_name.sh, Shp0 (defArgs (top 7)) st (d_is_name.ps.map st) q := by
  intro q hq
  have hq : q ∈ [(1, [])] := hq
  simp only [List.mem_cons, List.not_mem_nil, or_false] at hq
  rcases hq with rfl
  · intro x qual body scope kV doc pm an cdv ct us ws h1 h2
    match us, h1, ws, h2 with
    | [_], _, [], _ => kernel_rfl
theorem sh_MethodError_told : ∀ q ∈ d_MethodError_told.sh, Shp0 (defArgs (inClass (top 9) 0)) st (d_MethodError_told.ps.map st) q := by
  intro q hq
  have hq : q ∈ [(1, [])] := hq
  simp only [List.mem_cons, List.not_mem_nil, or_false] at hq
  rcases hq with rfl
  · intro x qual body scope kV doc pm an cdv ct us ws h1 h2
    match us, h1, ws, h2 with
    | [_], _, [], _ => kernel_rfl
theorem sh_NoRatio___init__ : ∀ q ∈ d_NoRatio___init__.sh, Shp0 (defArgs (inClass (top 10) 0)) st (d_NoRatio___init__.ps.map st) q := by
  intro q hq
  have hq : q ∈ [(2, [])] := hq
  simp only [List.mem_cons, List.not_mem_nil, or_false] at hq
  rcases hq with rfl
  · intro x qual body scope kV doc pm an cdv ct us ws h1 h2
    match us, h1, ws, h2 with
    | [_, _], _, [], _ => kernel_rfl
theorem sh_NoRatio_told : ∀ q ∈ d_NoRatio_told.sh, Shp0 (defArgs (inClass (top 10) 1)) st (d_NoRatio_told.ps.map st) q := by
  intro q hq
  have hq : q ∈ [(1, [])] := hq
  simp only [List.mem_cons, List.not_mem_nil, or_false] at hq
  rcases hq with rfl
  · intro x qual body scope kV doc pm an cdv ct us ws h1 h2
    match us, h1, ws, h2 with
    | [_], _, [], _ => kernel_rfl
theorem sh_NoQuestion___init__ : ∀ q ∈ d_NoQuestion___init__.sh, Shp0 (defArgs (inClass (top 11) 0)) st (d_NoQuestion___init__.ps.map st) q := by
  intro q hq
  have hq : q ∈ [(2, [])] := hq
  simp only [List.mem_cons, List.not_mem_nil, or_false] at hq
  rcases hq with rfl
  · intro x qual body scope kV doc pm an cdv ct us ws h1 h2
    match us, h1, ws, h2 with
    | [_, _], _, [], _ => kernel_rfl
theorem sh_NoQuestion_told : ∀ q ∈ d_NoQuestion_told.sh, Shp0 (defArgs (inClass (top 11) 1)) st (d_NoQuestion_told.ps.map st) q := by
  intro q hq
  have hq : q ∈ [(1, [])] := hq
  simp only [List.mem_cons, List.not_mem_nil, or_false] at hq
  rcases hq with rfl
  · intro x qual body scope kV doc pm an cdv ct us ws h1 h2
    match us, h1, ws, h2 with
    | [_], _, [], _ => kernel_rfl
theorem sh_OtherEffects_told : ∀ q ∈ d_OtherEffects_told.sh, Shp0 (defArgs (inClass (top 12) 0)) st (d_OtherEffects_told.ps.map st) q := by
  intro q hq
  have hq : q ∈ [(1, [])] := hq
  simp only [List.mem_cons, List.not_mem_nil, or_false] at hq
  rcases hq with rfl
  · intro x qual body scope kV doc pm an cdv ct us ws h1 h2
    match us, h1, ws, h2 with
    | [_], _, [], _ => kernel_rfl
theorem sh_NoWorld_told : ∀ q ∈ d_NoWorld_told.sh, Shp0 (defArgs (inClass (top 13) 0)) st (d_NoWorld_told.ps.map st) q := by
  intro q hq
  have hq : q ∈ [(1, [])] := hq
  simp only [List.mem_cons, List.not_mem_nil, or_false] at hq
  rcases hq with rfl
  · intro x qual body scope kV doc pm an cdv ct us ws h1 h2
    match us, h1, ws, h2 with
    | [_], _, [], _ => kernel_rfl
theorem sh_NoRun___init__ : ∀ q ∈ d_NoRun___init__.sh, Shp0 (defArgs (inClass (top 14) 0)) st (d_NoRun___init__.ps.map st) q := by
  intro q hq
  have hq : q ∈ [(2, [])] := hq
  simp only [List.mem_cons, List.not_mem_nil, or_false] at hq
  rcases hq with rfl
  · intro x qual body scope kV doc pm an cdv ct us ws h1 h2
    match us, h1, ws, h2 with
    | [_, _], _, [], _ => kernel_rfl
theorem sh_NoRun_told : ∀ q ∈ d_NoRun_told.sh, Shp0 (defArgs (inClass (top 14) 1)) st (d_NoRun_told.ps.map st) q := by
  intro q hq
  have hq : q ∈ [(1, [])] := hq
  simp only [List.mem_cons, List.not_mem_nil, or_false] at hq
  rcases hq with rfl
  · intro x qual body scope kV doc pm an cdv ct us ws h1 h2
    match us, h1, ws, h2 with
    | [_], _, [], _ => kernel_rfl
theorem sh_NoWild_told : ∀ q ∈ d_NoWild_told.sh, Shp0 (defArgs (inClass (top 15) 0)) st (d_NoWild_told.ps.map st) q := by
  intro q hq
  have hq : q ∈ [(1, [])] := hq
  simp only [List.mem_cons, List.not_mem_nil, or_false] at hq
  rcases hq with rfl
  · intro x qual body scope kV doc pm an cdv ct us ws h1 h2
    match us, h1, ws, h2 with
    | [_], _, [], _ => kernel_rfl
theorem sh_NoGoal___init__ : ∀ q ∈ d_NoGoal___init__.sh, Shp0 (defArgs (inClass (top 16) 0)) st (d_NoGoal___init__.ps.map st) q := by
  intro q hq
  have hq : q ∈ [(2, [])] := hq
  simp only [List.mem_cons, List.not_mem_nil, or_false] at hq
  rcases hq with rfl
  · intro x qual body scope kV doc pm an cdv ct us ws h1 h2
    match us, h1, ws, h2 with
    | [_, _], _, [], _ => kernel_rfl
theorem sh_NoGoal_told : ∀ q ∈ d_NoGoal_told.sh, Shp0 (defArgs (inClass (top 16) 1)) st (d_NoGoal_told.ps.map st) q := by
  intro q hq
  have hq : q ∈ [(1, [])] := hq
  simp only [List.mem_cons, List.not_mem_nil, or_false] at hq
  rcases hq with rfl
  · intro x qual body scope kV doc pm an cdv ct us ws h1 h2
    match us, h1, ws, h2 with
    | [_], _, [], _ => kernel_rfl
theorem sh_NoGoals___init__ : ∀ q ∈ d_NoGoals___init__.sh, Shp0 (defArgs (inClass (top 17) 0)) st (d_NoGoals___init__.ps.map st) q := by
  intro q hq
  have hq : q ∈ [(2, [])] := hq
  simp only [List.mem_cons, List.not_mem_nil, or_false] at hq
  rcases hq with rfl
  · intro x qual body scope kV doc pm an cdv ct us ws h1 h2
    match us, h1, ws, h2 with
    | [_, _], _, [], _ => kernel_rfl
theorem sh_NoGoals_told : ∀ q ∈ d_NoGoals_told.sh, Shp0 (defArgs (inClass (top 17) 1)) st (d_NoGoals_told.ps.map st) q := by
  intro q hq
  have hq : q ∈ [(1, [])] := hq
  simp only [List.mem_cons, List.not_mem_nil, or_false] at hq
  rcases hq with rfl
  · intro x qual body scope kV doc pm an cdv ct us ws h1 h2
    match us, h1, ws, h2 with
    | [_], _, [], _ => kernel_rfl
theorem sh_common_divisor : ∀ q ∈ d_common_divisor.sh, Shp0 (defArgs (top 21)) st (d_common_divisor.ps.map st) q := by
  intro q hq
  have hq : q ∈ [(2, [])] := hq
  simp only [List.mem_cons, List.not_mem_nil, or_false] at hq
  rcases hq with rfl
  · intro x qual body scope kV doc pm an cdv ct us ws h1 h2
    match us, h1, ws, h2 with
    | [_, _], _, [], _ => kernel_rfl
theorem sh_Ratio___init__ : ∀ q ∈ d_Ratio___init__.sh, Shp1 (defArgs (inClass (top 22) 0)) st (d_Ratio___init__.ps.map st) 1 q := by
  intro q hq
  have hq : q ∈ [(2, []), (3, [])] := hq
  simp only [List.mem_cons, List.not_mem_nil, or_false] at hq
  rcases hq with rfl | rfl
  · intro x qual body scope D kV doc pm an cdv ct us ws h1 h2
    match us, h1, ws, h2 with
    | [_, _], _, [], _ => exact ⟨_, rfl, fun its hi => match its, hi with
      | [_], _ => by kernel_rfl⟩
  · intro x qual body scope D kV doc pm an cdv ct us ws h1 h2
    match us, h1, ws, h2 with
    | [_, _, _], _, [], _ => exact ⟨_, rfl, fun its hi => match its, hi with
      | [_], _ => by kernel_rfl⟩
theorem sh_Ratio___add__ : ∀ q ∈ d_Ratio___add__.sh, Shp0 (defArgs (inClass (top 22) 1)) st (d_Ratio___add__.ps.map st) q := by
  intro q hq
  have hq : q ∈ [(2, [])] := hq
  simp only [List.mem_cons, List.not_mem_nil, or_false] at hq
  rcases hq with rfl
  · intro x qual body scope kV doc pm an cdv ct us ws h1 h2
    match us, h1, ws, h2 with
    | [_, _], _, [], _ => kernel_rfl
theorem sh_Ratio___radd__ : ∀ q ∈ d_Ratio___radd__.sh, Shp0 (defArgs (inClass (top 22) 2)) st (d_Ratio___radd__.ps.map st) q := by
  intro q hq
  have hq : q ∈ [(2, [])] := hq
  simp only [List.mem_cons, List.not_mem_nil, or_false] at hq
  rcases hq with rfl
  · intro x qual body scope kV doc pm an cdv ct us ws h1 h2
    match us, h1, ws, h2 with
    | [_, _], _, [], _ => kernel_rfl
theorem sh_Ratio___sub__ : ∀ q ∈ d_Ratio___sub__.sh, Shp0 (defArgs (inClass (top 22) 3)) st (d_Ratio___sub__.ps.map st) q := by
  intro q hq
  have hq : q ∈ [(2, [])] := hq
  simp only [List.mem_cons, List.not_mem_nil, or_false] at hq
  rcases hq with rfl
  · intro x qual body scope kV doc pm an cdv ct us ws h1 h2
    match us, h1, ws, h2 with
    | [_, _], _, [], _ => kernel_rfl
theorem sh_Ratio___rsub__ : ∀ q ∈ d_Ratio___rsub__.sh, Shp0 (defArgs (inClass (top 22) 4)) st (d_Ratio___rsub__.ps.map st) q := by
  intro q hq
  have hq : q ∈ [(2, [])] := hq
  simp only [List.mem_cons, List.not_mem_nil, or_false] at hq
  rcases hq with rfl
  · intro x qual body scope kV doc pm an cdv ct us ws h1 h2
    match us, h1, ws, h2 with
    | [_, _], _, [], _ => kernel_rfl
theorem sh_Ratio___mul__ : ∀ q ∈ d_Ratio___mul__.sh, Shp0 (defArgs (inClass (top 22) 5)) st (d_Ratio___mul__.ps.map st) q := by
  intro q hq
  have hq : q ∈ [(2, [])] := hq
  simp only [List.mem_cons, List.not_mem_nil, or_false] at hq
  rcases hq with rfl
  · intro x qual body scope kV doc pm an cdv ct us ws h1 h2
    match us, h1, ws, h2 with
    | [_, _], _, [], _ => kernel_rfl
theorem sh_Ratio___rmul__ : ∀ q ∈ d_Ratio___rmul__.sh, Shp0 (defArgs (inClass (top 22) 6)) st (d_Ratio___rmul__.ps.map st) q := by
  intro q hq
  have hq : q ∈ [(2, [])] := hq
  simp only [List.mem_cons, List.not_mem_nil, or_false] at hq
  rcases hq with rfl
  · intro x qual body scope kV doc pm an cdv ct us ws h1 h2
    match us, h1, ws, h2 with
    | [_, _], _, [], _ => kernel_rfl
theorem sh_Ratio___neg__ : ∀ q ∈ d_Ratio___neg__.sh, Shp0 (defArgs (inClass (top 22) 7)) st (d_Ratio___neg__.ps.map st) q := by
  intro q hq
  have hq : q ∈ [(1, [])] := hq
  simp only [List.mem_cons, List.not_mem_nil, or_false] at hq
  rcases hq with rfl
  · intro x qual body scope kV doc pm an cdv ct us ws h1 h2
    match us, h1, ws, h2 with
    | [_], _, [], _ => kernel_rfl
theorem sh_Ratio___pos__ : ∀ q ∈ d_Ratio___pos__.sh, Shp0 (defArgs (inClass (top 22) 8)) st (d_Ratio___pos__.ps.map st) q := by
  intro q hq
  have hq : q ∈ [(1, [])] := hq
  simp only [List.mem_cons, List.not_mem_nil, or_false] at hq
  rcases hq with rfl
  · intro x qual body scope kV doc pm an cdv ct us ws h1 h2
    match us, h1, ws, h2 with
    | [_], _, [], _ => kernel_rfl
theorem sh_Ratio___abs__ : ∀ q ∈ d_Ratio___abs__.sh, Shp0 (defArgs (inClass (top 22) 9)) st (d_Ratio___abs__.ps.map st) q := by
  intro q hq
  have hq : q ∈ [(1, [])] := hq
  simp only [List.mem_cons, List.not_mem_nil, or_false] at hq
  rcases hq with rfl
  · intro x qual body scope kV doc pm an cdv ct us ws h1 h2
    match us, h1, ws, h2 with
    | [_], _, [], _ => kernel_rfl
theorem sh_Ratio___floordiv__ : ∀ q ∈ d_Ratio___floordiv__.sh, Shp0 (defArgs (inClass (top 22) 10)) st (d_Ratio___floordiv__.ps.map st) q := by
  intro q hq
  have hq : q ∈ [(2, [])] := hq
  simp only [List.mem_cons, List.not_mem_nil, or_false] at hq
  rcases hq with rfl
  · intro x qual body scope kV doc pm an cdv ct us ws h1 h2
    match us, h1, ws, h2 with
    | [_, _], _, [], _ => kernel_rfl
theorem sh_Ratio___rfloordiv__ : ∀ q ∈ d_Ratio___rfloordiv__.sh, Shp0 (defArgs (inClass (top 22) 11)) st (d_Ratio___rfloordiv__.ps.map st) q := by
  intro q hq
  have hq : q ∈ [(2, [])] := hq
  simp only [List.mem_cons, List.not_mem_nil, or_false] at hq
  rcases hq with rfl
  · intro x qual body scope kV doc pm an cdv ct us ws h1 h2
    match us, h1, ws, h2 with
    | [_, _], _, [], _ => kernel_rfl
theorem sh_Ratio___mod__ : ∀ q ∈ d_Ratio___mod__.sh, Shp0 (defArgs (inClass (top 22) 12)) st (d_Ratio___mod__.ps.map st) q := by
  intro q hq
  have hq : q ∈ [(2, [])] := hq
  simp only [List.mem_cons, List.not_mem_nil, or_false] at hq
  rcases hq with rfl
  · intro x qual body scope kV doc pm an cdv ct us ws h1 h2
    match us, h1, ws, h2 with
    | [_, _], _, [], _ => kernel_rfl
theorem sh_Ratio___rmod__ : ∀ q ∈ d_Ratio___rmod__.sh, Shp0 (defArgs (inClass (top 22) 13)) st (d_Ratio___rmod__.ps.map st) q := by
  intro q hq
  have hq : q ∈ [(2, [])] := hq
  simp only [List.mem_cons, List.not_mem_nil, or_false] at hq
  rcases hq with rfl
  · intro x qual body scope kV doc pm an cdv ct us ws h1 h2
    match us, h1, ws, h2 with
    | [_, _], _, [], _ => kernel_rfl
theorem sh_Ratio___pow__ : ∀ q ∈ d_Ratio___pow__.sh, Shp0 (defArgs (inClass (top 22) 14)) st (d_Ratio___pow__.ps.map st) q := by
  intro q hq
  have hq : q ∈ [(2, [])] := hq
  simp only [List.mem_cons, List.not_mem_nil, or_false] at hq
  rcases hq with rfl
  · intro x qual body scope kV doc pm an cdv ct us ws h1 h2
    match us, h1, ws, h2 with
    | [_, _], _, [], _ => kernel_rfl
theorem sh_Ratio___eq__ : ∀ q ∈ d_Ratio___eq__.sh, Shp0 (defArgs (inClass (top 22) 15)) st (d_Ratio___eq__.ps.map st) q := by
  intro q hq
  have hq : q ∈ [(2, [])] := hq
  simp only [List.mem_cons, List.not_mem_nil, or_false] at hq
  rcases hq with rfl
  · intro x qual body scope kV doc pm an cdv ct us ws h1 h2
    match us, h1, ws, h2 with
    | [_, _], _, [], _ => kernel_rfl
theorem sh_Ratio___lt__ : ∀ q ∈ d_Ratio___lt__.sh, Shp0 (defArgs (inClass (top 22) 16)) st (d_Ratio___lt__.ps.map st) q := by
  intro q hq
  have hq : q ∈ [(2, [])] := hq
  simp only [List.mem_cons, List.not_mem_nil, or_false] at hq
  rcases hq with rfl
  · intro x qual body scope kV doc pm an cdv ct us ws h1 h2
    match us, h1, ws, h2 with
    | [_, _], _, [], _ => kernel_rfl
theorem sh_Ratio___le__ : ∀ q ∈ d_Ratio___le__.sh, Shp0 (defArgs (inClass (top 22) 17)) st (d_Ratio___le__.ps.map st) q := by
  intro q hq
  have hq : q ∈ [(2, [])] := hq
  simp only [List.mem_cons, List.not_mem_nil, or_false] at hq
  rcases hq with rfl
  · intro x qual body scope kV doc pm an cdv ct us ws h1 h2
    match us, h1, ws, h2 with
    | [_, _], _, [], _ => kernel_rfl
theorem sh_Ratio___gt__ : ∀ q ∈ d_Ratio___gt__.sh, Shp0 (defArgs (inClass (top 22) 18)) st (d_Ratio___gt__.ps.map st) q := by
  intro q hq
  have hq : q ∈ [(2, [])] := hq
  simp only [List.mem_cons, List.not_mem_nil, or_false] at hq
  rcases hq with rfl
  · intro x qual body scope kV doc pm an cdv ct us ws h1 h2
    match us, h1, ws, h2 with
    | [_, _], _, [], _ => kernel_rfl
theorem sh_Ratio___ge__ : ∀ q ∈ d_Ratio___ge__.sh, Shp0 (defArgs (inClass (top 22) 19)) st (d_Ratio___ge__.ps.map st) q := by
  intro q hq
  have hq : q ∈ [(2, [])] := hq
  simp only [List.mem_cons, List.not_mem_nil, or_false] at hq
  rcases hq with rfl
  · intro x qual body scope kV doc pm an cdv ct us ws h1 h2
    match us, h1, ws, h2 with
    | [_, _], _, [], _ => kernel_rfl
theorem sh_Ratio_over : ∀ q ∈ d_Ratio_over.sh, Shp0 (defArgs (inClass (top 22) 20)) st (d_Ratio_over.ps.map st) q := by
  intro q hq
  have hq : q ∈ [] := hq
  cases hq
theorem sh_Ratio_power : ∀ q ∈ d_Ratio_power.sh, Shp0 (defArgs (inClass (top 22) 21)) st (d_Ratio_power.ps.map st) q := by
  intro q hq
  have hq : q ∈ [(2, [])] := hq
  simp only [List.mem_cons, List.not_mem_nil, or_false] at hq
  rcases hq with rfl
  · intro x qual body scope kV doc pm an cdv ct us ws h1 h2
    match us, h1, ws, h2 with
    | [_, _], _, [], _ => kernel_rfl
theorem sh_Ratio_text : ∀ q ∈ d_Ratio_text.sh, Shp0 (defArgs (inClass (top 22) 22)) st (d_Ratio_text.ps.map st) q := by
  intro q hq
  have hq : q ∈ [(1, [])] := hq
  simp only [List.mem_cons, List.not_mem_nil, or_false] at hq
  rcases hq with rfl
  · intro x qual body scope kV doc pm an cdv ct us ws h1 h2
    match us, h1, ws, h2 with
    | [_], _, [], _ => kernel_rfl
theorem sh_is_digits : ∀ q ∈ d_is_digits.sh, Shp0 (defArgs (top 23)) st (d_is_digits.ps.map st) q := by
  intro q hq
  have hq : q ∈ [(1, [])] := hq
  simp only [List.mem_cons, List.not_mem_nil, or_false] at hq
  rcases hq with rfl
  · intro x qual body scope kV doc pm an cdv ct us ws h1 h2
    match us, h1, ws, h2 with
    | [_], _, [], _ => kernel_rfl
theorem sh_is_number : ∀ q ∈ d_is_number.sh, Shp0 (defArgs (top 24)) st (d_is_number.ps.map st) q := by
  intro q hq
  have hq : q ∈ [(1, [])] := hq
  simp only [List.mem_cons, List.not_mem_nil, or_false] at hq
  rcases hq with rfl
  · intro x qual body scope kV doc pm an cdv ct us ws h1 h2
    match us, h1, ws, h2 with
    | [_], _, [], _ => kernel_rfl
theorem sh_as_ratio : ∀ q ∈ d_as_ratio.sh, Shp0 (defArgs (top 25)) st (d_as_ratio.ps.map st) q := by
  intro q hq
  have hq : q ∈ [(1, [])] := hq
  simp only [List.mem_cons, List.not_mem_nil, or_false] at hq
  rcases hq with rfl
  · intro x qual body scope kV doc pm an cdv ct us ws h1 h2
    match us, h1, ws, h2 with
    | [_], _, [], _ => kernel_rfl
theorem sh_are_effects : ∀ q ∈ d_are_effects.sh, Shp0 (defArgs (top 28)) st (d_are_effects.ps.map st) q := by
  intro q hq
  have hq : q ∈ [(1, [])] := hq
  simp only [List.mem_cons, List.not_mem_nil, or_false] at hq
  rcases hq with rfl
  · intro x qual body scope kV doc pm an cdv ct us ws h1 h2
    match us, h1, ws, h2 with
    | [_], _, [], _ => kernel_rfl
theorem sh_are_numbers : ∀ q ∈ d_are_numbers.sh, Shp0 (defArgs (top 29)) st (d_are_numbers.ps.map st) q := by
  intro q hq
  have hq : q ∈ [(2, [])] := hq
  simp only [List.mem_cons, List.not_mem_nil, or_false] at hq
  rcases hq with rfl
  · intro x qual body scope kV doc pm an cdv ct us ws h1 h2
    match us, h1, ws, h2 with
    | [_, _], _, [], _ => kernel_rfl
theorem sh_is_world : ∀ q ∈ d_is_world.sh, Shp0 (defArgs (top 30)) st (d_is_world.ps.map st) q := by
  intro q hq
  have hq : q ∈ [(2, [])] := hq
  simp only [List.mem_cons, List.not_mem_nil, or_false] at hq
  rcases hq with rfl
  · intro x qual body scope kV doc pm an cdv ct us ws h1 h2
    match us, h1, ws, h2 with
    | [_, _], _, [], _ => kernel_rfl
theorem sh_Question___init__ : ∀ q ∈ d_Question___init__.sh, Shp0 (defArgs (inClass (top 31) 0)) st (d_Question___init__.ps.map st) q := by
  intro q hq
  have hq : q ∈ [(3, [])] := hq
  simp only [List.mem_cons, List.not_mem_nil, or_false] at hq
  rcases hq with rfl
  · intro x qual body scope kV doc pm an cdv ct us ws h1 h2
    match us, h1, ws, h2 with
    | [_, _, _], _, [], _ => kernel_rfl
theorem sh_Question_at : ∀ q ∈ d_Question_at.sh, Shp0 (defArgs (inClass (top 31) 1)) st (d_Question_at.ps.map st) q := by
  intro q hq
  have hq : q ∈ [] := hq
  cases hq
theorem sh_Question_over : ∀ q ∈ d_Question_over.sh, Shp0 (defArgs (inClass (top 31) 2)) st (d_Question_over.ps.map st) q := by
  intro q hq
  have hq : q ∈ [] := hq
  cases hq
theorem sh_Question___add__ : ∀ q ∈ d_Question___add__.sh, Shp0 (defArgs (inClass (top 31) 3)) st (d_Question___add__.ps.map st) q := by
  intro q hq
  have hq : q ∈ [(2, [])] := hq
  simp only [List.mem_cons, List.not_mem_nil, or_false] at hq
  rcases hq with rfl
  · intro x qual body scope kV doc pm an cdv ct us ws h1 h2
    match us, h1, ws, h2 with
    | [_, _], _, [], _ => kernel_rfl
theorem sh_Question___sub__ : ∀ q ∈ d_Question___sub__.sh, Shp0 (defArgs (inClass (top 31) 4)) st (d_Question___sub__.ps.map st) q := by
  intro q hq
  have hq : q ∈ [(2, [])] := hq
  simp only [List.mem_cons, List.not_mem_nil, or_false] at hq
  rcases hq with rfl
  · intro x qual body scope kV doc pm an cdv ct us ws h1 h2
    match us, h1, ws, h2 with
    | [_, _], _, [], _ => kernel_rfl
theorem sh_Question___neg__ : ∀ q ∈ d_Question___neg__.sh, Shp0 (defArgs (inClass (top 31) 5)) st (d_Question___neg__.ps.map st) q := by
  intro q hq
  have hq : q ∈ [(1, [])] := hq
  simp only [List.mem_cons, List.not_mem_nil, or_false] at hq
  rcases hq with rfl
  · intro x qual body scope kV doc pm an cdv ct us ws h1 h2
    match us, h1, ws, h2 with
    | [_], _, [], _ => kernel_rfl
theorem sh_Question___mul__ : ∀ q ∈ d_Question___mul__.sh, Shp0 (defArgs (inClass (top 31) 6)) st (d_Question___mul__.ps.map st) q := by
  intro q hq
  have hq : q ∈ [(2, [])] := hq
  simp only [List.mem_cons, List.not_mem_nil, or_false] at hq
  rcases hq with rfl
  · intro x qual body scope kV doc pm an cdv ct us ws h1 h2
    match us, h1, ws, h2 with
    | [_, _], _, [], _ => kernel_rfl
theorem sh_Question___rmul__ : ∀ q ∈ d_Question___rmul__.sh, Shp0 (defArgs (inClass (top 31) 7)) st (d_Question___rmul__.ps.map st) q := by
  intro q hq
  have hq : q ∈ [(2, [])] := hq
  simp only [List.mem_cons, List.not_mem_nil, or_false] at hq
  rcases hq with rfl
  · intro x qual body scope kV doc pm an cdv ct us ws h1 h2
    match us, h1, ws, h2 with
    | [_, _], _, [], _ => kernel_rfl
theorem sh_Question___eq__ : ∀ q ∈ d_Question___eq__.sh, Shp0 (defArgs (inClass (top 31) 8)) st (d_Question___eq__.ps.map st) q := by
  intro q hq
  have hq : q ∈ [(2, [])] := hq
  simp only [List.mem_cons, List.not_mem_nil, or_false] at hq
  rcases hq with rfl
  · intro x qual body scope kV doc pm an cdv ct us ws h1 h2
    match us, h1, ws, h2 with
    | [_, _], _, [], _ => kernel_rfl
theorem sh_Run___init__ : ∀ q ∈ d_Run___init__.sh, Shp0 (defArgs (inClass (top 33) 0)) st (d_Run___init__.ps.map st) q := by
  intro q hq
  have hq : q ∈ [(3, [])] := hq
  simp only [List.mem_cons, List.not_mem_nil, or_false] at hq
  rcases hq with rfl
  · intro x qual body scope kV doc pm an cdv ct us ws h1 h2
    match us, h1, ws, h2 with
    | [_, _, _], _, [], _ => kernel_rfl
theorem sh_Run_sees : ∀ q ∈ d_Run_sees.sh, Shp0 (defArgs (inClass (top 33) 1)) st (d_Run_sees.ps.map st) q := by
  intro q hq
  have hq : q ∈ [] := hq
  cases hq
theorem sh_Run___eq__ : ∀ q ∈ d_Run___eq__.sh, Shp0 (defArgs (inClass (top 33) 2)) st (d_Run___eq__.ps.map st) q := by
  intro q hq
  have hq : q ∈ [(2, [])] := hq
  simp only [List.mem_cons, List.not_mem_nil, or_false] at hq
  rcases hq with rfl
  · intro x qual body scope kV doc pm an cdv ct us ws h1 h2
    match us, h1, ws, h2 with
    | [_, _], _, [], _ => kernel_rfl
theorem sh_Goal___init__ : ∀ q ∈ d_Goal___init__.sh, Shp2 (defArgs (inClass (top 35) 0)) st (d_Goal___init__.ps.map st) ["wild"] q := by
  intro q hq
  have hq : q ∈ [(3, []), (3, [.wild])] := hq
  simp only [List.mem_cons, List.not_mem_nil, or_false] at hq
  rcases hq with rfl | rfl
  · intro x qual body scope D doc pm an cdv ct us ws its h1 h2 h3
    match us, h1, ws, h2, its, h3 with
    | [_, _, _], _, [], _, [v0], _ => exact ⟨[("wild", v0)], (fun p hp => by simp only [List.mem_cons, List.not_mem_nil, or_false] at hp; rcases hp with rfl <;> simp [List.zip, List.zipWith]), ⟨_, _, _, _, _, _, rfl, rfl, (by show _ = pure _; kernel_rfl)⟩⟩
  · intro x qual body scope D doc pm an cdv ct us ws its h1 h2 h3
    match us, h1, ws, h2, its, h3 with
    | [_, _, _], _, [_], _, [v0], _ => exact ⟨[], (fun p hp => by cases hp), (by show _ = pure _; kernel_rfl)⟩
theorem sh_Goal___eq__ : ∀ q ∈ d_Goal___eq__.sh, Shp0 (defArgs (inClass (top 35) 1)) st (d_Goal___eq__.ps.map st) q := by
  intro q hq
  have hq : q ∈ [(2, [])] := hq
  simp only [List.mem_cons, List.not_mem_nil, or_false] at hq
  rcases hq with rfl
  · intro x qual body scope kV doc pm an cdv ct us ws h1 h2
    match us, h1, ws, h2 with
    | [_, _], _, [], _ => kernel_rfl
theorem sh__law_hand : ∀ q ∈ d__law_hand.sh, Shp0 (defArgs (top 37)) st (d__law_hand.ps.map st) q := by
  intro q hq
  have hq : q ∈ [(2, [])] := hq
  simp only [List.mem_cons, List.not_mem_nil, or_false] at hq
  rcases hq with rfl
  · intro x qual body scope kV doc pm an cdv ct us ws h1 h2
    match us, h1, ws, h2 with
    | [_, _], _, [], _ => kernel_rfl
theorem sh__law_take : ∀ q ∈ d__law_take.sh, Shp0 (defArgs (top 38)) st (d__law_take.ps.map st) q := by
  intro q hq
  have hq : q ∈ [(2, [])] := hq
  simp only [List.mem_cons, List.not_mem_nil, or_false] at hq
  rcases hq with rfl
  · intro x qual body scope kV doc pm an cdv ct us ws h1 h2
    match us, h1, ws, h2 with
    | [_, _], _, [], _ => kernel_rfl
theorem sh__law_fraction : ∀ q ∈ d__law_fraction.sh, Shp0 (defArgs (top 39)) st (d__law_fraction.ps.map st) q := by
  intro q hq
  have hq : q ∈ [(1, [])] := hq
  simp only [List.mem_cons, List.not_mem_nil, or_false] at hq
  rcases hq with rfl
  · intro x qual body scope kV doc pm an cdv ct us ws h1 h2
    match us, h1, ws, h2 with
    | [_], _, [], _ => kernel_rfl
theorem sh__law_slip : ∀ q ∈ d__law_slip.sh, Shp0 (defArgs (top 40)) st (d__law_slip.ps.map st) q := by
  intro q hq
  have hq : q ∈ [(1, [])] := hq
  simp only [List.mem_cons, List.not_mem_nil, or_false] at hq
  rcases hq with rfl
  · intro x qual body scope kV doc pm an cdv ct us ws h1 h2
    match us, h1, ws, h2 with
    | [_], _, [], _ => kernel_rfl
theorem sh__law_names : ∀ q ∈ d__law_names.sh, Shp0 (defArgs (top 41)) st (d__law_names.ps.map st) q := by
  intro q hq
  have hq : q ∈ [(2, [])] := hq
  simp only [List.mem_cons, List.not_mem_nil, or_false] at hq
  rcases hq with rfl
  · intro x qual body scope kV doc pm an cdv ct us ws h1 h2
    match us, h1, ws, h2 with
    | [_, _], _, [], _ => kernel_rfl
theorem sh__law_number : ∀ q ∈ d__law_number.sh, Shp0 (defArgs (top 42)) st (d__law_number.ps.map st) q := by
  intro q hq
  have hq : q ∈ [(1, [])] := hq
  simp only [List.mem_cons, List.not_mem_nil, or_false] at hq
  rcases hq with rfl
  · intro x qual body scope kV doc pm an cdv ct us ws h1 h2
    match us, h1, ws, h2 with
    | [_], _, [], _ => kernel_rfl
theorem sh__law_question : ∀ q ∈ d__law_question.sh, Shp0 (defArgs (top 43)) st (d__law_question.ps.map st) q := by
  intro q hq
  have hq : q ∈ [(2, [])] := hq
  simp only [List.mem_cons, List.not_mem_nil, or_false] at hq
  rcases hq with rfl
  · intro x qual body scope kV doc pm an cdv ct us ws h1 h2
    match us, h1, ws, h2 with
    | [_, _], _, [], _ => kernel_rfl
theorem sh__law_made : ∀ q ∈ d__law_made.sh, Shp0 (defArgs (top 44)) st (d__law_made.ps.map st) q := by
  intro q hq
  have hq : q ∈ [(3, [])] := hq
  simp only [List.mem_cons, List.not_mem_nil, or_false] at hq
  rcases hq with rfl
  · intro x qual body scope kV doc pm an cdv ct us ws h1 h2
    match us, h1, ws, h2 with
    | [_, _, _], _, [], _ => kernel_rfl
theorem sh_law : ∀ q ∈ d_law.sh, Shp0 (defArgs (top 45)) st (d_law.ps.map st) q := by
  intro q hq
  have hq : q ∈ [(1, [])] := hq
  simp only [List.mem_cons, List.not_mem_nil, or_false] at hq
  rcases hq with rfl
  · intro x qual body scope kV doc pm an cdv ct us ws h1 h2
    match us, h1, ws, h2 with
    | [_], _, [], _ => kernel_rfl
theorem s0L : ∀ x ∈ LL.ds, x.d.dfl = [] → x.d.kwd = [] → ∀ q ∈ x.fd.sh, Shp0 x.d.params LL.st (x.fd.ps.map LL.st) q :=
  List.forall_mem_cons.mpr ⟨fun _ _ => sh__wall, List.forall_mem_cons.mpr ⟨fun _ _ => sh_is_integer, List.forall_mem_cons.mpr ⟨fun _ _ => sh_is_sequence, List.forall_mem_cons.mpr ⟨fun _ _ => sh_is_name, List.forall_mem_cons.mpr ⟨fun _ _ => sh_MethodError_told, List.forall_mem_cons.mpr ⟨fun _ _ => sh_NoRatio___init__, List.forall_mem_cons.mpr ⟨fun _ _ => sh_NoRatio_told, List.forall_mem_cons.mpr ⟨fun _ _ => sh_NoQuestion___init__, List.forall_mem_cons.mpr ⟨fun _ _ => sh_NoQuestion_told, List.forall_mem_cons.mpr ⟨fun _ _ => sh_OtherEffects_told, List.forall_mem_cons.mpr ⟨fun _ _ => sh_NoWorld_told, List.forall_mem_cons.mpr ⟨fun _ _ => sh_NoRun___init__, List.forall_mem_cons.mpr ⟨fun _ _ => sh_NoRun_told, List.forall_mem_cons.mpr ⟨fun _ _ => sh_NoWild_told, List.forall_mem_cons.mpr ⟨fun _ _ => sh_NoGoal___init__, List.forall_mem_cons.mpr ⟨fun _ _ => sh_NoGoal_told, List.forall_mem_cons.mpr ⟨fun _ _ => sh_NoGoals___init__, List.forall_mem_cons.mpr ⟨fun _ _ => sh_NoGoals_told, List.forall_mem_cons.mpr ⟨fun _ _ => sh_common_divisor, List.forall_mem_cons.mpr ⟨fun e => absurd e (List.cons_ne_nil _ _), List.forall_mem_cons.mpr ⟨fun _ _ => sh_Ratio___add__, List.forall_mem_cons.mpr ⟨fun _ _ => sh_Ratio___radd__, List.forall_mem_cons.mpr ⟨fun _ _ => sh_Ratio___sub__, List.forall_mem_cons.mpr ⟨fun _ _ => sh_Ratio___rsub__, List.forall_mem_cons.mpr ⟨fun _ _ => sh_Ratio___mul__, List.forall_mem_cons.mpr ⟨fun _ _ => sh_Ratio___rmul__, List.forall_mem_cons.mpr ⟨fun _ _ => sh_Ratio___neg__, List.forall_mem_cons.mpr ⟨fun _ _ => sh_Ratio___pos__, List.forall_mem_cons.mpr ⟨fun _ _ => sh_Ratio___abs__, List.forall_mem_cons.mpr ⟨fun _ _ => sh_Ratio___floordiv__, List.forall_mem_cons.mpr ⟨fun _ _ => sh_Ratio___rfloordiv__, List.forall_mem_cons.mpr ⟨fun _ _ => sh_Ratio___mod__, List.forall_mem_cons.mpr ⟨fun _ _ => sh_Ratio___rmod__, List.forall_mem_cons.mpr ⟨fun _ _ => sh_Ratio___pow__, List.forall_mem_cons.mpr ⟨fun _ _ => sh_Ratio___eq__, List.forall_mem_cons.mpr ⟨fun _ _ => sh_Ratio___lt__, List.forall_mem_cons.mpr ⟨fun _ _ => sh_Ratio___le__, List.forall_mem_cons.mpr ⟨fun _ _ => sh_Ratio___gt__, List.forall_mem_cons.mpr ⟨fun _ _ => sh_Ratio___ge__, List.forall_mem_cons.mpr ⟨fun _ _ => sh_Ratio_over, List.forall_mem_cons.mpr ⟨fun _ _ => sh_Ratio_power, List.forall_mem_cons.mpr ⟨fun _ _ => sh_Ratio_text, List.forall_mem_cons.mpr ⟨fun _ _ => sh_is_digits, List.forall_mem_cons.mpr ⟨fun _ _ => sh_is_number, List.forall_mem_cons.mpr ⟨fun _ _ => sh_as_ratio, List.forall_mem_cons.mpr ⟨fun _ _ => sh_are_effects, List.forall_mem_cons.mpr ⟨fun _ _ => sh_are_numbers, List.forall_mem_cons.mpr ⟨fun _ _ => sh_is_world, List.forall_mem_cons.mpr ⟨fun _ _ => sh_Question___init__, List.forall_mem_cons.mpr ⟨fun _ _ => sh_Question_at, List.forall_mem_cons.mpr ⟨fun _ _ => sh_Question_over, List.forall_mem_cons.mpr ⟨fun _ _ => sh_Question___add__, List.forall_mem_cons.mpr ⟨fun _ _ => sh_Question___sub__, List.forall_mem_cons.mpr ⟨fun _ _ => sh_Question___neg__, List.forall_mem_cons.mpr ⟨fun _ _ => sh_Question___mul__, List.forall_mem_cons.mpr ⟨fun _ _ => sh_Question___rmul__, List.forall_mem_cons.mpr ⟨fun _ _ => sh_Question___eq__, List.forall_mem_cons.mpr ⟨fun _ _ => sh_Run___init__, List.forall_mem_cons.mpr ⟨fun _ _ => sh_Run_sees, List.forall_mem_cons.mpr ⟨fun _ _ => sh_Run___eq__, List.forall_mem_cons.mpr ⟨fun _ e => absurd e (List.cons_ne_nil _ _), List.forall_mem_cons.mpr ⟨fun _ _ => sh_Goal___eq__, List.forall_mem_cons.mpr ⟨fun _ _ => sh__law_hand, List.forall_mem_cons.mpr ⟨fun _ _ => sh__law_take, List.forall_mem_cons.mpr ⟨fun _ _ => sh__law_fraction, List.forall_mem_cons.mpr ⟨fun _ _ => sh__law_slip, List.forall_mem_cons.mpr ⟨fun _ _ => sh__law_names, List.forall_mem_cons.mpr ⟨fun _ _ => sh__law_number, List.forall_mem_cons.mpr ⟨fun _ _ => sh__law_question, List.forall_mem_cons.mpr ⟨fun _ _ => sh__law_made, List.forall_mem_cons.mpr ⟨fun _ _ => sh_law, (fun _ h => nomatch h)⟩⟩⟩⟩⟩⟩⟩⟩⟩⟩⟩⟩⟩⟩⟩⟩⟩⟩⟩⟩⟩⟩⟩⟩⟩⟩⟩⟩⟩⟩⟩⟩⟩⟩⟩⟩⟩⟩⟩⟩⟩⟩⟩⟩⟩⟩⟩⟩⟩⟩⟩⟩⟩⟩⟩⟩⟩⟩⟩⟩⟩⟩⟩⟩⟩⟩⟩⟩⟩⟩⟩
theorem s1L : ∀ x ∈ LL.ds, x.d.dfl ≠ [] → ∀ q ∈ x.fd.sh, Shp1 x.d.params LL.st (x.fd.ps.map LL.st) x.d.dfl.length q :=
  List.forall_mem_cons.mpr ⟨fun e => absurd rfl e, List.forall_mem_cons.mpr ⟨fun e => absurd rfl e, List.forall_mem_cons.mpr ⟨fun e => absurd rfl e, List.forall_mem_cons.mpr ⟨fun e => absurd rfl e, List.forall_mem_cons.mpr ⟨fun e => absurd rfl e, List.forall_mem_cons.mpr ⟨fun e => absurd rfl e, List.forall_mem_cons.mpr ⟨fun e => absurd rfl e, List.forall_mem_cons.mpr ⟨fun e => absurd rfl e, List.forall_mem_cons.mpr ⟨fun e => absurd rfl e, List.forall_mem_cons.mpr ⟨fun e => absurd rfl e, List.forall_mem_cons.mpr ⟨fun e => absurd rfl e, List.forall_mem_cons.mpr ⟨fun e => absurd rfl e, List.forall_mem_cons.mpr ⟨fun e => absurd rfl e, List.forall_mem_cons.mpr ⟨fun e => absurd rfl e, List.forall_mem_cons.mpr ⟨fun e => absurd rfl e, List.forall_mem_cons.mpr ⟨fun e => absurd rfl e, List.forall_mem_cons.mpr ⟨fun e => absurd rfl e, List.forall_mem_cons.mpr ⟨fun e => absurd rfl e, List.forall_mem_cons.mpr ⟨fun e => absurd rfl e, List.forall_mem_cons.mpr ⟨fun _ => sh_Ratio___init__, List.forall_mem_cons.mpr ⟨fun e => absurd rfl e, List.forall_mem_cons.mpr ⟨fun e => absurd rfl e, List.forall_mem_cons.mpr ⟨fun e => absurd rfl e, List.forall_mem_cons.mpr ⟨fun e => absurd rfl e, List.forall_mem_cons.mpr ⟨fun e => absurd rfl e, List.forall_mem_cons.mpr ⟨fun e => absurd rfl e, List.forall_mem_cons.mpr ⟨fun e => absurd rfl e, List.forall_mem_cons.mpr ⟨fun e => absurd rfl e, List.forall_mem_cons.mpr ⟨fun e => absurd rfl e, List.forall_mem_cons.mpr ⟨fun e => absurd rfl e, List.forall_mem_cons.mpr ⟨fun e => absurd rfl e, List.forall_mem_cons.mpr ⟨fun e => absurd rfl e, List.forall_mem_cons.mpr ⟨fun e => absurd rfl e, List.forall_mem_cons.mpr ⟨fun e => absurd rfl e, List.forall_mem_cons.mpr ⟨fun e => absurd rfl e, List.forall_mem_cons.mpr ⟨fun e => absurd rfl e, List.forall_mem_cons.mpr ⟨fun e => absurd rfl e, List.forall_mem_cons.mpr ⟨fun e => absurd rfl e, List.forall_mem_cons.mpr ⟨fun e => absurd rfl e, List.forall_mem_cons.mpr ⟨fun e => absurd rfl e, List.forall_mem_cons.mpr ⟨fun e => absurd rfl e, List.forall_mem_cons.mpr ⟨fun e => absurd rfl e, List.forall_mem_cons.mpr ⟨fun e => absurd rfl e, List.forall_mem_cons.mpr ⟨fun e => absurd rfl e, List.forall_mem_cons.mpr ⟨fun e => absurd rfl e, List.forall_mem_cons.mpr ⟨fun e => absurd rfl e, List.forall_mem_cons.mpr ⟨fun e => absurd rfl e, List.forall_mem_cons.mpr ⟨fun e => absurd rfl e, List.forall_mem_cons.mpr ⟨fun e => absurd rfl e, List.forall_mem_cons.mpr ⟨fun e => absurd rfl e, List.forall_mem_cons.mpr ⟨fun e => absurd rfl e, List.forall_mem_cons.mpr ⟨fun e => absurd rfl e, List.forall_mem_cons.mpr ⟨fun e => absurd rfl e, List.forall_mem_cons.mpr ⟨fun e => absurd rfl e, List.forall_mem_cons.mpr ⟨fun e => absurd rfl e, List.forall_mem_cons.mpr ⟨fun e => absurd rfl e, List.forall_mem_cons.mpr ⟨fun e => absurd rfl e, List.forall_mem_cons.mpr ⟨fun e => absurd rfl e, List.forall_mem_cons.mpr ⟨fun e => absurd rfl e, List.forall_mem_cons.mpr ⟨fun e => absurd rfl e, List.forall_mem_cons.mpr ⟨fun e => absurd rfl e, List.forall_mem_cons.mpr ⟨fun e => absurd rfl e, List.forall_mem_cons.mpr ⟨fun e => absurd rfl e, List.forall_mem_cons.mpr ⟨fun e => absurd rfl e, List.forall_mem_cons.mpr ⟨fun e => absurd rfl e, List.forall_mem_cons.mpr ⟨fun e => absurd rfl e, List.forall_mem_cons.mpr ⟨fun e => absurd rfl e, List.forall_mem_cons.mpr ⟨fun e => absurd rfl e, List.forall_mem_cons.mpr ⟨fun e => absurd rfl e, List.forall_mem_cons.mpr ⟨fun e => absurd rfl e, List.forall_mem_cons.mpr ⟨fun e => absurd rfl e, (fun _ h => nomatch h)⟩⟩⟩⟩⟩⟩⟩⟩⟩⟩⟩⟩⟩⟩⟩⟩⟩⟩⟩⟩⟩⟩⟩⟩⟩⟩⟩⟩⟩⟩⟩⟩⟩⟩⟩⟩⟩⟩⟩⟩⟩⟩⟩⟩⟩⟩⟩⟩⟩⟩⟩⟩⟩⟩⟩⟩⟩⟩⟩⟩⟩⟩⟩⟩⟩⟩⟩⟩⟩⟩⟩
theorem s2L : ∀ x ∈ LL.ds, x.d.kwd ≠ [] → ∀ q ∈ x.fd.sh, Shp2 x.d.params LL.st (x.fd.ps.map LL.st) (x.d.kwd.map (·.1)) q :=
  List.forall_mem_cons.mpr ⟨fun e => absurd rfl e, List.forall_mem_cons.mpr ⟨fun e => absurd rfl e, List.forall_mem_cons.mpr ⟨fun e => absurd rfl e, List.forall_mem_cons.mpr ⟨fun e => absurd rfl e, List.forall_mem_cons.mpr ⟨fun e => absurd rfl e, List.forall_mem_cons.mpr ⟨fun e => absurd rfl e, List.forall_mem_cons.mpr ⟨fun e => absurd rfl e, List.forall_mem_cons.mpr ⟨fun e => absurd rfl e, List.forall_mem_cons.mpr ⟨fun e => absurd rfl e, List.forall_mem_cons.mpr ⟨fun e => absurd rfl e, List.forall_mem_cons.mpr ⟨fun e => absurd rfl e, List.forall_mem_cons.mpr ⟨fun e => absurd rfl e, List.forall_mem_cons.mpr ⟨fun e => absurd rfl e, List.forall_mem_cons.mpr ⟨fun e => absurd rfl e, List.forall_mem_cons.mpr ⟨fun e => absurd rfl e, List.forall_mem_cons.mpr ⟨fun e => absurd rfl e, List.forall_mem_cons.mpr ⟨fun e => absurd rfl e, List.forall_mem_cons.mpr ⟨fun e => absurd rfl e, List.forall_mem_cons.mpr ⟨fun e => absurd rfl e, List.forall_mem_cons.mpr ⟨fun e => absurd rfl e, List.forall_mem_cons.mpr ⟨fun e => absurd rfl e, List.forall_mem_cons.mpr ⟨fun e => absurd rfl e, List.forall_mem_cons.mpr ⟨fun e => absurd rfl e, List.forall_mem_cons.mpr ⟨fun e => absurd rfl e, List.forall_mem_cons.mpr ⟨fun e => absurd rfl e, List.forall_mem_cons.mpr ⟨fun e => absurd rfl e, List.forall_mem_cons.mpr ⟨fun e => absurd rfl e, List.forall_mem_cons.mpr ⟨fun e => absurd rfl e, List.forall_mem_cons.mpr ⟨fun e => absurd rfl e, List.forall_mem_cons.mpr ⟨fun e => absurd rfl e, List.forall_mem_cons.mpr ⟨fun e => absurd rfl e, List.forall_mem_cons.mpr ⟨fun e => absurd rfl e, List.forall_mem_cons.mpr ⟨fun e => absurd rfl e, List.forall_mem_cons.mpr ⟨fun e => absurd rfl e, List.forall_mem_cons.mpr ⟨fun e => absurd rfl e, List.forall_mem_cons.mpr ⟨fun e => absurd rfl e, List.forall_mem_cons.mpr ⟨fun e => absurd rfl e, List.forall_mem_cons.mpr ⟨fun e => absurd rfl e, List.forall_mem_cons.mpr ⟨fun e => absurd rfl e, List.forall_mem_cons.mpr ⟨fun e => absurd rfl e, List.forall_mem_cons.mpr ⟨fun e => absurd rfl e, List.forall_mem_cons.mpr ⟨fun e => absurd rfl e, List.forall_mem_cons.mpr ⟨fun e => absurd rfl e, List.forall_mem_cons.mpr ⟨fun e => absurd rfl e, List.forall_mem_cons.mpr ⟨fun e => absurd rfl e, List.forall_mem_cons.mpr ⟨fun e => absurd rfl e, List.forall_mem_cons.mpr ⟨fun e => absurd rfl e, List.forall_mem_cons.mpr ⟨fun e => absurd rfl e, List.forall_mem_cons.mpr ⟨fun e => absurd rfl e, List.forall_mem_cons.mpr ⟨fun e => absurd rfl e, List.forall_mem_cons.mpr ⟨fun e => absurd rfl e, List.forall_mem_cons.mpr ⟨fun e => absurd rfl e, List.forall_mem_cons.mpr ⟨fun e => absurd rfl e, List.forall_mem_cons.mpr ⟨fun e => absurd rfl e, List.forall_mem_cons.mpr ⟨fun e => absurd rfl e, List.forall_mem_cons.mpr ⟨fun e => absurd rfl e, List.forall_mem_cons.mpr ⟨fun e => absurd rfl e, List.forall_mem_cons.mpr ⟨fun e => absurd rfl e, List.forall_mem_cons.mpr ⟨fun e => absurd rfl e, List.forall_mem_cons.mpr ⟨fun e => absurd rfl e, List.forall_mem_cons.mpr ⟨fun _ => sh_Goal___init__, List.forall_mem_cons.mpr ⟨fun e => absurd rfl e, List.forall_mem_cons.mpr ⟨fun e => absurd rfl e, List.forall_mem_cons.mpr ⟨fun e => absurd rfl e, List.forall_mem_cons.mpr ⟨fun e => absurd rfl e, List.forall_mem_cons.mpr ⟨fun e => absurd rfl e, List.forall_mem_cons.mpr ⟨fun e => absurd rfl e, List.forall_mem_cons.mpr ⟨fun e => absurd rfl e, List.forall_mem_cons.mpr ⟨fun e => absurd rfl e, List.forall_mem_cons.mpr ⟨fun e => absurd rfl e, List.forall_mem_cons.mpr ⟨fun e => absurd rfl e, (fun _ h => nomatch h)⟩⟩⟩⟩⟩⟩⟩⟩⟩⟩⟩⟩⟩⟩⟩⟩⟩⟩⟩⟩⟩⟩⟩⟩⟩⟩⟩⟩⟩⟩⟩⟩⟩⟩⟩⟩⟩⟩⟩⟩⟩⟩⟩⟩⟩⟩⟩⟩⟩⟩⟩⟩⟩⟩⟩⟩⟩⟩⟩⟩⟩⟩⟩⟩⟩⟩⟩⟩⟩⟩⟩
theorem staL : LL.Sta := LD.sta st_inj (by decide +kernel) (by decide +kernel) (by decide +kernel) (fun o => by cases o <;> decide +kernel) (fun o => by cases o <;> decide +kernel) dbL s0L s1L s2L
theorem xinL : LL.xinB = true := by decide +kernel
theorem tldL : LL.tldB = true := by decide +kernel
end Py

set_option Elab.async false
set_option linter.all false
set_option maxRecDepth 100000
set_option maxHeartbeats 0
namespace Py
open PySem (Str)
section
variable {c m : Nm → List PV → EH → Res PV} {h : EH}
@[simp] theorem cd__wall_0 (a0 : PV) : callD ⟨PP, c, m⟩ ._wall [a0] [] h = c ._wall [a0] h := by kernel_rfl
@[simp] theorem cg__wall_0 (a0 : PV) : callG ⟨PP, c, m⟩ ._wall [a0] [] h = c ._wall [a0] h := by kernel_rfl
@[simp] theorem cd_is_integer_0 (a0 : PV) : callD ⟨PP, c, m⟩ .is_integer [a0] [] h = c .is_integer [a0] h := by kernel_rfl
@[simp] theorem cg_is_integer_0 (a0 : PV) : callG ⟨PP, c, m⟩ .is_integer [a0] [] h = c .is_integer [a0] h := by kernel_rfl
@[simp] theorem cd_is_sequence_0 (a0 : PV) : callD ⟨PP, c, m⟩ .is_sequence [a0] [] h = c .is_sequence [a0] h := by kernel_rfl
@[simp] theorem cg_is_sequence_0 (a0 : PV) : callG ⟨PP, c, m⟩ .is_sequence [a0] [] h = c .is_sequence [a0] h := by kernel_rfl
@[simp] theorem cd_is_name_0 (a0 : PV) : callD ⟨PP, c, m⟩ .is_name [a0] [] h = c .is_name [a0] h := by kernel_rfl
@[simp] theorem cg_is_name_0 (a0 : PV) : callG ⟨PP, c, m⟩ .is_name [a0] [] h = c .is_name [a0] h := by kernel_rfl
@[simp] theorem cd_common_divisor_0 (a0 a1 : PV) : callD ⟨PP, c, m⟩ .common_divisor [a0, a1] [] h = c .common_divisor [a0, a1] h := by kernel_rfl
@[simp] theorem cg_common_divisor_0 (a0 a1 : PV) : callG ⟨PP, c, m⟩ .common_divisor [a0, a1] [] h = c .common_divisor [a0, a1] h := by kernel_rfl
@[simp] theorem cd_Ratio___init___0 (a0 a1 : PV) : callD ⟨PP, c, m⟩ .Ratio___init__ [a0, a1] [] h = c .Ratio___init__ [a0, a1, (.int 1)] h := by kernel_rfl
@[simp] theorem cd_Ratio___init___1 (a0 a1 a2 : PV) : callD ⟨PP, c, m⟩ .Ratio___init__ [a0, a1, a2] [] h = c .Ratio___init__ [a0, a1, a2] h := by kernel_rfl
@[simp] theorem cd_Ratio___add___0 (a0 a1 : PV) : callD ⟨PP, c, m⟩ .Ratio___add__ [a0, a1] [] h = c .Ratio___add__ [a0, a1] h := by kernel_rfl
@[simp] theorem cd_Ratio___radd___0 (a0 a1 : PV) : callD ⟨PP, c, m⟩ .Ratio___radd__ [a0, a1] [] h = c .Ratio___radd__ [a0, a1] h := by kernel_rfl
@[simp] theorem cd_Ratio___sub___0 (a0 a1 : PV) : callD ⟨PP, c, m⟩ .Ratio___sub__ [a0, a1] [] h = c .Ratio___sub__ [a0, a1] h := by kernel_rfl
@[simp] theorem cd_Ratio___rsub___0 (a0 a1 : PV) : callD ⟨PP, c, m⟩ .Ratio___rsub__ [a0, a1] [] h = c .Ratio___rsub__ [a0, a1] h := by kernel_rfl
@[simp] theorem cd_Ratio___mul___0 (a0 a1 : PV) : callD ⟨PP, c, m⟩ .Ratio___mul__ [a0, a1] [] h = c .Ratio___mul__ [a0, a1] h := by kernel_rfl
@[simp] theorem cd_Ratio___rmul___0 (a0 a1 : PV) : callD ⟨PP, c, m⟩ .Ratio___rmul__ [a0, a1] [] h = c .Ratio___rmul__ [a0, a1] h := by kernel_rfl
@[simp] theorem cd_Ratio___neg___0 (a0 : PV) : callD ⟨PP, c, m⟩ .Ratio___neg__ [a0] [] h = c .Ratio___neg__ [a0] h := by kernel_rfl
@[simp] theorem cd_Ratio___pos___0 (a0 : PV) : callD ⟨PP, c, m⟩ .Ratio___pos__ [a0] [] h = c .Ratio___pos__ [a0] h := by kernel_rfl
@[simp] theorem cd_Ratio___abs___0 (a0 : PV) : callD ⟨PP, c, m⟩ .Ratio___abs__ [a0] [] h = c .Ratio___abs__ [a0] h := by kernel_rfl
@[simp] theorem cd_Ratio___floordiv___0 (a0 a1 : PV) : callD ⟨PP, c, m⟩ .Ratio___floordiv__ [a0, a1] [] h = c .Ratio___floordiv__ [a0, a1] h := by kernel_rfl
@[simp] theorem cd_Ratio___rfloordiv___0 (a0 a1 : PV) : callD ⟨PP, c, m⟩ .Ratio___rfloordiv__ [a0, a1] [] h = c .Ratio___rfloordiv__ [a0, a1] h := by kernel_rfl
@[simp] theorem cd_Ratio___mod___0 (a0 a1 : PV) : callD ⟨PP, c, m⟩ .Ratio___mod__ [a0, a1] [] h = c .Ratio___mod__ [a0, a1] h := by kernel_rfl
@[simp] theorem cd_Ratio___rmod___0 (a0 a1 : PV) : callD ⟨PP, c, m⟩ .Ratio___rmod__ [a0, a1] [] h = c .Ratio___rmod__ [a0, a1] h := by kernel_rfl
@[simp] theorem cd_Ratio___pow___0 (a0 a1 : PV) : callD ⟨PP, c, m⟩ .Ratio___pow__ [a0, a1] [] h = c .Ratio___pow__ [a0, a1] h := by kernel_rfl
@[simp] theorem cd_Ratio___eq___0 (a0 a1 : PV) : callD ⟨PP, c, m⟩ .Ratio___eq__ [a0, a1] [] h = c .Ratio___eq__ [a0, a1] h := by kernel_rfl
@[simp] theorem cd_Ratio___lt___0 (a0 a1 : PV) : callD ⟨PP, c, m⟩ .Ratio___lt__ [a0, a1] [] h = c .Ratio___lt__ [a0, a1] h := by kernel_rfl
@[simp] theorem cd_Ratio___le___0 (a0 a1 : PV) : callD ⟨PP, c, m⟩ .Ratio___le__ [a0, a1] [] h = c .Ratio___le__ [a0, a1] h := by kernel_rfl
@[simp] theorem cd_Ratio___gt___0 (a0 a1 : PV) : callD ⟨PP, c, m⟩ .Ratio___gt__ [a0, a1] [] h = c .Ratio___gt__ [a0, a1] h := by kernel_rfl
@[simp] theorem cd_Ratio___ge___0 (a0 a1 : PV) : callD ⟨PP, c, m⟩ .Ratio___ge__ [a0, a1] [] h = c .Ratio___ge__ [a0, a1] h := by kernel_rfl
@[simp] theorem cd_Ratio_power_0 (a0 a1 : PV) : callD ⟨PP, c, m⟩ .Ratio_power [a0, a1] [] h = c .Ratio_power [a0, a1] h := by kernel_rfl
@[simp] theorem cd_Ratio_text_0 (a0 : PV) : callD ⟨PP, c, m⟩ .Ratio_text [a0] [] h = c .Ratio_text [a0] h := by kernel_rfl
@[simp] theorem cd_is_digits_0 (a0 : PV) : callD ⟨PP, c, m⟩ .is_digits [a0] [] h = c .is_digits [a0] h := by kernel_rfl
@[simp] theorem cg_is_digits_0 (a0 : PV) : callG ⟨PP, c, m⟩ .is_digits [a0] [] h = c .is_digits [a0] h := by kernel_rfl
@[simp] theorem cd_is_number_0 (a0 : PV) : callD ⟨PP, c, m⟩ .is_number [a0] [] h = c .is_number [a0] h := by kernel_rfl
@[simp] theorem cg_is_number_0 (a0 : PV) : callG ⟨PP, c, m⟩ .is_number [a0] [] h = c .is_number [a0] h := by kernel_rfl
@[simp] theorem cd_as_ratio_0 (a0 : PV) : callD ⟨PP, c, m⟩ .as_ratio [a0] [] h = c .as_ratio [a0] h := by kernel_rfl
@[simp] theorem cg_as_ratio_0 (a0 : PV) : callG ⟨PP, c, m⟩ .as_ratio [a0] [] h = c .as_ratio [a0] h := by kernel_rfl
@[simp] theorem cd_are_effects_0 (a0 : PV) : callD ⟨PP, c, m⟩ .are_effects [a0] [] h = c .are_effects [a0] h := by kernel_rfl
@[simp] theorem cg_are_effects_0 (a0 : PV) : callG ⟨PP, c, m⟩ .are_effects [a0] [] h = c .are_effects [a0] h := by kernel_rfl
@[simp] theorem cd_are_numbers_0 (a0 a1 : PV) : callD ⟨PP, c, m⟩ .are_numbers [a0, a1] [] h = c .are_numbers [a0, a1] h := by kernel_rfl
@[simp] theorem cg_are_numbers_0 (a0 a1 : PV) : callG ⟨PP, c, m⟩ .are_numbers [a0, a1] [] h = c .are_numbers [a0, a1] h := by kernel_rfl
@[simp] theorem cd_is_world_0 (a0 a1 : PV) : callD ⟨PP, c, m⟩ .is_world [a0, a1] [] h = c .is_world [a0, a1] h := by kernel_rfl
@[simp] theorem cg_is_world_0 (a0 a1 : PV) : callG ⟨PP, c, m⟩ .is_world [a0, a1] [] h = c .is_world [a0, a1] h := by kernel_rfl
@[simp] theorem cd_Question___init___0 (a0 a1 a2 : PV) : callD ⟨PP, c, m⟩ .Question___init__ [a0, a1, a2] [] h = c .Question___init__ [a0, a1, a2] h := by kernel_rfl
@[simp] theorem cd_Question___add___0 (a0 a1 : PV) : callD ⟨PP, c, m⟩ .Question___add__ [a0, a1] [] h = c .Question___add__ [a0, a1] h := by kernel_rfl
@[simp] theorem cd_Question___sub___0 (a0 a1 : PV) : callD ⟨PP, c, m⟩ .Question___sub__ [a0, a1] [] h = c .Question___sub__ [a0, a1] h := by kernel_rfl
@[simp] theorem cd_Question___neg___0 (a0 : PV) : callD ⟨PP, c, m⟩ .Question___neg__ [a0] [] h = c .Question___neg__ [a0] h := by kernel_rfl
@[simp] theorem cd_Question___mul___0 (a0 a1 : PV) : callD ⟨PP, c, m⟩ .Question___mul__ [a0, a1] [] h = c .Question___mul__ [a0, a1] h := by kernel_rfl
@[simp] theorem cd_Question___rmul___0 (a0 a1 : PV) : callD ⟨PP, c, m⟩ .Question___rmul__ [a0, a1] [] h = c .Question___rmul__ [a0, a1] h := by kernel_rfl
@[simp] theorem cd_Question___eq___0 (a0 a1 : PV) : callD ⟨PP, c, m⟩ .Question___eq__ [a0, a1] [] h = c .Question___eq__ [a0, a1] h := by kernel_rfl
@[simp] theorem cd_Run___init___0 (a0 a1 a2 : PV) : callD ⟨PP, c, m⟩ .Run___init__ [a0, a1, a2] [] h = c .Run___init__ [a0, a1, a2] h := by kernel_rfl
@[simp] theorem cd_Run___eq___0 (a0 a1 : PV) : callD ⟨PP, c, m⟩ .Run___eq__ [a0, a1] [] h = c .Run___eq__ [a0, a1] h := by kernel_rfl
@[simp] theorem cd_Goal___init___0 (a0 a1 a2 : PV) : callD ⟨PP, c, m⟩ .Goal___init__ [a0, a1, a2] [] h = c .Goal___init__ [a0, a1, a2, (.int 0)] h := by kernel_rfl
@[simp] theorem cd_Goal___init___1 (a0 a1 a2 b0 : PV) : callD ⟨PP, c, m⟩ .Goal___init__ [a0, a1, a2] [(.wild, b0)] h = c .Goal___init__ [a0, a1, a2, b0] h := by kernel_rfl
@[simp] theorem cd_Goal___eq___0 (a0 a1 : PV) : callD ⟨PP, c, m⟩ .Goal___eq__ [a0, a1] [] h = c .Goal___eq__ [a0, a1] h := by kernel_rfl
@[simp] theorem cd__law_hand_0 (a0 a1 : PV) : callD ⟨PP, c, m⟩ ._law_hand [a0, a1] [] h = c ._law_hand [a0, a1] h := by kernel_rfl
@[simp] theorem cg__law_hand_0 (a0 a1 : PV) : callG ⟨PP, c, m⟩ ._law_hand [a0, a1] [] h = c ._law_hand [a0, a1] h := by kernel_rfl
@[simp] theorem cd__law_take_0 (a0 a1 : PV) : callD ⟨PP, c, m⟩ ._law_take [a0, a1] [] h = c ._law_take [a0, a1] h := by kernel_rfl
@[simp] theorem cg__law_take_0 (a0 a1 : PV) : callG ⟨PP, c, m⟩ ._law_take [a0, a1] [] h = c ._law_take [a0, a1] h := by kernel_rfl
@[simp] theorem cd__law_fraction_0 (a0 : PV) : callD ⟨PP, c, m⟩ ._law_fraction [a0] [] h = c ._law_fraction [a0] h := by kernel_rfl
@[simp] theorem cg__law_fraction_0 (a0 : PV) : callG ⟨PP, c, m⟩ ._law_fraction [a0] [] h = c ._law_fraction [a0] h := by kernel_rfl
@[simp] theorem cd__law_slip_0 (a0 : PV) : callD ⟨PP, c, m⟩ ._law_slip [a0] [] h = c ._law_slip [a0] h := by kernel_rfl
@[simp] theorem cg__law_slip_0 (a0 : PV) : callG ⟨PP, c, m⟩ ._law_slip [a0] [] h = c ._law_slip [a0] h := by kernel_rfl
@[simp] theorem cd__law_names_0 (a0 a1 : PV) : callD ⟨PP, c, m⟩ ._law_names [a0, a1] [] h = c ._law_names [a0, a1] h := by kernel_rfl
@[simp] theorem cg__law_names_0 (a0 a1 : PV) : callG ⟨PP, c, m⟩ ._law_names [a0, a1] [] h = c ._law_names [a0, a1] h := by kernel_rfl
@[simp] theorem cd__law_number_0 (a0 : PV) : callD ⟨PP, c, m⟩ ._law_number [a0] [] h = c ._law_number [a0] h := by kernel_rfl
@[simp] theorem cg__law_number_0 (a0 : PV) : callG ⟨PP, c, m⟩ ._law_number [a0] [] h = c ._law_number [a0] h := by kernel_rfl
@[simp] theorem cd__law_question_0 (a0 a1 : PV) : callD ⟨PP, c, m⟩ ._law_question [a0, a1] [] h = c ._law_question [a0, a1] h := by kernel_rfl
@[simp] theorem cg__law_question_0 (a0 a1 : PV) : callG ⟨PP, c, m⟩ ._law_question [a0, a1] [] h = c ._law_question [a0, a1] h := by kernel_rfl
@[simp] theorem cd__law_made_0 (a0 a1 a2 : PV) : callD ⟨PP, c, m⟩ ._law_made [a0, a1, a2] [] h = c ._law_made [a0, a1, a2] h := by kernel_rfl
@[simp] theorem cg__law_made_0 (a0 a1 a2 : PV) : callG ⟨PP, c, m⟩ ._law_made [a0, a1, a2] [] h = c ._law_made [a0, a1, a2] h := by kernel_rfl
@[simp] theorem cd_law_0 (a0 : PV) : callD ⟨PP, c, m⟩ .law [a0] [] h = c .law [a0] h := by kernel_rfl
@[simp] theorem cg_law_0 (a0 : PV) : callG ⟨PP, c, m⟩ .law [a0] [] h = c .law [a0] h := by kernel_rfl
theorem mk_Ratio (args : List PV) (kw : List (Nm × PV)) : callG ⟨PP, c, m⟩ .Ratio args kw h = make ⟨PP, c, m⟩ c_Ratio args kw h := by kernel_rfl
theorem mk_Question (args : List PV) (kw : List (Nm × PV)) : callG ⟨PP, c, m⟩ .Question args kw h = make ⟨PP, c, m⟩ c_Question args kw h := by kernel_rfl
theorem mk_Run (args : List PV) (kw : List (Nm × PV)) : callG ⟨PP, c, m⟩ .Run args kw h = make ⟨PP, c, m⟩ c_Run args kw h := by kernel_rfl
theorem mk_Goal (args : List PV) (kw : List (Nm × PV)) : callG ⟨PP, c, m⟩ .Goal args kw h = make ⟨PP, c, m⟩ c_Goal args kw h := by kernel_rfl
end
end Py

set_option Elab.async false
set_option linter.all false
set_option maxRecDepth 100000
set_option maxHeartbeats 1000017
/-! rows of statements in parts -/
namespace Py
open PySem (Str)
section
variable {C : Cxt} {σ : Env} {h : EH} {Xs : Exc → Env → EH → Prop} {Qs : Fl → Env → EH → Prop}
theorem evSs_app : ∀ (a b : List S) (σ : Env) (h : EH), evSs C (a ++ b) σ h = (evSs C a σ h).next fun σ h => evSs C b σ h
  | [], b, σ, h => by simp [RS.next]
  | s :: a, b, σ, h => by
    rw [List.cons_append, evSs_cons, evSs_cons]
    cases evS C s σ h with
    | ok f σ h => cases f <;> first | exact evSs_app a b σ h | rfl
    | err x σ h => rfl
    | stuck => rfl
theorem TS_app (kk : KtS Xs Qs) (a b : List S) : TS kk (evSs C (a ++ b) σ h) = Ts Xs (nxt kk fun σ h => evSs C b σ h) (evSs C a σ h) := by
  rw [evSs_app]
  exact TS_next _ _ _
/-- a row cut at n -/
theorem TS_cut (kk : KtS Xs Qs) (n : Nat) (l : List S) {r : List S} (hr : l.drop n = r) (t : Ts Xs (nxt kk fun σ h => evSs C r σ h) (evSs C (l.take n) σ h)) : TS kk (evSs C l σ h) := by
  subst hr
  rw [← List.take_append_drop n l, TS_app]
  exact t
theorem lowL_of {m : Nat} : ∀ {l : List PV}, (∀ x ∈ l, x.lowB m = true) → lowL m l = true
  | [], _ => rfl
  | x :: l, w => by
    have ih := lowL_of (m := m) (l := l) fun y hy => w y (List.mem_cons_of_mem _ hy)
    simp [lowL, w x List.mem_cons_self, ih]
/-- the end of the law's def -/
theorem shut_law {kk : Kt (NX) (fun a _ => a = PV.bl true)} : TE kk (shut [] (.bl true) h) := shut_val (l := fun _ => False) ⟨Nat.zero_le _, fun _ hn => absurd hn (Nat.not_lt_zero _)⟩ (fun _ e => by cases e) fun _ _ _ => rfl
theorem ne_eq {a b : PV} (ha : asIns h a = none) (hb : asIns h b = none) : opCmp C .ne a b h = notR (eqR C a b h) := by
  unfold opCmp
  simp only [ha, hb]
end
end Py

set_option Elab.async false
set_option linter.all false
set_option maxRecDepth 100000
set_option maxHeartbeats 1000017
namespace Py
open PySem (Str)
theorem callG_f {C : Cxt} {f : Nm} {args : List PV} {kw : List (Nm × PV)} {h : EH} (e : (C.P.fn f).isSome = true) : callG C f args kw h = callD C f args kw h := by
  unfold callG
  cases q : C.P.fn f with
  | none => simp [q] at e
  | some _ => rfl
/-- bits -/
def lb (i : Int) : Nat := i.natAbs.log2
theorem log_lt {n e : Nat} (h0 : n ≠ 0) (h : n < 2 ^ e) : n.log2 < e := (Nat.log2_lt h0).mpr h
theorem lt_log {n : Nat} : n < 2 ^ (n.log2 + 1) := by
  by_cases h0 : n = 0
  · subst h0; decide
  · exact (Nat.log2_lt h0).mp (Nat.lt_succ_self _)
theorem log_le {n e : Nat} (h : n < 2 ^ (e + 1)) : n.log2 ≤ e := by
  by_cases h0 : n = 0
  · subst h0; simp
  · exact Nat.le_of_lt_succ (log_lt h0 h)
theorem log_mono {a b : Nat} (h : a ≤ b) : a.log2 ≤ b.log2 := log_le (Nat.lt_of_le_of_lt h lt_log)
theorem lb_mul (i j : Int) : lb (i * j) ≤ lb i + lb j + 1 := by
  unfold lb
  rw [Int.natAbs_mul]
  refine log_le ?_
  rw [show i.natAbs.log2 + j.natAbs.log2 + 1 + 1 = (i.natAbs.log2 + 1) + (j.natAbs.log2 + 1) by omega, Nat.pow_add]
  exact Nat.mul_lt_mul'' lt_log lt_log
theorem lb_add (i j : Int) : lb (i + j) ≤ max (lb i) (lb j) + 1 := by
  unfold lb
  refine log_le ?_
  have h1 : i.natAbs < 2 ^ (max i.natAbs.log2 j.natAbs.log2 + 1) := Nat.lt_of_lt_of_le lt_log (Nat.pow_le_pow_right (by decide) (by omega))
  have h2 : j.natAbs < 2 ^ (max i.natAbs.log2 j.natAbs.log2 + 1) := Nat.lt_of_lt_of_le lt_log (Nat.pow_le_pow_right (by decide) (by omega))
  have h3 := Int.natAbs_add_le i j
  rw [Nat.pow_succ]
  omega
theorem lb_neg (i : Int) : lb (-i) = lb i := by unfold lb; rw [Int.natAbs_neg]
theorem lb_sub (i j : Int) : lb (i - j) ≤ max (lb i) (lb j) + 1 := by
  have := lb_add i (-j)
  rw [lb_neg] at this
  exact this
theorem lb_le {i j : Int} (h : i.natAbs ≤ j.natAbs) : lb i ≤ lb j := log_mono h
theorem lb_of {i : Int} {e : Nat} (h : i.natAbs < 2 ^ (e + 1)) : lb i ≤ e := log_le h
theorem lb_abs {i e : Int} (h : i.natAbs ≤ e.natAbs) {n : Nat} (he : lb e ≤ n) : lb i ≤ n := Nat.le_trans (lb_le h) he
theorem lb_fmod {i j : Int} (hj : 0 < j) : lb (i.fmod j) ≤ lb j := by
  refine lb_le ?_
  have h1 := Int.fmod_nonneg_of_pos i hj
  have h2 := Int.fmod_lt_of_pos i hj
  omega
theorem lb_fdiv {i j : Int} : lb (i.fdiv j) ≤ lb i := lb_le (Int.natAbs_fdiv_le_natAbs i j)
theorem mul_b {i j : Int} (h : lb i + lb j < 1000000) : intBin .mul i j = some (i * j) := if_pos h
theorem fdiv_b {i j : Int} (h0 : j ≠ 0) (h : lb j < 9000) : intBin .fdiv i j = some (i.fdiv j) := if_pos ⟨h0, h⟩
theorem fmod_b {i j : Int} (h0 : j ≠ 0) : intBin .mod i j = some (i.fmod j) := if_pos h0
/-- bits of a fraction -/
def bt (q : Rat) : Nat := max (lb q.num) (lb (q.den : Int))
theorem bt_num (q : Rat) : lb q.num ≤ bt q := Nat.le_max_left _ _
theorem bt_den (q : Rat) : lb (q.den : Int) ≤ bt q := Nat.le_max_right _ _
theorem bt_div {T B : Int} {e : Nat} (h1 : lb T ≤ e) (h2 : lb B ≤ e) (h0 : B ≠ 0) : bt (Rat.divInt T B) ≤ e := by
  refine Nat.max_le.mpr ⟨Nat.le_trans (lb_le ?_) h1, Nat.le_trans (lb_le ?_) h2⟩
  · rw [Rat.num_divInt]
    refine Nat.le_trans (Int.natAbs_ediv_le_natAbs _ _) ?_
    rw [Int.natAbs_mul, Int.natAbs_sign_of_ne_zero h0, Nat.one_mul]
    exact Nat.le_refl _
  · rw [Rat.den_divInt, if_neg h0]
    exact Nat.div_le_self _ _
theorem den_ne1 (q : Rat) : (q.den : Int) ≠ 0 := by have := q.den_pos; omega
theorem den_pos1 (q : Rat) : (0 : Int) < q.den := by have := q.den_pos; omega
theorem den_ne (p q : Rat) : (p.den : Int) * q.den ≠ 0 := Int.mul_ne_zero (den_ne1 p) (den_ne1 q)
theorem add_eq (p q : Rat) : Rat.divInt (p.num * q.den + q.num * p.den) (p.den * q.den) = p + q := by
  rw [← Rat.divInt_add_divInt _ _ (den_ne1 p) (den_ne1 q), Rat.num_divInt_den, Rat.num_divInt_den]
theorem sub_eq (p q : Rat) : Rat.divInt (p.num * q.den - q.num * p.den) (p.den * q.den) = p - q := by
  rw [← Rat.divInt_sub_divInt _ _ (den_ne1 p) (den_ne1 q), Rat.num_divInt_den, Rat.num_divInt_den]
theorem mul_eq (p q : Rat) : Rat.divInt (p.num * q.num) (p.den * q.den) = p * q := by
  rw [← Rat.divInt_mul_divInt, Rat.num_divInt_den, Rat.num_divInt_den]
theorem bt_mul (p q : Rat) : bt (p * q) ≤ bt p + bt q + 1 := by
  rw [← mul_eq]
  have := lb_mul p.num q.num
  have := lb_mul p.den q.den
  have := bt_num p; have := bt_num q; have := bt_den p; have := bt_den q
  exact bt_div (by omega) (by omega) (den_ne p q)
theorem bt_add (p q : Rat) : bt (p + q) ≤ bt p + bt q + 2 := by
  rw [← add_eq]
  have := lb_mul p.num q.den
  have := lb_mul q.num p.den
  have := lb_mul p.den q.den
  have := lb_add (p.num * q.den) (q.num * p.den)
  have := bt_num p; have := bt_num q; have := bt_den p; have := bt_den q
  exact bt_div (by omega) (by omega) (den_ne p q)
theorem bt_sub (p q : Rat) : bt (p - q) ≤ bt p + bt q + 2 := by
  rw [← sub_eq]
  have := lb_mul p.num q.den
  have := lb_mul q.num p.den
  have := lb_mul p.den q.den
  have := lb_sub (p.num * q.den) (q.num * p.den)
  have := bt_num p; have := bt_num q; have := bt_den p; have := bt_den q
  exact bt_div (by omega) (by omega) (den_ne p q)
theorem bt_neg (p : Rat) : bt (-p) = bt p := by unfold bt; rw [Rat.neg_num, lb_neg, Rat.neg_den]
theorem bt_int (i : Int) : bt (i : Rat) = lb i := by
  unfold bt
  have : lb (((i : Rat).den : Nat) : Int) = 0 := by show lb 1 = 0; decide
  rw [this]
  exact Nat.max_eq_left (Nat.zero_le _)
theorem num_ne {q : Rat} (h : q ≠ 0) : q.num ≠ 0 := fun e => h (Rat.num_eq_zero.mp e)
theorem over_eq {p q : Rat} : Rat.divInt (p.num * q.den) (p.den * q.num) = p / q := by
  rw [← Rat.divInt_mul_divInt, Rat.num_divInt_den, ← Rat.inv_divInt, Rat.num_divInt_den, Rat.div_def]
theorem bt_over {p q : Rat} (h : q ≠ 0) : bt (p / q) ≤ bt p + bt q + 1 := by
  rw [← over_eq]
  have := lb_mul p.num q.den
  have := lb_mul p.den q.num
  have := bt_num p; have := bt_num q; have := bt_den p; have := bt_den q
  exact bt_div (by omega) (by omega) (Int.mul_ne_zero (den_ne1 p) (num_ne h))
/-- a fraction -/
def R (q : Rat) : PV := .obj .Ratio [(.top, .int q.num), (.bottom, .int (q.den : Int))]
section
variable {k : Nat} {h : EH}
@[simp] theorem is_int_i (i : Int) : callF PP (k + 3) .is_integer [.int i] h = .ok (.bl true) h := by
  refine TE.eq ?_
  refine TE_call d_is_integer (by simp) rfl (TE_end0 rfl ?_)
  simp [d_is_integer, start, bCall, isOne, tyL, tyOf]
@[simp] theorem is_int_R (q : Rat) : callF PP (k + 3) .is_integer [R q] h = .ok (.bl false) h := by
  refine TE.eq ?_
  refine TE_call d_is_integer (by simp) rfl (TE_end0 rfl ?_)
  simp [d_is_integer, start, bCall, isOne, tyL, tyOf, R, Prog.inst, c_Ratio]
@[simp] theorem is_int_bl (b : Bool) : callF PP (k + 3) .is_integer [.bl b] h = .ok (.bl false) h := by
  refine TE.eq ?_
  refine TE_call d_is_integer (by simp) rfl (TE_end0 rfl ?_)
  simp [d_is_integer, start, bCall, isOne, tyL, tyOf]
@[simp] theorem is_int_non  : callF PP (k + 3) .is_integer [.non] h = .ok (.bl false) h := by
  refine TE.eq ?_
  refine TE_call d_is_integer (by simp) rfl (TE_end0 rfl ?_)
  simp [d_is_integer, start, bCall, isOne, tyL, tyOf]
@[simp] theorem is_int_str (s : Str) : callF PP (k + 3) .is_integer [.str s] h = .ok (.bl false) h := by
  refine TE.eq ?_
  refine TE_call d_is_integer (by simp) rfl (TE_end0 rfl ?_)
  simp [d_is_integer, start, bCall, isOne, tyL, tyOf]
@[simp] theorem is_int_tup (xs : List PV) : callF PP (k + 3) .is_integer [.tup xs] h = .ok (.bl false) h := by
  refine TE.eq ?_
  refine TE_call d_is_integer (by simp) rfl (TE_end0 rfl ?_)
  simp [d_is_integer, start, bCall, isOne, tyL, tyOf]
@[simp] theorem is_int_lst (xs : List PV) : callF PP (k + 3) .is_integer [.lst xs] h = .ok (.bl false) h := by
  refine TE.eq ?_
  refine TE_call d_is_integer (by simp) rfl (TE_end0 rfl ?_)
  simp [d_is_integer, start, bCall, isOne, tyL, tyOf]
@[simp] theorem is_int_dct (xs : List (Key × PV)) : callF PP (k + 3) .is_integer [.dct xs] h = .ok (.bl false) h := by
  refine TE.eq ?_
  refine TE_call d_is_integer (by simp) rfl (TE_end0 rfl ?_)
  simp [d_is_integer, start, bCall, isOne, tyL, tyOf]
theorem gcd_loop {C : Cxt} : ∀ (n : Nat) (a b : Nat), b ≤ n → evS C (.whl (.cmp .gt (.v 1) (.i 0)) [.par [0, 1] [.v 1, .bin .mod (.v 0) (.v 1)]]) [some (.int a), some (.int b)] h = .ok .nx [some (.int (Nat.gcd b a : Nat)), some (.int 0)] h := by
  intro n
  induction n with
  | zero =>
    intro a b hb
    obtain rfl : b = 0 := by omega
    rw [whl_turn]
    simp
  | succ n ih =>
    intro a b hb
    rw [whl_turn]
    by_cases h0 : b = 0
    · subst h0; simp
    · have hp : (0 : Int) < b := by omega
      have hm : Int.fmod (a : Int) (b : Int) = ((a % b : Nat) : Int) := by
        rw [Int.fmod_eq_emod_of_nonneg _ (by omega)]; rfl
      have hl : a % b ≤ n := by have := Nat.mod_lt a (show 0 < b by omega); omega
      have hb0 : 0 < b := by omega
      have ih' := ih b (a % b) hl
      rw [Int.natCast_emod] at ih'
      simp [hb0, h0, hm, ih']
      rw [Nat.gcd_rec b a]
theorem gcd_ok (a b : Nat) : callF PP (k + 3) .common_divisor [.int a, .int b] h = .ok (.int (Nat.gcd b a : Nat)) h := by
  rw [callF_eq]
  simp [d_common_divisor, start, endF, gcd_loop b a b (Nat.le_refl _)]
theorem gdiv_pos {g T : Int} (hg : 0 < g) : T.fdiv g = T / g := Int.fdiv_eq_ediv_of_nonneg _ (by omega)
theorem gdiv_neg {g T : Int} (hg : 0 < g) (hd : g ∣ T) : T.fdiv (-g) = (-T) / g := by
  obtain ⟨c, rfl⟩ := hd
  rw [show g * c = (-g) * (-c) by rw [Int.neg_mul_neg], Int.mul_fdiv_cancel_left _ (by omega), show -(-g * -c) = g * (-c) by rw [Int.neg_mul_neg, Int.mul_neg], Int.mul_ediv_cancel_left _ (by omega)]
/-- __init__ of a fraction -/
theorem init_ok (T B : Int) (hB : B ≠ 0) (hs : lb B < 9000) : callF PP (k + 4) .Ratio___init__ [.loc h.length, .int T, .int B] (.ins .Ratio [] :: h) = .ok .non (.ins .Ratio [(.top, .int (Rat.divInt T B).num), (.bottom, .int ((Rat.divInt T B).den : Int))] :: h) := by
  have hg : 0 < Int.gcd B T := Int.gcd_pos_of_ne_zero_left _ hB
  have hgl : Int.gcd B T ≤ B.natAbs := Nat.le_of_dvd (by omega) (Nat.gcd_dvd_left _ _)
  have hlog : (Int.gcd B T).log2 < 9000 := Nat.lt_of_le_of_lt (log_mono hgl) hs
  have hgT : ((Int.gcd B T : Nat) : Int) ∣ T := Int.gcd_dvd_right ..
  have hgB : ((Int.gcd B T : Nat) : Int) ∣ B := Int.gcd_dvd_left ..
  have aT : (if T < 0 then -T else T) = ((T.natAbs : Nat) : Int) := by split <;> omega
  have aB : (if B < 0 then -B else B) = ((B.natAbs : Nat) : Int) := by split <;> omega
  rw [Rat.num_divInt, Rat.den_divInt, if_neg hB]
  have gc := gcd_ok (k := k) (h := .ins .Ratio [] :: h) T.natAbs B.natAbs
  rw [show (Nat.gcd B.natAbs T.natAbs) = Int.gcd B T from rfl] at gc
  refine TE.eq ?_
  refine TE_call d_Ratio___init__ (by simp) rfl (TE_end0 rfl ?_)
  by_cases hneg : B < 0
  · rw [if_pos hneg] at aB
    have hsg : B.sign = -1 := Int.sign_eq_neg_one_of_neg hneg
    have e1 := gdiv_neg (g := (Int.gcd B T : Nat)) (by omega) hgT
    have e2 := gdiv_neg (g := (Int.gcd B T : Nat)) (by omega) hgB
    have aB2 : -B = ((B.natAbs : Nat) : Int) := by omega
    simp [d_Ratio___init__, start, hB, bCall, aT, aB, gc, hneg, setAt, Prog.fld, c_Ratio, hlog, e1, e2, hsg]
  · have aB3 : ((B.natAbs : Nat) : Int) = B := by omega
    rw [aB3] at gc
    have hsg : B.sign = 1 := Int.sign_eq_one_of_pos (by omega)
    have e1 := gdiv_pos (g := (Int.gcd B T : Nat)) (T := T) (by omega)
    have e2 := gdiv_pos (g := (Int.gcd B T : Nat)) (T := B) (by omega)
    simp [d_Ratio___init__, start, hB, bCall, aT, gc, hneg, setAt, Prog.fld, c_Ratio, hlog, e1, e2, hsg, aB3]
/-- Ratio(T, B) -/
theorem mk_ok {c : Nm → List PV → EH → Res PV} (T B : Int) (hB : B ≠ 0) (hs : lb B < 9000) : callG ⟨PP, c, callF PP (k + 4)⟩ .Ratio [.int T, .int B] [] h = .ok (R (Rat.divInt T B)) h := by
  have hi := init_ok (k := k) (h := h) T B hB hs
  simp [callG, make, c_Ratio, bindA, d_Ratio___init__, hi, close, lowF, PV.lowB, R]
theorem divInt_1 (T : Int) : Rat.divInt T 1 = (T : Rat) := Rat.ext (by rw [Rat.num_divInt]; simp) (by rw [Rat.den_divInt]; simp)
@[simp] theorem mk1_ok {c : Nm → List PV → EH → Res PV} (T : Int) : callG ⟨PP, c, callF PP (k + 4)⟩ .Ratio [.int T] [] h = .ok (R (T : Rat)) h := by
  have hi := init_ok (k := k) (h := h) T 1 (by decide) (by decide)
  simp [callG, make, c_Ratio, bindA, d_Ratio___init__, hi, close, lowF, PV.lowB, R, divInt_1]
section
variable {c m : Nm → List PV → EH → Res PV}
/-! what a fraction is -/
@[simp] theorem R_asIns (q : Rat) : asIns h (R q) = some (.Ratio, [(.top, .int q.num), (.bottom, .int (q.den : Int))]) := rfl
@[simp] theorem R_okB (q : Rat) : okB ⟨PP, c, m⟩ h (R q) = true := by
  simp [R, Prog.inst]
  simp [c_Ratio]
@[simp] theorem R_low (n : Nat) (q : Rat) : (R q).lowB n = true := by simp [R, PV.lowB, lowF]
@[simp] theorem R_isNon (q : Rat) : isNon (R q) = false := rfl
@[simp] theorem R_inst (q : Rat) : isOne ⟨PP, c, m⟩ h (R q) (.cls .Ratio) = some true := by simp [isOne, isSup, c_Ratio]
@[simp] theorem R_intS (q : Rat) : isOne ⟨PP, c, m⟩ h (R q) (.ty s) = if s ∉ tyL then none else some false := by simp [isOne]
@[simp] theorem att_top (q : Rat) : getAtt ⟨PP, c, m⟩ (R q) .top h = .ok (.int q.num) h := by simp [R, getAtt_obj, Prog.fld, c_Ratio]
@[simp] theorem att_bot (q : Rat) : getAtt ⟨PP, c, m⟩ (R q) .bottom h = .ok (.int (q.den : Int)) h := by simp [R, getAtt_obj, Prog.fld, c_Ratio]
theorem meth_R {q : Rat} {f : Nm} {args : List PV} : callM ⟨PP, c, m⟩ (R q) f args [] h = (match look f [(Nm.top, PV.int q.num), (Nm.bottom, PV.int (q.den : Int))] with
    | none => (match look f c_Ratio.ms with
      | some g => callD ⟨PP, c, m⟩ g (R q :: args) [] h
      | none => .stuck)
    | some _ => .stuck) := by
  unfold callM
  show (match look f [(Nm.top, PV.int q.num), (Nm.bottom, PV.int (q.den : Int))] with
    | none => (match PP.meth .Ratio f with
      | some g => callD ⟨PP, c, m⟩ g (R q :: args) [] h
      | none => .stuck)
    | some _ => .stuck) = _
  rw [show PP.meth .Ratio f = look f c_Ratio.ms by unfold Prog.meth; rw [cls_Ratio]; rfl]
/-! numbers: a fraction, or an int -/
@[simp] theorem as_R (q : Rat) : callF PP (k + 3) .as_ratio [R q] h = .ok (R q) h := by
  refine TE.eq ?_
  refine TE_call d_as_ratio (by simp) rfl (TE_end0 rfl ?_)
  simp [d_as_ratio, start, bCall]
@[simp] theorem as_i (i : Int) : callF PP (k + 6) .as_ratio [.int i] h = .ok (R (i : Rat)) h := by
  refine TE.eq ?_
  refine TE_call d_as_ratio (by simp) rfl (TE_end0 rfl ?_)
  simp [d_as_ratio, start, bCall, isOne, tyOf, c_Ratio]
@[simp] theorem num_R (q : Rat) : callF PP (k + 3) .is_number [R q] h = .ok (.bl true) h := by
  refine TE.eq ?_
  refine TE_call d_is_number (by simp) rfl (TE_end0 rfl ?_)
  simp [d_is_number, start, bCall]
@[simp] theorem num_i (i : Int) : callF PP (k + 4) .is_number [.int i] h = .ok (.bl true) h := by
  refine TE.eq ?_
  refine TE_call d_is_number (by simp) rfl (TE_end0 rfl ?_)
  simp [d_is_number, start, bCall, isOne, c_Ratio]
def Num (v : PV) (q : Rat) : Prop := v = R q ∨ ∃ i : Int, v = .int i ∧ q = (i : Rat)
theorem num_of (q : Rat) : Num (R q) q := .inl rfl
theorem num_int (i : Int) : Num (.int i) (i : Rat) := .inr ⟨i, rfl, rfl⟩
theorem Num.asr {v : PV} {q : Rat} (n : Num v q) : callF PP (k + 6) .as_ratio [v] h = .ok (R q) h := by
  rcases n with rfl | ⟨i, rfl, rfl⟩ <;> simp
theorem Num.isn {v : PV} {q : Rat} (n : Num v q) : callF PP (k + 4) .is_number [v] h = .ok (.bl true) h := by
  rcases n with rfl | ⟨i, rfl, rfl⟩ <;> simp
theorem Num.okb {v : PV} {q : Rat} (n : Num v q) : okB ⟨PP, c, m⟩ h v = true := by
  rcases n with rfl | ⟨i, rfl, rfl⟩ <;> simp
theorem Num.low {v : PV} {q : Rat} (n : Num v q) (j : Nat) : v.lowB j = true := by
  rcases n with rfl | ⟨i, rfl, rfl⟩ <;> simp [PV.lowB]
theorem Num.nl {v : PV} {q : Rat} (n : Num v q) (j : Nat) : v ≠ .loc j := by
  rcases n with rfl | ⟨i, rfl, rfl⟩ <;> simp [R]
theorem op_R {o : BO} {p q : Rat} {v : PV} (n : Num v q) : opBin ⟨PP, c, m⟩ o (R p) v h = callM ⟨PP, c, m⟩ (R p) o.dun [v] [] h := by
  have e := n.okb (c := c) (m := m) (h := h)
  unfold R
  rw [opBin_obj, if_pos e]
theorem iop_R {o : BO} {i : Int} {q : Rat} (ho : o ≠ .bor) : opBin ⟨PP, c, m⟩ o (.int i) (R q) h = callM ⟨PP, c, m⟩ (R q) o.rev [.int i] [] h := by
  unfold R
  rw [opBin_int_obj]
  cases o <;> first | rfl | exact absurd rfl ho
theorem aug_R {o : BO} {p : Rat} {v : PV} (ho : o.ipB = true) : opAug ⟨PP, c, m⟩ o (R p) v h = opBin ⟨PP, c, m⟩ o (R p) v h := by
  unfold R
  rw [opAug_obj, if_pos ho]
section
variable {p q : Rat} {v : PV}
theorem add_ok (n : Num v q) (hs : bt p + bt q ≤ 8000) : callF PP (k + 7) .Ratio___add__ [R p, v] h = .ok (R (p + q)) h := by
  have := bt_num p; have := bt_num q; have := bt_den p; have := bt_den q
  have sz : lb ((p.den : Int) * q.den) < 9000 := by have := lb_mul p.den q.den; omega
  have m1 : intBin .mul p.num q.den = some (p.num * q.den) := mul_b (by omega)
  have m2 : intBin .mul q.num p.den = some (q.num * p.den) := mul_b (by omega)
  have m3 : intBin .mul p.den q.den = some (p.den * q.den : Int) := mul_b (by omega)
  refine TE.eq ?_
  refine TE_call d_Ratio___add__ (by simp) rfl (TE_end0 rfl ?_)
  simp [-ib_mul, d_Ratio___add__, start, n.isn, n.asr, m1, m2, m3, mk_ok, den_ne p q, sz, add_eq]
theorem sub_ok (n : Num v q) (hs : bt p + bt q ≤ 8000) : callF PP (k + 7) .Ratio___sub__ [R p, v] h = .ok (R (p - q)) h := by
  have := bt_num p; have := bt_num q; have := bt_den p; have := bt_den q
  have sz : lb ((p.den : Int) * q.den) < 9000 := by have := lb_mul p.den q.den; omega
  have m1 : intBin .mul p.num q.den = some (p.num * q.den) := mul_b (by omega)
  have m2 : intBin .mul q.num p.den = some (q.num * p.den) := mul_b (by omega)
  have m3 : intBin .mul p.den q.den = some (p.den * q.den : Int) := mul_b (by omega)
  refine TE.eq ?_
  refine TE_call d_Ratio___sub__ (by simp) rfl (TE_end0 rfl ?_)
  simp [-ib_mul, d_Ratio___sub__, start, n.isn, n.asr, m1, m2, m3, mk_ok, den_ne p q, sz, sub_eq]
theorem mul_ok (n : Num v q) (hs : bt p + bt q ≤ 8000) : callF PP (k + 7) .Ratio___mul__ [R p, v] h = .ok (R (p * q)) h := by
  have := bt_num p; have := bt_num q; have := bt_den p; have := bt_den q
  have sz : lb ((p.den : Int) * q.den) < 9000 := by have := lb_mul p.den q.den; omega
  have m1 : intBin .mul p.num q.num = some (p.num * q.num) := mul_b (by omega)
  have m3 : intBin .mul p.den q.den = some (p.den * q.den : Int) := mul_b (by omega)
  refine TE.eq ?_
  refine TE_call d_Ratio___mul__ (by simp) rfl (TE_end0 rfl ?_)
  simp [-ib_mul, d_Ratio___mul__, start, n.isn, n.asr, m1, m3, mk_ok, den_ne p q, sz, mul_eq]
theorem op_add (n : Num v q) (hs : bt p + bt q ≤ 8000) : opBin ⟨PP, callF PP (k + 7), m⟩ .add (R p) v h = .ok (R (p + q)) h := by
  rw [op_R n, meth_R]
  simp [BO.dun, c_Ratio, add_ok n hs]
theorem op_sub (n : Num v q) (hs : bt p + bt q ≤ 8000) : opBin ⟨PP, callF PP (k + 7), m⟩ .sub (R p) v h = .ok (R (p - q)) h := by
  rw [op_R n, meth_R]
  simp [BO.dun, c_Ratio, sub_ok n hs]
theorem op_mul (n : Num v q) (hs : bt p + bt q ≤ 8000) : opBin ⟨PP, callF PP (k + 7), m⟩ .mul (R p) v h = .ok (R (p * q)) h := by
  rw [op_R n, meth_R]
  simp [BO.dun, c_Ratio, mul_ok n hs]
theorem rneg_ok (p : Rat) (hp : bt p ≤ 8000) : callF PP (k + 6) .Ratio___neg__ [R p] h = .ok (R (-p)) h := by
  have e1 : Rat.divInt (-p.num) p.den = -p := by rw [← Rat.neg_divInt, Rat.num_divInt_den]
  have := bt_den p
  have sz : lb (p.den : Int) < 9000 := by omega
  refine TE.eq ?_
  refine TE_call d_Ratio___neg__ (by simp) rfl (TE_end0 rfl ?_)
  simp [d_Ratio___neg__, start, mk_ok _ _ (den_ne1 p) sz, e1]
theorem op_neg (p : Rat) (hp : bt p ≤ 8000) : opNeg ⟨PP, callF PP (k + 6), m⟩ (R p) h = .ok (R (-p)) h := by
  unfold R
  rw [opNeg_obj]
  show callM ⟨PP, callF PP (k + 6), m⟩ (R p) _ _ _ _ = .ok (R (-p)) h
  rw [meth_R]
  simp [c_Ratio, rneg_ok p hp]
theorem radd_ok (i : Int) (hs : bt q + lb i ≤ 8000) : callF PP (k + 8) .Ratio___radd__ [R q, .int i] h = .ok (R (i + q)) h := by
  refine TE.eq ?_
  refine TE_call d_Ratio___radd__ (by simp) rfl (TE_end0 rfl ?_)
  simp [d_Ratio___radd__, start, op_add (num_int i) (p := q) (by rw [bt_int]; exact hs), Rat.add_comm]
theorem rsub_ok (i : Int) (hs : bt q + lb i ≤ 8000) : callF PP (k + 8) .Ratio___rsub__ [R q, .int i] h = .ok (R (i - q)) h := by
  have e1 : -q + (i : Rat) = i - q := by rw [Rat.add_comm, Rat.sub_eq_add_neg]
  refine TE.eq ?_
  refine TE_call d_Ratio___rsub__ (by simp) rfl (TE_end0 rfl ?_)
  simp [d_Ratio___rsub__, start, op_neg q (by omega), op_add (num_int i) (p := -q) (by rw [bt_int, bt_neg]; exact hs), e1]
theorem rmul_ok (i : Int) (hs : bt q + lb i ≤ 8000) : callF PP (k + 8) .Ratio___rmul__ [R q, .int i] h = .ok (R (i * q)) h := by
  refine TE.eq ?_
  refine TE_call d_Ratio___rmul__ (by simp) rfl (TE_end0 rfl ?_)
  simp [d_Ratio___rmul__, start, op_mul (num_int i) (p := q) (by rw [bt_int]; exact hs), Rat.mul_comm]
end
section
variable {p q : Rat} {v w : PV} {X : Exc → EH → Prop} {Q : PV → EH → Prop} {kk : Kt X Q}
theorem TE.of_eq {α : Type} {X : Exc → EH → Prop} {Q : α → EH → Prop} {kk : Kt X Q} {r : Res α} {a : α} {h : EH} (e : r = .ok a h) (q : Q a h) : TE kk r := by rw [e]; exact q
/-- numbers of any kind -/
theorem num_add (n1 : Num v p) (n2 : Num w q) (hs : bt p + bt q ≤ 8000) (k' : ∀ u, Num u (p + q) → Q u h) : TE kk (opBin ⟨PP, callF PP (k + 8), m⟩ .add v w h) := by
  rcases n1 with rfl | ⟨i, rfl, rfl⟩
  · exact .of_eq (op_add (k := k + 1) n2 hs) (k' _ (num_of _))
  · rcases n2 with rfl | ⟨j, rfl, rfl⟩
    · refine .of_eq ?_ (k' _ (num_of _))
      rw [iop_R (by simp), meth_R]
      rw [bt_int] at hs
      simp [BO.rev, c_Ratio, radd_ok i (show bt q + lb i ≤ 8000 by omega)]
    · refine .of_eq (a := .int (i + j)) rfl (k' _ (.inr ⟨_, rfl, by simp⟩))
theorem num_sub (n1 : Num v p) (n2 : Num w q) (hs : bt p + bt q ≤ 8000) (k' : ∀ u, Num u (p - q) → Q u h) : TE kk (opBin ⟨PP, callF PP (k + 8), m⟩ .sub v w h) := by
  rcases n1 with rfl | ⟨i, rfl, rfl⟩
  · exact .of_eq (op_sub (k := k + 1) n2 hs) (k' _ (num_of _))
  · rcases n2 with rfl | ⟨j, rfl, rfl⟩
    · refine .of_eq ?_ (k' _ (num_of _))
      rw [iop_R (by simp), meth_R]
      rw [bt_int] at hs
      simp [BO.rev, c_Ratio, rsub_ok i (show bt q + lb i ≤ 8000 by omega)]
    · refine .of_eq (a := .int (i - j)) rfl (k' _ (.inr ⟨_, rfl, by simp⟩))
theorem num_mul (n1 : Num v p) (n2 : Num w q) (hs : bt p + bt q ≤ 8000) (k' : ∀ u, Num u (p * q) → Q u h) : TE kk (opBin ⟨PP, callF PP (k + 8), m⟩ .mul v w h) := by
  rcases n1 with rfl | ⟨i, rfl, rfl⟩
  · exact .of_eq (op_mul (k := k + 1) n2 hs) (k' _ (num_of _))
  · rcases n2 with rfl | ⟨j, rfl, rfl⟩
    · refine .of_eq ?_ (k' _ (num_of _))
      rw [iop_R (by simp), meth_R]
      rw [bt_int] at hs
      simp [BO.rev, c_Ratio, rmul_ok i (show bt q + lb i ≤ 8000 by omega)]
    · rw [bt_int, bt_int] at hs
      have m1 : intBin .mul i j = some (i * j) := mul_b (by omega)
      refine .of_eq (a := .int (i * j)) ?_ (k' _ (.inr ⟨_, rfl, by simp⟩))
      simp [-ib_mul, m1]
theorem num_neg (n1 : Num v p) (hs : bt p ≤ 8000) (k' : ∀ u, Num u (-p) → Q u h) : TE kk (opNeg ⟨PP, callF PP (k + 6), m⟩ v h) := by
  rcases n1 with rfl | ⟨i, rfl, rfl⟩
  · exact .of_eq (op_neg p hs) (k' _ (num_of _))
  · exact .of_eq (a := .int (-i)) rfl (k' _ (.inr ⟨_, rfl, by simp⟩))
/-! comparisons -/
theorem req_ok (p q : Rat) : callF PP (k + 3) .Ratio___eq__ [R p, R q] h = .ok (.bl (decide (p = q))) h := by
  refine TE.eq ?_
  refine TE_call d_Ratio___eq__ (by simp) rfl (TE_end0 rfl ?_)
  have e : (p = q) = (p.num = q.num ∧ p.den = q.den) := propext ⟨fun e => by subst e; exact ⟨rfl, rfl⟩, fun ⟨a, b⟩ => Rat.ext a b⟩
  by_cases h1 : p.num = q.num
  · by_cases h2 : p.den = q.den
    · simp [d_Ratio___eq__, start, bCall, h1, h2, e, andV_b]
    · have h2' : ¬ ((p.den : Int) = q.den) := by omega
      simp [d_Ratio___eq__, start, bCall, h1, h2, h2', e, andV_b]
  · simp [d_Ratio___eq__, start, bCall, h1, e, andV_b]
theorem req_i (p : Rat) (i : Int) : callF PP (k + 4) .Ratio___eq__ [R p, .int i] h = .ok (.bl (decide (p = i))) h := by
  refine TE.eq ?_
  refine TE_call d_Ratio___eq__ (by simp) rfl (TE_end0 rfl ?_)
  have e : (p = i) = (p.den = 1 ∧ p.num = i) := propext ⟨fun e => by subst e; exact ⟨rfl, rfl⟩, fun ⟨a, b⟩ => Rat.ext b a⟩
  by_cases h2 : p.den = 1
  · by_cases h1 : p.num = i
    · simp [d_Ratio___eq__, start, bCall, isOne, tyOf, c_Ratio, h1, h2, e, andV_b]
    · simp [d_Ratio___eq__, start, bCall, isOne, tyOf, c_Ratio, h1, h2, e, andV_b]
  · have h2' : ¬ ((p.den : Int) = 1) := by omega
    simp [d_Ratio___eq__, start, bCall, isOne, tyOf, c_Ratio, h2, h2', e, andV_b]
end
end
end
end Py

set_option Elab.async false
set_option linter.all false
set_option maxRecDepth 100000
set_option maxHeartbeats 1000017
/-! the hand: what a law takes -/
namespace Py
open PySem (Str)
section
variable {k : Nat} {h : EH} {c m : Nm → List PV → EH → Res PV} {X : Exc → EH → Prop} {Q : PV → EH → Prop} {kk : Kt X Q} {l : Nat} {A : Int}
/-- a hand at l, not taken from too often -/
structure Hnd (l : Nat) (A : Int) (h : EH) : Prop where
  ex : ∃ n a s : Int, hget l h = some (.lst [.int n, .int a, .int s]) ∧ 0 ≤ a ∧ a ≤ A ∧ 0 ≤ s ∧ s ≤ 2147483629
theorem Hnd.mono {B : Int} (p : Hnd l A h) (w : A ≤ B) : Hnd l B h := let ⟨n, a, s, e, x, y, z⟩ := p.ex; ⟨n, a, s, e, x, by omega, z⟩
theorem Hnd.mo {u : Nat → Prop} {h' : EH} (p : Hnd l A h) (g : Mo u h h') (w : ¬ u l) : Hnd l A h' := let ⟨n, a, s, e, r⟩ := p.ex; ⟨n, a, s, g.get e w, r⟩
theorem Hnd.lt (p : Hnd l A h) : l < h.length := let ⟨_, _, _, e, _⟩ := p.ex; hgetA_lt e
theorem hgs {x : EO} (hl : l < h.length) : hget l (hset l x h) = some x := by rw [hsetA_get, if_pos ⟨rfl, hl⟩]
theorem take_s {M : Int} (p : Hnd l A h) (hA : A ≤ 100000) (hM : 1 ≤ M) (hM2 : lb M ≤ 100) (q : ∀ v h', 0 ≤ v → v < M → Hnd l (A + 1) h' → Mo (· = l) h h' → Q (.int v) h') : TE kk (callF PP (k + 3) ._law_take [.loc l, .int M] h) := by
  obtain ⟨n, a, s, hg, ha, ha2, hs, hs2⟩ := p.ex
  have hl := p.lt
  have M0 : M ≠ 0 := by omega
  refine TE_call d__law_take (by simp) rfl (TE_end0 rfl ?_)
  by_cases hb : (1 : Int) < n
  · have m1 : intBin .fdiv n M = some (n.fdiv M) := fdiv_b M0 (by omega)
    have m2 : intBin .mod n M = some (n.fmod M) := fmod_b M0
    simp [-ib_mul, -ib_fdiv, -ib_mod, d__law_take, start, getIt, asSeq, hg, pyIx, hb, setIt, bCall, m1, m2]
    exact q _ _ (Int.fmod_nonneg_of_pos _ (by omega)) (Int.fmod_lt_of_pos _ (by omega)) ⟨_, _, _, hgs hl, ha, by omega, hs, hs2⟩ (Mo.set fun _ => rfl)
  · have g2 : hget l (hset l (.lst [.int n, .int (a + 1), .int s]) h) = some (.lst [.int n, .int (a + 1), .int s]) := hgs hl
    have l1 : lb 7919 ≤ 20 := by decide
    have l2 : lb 48271 ≤ 20 := by decide
    have l5 : lb 2147483647 ≤ 40 := by decide
    have l6 : lb 69621 ≤ 20 := by decide
    have l7 : lb 40692 ≤ 20 := by decide
    have l8 : lb (a + 1) ≤ 20 := lb_abs (e := 1000000) (by omega) (by decide)
    have l9 : lb s ≤ 40 := lb_abs (e := 2147483647) (by omega) (by decide)
    obtain ⟨B, hB⟩ : ∃ B, a + 1 = B := ⟨_, rfl⟩
    rw [hB] at g2 l8
    have t2 := lb_mul 7919 B
    have t3 := lb_add s (7919 * B)
    generalize hX : (s + 7919 * B) * 48271 = X1
    have t6 : lb (X1.fmod 2147483647) ≤ 40 := Nat.le_trans (lb_fmod (by decide)) l5
    generalize hY : X1.fmod 2147483647 = Y at t6
    have t7 : lb (Y.fdiv 1009) ≤ lb Y := lb_fdiv
    have t8 := lb_add (Y.fdiv 1009) 69621
    generalize hZ : (Y * (Y.fdiv 1009 + 69621)).fmod 2147483647 = Z
    have t9 : lb Z ≤ 40 := by rw [← hZ]; exact Nat.le_trans (lb_fmod (by decide)) l5
    have u1 : lb (Z.fdiv 2003) ≤ lb Z := lb_fdiv
    have u2 := lb_add (Z.fdiv 2003) 40692
    have q2 : intBin .mul 7919 B = some (7919 * B) := mul_b (by omega)
    have q4 : intBin .mul (s + 7919 * B) 48271 = some X1 := by rw [mul_b (by omega), hX]
    have q5 : intBin .mod X1 2147483647 = some Y := by rw [fmod_b (by decide), hY]
    have q6 : intBin .fdiv Y 1009 = some (Y.fdiv 1009) := fdiv_b (by decide) (by decide)
    have q7 : intBin .mul Y (Y.fdiv 1009 + 69621) = some (Y * (Y.fdiv 1009 + 69621)) := mul_b (by omega)
    have q8 : intBin .mod (Y * (Y.fdiv 1009 + 69621)) 2147483647 = some Z := by rw [fmod_b (by decide), hZ]
    have q9 : intBin .fdiv Z 2003 = some (Z.fdiv 2003) := fdiv_b (by decide) (by decide)
    have qa : intBin .mul Z (Z.fdiv 2003 + 40692) = some (Z * (Z.fdiv 2003 + 40692)) := mul_b (by omega)
    have qb : intBin .mod (Z * (Z.fdiv 2003 + 40692)) 2147483399 = some ((Z * (Z.fdiv 2003 + 40692)).fmod 2147483399) := fmod_b (by decide)
    generalize hV : (Z * (Z.fdiv 2003 + 40692)).fmod 2147483399 = Vv at qb
    have qd : intBin .fdiv Vv 16 = some (Vv.fdiv 16) := fdiv_b (by decide) (by decide)
    have qc : intBin .mod (Vv.fdiv 16) M = some ((Vv.fdiv 16).fmod M) := fmod_b M0
    clear t2 t3 t6 t7 t8 t9 u1 u2 l1 l2 l5 l6 l7 l8 l9 hX hY hZ hV
    simp [-ib_mul, -ib_fdiv, -ib_mod, d__law_take, start, getIt, asSeq, hg, pyIx, hb, setIt, bCall, hB, g2, q2, q4, q5, q6, q7, q8, q9, qa, qb, qc, qd]
    exact q _ _ (Int.fmod_nonneg_of_pos _ (by omega)) (Int.fmod_lt_of_pos _ (by omega)) ⟨_, _, _, g2, by omega, by omega, hs, hs2⟩ (Mo.set fun _ => rfl)
theorem hand_s (ns : List Int) (j : Nat) (hj : j ≤ 1000) (hl : ns.length ≤ 63) (q : ∀ n s : Int, 0 ≤ s → s ≤ 2147483629 → Q (.loc h.length) (.lst [.int n, .int 0, .int s] :: h)) : TE kk (callF PP (k + 4) ._law_hand [.scr ns, .int j] h) := by
  have lj : lb (j : Int) ≤ 20 := lb_abs (e := 10000) (by omega) (by decide)
  have l7 : lb 104729 ≤ 20 := by decide
  have m1 : intBin .mul 104729 (j : Int) = some (104729 * (j : Int)) := mul_b (by omega)
  have key : ∀ v : Int, 0 ≤ v.fmod 2147483629 + 1 ∧ v.fmod 2147483629 + 1 ≤ 2147483629 := fun v => by
    have := Int.fmod_nonneg_of_pos v (b := 2147483629) (by decide)
    have := Int.fmod_lt_of_pos v (b := 2147483629) (by decide)
    omega
  refine TE_call d__law_hand (by simp) rfl (TE_end0 rfl ?_)
  by_cases h1 : j < ns.length
  · have h1' : (j : Int) < (ns.length : Int) := by omega
    have p : pyIx (j : Int) ns.length = some j := by simp [pyIx, h1]
    have m2 : intBin .mod (ns[j] + 104729 * (j : Int)) 2147483629 = some ((ns[j] + 104729 * (j : Int)).fmod 2147483629) := fmod_b (by decide)
    generalize hv : ns[j] = v at m2
    have e2 : ns[j]? = some v := by rw [List.getElem?_eq_getElem h1, hv]
    by_cases hc : (1000000000000000000 : Int) ≤ v
    · simp [-ib_mul, -ib_mod, d__law_hand, start, bCall, asSeq, getIt, h1', p, e2, h1, hv, hc, m1, m2, big_eq]
      exact q _ _ (key _).1 (key _).2
    · simp [-ib_mul, -ib_mod, d__law_hand, start, bCall, asSeq, getIt, h1', p, e2, h1, hv, hc, m1, m2, big_eq]
      exact q _ _ (key _).1 (key _).2
  · have h1' : ¬ (j : Int) < (ns.length : Int) := by omega
    have m2 : intBin .mod (7 + 104729 * (j : Int)) 2147483629 = some ((7 + 104729 * (j : Int)).fmod 2147483629) := fmod_b (by decide)
    simp [-ib_mul, -ib_mod, d__law_hand, start, bCall, asSeq, getIt, h1', m1, m2, big_eq]
    exact q _ _ (key _).1 (key _).2
end
end Py

set_option Elab.async false
set_option linter.all false
set_option maxRecDepth 100000
set_option maxHeartbeats 1000017
namespace Py
open PySem (Str)
section
variable {k : Nat} {h : EH} {c m : Nm → List PV → EH → Res PV} {X : Exc → EH → Prop} {Q : PV → EH → Prop} {kk : Kt X Q}
/-! names -/
abbrev letS : Str := "abcdefghijklmnopqrstuvwxyz"
abbrev digS : Str := "0123456789"
def letC (k : Nat) : Bool := decide (k ∈ letS.cps.toList)
def digC (k : Nat) : Bool := decide (k ∈ digS.cps.toList)
def nameB (s : Str) : Bool := decide (1 ≤ s.length) && decide (s.length ≤ 8) && s.cps.toList.all (fun k => letC k || digC k) && (match s.cps.toList with | [] => false | k :: _ => letC k)
def ch (c : Nat) : PV := .str ⟨#[c]⟩
theorem in_let (c : Nat) : inR (.str letS) (ch c) h = .ok (.bl (letC c)) h := rfl
theorem in_dig (c : Nat) : inR (.str digS) (ch c) h = .ok (.bl (digC c)) h := rfl
theorem pyIx_nat {i n : Nat} (h : i < n) : pyIx (i : Int) n = some i := by simp [pyIx, h]
theorem getS {s : Str} {i x : Nat} (hb : s.length ≤ big) (e : s.cps.toList[i]? = some x) : getIt (.str s) (.int (i : Nat)) h = .ok (ch x) h := by
  obtain ⟨l, e'⟩ := List.getElem?_eq_some_iff.mp e
  unfold getIt
  simp only [if_pos hb, pyIx_nat l, e]
  rfl
theorem nm_loop {s : Str} {Xs : Exc → Env → EH → Prop} {Qs : Fl → Env → EH → Prop} {ks : KtS Xs Qs} : ∀ (cs : List Nat) (t : Option PV),
    (∀ t', Qs (if cs.all (fun k => letC k || digC k) then .nx else .rt (.bl false)) [some (.str s), t'] h) →
    TS ks (forS ⟨PP, c, m⟩ (.v 1) [.ifs (.and [.cmp .nin (.v 1) (.g .LETTERS), .cmp .nin (.v 1) (.g .DIGITS)]) [.ret (.b false)] []] .std (cs.map ch) [some (.str s), t] h)
  | [], t, q => by
    simpa using q t
  | x :: cs, t, q => by
    rw [List.map_cons, forS_cons]
    have q' := fun t => nm_loop (s := s) cs (ks := ks) t
    cases h1 : letC x with
    | true =>
      simp [in_let, h1]
      exact q' _ fun t' => by simpa [h1] using q t'
    | false =>
      cases h2 : digC x with
      | true =>
        simp [in_let, in_dig, h1, h2]
        exact q' _ fun t' => by simpa [h1, h2] using q t'
      | false =>
        simp [in_let, in_dig, h1, h2]
        have := q (some (ch x))
        simpa [h1, h2] using this
theorem is_name_str (s : Str) (hb : s.length ≤ big) : callF PP (k + 3) .is_name [.str s] h = .ok (.bl (nameB s)) h := by
  refine TE.eq ?_
  refine TE_call d_is_name (by simp) rfl (TE_end0 rfl ?_)
  have el : s.length = s.cps.toList.length := rfl
  by_cases h1 : 1 ≤ s.length
  · have h1' : (1 : Int) ≤ s.length := by omega
    by_cases h2 : s.length ≤ 8
    · have h2' : (s.length : Int) ≤ 8 := by omega
      simp [d_is_name, start, bCall, isOne, tyL, hb, h1', h2']
      refine nm_loop _ _ fun t' => ?_
      cases ha : s.cps.toList.all (fun k => letC k || digC k) with
      | false => simp [nameB, ha]
      | true =>
        cases hs : s.cps.toList with
        | nil => rw [el, hs] at h1; simp at h1
        | cons x r =>
          have g := getS (h := h) (i := 0) hb (by rw [hs]; rfl : s.cps.toList[0]? = some x)
          simp at g
          simp [g, in_let, nameB, hs, h1, h2]
          intro _
          rw [hs] at ha
          simpa using ha
    · have h2' : ¬ (s.length : Int) ≤ 8 := by omega
      simp [d_is_name, start, bCall, isOne, tyL, hb, h1', h2', nameB, h2]
  · have h1' : ¬ (1 : Int) ≤ s.length := by omega
    simp [d_is_name, start, bCall, isOne, tyL, hb, h1', nameB, h1]
/-! what is no name -/
def strP : PV → Bool
  | .str _ => true
  | _ => false
def nameV : PV → Bool
  | .str s => nameB s
  | _ => false
theorem is_str {v : PV} (ok : okB ⟨PP, c, m⟩ h v = true) : isOne ⟨PP, c, m⟩ h v (.ty "str") = some (strP v) := by
  unfold okB at ok
  cases e : asIns h v with
  | some p =>
    simp [isOne, tyL, e]
    cases v <;> first | rfl | cases e
  | none =>
    rw [e] at ok
    simp only [isOne, tyL, e]
    cases v <;> first | rfl | (simp [tyOf] at ok; done) | skip
    rename_i n
    unfold tyOf at ok ⊢
    dsimp only at ok ⊢
    cases z : hget n h with
    | none => rw [z] at ok; cases ok
    | some o => cases o <;> first | rfl | (rw [z] at ok; cases ok)
theorem is_name_v {v : PV} (ok : okB ⟨PP, callF PP (k + 2), callF PP (k + 1)⟩ h v = true) (hb : ∀ s, v = .str s → s.length ≤ big) : callF PP (k + 3) .is_name [v] h = .ok (.bl (nameV v)) h := by
  by_cases hs : ∃ s, v = .str s
  · obtain ⟨s, rfl⟩ := hs
    exact is_name_str s (hb s rfl)
  · have e := is_str ok
    have e1 : strP v = false := by cases v <;> first | rfl | exact absurd ⟨_, rfl⟩ hs
    have e2 : nameV v = false := by cases v <;> first | rfl | exact absurd ⟨_, rfl⟩ hs
    rw [e1] at e
    refine TE.eq ?_
    refine TE_call d_is_name (by simp) rfl (TE_end0 rfl ?_)
    have nt : ∀ ts, PV.ty "str" ≠ .tup ts := fun ts e => by cases e
    simp [d_is_name, start, bCall, ok, e, e2]
/-! lists and tuples -/
inductive Sq (h : EH) : PV → List PV → Prop where
  | tup (xs) : Sq h (.tup xs) xs
  | lst (xs) : Sq h (.lst xs) xs
  | loc (n xs) (e : hget n h = some (.lst xs)) : Sq h (.loc n) xs
theorem Sq.seq {v : PV} {xs : List PV} (s : Sq h v xs) : asSeq h v = some xs := by
  cases s with
  | tup => rfl
  | lst => rfl
  | loc n _ e => simp [asSeq, e]
theorem Sq.okb {v : PV} {xs : List PV} (s : Sq h v xs) : okB ⟨PP, c, m⟩ h v = true := by
  cases s with
  | tup => rfl
  | lst => rfl
  | loc n _ e => simp [okB, asIns, tyOf, e]
theorem Sq.len {v : PV} {xs : List PV} (s : Sq h v xs) : bCall ⟨PP, c, m⟩ .len [v] h = .ok (.int xs.length) h := by
  have := s.seq
  cases s <;> simp [bCall, this]
theorem Sq.isS {v : PV} {xs : List PV} (s : Sq h v xs) : callF PP (k + 3) .is_sequence [v] h = .ok (.bl true) h := by
  refine TE.eq ?_
  refine TE_call d_is_sequence (by simp) rfl (TE_end0 rfl ?_)
  cases s with
  | tup => simp [d_is_sequence, start, bCall, isAny, isOne, tyL, isCT, big_eq]
  | lst => simp [d_is_sequence, start, bCall, isAny, isOne, tyL, isCT, big_eq]
  | loc n _ e => simp [d_is_sequence, start, bCall, isAny, isOne, tyL, isCT, big_eq, okB, asIns, tyOf, e]
theorem Sq.lof {v : PV} {xs : List PV} (s : Sq h v xs) (hl : xs.length ≤ big) : listR false v h = .ok (.lst xs) h := by
  cases s with
  | tup => simp [listR, newL, hl]
  | lst => simp [listR, newL, hl]
  | loc n _ e => simp [listR, newL, asLst, e, hl]
theorem Sq.tof {v : PV} {xs : List PV} (s : Sq h v xs) : tupR v h = .ok (.tup xs) h := by
  cases s with
  | tup => simp [tupR]
  | lst => simp [tupR]
  | loc n _ e => simp [tupR, asLst, e]
theorem lset_of {xs : List PV} {ss : List Str} (e : strsP xs = some ss) (hl : ss.length ≤ 1000) : lsetR (.lst xs) h = .ok (.int (cnt ss ss.length : Nat)) h := by
  simp [lsetR, e, hl]
/-- a loop's source -/
def Sq.src (h : EH) (v : PV) : Src := match v with
  | .loc n => (match hget n h with
    | some (.lst xs) => .at n xs
    | _ => .std)
  | _ => .std
theorem Sq.ok {v : PV} {xs : List PV} (s : Sq h v xs) : (Sq.src h v).ok h := by
  cases s with
  | tup => trivial
  | lst => trivial
  | loc n _ e => simp [Sq.src, e]
theorem Sq.it {v : PV} {xs : List PV} (s : Sq h v xs) {C : Cxt} {i : Nat} {σ : Env} (e : slot i σ = some v) : evI C (.seq (.v i)) σ h = .ok (Sq.src h v, xs) h := by
  cases s with
  | tup => simp [e, Sq.src]
  | lst => simp [e, Sq.src]
  | loc n _ e' => simp [e, e', Sq.src]
/-- are effects -/
def effV (xs : List PV) : Bool := decide (1 ≤ xs.length) && decide (xs.length ≤ 4) && xs.all nameV && (match strsP xs with
  | some ss => decide (cnt ss ss.length = ss.length)
  | none => false)
theorem strs_names : ∀ {xs : List PV}, xs.all nameV = true → ∃ ss, strsP xs = some ss ∧ ss.length = xs.length
  | [], _ => ⟨[], rfl, rfl⟩
  | x :: xs, w => by
    rw [List.all_cons, Bool.and_eq_true] at w
    obtain ⟨ss, e, l⟩ := strs_names w.2
    cases x with
    | str s => exact ⟨s :: ss, by simp [strsP, e], by simp [l]⟩
    | _ => exact absurd w.1 (by simp [nameV])
end
end Py

set_option Elab.async false
set_option linter.all false
set_option maxRecDepth 100000
set_option maxHeartbeats 1000017
namespace Py
open PySem (Str)
section
variable {k : Nat} {h : EH} {c m : Nm → List PV → EH → Res PV} {X : Exc → EH → Prop} {Q : PV → EH → Prop} {kk : Kt X Q}
theorem eff_loop {v : PV} {q : Src} {Xs : Exc → Env → EH → Prop} {Qs : Fl → Env → EH → Prop} {ks : KtS Xs Qs} (hq : q.ok h) : ∀ (xs : List PV) (t : Option PV),
    (∀ x ∈ xs, okB ⟨PP, callF PP (k + 2), callF PP (k + 1)⟩ h x = true ∧ ∀ s, x = .str s → s.length ≤ big) →
    (∀ t', Qs (if xs.all nameV then .nx else .rt (.bl false)) [some v, t'] h) →
    TS ks (forS ⟨PP, callF PP (k + 3), m⟩ (.v 1) [.ifs (.not (.tst (.call .is_name [.v 1] []))) [.ret (.b false)] []] q xs [some v, t] h)
  | [], t, _, w => by
    simpa [hq] using w t
  | x :: xs, t, ok, w => by
    obtain ⟨o1, o2⟩ := ok x (by simp)
    have q' := fun t => eff_loop (v := v) hq xs (ks := ks) t (fun y hy => ok y (by simp [hy]))
    rw [forS_cons]
    cases h1 : nameV x with
    | true =>
      simp [is_name_v o1 o2, h1, hq]
      exact q' _ fun t' => by simpa [h1] using w t'
    | false =>
      simp [is_name_v o1 o2, h1, hq]
      have := w (some x)
      simpa [h1] using this
theorem are_eff {v : PV} {xs : List PV} (s : Sq h v xs) (hl : xs.length ≤ 1000) (ok : ∀ x ∈ xs, okB ⟨PP, callF PP (k + 2), callF PP (k + 1)⟩ h x = true ∧ ∀ s, x = .str s → s.length ≤ big) : callF PP (k + 4) .are_effects [v] h = .ok (.bl (effV xs)) h := by
  refine TE.eq ?_
  refine TE_call d_are_effects (by simp) rfl (TE_end0 rfl ?_)
  by_cases h1 : 1 ≤ xs.length
  · have h1' : (1 : Int) ≤ xs.length := by omega
    by_cases h2 : xs.length ≤ 4
    · have h2' : (xs.length : Int) ≤ 4 := by omega
      simp [-evI_seq, -TE_evI_seq, d_are_effects, start, s.isS, s.len, h1', h2']
      rw [s.it rfl]
      simp
      refine eff_loop s.ok xs none ok fun t' => ?_
      cases ha : xs.all nameV with
      | false => simp [effV, ha]
      | true =>
        obtain ⟨ss, e, l⟩ := strs_names ha
        simp [s.lof (by rw [big_eq]; omega), lset_of e (by omega), s.len, effV, ha, e, h1, h2, l]
        try omega
    · have h2' : ¬ (xs.length : Int) ≤ 4 := by omega
      simp [-evI_seq, -TE_evI_seq, d_are_effects, start, s.isS, s.len, h1', h2', effV, h2]
  · have h1' : ¬ (1 : Int) ≤ xs.length := by omega
    simp [-evI_seq, -TE_evI_seq, d_are_effects, start, s.isS, s.len, h1', effV, h1]
end
end Py

set_option Elab.async false
set_option linter.all false
set_option maxRecDepth 100000
set_option maxHeartbeats 1000017
namespace Py
open PySem (Str)
section
variable {k : Nat} {h : EH} {c m : Nm → List PV → EH → Res PV} {X : Exc → EH → Prop} {Q : PV → EH → Prop} {kk : Kt X Q}
/-! unlike texts -/
theorem unl_nodup : ∀ {xs seen : List Str}, xs.Nodup → (∀ x ∈ xs, x ∉ seen) → unl seen xs = xs.length
  | [], _, _, _ => rfl
  | x :: xs, seen, nd, d => by
    have n := List.nodup_cons.mp nd
    have h1 : seen.any (· == x) = false := by
      rw [List.any_eq_false]
      intro y hy e
      exact d x (by simp) ((eq_of_beq e) ▸ hy)
    unfold unl
    rw [h1, unl_nodup n.2 (fun y hy q => ?_)]
    · simp; omega
    · rcases (List.mem_append.mp q) with q | q
      · exact d y (by simp [hy]) q
      · rw [List.mem_singleton] at q; subst q; exact n.1 hy
theorem cnt_nodup {ss : List Str} (nd : ss.Nodup) : cnt ss ss.length = ss.length := by
  unfold cnt
  rw [List.take_length]
  exact unl_nodup nd (fun _ _ q => by cases q)
theorem strsP_map (ss : List Str) : strsP (ss.map .str) = some ss := by
  induction ss with
  | nil => rfl
  | cons s ss ih => simp [strsP, ih]
/-- names of effects -/
structure Eff (es : List Str) : Prop where
  one : 1 ≤ es.length
  four : es.length ≤ 4
  nam : ∀ s ∈ es, nameB s = true
  nd : es.Nodup
abbrev sL (es : List Str) : List PV := es.map .str
theorem nameB_len {s : Str} (h : nameB s = true) : s.length ≤ 8 := by
  unfold nameB at h
  simp only [decide_eq_true_eq, Bool.and_eq_true] at h
  exact h.1.1.2
theorem nameB_big {s : Str} (h : nameB s = true) : s.length ≤ big := by have := nameB_len h; rw [big_eq]; omega
theorem Eff.ok {es : List Str} (e : Eff es) : effV (sL es) = true := by
  have a : (sL es).all nameV = true := by
    rw [List.all_map, List.all_eq_true]
    exact e.nam
  simp [effV, strsP_map, cnt_nodup e.nd, e.one, e.four, a]
theorem Eff.okb {es : List Str} (e : Eff es) : ∀ x ∈ sL es, okB ⟨PP, c, m⟩ h x = true ∧ ∀ s, x = .str s → s.length ≤ big := by
  intro x hx
  obtain ⟨s, hs, rfl⟩ := List.mem_map.mp hx
  exact ⟨rfl, fun t e' => by cases e'; exact nameB_big (e.nam _ hs)⟩
theorem lowL_str (n : Nat) : ∀ es : List Str, lowL n (es.map .str) = true
  | [] => rfl
  | _ :: es => by simp [lowL, PV.lowB, lowL_str n es]
theorem lowL_R (n : Nat) : ∀ es : List Rat, lowL n (es.map R) = true
  | [] => rfl
  | _ :: es => by simp [lowL, lowL_R n es]
/-! numbers -/
def numP : PV → Bool
  | .int _ => true
  | .obj c _ => decide (c = .Ratio)
  | _ => false
@[simp] theorem numP_R (q : Rat) : numP (R q) = true := rfl
@[simp] theorem numP_i (i : Int) : numP (.int i) = true := rfl
/-- values of numbers -/
inductive Nums : List PV → List Rat → Prop where
  | nil : Nums [] []
  | cons {v q vs qs} (n : Num v q) (r : Nums vs qs) : Nums (v :: vs) (q :: qs)
theorem Nums.length {vs : List PV} {qs : List Rat} (n : Nums vs qs) : vs.length = qs.length := by
  induction n with
  | nil => rfl
  | cons _ _ ih => simp [ih]
theorem Nums.R (qs : List Rat) : Nums (qs.map Py.R) qs := by
  induction qs with
  | nil => exact .nil
  | cons q qs ih => exact .cons (num_of q) ih
theorem Nums.low {vs : List PV} {qs : List Rat} (n : Nums vs qs) (j : Nat) : lowL j vs = true := by
  induction n with
  | nil => rfl
  | cons n _ ih => simp [lowL, n.low, ih]
theorem Sq.push {o : EO} {v : PV} {xs : List PV} (s : Sq h v xs) : Sq (o :: h) v xs := by
  cases s with
  | tup => exact .tup _
  | lst => exact .lst _
  | loc n _ e => exact .loc n _ (by rw [hget_cons, if_neg (by have := hgetA_lt e; omega)]; exact e)
theorem Nums.al {P : PV → PV → Prop} {f : Rat → PV} (w : ∀ v q, Num v q → P v (f q)) {vs : List PV} {qs : List Rat} (n : Nums vs qs) : Al P vs (qs.map f) := by
  induction n with
  | nil => exact .nil
  | cons n _ ih => exact .cons (w _ _ n) ih
end
end Py

set_option Elab.async false
set_option linter.all false
set_option maxRecDepth 100000
set_option maxHeartbeats 1000017
namespace Py
open PySem (Str)
section
variable {k : Nat} {h : EH} {c m : Nm → List PV → EH → Res PV} {X : Exc → EH → Prop} {Q : PV → EH → Prop} {kk : Kt X Q}
theorem numb_loop {v w : PV} {q : Src} {Xs : Exc → Env → EH → Prop} {Qs : Fl → Env → EH → Prop} {ks : KtS Xs Qs} (hq : q.ok h) : ∀ {xs : List PV} {qs : List Rat} (t : Option PV), Nums xs qs →
    (∀ t', Qs .nx [some v, some w, t'] h) →
    TS ks (forS ⟨PP, callF PP (k + 4), m⟩ (.v 2) [.ifs (.not (.tst (.call .is_number [.v 2] []))) [.ret (.b false)] []] q xs [some v, some w, t] h)
  | _, _, t, .nil, f => by simpa [hq] using f t
  | _, _, t, .cons n r, f => by
    have q' := fun t => numb_loop (v := v) (w := w) hq (ks := ks) t r
    rw [forS_cons]
    simp [n.isn, hq]
    exact q' _ f
theorem are_num {v : PV} {xs : List PV} {qs : List Rat} (s : Sq h v xs) (n : Nums xs qs) : callF PP (k + 5) .are_numbers [v, .int qs.length] h = .ok (.bl true) h := by
  refine TE.eq ?_
  refine TE_call d_are_numbers (by simp) rfl (TE_end0 rfl ?_)
  simp [-evI_seq, -TE_evI_seq, d_are_numbers, start, s.isS, s.len, n.length]
  rw [s.it rfl]
  simp
  exact numb_loop s.ok none n fun t' => by simp
end
end Py

set_option Elab.async false
set_option linter.all false
set_option maxRecDepth 100000
set_option maxHeartbeats 1000017
namespace Py
open PySem (Str)
section
variable {k : Nat} {h : EH} {c m : Nm → List PV → EH → Res PV} {X : Exc → EH → Prop} {Q : PV → EH → Prop} {kk : Kt X Q}
/-- a question -/
def Qv (es : List Str) (ws : List Rat) : PV := .obj .Question [(.effects, .tup (sL es)), (.weights, .tup (ws.map R))]
theorem asr_comp {C : Cxt} {v : PV} {xs : List PV} {qs : List Rat} {σ : Env} {i j : Nat} (hC : C = ⟨PP, callF PP (k + 6), m⟩) (s : Sq h v xs) (hi : slot i σ = some v) (n : Nums xs qs) (hl : qs.length ≤ big) (hj : ∀ y, slot j (setS j (some y) σ) = some y) :
    evE C (.lc false (.v j) (.seq (.v i)) none (.call .as_ratio [.v j] [])) σ h = .ok (.lst (qs.map R)) h := by
  subst hC
  rw [lc_al (s.it hi) s.ok (n.al (f := R) fun v q n => ⟨_, rfl, by simp [hj, n.asr]⟩), newL_s (by simpa using hl)]
theorem qinit {v w : PV} {es : List Str} {xs : List PV} {qs : List Rat} (s1 : Sq h v (sL es)) (e : Eff es) (s2 : Sq h w xs) (n : Nums xs qs) (hl : qs.length = es.length) :
    callF PP (k + 7) .Question___init__ [.loc h.length, v, w] (.ins .Question [] :: h) = .ok .non (.ins .Question [(.effects, .tup (sL es)), (.weights, .tup (qs.map R))] :: h) := by
  have a := s1.push (o := .ins .Question [])
  have b := s2.push (o := .ins .Question [])
  have l4 := e.four
  refine TE.eq ?_
  refine TE_call d_Question___init__ (by simp) rfl (TE_end0 rfl ?_)
  have ae := are_eff (k := k + 2) a (by simp; omega) e.okb
  have an := are_num (k := k + 1) b n
  have lc := asr_comp (k := k) (m := callF PP (k + 5)) (σ := [some (.loc h.length), some v, some w, none]) (i := 2) (j := 3) rfl (s2.push (o := .ins .Question [(.effects, .tup (sL es))])) rfl n (by rw [big_eq]; omega) (fun y => rfl)
  rw [hl] at an
  simp [-TE_evE_lc0, -evE_lc0, d_Question___init__, start, ae, a.len, an, e.ok, a.tof, setAt, Prog.fld, c_Question]
  rw [lc]
  simp [tupR, setAt, Prog.fld, c_Question]
theorem mk_Q {v w : PV} {es : List Str} {xs : List PV} {qs : List Rat} (s1 : Sq h v (sL es)) (e : Eff es) (s2 : Sq h w xs) (n : Nums xs qs) (hl : qs.length = es.length) :
    callG ⟨PP, c, callF PP (k + 7)⟩ .Question [v, w] [] h = .ok (Qv es qs) h := by
  have hi := qinit (k := k) s1 e s2 n hl
  simp [callG, make, c_Question, bindA, d_Question___init__, hi, close, lowF, PV.lowB, Qv, lowL_str, lowL_R]
end
end Py

set_option Elab.async false
set_option linter.all false
set_option maxRecDepth 100000
set_option maxHeartbeats 1000017
namespace Py
open PySem (Str)
section
variable {k : Nat} {h : EH} {c m : Nm → List PV → EH → Res PV} {X : Exc → EH → Prop} {Q : PV → EH → Prop} {kk : Kt X Q}
/-! == of rows of texts, of fractions -/
theorem datL_str : ∀ es : List Str, datL (sL es) = some (es.map .str)
  | [] => rfl
  | s :: es => by simp [datL, dat, datL_str es]
theorem eqv_str : ∀ es fs : List Str, PySem.PyData.eqvAll (es.map .str) (fs.map .str) = decide (es = fs)
  | [], [] => rfl
  | [], _ :: _ => rfl
  | _ :: _, [] => rfl
  | s :: es, t :: fs => by
    have ih := eqv_str es fs
    by_cases e : s = t <;> simp [PySem.PyData.eqvAll, PySem.PyData.eqv, ih, e]
theorem depth_str : ∀ es : List Str, PySem.PyData.depthAll (es.map .str) = 0
  | [] => rfl
  | s :: es => by simp [PySem.PyData.depthAll, PySem.PyData.depth, depth_str es]
abbrev okS (s : Str) : Bool := PySem.PyData.strOk s
theorem lay_str : ∀ {es : List Str}, (∀ s ∈ es, okS s = true) → PySem.PyData.canLayAll0 (es.map .str) = true
  | [], _ => rfl
  | s :: es, w => by
    have h1 : PySem.PyData.strOk s = true := w s (by simp)
    have h2 := lay_str (es := es) fun t ht => w t (by simp [ht])
    simp [PySem.PyData.canLayAll0, PySem.PyData.canLay0, h1, h2]
theorem shaped_str {es : List Str} (w : ∀ s ∈ es, okS s = true) : PySem.SeqAt.shaped (.tuple (es.map .str)) = true := by
  simp [PySem.SeqAt.shaped, PySem.PyData.depth, depth_str, PySem.PyData.canLay0, lay_str w]
theorem lt_let : ∀ k ∈ letS.cps.toList, k < 0x110000 := by decide
theorem lt_dig : ∀ k ∈ digS.cps.toList, k < 0x110000 := by decide
theorem nameB_ok {s : Str} (h : nameB s = true) : okS s = true := by
  unfold nameB at h
  simp only [Bool.and_eq_true, and_true] at h
  have a := h.1.2
  show s.cps.all (· < 0x110000) = true
  rw [← Array.all_toList]
  rw [List.all_eq_true]
  rw [List.all_eq_true] at a
  intro k hk
  rcases (Bool.or_eq_true _ _).mp (a k hk) with q | q
  · exact decide_eq_true (lt_let k (of_decide_eq_true q))
  · exact decide_eq_true (lt_dig k (of_decide_eq_true q))
theorem Eff.okS {es : List Str} (e : Eff es) : ∀ s ∈ es, Py.okS s = true := fun s hs => nameB_ok (e.nam s hs)
theorem eq_sL {es fs : List Str} (w : ∀ s ∈ es, okS s = true) (w' : ∀ s ∈ fs, okS s = true) : eqR C (.tup (sL es)) (.tup (sL fs)) h = .ok (.bl (decide (es = fs))) h := by
  have e : datEq (norm h (.tup (sL es))) (norm h (.tup (sL fs))) = some (decide (es = fs)) := by
    simp [norm, datEq, dat, datL_str, shaped_str w, shaped_str w', PySem.PyData.eqv, eqv_str]
  unfold eqR
  simp [scalP, e]
theorem apart_R {p q : Rat} (ne : p ≠ q) : apart (R p) (R q) = true := by
  by_cases e : p.num = q.num
  · have d : p.den ≠ q.den := fun d => ne (Rat.ext e d)
    have d' : ¬ (p.den : Int) = q.den := by omega
    simp [R, apart, apartF, refP, scalP, e, d']
  · simp [R, apart, apartF, refP, scalP, e]
theorem eqI_R (p q : Rat) : eqI ⟨PP, callF PP (k + 3), m⟩ (R p) (R q) h = some (decide (p = q)) := by
  have e : eqO ⟨PP, callF PP (k + 3), m⟩ (R p) (R q) h = .ok (.bl (decide (p = q))) h := by
    unfold eqO
    simp [meth_R, c_Ratio, req_ok]
  have s : scalP (R p) (R q) = none := rfl
  unfold eqI
  rw [s, e]
  dsimp only
  by_cases d : p = q
  · rw [if_pos ⟨rfl, .inl (by simp [d])⟩]
  · rw [if_pos ⟨rfl, .inr (apart_R d)⟩]
theorem eqIs_R : ∀ ws vs : List Rat, eqIs ⟨PP, callF PP (k + 3), m⟩ h (ws.map R) (vs.map R) = some (decide (ws = vs))
  | [], [] => rfl
  | [], _ :: _ => rfl
  | _ :: _, [] => rfl
  | p :: ws, q :: vs => by
    have ih := eqIs_R ws vs
    simp only [List.map_cons, eqIs, eqI_R]
    by_cases e : p = q <;> simp [e, ih]
theorem datL_R (p : Rat) (ws : List Rat) : datL ((p :: ws).map R) = none := rfl
/-- == of rows of fractions -/
theorem eq_rL (ws vs : List Rat) : eqR ⟨PP, c, callF PP (k + 3)⟩ (.tup (ws.map R)) (.tup (vs.map R)) h = .ok (.bl (decide (ws = vs))) h := by
  unfold eqR
  cases ws with
  | nil => cases vs with
    | nil => simp [scalP, norm, datEq, dat, datL, PySem.SeqAt.shaped, PySem.PyData.eqv, PySem.PyData.eqvAll, PySem.PyData.canLay0, PySem.PyData.canLayAll0, PySem.PyData.depth, PySem.PyData.depthAll]
    | cons q vs => simp [scalP, norm, datEq, dat, datL, R, sqP, eqIs]
  | cons p ws =>
    have e := eqIs_R (k := k) (m := callF PP (k + 3)) (h := h) (p :: ws) vs
    simp only [asIns_tup, scalP, norm, datEq, dat, datL_R, Option.map_none, sqP, Cxt.low, e]
theorem eq_R (p q : Rat) : eqR ⟨PP, callF PP (k + 3), m⟩ (R p) (R q) h = .ok (.bl (decide (p = q))) h := by
  have e := req_ok (k := k) (h := h) p q
  unfold eqR
  rw [R_asIns]
  dsimp only
  rw [if_pos (R_okB ..), meth_R]
  simp [c_Ratio, e]
end
end Py

set_option Elab.async false
set_option linter.all false
set_option maxRecDepth 100000
set_option maxHeartbeats 1000017
namespace Py
open PySem (Str)
section
variable {k : Nat} {h : EH} {c m : Nm → List PV → EH → Res PV} {X : Exc → EH → Prop} {Q : PV → EH → Prop} {kk : Kt X Q}
/-! what a question is -/
section
variable (es : List Str) (ws : List Rat)
@[simp] theorem Q_asIns : asIns h (Qv es ws) = some (.Question, [(.effects, .tup (sL es)), (.weights, .tup (ws.map R))]) := rfl
@[simp] theorem Q_okB : okB ⟨PP, c, m⟩ h (Qv es ws) = true := by
  simp [Qv, Prog.inst]
  simp [c_Question]
@[simp] theorem Q_isNon : isNon (Qv es ws) = false := rfl
@[simp] theorem Q_inst : isOne ⟨PP, c, m⟩ h (Qv es ws) (.cls .Question) = some true := by simp [isOne, isSup, c_Question]
@[simp] theorem att_eff : getAtt ⟨PP, c, m⟩ (Qv es ws) .effects h = .ok (.tup (sL es)) h := by simp [Qv, getAtt_obj, Prog.fld, c_Question]
@[simp] theorem att_wei : getAtt ⟨PP, c, m⟩ (Qv es ws) .weights h = .ok (.tup (ws.map R)) h := by simp [Qv, getAtt_obj, Prog.fld, c_Question]
theorem meth_Q {f : Nm} {args : List PV} (hf : f ≠ .effects ∧ f ≠ .weights) : callM ⟨PP, c, m⟩ (Qv es ws) f args [] h = (match look f c_Question.ms with
    | some g => callD ⟨PP, c, m⟩ g (Qv es ws :: args) [] h
    | none => .stuck) := by
  have e : PP.meth .Question f = look f c_Question.ms := by unfold Prog.meth; rw [cls_Question]; rfl
  have l : look f [(Nm.effects, PV.tup (sL es)), (Nm.weights, PV.tup (ws.map R))] = none := by simp [hf.1, hf.2]
  unfold callM
  rw [Q_asIns]
  dsimp only
  rw [l, e]
  all_goals (cases look f c_Question.ms <;> rfl)
end
end
end Py

set_option Elab.async false
set_option linter.all false
set_option maxRecDepth 100000
set_option maxHeartbeats 1000017
namespace Py
open PySem (Str)
section
variable {k : Nat} {h : EH} {c m : Nm → List PV → EH → Res PV} {X : Exc → EH → Prop} {Q : PV → EH → Prop} {kk : Kt X Q} {es fs : List Str} {ws vs : List Rat}
theorem qeq_ok (w : ∀ s ∈ es, okS s = true) (w' : ∀ s ∈ fs, okS s = true) : callF PP (k + 5) .Question___eq__ [Qv es ws, Qv fs vs] h = .ok (.bl (decide (es = fs ∧ ws = vs))) h := by
  refine TE.eq ?_
  refine TE_call d_Question___eq__ (by simp) rfl (TE_end0 rfl ?_)
  have e2 := eq_rL (k := k) (c := callF PP (k + 4)) (h := h) ws vs
  by_cases q : es = fs
  · subst q
    simp [d_Question___eq__, start, bCall, eq_sL w w', e2]
  · simp [d_Question___eq__, start, bCall, eq_sL w w', q]
theorem qeq_no {v : PV} (ok : okB ⟨PP, callF PP (k + 4), callF PP (k + 3)⟩ h v = true) (no : isOne ⟨PP, callF PP (k + 4), callF PP (k + 3)⟩ h v (.cls .Question) = some false) : callF PP (k + 5) .Question___eq__ [Qv es ws, v] h = .ok (.bl false) h := by
  refine TE.eq ?_
  refine TE_call d_Question___eq__ (by simp) rfl (TE_end0 rfl ?_)
  have nt : ∀ ts, PV.cls .Question ≠ .tup ts := fun ts e => by cases e
  simp [d_Question___eq__, start, bCall, ok, no]
theorem al_zip {P : PV → PV → Prop} {f : Rat → Rat → Rat} : ∀ {ws vs : List Rat}, (∀ p ∈ ws, ∀ q ∈ vs, P (.tup [R p, R q]) (R (f p q))) → Al P (zipL (ws.map R) (vs.map R)) ((List.zipWith f ws vs).map R)
  | [], _, _ => by cases ‹List Rat› <;> exact .nil
  | _ :: _, [], _ => .nil
  | p :: ws, q :: vs, w => .cons (w p (by simp) q (by simp)) (al_zip fun p hp q hq => w p (by simp [hp]) q (by simp [hq]))
def zadd (ws vs : List Rat) : List Rat := List.zipWith (· + ·) ws vs
theorem zadd_len (ws vs : List Rat) : (zadd ws vs).length = min ws.length vs.length := List.length_zipWith
theorem qadd_ok (e : Eff es) (l1 : ws.length = es.length) (l2 : vs.length = es.length) (hb : ∀ p ∈ ws, ∀ q ∈ vs, bt p + bt q ≤ 8000) :
    callF PP (k + 9) .Question___add__ [Qv es ws, Qv es vs] h = .ok (Qv es (zadd ws vs)) h := by
  refine TE.eq ?_
  refine TE_call d_Question___add__ (by simp) rfl (TE_end0 rfl ?_)
  have l4 := e.four
  have lz := zadd_len ws vs
  have lc : evE ⟨PP, callF PP (k + 8), callF PP (k + 7)⟩ (.lc false (.t [2, 3]) (.zip (.att (.v 0) .weights) (.att (.v 1) .weights)) none (.bin .add (.v 2) (.v 3))) [some (Qv es ws), some (Qv es vs), none, none] h = .ok (.lst ((zadd ws vs).map R)) h := by
    rw [lc_al (q := .std) (xs := zipL (ws.map R) (vs.map R)) (by simp) trivial (al_zip (f := (· + ·)) fun p hp q hq => ⟨[some (Qv es ws), some (Qv es vs), some (R p), some (R q)], rfl, by simp [op_add (k := k + 1) (num_of q) (hb p hp q hq)]⟩)]
    exact newL_s (by rw [List.length_map, List.length_zipWith, big_eq]; omega)
  have mk := mk_Q (k := k) (c := callF PP (k + 8)) (h := h) (.tup (sL es)) e (.lst ((zadd ws vs).map R)) (Nums.R _) (by omega)
  simp [-TE_evE_lc0, -evE_lc0, d_Question___add__, start, eq_sL e.okS e.okS]
  rw [lc]
  simp [mk]
def zsub (ws vs : List Rat) : List Rat := List.zipWith (· - ·) ws vs
theorem zsub_len (ws vs : List Rat) : (zsub ws vs).length = min ws.length vs.length := List.length_zipWith
theorem qsub_ok (e : Eff es) (l1 : ws.length = es.length) (l2 : vs.length = es.length) (hb : ∀ p ∈ ws, ∀ q ∈ vs, bt p + bt q ≤ 8000) :
    callF PP (k + 9) .Question___sub__ [Qv es ws, Qv es vs] h = .ok (Qv es (zsub ws vs)) h := by
  refine TE.eq ?_
  refine TE_call d_Question___sub__ (by simp) rfl (TE_end0 rfl ?_)
  have l4 := e.four
  have lz := zsub_len ws vs
  have lc : evE ⟨PP, callF PP (k + 8), callF PP (k + 7)⟩ (.lc false (.t [2, 3]) (.zip (.att (.v 0) .weights) (.att (.v 1) .weights)) none (.bin .sub (.v 2) (.v 3))) [some (Qv es ws), some (Qv es vs), none, none] h = .ok (.lst ((zsub ws vs).map R)) h := by
    rw [lc_al (q := .std) (xs := zipL (ws.map R) (vs.map R)) (by simp) trivial (al_zip (f := (· - ·)) fun p hp q hq => ⟨[some (Qv es ws), some (Qv es vs), some (R p), some (R q)], rfl, by simp [op_sub (k := k + 1) (num_of q) (hb p hp q hq)]⟩)]
    exact newL_s (by rw [List.length_map, List.length_zipWith, big_eq]; omega)
  have mk := mk_Q (k := k) (c := callF PP (k + 8)) (h := h) (.tup (sL es)) e (.lst ((zsub ws vs).map R)) (Nums.R _) (by omega)
  simp [-TE_evE_lc0, -evE_lc0, d_Question___sub__, start, eq_sL e.okS e.okS]
  rw [lc]
  simp [mk]
theorem al_map {P : PV → PV → Prop} {f : Rat → Rat} {ws : List Rat} (w : ∀ p ∈ ws, P (R p) (R (f p))) : Al P (ws.map R) ((ws.map f).map R) := by
  rw [List.map_map]
  exact Al.map w
def ngs (ws : List Rat) : List Rat := ws.map fun p => -p
@[simp] theorem ngs_len (ws : List Rat) : (ngs ws).length = ws.length := List.length_map _
theorem qneg_ok (e : Eff es) (l1 : ws.length = es.length) (hb : ∀ p ∈ ws, bt p ≤ 8000) : callF PP (k + 9) .Question___neg__ [Qv es ws] h = .ok (Qv es (ngs ws)) h := by
  refine TE.eq ?_
  refine TE_call d_Question___neg__ (by simp) rfl (TE_end0 rfl ?_)
  have l4 := e.four
  have lc : evE ⟨PP, callF PP (k + 8), callF PP (k + 7)⟩ (.lc false (.v 1) (.seq (.att (.v 0) .weights)) none (.neg (.v 1))) [some (Qv es ws), none] h = .ok (.lst ((ngs ws).map R)) h := by
    rw [lc_al (q := .std) (xs := ws.map R) (by simp) trivial (al_map (f := fun p => -p) fun p hp => ⟨[some (Qv es ws), some (R p)], rfl, by simp [op_neg (k := k + 2) p (hb p hp)]⟩)]
    exact newL_s (by rw [List.length_map, List.length_map, big_eq]; omega)
  have mk := mk_Q (k := k) (c := callF PP (k + 8)) (h := h) (.tup (sL es)) e (.lst ((ngs ws).map R)) (Nums.R _) (by simpa using l1)
  simp [-TE_evE_lc0, -evE_lc0, d_Question___neg__, start]
  rw [lc]
  simp [mk]
def scl (q : Rat) (ws : List Rat) : List Rat := ws.map fun p => p * q
@[simp] theorem scl_len (q : Rat) (ws : List Rat) : (scl q ws).length = ws.length := List.length_map _
theorem qmul_ok {v : PV} {q : Rat} (n : Num v q) (e : Eff es) (l1 : ws.length = es.length) (hb : ∀ p ∈ ws, bt p + bt q ≤ 8000) : callF PP (k + 9) .Question___mul__ [Qv es ws, v] h = .ok (Qv es (scl q ws)) h := by
  refine TE.eq ?_
  refine TE_call d_Question___mul__ (by simp) rfl (TE_end0 rfl ?_)
  have l4 := e.four
  have lc : evE ⟨PP, callF PP (k + 8), callF PP (k + 7)⟩ (.lc false (.v 2) (.seq (.att (.v 0) .weights)) none (.bin .mul (.v 2) (.v 1))) [some (Qv es ws), some v, none] h = .ok (.lst ((scl q ws).map R)) h := by
    rw [lc_al (q := .std) (xs := ws.map R) (by simp) trivial (al_map (f := fun p => p * q) fun p hp => ⟨[some (Qv es ws), some v, some (R p)], rfl, by simp [op_mul (k := k + 1) n (hb p hp)]⟩)]
    exact newL_s (by rw [List.length_map, List.length_map, big_eq]; omega)
  have mk := mk_Q (k := k) (c := callF PP (k + 8)) (h := h) (.tup (sL es)) e (.lst ((scl q ws).map R)) (Nums.R _) (by simpa using l1)
  simp [-TE_evE_lc0, -evE_lc0, d_Question___mul__, start]
  rw [lc]
  simp [mk]
theorem qrmul_ok {v : PV} {q : Rat} (n : Num v q) (e : Eff es) (l1 : ws.length = es.length) (hb : ∀ p ∈ ws, bt p + bt q ≤ 8000) : callF PP (k + 9) .Question___rmul__ [Qv es ws, v] h = .ok (Qv es (scl q ws)) h := by
  refine TE.eq ?_
  refine TE_call d_Question___rmul__ (by simp) rfl (TE_end0 rfl ?_)
  have l4 := e.four
  have lc : evE ⟨PP, callF PP (k + 8), callF PP (k + 7)⟩ (.lc false (.v 2) (.seq (.att (.v 0) .weights)) none (.bin .mul (.v 2) (.v 1))) [some (Qv es ws), some v, none] h = .ok (.lst ((scl q ws).map R)) h := by
    rw [lc_al (q := .std) (xs := ws.map R) (by simp) trivial (al_map (f := fun p => p * q) fun p hp => ⟨[some (Qv es ws), some v, some (R p)], rfl, by simp [op_mul (k := k + 1) n (hb p hp)]⟩)]
    exact newL_s (by rw [List.length_map, List.length_map, big_eq]; omega)
  have mk := mk_Q (k := k) (c := callF PP (k + 8)) (h := h) (.tup (sL es)) e (.lst ((scl q ws).map R)) (Nums.R _) (by simpa using l1)
  simp [-TE_evE_lc0, -evE_lc0, d_Question___rmul__, start]
  rw [lc]
  simp [mk]
end
end Py

set_option Elab.async false
set_option linter.all false
set_option maxRecDepth 100000
set_option maxHeartbeats 1000017
/-! == of questions -/
namespace Py
open PySem (Str)
section
variable {k : Nat} {h : EH} {c m : Nm → List PV → EH → Res PV} {v : PV} {es fs : List Str} {ws vs : List Rat}
theorem eq_Qq (w : ∀ s ∈ es, okS s = true) (w' : ∀ s ∈ fs, okS s = true) : eqR ⟨PP, callF PP (k + 5), m⟩ (Qv es ws) (Qv fs vs) h = .ok (.bl (decide (es = fs ∧ ws = vs))) h := by
  have e := qeq_ok (k := k) (h := h) (ws := ws) (vs := vs) w w'
  unfold eqR
  rw [Q_asIns]
  dsimp only
  rw [if_pos (Q_okB ..), meth_Q (es := es) (ws := ws) (f := .__eq__) (args := [Qv fs vs]) (by decide)]
  simp [c_Question, e]
theorem eq_Qn (ok : ∀ c m, okB ⟨PP, c, m⟩ h v = true) (no : ∀ c m, isOne ⟨PP, c, m⟩ h v (.cls .Question) = some false) : eqR ⟨PP, callF PP (k + 5), m⟩ (Qv es ws) v h = .ok (.bl false) h := by
  have e := qeq_no (k := k) (h := h) (es := es) (ws := ws) (ok _ _) (no _ _)
  unfold eqR
  rw [Q_asIns]
  dsimp only
  rw [if_pos (ok ..), meth_Q (es := es) (ws := ws) (f := .__eq__) (args := [v]) (by decide)]
  simp [c_Question, e]
theorem ne_Qq (w : ∀ s ∈ es, okS s = true) (w' : ∀ s ∈ fs, okS s = true) : opCmp ⟨PP, c, callF PP (k + 5)⟩ .ne (Qv es ws) (Qv fs vs) h = .ok (.bl !(decide (es = fs ∧ ws = vs))) h := by
  have e := qeq_ok (k := k) (h := h) (ws := ws) (vs := vs) w w'
  unfold opCmp
  simp only [Q_asIns]
  rw [if_pos (Q_okB ..), Cxt.low, meth_Q (es := es) (ws := ws) (f := .__eq__) (args := [Qv fs vs]) (by decide)]
  simp [c_Question, e, notR]
theorem opQ {o : BO} {b : PV} (ok : okB ⟨PP, c, m⟩ h b = true) : opBin ⟨PP, c, m⟩ o (Qv es ws) b h = callM ⟨PP, c, m⟩ (Qv es ws) o.dun [b] [] h := by
  conv => lhs; unfold Qv
  rw [opBin_obj]
  exact if_pos ok
theorem q_add (e : Eff es) (l1 : ws.length = es.length) (l2 : vs.length = es.length) (hb : ∀ p ∈ ws, ∀ q ∈ vs, bt p + bt q ≤ 8000) : opBin ⟨PP, callF PP (k + 9), m⟩ .add (Qv es ws) (Qv es vs) h = .ok (Qv es (zadd ws vs)) h := by
  have e1 := qadd_ok (k := k) (h := h) e l1 l2 hb
  rw [opQ (Q_okB es vs), meth_Q (es := es) (ws := ws) (f := BO.add.dun) (args := [Qv es vs]) (by decide)]
  simp [c_Question, BO.dun, e1]
theorem qM (w : ∀ s ∈ es, okS s = true) (w' : ∀ s ∈ fs, okS s = true) : callM ⟨PP, callF PP (k + 5), m⟩ (Qv es ws) .__eq__ [Qv fs vs] [] h = .ok (.bl (decide (es = fs ∧ ws = vs))) h := by
  have e := qeq_ok (k := k) (h := h) (ws := ws) (vs := vs) w w'
  rw [meth_Q (es := es) (ws := ws) (f := .__eq__) (args := [Qv fs vs]) (by decide)]
  simp [c_Question, e]
theorem qMn (ok : ∀ c m, okB ⟨PP, c, m⟩ h v = true) (no : ∀ c m, isOne ⟨PP, c, m⟩ h v (.cls .Question) = some false) : callM ⟨PP, callF PP (k + 5), m⟩ (Qv es ws) .__eq__ [v] [] h = .ok (.bl false) h := by
  have e := qeq_no (k := k) (h := h) (es := es) (ws := ws) (ok _ _) (no _ _)
  rw [meth_Q (es := es) (ws := ws) (f := .__eq__) (args := [v]) (by decide)]
  simp [c_Question, e]
end
end Py

set_option Elab.async false
set_option linter.all false
set_option maxRecDepth 100000
set_option maxHeartbeats 1000017
/-! names that a law draws -/
namespace Py
open PySem (Str)
section
variable {k : Nat} {h : EH} {c m : Nm → List PV → EH → Res PV} {X : Exc → EH → Prop} {Q : PV → EH → Prop} {kk : Kt X Q} {l : Nat} {A : Int}
abbrev alS : Str := "abcdefghijklmnopqrstuvwxyz0123456789"
/-- a name of at most n signs -/
def nmB (n : Nat) (s : Str) : Bool := decide (1 ≤ s.length) && decide (s.length ≤ n) && s.cps.toList.all (fun k => letC k || digC k) && (match s.cps.toList with | [] => false | k :: _ => letC k)
theorem al_lt {i : Nat} (hi : i < 36) : ∃ x, alS.cps.toList[i]? = some x ∧ (letC x || digC x) = true ∧ (i < 26 → letC x = true) := by
  have : ∀ i < 36, ∃ x, alS.cps.toList[i]? = some x ∧ (letC x || digC x) = true ∧ (i < 26 → letC x = true) := by
    intro i hi
    have e : ∀ j : Fin 36, ((alS.cps.toList[j.1]?).any fun x => (letC x || digC x) && (decide (26 ≤ j.1) || letC x)) = true := by decide +kernel
    have := e ⟨i, hi⟩
    cases q : alS.cps.toList[i]? with
    | none => rw [show (⟨i, hi⟩ : Fin 36).1 = i from rfl, q] at this; cases this
    | some x =>
      rw [show (⟨i, hi⟩ : Fin 36).1 = i from rfl, q] at this
      simp only [Option.any_some, Bool.and_eq_true] at this
      refine ⟨x, rfl, this.1, fun lt => ?_⟩
      rcases (Bool.or_eq_true _ _).mp this.2 with r | r
      · have := of_decide_eq_true r; omega
      · exact r
  exact this i hi
theorem getAl {v : Int} {n : Int} (h0 : 0 ≤ v) (h1 : v < n) (hn : n ≤ 36) : ∃ x, getIt (.str alS) (.int v) h = .ok (ch x) h ∧ (letC x || digC x) = true ∧ (v < 26 → letC x = true) := by
  obtain ⟨i, rfl⟩ : ∃ i : Nat, v = i := ⟨v.toNat, by omega⟩
  obtain ⟨x, e, a, b⟩ := al_lt (i := i) (by omega)
  exact ⟨x, getS (by rw [big_eq]; decide +kernel) e, a, fun q => b (by omega)⟩
theorem nmB_one {x : Nat} (a : letC x = true) : nmB 1 ⟨#[x]⟩ = true := by simp [nmB, a, PySem.Str.length]
theorem nmB_snoc {n x : Nat} {s : Str} (w : nmB n s = true) (a : (letC x || digC x) = true) : nmB (n + 1) (s ++ ⟨#[x]⟩) = true := by
  have e : (s ++ (⟨#[x]⟩ : Str)).cps.toList = s.cps.toList ++ [x] := by
    show (s.cps ++ #[x]).toList = _
    simp
  have el : (s ++ (⟨#[x]⟩ : Str)).length = s.length + 1 := by
    show (s.cps ++ #[x]).size = s.cps.size + 1
    simp
  unfold nmB at w ⊢
  rw [e, el]
  simp only [Bool.and_eq_true, decide_eq_true_eq] at w ⊢
  obtain ⟨⟨⟨w1, w2⟩, w3⟩, w4⟩ := w
  refine ⟨⟨⟨by omega, by omega⟩, by rw [List.all_append, w3]; simp [a]⟩, ?_⟩
  cases z : s.cps.toList with
  | nil => rw [z] at w4; cases w4
  | cons y r => rw [z] at w4; exact w4
theorem nmB_name {s : Str} (w : nmB 8 s = true) : nameB s = true := w
theorem nmB_mono {n n' : Nat} {s : Str} (le : n ≤ n') (w : nmB n s = true) : nmB n' s = true := by
  unfold nmB at w ⊢
  simp only [Bool.and_eq_true, decide_eq_true_eq] at w ⊢
  exact ⟨⟨⟨w.1.1.1, by omega⟩, w.1.2⟩, w.2⟩
/-- x0, x1, .. -/
def xN (j : Int) : Str := ("x" : Str) ++ (toString j : Str)
theorem xN_name : ∀ {j : Int}, 0 ≤ j → j < 8 → nameB (xN j) = true := by
  intro j h0 h1
  obtain ⟨i, rfl⟩ : ∃ i : Fin 8, j = (i.1 : Int) := ⟨⟨j.toNat, by omega⟩, by show j = ((j.toNat : Nat) : Int); omega⟩
  revert i
  decide +kernel
theorem xN_inj : ∀ {i j : Int}, 0 ≤ i → i < 8 → 0 ≤ j → j < 8 → xN i = xN j → i = j := by
  intro i j i0 i1 j0 j1
  obtain ⟨a, rfl⟩ : ∃ a : Fin 8, i = (a.1 : Int) := ⟨⟨i.toNat, by omega⟩, by show i = ((i.toNat : Nat) : Int); omega⟩
  obtain ⟨b, rfl⟩ : ∃ b : Fin 8, j = (b.1 : Int) := ⟨⟨j.toNat, by omega⟩, by show j = ((j.toNat : Nat) : Int); omega⟩
  revert a b
  decide +kernel
/-- not all are taken -/
theorem one_free : ∀ (n : Nat) (es : List Str), n ≤ 8 → (∀ j : Nat, j < n → xN j ∈ es) → n ≤ es.length
  | 0, _, _, _ => Nat.zero_le _
  | n + 1, es, hn, w => by
    have a := w n (by omega)
    have l := List.length_erase_of_mem a
    have ih := one_free n (es.erase (xN n)) (by omega) fun j hj => (List.mem_erase_of_ne fun q => by have := xN_inj (by omega) (by omega) (by omega) (by omega) q; omega).mpr (w j (by omega))
    have := List.length_pos_of_mem a
    omega
theorem any_str (s : Str) : ∀ es : List Str, (sL es).any (fun y => eqP y (.str s)) = decide (s ∈ es)
  | [] => rfl
  | e :: es => by
    show ((e == s) || (sL es).any fun y => eqP y (.str s)) = _
    rw [any_str s es]
    by_cases q : e = s
    · subst q; simp
    · have q' : ¬ s = e := fun z => q z.symm
      simp [q, q']
theorem flat_str : ∀ es : List Str, (sL es).all flatP = true
  | [] => rfl
  | e :: es => by simp [flatP, flat_str es]
theorem in_strs {v : PV} {es : List Str} (s : Sq h v (sL es)) (x : Str) : inR v (.str x) h = .ok (.bl (decide (x ∈ es))) h := by
  have e := s.seq
  have go : (match asSeq h v with
    | some xs => if flatP (.str x) && xs.all flatP then (.ok (.bl (xs.any fun y => eqP y (.str x))) h : Res PV) else .stuck
    | none => .stuck) = .ok (.bl (decide (x ∈ es))) h := by
    rw [e]
    dsimp only
    rw [flat_str, any_str]
    rfl
  cases s with
  | tup => exact go
  | lst => exact go
  | loc n _ e' => exact go
end
end Py

set_option Elab.async false
set_option linter.all false
set_option maxRecDepth 100000
set_option maxHeartbeats 1000017
/-! what a hand gives: fractions, slips, numbers -/
namespace Py
open PySem (Str)
section
variable {k : Nat} {h : EH} {c m : Nm → List PV → EH → Res PV} {X : Exc → EH → Prop} {Q : PV → EH → Prop} {kk : Kt X Q} {l : Nat} {A : Int}
theorem hfraction_s (p : Hnd l A h) (hA : A ≤ 50000) (q : ∀ a b h', 1 ≤ b → lb a ≤ 30 → lb b ≤ 30 → Hnd l (A + 3) h' → Mo (· = l) h h' → Q (.tup [.int a, .int b]) h') : TE kk (callF PP (k + 4) ._law_fraction [.loc l] h) := by
  refine TE_call d__law_fraction (by simp) rfl (TE_end0 rfl ?_)
  simp [-ib_mul, d__law_fraction, start]
  refine take_s p (by omega) (by decide) (by decide) fun v h1 v0 v1 p1 m1 => ?_
  simp [-ib_mul]
  by_cases z0 : v < 4
  · simp [z0]
    refine take_s p1 (by omega) (by decide) (by decide) fun w h2 w0 w1 p2 m2 => ?_
    simp [big_eq]
    exact q _ _ _ (by decide) (lb_abs (e := 100) (by omega) (by decide)) (by decide) (p2.mono (by omega)) (m1.trans m2)
  by_cases z4 : v = 4
  · simp [z4]
    refine take_s p1 (by omega) (by decide) (by decide) fun w h2 w0 w1 p2 m2 => ?_
    try simp
    refine take_s p2 (by omega) (by decide) (by decide) fun u h3 u0 u1 p3 m3 => ?_
    simp [big_eq]
    exact q _ _ _ (by omega) (lb_abs (e := 100) (by omega) (by decide)) (lb_abs (e := 100) (by omega) (by decide)) (p3.mono (by omega)) ((m1.trans m2).trans m3)
  by_cases z5 : v = 5
  · simp [z5]
    refine take_s p1 (by omega) (by decide) (by decide) fun w h2 w0 w1 p2 m2 => ?_
    simp [big_eq]
    exact q _ _ _ (by decide) (lb_abs (e := 10000000) (by omega) (by decide)) (by decide) (p2.mono (by omega)) (m1.trans m2)
  · simp [z0, z4, z5, big_eq]
    exact q _ _ _ (by decide) (lb_abs (e := 100) (by omega) (by decide)) (by decide) (p1.mono (by omega)) m1
theorem hslip_s (p : Hnd l A h) (hA : A ≤ 50000) (q : ∀ a b h', 0 ≤ a → 1 ≤ b → lb a ≤ 30 → lb b ≤ 30 → Hnd l (A + 3) h' → Mo (· = l) h h' → Q (.tup [.int a, .int b]) h') : TE kk (callF PP (k + 4) ._law_slip [.loc l] h) := by
  refine TE_call d__law_slip (by simp) rfl (TE_end0 rfl ?_)
  simp [-ib_mul, d__law_slip, start]
  refine take_s p (by omega) (by decide) (by decide) fun v h1 v0 v1 p1 m1 => ?_
  simp [-ib_mul]
  by_cases z0 : v < 3
  · simp [z0]
    refine take_s p1 (by omega) (by decide) (by decide) fun w h2 w0 w1 p2 m2 => ?_
    simp [big_eq]
    exact q _ _ _ (by omega) (by decide) (lb_abs (e := 100) (by omega) (by decide)) (by decide) (p2.mono (by omega)) (m1.trans m2)
  by_cases z4 : v = 3
  · simp [z4]
    refine take_s p1 (by omega) (by decide) (by decide) fun w h2 w0 w1 p2 m2 => ?_
    try simp
    refine take_s p2 (by omega) (by decide) (by decide) fun u h3 u0 u1 p3 m3 => ?_
    simp [big_eq]
    exact q _ _ _ (by omega) (by omega) (lb_abs (e := 100) (by omega) (by decide)) (lb_abs (e := 100) (by omega) (by decide)) (p3.mono (by omega)) ((m1.trans m2).trans m3)
  by_cases z5 : v = 4
  · simp [z5]
    refine take_s p1 (by omega) (by decide) (by decide) fun w h2 w0 w1 p2 m2 => ?_
    simp [big_eq]
    exact q _ _ _ (by omega) (by decide) (lb_abs (e := 10000000) (by omega) (by decide)) (by decide) (p2.mono (by omega)) (m1.trans m2)
  · simp [z0, z4, z5, big_eq]
    exact q _ _ _ (by decide) (by decide) (by decide) (by decide) (p1.mono (by omega)) m1
/-- _law_number: the number of a pair -/
theorem hnum_ok {a b : Int} (hb : 1 ≤ b) (l : lb b < 9000) : ∃ v, Num v (Rat.divInt a b) ∧ ∀ {k : Nat} {h : EH}, callF PP (k + 6) ._law_number [.tup [.int a, .int b]] h = .ok v h := by
  have m1 : intBin .mod a 2 = some (a.fmod 2) := fmod_b (by decide)
  by_cases e : b = 1
  · subst e
    by_cases e2 : a.fmod 2 = 0
    · refine ⟨.int a, by rw [divInt_1]; exact num_int a, fun {k h} => TE.eq ?_⟩
      refine TE_call d__law_number (by simp) rfl (TE_end0 rfl ?_)
      simp [-ib_mod, d__law_number, start, getIt, asSeq, pyIx, bCall, m1, e2]
    · refine ⟨_, num_of _, fun {k h} => TE.eq ?_⟩
      refine TE_call d__law_number (by simp) rfl (TE_end0 rfl ?_)
      simp [-ib_mod, d__law_number, start, getIt, asSeq, pyIx, bCall, m1, e2, mk_ok (k := k) a 1 (by omega) l]
  · refine ⟨_, num_of _, fun {k h} => TE.eq ?_⟩
    refine TE_call d__law_number (by simp) rfl (TE_end0 rfl ?_)
    simp [-ib_mod, d__law_number, start, getIt, asSeq, pyIx, bCall, e, mk_ok (k := k) a b (by omega) l]
end
end Py

set_option Elab.async false
set_option linter.all false
set_option maxRecDepth 100000
set_option maxHeartbeats 1000017
/-! _law_names of a hand -/
namespace Py
open PySem (Str)
section
variable {k : Nat} {h : EH} {c m : Nm → List PV → EH → Res PV} {X : Exc → EH → Prop} {Q : PV → EH → Prop} {kk : Kt X Q} {l : Nat} {A : Int}
theorem nmB_len {n : Nat} {s : Str} (w : nmB n s = true) : s.length ≤ n := by
  unfold nmB at w
  simp only [Bool.and_eq_true, decide_eq_true_eq] at w
  exact w.1.1.2
theorem cat_s {x y : Str} (hx : x.length ≤ 100) (hy : y.length ≤ 100) : opBin ⟨PP, c, m⟩ .add (.str x) (.str y) h = .ok (.str (x ++ y)) h := if_pos (by rw [big_eq]; omega)
theorem alS_eq : letS ++ digS = alS := by decide +kernel
theorem getLet {v : Int} (h0 : 0 ≤ v) (h1 : v < 26) : ∃ x, getIt (.str letS) (.int v) h = .ok (ch x) h ∧ letC x = true := by
  obtain ⟨i, rfl⟩ : ∃ i : Nat, v = i := ⟨v.toNat, by omega⟩
  have hi : i < letS.cps.toList.length := by rw [show letS.cps.toList.length = 26 by decide +kernel]; omega
  refine ⟨letS.cps.toList[i], getS (by rw [big_eq]; decide +kernel) (List.getElem?_eq_getElem hi), ?_⟩
  exact decide_eq_true (List.getElem_mem hi)
/-- the tails that are free -/
def tailsF (es : List Str) (s : Str) (cs : List Nat) : List Str := (cs.map fun c => s ++ (⟨#[c]⟩ : Str)).filter fun z => decide (z ∉ es)
/-- not all tails are taken -/
theorem tail_all (s : Str) : ∀ (cs : List Nat) (es : List Str), cs.Nodup → (∀ c ∈ cs, s ++ (⟨#[c]⟩ : Str) ∈ es) → cs.length ≤ es.length
  | [], es, _, _ => Nat.zero_le es.length
  | c :: cs, es, nd, w => by
    have a := w c (List.mem_cons_self ..)
    have inj : ∀ a b : Nat, s ++ (⟨#[a]⟩ : Str) = s ++ (⟨#[b]⟩ : Str) → a = b := fun a b e => by
      have e2 : (s ++ (⟨#[a]⟩ : Str)).cps.toList = (s ++ (⟨#[b]⟩ : Str)).cps.toList := by rw [e]
      have e3 : (s.cps ++ #[a]).toList = (s.cps ++ #[b]).toList := e2
      simpa using e3
    have l := List.length_erase_of_mem a
    have nd2 := List.nodup_cons.mp nd
    have ih := tail_all s cs (es.erase (s ++ ⟨#[c]⟩)) nd2.2 fun d hd => (List.mem_erase_of_ne fun q => nd2.1 (by rw [← inj _ _ q]; exact hd)).mpr (w d (List.mem_cons_of_mem _ hd))
    have := List.length_pos_of_mem a
    show cs.length + 1 ≤ es.length
    omega
theorem tail_free {es : List Str} {s : Str} {cs : List Nat} (nd : cs.Nodup) (lt : es.length < cs.length) : tailsF es s cs ≠ [] := fun e => by
  have := tail_all s cs es nd fun c hc => by
    have := List.filter_eq_nil_iff.mp e (s ++ ⟨#[c]⟩) (List.mem_map_of_mem hc)
    simpa using this
  omega
theorem lcL_free {f : PV → EH → Res (Option PV)} {q : Src} (hq : q.ok h) {s : Str} {es : List Str} (w : ∀ x : Nat, f (ch x) h = .ok (if s ++ (⟨#[x]⟩ : Str) ∈ es then none else some (.str (s ++ ⟨#[x]⟩))) h) : ∀ cs : List Nat, lcL f q (cs.map ch) h = .ok (sL (tailsF es s cs)) h
  | [] => by rw [List.map_nil, lcL, if_pos hq]; rfl
  | x :: cs => by
    rw [List.map_cons, lcL, if_pos hq, w x]
    by_cases z : s ++ (⟨#[x]⟩ : Str) ∈ es
    · rw [if_pos z]
      show (lcL f q (cs.map ch) h).bind _ = _
      rw [lcL_free hq w cs]
      show Res.ok (sL (tailsF es s cs)) h = _
      congr 2
      simp [tailsF, z]
    · rw [if_neg z]
      show (lcL f q (cs.map ch) h).bind _ = _
      rw [lcL_free hq w cs]
      show Res.ok (.str _ :: sL (tailsF es s cs)) h = _
      congr 2
      simp [tailsF, z]
theorem free_ok {s : Str} {es : List Str} {n : Nat} {C : Cxt} {a0 a1 a2 a4 a6 a7 a8 : Option PV} (hC : C = ⟨PP, c, m⟩) (ls : s.length ≤ 50) (st : hget n h = some (.lst (sL es))) :
    evE C (.lc false (.v 8) (.seq (.s "0123456789")) (some (.cmp .nin (.bin .add (.v 5) (.v 8)) (.v 3))) (.bin .add (.v 5) (.v 8))) [a0, a1, a2, some (.loc n), a4, some (.str s), a6, a7, a8] h = .ok (.lst (sL (tailsF es s digS.cps.toList))) h := by
  subst hC
  have ins : ∀ z, inR (.loc n) (.str z) h = .ok (.bl (decide (z ∈ es))) h := in_strs (.loc _ _ st)
  have ca : ∀ y : Nat, opBin ⟨PP, c, m⟩ .add (.str s) (.str ⟨#[y]⟩) h = _ := fun y => cat_s (by omega) (show 1 ≤ 100 by decide)
  rw [evE_lc1, show evI ⟨PP, c, m⟩ (.seq (.s "0123456789")) [a0, a1, a2, some (.loc n), a4, some (.str s), a6, a7, a8] h = .ok (.std, digS.cps.toList.map ch) h from by simp [ch]]
  simp only [bind_ok]
  rw [lcL_free (es := es) (s := s) (h := h) (q := .std) trivial fun y => ?_]
  · simp only [bind_ok]
    refine newL_s ?_
    refine Nat.le_trans (m := 10) ?_ (by rw [big_eq]; decide)
    rw [List.length_map]
    refine Nat.le_trans (List.length_filter_le ..) ?_
    rw [List.length_map]
    decide +kernel
  · by_cases z : s ++ (⟨#[y]⟩ : Str) ∈ es
    · simp [ch, ca, ins, z]
    · simp [ch, ca, ins, z]
theorem rngE {C : Cxt} {σ : Env} {e : E} {Q : Src × List PV → EH → Prop} {kk : Kt X Q} (w : Tr X (fun v h' => ∃ n : Int, v = .int n ∧ 0 ≤ n ∧ n ≤ 1000000 ∧ Q (.std, rangeL 0 n.toNat) h') (evE C e σ h)) : TE kk (evI C (.range [e]) σ h) := by
  rw [evI_range1]
  cases z : evE C e σ h with
  | ok v h' =>
    rw [z] at w
    obtain ⟨n, rfl, h0, h1, q⟩ := w
    have c := pow62 h0 h1
    rw [bind_ok]
    generalize (2 : Int) ^ 62 = Z at c
    exact TE.of_eq (if_pos c) q
  | err x h' => rw [z] at w; exact w
  | stuck => rw [z] at w; exact w
theorem getAl' {s : Str} {v : Int} {C : Cxt} (hs : s = alS) (h0 : 0 ≤ v) (h1 : v < 36) : ∃ x, getIt (.str s) (.int v) h = .ok (ch x) h ∧ (letC x || digC x) = true := by
  subst hs
  obtain ⟨x, e, a, _⟩ := getAl (h := h) h0 h1 (by decide)
  exact ⟨x, e, a⟩
theorem hnames_s {M : Nat} {a : PV} (ea : a = .int M) (p : Hnd l A h) (hA : A ≤ 10000) (M8 : M ≤ 8)
    (q : ∀ ev es h', ev = .lst (sL es) → (∀ s ∈ es, nameB s = true) → es.Nodup → es.length = M → Hnd l (A + 4 * (M : Nat)) h' → Mo (· = l) h h' → Q ev h') : TE kk (callF PP (k + 5) ._law_names [.loc l, a] h) := by
  refine TE_call1 d__law_names (by simp) rfl rfl ?_
  have ne : h.length ≠ l := by have := p.lt; omega
  simp [-evI_range1, -TE_evI_range1, -TE_evE_lc1, -evE_lc1, d__law_names, start]
  rw [rng1 (n := (M : Int)) (by simp [ea]) (by omega) (by omega)]
  simp
  refine TS_rng (fun i σ h' => ∃ es t4 t5 t6 t7 t8, σ = [some (.loc l), some a, some (.str letS), some (.loc h.length), t4, t5, t6, t7, t8] ∧ es.length = i ∧ (∀ s ∈ es, nameB s = true) ∧ es.Nodup ∧ hget h.length h' = some (.lst (sL es)) ∧ Hnd l (A + 4 * (i : Nat)) h' ∧ Mo (· = l) h h')
    ⟨[], none, none, none, none, none, rfl, rfl, by simp, .nil, by rw [hget_cons, if_pos rfl]; rfl, (p.mo (Mo.push (l := fun _ => False) _ _) id).mono (by omega), Mo.push _ _⟩ ?_ ?_
  · rintro i σ h1 lt ⟨es, t4, t5, t6, t7, t8, rfl, le, nm, nd, st, p1, m1⟩
    refine ⟨_, rfl, ?_⟩
    simp [-evI_range1, -TE_evI_range1, -TE_evE_lc1, -evE_lc1]
    refine take_s p1 (by omega) (by decide) (by decide) fun v h2 v0 v1 p2 m2 => ?_
    obtain ⟨x, g, gx⟩ := getLet (h := h2) v0 v1
    simp [-evI_range1, -TE_evI_range1, -TE_evE_lc1, -evE_lc1, g, ch]
    refine rngE ?_
    simp [-TE_evE_lc1, -evE_lc1]
    refine take_s p2 (by omega) (by decide) (by decide) fun w h3 w0 w1 p3 m3 => ⟨w, rfl, w0, by omega, ?_⟩
    have st3 := (m2.trans m3).get st ne
    have m03 := (m1.trans m2).trans m3
    refine TS_rng (fun j σ h' => ∃ s t6, σ = [some (.loc l), some a, some (.str letS), some (.loc h.length), some (.int i), some (.str s), t6, t7, t8] ∧ nmB (1 + j) s = true ∧ Hnd l (A + 4 * (i : Nat) + 2 + (j : Nat)) h' ∧ hget h.length h' = some (.lst (sL es)) ∧ Mo (· = l) h h') ⟨_, _, rfl, nmB_one gx, p3.mono (by omega), st3, m03⟩ ?_ ?_
    · rintro j σ h4 lj ⟨s, t6, rfl, ns, p4, st4, m4⟩
      refine ⟨_, rfl, ?_⟩
      have c1 : opBin ⟨PP, callF PP (k + 4), callF PP (k + 3)⟩ .add (.str letS) (.str digS) h4 = .ok (.str (letS ++ digS)) h4 := cat_s (by decide +kernel) (by decide +kernel)
      simp [c1]
      refine take_s p4 (by omega) (by decide) (by decide) fun u h5 u0 u1 p5 m5 => ?_
      obtain ⟨y, g, gy, _⟩ := getAl (h := h5) u0 u1 (by decide)
      have ls := nmB_len ns
      have ca : opBin ⟨PP, callF PP (k + 4), callF PP (k + 3)⟩ .add (.str s) (.str ⟨#[y]⟩) h5 = _ := cat_s (by omega) (show 1 ≤ 100 by decide)
      rw [show letS ++ digS = alS from alS_eq]
      simp only [g, ch, TE_ok, ca]
      simp
      exact ⟨by have := nmB_snoc ns gy; rwa [Nat.add_assoc] at this, p5.mono (by omega), m5.get st4 ne, m4.trans m5⟩
    · rintro σ h4 ⟨s, t6, rfl, ns, p4, st4, m4⟩
      have ins : ∀ z, inR (.loc h.length) (.str z) h4 = .ok (.bl (decide (z ∈ es))) h4 := in_strs (.loc _ _ st4)
      have lb : es.length < big := Nat.lt_of_le_of_lt (show es.length ≤ 8 by omega) (by rw [big_eq]; decide +kernel)
      have fin : ∀ s' : Str, nameB s' = true → s' ∉ es → ∃ es2 : List Str, es2.length = i + 1 ∧ (∀ s ∈ es2, nameB s = true) ∧ es2.Nodup ∧ hget h.length (hset h.length (.lst (sL es ++ [.str s'])) h4) = some (.lst (sL es2)) ∧ Hnd l (A + 4 * ((i : Int) + 1)) (hset h.length (.lst (sL es ++ [.str s'])) h4) ∧ Mo (· = l) h (hset h.length (.lst (sL es ++ [.str s'])) h4) := fun s' ns' ni => by
        have lt2 : h.length < h4.length := hgetA_lt st4
        refine ⟨es ++ [s'], by simp [le], ?_, ?_, by rw [hgs lt2]; simp, ((p4.mo (u := (· = h.length)) (Mo.set fun _ => rfl) (fun e => ne e.symm)).mono (by omega)), ⟨by rw [hset_length]; exact m4.le, fun x hx w => ?_⟩⟩
        · intro x hx
          rcases List.mem_append.mp hx with z | z
          · exact nm x z
          · rw [List.mem_singleton.mp z]; exact ns'
        · rw [List.nodup_append]
          exact ⟨nd, by simp, fun a ha b hb e => by rw [List.mem_singleton.mp hb] at e; exact ni (e ▸ ha)⟩
        · rw [hsetA_get, if_neg (by omega)]
          exact m4.at_ x hx w
      by_cases hs : s ∈ es
      · obtain ⟨z, r, e⟩ : ∃ z r, tailsF es s digS.cps.toList = z :: r := List.exists_cons_of_ne_nil (tail_free (by decide +kernel) (by rw [show digS.cps.toList.length = 10 by decide +kernel]; omega))
        have hz : z ∈ tailsF es s digS.cps.toList := by rw [e]; exact List.mem_cons_self ..
        have hz2 := List.mem_filter.mp hz
        have zn : z ∉ es := of_decide_eq_true hz2.2
        have zm : nameB z = true := by
          obtain ⟨y, hy, rfl⟩ := List.mem_map.mp hz2.1
          refine nmB_name (nmB_mono (n := 1 + w.toNat + 1) (by omega) (nmB_snoc ns ?_))
          rw [Bool.or_eq_true]
          exact .inr (decide_eq_true hy)
        have fo : ∀ (c m : Nm → List PV → EH → Res PV) t6 t7 t8, evE ⟨PP, c, m⟩ _ [_, _, _, _, _, _, t6, t7, t8] h4 = _ := fun c m t6 t7 t8 => free_ok (s := s) (es := es) (n := h.length) (a0 := some (.loc l)) (a1 := some a) (a2 := some (.str letS)) (a4 := some (.int (i : Nat))) (a6 := t6) (a7 := t7) (a8 := t8) rfl (by have := nmB_len ns; omega) st4
        rw [e] at fo
        simp [-TE_evE_lc1, -evE_lc1, ins, hs, fo, getIt, asSeq, pyIx, res_app st4]
        rw [do_app st4 (by simpa using lb)]
        simp
        exact fin z zm zn
      · simp [-TE_evE_lc1, -evE_lc1, ins, hs, res_app st4]
        rw [do_app st4 (by simpa using lb)]
        simp
        exact fin s (nmB_name (nmB_mono (by omega) ns)) hs
  · rintro σ h1 ⟨es, t4, t5, t6, t7, t8, rfl, le, nm, nd, st, p1, m1⟩
    simp
    refine shut_lst' m1 (Nat.le_refl _) st fun h2 m2 at2 => q (.lst (sL es)) es h2 rfl nm nd (by omega) ?_ m2
    obtain ⟨n, a, s, e, r1, r2, r3⟩ := p1.ex
    exact ⟨n, a, s, by rw [at2 _ p.lt, e], r1, by omega, r3⟩
end
end Py

set_option Elab.async false
set_option linter.all false
set_option maxRecDepth 100000
set_option maxHeartbeats 1000017
/-! things that are no numbers -/
namespace Py
open PySem (Str)
section
variable {k : Nat} {h : EH} {c m : Nm → List PV → EH → Res PV} {v w : PV}
/-- no number, in any heap -/
structure NN (v : PV) : Prop where
  ok : ∀ h c m, okB ⟨PP, c, m⟩ h v = true
  rat : ∀ h c m, isOne ⟨PP, c, m⟩ h v (.cls .Ratio) = some false
  int : (∀ h c m, isOne ⟨PP, c, m⟩ h v (.ty "int") = some false) ∨ ∀ h c m, isOne ⟨PP, c, m⟩ h v (.ty "int") = some true ∧ isOne ⟨PP, c, m⟩ h v (.ty "bool") = some true
theorem NN.non : NN .non := ⟨fun _ _ _ => rfl, fun _ _ _ => by simp [isOne], .inl fun _ _ _ => by simp [isOne, tyL]⟩
theorem NN.bl (b : Bool) : NN (.bl b) := ⟨fun _ _ _ => rfl, fun _ _ _ => by simp [isOne], .inr fun _ _ _ => by simp [isOne, tyL]⟩
theorem NN.str (s : Str) : NN (.str s) := ⟨fun _ _ _ => rfl, fun _ _ _ => by simp [isOne], .inl fun _ _ _ => by simp [isOne, tyL]⟩
theorem NN.tup (xs : List PV) : NN (.tup xs) := ⟨fun _ _ _ => rfl, fun _ _ _ => by simp [isOne], .inl fun _ _ _ => by simp [isOne, tyL]⟩
theorem NN.lst (xs : List PV) : NN (.lst xs) := ⟨fun _ _ _ => rfl, fun _ _ _ => by simp [isOne], .inl fun _ _ _ => by simp [isOne, tyL]⟩
theorem NN.dct (xs : List (Key × PV)) : NN (.dct xs) := ⟨fun _ _ _ => rfl, fun _ _ _ => by simp [isOne], .inl fun _ _ _ => by simp [isOne, tyL]⟩
theorem inst1 {t : PV} {b : Bool} (ok : okB ⟨PP, c, m⟩ h v = true) (e : isOne ⟨PP, c, m⟩ h v t = some b) : bCall ⟨PP, c, m⟩ .isinst [v, t] h = .ok (.bl b) h := by
  cases t with
  | tup ts => simp [isOne] at e
  | _ => simp [bCall, ok, e]
theorem NN.isi (n : NN v) : callF PP (k + 3) .is_integer [v] h = .ok (.bl false) h := by
  refine TE.eq ?_
  refine TE_call d_is_integer (by simp) rfl (TE_end0 rfl ?_)
  rcases n.int with q | q
  · simp [d_is_integer, start, inst1 (n.ok _ _ _) (q _ _ _)]
  · simp [d_is_integer, start, inst1 (n.ok _ _ _) (q _ _ _).1, inst1 (n.ok _ _ _) (q _ _ _).2]
theorem NN.isn (n : NN v) : callF PP (k + 4) .is_number [v] h = .ok (.bl false) h := by
  refine TE.eq ?_
  refine TE_call d_is_number (by simp) rfl (TE_end0 rfl ?_)
  simp [d_is_number, start, inst1 (n.ok _ _ _) (n.rat _ _ _), n.isi]
end
end Py

set_option Elab.async false
set_option linter.all false
set_option maxRecDepth 100000
set_option maxHeartbeats 1000017
/-! runs -/
namespace Py
open PySem (Str)
section
variable {k : Nat} {h : EH} {c m : Nm → List PV → EH → Res PV} {v w : PV} {es : List Str} {ws : List Rat} {p q : Rat}
theorem rlt_ok (n : Num v q) (hs : bt p + bt q ≤ 20000) : callF PP (k + 7) .Ratio___lt__ [R p, v] h = .ok (.bl (decide (p < q))) h := by
  have := bt_num p; have := bt_num q; have := bt_den p; have := bt_den q
  have m1 : intBin .mul p.num q.den = some (p.num * q.den) := mul_b (by omega)
  have m2 : intBin .mul q.num p.den = some (q.num * p.den) := mul_b (by omega)
  refine TE.eq ?_
  refine TE_call d_Ratio___lt__ (by simp) rfl (TE_end0 rfl ?_)
  simp [-ib_mul, d_Ratio___lt__, start, n.isn, n.asr, m1, m2, Rat.lt_iff]
theorem rgt_ok (n : Num v q) (hs : bt p + bt q ≤ 20000) : callF PP (k + 7) .Ratio___gt__ [R p, v] h = .ok (.bl (decide (q < p))) h := by
  have := bt_num p; have := bt_num q; have := bt_den p; have := bt_den q
  have m1 : intBin .mul p.num q.den = some (p.num * q.den) := mul_b (by omega)
  have m2 : intBin .mul q.num p.den = some (q.num * p.den) := mul_b (by omega)
  refine TE.eq ?_
  refine TE_call d_Ratio___gt__ (by simp) rfl (TE_end0 rfl ?_)
  simp [-ib_mul, d_Ratio___gt__, start, n.isn, n.asr, m1, m2, Rat.lt_iff]
def absQ (p : Rat) : Rat := Rat.divInt (p.num.natAbs : Nat) p.den
theorem bt_abs (p : Rat) : bt (absQ p) ≤ bt p := bt_div (by rw [show lb ((p.num.natAbs : Nat) : Int) = lb p.num by unfold lb; rw [Int.natAbs_natCast]]; exact bt_num p) (bt_den p) (den_ne1 p)
theorem rabs_ok (p : Rat) (hp : bt p ≤ 8000) : callF PP (k + 6) .Ratio___abs__ [R p] h = .ok (R (absQ p)) h := by
  have := bt_den p
  have sz : lb (p.den : Int) < 9000 := by omega
  refine TE.eq ?_
  refine TE_call d_Ratio___abs__ (by simp) rfl (TE_end0 rfl ?_)
  have e : (if p.num < 0 then -p.num else p.num) = (p.num.natAbs : Int) := by split <;> omega
  simp [d_Ratio___abs__, start, bCall, mk_ok _ _ (den_ne1 p) sz, absQ, e]
theorem lt0 (n : Num v q) (hb : bt q ≤ 8000) : ordR ⟨PP, callF PP (k + 7), m⟩ .lt v (.int 0) h = .ok (.bl (decide (q < 0))) h := by
  rcases n with rfl | ⟨i, rfl, rfl⟩
  · have z := rlt_ok (k := k) (h := h) (p := q) (num_int 0) (by rw [bt_int]; exact Nat.le_trans (Nat.add_le_add hb (show lb 0 ≤ 0 by decide)) (by decide))
    unfold R
    rw [ordR_obj, if_pos (num_int 0).okb]
    show callM ⟨PP, callF PP (k + 7), m⟩ (R q) .__lt__ [.int 0] [] h = _
    rw [meth_R]
    simp [c_Ratio]
    exact z
  · rw [ordR_lt]
    have e : ((i : Rat) < 0) = (i < 0) := by
      have := @Rat.intCast_lt_intCast i 0
      exact propext this
    simp only [e]
end
end Py

set_option Elab.async false
set_option linter.all false
set_option maxRecDepth 100000
set_option maxHeartbeats 1000017
/-! runs -/
namespace Py
open PySem (Str)
section
variable {k : Nat} {h : EH} {c m : Nm → List PV → EH → Res PV} {v w : PV} {es : List Str} {ws : List Rat} {p q : Rat}
/-- a run -/
def Rv (es : List Str) (ws : List Rat) (s : Rat) : PV := .obj .Run [(.question, Qv es ws), (.slip, R s)]
@[simp] theorem Rv_asIns (s : Rat) : asIns h (Rv es ws s) = some (.Run, [(.question, Qv es ws), (.slip, R s)]) := rfl
@[simp] theorem Rv_okB (s : Rat) : okB ⟨PP, c, m⟩ h (Rv es ws s) = true := by
  unfold okB
  rw [Rv_asIns]
  rfl
@[simp] theorem att_que (s : Rat) : getAtt ⟨PP, c, m⟩ (Rv es ws s) .question h = .ok (Qv es ws) h := by simp [Rv, getAtt_obj, Prog.fld, c_Run]
@[simp] theorem att_sli (s : Rat) : getAtt ⟨PP, c, m⟩ (Rv es ws s) .slip h = .ok (R s) h := by simp [Rv, getAtt_obj, Prog.fld, c_Run]
theorem rinit (n : Num v q) (h0 : 0 ≤ q) (hb : bt q ≤ 8000) : callF PP (k + 8) .Run___init__ [.loc h.length, Qv es ws, v] (.ins .Run [] :: h) = .ok .non (.ins .Run [(.question, Qv es ws), (.slip, R q)] :: h) := by
  have nt : ∀ ts, PV.cls .Question ≠ .tup ts := fun ts e => by cases e
  have is_q : ∀ h, bCall ⟨PP, callF PP (k + 7), callF PP (k + 6)⟩ .isinst [Qv es ws, .cls .Question] h = .ok (.bl true) h := fun h => by simp [bCall]
  have l0 := lt0 (k := k) (h := .ins .Run [] :: h) (m := callF PP (k + 6)) n hb
  have nl : ¬ q < 0 := Rat.not_lt.mpr h0
  refine TE.eq ?_
  refine TE_call d_Run___init__ (by simp) rfl (TE_end0 rfl ?_)
  simp [d_Run___init__, start, is_q, n.isn, l0, nl, n.asr, setAt, Prog.fld, c_Run]
theorem Q_low (j : Nat) : (Qv es ws).lowB j = true := by simp [Qv, lowF, PV.lowB, lowL_str, lowL_R]
theorem mk_R (n : Num v q) (h0 : 0 ≤ q) (hb : bt q ≤ 8000) : callG ⟨PP, c, callF PP (k + 8)⟩ .Run [Qv es ws, v] [] h = .ok (Rv es ws q) h := by
  have hi := rinit (k := k) (h := h) (es := es) (ws := ws) n h0 hb
  simp [callG, make, c_Run, bindA, d_Run___init__, hi, close, lowF, Q_low, Rv]
end
end Py

set_option Elab.async false
set_option linter.all false
set_option maxRecDepth 100000
set_option maxHeartbeats 1000017
/-! goals -/
namespace Py
open PySem (Str)
section
variable {k : Nat} {h : EH} {c m : Nm → List PV → EH → Res PV} {u v : PV} {es fs : List Str} {ws vs : List Rat} {p q : Rat} {w w' : Int}
/-- a goal -/
def Gv (es : List Str) (ws : List Rat) (q : Rat) (w : Int) : PV := .obj .Goal [(.question, Qv es ws), (.error, R q), (.wild, .int w)]
@[simp] theorem Gv_asIns : asIns h (Gv es ws q w) = some (.Goal, [(.question, Qv es ws), (.error, R q), (.wild, .int w)]) := rfl
@[simp] theorem Gv_okB : okB ⟨PP, c, m⟩ h (Gv es ws q w) = true := by
  unfold okB
  rw [Gv_asIns]
  rfl
@[simp] theorem att_gq : getAtt ⟨PP, c, m⟩ (Gv es ws q w) .question h = .ok (Qv es ws) h := by simp [Gv, getAtt_obj, Prog.fld, c_Goal]
@[simp] theorem att_ge : getAtt ⟨PP, c, m⟩ (Gv es ws q w) .error h = .ok (R q) h := by simp [Gv, getAtt_obj, Prog.fld, c_Goal]
@[simp] theorem att_gw : getAtt ⟨PP, c, m⟩ (Gv es ws q w) .wild h = .ok (.int w) h := by simp [Gv, getAtt_obj, Prog.fld, c_Goal]
theorem ginit (n : Num v q) (h0 : 0 ≤ q) (hb : bt q ≤ 8000) (w0 : 0 ≤ w) (w1 : w ≤ 1) : callF PP (k + 8) .Goal___init__ [.loc h.length, Qv es ws, v, .int w] (.ins .Goal [] :: h) = .ok .non (.ins .Goal [(.question, Qv es ws), (.error, R q), (.wild, .int w)] :: h) := by
  have is_q : ∀ h, bCall ⟨PP, callF PP (k + 7), callF PP (k + 6)⟩ .isinst [Qv es ws, .cls .Question] h = .ok (.bl true) h := fun h => by simp [bCall]
  have l0 := lt0 (k := k) (h := .ins .Goal [] :: h) (m := callF PP (k + 6)) n hb
  have nl : ¬ q < 0 := Rat.not_lt.mpr h0
  refine TE.eq ?_
  refine TE_call d_Goal___init__ (by simp) rfl (TE_end0 rfl ?_)
  simp [d_Goal___init__, start, is_q, n.isn, l0, nl, n.asr, w0, w1, setAt, Prog.fld, c_Goal]
theorem mk_G (n : Num v q) (h0 : 0 ≤ q) (hb : bt q ≤ 8000) (w0 : 0 ≤ w) (w1 : w ≤ 1) : callG ⟨PP, c, callF PP (k + 8)⟩ .Goal [Qv es ws, v] [(.wild, .int w)] h = .ok (Gv es ws q w) h := by
  have hi := ginit (k := k) (h := h) (es := es) (ws := ws) n h0 hb w0 w1
  simp [callG, make, c_Goal, bindA, fill, d_Goal___init__, hi, close, lowF, Q_low, Gv, PV.lowB]
theorem mk_G0 (n : Num v q) (h0 : 0 ≤ q) (hb : bt q ≤ 8000) : callG ⟨PP, c, callF PP (k + 8)⟩ .Goal [Qv es ws, v] [] h = .ok (Gv es ws q 0) h := by
  have hi := ginit (k := k) (h := h) (es := es) (ws := ws) n h0 hb (w := 0) (by decide) (by decide)
  simp [callG, make, c_Goal, bindA, fill, d_Goal___init__, hi, close, lowF, Q_low, Gv, PV.lowB]
/-! refusals -/
/-- no question -/
structure NQv (v : PV) : Prop where
  ok : ∀ h c m, okB ⟨PP, c, m⟩ h v = true
  no : ∀ h c m, isOne ⟨PP, c, m⟩ h v (.cls .Question) = some false
theorem ginit_q (n : NQv u) {x y : PV} : callF PP (k + 8) .Goal___init__ [.loc h.length, u, x, y] (.ins .Goal [] :: h) = .err ⟨.NoGoal, [(.word, .str "question")]⟩ (.ins .Goal [] :: h) := by
  refine TE.err_eq ?_
  refine TE_call d_Goal___init__ (by simp) rfl (TE_end0 rfl ?_)
  simp [d_Goal___init__, start, inst1 (n.ok _ _ _) (n.no _ _ _), c_NoGoal]
/-- no error -/
inductive NE : PV → Prop where
  | nn {x : PV} (n : NN x) : NE x
  | lo {x : PV} {q : Rat} (n : Num x q) (h0 : q < 0) (hb : bt q ≤ 8000) : NE x
theorem ginit_e (n : NE v) {y : PV} : callF PP (k + 8) .Goal___init__ [.loc h.length, Qv es ws, v, y] (.ins .Goal [] :: h) = .err ⟨.NoGoal, [(.word, .str "error")]⟩ (.ins .Goal [] :: h) := by
  have is_q : ∀ h, bCall ⟨PP, callF PP (k + 7), callF PP (k + 6)⟩ .isinst [Qv es ws, .cls .Question] h = .ok (.bl true) h := fun h => by simp [bCall]
  cases n with
  | nn n =>
    refine TE.err_eq ?_
    refine TE_call d_Goal___init__ (by simp) rfl (TE_end0 rfl ?_)
    simp [d_Goal___init__, start, is_q, n.isn, c_NoGoal]
  | lo n h0 hb =>
    have l0 := lt0 (k := k) (h := .ins .Goal [] :: h) (m := callF PP (k + 6)) n hb
    refine TE.err_eq ?_
    refine TE_call d_Goal___init__ (by simp) rfl (TE_end0 rfl ?_)
    simp [d_Goal___init__, start, is_q, n.isn, l0, h0, c_NoGoal]
/-- not to be wild -/
inductive NW1 : PV → Prop where
  | ni {x : PV} (n : ∀ k h, callF PP (k + 3) .is_integer [x] h = .ok (.bl false) h) : NW1 x
  | out {i : Int} (e : ¬ (0 ≤ i ∧ i ≤ 1)) : NW1 (.int i)
theorem ginit_w (n : Num v q) (h0 : 0 ≤ q) (hb : bt q ≤ 8000) {y : PV} (nw : NW1 y) : callF PP (k + 8) .Goal___init__ [.loc h.length, Qv es ws, v, y] (.ins .Goal [] :: h) = .err ⟨.NoGoal, [(.word, .str "wild")]⟩ (.ins .Goal [] :: h) := by
  have is_q : ∀ h, bCall ⟨PP, callF PP (k + 7), callF PP (k + 6)⟩ .isinst [Qv es ws, .cls .Question] h = .ok (.bl true) h := fun h => by simp [bCall]
  have l0 := lt0 (k := k) (h := .ins .Goal [] :: h) (m := callF PP (k + 6)) n hb
  have nl : ¬ q < 0 := Rat.not_lt.mpr h0
  cases nw with
  | ni nw =>
    refine TE.err_eq ?_
    refine TE_call d_Goal___init__ (by simp) rfl (TE_end0 rfl ?_)
    simp [d_Goal___init__, start, is_q, n.isn, l0, nl, nw, c_NoGoal]
  | @out i e =>
    refine TE.err_eq ?_
    refine TE_call d_Goal___init__ (by simp) rfl (TE_end0 rfl ?_)
    by_cases z : 0 ≤ i
    · have z1 : ¬ i ≤ 1 := fun z1 => e ⟨z, z1⟩
      simp [d_Goal___init__, start, is_q, n.isn, l0, nl, z, z1, c_NoGoal]
    · simp [d_Goal___init__, start, is_q, n.isn, l0, nl, z, c_NoGoal]
/-! like goals -/
theorem meth_G {f : Nm} {args : List PV} (hf : f ≠ .question ∧ f ≠ .error ∧ f ≠ .wild) : callM ⟨PP, c, m⟩ (Gv es ws q w) f args [] h = (match look f c_Goal.ms with
    | some g => callD ⟨PP, c, m⟩ g (Gv es ws q w :: args) [] h
    | none => .stuck) := by
  have e : PP.meth .Goal f = look f c_Goal.ms := by unfold Prog.meth; rw [cls_Goal]; rfl
  have l : look f [(Nm.question, Qv es ws), (Nm.error, R q), (Nm.wild, PV.int w)] = none := by simp [hf.1, hf.2.1, hf.2.2]
  unfold callM
  rw [Gv_asIns]
  dsimp only
  rw [l, e]
  all_goals (cases look f c_Goal.ms <;> rfl)
theorem geq_ok (w1 : ∀ s ∈ es, okS s = true) (w2 : ∀ s ∈ fs, okS s = true) : callF PP (k + 7) .Goal___eq__ [Gv es ws p w, Gv fs vs q w'] h = .ok (.bl (decide (((es = fs ∧ ws = vs) ∧ p = q) ∧ w = w'))) h := by
  have is_b : bCall ⟨PP, callF PP (k + 6), callF PP (k + 5)⟩ .isinst [Gv fs vs q w', .cls .Goal] h = .ok (.bl true) h := inst1 Gv_okB (by simp [isOne, isSup])
  have e1 := eq_Qq (k := k + 1) (h := h) (m := callF PP (k + 5)) (es := es) (ws := ws) (fs := fs) (vs := vs) w1 w2
  have e2 := eq_R (k := k + 3) (h := h) (m := callF PP (k + 5)) p q
  refine TE.eq ?_
  refine TE_call d_Goal___eq__ (by simp) rfl (TE_end0 rfl ?_)
  by_cases z : es = fs ∧ ws = vs
  · obtain ⟨rfl, rfl⟩ := z
    by_cases z2 : p = q
    · subst z2
      simp [d_Goal___eq__, start, is_b, e1, e2]
    · simp [d_Goal___eq__, start, is_b, e1, e2, z2]
  · simp [d_Goal___eq__, start, is_b, e1, z]
theorem geq_no (ok : ∀ c m, okB ⟨PP, c, m⟩ h v = true) (no : ∀ c m, isOne ⟨PP, c, m⟩ h v (.cls .Goal) = some false) : callF PP (k + 7) .Goal___eq__ [Gv es ws p w, v] h = .ok (.bl false) h := by
  refine TE.eq ?_
  refine TE_call d_Goal___eq__ (by simp) rfl (TE_end0 rfl ?_)
  simp [d_Goal___eq__, start, inst1 (ok _ _) (no _ _)]
theorem ne_G (w1 : ∀ s ∈ es, okS s = true) (w2 : ∀ s ∈ fs, okS s = true) : opCmp ⟨PP, c, callF PP (k + 7)⟩ .ne (Gv es ws p w) (Gv fs vs q w') h = .ok (.bl !(decide (((es = fs ∧ ws = vs) ∧ p = q) ∧ w = w'))) h := by
  have e1 := geq_ok (k := k) (h := h) (p := p) (q := q) (w := w) (w' := w') (ws := ws) (vs := vs) w1 w2
  unfold opCmp
  simp only [Gv_asIns]
  rw [if_pos Gv_okB, Cxt.low, meth_G (f := .__eq__) (args := [Gv fs vs q w']) (by decide)]
  simp [c_Goal, e1, notR]
theorem ne_Gno (ok : ∀ c m, okB ⟨PP, c, m⟩ h v = true) (no : ∀ c m, isOne ⟨PP, c, m⟩ h v (.cls .Goal) = some false) : opCmp ⟨PP, c, callF PP (k + 7)⟩ .ne (Gv es ws p w) v h = .ok (.bl true) h := by
  have e1 := geq_no (k := k) (h := h) (es := es) (ws := ws) (p := p) (w := w) ok no
  unfold opCmp
  simp only [Gv_asIns]
  rw [if_pos (ok ..), Cxt.low, meth_G (f := .__eq__) (args := [v]) (by decide)]
  simp [c_Goal, e1, notR]
end
end Py

set_option Elab.async false
set_option linter.all false
set_option maxRecDepth 100000
set_option maxHeartbeats 1000017
/-! _law_question of pairs -/
namespace Py
open PySem (Str)
section
variable {k : Nat} {h : EH} {c m : Nm → List PV → EH → Res PV} {u v : PV} {es fs : List Str} {ws vs : List Rat} {p q : Rat} {w w' : Int}
abbrev pR (x : Int × Int) : PV := .tup [.int x.1, .int x.2]
/-- a pair that a number is made of -/
structure OkP (x : Int × Int) : Prop where
  pos : 1 ≤ x.2
  b1 : lb x.1 ≤ 30
  b2 : lb x.2 ≤ 30
def rtL (xs : List (Int × Int)) : List Rat := xs.map fun x => Rat.divInt x.1 x.2
theorem rt_bt {x : Int × Int} (o : OkP x) : bt (Rat.divInt x.1 x.2) ≤ 30 := bt_div o.b1 o.b2 (by have := o.pos; omega)
theorem rtL_bt {xs : List (Int × Int)} (w : ∀ x ∈ xs, OkP x) : ∀ q ∈ rtL xs, bt q ≤ 30 := fun q hq => by
  obtain ⟨x, hx, rfl⟩ := List.mem_map.mp hq
  exact rt_bt (w x hx)
theorem hnums : ∀ {xs : List (Int × Int)}, (∀ x ∈ xs, OkP x) → ∃ ys, Nums ys (rtL xs) ∧ ∀ k h, Al (fun x y => callF PP (k + 6) ._law_number [x] h = .ok y h) (xs.map pR) ys
  | [], _ => ⟨[], .nil, fun _ _ => .nil⟩
  | x :: xs, w => by
    obtain ⟨ys, n, e⟩ := hnums (xs := xs) fun y hy => w y (List.mem_cons_of_mem _ hy)
    have o := w x (List.mem_cons_self ..)
    obtain ⟨v, nv, ev⟩ := hnum_ok (a := x.1) (b := x.2) o.pos (by have := o.b2; omega)
    exact ⟨v :: ys, .cons nv n, fun k h => .cons ev (e k h)⟩
theorem hquestion {xs : List (Int × Int)} {ev wv : PV} (e : Eff es) (o : ∀ x ∈ xs, OkP x) (l : xs.length = es.length) (s1 : Sq h ev (sL es)) (s2 : Sq h wv (xs.map pR)) : callF PP (k + 9) ._law_question [ev, wv] h = .ok (Qv es (rtL xs)) h := by
  obtain ⟨ys, n, al⟩ := hnums o
  have lq : (rtL xs).length = es.length := by rw [← l]; exact List.length_map _
  have mk := mk_Q (k := k) (h := h) (c := callF PP (k + 8)) (.tup (xs := sL es)) e (.lst (xs := ys)) n lq
  have row : ∀ c, c = callF PP (k + 8) → ∀ σ, σ = [some ev, some wv, none] → evE ⟨PP, c, callF PP (k + 7)⟩ (.lc false (.v 2) (.seq (.v 1)) none (.call ._law_number [.v 2] [])) σ h = .ok (.lst ys) h := by
    intro c ec σ es
    subst ec; subst es
    have go : ∀ {xs ys : List PV}, Al (fun x y => callF PP (k + 8) ._law_number [x] h = .ok y h) xs ys → Al (fun v y => ∃ σ', setT (.v 2) v [some ev, some wv, none] = some σ' ∧ evE ⟨PP, callF PP (k + 8), callF PP (k + 7)⟩ (.call ._law_number [.v 2] []) σ' h = .ok y h) xs ys := by
      intro xs ys a
      induction a with
      | nil => exact .nil
      | cons p _ ih => exact .cons ⟨_, rfl, by simp [p]⟩ ih
    rw [lc_al (s2.it rfl) s2.ok (go (al (k + 2) h)), newL_s]
    have := n.length
    have := e.four
    rw [big_eq]; omega
  have tf := s1.tof
  refine TE.eq ?_
  refine TE_call d__law_question (by simp) rfl (TE_end0 rfl ?_)
  simp [-TE_evE_lc0, -evE_lc0, d__law_question, start, tf, row, mk]
end
end Py

set_option Elab.async false
set_option linter.all false
set_option maxRecDepth 100000
set_option maxHeartbeats 1000017
/-! _law_made -/
namespace Py
open PySem (Str)
section
variable {k : Nat} {h : EH} {c m : Nm → List PV → EH → Res PV} {u v : PV} {es fs : List Str} {ws vs : List Rat} {p q : Rat} {w w' : Int}
/-- what the third part is: left out, or told -/
def outS : PV := .str "left out"
theorem gmade_out (n : Num v q) (h0 : 0 ≤ q) (hb : bt q ≤ 8000) : callF PP (k + 10) ._law_made [Qv es ws, v, .str "left out"] h = .ok (.tup [.non, Gv es ws q 0]) h := by
  have mk := mk_G0 (k := k) (h := h) (c := callF PP (k + 9)) (es := es) (ws := ws) n h0 hb
  refine TE.eq ?_
  refine TE_call d__law_made (by simp) rfl (TE_end0 rfl ?_)
  simp [d__law_made, start, c_NoGoal, mk, big_eq]
theorem gmade_w (n : Num v q) (h0 : 0 ≤ q) (hb : bt q ≤ 8000) (w0 : 0 ≤ w) (w1 : w ≤ 1) : callF PP (k + 10) ._law_made [Qv es ws, v, .int w] h = .ok (.tup [.non, Gv es ws q w]) h := by
  have mk := mk_G (k := k) (h := h) (c := callF PP (k + 9)) (es := es) (ws := ws) n h0 hb w0 w1
  have ne : eqR ⟨PP, callF PP (k + 9), callF PP (k + 8)⟩ (.int w) (.str "left out") h = .ok (.bl false) h := rfl
  refine TE.eq ?_
  refine TE_call d__law_made (by simp) rfl (TE_end0 rfl ?_)
  simp [d__law_made, start, c_NoGoal, mk, ne, big_eq]
/-- refused: the third part is told, and is like no text "left out" -/
theorem gmade_bad {x : Str} {a b y : PV} (ne : eqR ⟨PP, callF PP (k + 9), callF PP (k + 8)⟩ y (.str "left out") h = .ok (.bl false) h) (e : callF PP (k + 8) .Goal___init__ [.loc h.length, a, b, y] (.ins .Goal [] :: h) = .err ⟨.NoGoal, [(.word, .str x)]⟩ (.ins .Goal [] :: h)) :
    callF PP (k + 10) ._law_made [a, b, y] h = .ok (.tup [.str x, .non]) (.ins .Goal [] :: h) := by
  have mk : callG ⟨PP, callF PP (k + 9), callF PP (k + 8)⟩ .Goal [a, b] [(.wild, y)] h = .err ⟨.NoGoal, [(.word, .str x)]⟩ (.ins .Goal [] :: h) := by
    simp [callG, make, c_Goal, bindA, fill, d_Goal___init__, e]
  refine TE.eq ?_
  refine TE_call d__law_made (by simp) rfl (TE_end0 rfl ?_)
  simp [d__law_made, start, c_NoGoal, mk, ne]
  unfold cat2 trymR
  simp [clsR, isSup, isC, hbsV, hbV, evHs, heV, hxL, hxV, offS, RS.off, big_eq, c_NoGoal, c_MethodError, c_NoGoals, c_NoWild, c_NoRun]
theorem gmade_bad0 {x : Str} {a b : PV} (e : callF PP (k + 8) .Goal___init__ [.loc h.length, a, b, .int 0] (.ins .Goal [] :: h) = .err ⟨.NoGoal, [(.word, .str x)]⟩ (.ins .Goal [] :: h)) :
    callF PP (k + 10) ._law_made [a, b, .str "left out"] h = .ok (.tup [.str x, .non]) (.ins .Goal [] :: h) := by
  have mk : callG ⟨PP, callF PP (k + 9), callF PP (k + 8)⟩ .Goal [a, b] [] h = .err ⟨.NoGoal, [(.word, .str x)]⟩ (.ins .Goal [] :: h) := by
    simp [callG, make, c_Goal, bindA, fill, d_Goal___init__, e]
  refine TE.eq ?_
  refine TE_call d__law_made (by simp) rfl (TE_end0 rfl ?_)
  simp [d__law_made, start, c_NoGoal, mk]
  unfold cat2 trymR
  simp [clsR, isSup, isC, hbsV, hbV, evHs, heV, hxL, hxV, offS, RS.off, big_eq, c_NoGoal, c_MethodError, c_NoGoals, c_NoWild, c_NoRun]
end
end Py

set_option Elab.async false
set_option linter.all false
set_option maxRecDepth 100000
set_option maxHeartbeats 1000017
/-! the three parts of a goal, one of them bad -/
namespace Py
open PySem (Str)
section
variable {k : Nat} {h : EH} {c m : Nm → List PV → EH → Res PV} {u v : PV} {es fs : List Str} {ws vs : List Rat} {p q : Rat} {w w' : Int}
/-- the text that stands for a part left out, or a thing unlike it -/
def Yp (y : PV) : Prop := y = .str "left out" ∨ ∀ k h, eqR ⟨PP, callF PP (k + 9), callF PP (k + 8)⟩ y (.str "left out") h = .ok (.bl false) h
theorem req_n (p : Rat) (n : NN v) : callF PP (k + 5) .Ratio___eq__ [R p, v] h = .ok (.bl false) h := by
  refine TE.eq ?_
  refine TE_call d_Ratio___eq__ (by simp) rfl (TE_end0 rfl ?_)
  simp [d_Ratio___eq__, start, inst1 (n.ok _ _ _) (n.rat _ _ _), n.isi]
theorem eq_Rn (p : Rat) (n : NN v) : eqR ⟨PP, callF PP (k + 5), m⟩ (R p) v h = .ok (.bl false) h := by
  have e := req_n (k := k) (h := h) p n
  unfold eqR
  rw [R_asIns]
  dsimp only
  rw [if_pos (n.ok ..), meth_R]
  simp [c_Ratio, e]
theorem Yp.int (i : Int) : Yp (.int i) := .inr fun _ _ => rfl
theorem Yp.bl (b : Bool) : Yp (.bl b) := .inr fun _ _ => rfl
theorem Yp.non : Yp .non := .inr fun _ _ => rfl
theorem Yp.zero : Yp (.str "0") := .inr fun _ _ => rfl
theorem Yp.rat (p : Rat) : Yp (R p) := .inr fun k _ => eq_Rn (k := k + 4) p (.str _)
theorem NW1.rat (p : Rat) : NW1 (R p) := .ni fun k h => by
  refine TE.eq ?_
  refine TE_call d_is_integer (by simp) rfl (TE_end0 rfl ?_)
  simp [d_is_integer, start, bCall, isOne, tyL, tyOf, c_Ratio]
theorem NW1.nn (n : NN v) : NW1 v := .ni fun k h => n.isi
/-- what is told, and how it is refused -/
inductive Pt (es : List Str) (ws : List Rat) (q : Rat) (nv : PV) : PV → PV → PV → PV → Prop where
  | ok (y : PV) (e : y = .int 0 ∨ y = .int 1 ∨ y = .str "left out") : Pt es ws q nv (Qv es ws) nv y .non
  | wild (y : PV) (n : NW1 y) (ne : y ≠ .str "left out") (yp : Yp y) : Pt es ws q nv (Qv es ws) nv y (.str "wild")
  | err (b y : PV) (n : NE b) (yp : Yp y) : Pt es ws q nv (Qv es ws) b y (.str "error")
  | que (a b y : PV) (n : NQv a) (yp : Yp y) : Pt es ws q nv a b y (.str "question")
theorem made_pt {nv a b y d : PV} (n : Num nv q) (h0 : 0 ≤ q) (hb : bt q ≤ 8000) (t : Pt es ws q nv a b y d) : ∃ r h', callF PP (k + 10) ._law_made [a, b, y] h = .ok (.tup [d, r]) h' ∧ (h' = h ∨ h' = .ins .Goal [] :: h) := by
  cases t with
  | ok y e =>
    rcases e with rfl | rfl | rfl
    · exact ⟨_, _, gmade_w n h0 hb (by decide) (by decide), .inl rfl⟩
    · exact ⟨_, _, gmade_w n h0 hb (by decide) (by decide), .inl rfl⟩
    · exact ⟨_, _, gmade_out n h0 hb, .inl rfl⟩
  | wild y nw ne yp =>
    rcases yp with rfl | yp
    · exact absurd rfl ne
    · exact ⟨_, _, gmade_bad (yp k h) (ginit_w n h0 hb nw), .inr rfl⟩
  | err b y ne yp =>
    rcases yp with rfl | yp
    · exact ⟨_, _, gmade_bad0 (ginit_e ne), .inr rfl⟩
    · exact ⟨_, _, gmade_bad (yp k h) (ginit_e ne), .inr rfl⟩
  | que a b y nq yp =>
    rcases yp with rfl | yp
    · exact ⟨_, _, gmade_bad0 (ginit_q nq), .inr rfl⟩
    · exact ⟨_, _, gmade_bad (yp k h) (ginit_q nq), .inr rfl⟩
/-- no questions -/
theorem NQv.non : NQv .non := ⟨fun _ _ _ => rfl, fun _ _ _ => by simp [isOne]⟩
theorem NQv.int (i : Int) : NQv (.int i) := ⟨fun _ _ _ => rfl, fun _ _ _ => by simp [isOne]⟩
theorem NQv.str (s : Str) : NQv (.str s) := ⟨fun _ _ _ => rfl, fun _ _ _ => by simp [isOne]⟩
theorem NQv.lst (xs : List PV) : NQv (.lst xs) := ⟨fun _ _ _ => rfl, fun _ _ _ => by simp [isOne]⟩
theorem NQv.run (s : Rat) : NQv (Rv es ws s) := ⟨fun _ _ _ => Rv_okB s, fun _ _ _ => by simp [isOne, isSup, c_Run]⟩
end
end Py

set_option Elab.async false
set_option linter.all false
set_option maxRecDepth 100000
set_option maxHeartbeats 1000017
/-! == of rows of pairs -/
namespace Py
open PySem (Str)
section
variable {h : EH} {c m : Nm → List PV → EH → Res PV} {C : Cxt}
abbrev pD (x : Int × Int) : PySem.PyData := .tuple [.int x.1, .int x.2]
theorem datL_pr : ∀ xs : List (Int × Int), datL (xs.map pR) = some (xs.map pD)
  | [] => rfl
  | x :: xs => by simp [datL, dat, datL_pr xs]
theorem eqv_pr : ∀ xs ys : List (Int × Int), PySem.PyData.eqvAll (xs.map pD) (ys.map pD) = decide (xs = ys)
  | [], [] => rfl
  | [], _ :: _ => rfl
  | _ :: _, [] => rfl
  | x :: xs, y :: ys => by
    have ih := eqv_pr xs ys
    obtain ⟨a, b⟩ := x
    obtain ⟨a', b'⟩ := y
    by_cases e1 : a = a' <;> by_cases e2 : b = b' <;> simp [PySem.PyData.eqvAll, PySem.PyData.eqv, ih, e1, e2]
theorem depth_pr : ∀ xs : List (Int × Int), PySem.PyData.depthAll (xs.map pD) ≤ 1
  | [] => by decide
  | x :: xs => by
    have := depth_pr xs
    simp [PySem.PyData.depthAll, PySem.PyData.depth]
    omega
theorem lay_pr : ∀ xs : List (Int × Int), PySem.PyData.canLayAll0 (xs.map pD) = true
  | [] => rfl
  | x :: xs => by
    have := lay_pr xs
    simp [PySem.PyData.canLayAll0, PySem.PyData.canLay0, this]
theorem shaped_pr (xs : List (Int × Int)) : PySem.SeqAt.shaped (.list (xs.map pD)) = true := by
  have d := depth_pr xs
  have l := lay_pr xs
  generalize xs.map pD = ds at *
  simp [PySem.SeqAt.shaped, PySem.PyData.depth, PySem.PyData.canLay0, l]
  omega
theorem eq_prs (xs ys : List (Int × Int)) : eqR C (.lst (xs.map pR)) (.lst (ys.map pR)) h = .ok (.bl (decide (xs = ys))) h := by
  have e : datEq (norm h (.lst (xs.map pR))) (norm h (.lst (ys.map pR))) = some (decide (xs = ys)) := by
    simp only [norm, datEq, dat, datL_pr, Option.map_some, shaped_pr, Bool.and_self, if_true, PySem.PyData.eqv, eqv_pr]
  unfold eqR
  simp [scalP, e]
theorem all_bl (f : Int × Int → Bool) (xs : List (Int × Int)) : bCall ⟨PP, c, m⟩ .all [.lst (xs.map fun x => .bl (f x))] h = .ok (.bl (xs.all f)) h := by
  have e : bools (xs.map fun x => .bl (f x)) = some (xs.map f) := by
    induction xs with
    | nil => rfl
    | cons x xs ih => simp [bools, ih]
  simp [bCall, asLst, e, Function.comp_def]
end
end Py

set_option Elab.async false
set_option linter.all false
set_option maxRecDepth 100000
set_option maxHeartbeats 2000017
/-! the law of goals, its end -/
namespace Py
open PySem (Str)
section
variable {k : Nat} {h : EH} {c m : Nm → List PV → EH → Res PV} {u v : PV} {es fs : List Str} {ws vs : List Rat} {p q : Rat} {w w' : Int}
theorem ne_RR (p q : Rat) : opCmp ⟨PP, c, callF PP (k + 3)⟩ .ne (R p) (R q) h = .ok (.bl !(decide (p = q))) h := by
  have e := req_ok (k := k) (h := h) p q
  unfold opCmp
  simp only [R_asIns]
  rw [if_pos (R_okB ..), Cxt.low, meth_R]
  simp [c_Ratio, e, notR]
theorem rM (p q : Rat) : callM ⟨PP, callF PP (k + 3), m⟩ (R p) .__eq__ [R q] [] h = .ok (.bl (decide (p = q))) h := by
  have e := req_ok (k := k) (h := h) p q
  rw [meth_R]
  simp [c_Ratio, e]
theorem gM (w1 : ∀ s ∈ es, okS s = true) (w2 : ∀ s ∈ fs, okS s = true) : callM ⟨PP, callF PP (k + 7), m⟩ (Gv es ws p w) .__eq__ [Gv fs vs q w'] [] h = .ok (.bl (decide (((es = fs ∧ ws = vs) ∧ p = q) ∧ w = w'))) h := by
  have e1 := geq_ok (k := k) (h := h) (p := p) (q := q) (w := w) (w' := w') (ws := ws) (vs := vs) w1 w2
  rw [meth_G (f := .__eq__) (args := [Gv fs vs q w']) (by decide)]
  simp [c_Goal, e1]
theorem gMn (ok : ∀ c m, okB ⟨PP, c, m⟩ h v = true) (no : ∀ c m, isOne ⟨PP, c, m⟩ h v (.cls .Goal) = some false) : callM ⟨PP, callF PP (k + 7), m⟩ (Gv es ws p w) .__eq__ [v] [] h = .ok (.bl false) h := by
  have e1 := geq_no (k := k) (h := h) (es := es) (ws := ws) (p := p) (w := w) ok no
  rw [meth_G (f := .__eq__) (args := [v]) (by decide)]
  simp [c_Goal, e1]
/-- how wild a goal is to be -/
inductive Rog : PV → Int → Prop where
  | zero : Rog (.int 0) 0
  | one : Rog (.int 1) 1
  | out : Rog (.str "left out") 0
theorem Rog.made {rg : PV} (r : Rog rg w) (n : Num v q) (h0 : 0 ≤ q) (hb : bt q ≤ 8000) : callF PP (k + 10) ._law_made [Qv es ws, v, rg] h = .ok (.tup [.non, Gv es ws q w]) h := by
  cases r with
  | zero => exact gmade_w n h0 hb (by decide) (by decide)
  | one => exact gmade_w n h0 hb (by decide) (by decide)
  | out => exact gmade_out n h0 hb
theorem Rog.le {rg : PV} (r : Rog rg w) : 0 ≤ w ∧ w ≤ 1 := by cases r <;> decide
theorem Rog.eq1 {rg : PV} (r : Rog rg w) : eqR ⟨PP, c, m⟩ rg (.int 1) h = .ok (.bl (decide (w = 1))) h := by cases r <;> rfl
theorem Rog.int {rg : PV} (r : Rog rg w) : bCall ⟨PP, c, m⟩ .int [.bl (decide (w = 1))] h = .ok (.int w) h := by cases r <;> rfl
/-- all weights are nought -/
def allZ (xs : List (Int × Int)) : Bool := xs.all fun x => decide (x.1 = 0)
theorem divInt_ne {x : Int × Int} (o : OkP x) (z : x.1 ≠ 0) : Rat.divInt x.1 x.2 ≠ 0 := fun e => by
  have op := o.pos
  have a := (Rat.divInt_nonneg_iff_of_pos_right (a := x.1) (b := x.2) (by omega)).mp (by rw [e]; exact Rat.le_refl)
  have b := (Rat.divInt_nonneg_iff_of_pos_right (a := -x.1) (b := x.2) (by omega)).mp (by rw [← Rat.neg_divInt, e]; decide)
  omega
theorem zadd_self : ∀ {xs : List (Int × Int)}, (∀ x ∈ xs, OkP x) → allZ xs = false → rtL xs ≠ zadd (rtL xs) (rtL xs)
  | [], _, e => by cases e
  | x :: xs, o, e => fun q => by
    have q : Rat.divInt x.1 x.2 :: rtL xs = (Rat.divInt x.1 x.2 + Rat.divInt x.1 x.2) :: zadd (rtL xs) (rtL xs) := q
    obtain ⟨q1, q2⟩ := List.cons.inj q
    by_cases z : x.1 = 0
    · refine zadd_self (fun y hy => o y (List.mem_cons_of_mem _ hy)) ?_ q2
      simpa [allZ, z] using e
    · have := divInt_ne (o x (by simp)) z
      grind
def rest19 : List S := d_law.body.drop 19
/-- a thing unlike the goal g -/
structure Unl (k : Nat) (g x : PV) : Prop where
  ok : ∀ c m h, okB ⟨PP, c, m⟩ h x = true
  no : ∀ m h, callM ⟨PP, callF PP (k + 10), m⟩ g .__eq__ [x] [] h = .ok (.bl false) h
theorem Unl.ne {x : PV} (n : Unl k (Gv es ws q w) x) : opCmp ⟨PP, c, callF PP (k + 10)⟩ .ne (Gv es ws q w) x h = .ok (.bl true) h := by
  have e := n.no (callF PP (k + 10)) h
  unfold opCmp
  simp only [Gv_asIns]
  rw [if_pos (n.ok ..), Cxt.low, e]
  rfl
theorem Unl.of {x : PV} (ok : ∀ h c m, okB ⟨PP, c, m⟩ h x = true) (no : ∀ h c m, isOne ⟨PP, c, m⟩ h x (.cls .Goal) = some false) : Unl k (Gv es ws q w) x :=
  ⟨fun c m h => ok h c m, fun m h => gMn (k := k + 3) (ok h) (no h)⟩
theorem Unl.gv {vs : List Rat} {q' : Rat} (e : Eff es) (n : ¬ (((es = es ∧ ws = vs) ∧ q = q') ∧ w = w')) : Unl k (Gv es ws q w) (Gv es vs q' w') :=
  ⟨fun c m h => Gv_okB, fun m h => by rw [gM (k := k + 3) e.okS e.okS, decide_eq_false n]⟩
def rest21 : List S := d_law.body.drop 21
def rest20 : List S := d_law.body.drop 20
theorem p19_ok {ns : List Int} {t1 fl rg nv d pt ev wv yv : PV} {xs : List (Int × Int)} {q : Rat} (e : Eff es) (o : ∀ x ∈ xs, OkP x) (l : xs.length = es.length) (bq : bt q ≤ 30) (q0 : 0 ≤ q) (n : Num nv q) (hw : 0 ≤ w ∧ w ≤ 1) (se : ev = .lst (sL es)) (sw : wv = .lst (xs.map pR)) {t3 t6 : Option PV} :
    TS (KtS.mk : KtS (fun _ _ _ => False) (fun f σ h => f = .rt (.bl true))) (evSs ⟨PP, callF PP (k + 11), callF PP (k + 10)⟩ rest19 [some (.scr ns), some t1, some fl, t3, some ev, some wv, t6, some (Qv es (rtL xs)), some yv, some nv, some rg, some d, some pt, some .non, some (Gv es (rtL xs) q w), none, none, none] h) := by
  have ok := e.okS
  have lq : (rtL xs).length = es.length := by rw [← l]; exact List.length_map _
  have bt1 := rtL_bt o
  have qa := fun m h => q_add (k := k + 2) (h := h) (m := m) (es := es) (ws := rtL xs) (vs := rtL xs) e lq lq fun p hp q hq => by have := bt1 p hp; have := bt1 q hq; omega
  have b1 : bt (q + 1) ≤ 100 := by
    have := bt_add q 1
    have : bt (1 : Rat) ≤ 3 := by decide +kernel
    omega
  have q1 : 0 ≤ q + 1 := by grind
  obtain ⟨u, un, ua⟩ : ∃ u, Num u (q + 1) ∧ ∀ h, opBin ⟨PP, callF PP (k + 11), callF PP (k + 10)⟩ .add nv (.int 1) h = .ok u h := by
    rcases n with rfl | ⟨i, rfl, rfl⟩
    · exact ⟨_, num_of _, fun h => op_add (k := k + 4) (num_int 1) (by have : bt (1 : Rat) ≤ 3 := by decide +kernel
                                                                       omega)⟩
    · exact ⟨.int (i + 1), by have := num_int (i + 1); rwa [Rat.intCast_add] at this, fun h => rfl⟩
  have mk1 := fun h => mk_G0 (k := k + 2) (h := h) (c := callF PP (k + 11)) (es := es) (ws := zadd (rtL xs) (rtL xs)) n q0 (by omega)
  have mk2 := fun h => mk_G0 (k := k + 2) (h := h) (c := callF PP (k + 11)) (es := es) (ws := rtL xs) un q1 (by omega)
  have mk3 := fun h => mk_G (k := k + 2) (h := h) (c := callF PP (k + 11)) (es := es) (ws := rtL xs) (w := 1 - w) n q0 (by omega) (by omega) (by omega)
  refine TS_cut _ 1 _ (r := rest20) rfl ?_
  simp [rest19, d_law, qa, ua, mk1, mk2, mk3, big_eq]
  refine TS_cut _ 1 _ (r := rest21) rfl ?_
  have row1 : ∀ {C : Cxt} {σ : Env} h, slot 4 σ = some ev → evE C (.lc false (.v 6) (.seq (.v 4)) none (.tup [.i 0, .i 1])) σ h = .ok (.lst ((es.map fun _ => ((0, 1) : Int × Int)).map pR)) h := fun {C σ} h hs => by
    have s1 : Sq h ev (sL es) := by rw [se]; exact .lst _
    rw [lc_al (s1.it hs) s1.ok (ys := (es.map fun _ => ((0, 1) : Int × Int)).map pR) (by rw [List.map_map]; exact Al.map fun x _ => ⟨_, rfl, by simp [big_eq]⟩), newL_s]
    have := e.four
    rw [List.length_map, List.length_map, big_eq]; omega
  have row2 : ∀ {C : Cxt} {σ : Env} h, slot 5 σ = some wv → (∀ y, slot 16 (setS 16 (some y) σ) = some y) → evE C (.lc false (.v 16) (.seq (.v 5)) none (.cmp .eq (.sub (.v 16) (.i 0)) (.i 0))) σ h = .ok (.lst (xs.map fun x => .bl (decide (x.1 = 0)))) h := fun {C σ} h hs hj => by
    have s1 : Sq h wv (xs.map pR) := by rw [sw]; exact .lst _
    rw [lc_al (s1.it hs) s1.ok (ys := xs.map fun x => .bl (decide (x.1 = 0))) (Al.map fun x _ => ⟨_, rfl, by simp [hj, getIt, asSeq, pyIx]⟩), newL_s]
    have := e.four
    rw [List.length_map, big_eq]; omega
  have eqp := fun {C : Cxt} h => eq_prs (C := C) (h := h) xs (es.map fun _ => (0, 1))
  have allb : ∀ {c m} h, bCall ⟨PP, c, m⟩ .all [.lst (xs.map fun x => .bl (decide (x.1 = 0)))] h = .ok (.bl (allZ xs)) h := fun {c m} h => all_bl (c := c) (m := m) (h := h) (fun x => decide (x.1 = 0)) xs
  rw [← sw] at eqp
  simp [-TE_evE_lc0, -evE_lc0, rest20, d_law]
  rw [row1 _ rfl]
  have eqp' : ∀ {C : Cxt} h, eqR C wv (.lst (es.map (pR ∘ fun _ => ((0, 1) : Int × Int)))) h = .ok (.bl (decide (xs = es.map fun _ => (0, 1)))) h := fun {C} h => by rw [← List.map_map]; exact eqp h
  have fin : ∀ (os : List PV) (b16 : Option PV), (∀ x ∈ os, Unl k (Gv es (rtL xs) q w) x) → os.length ≤ 10 → TS (KtS.mk : KtS (fun _ _ _ => False) (fun f σ h => f = .rt (.bl true))) (evSs ⟨PP, callF PP (k + 11), callF PP (k + 10)⟩ rest21 [some (.scr ns), some t1, some fl, t3, some ev, some wv, t6, some (Qv es (rtL xs)), some yv, some nv, some rg, some d, some pt, some .non, some (Gv es (rtL xs) q w), some (.lst os), b16, none] h) := fun os b16 un lo => by
    let es4 : List PV := [Qv es (rtL xs), R q, .int 5, .non]
    have un2 : ∀ x ∈ os ++ es4, Unl k (Gv es (rtL xs) q w) x := fun x hin9 => by
      rcases List.mem_append.mp hin9 with hin9 | hin9
      · exact un x hin9
      · simp only [es4, List.mem_cons, List.not_mem_nil, or_false] at hin9
        rcases hin9 with rfl | rfl | rfl | rfl
        · exact .of (fun h c m => Q_okB ..) fun h c m => by simp [isOne, isSup, c_Question]
        · exact .of (fun h c m => R_okB ..) fun h c m => by simp [isOne, isSup, c_Ratio]
        · exact .of (fun h c m => rfl) fun h c m => by simp [isOne]
        · exact .of (fun h c m => rfl) fun h c m => by simp [isOne]
    have l4 : (os ++ es4).length ≤ big := by rw [List.length_append, big_eq]; show os.length + 4 ≤ _; omega
    have ca : ∀ {c m} h, opBin ⟨PP, c, m⟩ .add (.lst os) (.lst es4) h = .ok (.lst (os ++ es4)) h := fun {c m} h => if_pos (by rw [List.length_append] at l4; exact l4)
    have row : ∀ σ h, slot 15 σ = some (.lst os) → slot 7 σ = some (Qv es (rtL xs)) → slot 14 σ = some (Gv es (rtL xs) q w) → (∀ y, slot 14 (setS 17 (some y) σ) = some (Gv es (rtL xs) q w)) → (∀ y, slot 17 (setS 17 (some y) σ) = some y) → evE ⟨PP, callF PP (k + 11), callF PP (k + 10)⟩ (.lc false (.v 17) (.seq (.bin .add (.v 15) (.lst false [.v 7, .att (.v 14) .error, .i 5, .n]))) none (.cmp .ne (.v 14) (.v 17))) σ h = .ok (.lst ((os ++ es4).map fun _ => .bl true)) h := fun σ h a1 a2 a3 a4 a5 => by
      have it : evI ⟨PP, callF PP (k + 11), callF PP (k + 10)⟩ (.seq (.bin .add (.v 15) (.lst false [.v 7, .att (.v 14) .error, .i 5, .n]))) σ h = .ok (.std, os ++ es4) h := by
        simp [a1, a2, a3, newL, big_eq]
        rw [show [Qv es (rtL xs), R q, PV.int 5, PV.non] = es4 from rfl, ca]
        rfl
      have al : ∀ l : List PV, (∀ x ∈ l, Unl k (Gv es (rtL xs) q w) x) → Al (fun v y => ∃ σ', setT (.v 17) v σ = some σ' ∧ evE ⟨PP, callF PP (k + 11), callF PP (k + 10)⟩ (.cmp .ne (.v 14) (.v 17)) σ' h = .ok y h) l (l.map fun _ => .bl true) := fun l => by
        induction l with
        | nil => exact fun _ => .nil
        | cons x l ih => exact fun w => .cons ⟨_, rfl, by simp [a4, a5]; exact (w x (by simp)).ne⟩ (ih fun y hy => w y (List.mem_cons_of_mem _ hy))
      rw [lc_al it trivial (al _ un2), newL_s (by rw [List.length_map]; exact l4)]
    have all1 : ∀ {c m} h (l : List PV), bCall ⟨PP, c, m⟩ .all [.lst (l.map fun _ => .bl true)] h = .ok (.bl true) h := fun {c m} h l => by
      have e : bools (l.map fun _ => .bl true) = some (l.map fun _ => true) := by
        induction l with
        | nil => rfl
        | cons x xs ih => simp [bools, ih]
      simp [bCall, asLst, e]
    simp [-TE_evE_lc0, -evE_lc0, rest21, d_law]
    rw [row _ _ rfl rfl rfl (fun _ => rfl) (fun _ => rfl)]
    simp only [TE_ok]
    rw [all1]
    rfl
  have sl1 : ∀ (a b c : PV) h, sliceR (.lst [a, b, c]) (some 1) none h = .ok (.lst [b, c]) h := fun a b c h => rfl
  have f2 : ∀ x ∈ [Gv es (rtL xs) (q + 1) 0, Gv es (rtL xs) q (1 - w)], Unl k (Gv es (rtL xs) q w) x := fun x hin9 => by
    simp only [List.mem_cons, List.not_mem_nil, or_false] at hin9
    rcases hin9 with rfl | rfl
    · exact .gv e fun z => by have := z.1.2; grind
    · exact .gv e fun z => by have := z.2; omega
  have f3 : allZ xs = false → ∀ x ∈ [Gv es (zadd (rtL xs) (rtL xs)) q 0, Gv es (rtL xs) (q + 1) 0, Gv es (rtL xs) q (1 - w)], Unl k (Gv es (rtL xs) q w) x := fun hz x hin9 => by
    rcases List.mem_cons.mp hin9 with rfl | hin9
    · exact .gv e fun z => zadd_self o hz z.1.1.2
    · exact f2 x hin9
  cases hb : decide (xs = es.map fun _ => (0, 1)) with
  | true =>
    rw [hb] at eqp'
    simp [-TE_evE_lc0, -evE_lc0, eqp', sl1]
    exact fin _ _ f2 (by simp)
  | false =>
    rw [hb] at eqp'
    simp [-TE_evE_lc0, -evE_lc0, eqp']
    rw [row2 _ rfl (fun _ => rfl)]
    cases hz : allZ xs with
    | true =>
      rw [hz] at allb
      simp only [TE_ok]
      rw [allb]
      simp [-TE_evE_lc0, -evE_lc0, sl1]
      exact fin _ _ f2 (by simp)
    | false =>
      rw [hz] at allb
      simp only [TE_ok]
      rw [allb]
      simp [-TE_evE_lc0, -evE_lc0]
      exact fin _ _ (f3 hz) (by simp)
end
end Py

set_option Elab.async false
set_option linter.all false
set_option maxRecDepth 100000
set_option maxHeartbeats 2000017
/-! the law of goals, its end -/
namespace Py
open PySem (Str)
section
variable {k : Nat} {h : EH} {c m : Nm → List PV → EH → Res PV} {u v : PV} {es fs : List Str} {ws vs : List Rat} {p q : Rat} {w w' : Int}
def rest14 : List S := d_law.body.drop 14
theorem p14_ok {ns : List Int} {fl rg nv d pt ev wv : PV} {xs : List (Int × Int)} {y : Int × Int} (r : Rog rg w) (e : Eff es) (o : ∀ x ∈ xs, OkP x) (l : xs.length = es.length) (oy : OkP y) (y0 : 0 ≤ y.1) (n : Num nv (Rat.divInt y.1 y.2)) (se : ev = .lst (sL es)) (sw : wv = .lst (xs.map pR)) {t3 t6 : Option PV} :
    TS (KtS.mk : KtS (fun _ _ _ => False) (fun f σ h => f = .rt (.bl true))) (evSs ⟨PP, callF PP (k + 11), callF PP (k + 10)⟩ rest14 [some (.scr ns), some (.loc 0), some fl, t3, some ev, some wv, t6, some (Qv es (rtL xs)), some (pR y), some nv, some rg, some d, some pt, none, none, none, none, none] h) := by
  have q0 : 0 ≤ Rat.divInt y.1 y.2 := (Rat.divInt_nonneg_iff_of_pos_right (by have := oy.pos; omega)).mpr y0
  have bq := rt_bt oy
  have mk1 := fun h => r.made (k := k + 1) (h := h) (es := es) (ws := rtL xs) n q0 (by omega)
  have ok := e.okS
  have nq := fun m h => qM (k := k + 5) (h := h) (m := m) (es := es) (ws := rtL xs) (fs := es) (vs := rtL xs) ok ok
  have mr := fun h => mk_ok (k := k + 6) (h := h) (c := callF PP (k + 11)) y.1 y.2 (by have := oy.pos; omega) (by have := oy.b2; omega)
  have nr := fun m h => rM (k := k + 7) (h := h) (m := m) (Rat.divInt y.1 y.2) (Rat.divInt y.1 y.2)
  have g0 : ∀ h, getIt (pR y) (.int 0) h = .ok (.int y.1) h := fun h => by simp [getIt, asSeq, pyIx]
  have g1 : ∀ h, getIt (pR y) (.int 1) h = .ok (.int y.2) h := fun h => by simp [getIt, asSeq, pyIx]
  have s1 : ∀ h, Sq h ev (sL es) := fun h => by rw [se]; exact .lst _
  have s2 : ∀ h, Sq h wv (xs.map pR) := fun h => by rw [sw]; exact .lst _
  have hq := fun h => hquestion (k := k + 2) (h := h) e o l (s1 h) (s2 h)
  have hw := r.le
  have mk2 := fun h => gmade_w (k := k + 1) (h := h) (es := es) (ws := rtL xs) (num_of (Rat.divInt y.1 y.2)) q0 (by omega) hw.1 hw.2
  have ng := fun m h => gM (k := k + 3) (h := h) (m := m) (es := es) (ws := rtL xs) (fs := es) (vs := rtL xs) (p := Rat.divInt y.1 y.2) (q := Rat.divInt y.1 y.2) (w := w) (w' := w) ok ok
  have gt : ∀ (a b : PV) h, getIt (.tup [a, b]) (.int 1) h = .ok b h := fun a b h => by simp [getIt, asSeq, pyIx]
  have isG : ∀ {c m} h, bCall ⟨PP, c, m⟩ .isinst [Gv es (rtL xs) (Rat.divInt y.1 y.2) w, .cls .Goal] h = .ok (.bl true) h := fun h => inst1 Gv_okB (by simp [isOne, isSup])
  have isB : ∀ {c m} h, bCall ⟨PP, c, m⟩ .isinst [.int w, .ty "bool"] h = .ok (.bl false) h := fun h => inst1 rfl (by simp [isOne, tyL])
  have isR : ∀ {c m} h, bCall ⟨PP, c, m⟩ .isinst [R (Rat.divInt y.1 y.2), .cls .Ratio] h = .ok (.bl true) h := fun h => inst1 (R_okB ..) (by simp [isOne, isSup])
  refine TS_cut _ 5 _ (r := rest19) rfl ?_
  generalize Rat.divInt y.1 y.2 = qe at *
  simp [rest14, d_law, Cxt.low, notR, gt, mk1, nq, mr, nr, g0, g1, hq, mk2, ng, isG, isB, isR, r.eq1, r.int]
  exact p19_ok e o l bq q0 n hw se sw
end
end Py

set_option Elab.async false
set_option linter.all false
set_option maxRecDepth 100000
set_option maxHeartbeats 2000017
/-! the law of goals, its middle -/
namespace Py
open PySem (Str)
section
variable {k : Nat} {h : EH} {c m : Nm → List PV → EH → Res PV} {u v : PV} {es fs : List Str} {ws vs : List Rat} {p q : Rat} {w w' : Int}
/-- what stands from the first half -/
structure Gd (ns : List Int) (es : List Str) (xs : List (Int × Int)) (y : Int × Int) (nv rg : PV) (w : Int) : Prop where
  r : Rog rg w
  e : Eff es
  o : ∀ x ∈ xs, OkP x
  l : xs.length = es.length
  oy : OkP y
  y0 : 0 ≤ y.1
  n : Num nv (Rat.divInt y.1 y.2)
theorem Pt.due {nv a b y d : PV} (t : Pt es ws q nv a b y d) : d = .non ∨ ∃ s, d = .str s := by
  cases t
  · exact .inl rfl
  all_goals exact .inr ⟨_, rfl⟩
def rest13 : List S := d_law.body.drop 13
theorem p13_ok {ns : List Int} {fl nv rg a b y d : PV} {xs : List (Int × Int)} {x : Int × Int} {n : Nat} (g : Gd ns es xs x nv rg w) (t : Pt es (rtL xs) (Rat.divInt x.1 x.2) nv a b y d) (st : hget n h = some (.lst [a, b, y])) {t3 t6 : Option PV} :
    TS (KtS.mk : KtS (fun _ _ _ => False) (fun f σ h => f = .rt (.bl true))) (evSs ⟨PP, callF PP (k + 11), callF PP (k + 10)⟩ rest13 [some (.scr ns), some (.loc 0), some fl, t3, some (.lst (sL es)), some (.lst (xs.map pR)), t6, some (Qv es (rtL xs)), some (pR x), some nv, some rg, some d, some (.loc n), none, none, none, none, none] h) := by
  have q0 : 0 ≤ Rat.divInt x.1 x.2 := (Rat.divInt_nonneg_iff_of_pos_right (by have := g.oy.pos; omega)).mpr g.y0
  have bq := rt_bt g.oy
  obtain ⟨r, h', mk, hh⟩ := made_pt (k := k + 1) (h := h) g.n q0 (by omega) t
  have g0 : getIt (.loc n) (.int 0) h = .ok a h := by simp [getIt, asSeq, st, pyIx]
  have g1 : getIt (.loc n) (.int 1) h = .ok b h := by simp [getIt, asSeq, st, pyIx]
  have g2 : getIt (.loc n) (.int 2) h = .ok y h := by simp [getIt, asSeq, st, pyIx]
  have g3 : getIt (.tup [d, r]) (.int 0) h' = .ok d h' := by simp [getIt, asSeq, pyIx]
  have due := t.due
  clear t
  refine TS_cut _ 1 _ (r := rest14) rfl ?_
  generalize hev : PV.lst (sL es) = ev
  generalize hwv : PV.lst (xs.map pR) = wv
  simp [rest13, d_law, g0, g1, g2, mk, g3]
  rcases due with rfl | ⟨s, rfl⟩
  all_goals simp [eqR, scalP, notR]
  all_goals exact p14_ok g.r g.e g.o g.l g.oy g.y0 g.n hev.symm hwv.symm
end
end Py

set_option Elab.async false
set_option linter.all false
set_option maxRecDepth 100000
set_option maxHeartbeats 2000017
/-! the law of goals: the faults -/
namespace Py
open PySem (Str)
section
variable {k : Nat} {h : EH} {c m : Nm → List PV → EH → Res PV} {u v : PV} {es fs : List Str} {ws vs : List Rat} {p q : Rat} {w w' : Int}
theorem five_of {v : Int} (h0 : 0 ≤ v) (h1 : v < 5) : v = 0 ∨ v = 1 ∨ v = 2 ∨ v = 3 ∨ v = 4 := by omega
theorem six {v : Int} (h0 : 0 ≤ v) (h1 : v < 6) : v = 0 ∨ v = 1 ∨ v = 2 ∨ v = 3 ∨ v = 4 ∨ v = 5 := by omega
theorem seven {v : Int} (h0 : 0 ≤ v) (h1 : v < 7) : v = 0 ∨ v = 1 ∨ v = 2 ∨ v = 3 ∨ v = 4 ∨ v = 5 ∨ v = 6 := by omega
theorem set0 {n : Nat} {a b y x : PV} (st : hget n h = some (.lst [a, b, y])) : setIt (.loc n) (.int 0) x h = .ok () (hset n (.lst [x, b, y]) h) := by simp [setIt, st, pyIx]
theorem set1 {n : Nat} {a b y x : PV} (st : hget n h = some (.lst [a, b, y])) : setIt (.loc n) (.int 1) x h = .ok () (hset n (.lst [a, x, y]) h) := by simp [setIt, st, pyIx]
theorem set2 {n : Nat} {a b y x : PV} (st : hget n h = some (.lst [a, b, y])) : setIt (.loc n) (.int 2) x h = .ok () (hset n (.lst [a, b, x]) h) := by simp [setIt, st, pyIx]
theorem mk_i (T : Int) : callG ⟨PP, c, callF PP (k + 4)⟩ .Ratio [.int T] [] h = .ok (R (Rat.divInt T 1)) h := by
  have hi := init_ok (k := k) (h := h) T 1 (by decide) (by decide)
  simp [callG, make, c_Ratio, bindA, fill, d_Ratio___init__, hi, close, lowF, PV.lowB, R]
def rest12 : List S := d_law.body.drop 12
theorem p12_ok {ns : List Int} {f0 f1 f2 A : Int} {nv rg b y d : PV} {xs : List (Int × Int)} {x : Int × Int} {n : Nat} (g : Gd ns es xs x nv rg w) (t : Pt es (rtL xs) (Rat.divInt x.1 x.2) nv (Qv es (rtL xs)) b y d) (yp : Yp y) (p : Hnd 0 A h) (hA : A ≤ 50000) (hn : n ≠ 0) (st : hget n h = some (.lst [Qv es (rtL xs), b, y])) {t3 t6 : Option PV} :
    TS (KtS.mk : KtS (fun _ _ _ => False) (fun f σ h => f = .rt (.bl true))) (evSs ⟨PP, callF PP (k + 11), callF PP (k + 10)⟩ rest12 [some (.scr ns), some (.loc 0), some (.lst [.int f0, .int f1, .int f2]), t3, some (.lst (sL es)), some (.lst (xs.map pR)), t6, some (Qv es (rtL xs)), some (pR x), some nv, some rg, some d, some (.loc n), none, none, none, none, none] h) := by
  have gf : ∀ h, getIt (.lst [.int f0, .int f1, .int f2]) (.int 0) h = .ok (.int f0) h := fun h => by simp [getIt, asSeq, pyIx]
  have b1 : bt ((1 : Int) : Rat) ≤ 8000 := Nat.le_trans (m := 3) (by decide +kernel) (by decide)
  have mr := fun h => mk_R (k := k + 2) (c := callF PP (k + 11)) (h := h) (es := es) (ws := rtL xs) (num_int 1) (by decide) b1
  refine TS_cut _ 1 _ (r := rest13) rfl ?_
  have key : ∀ (a : PV) (h2 : EH), NQv a → hget n h2 = some (.lst [Qv es (rtL xs), b, y]) → TS (KtS.mk : KtS (fun _ _ _ => False) (fun f σ h => f = .rt (.bl true))) (evSs ⟨PP, callF PP (k + 11), callF PP (k + 10)⟩ rest13 [some (.scr ns), some (.loc 0), some (.lst [.int f0, .int f1, .int f2]), t3, some (.lst (sL es)), some (.lst (xs.map pR)), t6, some (Qv es (rtL xs)), some (pR x), some nv, some rg, some (.str "question"), some (.loc n), none, none, none, none, none] (hset n (.lst [a, b, y]) h2)) := fun a h2 na st2 =>
    p13_ok g (.que a b y na yp) (hgs (hgetA_lt st2))
  have go := fun (h : EH) (d : PV) (t : Pt es (rtL xs) (Rat.divInt x.1 x.2) nv (Qv es (rtL xs)) b y d) (st : hget n h = some (.lst [Qv es (rtL xs), b, y])) => p13_ok (k := k) (fl := .lst [.int f0, .int f1, .int f2]) (t3 := t3) (t6 := t6) g t st
  generalize PV.lst (sL es) = ev at *
  generalize hwv : PV.lst (xs.map pR) = wv at *
  by_cases z : f0 = 0
  · subst z
    simp [rest12, d_law, gf, mr, big_eq]
    refine take_s (k := k + 8) (M := 5) p (by omega) (by decide) (by decide) fun v h2 v0 v1 p2 m2 => ?_
    have st2 := m2.get st hn
    rcases five_of v0 v1 with rfl | rfl | rfl | rfl | rfl
    all_goals simp [getIt, asSeq, pyIx, set0 st2]
    · exact key _ _ .non st2
    · exact key _ _ (.int 3) st2
    · exact key _ _ (.run _) st2
    · exact key _ _ (by rw [← hwv]; exact .lst _) st2
    · exact key _ _ (.str _) st2
  · simp [rest12, d_law, gf, z]
    exact go _ _ t st
def rest11 : List S := d_law.body.drop 11
theorem p11_ok {ns : List Int} {f0 f1 f2 A : Int} {nv rg y d : PV} {xs : List (Int × Int)} {x : Int × Int} {n : Nat} (g : Gd ns es xs x nv rg w) (t : Pt es (rtL xs) (Rat.divInt x.1 x.2) nv (Qv es (rtL xs)) nv y d) (yp : Yp y) (p : Hnd 0 A h) (hA : A ≤ 40000) (hn : n ≠ 0) (st : hget n h = some (.lst [Qv es (rtL xs), nv, y])) {t3 t6 : Option PV} :
    TS (KtS.mk : KtS (fun _ _ _ => False) (fun f σ h => f = .rt (.bl true))) (evSs ⟨PP, callF PP (k + 11), callF PP (k + 10)⟩ rest11 [some (.scr ns), some (.loc 0), some (.lst [.int f0, .int f1, .int f2]), t3, some (.lst (sL es)), some (.lst (xs.map pR)), t6, some (Qv es (rtL xs)), some (pR x), some nv, some rg, some d, some (.loc n), none, none, none, none, none] h) := by
  have gf : ∀ h, getIt (.lst [.int f0, .int f1, .int f2]) (.int 1) h = .ok (.int f1) h := fun h => by simp [getIt, asSeq, pyIx]
  have mr := fun h => mk_ok (k := k + 6) (h := h) (c := callF PP (k + 11)) (-1) 7 (by decide) (by decide)
  refine TS_cut _ 1 _ (r := rest12) rfl ?_
  have key : ∀ (b : PV) (h2 : EH), NE b → Hnd 0 (A + 1) h2 → hget n h2 = some (.lst [Qv es (rtL xs), nv, y]) → TS (KtS.mk : KtS (fun _ _ _ => False) (fun f σ h => f = .rt (.bl true))) (evSs ⟨PP, callF PP (k + 11), callF PP (k + 10)⟩ rest12 [some (.scr ns), some (.loc 0), some (.lst [.int f0, .int f1, .int f2]), t3, some (.lst (sL es)), some (.lst (xs.map pR)), t6, some (Qv es (rtL xs)), some (pR x), some nv, some rg, some (.str "error"), some (.loc n), none, none, none, none, none] (hset n (.lst [Qv es (rtL xs), b, y]) h2)) := fun b h2 nb p2 st2 =>
    p12_ok g (.err b y nb yp) yp (p2.mo (Mo.set (l := (· = n)) fun _ => rfl) (fun e => hn e.symm)) (by omega) hn (hgs (hgetA_lt st2))
  have go := fun (h : EH) (p : Hnd 0 A h) (st : hget n h = some (.lst [Qv es (rtL xs), nv, y])) => p12_ok (k := k) (f0 := f0) (f1 := f1) (f2 := f2) (t3 := t3) (t6 := t6) g t yp p (by omega) hn st
  generalize PV.lst (sL es) = ev at *
  generalize PV.lst (xs.map pR) = wv at *
  by_cases z : f1 = 0
  · subst z
    simp [rest11, d_law, gf, mr, big_eq]
    refine take_s (k := k + 8) (M := 6) p (by omega) (by decide) (by decide) fun v h2 v0 v1 p2 m2 => ?_
    have st2 := m2.get st hn
    rcases six v0 v1 with rfl | rfl | rfl | rfl | rfl | rfl
    all_goals simp [getIt, asSeq, pyIx, set1 st2]
    · exact key _ _ (.lo (num_int (-1)) (by decide +kernel) (Nat.le_trans (m := 3) (by decide +kernel) (by decide))) p2 st2
    · exact key _ _ (.lo (num_of _) (by decide +kernel) (Nat.le_trans (m := 10) (by decide +kernel) (by decide))) p2 st2
    · exact key _ _ (.nn .non) p2 st2
    · exact key _ _ (.nn (.bl true)) p2 st2
    · exact key _ _ (.nn (.str _)) p2 st2
    · exact key _ _ (.nn (.lst _)) p2 st2
  · simp [rest11, d_law, gf, z]
    exact go _ p st
def rest10 : List S := d_law.body.drop 10
theorem p10_ok {ns : List Int} {f0 f1 f2 A : Int} {nv rg : PV} {xs : List (Int × Int)} {x : Int × Int} {n : Nat} (g : Gd ns es xs x nv rg w) (p : Hnd 0 A h) (hA : A ≤ 30000) (hn : n ≠ 0) (st : hget n h = some (.lst [Qv es (rtL xs), nv, rg])) {t3 t6 : Option PV} :
    TS (KtS.mk : KtS (fun _ _ _ => False) (fun f σ h => f = .rt (.bl true))) (evSs ⟨PP, callF PP (k + 11), callF PP (k + 10)⟩ rest10 [some (.scr ns), some (.loc 0), some (.lst [.int f0, .int f1, .int f2]), t3, some (.lst (sL es)), some (.lst (xs.map pR)), t6, some (Qv es (rtL xs)), some (pR x), some nv, some rg, some .non, some (.loc n), none, none, none, none, none] h) := by
  have gf : ∀ h, getIt (.lst [.int f0, .int f1, .int f2]) (.int 2) h = .ok (.int f2) h := fun h => by simp [getIt, asSeq, pyIx]
  have mr := fun h => mk_i (k := k + 6) (h := h) (c := callF PP (k + 11)) 1
  have ryp : Yp rg ∧ (rg = .int 0 ∨ rg = .int 1 ∨ rg = .str "left out") := by
    cases g.r
    · exact ⟨.int 0, .inl rfl⟩
    · exact ⟨.int 1, .inr (.inl rfl)⟩
    · exact ⟨.inl rfl, .inr (.inr rfl)⟩
  refine TS_cut _ 1 _ (r := rest11) rfl ?_
  have key : ∀ (y : PV) (h2 : EH), NW1 y → y ≠ .str "left out" → Yp y → Hnd 0 (A + 1) h2 → hget n h2 = some (.lst [Qv es (rtL xs), nv, rg]) → TS (KtS.mk : KtS (fun _ _ _ => False) (fun f σ h => f = .rt (.bl true))) (evSs ⟨PP, callF PP (k + 11), callF PP (k + 10)⟩ rest11 [some (.scr ns), some (.loc 0), some (.lst [.int f0, .int f1, .int f2]), t3, some (.lst (sL es)), some (.lst (xs.map pR)), t6, some (Qv es (rtL xs)), some (pR x), some nv, some rg, some (.str "wild"), some (.loc n), none, none, none, none, none] (hset n (.lst [Qv es (rtL xs), nv, y]) h2)) := fun y h2 nw ne yp p2 st2 =>
    p11_ok g (.wild y nw ne yp) yp (p2.mo (Mo.set (l := (· = n)) fun _ => rfl) (fun e => hn e.symm)) (by omega) hn (hgs (hgetA_lt st2))
  have go := fun (h : EH) (p : Hnd 0 A h) (st : hget n h = some (.lst [Qv es (rtL xs), nv, rg])) => p11_ok (k := k) (f0 := f0) (f1 := f1) (f2 := f2) (t3 := t3) (t6 := t6) g (.ok rg ryp.2) ryp.1 p (by omega) hn st
  generalize PV.lst (sL es) = ev at *
  generalize PV.lst (xs.map pR) = wv at *
  by_cases z : f2 = 0
  · subst z
    simp [rest10, d_law, gf, mr, big_eq]
    refine take_s (k := k + 8) (M := 7) p (by omega) (by decide) (by decide) fun v h2 v0 v1 p2 m2 => ?_
    have st2 := m2.get st hn
    rcases seven v0 v1 with rfl | rfl | rfl | rfl | rfl | rfl | rfl
    all_goals simp [getIt, asSeq, pyIx, set2 st2]
    · exact key _ _ (.out (by decide)) (fun e => by cases e) (.int _) p2 st2
    · exact key _ _ (.out (by decide)) (fun e => by cases e) (.int _) p2 st2
    · exact key _ _ (.nn (.bl _)) (fun e => by cases e) (.bl _) p2 st2
    · exact key _ _ (.nn (.bl _)) (fun e => by cases e) (.bl _) p2 st2
    · exact key _ _ (.nn .non) (fun e => by cases e) .non p2 st2
    · exact key _ _ (.nn (.str _)) (fun e => by cases e) .zero p2 st2
    · exact key _ _ (.rat _) (fun e => by cases e) (.rat _) p2 st2
  · simp [rest10, d_law, gf, z]
    exact go _ p st
end
end Py

set_option Elab.async false
set_option linter.all false
set_option maxRecDepth 100000
set_option maxHeartbeats 2000017
/-! the law of goals -/
namespace Py
open PySem (Str)
section
variable {k : Nat} {h : EH} {c m : Nm → List PV → EH → Res PV} {u v : PV} {es fs : List Str} {ws vs : List Rat} {p q : Rat} {w w' : Int} {ns : List Int}
theorem three {v : Int} (h0 : 0 ≤ v) (h1 : v < 3) : v = 0 ∨ v = 1 ∨ v = 2 := by omega
def rest5 : List S := d_law.body.drop 5
theorem p5_ok {f0 f1 f2 A : Int} {xs : List (Int × Int)} (e : Eff es) (o : ∀ x ∈ xs, OkP x) (l : xs.length = es.length) (p : Hnd 0 A h) (hA : A ≤ 20000) {t3 t6 : Option PV} :
    TS (KtS.mk : KtS (fun _ _ _ => False) (fun f σ h => f = .rt (.bl true))) (evSs ⟨PP, callF PP (k + 11), callF PP (k + 10)⟩ rest5 [some (.scr ns), some (.loc 0), some (.lst [.int f0, .int f1, .int f2]), t3, some (.lst (sL es)), some (.lst (xs.map pR)), t6, some (Qv es (rtL xs)), none, none, none, none, none, none, none, none, none, none] h) := by
  have go := fun (x : Int × Int) (nv rg : PV) (w : Int) (h : EH) (n : Nat) (g : Gd ns es xs x nv rg w) (p : Hnd 0 (A + 10) h) (hn : n ≠ 0) (st : hget n h = some (.lst [Qv es (rtL xs), nv, rg])) => p10_ok (k := k) (f0 := f0) (f1 := f1) (f2 := f2) (t3 := t3) (t6 := t6) g p (by omega) hn st
  refine TS_cut _ 5 _ (r := rest10) rfl ?_
  generalize PV.lst (sL es) = ev at *
  generalize PV.lst (xs.map pR) = wv at *
  simp [rest5, d_law]
  refine hslip_s (k := k + 7) p (by omega) fun a b h1 a0 b1 la lb1 p1 m1 => ?_
  obtain ⟨nv, nn, ne⟩ := hnum_ok (a := a) (b := b) b1 (by omega)
  have ne' := fun h => ne (k := k + 5) (h := h)
  simp [ne', big_eq]
  refine take_s (k := k + 8) (M := 3) p1 (by omega) (by decide) (by decide) fun v h2 v0 v1 p2 m2 => ?_
  have lt := p2.lt
  have fin : ∀ rg w, Rog rg w → TS (KtS.mk : KtS (fun _ _ _ => False) (fun f σ h => f = .rt (.bl true))) (evSs ⟨PP, callF PP (k + 11), callF PP (k + 10)⟩ rest10 [some (.scr ns), some (.loc 0), some (.lst [.int f0, .int f1, .int f2]), t3, some ev, some wv, t6, some (Qv es (rtL xs)), some (.tup [.int a, .int b]), some nv, some rg, some .non, some (.loc h2.length), none, none, none, none, none] (.lst [Qv es (rtL xs), nv, rg] :: h2)) := fun rg w r =>
    go (a, b) nv rg w _ _ ⟨r, e, o, l, ⟨b1, la, lb1⟩, a0, nn⟩ ((p2.mo (Mo.push (l := fun _ => False) _ _) id).mono (by omega)) (by omega) (by rw [hget_cons, if_pos rfl])
  rcases three v0 v1 with rfl | rfl | rfl
  all_goals simp [getIt, asSeq, pyIx, big_eq, newL]
  · exact fin _ _ .zero
  · exact fin _ _ .one
  · exact fin _ _ .out
def rest3 : List S := d_law.body.drop 3
theorem p3_ok {f0 f1 f2 A : Int} (e : Eff es) (p : Hnd 0 A h) (hA : A ≤ 10000) {t3 : Option PV} :
    TS (KtS.mk : KtS (fun _ _ _ => False) (fun f σ h => f = .rt (.bl true))) (evSs ⟨PP, callF PP (k + 11), callF PP (k + 10)⟩ rest3 [some (.scr ns), some (.loc 0), some (.lst [.int f0, .int f1, .int f2]), t3, some (.lst (sL es)), none, none, none, none, none, none, none, none, none, none, none, none, none] h) := by
  have le4 := e.four
  have go := fun (xs : List (Int × Int)) (h : EH) (o : ∀ x ∈ xs, OkP x) (l : xs.length = es.length) (p : Hnd 0 (A + 12) h) => p5_ok (k := k) (ns := ns) (f0 := f0) (f1 := f1) (f2 := f2) (t3 := t3) (t6 := none) e o l p (by omega)
  have hq := fun (xs : List (Int × Int)) (h : EH) (o : ∀ x ∈ xs, OkP x) (l : xs.length = es.length) => hquestion (k := k + 2) (h := h) e o l (.lst (sL es)) (.lst (xs.map pR))
  refine TS_cut _ 2 _ (r := rest5) rfl ?_
  generalize hev : PV.lst (sL es) = ev at *
  simp [-TE_evE_lc0, -evE_lc0, rest3, d_law]
  rw [evE_lc0]
  simp [← hev]
  refine TE_lc (fun l m h' => ∃ xs : List (Int × Int), m = xs.map pR ∧ xs.length + l.length = es.length ∧ (∀ x ∈ xs, OkP x) ∧ Hnd 0 (A + 3 * (xs.length : Nat)) h') (fun _ _ _ _ => trivial) ?_ ?_ ⟨[], rfl, by simp, by simp, p.mono (by simp)⟩
  · rintro s r m h' ⟨xs, rfl, ll, o, p'⟩
    have ll : xs.length + (r.length + 1) = es.length := ll
    simp
    refine hfraction_s (k := k + 7) p' (by omega) fun a b h2 b1 la lb1 p2 m2 => ?_
    refine ⟨xs ++ [(a, b)], by simp, by simp; omega, fun a' b' hx => ?_, p2.mono (by simp; omega)⟩
    rcases List.mem_append.mp hx with z | z
    · exact o (a', b') z
    · rw [List.mem_singleton.mp z]; exact ⟨b1, la, lb1⟩
  · rintro m h' ⟨xs, rfl, ll, o, p'⟩
    have ll : xs.length = es.length := ll
    have hq' := hq xs h' o ll
    have lb : xs.length ≤ 4 := by omega
    simp [big_eq]
    refine ⟨fun _ => ?_, fun q => absurd q (by omega)⟩
    simp [hq']
    exact go xs h' o ll (p'.mono (by omega))
theorem law_s (hl : ns.length ≤ 63) : Tr NX (fun a _ => a = .bl true) (callF PP (k + 12) .law [.scr ns] []) := by
  refine TE_call1 d_law (by simp) rfl rfl (TS_cut _ 3 _ (r := rest3) rfl ?_)
  simp [-evI_range1, -TE_evI_range1, d_law, start]
  refine hand_s (k := k + 7) ns 0 (by decide) hl fun n s s0 s1 => ?_
  have p0 : Hnd 0 0 [.lst [.int n, .int 0, .int s]] := ⟨n, 0, s, rfl, by decide, by decide, s0, s1⟩
  simp [-evI_range1, -TE_evI_range1]
  rw [rng1 (n := 3) (by simp) (by decide) (by decide)]
  simp
  refine TE_rng (fun i m h' => ∃ fs : List Int, m = fs.map .int ∧ fs.length = i ∧ Hnd 0 (i : Nat) h') ⟨[], rfl, rfl, p0⟩ ?_ ?_
  · rintro i m h' lt ⟨fs, rfl, lf, p1⟩
    simp
    refine take_s (k := k + 8) p1 (by omega) (by decide) (by decide) fun v h2 v0 v1 p2 m2 => ?_
    exact ⟨fs ++ [v], by simp, by simp [lf], p2.mono (by omega)⟩
  · rintro m h' ⟨fs, rfl, lf, p1⟩
    obtain ⟨f0, f1, f2, rfl⟩ : ∃ f0 f1 f2, fs = [f0, f1, f2] := by
      match fs, lf with
      | [a, b, c], _ => exact ⟨a, b, c, rfl⟩
    simp [big_eq]
    refine take_s (k := k + 8) p1 (by decide) (by decide) (by decide) fun v h2 v0 v1 p2 m2 => ?_
    simp
    refine hnames_s (k := k + 6) (M := (1 + v).toNat) (by congr 1; omega) p2 (by decide) (by omega) fun ev es h3 ee nm nd le p3 m3 => ?_
    subst ee
    exact TS.mono (p3_ok (k := k) ⟨by omega, by omega, nm, nd⟩ p3 (by omega)) (fun f σ h e => by subst e; exact shut_law (h := h) (kk := Kt.mk)) fun _ _ _ z => z.elim
theorem law_ok (ns : List Int) (hl : ns.length ≤ 63) : ∃ h', callF PP (k + 12) .law [.scr ns] [] = .ok (.bl true) h' := by
  obtain ⟨a, h', e, rfl⟩ := TE.ex (law_s (k := k) hl)
  exact ⟨h', e⟩
end
end Py

set_option Elab.async false
set_option linter.all false
set_option maxRecDepth 100000
set_option maxHeartbeats 0
namespace Py
open L2 PyProof.Rows PySem.Spec PySem
abbrev RR : PySem.W.OpenRow := PySem.W.OpenLaw.row PySem.Challenge.rw_anymethod_k58_goals_and_their_refusals
def lo0 : List Str := ["_wall", "LETTERS", "DIGITS", "LONGEST", "is_integer", "is_sequence", "is_name", "MethodError", "NoRatio", "NoQuestion", "OtherEffects", "NoWorld", "NoRun", "NoWild", "NoGoal", "NoGoals", "GREATEST_POWER", "MOST_DIGITS", "common_divisor", "Ratio"]
def lo1 : List Str := ["is_digits", "is_number", "as_ratio", "MOST_EFFECTS", "are_effects", "are_numbers", "is_world", "Question", "Run", "Goal", "_law_hand", "_law_take", "_law_fraction", "_law_slip", "_law_names", "_law_number", "_law_question", "_law_made"]
def looseL : List Str := lo0 ++ lo1
def ob (s : PySem.W.SharedT) : AlL := LL.obs (HandSHeadRun.getT s)
theorem ob_eq (s : PySem.W.SharedT) : ob s = LL.hook.obs s.abs := LD.obs_eq (HandSHeadRun.getT_eq s)
theorem run (w : World) : HandSHeadRun.RunEq RR (PySem.W.view RR.prog [45]) LL.hook ob 6000 looseL w := by
  intro os
  kernel_rfl
end Py

set_option Elab.async false
set_option linter.all false
set_option maxRecDepth 100000
set_option maxHeartbeats 0
open Py PySem PySem.W PySem.Calls PyProof.Rows
theorem PySem.Challenge.cw_anymethod_k58_goals_and_their_refusals_holds : PySem.Challenge.rw_anymethod_k58_goals_and_their_refusals.Holds := by
  w_on; o_law
  refine HandSHeadRun.head_any (r := Py.RR) (q := view Py.RR.prog [45]) (H := LL.hook) (ob := Py.ob) (M := 6000) (loose := looseL) (d := HandSHeadRun.topDef Py.RR.prog 45) (kwd := []) Py.ob_eq
    (by kernel_rfl) (fun s => by kernel_rfl) Py.run (by kernel_rfl) (by kernel_rfl) (by kernel_rfl) (by rfl) (by first | assumption | decide +kernel) (by decide +kernel) ⟨rfl, rfl, rfl, rfl, rfl, by decide +kernel⟩ ?hw ?hc
  case hw => w_witness2
  case hc =>
    exact LD.walk (l := PySem.Challenge.rw_anymethod_k58_goals_and_their_refusals) (n := 63) (k := 40) (p := Nm._law_script) (f := Nm.law) (fd := d_law) staL xinL tldL rfl (by decide) (by kernel_rfl) ⟨rfl, by decide, by decide⟩ (by decide) fn_law rfl (by decide) (by kernel_rfl) (by kernel_rfl)
      (by decide +kernel) (fun ns hl => law_ok (k := 29) ns hl)

