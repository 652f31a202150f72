import PyProof.Rows.All
import Wide.All
import OpenK.AllK
import Wide.FinOn
import HandS.ForMost
import HandS.ForExc
import HandS.Wide
import HandS.IsInst
import HandS.Deep
import HandS.TupAny
import HandS.Flow
import KE.KExcSuper
import HandS.ExcSuper
import HandS.ExcInit
import HandS.ExcField
import HandS.ExcValue
import HandS.ExcIs
import KE.KExcIs
import HandS.Text
import HandS.RaiseMore
import HandS.Iter
import HandS.Comp
import HandS.TryMany
import HandS.HeadHook1
import HandS.HeadEnd
import HandS.Head0
import HandS.Head1
import HandS.Head2
import HandS.HeadHook2
import PySem.Challenge.RW_ledgertrace_k00_errors
set_option Elab.async false
set_option linter.all false
set_option maxRecDepth 100000
set_option maxHeartbeats 0
/-! A small machine of plain data for the part of Python that the rows use: values, stores, own syntax, what must hold. -/
namespace Ab
open PySem PyProof.Rows L2 PySem.Spec

/-- plain values: tuples and lists, dicts that nobody changes any more, by content; ref: an object that may change -/
inductive D where
  | non | bl (b : Bool) | int (i : Int) | str (x : Str)
  | tup (l : List D) | lst (l : List D) | dic (l : List (D × D))
  | ref (a : Addr) | exc (c : Str) (d : D) | cur (a : Addr)

/-- an object that may change -/
inductive MO where
  | lst (l : List D)
  | ins (c : Str) (fs : List (Str × D))
abbrev Mm := Addr → Option MO
def Mm.put (m : Mm) (a : Addr) (o : MO) : Mm := fun b => if b = a then some o else m b
def Mm.del (m : Mm) (a : Addr) : Mm := fun b => if b = a then none else m b
def Mm.Sub (m m' : Mm) : Prop := ∀ a o, m a = some o → m' a = some o
abbrev Dl := List (Option D)
/-- an exception: its class, its argument -/
abbrev Ex := Str × D
abbrev Kd := D → Mm → Prop
abbrev Kx := Ex → Mm → Prop
abbrev Fc := Str → List D → Mm → Kd → Kx → Prop

inductive Bop where | add | sub | mul | fdiv | mod | pow | band
inductive Cop where | eq | ne | lt | le | gt | ge | isin | notin
inductive Bt where | non | bool | int | str | list | tuple | dict
def Bt.name : Bt → String
  | .non => "NoneType" | .bool => "bool" | .int => "int" | .str => "str" | .list => "list" | .tuple => "tuple" | .dict => "dict"
def Bt.sub : Bt → Bt → Bool
  | .non, .non => true | .bool, .bool => true | .int, .int => true | .str, .str => true | .list, .list => true | .tuple, .tuple => true | .dict, .dict => true
  | .bool, .int => true
  | _, _ => false
/-- a class that isinstance is asked of: a built-in type, an own class, a built-in exception -/
inductive Ty where | bt (b : Bt) | cls (x : Str) | bcls (x : String)
inductive Bi where | len | int | str | tuple | list | min2 | max2 | abs | all | any | sum
inductive Mt where | append | join
inductive Tg where | one (i : Nat) | many (l : List Nat)

mutual
inductive E where
  | var (i : Nat) | int (i : Int) | str (x : Str) | bl (b : Bool) | non | glob (x : Str)
  | bop (o : Bop) (a b : E) | neg (a : E) | cmp (o : Cop) (a b : E) | chain (o p : Cop) (a b c : E) | isN (a : E) | notN (a : E)
  | andE (es : As) | orE (es : As) | notE (a : E) | ite (t a b : E)
  | tup (es : As) | lst (es : As) | lstM (es : As) | idx (a i : E) | slc (a lo hi : E) | noE
  | fld (a : E) (f : Str) | call (f : Str) (es : As) | bi (b : Bi) (es : As) | mth (m : Mt) (a : E) (es : As)
  | um (m : Str) (a : E) (es : As) | new (c : Str) (es : As) | mkx (c : Str) (a : E) | isi (a : E) (ts : List Ty)
  | lc (fz : Bool) (own : List Nat) (tg : Tg) (it : It) (ifs : As) (elt : E)
inductive As where
  | nil | cons (e : E) (r : As)
inductive It where
  | ex (e : E) | rng1 (a : E) | rng2 (a b : E)
end
mutual
inductive S where
  | ex (e : E) | asg (tg : Tg) (e : E) | asgC (i : Nat) (e : E) | asgI (o i e : E) | asgF (o : E) (f : Str) (e : E)
  | aug (i : Nat) (op : Bop) (e : E) | augF (o : E) (f : Str) (op : Bop) (e : E)
  | ite (t : E) (a b : Ss) | forS (tg : Tg) (it : It) (b : Ss) | whileS (t : E) (b : Ss)
  | ret (e : E) | retN | raise (c : Str) (e : E) | tryS (b : Ss) (cl : Cl) | brk | cont | pass | frz (i : Nat)
inductive Ss where
  | nil | cons (s : S) (r : Ss)
inductive Cl where
  | nil | cons (c : Str) (nm : Option Nat) (b : Ss) (r : Cl)
end

/-- what stands around -/
structure Ct where
  call : Fc
  init : Fc
  cst : Str → Option D
  sub : Str → Str → Option Bool
  bsub : Str → String → Option Bool
  att : Str → Option Str
  fld : Str → Str → Bool
  cur : Option (Addr × Ex)
  calm : Bool
def noFc : Fc := fun _ _ _ _ _ => False

/-! ### operations -/
/-! data without truth values, exceptions, objects, dicts -/
mutual
def D.plain : D → Bool
  | .non => true | .int _ => true | .str x => PyData.strOk x
  | .tup l => D.plains l | .lst l => D.plains l
  | _ => false
def D.plains : List D → Bool
  | [] => true
  | d :: r => d.plain && D.plains r
end
mutual
def D.beq : D → D → Bool
  | .non, .non => true | .bl a, .bl b => a == b | .int a, .int b => a == b | .str a, .str b => a == b
  | .tup a, .tup b => D.beqs a b | .lst a, .lst b => D.beqs a b
  | _, _ => false
def D.beqs : List D → List D → Bool
  | [], [] => true
  | a :: r, b :: s => D.beq a b && D.beqs r s
  | _, _ => false
end
/-- a list that may change, by its content -/
def top (m : Mm) : D → D
  | .ref a => match m a with
    | some (.lst l) => .lst l
    | _ => .ref a
  | d => d
def seqD (m : Mm) : D → Option (List D)
  | .tup l => some l
  | .lst l => some l
  | .ref a => match m a with
    | some (.lst l) => some l
    | _ => none
  | _ => none
def D.dep : D → Nat
  | .tup l => depL l + 1
  | .lst l => depL l + 1
  | _ => 0
where depL : List D → Nat
  | [] => 0
  | d :: r => max d.dep (depL r)
def D.isBl : D → Bool
  | .bl _ => true
  | _ => false
def scalD : D → D → Bool
  | .non, .non => true | .int _, .non => true | .non, .int _ => true | .non, .bl _ => true | .bl _, .non => true | .non, .str _ => true | .str _, .non => true
  | .int _, .int _ => true | .bl _, .bl _ => true | .str _, .str _ => true | .int _, .str _ => true | .str _, .int _ => true | .bl _, .str _ => true | .str _, .bl _ => true
  | _, _ => false
/-- == may be asked -/
def eqOk (x y : D) : Bool := scalD x y || (x.plain && y.plain && decide (x.dep ≤ 64) && decide (y.dep ≤ 64))
def strIn (s z : Str) : Bool := !(Builtin.Str.occurrences z s 0 z.length 1).isEmpty
def inL (x : D) (l : List D) : Bool := l.any fun z => D.beq z x
def inW (x y : D) (m : Mm) (Q : Bool → Prop) : Prop := match x, y with
  | .str s, .str z => Q (strIn s z)
  | x, y => ∃ l, seqD m y = some l ∧ ((x.plain = true ∧ D.plains l = true ∧ x.dep ≤ 64 ∧ (D.lst l).dep ≤ 64) ∨ (x.isBl = true ∧ l.all D.isBl = true)) ∧ Q (inL x l)
def ltW (x y : D) (Q : Bool → Prop) : Prop := match x, y with
  | .int i, .int j => Q (decide (i < j))
  | .str i, .str j => Q (decide (i.cps.toList < j.cps.toList))
  | _, _ => False
def leW (x y : D) (Q : Bool → Prop) : Prop := match x, y with
  | .int i, .int j => Q (decide (i ≤ j))
  | _, _ => False
def cmpW (o : Cop) (x y : D) (m : Mm) (Q : Bool → Prop) : Prop := match o with
  | .eq => eqOk (top m x) (top m y) = true ∧ Q (D.beq (top m x) (top m y))
  | .ne => eqOk (top m x) (top m y) = true ∧ Q (!D.beq (top m x) (top m y))
  | .lt => ltW x y Q
  | .gt => ltW y x Q
  | .le => leW x y Q
  | .ge => leW y x Q
  | .isin => inW x y m Q
  | .notin => inW x y m fun b => Q (!b)
def bopW (o : Bop) (x y : D) (m : Mm) (Q : D → Prop) : Prop := match o, x, y with
  | .add, .int i, .int j => Q (.int (i + j))
  | .add, .str i, .str j => i.length + j.length ≤ sizeLine ∧ Q (.str (i ++ j))
  | .add, .tup i, .tup j => i.length + j.length ≤ sizeLine ∧ Q (.tup (i ++ j))
  | .add, x, y => ∃ i j, top m x = .lst i ∧ top m y = .lst j ∧ i.length + j.length ≤ sizeLine ∧ Q (.lst (i ++ j))
  | .sub, .int i, .int j => Q (.int (i - j))
  | .mul, .int i, .int j => CMulW i j ∧ Q (.int (i * j))
  | .fdiv, .int i, .int j => CDivW i j ∧ Q (.int (i / j))
  | .mod, .int i, .int j => 0 < j ∧ Q (.int (i % j))
  | .pow, .int i, .int j => CPow i j ∧ Q (.int (i ^ j.toNat))
  | _, _, _ => False
/-- an augmented operator -/
def augW (o : Bop) (x y : D) (Q : D → Prop) : Prop := match o, x, y with
  | .add, .int i, .int j => Q (.int (i + j))
  | .sub, .int i, .int j => Q (.int (i - j))
  | _, _, _ => False
def truth (d : D) (m : Mm) : Option Bool := match d with
  | .non => some false
  | .bl b => some b
  | .int i => some (i != 0)
  | .tup l => some (!l.isEmpty)
  | d => match top m d with
    | .lst l => some (!l.isEmpty)
    | _ => none
def idxW (x y : D) (m : Mm) (Q : D → Prop) : Prop := match x, y with
  | .str z, .int i => z.length ≤ sizeLine ∧ ∃ c, atI z.cps.toList i = some c ∧ Q (.str ⟨#[c]⟩)
  | x, .int i => ∃ l d, seqD m x = some l ∧ atI l i = some d ∧ Q d
  | _, _ => False
def btOf (m : Mm) : D → Option Bt
  | .non => some .non | .bl _ => some .bool | .int _ => some .int | .str _ => some .str | .tup _ => some .tuple | .lst _ => some .list
  | .ref a => match m a with
    | some (.lst _) => some .list
    | _ => none
  | _ => none
def tyOf (C : Ct) (d : D) (m : Mm) (t : Ty) : Option Bool := match d, t with
  | .exc c _, .cls x => C.sub c x
  | .exc c _, .bcls x => C.bsub c x
  | .cur a, .cls x => C.cur.bind fun e => if e.1 = a then C.sub e.2.1 x else none
  | .cur a, .bcls x => C.cur.bind fun e => if e.1 = a then C.bsub e.2.1 x else none
  | d, .bt b => (btOf m d).map fun k => k.sub b
  | _, _ => none
def isiW (C : Ct) (d : D) (m : Mm) : List Ty → (Bool → Prop) → Prop
  | [], Q => Q false
  | t :: r, Q => ∃ b, tyOf C d m t = some b ∧ if b = true then Q true else isiW C d m r Q
def biW (b : Bi) (l : List D) (m : Mm) (Q : D → Prop) : Prop := match b, l with
  | .len, [.str z] => z.length ≤ sizeLine ∧ Q (.int z.length)
  | .len, [x] => ∃ l, seqD m x = some l ∧ Q (.int l.length)
  | .int, [.int i] => Q (.int i)
  | .int, [.bl b] => Q (.int (if b then 1 else 0))
  | .str, [.int i] => i.natAbs.log2 < 1920 ∧ Q (.str (toString i))
  | .str, [.str z] => Q (.str z)
  | .abs, [.int i] => Q (.int (if i < 0 then -i else i))
  | .min2, [x, y] => ∃ i j, x = .int i ∧ y = .int j ∧ Q (.int (if j < i then j else i))
  | .max2, [x, y] => ∃ i j, x = .int i ∧ y = .int j ∧ Q (.int (if j > i then j else i))
  | .tuple, [.tup l] => Q (.tup l)
  | .tuple, [x] => ∃ l, top m x = .lst l ∧ Q (.tup l)
  | .list, [x] => ∃ l, seqD m x = some l ∧ Q (.lst l)
  | _, _ => False
def strsOf : List D → Option (List Str)
  | [] => some []
  | .str x :: r => (strsOf r).map (x :: ·)
  | _ => none
def mtW (o : Mt) (x : D) (l : List D) (m : Mm) (Q : D → Mm → Prop) : Prop := match o, x, l with
  | .append, .ref a, [d] => ∃ l, m a = some (.lst l) ∧ l.length < sizeLine ∧ Q .non (m.put a (.lst (l ++ [d])))
  | .join, .str z, [x] => ∃ l ss, seqD m x = some l ∧ strsOf l = some ss ∧ (ss.map (·.length)).sum + ss.length * z.length ≤ 16777216 ∧ Q (.str (Txt.join z ss)) m
  | _, _, _ => False
def mtPre (o : Mt) (x : D) (m : Mm) : Prop := match o with
  | .append => ∃ p l, x = .ref p ∧ m p = some (.lst l)
  | .join => ∃ z, x = .str z
def putFl (f : Str) (v : D) : List (Str × D) → List (Str × D)
  | [] => [(f, v)]
  | (g, u) :: r => if g = f then (g, v) :: r else (g, u) :: putFl f v r
def fldW (C : Ct) (x : D) (f : Str) (m : Mm) (Q : D → Prop) : Prop := match x with
  | .ref a => ∃ c fs d, m a = some (.ins c fs) ∧ C.fld c f = true ∧ fs.lookup f = some d ∧ Q d
  | .exc c d => C.att c = some f ∧ Q d
  | .cur a => ∃ e, C.cur = some (a, e) ∧ C.att e.1 = some f ∧ Q e.2
  | _ => False
/-- a target's names get their values -/
def setAll : List Nat → List D → Dl → Dl
  | i :: r, d :: s, δ => setAll r s (δ.set i (some d))
  | _, _, δ => δ
def tgW (C : Ct) (t : Tg) (d : D) (δ : Dl) (Q : Dl → Prop) : Prop := match t, d with
  | .one i, d => Q (δ.set i (some d))
  | .many is, .tup l => C.calm = true ∧ l.length = is.length ∧ Q (setAll is l δ)
  | _, _ => False
def wipeD (δ : Dl) : List Nat → Dl
  | [] => δ
  | i :: r => (wipeD δ r).set i none

/-- a list comprehension's turns: items left, made so far -/
def lcL (g : Mm → Prop) (turn : D → Mm → (Option D → Mm → Prop) → Prop) : List D → List D → Mm → (List D → Mm → Prop) → Prop
  | [], acc, m, Q => g m ∧ Q acc m
  | d :: r, acc, m, Q => g m ∧ turn d m fun o m1 => match o with
    | some x => acc.length < sizeLine ∧ lcL g turn r (acc ++ [x]) m1 Q
    | none => lcL g turn r acc m1 Q

mutual
def wE (C : Ct) (X : Kx) : E → Dl → Mm → Kd → Prop
  | .var i, δ, m, Q => ∃ d, δ[i]? = some (some d) ∧ Q d m
  | .int i, _, m, Q => Q (.int i) m
  | .str x, _, m, Q => Q (.str x) m
  | .bl b, _, m, Q => Q (.bl b) m
  | .non, _, m, Q => Q .non m
  | .glob x, _, m, Q => ∃ d, C.cst x = some d ∧ Q d m
  | .bop o a b, δ, m, Q => wE C X a δ m fun x m1 => wE C X b δ m1 fun y m2 => bopW o x y m2 fun d => Q d m2
  | .neg a, δ, m, Q => wE C X a δ m fun x m1 => ∃ i, x = .int i ∧ Q (.int (-i)) m1
  | .cmp o a b, δ, m, Q => wE C X a δ m fun x m1 => wE C X b δ m1 fun y m2 => cmpW o x y m2 fun c => Q (.bl c) m2
  | .chain o p a b c, δ, m, Q => wE C X a δ m fun x m1 => wE C X b δ m1 fun y m2 => cmpW o x y m2 fun k => if k = true then wE C X c δ m2 fun z m3 => cmpW p y z m3 fun k => Q (.bl k) m3 else Q (.bl false) m2
  | .isN a, δ, m, Q => wE C X a δ m fun x m1 => Q (.bl (match x with | .non => true | _ => false)) m1
  | .notN a, δ, m, Q => wE C X a δ m fun x m1 => Q (.bl (match x with | .non => false | _ => true)) m1
  | .andE es, δ, m, Q => wAnd C X es δ m Q
  | .orE es, δ, m, Q => wOr C X es δ m Q
  | .notE a, δ, m, Q => wE C X a δ m fun x m1 => ∃ b, x = .bl b ∧ Q (.bl (!b)) m1
  | .ite t a b, δ, m, Q => wT C X t δ m fun c m1 => if c = true then wE C X a δ m1 Q else wE C X b δ m1 Q
  | .tup es, δ, m, Q => wAs C X es δ m fun l m1 => l.length ≤ sizeLine ∧ Q (.tup l) m1
  | .lst es, δ, m, Q => wAs C X es δ m fun l m1 => l.length ≤ sizeLine ∧ Q (.lst l) m1
  | .lstM es, δ, m, Q => wAs C X es δ m fun l m1 => l.length ≤ sizeLine ∧ ∀ a, m1 a = none → Q (.ref a) (m1.put a (.lst l))
  | .idx a i, δ, m, Q => wE C X a δ m fun x m1 => wE C X i δ m1 fun y m2 => idxW x y m2 fun d => Q d m2
  | .slc _ _ _, _, _, _ => False
  | .noE, _, _, _ => False
  | .fld a f, δ, m, Q => wE C X a δ m fun x m1 => fldW C x f m1 fun d => Q d m1
  | .call f es, δ, m, Q => wAs C X es δ m fun l m1 => C.call f l m1 Q X
  | .bi b es, δ, m, Q => wAs C X es δ m fun l m1 => biW b l m1 fun d => Q d m1
  | .mth o a es, δ, m, Q => wE C X a δ m fun x m1 => mtPre o x m1 ∧ wAs C X es δ m1 fun l m2 => mtW o x l m2 Q
  | .um f a es, δ, m, Q => wE C X a δ m fun x m1 => ∃ p c fs, x = .ref p ∧ m1 p = some (.ins c fs) ∧ fs.lookup f = none ∧ wAs C X es δ m1 fun l m2 => C.call (c ++ "." ++ f) (x :: l) m2 Q X
  | .new c es, δ, m, Q => wAs C X es δ m fun l m1 => ∀ a, m1 a = none → C.init (c ++ ".__init__") (.ref a :: l) (m1.put a (.ins c [])) (fun v m2 => v = .non ∧ Q (.ref a) m2) X
  | .mkx c a, δ, m, Q => wE C X a δ m fun x m1 => Q (.exc c x) m1
  | .isi a ts, δ, m, Q => wE C X a δ m fun x m1 => isiW C x m1 ts fun b => Q (.bl b) m1
  | .lc fz own tg it ifs elt, δ, m, Q => C.calm = true ∧ wI C X it δ m fun g l m1 => lcL g (fun d m2 K => tgW C tg d (wipeD δ own) fun δ' => wTs C ifs δ' m2 fun b m3 => if b = true then wE C (fun _ _ => False) elt δ' m3 fun x m4 => K (some x) m4 else K none m3)
      l [] m1 fun r m5 => if fz = true then Q (.lst r) m5 else ∀ a, m5 a = none → Q (.ref a) (m5.put a (.lst r))
def wAs (C : Ct) (X : Kx) : As → Dl → Mm → (List D → Mm → Prop) → Prop
  | .nil, _, m, Q => Q [] m
  | .cons e r, δ, m, Q => wE C X e δ m fun x m1 => wAs C X r δ m1 fun l m2 => Q (x :: l) m2
def wAnd (C : Ct) (X : Kx) : As → Dl → Mm → Kd → Prop
  | .nil, _, _, _ => False
  | .cons e .nil, δ, m, Q => wE C X e δ m Q
  | .cons e r, δ, m, Q => wE C X e δ m fun x m1 => ∃ b, x = .bl b ∧ if b = true then wAnd C X r δ m1 Q else Q (.bl false) m1
def wOr (C : Ct) (X : Kx) : As → Dl → Mm → Kd → Prop
  | .nil, _, _, _ => False
  | .cons e .nil, δ, m, Q => wE C X e δ m Q
  | .cons e r, δ, m, Q => wE C X e δ m fun x m1 => ∃ b, x = .bl b ∧ if b = true then Q (.bl true) m1 else wOr C X r δ m1 Q
def wT (C : Ct) (X : Kx) : E → Dl → Mm → (Bool → Mm → Prop) → Prop
  | .andE es, δ, m, Q => wTAnd C X es δ m Q
  | .orE es, δ, m, Q => wTOr C X es δ m Q
  | .notE a, δ, m, Q => wT C X a δ m fun b m1 => Q (!b) m1
  | .cmp o a b, δ, m, Q => wE C X a δ m fun x m1 => wE C X b δ m1 fun y m2 => cmpW o x y m2 fun c => Q c m2
  | .chain o p a b c, δ, m, Q => wE C X a δ m fun x m1 => wE C X b δ m1 fun y m2 => cmpW o x y m2 fun k => if k = true then wE C X c δ m2 fun z m3 => cmpW p y z m3 fun k => Q k m3 else Q false m2
  | .isN a, δ, m, Q => wE C X a δ m fun x m1 => Q (match x with | .non => true | _ => false) m1
  | .notN a, δ, m, Q => wE C X a δ m fun x m1 => Q (match x with | .non => false | _ => true) m1
  | .var i, δ, m, Q => ∃ d, δ[i]? = some (some d) ∧ ∃ b, truth d m = some b ∧ Q b m
  | .idx a i, δ, m, Q => wE C X a δ m fun x m1 => wE C X i δ m1 fun y m2 => idxW x y m2 fun d => ∃ b, truth d m2 = some b ∧ Q b m2
  | .fld a f, δ, m, Q => wE C X a δ m fun x m1 => fldW C x f m1 fun d => ∃ b, truth d m1 = some b ∧ Q b m1
  | .call f es, δ, m, Q => wAs C X es δ m fun l m1 => C.call f l m1 (fun d m2 => ∃ b, truth d m2 = some b ∧ Q b m2) X
  | .bi b es, δ, m, Q => wAs C X es δ m fun l m1 => biW b l m1 fun d => ∃ b, truth d m1 = some b ∧ Q b m1
  | .um f a es, δ, m, Q => wE C X a δ m fun x m1 => ∃ p c fs, x = .ref p ∧ m1 p = some (.ins c fs) ∧ fs.lookup f = none ∧ wAs C X es δ m1 fun l m2 => C.call (c ++ "." ++ f) (x :: l) m2 (fun d m3 => ∃ b, truth d m3 = some b ∧ Q b m3) X
  | .isi a ts, δ, m, Q => wE C X a δ m fun x m1 => isiW C x m1 ts fun b => Q b m1
  | _, _, _, _ => False
def wTAnd (C : Ct) (X : Kx) : As → Dl → Mm → (Bool → Mm → Prop) → Prop
  | .nil, _, _, _ => False
  | .cons e .nil, δ, m, Q => wT C X e δ m Q
  | .cons e r, δ, m, Q => wT C X e δ m fun b m1 => if b = true then wTAnd C X r δ m1 Q else Q false m1
def wTOr (C : Ct) (X : Kx) : As → Dl → Mm → (Bool → Mm → Prop) → Prop
  | .nil, _, _, _ => False
  | .cons e .nil, δ, m, Q => wT C X e δ m Q
  | .cons e r, δ, m, Q => wT C X e δ m fun b m1 => if b = true then Q true m1 else wTOr C X r δ m1 Q
def wTs (C : Ct) : As → Dl → Mm → (Bool → Mm → Prop) → Prop
  | .nil, _, m, Q => Q true m
  | .cons e .nil, δ, m, Q => wT C (fun _ _ => False) e δ m Q
  | _, _, _, _ => False
def wI (C : Ct) (X : Kx) : It → Dl → Mm → ((Mm → Prop) → List D → Mm → Prop) → Prop
  | .ex e, δ, m, R => wE C X e δ m fun d m1 => match d with
    | .tup l => R (fun _ => True) l m1
    | .lst l => R (fun _ => True) l m1
    | .str z => R (fun _ => True) (z.cps.toList.map fun c => .str ⟨#[c]⟩) m1
    | .ref a => ∃ l, m1 a = some (.lst l) ∧ R (fun m => m a = some (.lst l)) l m1
    | _ => False
  | .rng1 a, δ, m, R => wE C X a δ m fun d m1 => ∃ n, d = .int n ∧ -(2 ^ 62) ≤ n ∧ n < 2 ^ 62 ∧ R (fun _ => True) ((List.range n.toNat).map fun (k : Nat) => .int (k : Int)) m1
  | .rng2 a b, δ, m, R => wE C X a δ m fun d m1 => wE C X b δ m1 fun d2 m2 => ∃ i j, d = .int i ∧ d2 = .int j ∧ (-(2 ^ 62) ≤ i ∧ i < 2 ^ 62 ∧ -(2 ^ 62) ≤ j ∧ j < 2 ^ 62) ∧ R (fun _ => True) ((List.range (j - i).toNat).map fun (k : Nat) => .int (i + (k : Int))) m2
end

/-! ### statements -/
structure En where
  nx : Dl → Mm → Prop
  rt : Kd
  bk : Dl → Mm → Prop
  ct : Dl → Mm → Prop
  ex : Ex → Dl → Mm → Prop
def forL (g : Mm → Prop) (body : D → En → Dl → Mm → Prop) : List D → En → Dl → Mm → Prop
  | [], F, δ, m => g m ∧ F.nx δ m
  | d :: r, F, δ, m => g m ∧ body d { F with nx := forL g body r F, ct := forL g body r F, bk := F.nx } δ m
def whileW (test : Dl → Mm → (Bool → Mm → Prop) → Prop) (body : En → Dl → Mm → Prop) (F : En) (δ : Dl) (m : Mm) : Prop :=
  ∃ W : Nat → Dl → Mm → Prop, (∃ k, W k δ m) ∧ ∀ k δ m, W k δ m → test δ m fun b m1 => if b = true then body { F with nx := fun δ' m' => ∃ k', k' < k ∧ W k' δ' m', ct := fun δ' m' => ∃ k', k' < k ∧ W k' δ' m', bk := F.nx } δ m1 else F.nx δ m1
def Ct.suite (C : Ct) (a : Addr) (x : Ex) : Ct := { C with call := noFc, init := noFc, cur := some (a, x), calm := false }
def setO (δ : Dl) : Option Nat → Option D → Dl
  | some i, d => δ.set i d
  | none, _ => δ

mutual
def wS (C : Ct) : S → En → Dl → Mm → Prop
  | .ex e, F, δ, m => wE C (fun x m' => F.ex x δ m') e δ m fun _ m1 => F.nx δ m1
  | .asg tg e, F, δ, m => wE C (fun x m' => F.ex x δ m') e δ m fun d m1 => tgW C tg d δ fun δ' => F.nx δ' m1
  | .asgC i e, F, δ, m => wE C (fun x m' => F.ex x δ m') e δ m fun d m1 => F.nx (δ.set i (some d)) m1
  | .asgI o i e, F, δ, m => wE C (fun x m' => F.ex x δ m') e δ m fun v m1 => wE C (fun x m' => F.ex x δ m') o δ m1 fun x m2 => wE C (fun x m' => F.ex x δ m') i δ m2 fun y m3 =>
      ∃ a l k j, x = .ref a ∧ m3 a = some (.lst l) ∧ y = .int k ∧ ixN l.length k = some j ∧ F.nx δ (m3.put a (.lst (l.set j v)))
  | .asgF o f e, F, δ, m => wE C (fun x m' => F.ex x δ m') e δ m fun v m1 => wE C (fun x m' => F.ex x δ m') o δ m1 fun x m2 =>
      ∃ a c fs, x = .ref a ∧ m2 a = some (.ins c fs) ∧ C.fld c f = true ∧ fs.length < 1000 ∧ F.nx δ (m2.put a (.ins c (putFl f v fs)))
  | .aug i op e, F, δ, m => ∃ x, δ[i]? = some (some x) ∧ wE C (fun x m' => F.ex x δ m') e δ m fun y m1 => augW op x y fun z => F.nx (δ.set i (some z)) m1
  | .augF o f op e, F, δ, m => wE C (fun x m' => F.ex x δ m') o δ m fun x m1 => ∃ a c fs u, x = .ref a ∧ m1 a = some (.ins c fs) ∧ C.fld c f = true ∧ fs.lookup f = some u ∧ wE C (fun x m' => F.ex x δ m') e δ m1 fun y m2 =>
      augW op u y fun z => ∃ fs', m2 a = some (.ins c fs') ∧ fs'.length < 1000 ∧ F.nx δ (m2.put a (.ins c (putFl f z fs')))
  | .ite t a b, F, δ, m => wT C (fun x m' => F.ex x δ m') t δ m fun c m1 => if c = true then wSs C a F δ m1 else wSs C b F δ m1
  | .forS tg it b, F, δ, m => C.calm = true ∧ wI C (fun x m' => F.ex x δ m') it δ m fun g l m1 => forL g (fun d F' δ' m' => tgW C tg d δ' fun δ2 => wSs C b F' δ2 m') l F δ m1
  | .whileS t b, F, δ, m => whileW (fun δ m => wT C (fun x m' => F.ex x δ m') t δ m) (fun F' δ m => wSs C b F' δ m) F δ m
  | .ret e, F, δ, m => wE C (fun x m' => F.ex x δ m') e δ m F.rt
  | .retN, F, _, m => F.rt .non m
  | .raise c e, F, δ, m => C.calm = true ∧ wE C (fun x m' => F.ex x δ m') e δ m fun d m1 => F.ex (c, d) δ m1
  | .tryS b cl, F, δ, m => C.calm = true ∧ wSs C b { F with ex := fun x δ' m' => wCl C cl F x δ' m' } δ m
  | .brk, F, δ, m => F.bk δ m
  | .cont, F, δ, m => F.ct δ m
  | .pass, F, δ, m => F.nx δ m
  | .frz i, F, δ, m => ∃ a l, δ[i]? = some (some (.ref a)) ∧ m a = some (.lst l) ∧ F.nx (δ.set i (some (.lst l))) (m.del a)
def wSs (C : Ct) : Ss → En → Dl → Mm → Prop
  | .nil, F, δ, m => F.nx δ m
  | .cons s r, F, δ, m => wS C s { F with nx := wSs C r F } δ m
def wCl (C : Ct) : Cl → En → Ex → Dl → Mm → Prop
  | .nil, F, x, δ, m => F.ex x δ m
  | .cons c nm b r, F, x, δ, m => ∃ k, C.sub x.1 c = some k ∧ if k = true then ∀ a, wSs (C.suite a x) b ⟨fun δ' m' => F.nx (setO δ' nm none) m', F.rt, fun δ' m' => F.bk (setO δ' nm none) m', fun δ' m' => F.ct (setO δ' nm none) m', fun _ _ _ => False⟩ (setO δ nm (some (.cur a))) m
      else wCl C r F x δ m
end

/-! ### the table of defs -/
structure Fd where
  np : Nat
  N : List Str
  body : Ss
structure Tab where
  fnL : List (Str × Fd)
  cstL : List (Str × D)
  clsL : List Str
  attL : List (Str × Str)
  subL : List ((Str × Str) × Bool)
  bsubL : List ((Str × String) × Bool)
  fldL : List (Str × Str)
def Tab.fns (T : Tab) : Str → Option Fd := fun f => T.fnL.lookup f
def Tab.cst (T : Tab) : Str → Option D := fun x => T.cstL.lookup x
def Tab.att (T : Tab) : Str → Option Str := fun c => T.attL.lookup c
def Tab.sub (T : Tab) : Str → Str → Option Bool := fun c t => T.subL.lookup (c, t)
def Tab.bsub (T : Tab) : Str → String → Option Bool := fun c t => T.bsubL.lookup (c, t)
def Tab.fld (T : Tab) : Str → Str → Bool := fun c f => T.fldL.contains (c, f)
def startD (ns : Nat) (l : List D) : Dl := l.map some ++ List.replicate (ns - l.length) none
def Tab.ct (T : Tab) (call init : Fc) : Ct := ⟨call, init, T.cst, T.sub, T.bsub, T.att, T.fld, none, true⟩
def fdW (C : Ct) (fd : Fd) (l : List D) (m : Mm) (Q : Kd) (X : Kx) : Prop :=
  l.length = fd.np ∧ wSs C fd.body ⟨fun _ m' => ∃ m'', m''.Sub m' ∧ Q .non m'', fun d m' => ∃ m'', m''.Sub m' ∧ Q d m'', fun _ _ => False, fun _ _ => False, fun x _ m' => ∃ m'', m''.Sub m' ∧ X x m''⟩ (startD fd.N.length l) m
def Tab.wC (T : Tab) : Nat → Fc
  | 0 => noFc
  | 1 => fun f l m Q X => ∃ fd, T.fns f = some fd ∧ fdW (T.ct noFc noFc) fd l m Q X
  | n + 2 => fun f l m Q X => ∃ fd, T.fns f = some fd ∧ fdW (T.ct (T.wC (n + 1)) (T.wC n)) fd l m Q X
end Ab
/-! The machine's states and the row's: what stands for what. -/
namespace Ab
open PySem PyProof.Rows L2 PySem.Spec

/-- the row behind its top: where its defs and classes stand -/
structure Rw where
  T : Tab
  clA : Str → Option Addr
  fnA : Str → Option Addr
  fnD : Str → FuncData
  fnP : Str → List Str
  gfn : Str → Bool

/-- the exception that an except suite has in hand: where it lies, its class, its dict, its attribute -/
structure Cur where
  a : Addr
  C : Addr
  dx : Addr
  f : Str
  x : Ex
  v : V
/-- a list that nobody changes any more -/
def LsF (K : PySem.W.Frag) (H : Hp) (a : Addr) (vs : List V) : Prop :=
  (∃ o, H a = some (.frz o (.lst vs))) ∨
    ∃ (o : Obj) (its : Array Value) (n : Nat), K.lookup a = some o ∧ o.cls = .type "list" ∧ o.dict = none ∧ o.data = .seq its n ∧ its.size ≤ sizeLine ∧ Vals vs its.toList
theorem LsF.sq {K : PySem.W.Frag} {H : Hp} {a : Addr} {vs : List V} (h : LsF K H a vs) : SqL K H a vs := by
  rcases h with ⟨o, h⟩ | h
  · exact .inl (.inr ⟨o, h⟩)
  · exact .inr h

mutual
def Rel (K : PySem.W.Frag) (R : Rw) (H : Hp) : D → V → Prop
  | .non, v => v = .non
  | .bl b, v => v = .bl b
  | .int i, v => v = .int i
  | .str x, v => v = .str x
  | .tup l, v => ∃ a vs, v = .ref a ∧ SqT K H a vs ∧ RelL K R H l vs
  | .lst l, v => ∃ a vs, v = .ref a ∧ LsF K H a vs ∧ RelL K R H l vs
  | .dic _, _ => False
  | .ref a, v => v = .ref a
  | .exc c d, v => ∃ a C dx f x o u, v = .ref a ∧ R.clA c = some C ∧ R.T.att c = some f ∧ H a = some (.frz o u) ∧ o.cls = .ref C ∧ o.dict = some dx ∧ (∃ vs, o.data = .fields vs) ∧ H dx = some (.xd [(f, x)]) ∧ Rel K R H d x
  | .cur a, v => v = .ref a
def RelL (K : PySem.W.Frag) (R : Rw) (H : Hp) : List D → List V → Prop
  | [], vs => vs = []
  | d :: r, vs => ∃ v s, vs = v :: s ∧ Rel K R H d v ∧ RelL K R H r s
end

/-- what is never taken back -/
structure Keep (H H' : Hp) : Prop where
  tup : ∀ b xs, H b = some (.tup xs) → H' b = some (.tup xs)
  frz : ∀ b o u, H b = some (.frz o u) → H' b = some (.frz o u)
  xd : ∀ b fs, H b = some (.xd fs) → H' b = some (.xd fs)
theorem Keep.refl (H : Hp) : Keep H H := ⟨fun _ _ e => e, fun _ _ _ e => e, fun _ _ e => e⟩
theorem Keep.trans {H H1 H2 : Hp} (a : Keep H H1) (b : Keep H1 H2) : Keep H H2 :=
  ⟨fun c x e => b.tup c x (a.tup c x e), fun c x y e => b.frz c x y (a.frz c x y e), fun c x e => b.xd c x (a.xd c x e)⟩
theorem Keep.new {H : Hp} {p : Addr} (o : HO) (hp : H p = none) : Keep H (upd H p o) :=
  ⟨fun b _ e => by rw [upd_ne (ne_of_none e hp)]; exact e, fun b _ _ e => by rw [upd_ne (ne_of_none e hp)]; exact e, fun b _ e => by rw [upd_ne (ne_of_none e hp)]; exact e⟩
theorem Keep.mut {H : Hp} {p : Addr} (o : HO) (hp : Mut (H p)) : Keep H (upd H p o) := by
  have ne : ∀ b u, H b = some u → ¬ Mut (some u) → b ≠ p := fun b u e n z => by
    subst z
    rw [e] at hp
    exact n hp
  exact ⟨fun b xs e => by rw [upd_ne (ne b _ e fun z => z)]; exact e, fun b o u e => by rw [upd_ne (ne b _ e fun z => z)]; exact e, fun b fs e => by rw [upd_ne (ne b _ e fun z => z)]; exact e⟩

theorem Keep.sqT {K : PySem.W.Frag} {H H' : Hp} {a : Addr} {xs : List V} (k : Keep H H') (h : SqT K H a xs) : SqT K H' a xs := by
  rcases h with ((h | ⟨o, h⟩) | h)
  · exact .inl (.inl (k.tup _ _ h))
  · exact .inl (.inr ⟨o, k.frz _ _ _ h⟩)
  · exact .inr h
theorem Keep.lsF {K : PySem.W.Frag} {H H' : Hp} {a : Addr} {xs : List V} (k : Keep H H') (h : LsF K H a xs) : LsF K H' a xs := by
  rcases h with ⟨o, h⟩ | h
  · exact .inl ⟨o, k.frz _ _ _ h⟩
  · exact .inr h
mutual
theorem Rel.keep {K : PySem.W.Frag} {R : Rw} {H H' : Hp} (k : Keep H H') : ∀ (d : D) (v : V), Rel K R H d v → Rel K R H' d v
  | .non, _, h => by unfold Rel at h ⊢; exact h
  | .bl _, _, h => by unfold Rel at h ⊢; exact h
  | .int _, _, h => by unfold Rel at h ⊢; exact h
  | .str _, _, h => by unfold Rel at h ⊢; exact h
  | .tup l, v, h => by
    unfold Rel at h ⊢
    obtain ⟨a, vs, e, s, r⟩ := h
    exact ⟨a, vs, e, k.sqT s, RelL.keep k l vs r⟩
  | .lst l, v, h => by
    unfold Rel at h ⊢
    obtain ⟨a, vs, e, s, r⟩ := h
    exact ⟨a, vs, e, k.lsF s, RelL.keep k l vs r⟩
  | .dic _, _, h => by unfold Rel at h; exact h.elim
  | .ref _, _, h => by unfold Rel at h ⊢; exact h
  | .exc c d, v, h => by
    unfold Rel at h ⊢
    obtain ⟨a, C, dx, f, x, o, u, e, h1, h2, h3, h4, h5, h6, h7, r⟩ := h
    exact ⟨a, C, dx, f, x, o, u, e, h1, h2, k.frz _ _ _ h3, h4, h5, h6, k.xd _ _ h7, Rel.keep k d x r⟩
  | .cur _, _, h => by unfold Rel at h ⊢; exact h
theorem RelL.keep {K : PySem.W.Frag} {R : Rw} {H H' : Hp} (k : Keep H H') : ∀ (l : List D) (vs : List V), RelL K R H l vs → RelL K R H' l vs
  | [], _, h => by unfold RelL at h ⊢; exact h
  | d :: r, vs, h => by
    unfold RelL at h ⊢
    obtain ⟨v, s, e, h1, h2⟩ := h
    exact ⟨v, s, e, Rel.keep k d v h1, RelL.keep k r s h2⟩
end

section
variable {K : PySem.W.Frag} {R : Rw} {H H' : Hp}
theorem RelL.nil : RelL K R H [] [] := by unfold RelL; rfl
theorem RelL.cons {d : D} {v : V} {l : List D} {vs : List V} (h : Rel K R H d v) (t : RelL K R H l vs) : RelL K R H (d :: l) (v :: vs) := by
  unfold RelL
  exact ⟨v, vs, rfl, h, t⟩
theorem RelL.nil_inv {vs : List V} (h : RelL K R H [] vs) : vs = [] := by unfold RelL at h; exact h
theorem RelL.cons_inv {d : D} {l : List D} {vs : List V} (h : RelL K R H (d :: l) vs) : ∃ v s, vs = v :: s ∧ Rel K R H d v ∧ RelL K R H l s := by unfold RelL at h; exact h
theorem RelL.len : ∀ {l : List D} {vs : List V}, RelL K R H l vs → vs.length = l.length
  | [], vs, h => by rw [h.nil_inv]; rfl
  | d :: r, vs, h => by
    obtain ⟨v, s, e, _, h2⟩ := h.cons_inv
    rw [e, List.length_cons, List.length_cons, h2.len]
theorem RelL.get : ∀ {l : List D} {vs : List V} {i : Nat} {d : D}, RelL K R H l vs → l[i]? = some d → ∃ v, vs[i]? = some v ∧ Rel K R H d v
  | [], _, _, _, _, e => by simp at e
  | d :: r, vs, 0, d', h, e => by
    obtain ⟨v, s, e1, h1, _⟩ := h.cons_inv
    simp at e
    subst e e1
    exact ⟨v, rfl, h1⟩
  | d :: r, vs, i + 1, d', h, e => by
    obtain ⟨v, s, e1, _, h2⟩ := h.cons_inv
    subst e1
    simp at e ⊢
    exact h2.get e
theorem RelL.set : ∀ {l : List D} {vs : List V} {d : D} {v : V} (i : Nat), RelL K R H l vs → Rel K R H d v → RelL K R H (l.set i d) (vs.set i v)
  | [], _, _, _, _, h, _ => by rw [h.nil_inv]; exact .nil
  | _ :: r, vs, d, v, 0, h, q => by
    obtain ⟨_, s, e1, _, h2⟩ := h.cons_inv
    subst e1
    exact .cons q h2
  | _ :: r, vs, d, v, i + 1, h, q => by
    obtain ⟨_, s, e1, h1, h2⟩ := h.cons_inv
    subst e1
    exact .cons h1 (h2.set i q)
theorem RelL.app : ∀ {l l' : List D} {vs vs' : List V}, RelL K R H l vs → RelL K R H l' vs' → RelL K R H (l ++ l') (vs ++ vs')
  | [], _, _, _, h, h' => by rw [h.nil_inv]; exact h'
  | _ :: r, _, vs, _, h, h' => by
    obtain ⟨_, s, e1, h1, h2⟩ := h.cons_inv
    subst e1
    exact .cons h1 (h2.app h')
theorem RelL.atI {l : List D} {vs : List V} {i : Int} {d : D} (h : RelL K R H l vs) (e : atI l i = some d) : ∃ v, L2.atI vs i = some v ∧ Rel K R H d v := by
  unfold L2.atI at e ⊢
  rw [h.len]
  cases q : ixN l.length i with
  | none => rw [q] at e; exact nomatch e
  | some j =>
    rw [q] at e
    exact h.get e
end

/-- the slots -/
def RelS (K : PySem.W.Frag) (R : Rw) (H : Hp) (δ : Dl) (σ : L2.St) : Prop := δ.length = σ.length ∧ ∀ (i : Nat) (d : D), δ[i]? = some (some d) → ∃ v, σ[i]? = some (some v) ∧ Rel K R H d v
def RelF (K : PySem.W.Frag) (R : Rw) (H : Hp) : List (Str × D) → List (Str × V) → Prop := Paired fun p q => p.1 = q.1 ∧ Rel K R H p.2 q.2
/-- an object that may change -/
def RelO (K : PySem.W.Frag) (R : Rw) (H : Hp) (a : Addr) : MO → Prop
  | .lst l => ∃ vs, H a = some (.lst vs) ∧ RelL K R H l vs
  | .ins c fs => ∃ C dx fv, R.clA c = some C ∧ H a = some (.ins C dx fv) ∧ RelF K R H fs fv
structure RelM (K : PySem.W.Frag) (R : Rw) (ce : Option Cur) (H : Hp) (m : Mm) : Prop where
  at_ : ∀ a o, m a = some o → RelO K R H a o
  cur : ∀ c, ce = some c → H c.dx = some (.xd [(c.f, c.v)]) ∧ Rel K R H c.x.2 c.v
/-- an exception in the air -/
def RelX (K : PySem.W.Frag) (R : Rw) (H : Hp) (x : Ex) (cls : Value) (dx : Option Addr) : Prop := ∃ C f v b, R.clA x.1 = some C ∧ cls = .ref C ∧ R.T.att x.1 = some f ∧ dx = some b ∧ H b = some (.xd [(f, v)]) ∧ Rel K R H x.2 v

section
variable {K : PySem.W.Frag} {R : Rw} {ce : Option Cur} {H H' : Hp} {m m' : Mm} {δ : Dl} {σ : L2.St} {a : Addr}
theorem RelS.keep (k : Keep H H') (h : RelS K R H δ σ) : RelS K R H' δ σ := ⟨h.1, fun i d e => let ⟨v, h1, h2⟩ := h.2 i d e; ⟨v, h1, Rel.keep k _ _ h2⟩⟩
theorem RelF.keep (k : Keep H H') {fs : List (Str × D)} {fv : List (Str × V)} (h : RelF K R H fs fv) : RelF K R H' fs fv := Paired.mapP h fun _ _ q => ⟨q.1, Rel.keep k _ _ q.2⟩
theorem RelM.not_none (h : RelM K R ce H m) {o : MO} (e : m a = some o) : H a ≠ none := fun z => by
  have q := h.at_ a o e
  cases o with
  | lst l => obtain ⟨vs, q, _⟩ := q; rw [z] at q; cases q
  | ins c fs => obtain ⟨C, dx, fv, _, q, _⟩ := q; rw [z] at q; cases q
theorem RelM.free (h : RelM K R ce H m) (e : H a = none) : m a = none := by
  cases q : m a with
  | none => rfl
  | some o => exact (h.not_none q e).elim
/-- what may change stands as it was -/
theorem RelM.keep (k : Keep H H') (s : ∀ b o, m b = some o → H' b = H b) (h : RelM K R ce H m) : RelM K R ce H' m := by
  refine ⟨fun b o e => ?_, fun c e => ⟨k.xd _ _ (h.cur c e).1, Rel.keep k _ _ (h.cur c e).2⟩⟩
  have q := h.at_ b o e
  have sb := s b o e
  cases o with
  | lst l =>
    obtain ⟨vs, q, r⟩ := q
    exact ⟨vs, sb.trans q, RelL.keep k _ _ r⟩
  | ins c fs =>
    obtain ⟨C, dx, fv, c1, q, r⟩ := q
    exact ⟨C, dx, fv, c1, sb.trans q, r.keep k⟩
theorem RelM.new (h : RelM K R ce H m) {p : Addr} (o : HO) (hp : H p = none) : RelM K R ce (upd H p o) m :=
  h.keep (Keep.new o hp) fun b u e => upd_ne fun z => h.not_none e (by rw [z]; exact hp)
theorem RelM.sub (h : RelM K R ce H m) (s : m'.Sub m) : RelM K R ce H m' := ⟨fun b o e => h.at_ b o (s b o e), h.cur⟩
theorem RelM.put {p : Addr} {o : HO} {mo : MO} (h : RelM K R ce H m) (k : Keep H (upd H p o)) (q : RelO K R (upd H p o) p mo) : RelM K R ce (upd H p o) (m.put p mo) := by
  refine ⟨fun b u e => ?_, fun c e => ⟨k.xd _ _ (h.cur c e).1, Rel.keep k _ _ (h.cur c e).2⟩⟩
  unfold Mm.put at e
  by_cases hb : b = p
  · subst hb
    rw [if_pos rfl] at e
    cases e
    exact q
  · rw [if_neg hb] at e
    have z := h.at_ b u e
    cases u with
    | lst l =>
      obtain ⟨vs, z, r⟩ := z
      exact ⟨vs, by rw [upd_ne hb]; exact z, RelL.keep k _ _ r⟩
    | ins c fs =>
      obtain ⟨C, dx, fv, c1, z, r⟩ := z
      exact ⟨C, dx, fv, c1, by rw [upd_ne hb]; exact z, r.keep k⟩
theorem RelM.lst (h : RelM K R ce H m) {l : List D} (e : m a = some (.lst l)) : ∃ vs, H a = some (.lst vs) ∧ RelL K R H l vs := h.at_ a _ e
/-- a sequence of the machine is one of the row -/
theorem seq_rel (h : RelM K R ce H m) {d : D} {v : V} {l : List D} (r : Rel K R H d v) (e : seqD m d = some l) : ∃ a vs, v = .ref a ∧ (SqL K H a vs ∨ SqT K H a vs) ∧ RelL K R H l vs := by
  cases d with
  | tup l' =>
    cases e
    unfold Rel at r
    obtain ⟨a, vs, e, s, r⟩ := r
    exact ⟨a, vs, e, .inr s, r⟩
  | lst l' =>
    cases e
    unfold Rel at r
    obtain ⟨a, vs, e, s, r⟩ := r
    exact ⟨a, vs, e, .inl s.sq, r⟩
  | ref a =>
    unfold Rel at r
    cases q : m a with
    | none => simp [seqD, q] at e
    | some o =>
      cases o with
      | lst l' =>
        simp [seqD, q] at e
        subst e
        obtain ⟨vs, h1, h2⟩ := h.lst q
        exact ⟨a, vs, r, .inl (SqL.of h1), h2⟩
      | ins c fs => simp [seqD, q] at e
  | _ => cases e
theorem top_lst (h : RelM K R ce H m) {d : D} {v : V} {l : List D} (r : Rel K R H d v) (e : top m d = .lst l) : ∃ a vs, v = .ref a ∧ SqL K H a vs ∧ RelL K R H l vs := by
  cases d with
  | lst l' =>
    unfold top at e
    cases e
    unfold Rel at r
    obtain ⟨a, vs, e, s, r⟩ := r
    exact ⟨a, vs, e, s.sq, r⟩
  | ref a =>
    unfold Rel at r
    cases q : m a with
    | none => simp [top, q] at e
    | some o =>
      cases o with
      | lst l' =>
        simp [top, q] at e
        subst e
        obtain ⟨vs, h1, h2⟩ := h.lst q
        exact ⟨a, vs, r, SqL.of h1, h2⟩
      | ins c fs => simp [top, q] at e
  | _ => unfold top at e; cases e
end

/-- what is never taken back, and what lies outside the machine's store stays as it is -/
structure Kp (m : Mm) (H : Hp) (m' : Mm) (H' : Hp) : Prop where
  keep : Keep H H'
  fr : ∀ b o, H b = some o → m b = none → H' b = some o ∧ m' b = none
theorem Kp.refl {m : Mm} {H : Hp} : Kp m H m H := ⟨Keep.refl H, fun _ _ h k => ⟨h, k⟩⟩
theorem Kp.trans {m m1 m2 : Mm} {H H1 H2 : Hp} (a : Kp m H m1 H1) (b : Kp m1 H1 m2 H2) : Kp m H m2 H2 := ⟨a.keep.trans b.keep, fun c o h k => let ⟨h1, k1⟩ := a.fr c o h k; b.fr c o h1 k1⟩
theorem Kp.new {m : Mm} {H : Hp} {p : Addr} (o : HO) (hp : H p = none) : Kp m H m (upd H p o) := ⟨Keep.new o hp, fun b u h k => ⟨by rw [upd_ne (ne_of_none h hp)]; exact h, k⟩⟩
theorem Kp.newPut {m : Mm} {H : Hp} {p : Addr} (o : HO) (mo : MO) (hp : H p = none) : Kp m H (m.put p mo) (upd H p o) := ⟨Keep.new o hp, fun b u h k => by
  have ne : b ≠ p := ne_of_none h hp
  exact ⟨by rw [upd_ne ne]; exact h, by unfold Mm.put; rw [if_neg ne]; exact k⟩⟩
theorem Kp.mut {m : Mm} {H : Hp} {p : Addr} {x : MO} (o : HO) (mo : MO) (hm : m p = some x) (mu : Mut (H p)) : Kp m H (m.put p mo) (upd H p o) := ⟨Keep.mut o mu, fun b u h k => by
  have ne : b ≠ p := fun z => by rw [z, hm] at k; cases k
  exact ⟨by rw [upd_ne ne]; exact h, by unfold Mm.put; rw [if_neg ne]; exact k⟩⟩
theorem Kp.del {m : Mm} {H : Hp} {p : Addr} {x : MO} (o : HO) (hm : m p = some x) (mu : Mut (H p)) : Kp m H (m.del p) (upd H p o) := ⟨Keep.mut o mu, fun b u h k => by
  have ne : b ≠ p := fun z => by rw [z, hm] at k; cases k
  exact ⟨by rw [upd_ne ne]; exact h, by unfold Mm.del; rw [if_neg ne]; exact k⟩⟩
theorem Kp.sub {m m1 m2 : Mm} {H H1 : Hp} (a : Kp m H m1 H1) (s : m2.Sub m1) : Kp m H m2 H1 := ⟨a.keep, fun b o h k => by
  obtain ⟨h1, k1⟩ := a.fr b o h k
  refine ⟨h1, ?_⟩
  cases q : m2 b with
  | none => rfl
  | some u => rw [s b u q] at k1; cases k1⟩

/-! ### readings -/
def LE (K : PySem.W.Frag) (R : Rw) (ce : Option Cur) (W : WX) (w : Kx → Dl → Mm → Kd → Prop) : TE := fun σ H Q => ∃ δ m X QD, RelS K R H δ σ ∧ RelM K R ce H m ∧ w X δ m QD ∧
  (∀ d m' v H', Kp m H m' H' → Rel K R H' d v → RelM K R ce H' m' → QD d m' → Q v H') ∧ ∀ x m' H' cls dx, Kp m H m' H' → RelM K R ce H' m' → RelX K R H' x cls dx → X x m' → W cls dx σ H'
def LT (K : PySem.W.Frag) (R : Rw) (ce : Option Cur) (W : WX) (w : Kx → Dl → Mm → (Bool → Mm → Prop) → Prop) : TT := fun σ H Q => ∃ δ m X QD, RelS K R H δ σ ∧ RelM K R ce H m ∧ w X δ m QD ∧
  (∀ b m' H', Kp m H m' H' → RelM K R ce H' m' → QD b m' → Q b H') ∧ ∀ x m' H' cls dx, Kp m H m' H' → RelM K R ce H' m' → RelX K R H' x cls dx → X x m' → W cls dx σ H'
def LA (K : PySem.W.Frag) (R : Rw) (ce : Option Cur) (W : WX) (w : Kx → Dl → Mm → (List D → Mm → Prop) → Prop) : TA := fun σ H Q => ∃ δ m X QD, RelS K R H δ σ ∧ RelM K R ce H m ∧ w X δ m QD ∧
  (∀ l m' vs H', Kp m H m' H' → RelL K R H' l vs → RelM K R ce H' m' → QD l m' → Q vs H') ∧ ∀ x m' H' cls dx, Kp m H m' H' → RelM K R ce H' m' → RelX K R H' x cls dx → X x m' → W cls dx σ H'
/-- a def's promise by the machine -/
def spOf (K : PySem.W.Frag) (R : Rw) (w : List D → Mm → Kd → Kx → Prop) (np : Nat) : Sp := fun vs H Q E => ∃ l m QD X, RelL K R H l vs ∧ RelM K R none H m ∧ w l m QD X ∧ l.length = np ∧
  (∀ d m' v H', Kp m H m' H' → Rel K R H' d v → RelM K R none H' m' → QD d m' → Q v H') ∧ ∀ x m' H' cls dx, Kp m H m' H' → RelM K R none H' m' → RelX K R H' x cls dx → X x m' → E cls dx H'
end Ab
/-! The operations: what the machine says of them holds of the row. -/
namespace Ab
open PySem PyProof.Rows L2 PySem.Spec

/-! ### data that == compares -/
mutual
def D.py : D → PyData
  | .int i => .int i
  | .str x => .str x
  | .bl b => .bool b
  | .tup l => .tuple (D.pys l)
  | .lst l => .list (D.pys l)
  | _ => .none
def D.pys : List D → List PyData
  | [] => []
  | d :: r => d.py :: D.pys r
end
mutual
theorem py_dep : ∀ d : D, d.plain = true → d.py.depth = d.dep
  | .non, _ => by simp [D.py, PyData.depth, D.dep]
  | .int _, _ => by simp [D.py, PyData.depth, D.dep]
  | .str _, _ => by simp [D.py, PyData.depth, D.dep]
  | .tup l, h => by
    have q := pys_dep l (by simpa [D.plain] using h)
    simp [D.py, PyData.depth, D.dep, q]
  | .lst l, h => by
    have q := pys_dep l (by simpa [D.plain] using h)
    simp [D.py, PyData.depth, D.dep, q]
  | .bl _, h => by simp [D.plain] at h
  | .dic _, h => by simp [D.plain] at h
  | .ref _, h => by simp [D.plain] at h
  | .exc _ _, h => by simp [D.plain] at h
  | .cur _, h => by simp [D.plain] at h
theorem pys_dep : ∀ l : List D, D.plains l = true → PyData.depthAll (D.pys l) = D.dep.depL l
  | [], _ => by simp [D.pys, PyData.depthAll, D.dep.depL]
  | d :: r, h => by
    have h' : d.plain = true ∧ D.plains r = true := by simpa [D.plains] using h
    simp [D.pys, PyData.depthAll, D.dep.depL, py_dep d h'.1, pys_dep r h'.2]
end
mutual
theorem py_lay : ∀ d : D, d.plain = true → d.py.canLay0 = true
  | .non, _ => by simp [D.py, PyData.canLay0]
  | .int _, _ => by simp [D.py, PyData.canLay0]
  | .str _, h => by simpa [D.py, PyData.canLay0, D.plain] using h
  | .tup l, h => by
    have q := pys_lay l (by simpa [D.plain] using h)
    simp [D.py, PyData.canLay0, q]
  | .lst l, h => by
    have q := pys_lay l (by simpa [D.plain] using h)
    simp [D.py, PyData.canLay0, q]
  | .bl _, h => by simp [D.plain] at h
  | .dic _, h => by simp [D.plain] at h
  | .ref _, h => by simp [D.plain] at h
  | .exc _ _, h => by simp [D.plain] at h
  | .cur _, h => by simp [D.plain] at h
theorem pys_lay : ∀ l : List D, D.plains l = true → PyData.canLayAll0 (D.pys l) = true
  | [], _ => by simp [D.pys, PyData.canLayAll0]
  | d :: r, h => by
    have h' : d.plain = true ∧ D.plains r = true := by simpa [D.plains] using h
    simp [D.pys, PyData.canLayAll0, py_lay d h'.1, pys_lay r h'.2]
end
mutual
theorem py_eqv : ∀ a b : D, a.plain = true → b.plain = true → PyData.eqv a.py b.py = D.beq a b
  | .non, b, _, h => by cases b <;> simp_all [D.py, D.plain, PyData.eqv, D.beq]
  | .int _, b, _, h => by cases b <;> simp_all [D.py, D.plain, PyData.eqv, D.beq]
  | .str _, b, _, h => by cases b <;> simp_all [D.py, D.plain, PyData.eqv, D.beq]
  | .tup l, b, ha, h => by
    cases b <;> first
      | (simp_all [D.py, D.plain, PyData.eqv, D.beq]; done)
      | (rename_i l2
         have q := pys_eqv l l2 (by simpa [D.plain] using ha) (by simpa [D.plain] using h)
         simp [D.py, PyData.eqv, D.beq, q])
  | .lst l, b, ha, h => by
    cases b <;> first
      | (simp_all [D.py, D.plain, PyData.eqv, D.beq]; done)
      | (rename_i l2
         have q := pys_eqv l l2 (by simpa [D.plain] using ha) (by simpa [D.plain] using h)
         simp [D.py, PyData.eqv, D.beq, q])
  | .bl _, _, h, _ => by simp [D.plain] at h
  | .dic _, _, h, _ => by simp [D.plain] at h
  | .ref _, _, h, _ => by simp [D.plain] at h
  | .exc _ _, _, h, _ => by simp [D.plain] at h
  | .cur _, _, h, _ => by simp [D.plain] at h
theorem pys_eqv : ∀ a b : List D, D.plains a = true → D.plains b = true → PyData.eqvAll (D.pys a) (D.pys b) = D.beqs a b
  | [], b, _, _ => by cases b <;> simp [D.pys, PyData.eqvAll, D.beqs]
  | x :: r, b, ha, hb => by
    cases b with
    | nil => simp [D.pys, PyData.eqvAll, D.beqs]
    | cons y s =>
      have h1 : x.plain = true ∧ D.plains r = true := by simpa [D.plains] using ha
      have h2 : y.plain = true ∧ D.plains s = true := by simpa [D.plains] using hb
      simp [D.pys, PyData.eqvAll, D.beqs, py_eqv x y h1.1 h2.1, pys_eqv r s h1.2 h2.2]
end
theorem py_shaped {d : D} (h : d.plain = true) (h2 : d.dep ≤ 64) : SeqAt.shaped d.py = true := by
  unfold SeqAt.shaped
  rw [py_lay d h, py_dep d h]
  simp [h2]
theorem pys_any {x : D} (hx : x.plain = true) : ∀ l : List D, D.plains l = true → ((D.pys l).any fun z => PyData.eqv z x.py) = inL x l
  | [], _ => rfl
  | d :: r, h => by
    have h' : d.plain = true ∧ D.plains r = true := by simpa [D.plains] using h
    have q := pys_any hx r h'.2
    unfold inL at q ⊢
    simp only [D.pys, List.any_cons, py_eqv d x h'.1 hx, q]

section
variable {K : PySem.W.Frag} {R : Rw} {ce : Option Cur} {H : Hp}
mutual
theorem rel_dp : ∀ (d : D) (v : V), d.plain = true → Rel K R H d v → Dp K H v d.py
  | .non, v, _, r => by unfold Rel at r; subst r; exact .non
  | .int i, v, _, r => by unfold Rel at r; subst r; exact .int i
  | .str i, v, _, r => by unfold Rel at r; subst r; exact .str i
  | .tup l, v, h, r => by
    unfold Rel at r
    obtain ⟨a, vs, e, s, r⟩ := r
    subst e
    exact .tup s (rel_dps l vs (by simpa [D.plain] using h) r)
  | .lst l, v, h, r => by
    unfold Rel at r
    obtain ⟨a, vs, e, s, r⟩ := r
    subst e
    exact .lst s.sq (rel_dps l vs (by simpa [D.plain] using h) r)
  | .bl _, _, h, _ => by simp [D.plain] at h
  | .dic _, _, h, _ => by simp [D.plain] at h
  | .ref _, _, h, _ => by simp [D.plain] at h
  | .exc _ _, _, h, _ => by simp [D.plain] at h
  | .cur _, _, h, _ => by simp [D.plain] at h
theorem rel_dps : ∀ (l : List D) (vs : List V), D.plains l = true → RelL K R H l vs → DpAll K H vs (D.pys l)
  | [], vs, _, r => by rw [r.nil_inv]; exact .nil
  | d :: l, vs, h, r => by
    have h' : d.plain = true ∧ D.plains l = true := by simpa [D.plains] using h
    obtain ⟨v, s, e, h1, h2⟩ := r.cons_inv
    subst e
    exact .cons (rel_dp d v h'.1 h1) (rel_dps l s h'.2 h2)
end
theorem top_dp {m : Mm} (rm : RelM K R ce H m) {d : D} {v : V} (h : (top m d).plain = true) (r : Rel K R H d v) : Dp K H v (top m d).py := by
  cases d with
  | ref a =>
    cases q : m a with
    | none => simp [top, q, D.plain] at h
    | some o =>
      cases o with
      | ins c fs => simp [top, q, D.plain] at h
      | lst l =>
        have e : top m (.ref a) = .lst l := by simp [top, q]
        rw [e] at h ⊢
        obtain ⟨vs, h1, h2⟩ := rm.lst q
        unfold Rel at r
        subst r
        exact .lst (SqL.of h1) (rel_dps l vs (by simpa [D.plain] using h) h2)
  | _ => exact rel_dp _ v h r
theorem scal_top {m : Mm} {a b : D} {x y : V} (h : scalD (top m a) (top m b) = true) (ra : Rel K R H a x) (rb : Rel K R H b y) : scal x y = true ∧ decide (x = y) = D.beq (top m a) (top m b) := by
  have e1 : top m a = a := by
    cases a with
    | ref p =>
      cases q : m p with
      | none => simp [top, q]
      | some o => cases o <;> simp [top, q, scalD] at h ⊢
    | _ => rfl
  have e2 : top m b = b := by
    cases b with
    | ref p =>
      cases q : m p with
      | none => simp [top, q]
      | some o => cases o <;> (cases a <;> simp [top, q, scalD, e1] at h ⊢)
    | _ => rfl
  rw [e1, e2] at h ⊢
  cases a <;> cases b <;> first
    | (simp [scalD] at h; done)
    | (unfold Rel at ra rb; subst ra rb; refine ⟨rfl, ?_⟩; first | exact dec_int | exact dec_bl | exact dec_str | simp [D.beq])
end

section
variable {X : Cx} {R : Rw} {ce : Option Cur} {pins : List (Addr × Obj)} {σ : L2.St} {H : Hp} {s : Shared} {m : Mm} {dx dy : D} {x y : V} {v u : Value} {Q : VK}
/-- the end of an operation that makes a value -/
def FinD (X : Cx) (R : Rw) (ce : Option Cur) (H : Hp) (m : Mm) (k : D → Prop) (Q : VK) : Prop := ∀ d z H', Kp m H m H' → Rel X.K R H' d z → RelM X.K R ce H' m → k d → Q z H'
/-- .. of a truth value -/
theorem FinD.bl {k : Bool → Prop} (rm : RelM X.K R ce H m) (f : ∀ b, k b → Q (.bl b) H) : FinD X R ce H m (fun d => ∃ b, d = .bl b ∧ k b) Q → True := fun _ => trivial

theorem eq_ok (I : Inv X pins σ H s) (hu : X.A.units + 200 < cLine) (rm : RelM X.K R ce H m) (rx : Rel X.K R H dx x) (ry : Rel X.K R H dy y) (rv : RelV x v) (ru : RelV y u) (ok : eqOk (top m dx) (top m dy) = true)
    (q : Q (.bl (D.beq (top m dx) (top m dy))) H) : wpAny (model X.prog X.w) X.A (compareOp .Eq v u) (EP X pins σ Q) X.xe s := by
  unfold eqOk at ok
  rcases Bool.or_eq_true_iff.mp ok with ok | ok
  · obtain ⟨h1, h2⟩ := scal_top ok rx ry
    exact op_eq pins s σ H x y v u Q I rv ru ⟨h1, by rw [h2]; exact q⟩
  · simp only [decide_eq_true_eq, Bool.and_eq_true] at ok
    obtain ⟨⟨⟨h1, h2⟩, h3⟩, h4⟩ := ok
    exact op_eqD (by omega) pins s σ H x y v u Q I rv ru ⟨_, _, top_dp rm h1 rx, top_dp rm h2 ry, py_shaped h1 h3, py_shaped h2 h4, by rw [py_eqv _ _ h1 h2]; exact q⟩
theorem ne_ok (I : Inv X pins σ H s) (hu : X.A.units + 200 < cLine) (rm : RelM X.K R ce H m) (rx : Rel X.K R H dx x) (ry : Rel X.K R H dy y) (rv : RelV x v) (ru : RelV y u) (ok : eqOk (top m dx) (top m dy) = true)
    (q : Q (.bl (!D.beq (top m dx) (top m dy))) H) : wpAny (model X.prog X.w) X.A (compareOp .NotEq v u) (EP X pins σ Q) X.xe s := by
  unfold eqOk at ok
  rcases Bool.or_eq_true_iff.mp ok with ok | ok
  · obtain ⟨h1, h2⟩ := scal_top ok rx ry
    exact op_ne pins s σ H x y v u Q I rv ru ⟨h1, by rw [h2]; exact q⟩
  · simp only [decide_eq_true_eq, Bool.and_eq_true] at ok
    obtain ⟨⟨⟨h1, h2⟩, h3⟩, h4⟩ := ok
    exact op_neD (by omega) pins s σ H x y v u Q I rv ru ⟨_, _, top_dp rm h1 rx, top_dp rm h2 ry, py_shaped h1 h3, py_shaped h2 h4, by rw [py_eqv _ _ h1 h2]; exact q⟩
theorem bls_rel : ∀ {l : List D} {vs : List V}, l.all D.isBl = true → RelL X.K R H l vs → vs.all flatV = true ∧ ∀ (b : Bool), inV (.bl b) vs = inL (.bl b) l
  | [], vs, _, r => by rw [r.nil_inv]; exact ⟨rfl, fun _ => rfl⟩
  | d :: l, vs, h, r => by
    obtain ⟨v, s, e, h1, h2⟩ := r.cons_inv
    subst e
    have h' : d.isBl = true ∧ l.all D.isBl = true := by simpa using h
    obtain ⟨q1, q2⟩ := bls_rel h'.2 h2
    cases d with
    | bl c =>
      unfold Rel at h1
      subst h1
      refine ⟨by simp [flatV, q1], fun b => ?_⟩
      have q := q2 b
      unfold inV inL at q ⊢
      rw [List.any_cons, List.any_cons, q]
      rfl
    | _ => simp [D.isBl] at h'
theorem in_ok (I : Inv X pins σ H s) (hu : X.A.units + 200 < cLine) (rm : RelM X.K R ce H m) (rx : Rel X.K R H dx x) (ry : Rel X.K R H dy y) (rv : RelV x v) (ru : RelV y u) {k : Bool → Prop} (h : inW dx dy m k)
    (q : ∀ b, k b → Q (.bl b) H) : wpAny (model X.prog X.w) X.A (compareOp .In v u) (EP X pins σ Q) X.xe s := by
  have seq : ∀ (dx dy : D), Rel X.K R H dx x → Rel X.K R H dy y → (∃ l, seqD m dy = some l ∧ ((dx.plain = true ∧ D.plains l = true ∧ dx.dep ≤ 64 ∧ (D.lst l).dep ≤ 64) ∨ (dx.isBl = true ∧ l.all D.isBl = true)) ∧ k (inL dx l)) →
      wpAny (model X.prog X.w) X.A (compareOp .In v u) (EP X pins σ Q) X.xe s := fun dx dy rx ry ⟨l, e, c, kb⟩ => by
    obtain ⟨a, vs, rfl, sq, rl⟩ := seq_rel rm ry e
    rcases c with ⟨p1, p2, d1, d2⟩ | ⟨b1, b2⟩
    · have dpx := rel_dp dx x p1 rx
      have dpl := rel_dps l vs p2 rl
      have pl : (D.lst l).plain = true := by simpa [D.plain] using p2
      have sl : SeqAt.shaped (PyData.list (D.pys l)) = true := by
        have z := py_shaped pl d2
        simpa [D.py] using z
      rcases sq with sq | sq
      · exact op_inD (by omega) pins s σ H x _ v u Q I rv ru ⟨_, _, dpx, .lst sq dpl, py_shaped p1 d1, sl, by rw [pys_any p1 l p2]; exact q _ kb⟩
      · cases ru
        obtain ⟨as, ra⟩ := Dp.reads I _ _ _ (Dp.tup sq dpl) (show RelV (.ref a) (.ref a) from rfl)
        obtain ⟨bs, rb⟩ := Dp.reads I _ _ _ dpx rv
        refine PySem.SeqAt.in_tuple_reads ra rb ?_ (py_lay dx p1) ?_ ?_
        · have z := pys_lay l p2
          simpa [PyData.canLay0] using z
        · have z := py_dep dx p1
          have z2 : min (PyData.depthAll (D.pys l)) dx.py.depth ≤ dx.py.depth := Nat.min_le_right _ _
          omega
        · rw [pys_any p1 l p2]
          exact ⟨.bl _, H, I, rfl, q _ kb⟩
    · cases dx with
      | bl b =>
        unfold Rel at rx
        subst rx
        obtain ⟨f1, f2⟩ := bls_rel b2 rl
        exact op_in_seq pins s σ H _ _ v u Q I rv ru ⟨a, vs, rfl, sq, rfl, f1, by rw [if_neg Bool.false_ne_true, f2 b]; exact q _ kb⟩
      | _ => simp [D.isBl] at b1
  cases dx with
  | str z1 =>
    cases dy with
    | str z2 =>
      unfold Rel at rx ry
      subst rx ry
      exact op_in_str pins s σ H _ _ v u Q I rv ru ⟨z1, z2, rfl, rfl, q _ h⟩
    | _ => exact seq _ _ rx ry h
  | _ => exact seq _ _ rx ry h
theorem notin_ok (I : Inv X pins σ H s) (hu : X.A.units + 200 < cLine) (rm : RelM X.K R ce H m) (rx : Rel X.K R H dx x) (ry : Rel X.K R H dy y) (rv : RelV x v) (ru : RelV y u) {k : Bool → Prop} (h : inW dx dy m fun b => k (!b))
    (q : ∀ b, k b → Q (.bl b) H) : wpAny (model X.prog X.w) X.A (compareOp .NotIn v u) (EP X pins σ Q) X.xe s := by
  have seq : ∀ (dx dy : D), Rel X.K R H dx x → Rel X.K R H dy y → (∃ l, seqD m dy = some l ∧ ((dx.plain = true ∧ D.plains l = true ∧ dx.dep ≤ 64 ∧ (D.lst l).dep ≤ 64) ∨ (dx.isBl = true ∧ l.all D.isBl = true)) ∧ k (!inL dx l)) →
      wpAny (model X.prog X.w) X.A (compareOp .NotIn v u) (EP X pins σ Q) X.xe s := fun dx dy rx ry ⟨l, e, c, kb⟩ => by
    obtain ⟨a, vs, rfl, sq, rl⟩ := seq_rel rm ry e
    rcases c with ⟨p1, p2, d1, d2⟩ | ⟨b1, b2⟩
    · have dpx := rel_dp dx x p1 rx
      have dpl := rel_dps l vs p2 rl
      have pl : (D.lst l).plain = true := by simpa [D.plain] using p2
      have sl : SeqAt.shaped (PyData.list (D.pys l)) = true := by
        have z := py_shaped pl d2
        simpa [D.py] using z
      rcases sq with sq | sq
      · exact op_notInD (by omega) pins s σ H x _ v u Q I rv ru ⟨_, _, dpx, .lst sq dpl, py_shaped p1 d1, sl, by rw [pys_any p1 l p2]; exact q _ kb⟩
      · cases ru
        obtain ⟨as, ra⟩ := Dp.reads I _ _ _ (Dp.tup sq dpl) (show RelV (.ref a) (.ref a) from rfl)
        obtain ⟨bs, rb⟩ := Dp.reads I _ _ _ dpx rv
        refine PySem.SeqAt.notIn_tuple_reads ra rb ?_ (py_lay dx p1) ?_ ?_
        · have z := pys_lay l p2
          simpa [PyData.canLay0] using z
        · have z := py_dep dx p1
          have z2 : min (PyData.depthAll (D.pys l)) dx.py.depth ≤ dx.py.depth := Nat.min_le_right _ _
          omega
        · rw [pys_any p1 l p2]
          exact ⟨.bl _, H, I, rfl, q _ kb⟩
    · cases dx with
      | bl b =>
        unfold Rel at rx
        subst rx
        obtain ⟨f1, f2⟩ := bls_rel b2 rl
        exact op_notIn_seq pins s σ H _ _ v u Q I rv ru ⟨a, vs, rfl, sq, rfl, f1, by rw [if_pos rfl, f2 b]; exact q _ kb⟩
      | _ => simp [D.isBl] at b1
  cases dx with
  | str z1 =>
    cases dy with
    | str z2 =>
      unfold Rel at rx ry
      subst rx ry
      exact op_notIn_str pins s σ H _ _ v u Q I rv ru ⟨z1, z2, rfl, rfl, q _ h⟩
    | _ => exact seq _ _ rx ry h
  | _ => exact seq _ _ rx ry h
def Cop.op : Cop → CmpOp
  | .eq => .Eq | .ne => .NotEq | .lt => .Lt | .le => .LtE | .gt => .Gt | .ge => .GtE | .isin => .In | .notin => .NotIn
theorem cmp_ok {o : Cop} (I : Inv X pins σ H s) (hu : X.A.units + 200 < cLine) (rm : RelM X.K R ce H m) (rx : Rel X.K R H dx x) (ry : Rel X.K R H dy y) (rv : RelV x v) (ru : RelV y u) {k : Bool → Prop} (h : cmpW o dx dy m k)
    (q : ∀ b, k b → Q (.bl b) H) : wpAny (model X.prog X.w) X.A (compareOp o.op v u) (EP X pins σ Q) X.xe s := by
  cases o with
  | eq => exact eq_ok I hu rm rx ry rv ru h.1 (q _ h.2)
  | ne => exact ne_ok I hu rm rx ry rv ru h.1 (q _ h.2)
  | isin => exact in_ok I hu rm rx ry rv ru h q
  | notin => exact notin_ok I hu rm rx ry rv ru h q
  | lt =>
    cases dx <;> cases dy <;> first
      | exact h.elim
      | (unfold Rel at rx ry; subst rx ry; exact op_lt pins s σ H _ _ v u Q I rv ru ⟨_, _, rfl, rfl, q _ h⟩)
      | (unfold Rel at rx ry; subst rx ry; exact op_lt_str pins s σ H _ _ v u Q I rv ru ⟨_, _, rfl, rfl, q _ h⟩)
  | gt =>
    cases dx <;> cases dy <;> first
      | exact h.elim
      | (unfold Rel at rx ry; subst rx ry; exact op_gt pins s σ H _ _ v u Q I rv ru ⟨_, _, rfl, rfl, q _ h⟩)
      | (unfold Rel at rx ry; subst rx ry; exact op_gt_str pins s σ H _ _ v u Q I rv ru ⟨_, _, rfl, rfl, q _ h⟩)
  | le =>
    cases dx <;> cases dy <;> first
      | exact h.elim
      | (unfold Rel at rx ry; subst rx ry; exact op_le pins s σ H _ _ v u Q I rv ru ⟨_, _, rfl, rfl, q _ h⟩)
  | ge =>
    cases dx <;> cases dy <;> first
      | exact h.elim
      | (unfold Rel at rx ry; subst rx ry; exact op_ge pins s σ H _ _ v u Q I rv ru ⟨_, _, rfl, rfl, q _ h⟩)

/-! ### arithmetic, +, * -/
def Bop.op : Bop → Operator
  | .add => .Add | .sub => .Sub | .mul => .Mult | .fdiv => .FloorDiv | .mod => .Mod | .pow => .Pow | .band => .BitAnd
theorem rel_tup {K : PySem.W.Frag} {l : List D} {v : V} (r : Rel K R H (.tup l) v) : ∃ a vs, v = .ref a ∧ SqT K H a vs ∧ RelL K R H l vs := by unfold Rel at r; exact r
theorem rel_int {K : PySem.W.Frag} {i : Int} {v : V} (r : Rel K R H (.int i) v) : v = .int i := by unfold Rel at r; exact r
theorem rel_str {K : PySem.W.Frag} {i : Str} {v : V} (r : Rel K R H (.str i) v) : v = .str i := by unfold Rel at r; exact r
theorem Rel.int {K : PySem.W.Frag} (i : Int) : Rel K R H (.int i) (.int i) := by unfold Rel; rfl
theorem Rel.str {K : PySem.W.Frag} (i : Str) : Rel K R H (.str i) (.str i) := by unfold Rel; rfl
theorem Rel.bl {K : PySem.W.Frag} (i : Bool) : Rel K R H (.bl i) (.bl i) := by unfold Rel; rfl
theorem Rel.non {K : PySem.W.Frag} : Rel K R H .non .non := by unfold Rel; rfl
theorem Rel.tup {K : PySem.W.Frag} {l : List D} {a : Addr} {vs : List V} (h : SqT K H a vs) (r : RelL K R H l vs) : Rel K R H (.tup l) (.ref a) := by unfold Rel; exact ⟨a, vs, rfl, h, r⟩
theorem Rel.lst {K : PySem.W.Frag} {l : List D} {a : Addr} {vs : List V} (h : LsF K H a vs) (r : RelL K R H l vs) : Rel K R H (.lst l) (.ref a) := by unfold Rel; exact ⟨a, vs, rfl, h, r⟩
/-- a list that is new, taken as never to change -/
theorem new_lst {its : List Value} {l : List D} {vs : List V} {h' : Heap} {t' : Nat} {k : D → Prop} (I : Inv X pins σ H s) (rm : RelM X.K R ce H m) (p : Addr) (hp : s.heap.objs.size ≤ p) (kp : ∀ b o, s.heap.get? b = some o → h'.get? b = some o)
    (ho : ∃ n, h'.get? p = some { cls := .type "list", data := .seq its.toArray n }) (rv : Vals vs its) (hz : vs.length ≤ sizeLine) (rl : RelL X.K R H l vs) (fin : FinD X R ce H m k Q) (hk : k (.lst l)) :
    EP X pins σ Q (.ref p) { s with heap := h', toks := t' } := by
  obtain ⟨n, ho⟩ := ho
  have hn := I.hok.fresh hp
  have I1 : Inv X pins σ (upd H p (.lst vs)) { s with heap := h', toks := t' } := I.laid kp hp ⟨hz, its, n, rv, ho⟩
  obtain ⟨od, I2⟩ := I1.lock upd_same trivial
  rw [upd_upd] at I2
  have kk := Kp.new (m := m) (.frz od (.lst vs)) hn
  exact ⟨.ref p, _, I2, rfl, fin (.lst l) (.ref p) _ kk (.lst (.inl ⟨od, upd_same⟩) (RelL.keep kk.keep _ _ rl)) (rm.new _ hn) hk⟩
theorem cat_ok (I : Inv X pins σ H s) (rm : RelM X.K R ce H m) {i j : List D} {a b : Addr} {vs ws : List V} (ha : SqL X.K H a vs) (hb : SqL X.K H b ws) (ri : RelL X.K R H i vs) (rj : RelL X.K R H j ws) (hz : i.length + j.length ≤ sizeLine) {k : D → Prop}
    (hk : k (.lst (i ++ j))) (fin : FinD X R ce H m k Q) : wpAny (model X.prog X.w) X.A (binaryOp .Add (.ref a) (.ref b)) (EP X pins σ Q) X.xe s := by
  obtain ⟨its, r1, p1, z1⟩ := I.list ha
  obtain ⟨its2, r2, p2, z2⟩ := I.list hb
  have hl := p1.isList
  have hl2 := p2.isList
  obtain ⟨⟨c1, dd1, dt1, sl1⟩, o1, q1, n1, e1⟩ := id hl
  obtain ⟨⟨c2, dd2, dt2, sl2⟩, o2, q2, n2, e2⟩ := id hl2
  dsimp only at q1 e1 q2 e2
  subst q1 e1 q2 e2
  have l1 := r1.length
  have l2 := r2.length
  have l3 := ri.len
  have l4 := rj.len
  refine concat_meets ⟨_, o1, rfl⟩ ⟨_, o2, rfl⟩ noFill_list_add seq_list_add PySem.F.slot_list_add PySem.F.entry_list_add (PySem.F.args_list_add_2 _ _)
    (list_addW a b its.toArray its2.toArray n1 n2 dd1 dd2 sl1 sl2 (by rw [List.size_toArray, List.size_toArray]; omega)) ⟨o1, o2, ?_⟩
  have ea : its.toArray ++ its2.toArray = (its ++ its2).toArray := (by simp)
  rw [ea]
  exact new_lst I rm s.heap.objs.size (Nat.le_refl _) (fun b o e => Heap.get?_push_of_some _ e) ⟨_, Heap.get?_push_size _ rfl⟩ (r1.append r2) (by rw [List.length_append]; omega) (ri.app rj) fin hk
theorem bop_ok {o : Bop} (I : Inv X pins σ H s) (rm : RelM X.K R ce H m) (rx : Rel X.K R H dx x) (ry : Rel X.K R H dy y) (rv : RelV x v) (ru : RelV y u) {k : D → Prop} (h : bopW o dx dy m k)
    (fin : FinD X R ce H m k Q) : wpAny (model X.prog X.w) X.A (binaryOp o.op v u) (EP X pins σ Q) X.xe s := by
  have fi : ∀ i : Int, k (.int i) → Q (.int i) H := fun i q => fin (.int i) (.int i) H Kp.refl (Rel.int i) rm q
  have gen : ∀ dx dy : D, Rel X.K R H dx x → Rel X.K R H dy y → (∃ i j, top m dx = .lst i ∧ top m dy = .lst j ∧ i.length + j.length ≤ sizeLine ∧ k (.lst (i ++ j))) →
      wpAny (model X.prog X.w) X.A (binaryOp .Add v u) (EP X pins σ Q) X.xe s := fun dx dy rx ry ⟨i, j, e1, e2, hz, hk⟩ => by
    obtain ⟨a, vs, rfl, s1, r1⟩ := top_lst rm rx e1
    obtain ⟨b, ws, rfl, s2, r2⟩ := top_lst rm ry e2
    cases rv
    cases ru
    exact cat_ok I rm s1 s2 r1 r2 hz hk fin
  cases o with
  | add =>
    cases dx with
    | int i =>
      cases dy with
      | int j =>
        rw [rel_int rx] at rv
        rw [rel_int ry] at ru
        exact op_add pins s σ H _ _ v u Q I rv ru ⟨i, j, rfl, rfl, fi _ h⟩
      | _ => exact gen _ _ rx ry h
    | str i =>
      cases dy with
      | str j =>
        rw [rel_str rx] at rv
        rw [rel_str ry] at ru
        exact op_add_str pins s σ H _ _ v u Q I rv ru ⟨i, j, rfl, rfl, h.1, fin (.str (i ++ j)) (.str (i ++ j)) H Kp.refl (Rel.str _) rm h.2⟩
      | _ => exact gen _ _ rx ry h
    | tup i =>
      cases dy with
      | tup j =>
        obtain ⟨a, vs, rfl, s1, r1⟩ := rel_tup rx
        obtain ⟨b, ws, rfl, s2, r2⟩ := rel_tup ry
        obtain ⟨hz, hk⟩ := h
        have l1 := r1.len
        have l2 := r2.len
        refine op_catA pins s σ H _ _ v u Q I rv ru ⟨a, b, vs, ws, rfl, rfl, s1, s2, by omega, fun e => ?_, fun e1 e2 => ?_, fun e1 e2 p hp => ?_⟩
        · subst e
          have ei : i = [] := List.eq_nil_of_length_eq_zero l1.symm
          subst ei
          exact fin (.tup j) _ H Kp.refl (.tup s2 r2) rm hk
        · subst e2
          have ej : j = [] := List.eq_nil_of_length_eq_zero l2.symm
          subst ej
          rw [List.append_nil] at hk
          exact fin (.tup i) _ H Kp.refl (.tup s1 r1) rm hk
        · have kk := Kp.new (m := m) (.tup (vs ++ ws)) hp
          exact fin (.tup (i ++ j)) _ _ kk (.tup (SqT.of upd_same) (RelL.keep kk.keep _ _ (r1.app r2))) (rm.new _ hp) hk
      | _ => exact gen _ _ rx ry h
    | _ => exact gen _ _ rx ry h
  | sub =>
    cases dx <;> cases dy <;> first
      | exact h.elim
      | (rw [rel_int rx] at rv; rw [rel_int ry] at ru; exact op_sub pins s σ H _ _ v u Q I rv ru ⟨_, _, rfl, rfl, fi _ h⟩)
  | mul =>
    cases dx <;> cases dy <;> first
      | exact h.elim
      | (rw [rel_int rx] at rv; rw [rel_int ry] at ru; exact op_mulW pins s σ H _ _ v u Q I rv ru ⟨_, _, rfl, rfl, h.1, fi _ h.2⟩)
  | fdiv =>
    cases dx <;> cases dy <;> first
      | exact h.elim
      | (rw [rel_int rx] at rv; rw [rel_int ry] at ru; exact op_fdivW pins s σ H _ _ v u Q I rv ru ⟨_, _, rfl, rfl, h.1, fi _ h.2⟩)
  | mod =>
    cases dx <;> cases dy <;> first
      | exact h.elim
      | (rw [rel_int rx] at rv; rw [rel_int ry] at ru; exact op_mod pins s σ H _ _ v u Q I rv ru ⟨_, _, rfl, rfl, h.1, fi _ h.2⟩)
  | pow =>
    cases dx <;> cases dy <;> first
      | exact h.elim
      | (rw [rel_int rx] at rv; rw [rel_int ry] at ru; exact op_pow pins s σ H _ _ v u Q I rv ru ⟨_, _, rfl, rfl, h.1, fi _ h.2⟩)
  | band => cases dx <;> cases dy <;> exact h.elim
end
end Ab
/-! Expressions: the machine's word for them holds of the row. -/
namespace Ab
open PySem PyProof.Rows L2 PySem.Spec

/-- what an exception of the machine is wished to meet -/
def HX (K : PySem.W.Frag) (R : Rw) (ce : Option Cur) (W : WX) (σ : L2.St) (m : Mm) (H : Hp) (Xd : Kx) : Prop := ∀ x m' H' cls dx, Kp m H m' H' → RelM K R ce H' m' → RelX K R H' x cls dx → Xd x m' → W cls dx σ H'
theorem HX.keep {K : PySem.W.Frag} {R : Rw} {ce : Option Cur} {W : WX} {σ : L2.St} {H H' : Hp} {m m1 : Mm} {Xd : Kx} (h : HX K R ce W σ m H Xd) (k : Kp m H m1 H') : HX K R ce W σ m1 H' Xd := fun x m' H2 cls dx k2 => h x m' H2 cls dx (k.trans k2)
theorem HX.none {K : PySem.W.Frag} {R : Rw} {ce : Option Cur} {W : WX} {σ : L2.St} {m : Mm} {H : Hp} : HX K R ce W σ m H (fun _ _ => False) := fun _ _ _ _ _ _ _ _ z => z.elim

theorem PE.imp {X : Cx} {e : Expr} {t t' : TE} (h : PE X e t) (i : ∀ σ H Q, t' σ H Q → t σ H Q) : PE X e t' := ⟨fun pins s σ H Q I q => h.run pins s σ H Q I (i σ H Q q)⟩
theorem PT.imp {X : Cx} {e : Expr} {t t' : TT} (h : PT X e t) (i : ∀ σ H Q, t' σ H Q → t σ H Q) : PT X e t' := ⟨fun pins s σ H Q I q => h.run pins s σ H Q I (i σ H Q q)⟩
theorem PW.imp {X : Cx} {e : Expr} {t t' : TT} (h : PW X e t) (i : ∀ σ H Q, t' σ H Q → t σ H Q) : PW X e t' := ⟨fun wh pins s σ H Q I q => h.run wh pins s σ H Q I (i σ H Q q)⟩
theorem PA.imp {X : Cx} {es : List Expr} {t t' : TA} (h : PA X es t) (i : ∀ σ H Q, t' σ H Q → t σ H Q) : PA X es t' := ⟨fun pos pins s σ H Q I q => h.run pos pins s σ H Q I (i σ H Q q)⟩

section
variable {X : Cx} {R : Rw} {ce : Option Cur} {W : WX} {C : Ct}
abbrev IE (X : Cx) (R : Rw) (ce : Option Cur) (W : WX) (C : Ct) (e : Expr) (a : E) : Prop := PE X e (LE X.K R ce W fun Xd => wE C Xd a)
abbrev IT (X : Cx) (R : Rw) (ce : Option Cur) (W : WX) (C : Ct) (e : Expr) (a : E) : Prop := PT X e (LT X.K R ce W fun Xd => wT C Xd a)
abbrev IA (X : Cx) (R : Rw) (ce : Option Cur) (W : WX) (C : Ct) (es : List Expr) (a : As) : Prop := PA X es (LA X.K R ce W fun Xd => wAs C Xd a)

theorem LE.mk {w : Kx → Dl → Mm → Kd → Prop} {σ : L2.St} {H : Hp} {δ : Dl} {m : Mm} {Xd : Kx} {k : Kd} {K : PySem.W.Frag} (rs : RelS K R H δ σ) (rm : RelM K R ce H m) (h : w Xd δ m k) (hx : HX K R ce W σ m H Xd) {Q : VK}
    (q : ∀ d m' v H', Kp m H m' H' → Rel K R H' d v → RelM K R ce H' m' → k d m' → Q v H') : LE K R ce W w σ H Q := ⟨δ, m, Xd, k, rs, rm, h, q, hx⟩
theorem LT.mk {w : Kx → Dl → Mm → (Bool → Mm → Prop) → Prop} {σ : L2.St} {H : Hp} {δ : Dl} {m : Mm} {Xd : Kx} {k : Bool → Mm → Prop} {K : PySem.W.Frag} (rs : RelS K R H δ σ) (rm : RelM K R ce H m) (h : w Xd δ m k) (hx : HX K R ce W σ m H Xd) {Q : Bool → Hp → Prop}
    (q : ∀ d m' H', Kp m H m' H' → RelM K R ce H' m' → k d m' → Q d H') : LT K R ce W w σ H Q := ⟨δ, m, Xd, k, rs, rm, h, q, hx⟩
theorem LA.mk {w : Kx → Dl → Mm → (List D → Mm → Prop) → Prop} {σ : L2.St} {H : Hp} {δ : Dl} {m : Mm} {Xd : Kx} {k : List D → Mm → Prop} {K : PySem.W.Frag} (rs : RelS K R H δ σ) (rm : RelM K R ce H m) (h : w Xd δ m k) (hx : HX K R ce W σ m H Xd) {Q : List V → Hp → Prop}
    (q : ∀ d m' v H', Kp m H m' H' → RelL K R H' d v → RelM K R ce H' m' → k d m' → Q v H') : LA K R ce W w σ H Q := ⟨δ, m, Xd, k, rs, rm, h, q, hx⟩

/-! ### names, constants -/
theorem ie_var {i : Nat} {x : Str} {pos : Pos} (hN : X.N[i]? = some x) (hv : Vis X.env.scope x) (h1 : (x == ("__debug__" : Str)) = false) (h2 : (x == ("__classdict__" : Str)) = false) : IE X R ce W C (.Name x pos) (.var i) := by
  refine PE.imp (pe_var hN hv h1 h2) fun σ H Q h => ?_
  obtain ⟨δ, m, Xd, k, rs, rm, ⟨d, e, kd⟩, q, _⟩ := h
  obtain ⟨v, e2, r⟩ := rs.2 i d e
  exact ⟨v, e2, q d m v H Kp.refl r rm kd⟩
theorem ie_int {i : Int} {j pos} : IE X R ce W C (.Constant (.int i) j pos) (.int i) := by
  refine PE.imp pe_int fun σ H Q h => ?_
  obtain ⟨δ, m, Xd, k, rs, rm, kd, q, _⟩ := h
  exact q _ m _ H Kp.refl (Rel.int i) rm kd
theorem ie_str {i : Str} {j pos} : IE X R ce W C (.Constant (.str i) j pos) (.str i) := by
  refine PE.imp pe_str fun σ H Q h => ?_
  obtain ⟨δ, m, Xd, k, rs, rm, kd, q, _⟩ := h
  exact q _ m _ H Kp.refl (Rel.str i) rm kd
theorem ie_bl {i : Bool} {j pos} : IE X R ce W C (.Constant (.bool i) j pos) (.bl i) := by
  refine PE.imp pe_bl fun σ H Q h => ?_
  obtain ⟨δ, m, Xd, k, rs, rm, kd, q, _⟩ := h
  exact q _ m _ H Kp.refl (Rel.bl i) rm kd
theorem ie_non {j pos} : IE X R ce W C (.Constant .none j pos) .non := by
  refine PE.imp pe_non fun σ H Q h => ?_
  obtain ⟨δ, m, Xd, k, rs, rm, kd, q, _⟩ := h
  exact q _ m _ H Kp.refl Rel.non rm kd
/-- a constant of the top -/
theorem ie_glob {x : Str} {pos : Pos} (hg : Gl X x) (hd : (x == ("__debug__" : Str)) = false) (hc : ∀ d, C.cst x = some d → ∃ u v, X.mg x = some u ∧ RelV v u ∧ ∀ H, Rel X.K R H d v) : IE X R ce W C (.Name x pos) (.glob x) := by
  constructor; intro pins s σ H Q I h
  obtain ⟨δ, m, Xd, k, rs, rm, ⟨d, e, kd⟩, q, _⟩ := h
  obtain ⟨u, v, hm, rv, r⟩ := hc d e
  exact ld_glob I hg hm ⟨v, H, I, rv, q d m v H Kp.refl (r H) rm kd⟩ hd

/-! ### operators -/
theorem ie_bop {o : Bop} {a b : Expr} {ea eb : E} {pos : Pos} (ha : IE X R ce W C a ea) (hb : IE X R ce W C b eb) : IE X R ce W C (.BinOp a o.op b pos) (.bop o ea eb) := by
  constructor; intro pins s σ H Q I h
  obtain ⟨δ, m, Xd, k, rs, rm, hw, q, hx⟩ := h
  refine wpAny_BinOp (binT ha hb I (R := fun x y H2 => ∃ dx dy m2, Kp m H m2 H2 ∧ Rel X.K R H2 dx x ∧ Rel X.K R H2 dy y ∧ RelM X.K R ce H2 m2 ∧ bopW o dx dy m2 fun d => k d m2) ?_ ?_)
  · refine LE.mk rs rm hw hx fun dx m1 x H1 k1 r1 rm1 hw1 => ?_
    refine LE.mk (rs.keep k1.keep) rm1 hw1 (HX.keep hx k1) fun dy m2 y H2 k2 r2 rm2 hw2 => ?_
    exact ⟨dx, dy, m2, k1.trans k2, Rel.keep k2.keep _ _ r1, r2, rm2, hw2⟩
  · rintro v u s2 x y H2 I2 rv ru ⟨dx, dy, m2, k2, r1, r2, rm2, hw2⟩
    exact bop_ok I2 rm2 r1 r2 rv ru hw2 fun d z H3 k3 r3 rm3 kd => q d m2 z H3 (k2.trans k3) r3 rm3 kd
theorem ie_neg {a : Expr} {ea : E} {pos : Pos} (ha : IE X R ce W C a ea) : IE X R ce W C (.UnaryOp .USub a pos) (.neg ea) := by
  refine PE.imp (pe_un un_neg ha) fun σ H Q h => ?_
  obtain ⟨δ, m, Xd, k, rs, rm, hw, q, hx⟩ := h
  refine LE.mk rs rm hw hx fun dx m1 x H1 k1 r1 rm1 ⟨i, e, kd⟩ => ?_
  subst e
  exact ⟨i, rel_int r1, q _ m1 _ H1 k1 (Rel.int _) rm1 kd⟩
/-- two values compared, in the row's own reading -/
def LB (X : Cx) (R : Rw) (ce : Option Cur) (W : WX) (C : Ct) (o : Cop) (ea eb : E) : TE := fun σ H Q => ∃ (δ : Dl) (m : Mm) (Xd : Kx) (k : Bool → Mm → Prop), RelS X.K R H δ σ ∧ RelM X.K R ce H m ∧
  (wE C Xd ea δ m fun x m1 => wE C Xd eb δ m1 fun y m2 => cmpW o x y m2 fun c => k c m2) ∧ (∀ c m' H', Kp m H m' H' → RelM X.K R ce H' m' → k c m' → Q (.bl c) H') ∧ HX X.K R ce W σ m H Xd
theorem cmp_pc {o : Cop} {a b : Expr} {ea eb : E} (hu : X.A.units + 200 < cLine) (ha : IE X R ce W C a ea) (hb : IE X R ce W C b eb) : PC X o.op a b (LB X R ce W C o ea eb) := by
  constructor; intro pins s σ H Q I h
  obtain ⟨δ, m, Xd, k, rs, rm, hw, q, hx⟩ := h
  refine binT ha hb I (R := fun x y H2 => ∃ dx dy m2, Kp m H m2 H2 ∧ Rel X.K R H2 dx x ∧ Rel X.K R H2 dy y ∧ RelM X.K R ce H2 m2 ∧ cmpW o dx dy m2 fun c => k c m2) ?_ ?_
  · refine LE.mk rs rm hw hx fun dx m1 x H1 k1 r1 rm1 hw1 => ?_
    refine LE.mk (rs.keep k1.keep) rm1 hw1 (HX.keep hx k1) fun dy m2 y H2 k2 r2 rm2 hw2 => ?_
    exact ⟨dx, dy, m2, k1.trans k2, Rel.keep k2.keep _ _ r1, r2, rm2, hw2⟩
  · rintro v u s2 x y H2 I2 rv ru ⟨dx, dy, m2, k2, r1, r2, rm2, hw2⟩
    exact cmp_ok I2 hu rm2 r1 r2 rv ru hw2 fun b kb => q b m2 H2 k2 rm2 kb
theorem ie_cmp {o : Cop} {a b : Expr} {ea eb : E} {pos : Pos} (hu : X.A.units + 200 < cLine) (ha : IE X R ce W C a ea) (hb : IE X R ce W C b eb) (hm : behindInMarks o.op b = false) : IE X R ce W C (.Compare a [o.op] [b] pos) (.cmp o ea eb) := by
  refine PE.imp (pe_cmp (cmp_pc hu ha hb) hm) fun σ H Q h => ?_
  obtain ⟨δ, m, Xd, k, rs, rm, hw, q, hx⟩ := h
  exact ⟨δ, m, Xd, fun c => k (.bl c), rs, rm, hw, fun c m' H' k' rm' kc => q (.bl c) m' (.bl c) H' k' (Rel.bl c) rm' kc, hx⟩
theorem it_cmp {o : Cop} {a b : Expr} {ea eb : E} {pos : Pos} (hu : X.A.units + 200 < cLine) (ha : IE X R ce W C a ea) (hb : IE X R ce W C b eb) (hm : behindInMarks o.op b = false) : IT X R ce W C (.Compare a [o.op] [b] pos) (.cmp o ea eb) := by
  refine PT.imp (pt_cmp (cmp_pc hu ha hb) hm) fun σ H Q h => ?_
  obtain ⟨δ, m, Xd, k, rs, rm, hw, q, hx⟩ := h
  exact ⟨δ, m, Xd, k, rs, rm, hw, fun c m' H' k' rm' kc => ⟨c, rfl, q c m' H' k' rm' kc⟩, hx⟩
/-- a op b op c -/
def chR (X : Cx) (R : Rw) (ce : Option Cur) (o : Cop) : R2 := fun x y H Q => ∃ (dx dy : D) (m : Mm) (k : Bool → Prop), Rel X.K R H dx x ∧ Rel X.K R H dy y ∧ RelM X.K R ce H m ∧ cmpW o dx dy m k ∧ ∀ b, k b → Q (.bl b) H
theorem chR_ok {o : Cop} (hu : X.A.units + 200 < cLine) : OpR X (compareOp o.op) (chR X R ce o) := by
  intro pins s σ H x y v u Q I rv ru h
  obtain ⟨dx, dy, m, k, r1, r2, rm, hw, q⟩ := h
  exact cmp_ok I hu rm r1 r2 rv ru hw q
def LCh (X : Cx) (R : Rw) (ce : Option Cur) (W : WX) (C : Ct) (o p : Cop) (ea eb ec : E) : TE := fun σ H Q => ∃ (δ : Dl) (m : Mm) (Xd : Kx) (k : Bool → Mm → Prop), RelS X.K R H δ σ ∧ RelM X.K R ce H m ∧
  (wE C Xd ea δ m fun x m1 => wE C Xd eb δ m1 fun y m2 => cmpW o x y m2 fun b => if b = true then wE C Xd ec δ m2 fun z m3 => cmpW p y z m3 fun b => k b m3 else k false m2) ∧
  (∀ c m' H', Kp m H m' H' → RelM X.K R ce H' m' → k c m' → Q (.bl c) H') ∧ HX X.K R ce W σ m H Xd
theorem chain_imp {o p : Cop} {ea eb ec : E} {σ : L2.St} {H : Hp} {Q : VK} (h : LCh X R ce W C o p ea eb ec σ H Q) :
    tChain (chR X R ce o) (chR X R ce p) (LE X.K R ce W fun Xd => wE C Xd ea) (LE X.K R ce W fun Xd => wE C Xd eb) (LE X.K R ce W fun Xd => wE C Xd ec) σ H Q := by
  obtain ⟨δ, m, Xd, k, rs, rm, hw, q, hx⟩ := h
  refine LE.mk rs rm hw hx fun dx m1 x H1 k1 r1 rm1 hw1 => ?_
  refine LE.mk (rs.keep k1.keep) rm1 hw1 (HX.keep hx k1) fun dy m2 y H2 k2 r2 rm2 hw2 => ?_
  refine ⟨dx, dy, m2, _, Rel.keep k2.keep _ _ r1, r2, rm2, hw2, fun b hb => ⟨b, rfl, ?_⟩⟩
  have k12 := k1.trans k2
  cases b with
  | false =>
    rw [if_neg Bool.false_ne_true] at hb ⊢
    exact q false m2 H2 k12 rm2 hb
  | true =>
    rw [if_pos rfl] at hb ⊢
    refine LE.mk (rs.keep k12.keep) rm2 hb (HX.keep hx k12) fun dz m3 z H3 k3 r3 rm3 hw3 => ?_
    exact ⟨dy, dz, m3, _, Rel.keep k3.keep _ _ r2, r3, rm3, hw3, fun b hb => q b m3 H3 (k12.trans k3) rm3 hb⟩
end
end Ab
/-! Expressions: and, or, not, chains, items, tuples, lists. -/
namespace Ab
open PySem PyProof.Rows L2 PySem.Spec

section
variable {X : Cx} {R : Rw} {ce : Option Cur} {W : WX} {C : Ct}

theorem ie_chain {o p : Cop} {a b c : Expr} {ea eb ec : E} {pos : Pos} (hu : X.A.units + 200 < cLine) (ha : IE X R ce W C a ea) (hb : IE X R ce W C b eb) (hc : IE X R ce W C c ec) (hm : lastMarks [o.op, p.op] [b, c] = false) :
    IE X R ce W C (.Compare a [o.op, p.op] [b, c] pos) (.chain o p ea eb ec) := by
  refine PE.imp (pe_chain (chR_ok (R := R) (ce := ce) hu) (chR_ok (R := R) (ce := ce) hu) ha hb hc hm) fun σ H Q h => chain_imp ?_
  obtain ⟨δ, m, Xd, k, rs, rm, hw, q, hx⟩ := h
  exact ⟨δ, m, Xd, fun c => k (.bl c), rs, rm, hw, fun c m' H' k' rm' kc => q (.bl c) m' (.bl c) H' k' (Rel.bl c) rm' kc, hx⟩
theorem it_chain {o p : Cop} {a b c : Expr} {ea eb ec : E} {pos : Pos} (hu : X.A.units + 200 < cLine) (ha : IE X R ce W C a ea) (hb : IE X R ce W C b eb) (hc : IE X R ce W C c ec) (hm : lastMarks [o.op, p.op] [b, c] = false) :
    IT X R ce W C (.Compare a [o.op, p.op] [b, c] pos) (.chain o p ea eb ec) := by
  refine PT.imp (pt_chain (chR_ok (R := R) (ce := ce) hu) (chR_ok (R := R) (ce := ce) hu) ha hb hc hm) fun σ H Q h => chain_imp ?_
  obtain ⟨δ, m, Xd, k, rs, rm, hw, q, hx⟩ := h
  exact ⟨δ, m, Xd, k, rs, rm, hw, fun c m' H' k' rm' kc => ⟨c, rfl, q c m' H' k' rm' kc⟩, hx⟩

theorem rel_bl {K : PySem.W.Frag} {H : Hp} {i : Bool} {v : V} (r : Rel K R H (.bl i) v) : v = .bl i := by unfold Rel at r; exact r
theorem rel_nonE {K : PySem.W.Frag} {H : Hp} {v : V} (r : Rel K R H .non v) : v = .non := by unfold Rel at r; exact r
theorem rel_ref {K : PySem.W.Frag} {H : Hp} {a : Addr} {v : V} (r : Rel K R H (.ref a) v) : v = .ref a := by unfold Rel at r; exact r
theorem upd_same {H : Hp} {p : Addr} {o : HO} : upd H p o p = some o := by unfold upd; simp
def isNonD : D → Bool
  | .non => true
  | _ => false
theorem rel_non {K : PySem.W.Frag} {H : Hp} {d : D} {v : V} (r : Rel K R H d v) : decide (v = .non) = isNonD d := by
  cases d <;> unfold Rel at r <;> simp only [isNonD]
  case non => subst r; rfl
  case bl => subst r; rfl
  case int => subst r; rfl
  case str => subst r; rfl
  case tup => obtain ⟨a, vs, e, _⟩ := r; subst e; rfl
  case lst => obtain ⟨a, vs, e, _⟩ := r; subst e; rfl
  case ref => subst r; rfl
  case exc => obtain ⟨a, _, _, _, _, _, _, e, _⟩ := r; subst e; rfl
  case cur => subst r; rfl
  case dic => exact r.elim
theorem isN_eq (d : D) : (match d with | .non => true | _ => false) = isNonD d := by cases d <;> rfl
theorem notN_eq (d : D) : (match d with | .non => false | _ => true) = !isNonD d := by cases d <;> rfl
theorem isN_imp {ea : E} {σ : L2.St} {H : Hp} {Q : VK} {δ : Dl} {m : Mm} {Xd : Kx} {k : Bool → Mm → Prop} (rs : RelS X.K R H δ σ) (rm : RelM X.K R ce H m) (hw : wE C Xd ea δ m fun x m1 => k (match x with | .non => true | _ => false) m1) (hx : HX X.K R ce W σ m H Xd)
    (q : ∀ b m' H', Kp m H m' H' → RelM X.K R ce H' m' → k b m' → Q (.bl b) H') : tIsN (LE X.K R ce W fun Xd => wE C Xd ea) σ H Q := by
  refine LE.mk rs rm hw hx fun dx m1 x H1 k1 r1 rm1 hk => ?_
  refine q _ m1 H1 k1 rm1 ?_
  rw [rel_non r1]
  rw [isN_eq] at hk
  exact hk
theorem notN_imp {ea : E} {σ : L2.St} {H : Hp} {Q : VK} {δ : Dl} {m : Mm} {Xd : Kx} {k : Bool → Mm → Prop} (rs : RelS X.K R H δ σ) (rm : RelM X.K R ce H m) (hw : wE C Xd ea δ m fun x m1 => k (match x with | .non => false | _ => true) m1) (hx : HX X.K R ce W σ m H Xd)
    (q : ∀ b m' H', Kp m H m' H' → RelM X.K R ce H' m' → k b m' → Q (.bl b) H') : tNotN (LE X.K R ce W fun Xd => wE C Xd ea) σ H Q := by
  refine LE.mk rs rm hw hx fun dx m1 x H1 k1 r1 rm1 hk => ?_
  refine q _ m1 H1 k1 rm1 ?_
  rw [rel_non r1]
  rw [notN_eq] at hk
  exact hk
theorem ie_isN {a : Expr} {ea : E} {j pos' pos} (ha : IE X R ce W C a ea) : IE X R ce W C (.Compare a [.Is] [.Constant .none j pos'] pos) (.isN ea) := by
  refine PE.imp (pe_cmp (pc_isN ha) (nomark _)) fun σ H Q h => ?_
  obtain ⟨δ, m, Xd, k, rs, rm, hw, q, hx⟩ := h
  exact isN_imp (k := fun b m => k (.bl b) m) rs rm hw hx fun b m' H' k' rm' kc => q (.bl b) m' (.bl b) H' k' (Rel.bl b) rm' kc
theorem it_isN {a : Expr} {ea : E} {j pos' pos} (ha : IE X R ce W C a ea) : IT X R ce W C (.Compare a [.Is] [.Constant .none j pos'] pos) (.isN ea) := by
  refine PT.imp (pt_cmp (pc_isN ha) (nomark _)) fun σ H Q h => ?_
  obtain ⟨δ, m, Xd, k, rs, rm, hw, q, hx⟩ := h
  exact isN_imp (k := k) rs rm hw hx fun b m' H' k' rm' kc => ⟨b, rfl, q b m' H' k' rm' kc⟩
theorem ie_notN {a : Expr} {ea : E} {j pos' pos} (ha : IE X R ce W C a ea) : IE X R ce W C (.Compare a [.IsNot] [.Constant .none j pos'] pos) (.notN ea) := by
  refine PE.imp (pe_cmp (pc_notN ha) (nomark _)) fun σ H Q h => ?_
  obtain ⟨δ, m, Xd, k, rs, rm, hw, q, hx⟩ := h
  exact notN_imp (k := fun b m => k (.bl b) m) rs rm hw hx fun b m' H' k' rm' kc => q (.bl b) m' (.bl b) H' k' (Rel.bl b) rm' kc
theorem it_notN {a : Expr} {ea : E} {j pos' pos} (ha : IE X R ce W C a ea) : IT X R ce W C (.Compare a [.IsNot] [.Constant .none j pos'] pos) (.notN ea) := by
  refine PT.imp (pt_cmp (pc_notN ha) (nomark _)) fun σ H Q h => ?_
  obtain ⟨δ, m, Xd, k, rs, rm, hw, q, hx⟩ := h
  exact notN_imp (k := k) rs rm hw hx fun b m' H' k' rm' kc => ⟨b, rfl, q b m' H' k' rm' kc⟩

/-! ### and, or, not -/
abbrev IAnd (X : Cx) (R : Rw) (ce : Option Cur) (W : WX) (C : Ct) (pos : Pos) (es : List Expr) (a : As) : Prop := PE X (.BoolOp .And es pos) (LE X.K R ce W fun Xd => wAnd C Xd a)
abbrev IOr (X : Cx) (R : Rw) (ce : Option Cur) (W : WX) (C : Ct) (pos : Pos) (es : List Expr) (a : As) : Prop := PE X (.BoolOp .Or es pos) (LE X.K R ce W fun Xd => wOr C Xd a)
abbrev ITAnd (X : Cx) (R : Rw) (ce : Option Cur) (W : WX) (C : Ct) (pos : Pos) (es : List Expr) (a : As) : Prop := PW X (.BoolOp .And es pos) (LT X.K R ce W fun Xd => wTAnd C Xd a)
abbrev ITOr (X : Cx) (R : Rw) (ce : Option Cur) (W : WX) (C : Ct) (pos : Pos) (es : List Expr) (a : As) : Prop := PW X (.BoolOp .Or es pos) (LT X.K R ce W fun Xd => wTOr C Xd a)
theorem iand_one {a : Expr} {ea : E} {pos} (ha : IE X R ce W C a ea) : IAnd X R ce W C pos [a] (.cons ea .nil) := PE.imp (pe_one ha) fun σ H Q h => h
theorem ior_one {a : Expr} {ea : E} {pos} (ha : IE X R ce W C a ea) : IOr X R ce W C pos [a] (.cons ea .nil) := PE.imp (pe_one ha) fun σ H Q h => h
theorem itand_one {a : Expr} {ea : E} {pos} (ha : IT X R ce W C a ea) : ITAnd X R ce W C pos [a] (.cons ea .nil) := PW.imp (pw_and1 ha) fun σ H Q h => h
theorem itor_one {a : Expr} {ea : E} {pos} (ha : IT X R ce W C a ea) : ITOr X R ce W C pos [a] (.cons ea .nil) := PW.imp (pw_or1 ha) fun σ H Q h => h
theorem iand_cons {a b : Expr} {rest : List Expr} {ea eb : E} {er : As} {pos} (ha : IE X R ce W C a ea) (hb : IAnd X R ce W C pos (b :: rest) (.cons eb er)) : IAnd X R ce W C pos (a :: b :: rest) (.cons ea (.cons eb er)) := by
  refine PE.imp (pe_and ha hb) fun σ H Q h => ?_
  obtain ⟨δ, m, Xd, k, rs, rm, hw, q, hx⟩ := h
  refine LE.mk rs rm hw hx fun dx m1 x H1 k1 r1 rm1 ⟨b, e, hb⟩ => ?_
  subst e
  refine ⟨b, rel_bl r1, ?_⟩
  cases b with
  | true =>
    rw [if_pos rfl] at hb ⊢
    exact LE.mk (rs.keep k1.keep) rm1 hb (HX.keep hx k1) fun d m' v H' k' r' rm' kd => q d m' v H' (k1.trans k') r' rm' kd
  | false =>
    rw [if_neg Bool.false_ne_true] at hb ⊢
    exact q _ m1 _ H1 k1 (Rel.bl _) rm1 hb
theorem ior_cons {a b : Expr} {rest : List Expr} {ea eb : E} {er : As} {pos} (ha : IE X R ce W C a ea) (hb : IOr X R ce W C pos (b :: rest) (.cons eb er)) : IOr X R ce W C pos (a :: b :: rest) (.cons ea (.cons eb er)) := by
  refine PE.imp (pe_or ha hb) fun σ H Q h => ?_
  obtain ⟨δ, m, Xd, k, rs, rm, hw, q, hx⟩ := h
  refine LE.mk rs rm hw hx fun dx m1 x H1 k1 r1 rm1 ⟨b, e, hb⟩ => ?_
  subst e
  refine ⟨b, rel_bl r1, ?_⟩
  cases b with
  | false =>
    rw [if_neg Bool.false_ne_true] at hb ⊢
    exact LE.mk (rs.keep k1.keep) rm1 hb (HX.keep hx k1) fun d m' v H' k' r' rm' kd => q d m' v H' (k1.trans k') r' rm' kd
  | true =>
    rw [if_pos rfl] at hb ⊢
    exact q _ m1 _ H1 k1 (Rel.bl _) rm1 hb
theorem itand_cons {a b : Expr} {rest : List Expr} {ea eb : E} {er : As} {pos} (ha : IT X R ce W C a ea) (hb : ITAnd X R ce W C pos (b :: rest) (.cons eb er)) : ITAnd X R ce W C pos (a :: b :: rest) (.cons ea (.cons eb er)) := by
  refine PW.imp (pw_and ha hb) fun σ H Q h => ?_
  obtain ⟨δ, m, Xd, k, rs, rm, hw, q, hx⟩ := h
  refine LT.mk rs rm hw hx fun b m1 H1 k1 rm1 hb => ?_
  cases b with
  | true =>
    rw [if_pos rfl] at hb ⊢
    exact LT.mk (rs.keep k1.keep) rm1 hb (HX.keep hx k1) fun d m' H' k' rm' kd => q d m' H' (k1.trans k') rm' kd
  | false =>
    rw [if_neg Bool.false_ne_true] at hb ⊢
    exact q _ m1 H1 k1 rm1 hb
theorem itor_cons {a b : Expr} {rest : List Expr} {ea eb : E} {er : As} {pos} (ha : IT X R ce W C a ea) (hb : ITOr X R ce W C pos (b :: rest) (.cons eb er)) : ITOr X R ce W C pos (a :: b :: rest) (.cons ea (.cons eb er)) := by
  refine PW.imp (pw_or ha hb) fun σ H Q h => ?_
  obtain ⟨δ, m, Xd, k, rs, rm, hw, q, hx⟩ := h
  refine LT.mk rs rm hw hx fun b m1 H1 k1 rm1 hb => ?_
  cases b with
  | false =>
    rw [if_neg Bool.false_ne_true] at hb ⊢
    exact LT.mk (rs.keep k1.keep) rm1 hb (HX.keep hx k1) fun d m' H' k' rm' kd => q d m' H' (k1.trans k') rm' kd
  | true =>
    rw [if_pos rfl] at hb ⊢
    exact q _ m1 H1 k1 rm1 hb
theorem ie_not {a : Expr} {ea : E} {pos : Pos} (ha : IE X R ce W C a ea) : IE X R ce W C (.UnaryOp .Not a pos) (.notE ea) := by
  refine PE.imp (pe_not ha) fun σ H Q h => ?_
  obtain ⟨δ, m, Xd, k, rs, rm, hw, q, hx⟩ := h
  refine LE.mk rs rm hw hx fun dx m1 x H1 k1 r1 rm1 ⟨b, e, hb⟩ => ?_
  subst e
  exact ⟨b, rel_bl r1, q _ m1 _ H1 k1 (Rel.bl _) rm1 hb⟩
theorem it_not {a : Expr} {ea : E} {pos : Pos} (ha : IT X R ce W C a ea) : IT X R ce W C (.UnaryOp .Not a pos) (.notE ea) := by
  refine PT.imp (pt_not ha) fun σ H Q h => ?_
  obtain ⟨δ, m, Xd, k, rs, rm, hw, q, hx⟩ := h
  exact LT.mk rs rm hw hx fun b m1 H1 k1 rm1 hb => q _ m1 H1 k1 rm1 hb
theorem ie_ite {t a b : Expr} {et ea eb : E} {pos : Pos} (ht : IT X R ce W C t et) (ha : IE X R ce W C a ea) (hb : IE X R ce W C b eb) : IE X R ce W C (.IfExp t a b pos) (.ite et ea eb) := by
  refine PE.imp (pe_ifExp ht ha hb) fun σ H Q h => ?_
  obtain ⟨δ, m, Xd, k, rs, rm, hw, q, hx⟩ := h
  refine LT.mk rs rm hw hx fun b m1 H1 k1 rm1 hb => ?_
  cases b with
  | true =>
    rw [if_pos rfl] at hb ⊢
    exact LE.mk (rs.keep k1.keep) rm1 hb (HX.keep hx k1) fun d m' v H' k' r' rm' kd => q d m' v H' (k1.trans k') r' rm' kd
  | false =>
    rw [if_neg Bool.false_ne_true] at hb ⊢
    exact LE.mk (rs.keep k1.keep) rm1 hb (HX.keep hx k1) fun d m' v H' k' r' rm' kd => q d m' v H' (k1.trans k') r' rm' kd

/-! ### a value's truth -/
theorem truth_ok {H : Hp} {m : Mm} {d : D} {v : V} {b : Bool} (rm : RelM X.K R ce H m) (r : Rel X.K R H d v) (e : truth d m = some b) : TruV X.K v H b := by
  have lstCase : ∀ l, top m d = .lst l → b = !l.isEmpty → TruV X.K v H b := fun l ht hb => by
    obtain ⟨a, vs, rfl, hs, hr⟩ := top_lst rm r ht
    refine .inl ⟨vs, hs, ?_⟩
    rw [hb]
    have hl := hr.len
    cases vs <;> cases l <;> simp_all
  cases d with
  | non => cases e; rw [rel_nonE r]; rfl
  | bl k => cases e; rw [rel_bl r]; rfl
  | int i => cases e; rw [rel_int r]; rfl
  | str x => simp [truth, top] at e
  | tup l =>
    cases e
    unfold Rel at r
    obtain ⟨a, vs, rfl, hs, hr⟩ := r
    refine .inr (.inl ⟨vs, hs, ?_⟩)
    have hl := hr.len
    cases vs <;> cases l <;> simp_all
  | lst l => simp [truth, top] at e; exact lstCase l rfl (by first | exact e.symm | simp [← e] | simp [e])
  | ref a =>
    cases q : m a with
    | none => simp [truth, top, q] at e
    | some o =>
      cases o with
      | lst l =>
        simp [truth, top, q] at e
        exact lstCase l (by simp [top, q]) (by first | exact e.symm | simp [← e] | simp [e])
      | ins c fs => simp [truth, top, q] at e
  | dic _ => simp [truth, top] at e
  | exc _ _ => simp [truth, top] at e
  | cur _ => simp [truth, top] at e
/-- a value as a test -/
def wTr (w : Kx → Dl → Mm → Kd → Prop) : Kx → Dl → Mm → (Bool → Mm → Prop) → Prop := fun Xd δ m Q => w Xd δ m fun d m1 => ∃ b, truth d m1 = some b ∧ Q b m1
theorem it_truth {a : Expr} {w : Kx → Dl → Mm → Kd → Prop} (ha : PE X a (LE X.K R ce W w)) (he : ∀ whole, isTrue a X.env whole = (do let v ← whole; standAt a.pos; holding [v] (truthy v))) : PT X a (LT X.K R ce W (wTr w)) := by
  refine PT.imp (pt_truth ha he) fun σ H Q h => ?_
  obtain ⟨δ, m, Xd, k, rs, rm, hw, q, hx⟩ := h
  refine LE.mk rs rm hw hx fun dx m1 x H1 k1 r1 rm1 ⟨b, e, kb⟩ => ?_
  exact ⟨b, truth_ok rm1 r1 e, q b m1 H1 k1 rm1 kb⟩
/-- a value that is a bool, as a test -/
def wTb (w : Kx → Dl → Mm → Kd → Prop) : Kx → Dl → Mm → (Bool → Mm → Prop) → Prop := fun Xd δ m Q => w Xd δ m fun d m1 => ∃ b, d = .bl b ∧ Q b m1
theorem it_val {a : Expr} {w : Kx → Dl → Mm → Kd → Prop} (ha : PE X a (LE X.K R ce W w)) (he : ∀ whole, isTrue a X.env whole = (do let v ← whole; standAt a.pos; holding [v] (truthy v))) : PT X a (LT X.K R ce W (wTb w)) := by
  refine PT.imp (pt_val ha he) fun σ H Q h => ?_
  obtain ⟨δ, m, Xd, k, rs, rm, hw, q, hx⟩ := h
  refine LE.mk rs rm hw hx fun dx m1 x H1 k1 r1 rm1 ⟨b, e, kb⟩ => ?_
  subst e
  exact ⟨b, rel_bl r1, q b m1 H1 k1 rm1 kb⟩

/-! ### arguments, tuples, lists -/
def noStar : Expr → Bool
  | .Starred _ _ => false
  | _ => true
theorem noStar_eq {e : Expr} {es : List Expr} {env : Env} (h : noStar e = true) : starEach (e :: es) env = (false, eval e env) :: starEach es env := by
  cases e <;> first | rfl | simp [noStar] at h
theorem ia_nil : IA X R ce W C [] .nil := by
  refine PA.imp pa_nil fun σ H Q h => ?_
  obtain ⟨δ, m, Xd, k, rs, rm, hw, q, hx⟩ := h
  exact q [] m [] H Kp.refl .nil rm hw
theorem ia_cons {e : Expr} {es : List Expr} {a : E} {as : As} (hs : noStar e = true) (he : IE X R ce W C e a) (hr : IA X R ce W C es as) : IA X R ce W C (e :: es) (.cons a as) := by
  refine PA.imp (pa_cons he hr (noStar_eq hs)) fun σ H Q h => ?_
  obtain ⟨δ, m, Xd, k, rs, rm, hw, q, hx⟩ := h
  refine LE.mk rs rm hw hx fun dx m1 x H1 k1 r1 rm1 hw1 => ?_
  refine LA.mk (rs.keep k1.keep) rm1 hw1 (HX.keep hx k1) fun l m2 vs H2 k2 r2 rm2 hk => ?_
  exact q _ m2 _ H2 (k1.trans k2) (.cons (Rel.keep k2.keep _ _ r1) r2) rm2 hk
theorem Rel.tup' {K : PySem.W.Frag} {H : Hp} {l : List D} {vs : List V} {a : Addr} (h : H a = some (.tup vs)) (r : RelL K R H l vs) : Rel K R H (.tup l) (.ref a) := by
  unfold Rel
  exact ⟨a, vs, rfl, .inl (.inl h), r⟩
theorem ie_tup {es : List Expr} {as : As} {x1 pos} (h : IA X R ce W C es as) : IE X R ce W C (.Tuple es x1 pos) (.tup as) := by
  refine PE.imp (pe_tup h) fun σ H Q h => ?_
  obtain ⟨δ, m, Xd, k, rs, rm, hw, q, hx⟩ := h
  refine LA.mk rs rm hw hx fun l m1 vs H1 k1 r1 rm1 ⟨hl, hk⟩ => ⟨by rw [r1.len]; exact hl, fun p hp => ?_⟩
  have kn := Kp.new (m := m1) (.tup vs) hp
  exact q _ m1 _ _ (k1.trans kn) (Rel.tup' (upd_same) (RelL.keep kn.keep _ _ r1)) (rm1.new _ hp) hk
theorem ie_lstM {es : List Expr} {as : As} {pos} (h : IA X R ce W C es as) : IE X R ce W C (.List es pos) (.lstM as) := by
  refine PE.imp (pe_lst h) fun σ H Q h => ?_
  obtain ⟨δ, m, Xd, k, rs, rm, hw, q, hx⟩ := h
  refine LA.mk rs rm hw hx fun l m1 vs H1 k1 r1 rm1 ⟨hl, hk⟩ => ⟨by rw [r1.len]; exact hl, fun p hp => ?_⟩
  have kn := Kp.newPut (m := m1) (.lst vs) (.lst l) hp
  refine q _ _ _ _ (k1.trans kn) ?_ (rm1.put kn.keep (mo := .lst l) ⟨vs, upd_same, RelL.keep kn.keep _ _ r1⟩) (hk p (rm1.free hp))
  unfold Rel
  rfl
/-- a list that was just made is never changed any more -/
theorem frz_new {pins : List (Addr × Obj)} {σ : L2.St} {H : Hp} {s : Shared} {vs : List V} {p : Addr} {m : Mm} {l : List D} (I : Inv X pins σ (upd H p (.lst vs)) s) (hp : H p = none) (rm : RelM X.K R ce H m) (r : RelL X.K R H l vs) :
    ∃ H', Inv X pins σ H' s ∧ Kp m H m H' ∧ RelM X.K R ce H' m ∧ Rel X.K R H' (.lst l) (.ref p) := by
  obtain ⟨od, I'⟩ := I.lock upd_same trivial
  rw [upd_upd] at I'
  have kn : Kp m H m (upd H p (.frz od (.lst vs))) := Kp.new _ hp
  refine ⟨_, I', kn, rm.new _ hp, ?_⟩
  unfold Rel
  exact ⟨p, vs, rfl, .inl ⟨od, upd_same⟩, RelL.keep kn.keep _ _ r⟩
theorem ie_lst {es : List Expr} {as : As} {pos} (h : IA X R ce W C es as) : IE X R ce W C (.List es pos) (.lst as) := by
  refine ⟨fun pins s σ H Q I h1 => ?_⟩
  obtain ⟨δ, m, Xd, k, rs, rm, hw, q, hx⟩ := h1
  refine thn ((pe_lst h).run pins s σ H (fun v H' => ∃ p vs l m' H0, v = .ref p ∧ H' = upd H0 p (.lst vs) ∧ H0 p = none ∧ Kp m H m' H0 ∧ RelM X.K R ce H0 m' ∧ RelL X.K R H0 l vs ∧ k (.lst l) m') I ?_) ?_
  · exact LA.mk rs rm hw hx fun l m1 vs H1 k1 r1 rm1 ⟨hl, hk⟩ => ⟨by rw [r1.len]; exact hl, fun p hp => ⟨p, vs, l, m1, H1, rfl, rfl, hp, k1, rm1, r1, hk⟩⟩
  · rintro u s' ⟨v, H', I', ru, p, vs, l, m', H0, rfl, rfl, hp, kn, rm', r', hk⟩
    obtain ⟨H2, I2, k2, rm2, r2⟩ := frz_new I' hp rm' r'
    exact ⟨.ref p, H2, I2, ru, q _ m' _ H2 (kn.trans k2) r2 rm2 hk⟩

/-! ### items -/
theorem idx_imp {H : Hp} {m : Mm} {d e : D} {x y : V} {Q : VK} {k : D → Prop} (rm : RelM X.K R ce H m) (r1 : Rel X.K R H d x) (r2 : Rel X.K R H e y) (h : idxW d e m k) (q : ∀ z v, Rel X.K R H z v → k z → Q v H) : rIx X.K x y H Q := by
  have main : ∀ i : Int, e = .int i → (∃ l z, seqD m d = some l ∧ atI l i = some z ∧ k z) → rIx X.K x y H Q := fun i he ⟨l, z, hs, ha, kz⟩ => by
    subst he
    obtain ⟨a, vs, hv, hsq, hr⟩ := seq_rel rm r1 hs
    obtain ⟨v, hv2, rv⟩ := hr.atI ha
    rcases hsq with hsq | hsq
    · exact .inl ⟨a, vs, i, v, hv, rel_int r2, hsq, hv2, q z v rv kz⟩
    · exact .inr (.inl ⟨a, vs, i, v, hv, rel_int r2, hsq, hv2, q z v rv kz⟩)
  cases e with
  | int i =>
    cases d with
    | str z =>
      obtain ⟨hz, c, hc, kc⟩ := h
      exact .inr (.inr ⟨z, i, c, rel_str r1, rel_int r2, hz, hc, q _ _ (Rel.str _) kc⟩)
    | tup l => exact main i rfl h
    | lst l => exact main i rfl h
    | ref a => exact main i rfl h
    | non => exact main i rfl h
    | bl _ => exact main i rfl h
    | int _ => exact main i rfl h
    | dic _ => exact main i rfl h
    | exc _ _ => exact main i rfl h
    | cur _ => exact main i rfl h
  | _ => cases d <;> exact absurd h (by simp [idxW])
theorem ie_idx {a b : Expr} {ea eb : E} {pos : Pos} (ha : IE X R ce W C a ea) (hb : IE X R ce W C b eb) (hs : PlainIx b) : IE X R ce W C (.Subscript a b pos) (.idx ea eb) := by
  refine PE.imp (pe_ix ix_seq ha hb hs) fun σ H Q h => ?_
  obtain ⟨δ, m, Xd, k, rs, rm, hw, q, hx⟩ := h
  refine LE.mk rs rm hw hx fun dx m1 x H1 k1 r1 rm1 hw1 => ?_
  refine LE.mk (rs.keep k1.keep) rm1 hw1 (HX.keep hx k1) fun dy m2 y H2 k2 r2 rm2 hw2 => ?_
  exact idx_imp rm2 (Rel.keep k2.keep _ _ r1) r2 hw2 fun z v rv kz => q z m2 v H2 (k1.trans k2) rv rm2 kz
def plainIx : Expr → Bool
  | .Slice _ _ none _ => false
  | _ => true
theorem plainIx_eq {e : Expr} (h : plainIx e = true) : PlainIx e := fun o i => by
  cases e <;> first
    | rfl
    | (rename_i lo hi st pos
       cases st with
       | none => simp [plainIx] at h
       | some _ => rfl)
end
end Ab
/-! An exception of an own class whose def __init__(self, y) says super().__init__(a text) and self.f = y: made. -/
namespace Ab
open PySem PyProof.Rows L2 PySem.Spec
open PySem.W (Frag findIn nsIn clsIn mroIn subIn)

/-- the two statements -/
def initForm (attr : Str) : List Stmt → Option (Str × Str)
  | [.Expr (.Call (.Attribute (.Call (.Name s1 _) [] [] _) i1 a1) [.Constant (.str _) _ _] [] b1) _, .Assign [.Attribute (.Name o _) f _] (.Name v _) _] =>
    if s1 == "super" && i1 == "__init__" && f == attr && a1.endLine == b1.line then some (o, v) else none
  | _ => none
def plainArgs (p : Arguments) : Option (List Str) :=
  if p.posonlyargs.isEmpty && p.vararg.isNone && p.kwonlyargs.isEmpty && p.kw_defaults.isEmpty && p.kwarg.isNone && p.defaults.isEmpty then some (p.args.map (·.arg)) else none
/-- the def __init__ as it lies -/
def initB (P : Program) (K : Frag) (C fI : Addr) (attr : Str) : Bool := match K.lookup fI with
  | some ⟨_, _, .func fd, _⟩ => (match fd.body, fd.closure, fd.code with
    | .stmts body, [(cn, cc)], .ref cda => (match initForm attr body, plainArgs fd.params, K.lookup cc, K.lookup cda with
      | some (o, v), some [p1, p2], some ⟨_, _, .cell (some (.ref D)), _⟩, some ⟨_, _, .fields vs, _⟩ =>
        fd.defaults == .none && o == p1 && v == p2 && p1 != p2 && cn == "__class__" && D == C && fd.globals == mainGlobals && fd.builtins == builtinsNs && PySem.W.codeIn K fd.code fd.qualname && fd.scope.kind == .function && !fd.scope.isCoroutine && !fd.scope.isGenerator
          && fd.scope.names.all (fun x => x.2 != .cell) && fd.scope.names.lookup p1 == some .local && fd.scope.names.lookup p2 == some .local && fd.scope.names.lookup ("__class__" : Str) == some .free && fd.scope.names.lookup ("super" : Str) == some .globalImplicit
          && p1 != "__debug__" && p2 != "__debug__" && (match vs.toList with | _ :: _ :: Value.str file _ :: _ => ((P.main.file : Str) == file) | _ => false)
      | _, _, _, _ => false)
    | _, _, _ => false)
  | _ => false
structure XcF (P : Program) (K : Frag) (C fI : Addr) (attr : Str) : Prop where
  exc : PySem.W.excInitIn K C ESX.exTail "Exception.__new__" = true
  over : PySem.W.excOver K C ESX.exTail = true
  sa : findIn K (.ref C) "__setattr__" = some (some (.builtin "object.__setattr__"))
  tk : PySem.W.takerIn K C attr = some none
  hd : (PySem.W.hasDictIn K C) = true
  init : findIn K (.ref C) "__init__" = some (some (.ref fI))
  isf : PySem.W.isFn K (.ref fI) = true
  sup : PySem.W.ks_superIn K C C "__init__" = some (some (.builtin "Exception.__init__"))
  subE : mroIn K C (.type "Exception") = some true
  subC : mroIn K C (.ref C) = some true
  subB : subIn K (.ref C) (.type "BaseException") = some true
  ty : PySem.W.typeIn K (.ref C) = some (.type "type")
  kp : (PySem.W.keepIn K (.ref C)) = true
  sg : nsIn K mainGlobals "super" = some none
  op : nsIn K cStatics "thirdparty.any" = some none
  top : (P.main.scope.names.lookup ("super" : Str)).isSome = false
  fn : initB P K C fI attr = true

section
open PySem.W PySem.Calls Builtin Builtin.ObjectAttr
variable {P : Program} {w : World} {A : Around} {E : Value → Shared → Prop} {R : Result → Shared → Prop} {K : Frag} {C fI : Addr} {attr : Str}

/-- self.f = v, the first field -/
theorem x_store {hp : Heap} {g : Array GenState} {d : Drawn} {t : Nat} {os : OsState} {e t0 : Addr} {v : Value} {tk : Tok} (F : XcF P K C fI attr) (X : K.In hp) (he : hp.get? e = some (HandSPX.excO C t0))
    (hq : ∀ h' tk' dx, (∀ b o, b ≠ e → hp.get? b = some o → h'.get? b = some o) → hp.objs.size ≤ dx → dx ≠ e → h'.get? e = some { HandSPX.excO C t0 with dict := some dx } →
      h'.Ns1 dx (fun y => if y = attr then some v else none) → R (.ok (.ret .none)) ⟨h', g, d, tk', os⟩) :
    codeAny (model P w) A (.call (.builtin "object.__setattr__") ⟨[.ref e, .str attr tk, v], []⟩) R ⟨hp, g, d, t, os⟩ := by
  have In : InstAt hp e (HandSPX.excO C t0) C none := ⟨he, rfl, rfl, trivial⟩
  refine osa_openX (bmB := ESX.exTail) PySem.F.store_Exception X In F.over F.tk fun b => ?_
  obtain ⟨cd, hc, hd'⟩ := any_some F.hd
  have lc : Looks (model P w) hp (classData C) cd := looks_clsIn X hc
  have ne : e ≠ hp.objs.size := Nat.ne_of_lt (Heap.lt_size he)
  obtain ⟨nm, bs, mro, ns, qn, hasd, sn, sb, ab, col, del⟩ := cd
  have hd2 : hasd = true := hd'
  subst hd2
  dsimp only
  unfold storeInOwnDict; unfold ownDictForStores
  repeat (first | with_reducible refine HandSPX.store_in_new ?_ ?_ | with_reducible refine wpAny_loadPart_at he ?_ | with_reducible refine lc.at ?_ | wp_step)
  · exact ⟨_, #[], _, (Heap.get?_update_ne _ _ _ _ ne.symm).trans (Heap.get?_push_at rfl rfl), rfl, fun _ z => absurd z (by simp), fun _ => rfl⟩
  · intro h' tk' hn' hs
    have he1 : (hp.push { cls := .type "dict", data := .dict #[] }).get? e = some (HandSPX.excO C t0) := Heap.get?_push_of_some _ he
    refine hq h' tk' hp.objs.size (fun c o hc ho => ?_) (Nat.le_refl _) ne.symm ?_ hn'
    · have z1 := Heap.lt_size ho
      exact (hs.2 c (Nat.ne_of_lt z1)).trans ((Heap.get?_update_ne _ _ _ _ hc).trans (Heap.get?_push_of_some _ ho))
    · exact (hs.2 e ne).trans (Heap.get?_update_self _ he1 rfl)

theorem initForm_of {attr : Str} {body : List Stmt} {o v : Str} (h : initForm attr body = some (o, v)) : ∃ p1 p2 p3 p4 j p5 p6 p7 p8 p9 p10 m,
    body = [.Expr (.Call (.Attribute (.Call (.Name "super" p1) [] [] p2) "__init__" p3) [.Constant (.str m) j p4] [] p5) p6, .Assign [.Attribute (.Name o p7) attr p8] (.Name v p9) p10] ∧ (p3.endLine == p5.line) = true := by
  unfold initForm at h
  split at h
  · split at h
    · rename_i hc
      simp only [beq_iff_eq, Bool.and_eq_true] at hc
      obtain ⟨⟨⟨rfl, rfl⟩, rfl⟩, hl⟩ := hc
      cases h
      exact ⟨_, _, _, _, _, _, _, _, _, _, _, _, rfl, by rw [hl]; exact beq_self_eq_true _⟩
    · cases h
  · cases h
theorem plainArgs_of {p : Arguments} {l : List Str} (h : plainArgs p = some l) : ∃ as, p = { posonlyargs := [], args := as, vararg := none, kwonlyargs := [], kw_defaults := [], kwarg := none, defaults := [] } ∧ as.map (·.arg) = l := by
  unfold plainArgs at h
  split at h
  · rename_i hc
    cases h
    obtain ⟨po, as, va, ko, kd, kw, df⟩ := p
    simp only [Bool.and_eq_true, List.isEmpty_iff, Option.isNone_iff_eq_none] at hc
    obtain ⟨⟨⟨⟨⟨rfl, rfl⟩, rfl⟩, rfl⟩, rfl⟩, rfl⟩ := hc
    exact ⟨as, rfl, rfl⟩
  · cases h
end
end Ab
/-! Plain parameters take plain arguments. -/
namespace Ab
open PySem PyProof.Rows L2 PySem.Spec
theorem zip_lookup : ∀ {ps : List Str} {us : List Value} {n : Str}, ps.length ≤ us.length → n ∈ ps → ((ps.zip us).lookup n).isSome = true
  | [], _, _, _, h => nomatch h
  | p :: ps, [], _, hl, _ => by simp at hl
  | p :: ps, u :: us, n, hl, h => by
    by_cases e : n = p
    · subst e; simp [List.lookup]
    · have z : n ∈ ps := (List.mem_cons.mp h).resolve_left e
      have q : (n == p) = false := by simpa using e
      simp only [List.zip_cons_cons, List.lookup, q]
      exact zip_lookup (by simpa using hl) z
theorem fmap_congr {α β : Type} {f g : α → Option β} : ∀ {l : List α}, (∀ x ∈ l, f x = g x) → l.filterMap f = l.filterMap g
  | [], _ => rfl
  | a :: r, h => by rw [List.filterMap_cons, List.filterMap_cons, h a (List.mem_cons_self ..), fmap_congr (l := r) fun x hx => h x (List.mem_cons_of_mem _ hx)]
theorem zip_filterMap : ∀ {ps : List Str} {us : List Value}, ps.Nodup → ps.length = us.length → ps.filterMap (fun n => ((ps.zip us).lookup n).map (n, ·)) = ps.zip us
  | [], us, _, h => by cases us <;> simp_all
  | p :: ps, [], _, h => by simp at h
  | p :: ps, u :: us, hn, h => by
    rcases List.nodup_cons.mp hn with ⟨h1, h2⟩
    have z : ps.filterMap (fun n => (((p :: ps).zip (u :: us)).lookup n).map (n, ·)) = ps.filterMap (fun n => ((ps.zip us).lookup n).map (n, ·)) := by
      refine fmap_congr fun n hm => ?_
      have e : (n == p) = false := by
        simp only [beq_eq_false_iff_ne]
        rintro rfl
        exact h1 hm
      simp only [List.zip_cons_cons, List.lookup, e]
    rw [List.filterMap_cons]
    have l1 : ((p :: ps).zip (u :: us)).lookup p = some u := by simp [List.lookup]
    rw [l1]
    dsimp only [Option.map_some]
    rw [z, zip_filterMap h2 (by simpa using h)]
    rfl
theorem bind_all {fd : FuncData} {as : List Arg} {us : List Value} (hp : fd.params = { posonlyargs := [], args := as, vararg := none, kwonlyargs := [], kw_defaults := [], kwarg := none, defaults := [] }) (hd : fd.defaults = .none)
    (hn : (as.map (·.arg)).Nodup) (hl : us.length = (as.map (·.arg)).length) : bindArgs fd ⟨us, []⟩ = pure ((as.map (·.arg)).zip us) := by
  have hl' : (as.map (·.arg)).length = us.length := hl.symm
  have hm : ((as.map (·.arg)).take (as.map (·.arg)).length).filter (fun n => (((as.map (·.arg)).zip us).lookup n).isNone) = [] := by
    rw [List.take_length, List.filter_eq_nil_iff]
    intro n hn
    have z := zip_lookup (us := us) (by omega) hn
    rw [Option.isNone_iff_eq_none]
    intro q
    rw [q] at z
    cases z
  have hf := zip_filterMap (us := us) hn hl'
  have hs : seqItems? fd.defaults = pure none := by rw [hd]; rfl
  unfold bindArgs
  rw [hp, hs]
  simp only [List.map_nil, List.nil_append, List.append_nil, List.forIn_nil, pure_bind, Option.getD_none, List.length_nil, Nat.sub_zero, List.drop_nil, List.drop_length, List.zip_nil_right, Option.isNone_none, hm, List.isEmpty_nil, Bool.not_true, Bool.false_eq_true, if_false, hf, Option.isSome_none]
  rw [if_neg (by simp only [List.length_map] at hl; simp [hl])]
  first
    | rfl
    | skip
end Ab
namespace Ab
open PySem PyProof.Rows L2 PySem.Spec
open PySem.W (Frag findIn nsIn clsIn mroIn subIn)
section
open PySem.W PySem.Calls
variable {P : Program} {w : World} {A : Around} {E : Value → Shared → Prop} {R : Result → Shared → Prop} {K : Frag} {C fI : Addr} {attr : Str} {mg : Str → Option Value} {base : Heap}

/-- the def __init__ in pieces -/
theorem init_of (h : initB P K C fI attr = true) : ∃ (oc : Value) (od : Option Addr) (osl : Array (Option Value)) (name qual : Str) (as : List Arg) (sn : List (Str × NameKind)) (sm : List (Str × Const)) (p1 p2 : Str) (cc cda : Addr) (kV doc pm ct : Value) (an : Option Addr) (body : List Stmt)
    (c1 : Value) (d1 : Option Addr) (s1 : Array (Option Value)) (c2 : Value) (d2 : Option Addr) (s2 : Array (Option Value)) (vs : Array Value) (file : Str) (tf : Tok),
    K.lookup fI = some ⟨oc, od, .func (fnX name qual { posonlyargs := [], args := as, vararg := none, kwonlyargs := [], kw_defaults := [], kwarg := none, defaults := [] } body { kind := .function, names := sn, isGenerator := false, isCoroutine := false, more := sm } [("__class__", cc)] .none kV doc pm an (.ref cda) ct), osl⟩ ∧
    as.map (·.arg) = [p1, p2] ∧ initForm attr body = some (p1, p2) ∧ K.lookup cc = some ⟨c1, d1, .cell (some (.ref C)), s1⟩ ∧ K.lookup cda = some ⟨c2, d2, .fields vs, s2⟩ ∧ vs[2]? = some (.str file tf) ∧ ((P.main.file : Str) == file) = true ∧
    p1 ≠ p2 ∧ codeIn K (.ref cda) qual = true ∧ (∀ x ∈ sn, x.2 ≠ .cell) ∧ sn.lookup p1 = some .local ∧ sn.lookup p2 = some .local ∧ sn.lookup ("__class__" : Str) = some .free ∧ sn.lookup ("super" : Str) = some .globalImplicit ∧
    (p1 == ("__debug__" : Str)) = false ∧ (p2 == ("__debug__" : Str)) = false := by
  unfold initB at h
  split at h
  · rename_i oc od fd osl lk
    obtain ⟨name, qual, params, fbody, scope, globals, closure, dV, kV, doc, pm, an, code, ct, blt⟩ := fd
    split at h
    · rename_i body cn cc cda e1 e2 e3
      dsimp only at e1 e2 e3
      subst e1 e2 e3
      split at h
      · rename_i o v p1 p2 c1 d1 D s1 c2 d2 vs s2 e1 e2 e3 e4
        obtain ⟨as, e2, e5⟩ := plainArgs_of e2
        dsimp only at e2
        subst e2
        obtain ⟨kind, sn, ig, ic, sm⟩ := scope
        simp only [Bool.and_eq_true, beq_iff_eq, Bool.not_eq_true', bne_iff_ne, ne_eq, List.all_eq_true] at h
        obtain ⟨⟨⟨⟨⟨⟨⟨⟨⟨⟨⟨⟨⟨⟨⟨⟨⟨⟨⟨h0, h1⟩, h2⟩, h3⟩, h4⟩, h5⟩, h6⟩, h7⟩, h8⟩, h9⟩, h10⟩, h11⟩, h12⟩, h13⟩, h14⟩, h15⟩, h16⟩, h17⟩, h18⟩, h19⟩ := h
        subst h0 h1 h2 h4 h5 h6 h7 h9 h10 h11
        split at h19
        · rename_i hd0 hd1 file tok tl hf
          have hv : vs[2]? = some (.str file tok) := by
            rw [← Array.getElem?_toList, hf]
            rfl
          exact ⟨_, _, _, _, _, as, sn, sm, _, _, cc, cda, _, _, _, _, _, body, _, _, _, _, _, _, vs, _, _, lk, e5, e1, e3, e4, hv, h19, h3, h8, h12, h13, h14, h15, h16, by simpa using h17, by simpa using h18⟩
        · cases h19
      · cases h
    · cases h
  · cases h

theorem eval_meth {o : Expr} {name m : Str} {j : Nat} {apos pos p4 : Pos} {env : Env} (hline : (apos.endLine == pos.line) = true) : eval (.Call (.Attribute o name apos) [.Constant (.str m) j p4] [] pos) env = (do
      let oval ← attributeBase o name env (eval o env)
      standAt apos.atName
      let (f, first) ← holding [oval] (getMethod oval name (do return (← importBound o env).getD true))
      callWith pos f first (backTo pos (starEach [.Constant (.str m) j p4] env)) []) := by
  show (do
      let oval ← attributeBase o name env (eval o env)
      standAt apos.atName
      methodCall o name apos pos env oval (([.Constant (.str m) j p4] : List Expr).length + 0) (backTo pos (starEach [.Constant (.str m) j p4] env)) []) = _
  unfold methodCall methodCallPos calleeOf
  have hf : methodCallForm (([.Constant (.str m) j p4] : List Expr).length + 0) (backTo pos (starEach [.Constant (.str m) j p4] env)) [] = true := rfl
  simp only [hf, hline, if_true, Bool.or_true, pure_bind]
/-- __init__ runs -/
theorem x_init {s : Shared} {e t0 : Addr} {v : Value} (F : XcF P K C fI attr) (M : Mod K mg base) (bk : ∀ b o, base.get? b = some o → s.heap.get? b = some o) (hroom : A.depth < recursionLimit) (hbe : base.get? e = none) (he : s.heap.get? e = some (HandSPX.excO C t0))
    (hq : ∀ h' tk' dx t1, (∀ b o, b ≠ e → s.heap.get? b = some o → h'.get? b = some o) → s.heap.objs.size ≤ dx → dx ≠ e → h'.get? e = some { HandSPX.excO C t1 with dict := some dx } →
      h'.Ns1 dx (fun y => if y = attr then some v else none) → R (.ok (.ret .none)) { s with heap := h', toks := tk' }) :
    codeAny (model P w) A (.call (.ref fI) ⟨[.ref e, v], []⟩) R s := by
  obtain ⟨oc, od, osl, name, qual, as, sn, sm, p1, p2, cc, cda, kV, doc, pm, ct, an, body, c1, d1, s1, c2, d2, s2, vs, file, tf, lk, ea, ef, lcc, lcd, hv, hfile, hne, hcode, hcell, hl1, hl2, hlc, hls, hd1, hd2⟩ := init_of F.fn
  obtain ⟨q1, q2, q3, q4, j, q5, q6, q7, q8, q9, q10, msg, rfl, hline⟩ := initForm_of ef
  have X : K.In s.heap := M.kin.keeps bk
  have lim : s.heap.NoLimit := M.nolimit.keeps bk
  obtain ⟨hp, g, d, t, os⟩ := s
  refine ks_codeAny_call_defAt (binds := [(p1, .ref e), (p2, v)]) hroom (X _ _ lk) rfl lim (codeRec_of X hcode) rfl (.of_eq ?_) hcell ?_ (fun h1 hns hk => ?_)
  · refine (bind_all (as := as) rfl rfl (by rw [ea]; simp [hne]) (by rw [ea]; rfl)).trans ?_
    rw [ea]
    rfl
  · intro x hx
    rcases List.mem_cons.mp hx with (rfl | hx)
    · exact hl1
    · rcases List.mem_cons.mp hx with (rfl | hx)
      · exact hl2
      · cases hx
  obtain ⟨a1, a2, rfl, rfl, rfl⟩ : ∃ a1 a2 : Arg, as = [a1, a2] ∧ a1.arg = p1 ∧ a2.arg = p2 := by
    cases as with
    | nil => cases ea
    | cons a1 r => cases r with
      | nil => cases ea
      | cons a2 r => cases r with
        | nil => cases ea; exact ⟨a1, a2, rfl, rfl, rfl⟩
        | cons _ _ => cases ea
  have X1 : K.In h1 := X.keeps hk
  have he1 : h1.get? e = some (HandSPX.excO C t0) := hk _ _ he
  obtain ⟨nm, NC, qn, bs, bm, hdct, sln, sub, ab, col, dd, k0, k1, k2, k3, k5, hC, hT⟩ := excInit_of X1 F.exc
  have hlk1 : (([(a1.arg, Value.ref e), (a2.arg, v)] : List (Str × Value)).reverse.lookup a1.arg) = some (.ref e) := by
    have z : (a1.arg == a2.arg) = false := by simpa using hne
    simp [List.lookup, z]
  have hlk2 : (([(a1.arg, Value.ref e), (a2.arg, v)] : List (Str × Value)).reverse.lookup a2.arg) = some v := by simp [List.lookup]
  have mgs : mg ("super" : Str) = none := mg_none_of (M.kin) M.glob F.sg
  obtain ⟨mb, hmb, hmb2⟩ := M.blt
  have bk1 : ∀ b o, base.get? b = some o → h1.get? b = some o := fun b o z => hk b o (bk b o z)
  have hKC : ∃ oC cdC, K.lookup C = some oC ∧ oC.data = .cls cdC := by
    obtain ⟨cd, q, _⟩ := any_some F.hd
    unfold clsIn at q
    split at q
    · rename_i c' d' cd' s' hl
      exact ⟨_, cd', hl, rfl⟩
    · cases q
  obtain ⟨oC, cdC, lC, lCd⟩ := hKC
  have hCd : h1.get? C = some oC := X1 _ _ lC
  have I1 : InstAt h1 e (HandSPX.excO C t0) C none := ⟨he1, rfl, rfl, trivial⟩
  have heC : e ≠ C := by
    rintro rfl
    rw [hCd] at he1
    cases he1
    cases lCd
  refine ks_wpAt_execs_cons (ks_wpAt_Expr_any (ks_wpAt_MethodCall (he := eval_meth hline) (ks_wpAt_super_base (ar := a1) (f := fI) (cc := cda) hls hlc (by decide) rfl (X1 _ _ lk) rfl rfl rfl (X1 _ _ lcd) rfl hv hfile F.top ?hb)))
  refine ks_loadName_global rfl hls (loadGlobal_builtin (M.glob.keeps bk1) mgs (hmb.keeps bk1) ((hmb2 _ (by decide)).trans PyProof.Rows.Boot.«super») ⟨rfl, ?_⟩)
  refine wpAny_loadName_free rfl hlc rfl ⟨_, X1 _ _ lcc, rfl⟩ ?_
  refine wpAny_loadName_local rfl hl1 hns hlk1 ?_
  refine ks_wpAny_isType_cls hCd lCd ⟨rfl, ?_⟩
  refine ks_wpAny_call_super hCd lCd he1 rfl (fun c z => by cases z) (looks_mroIn X1 F.subC) (fun h2 hso k2 => ?_)
  have X2 : K.In h2 := X1.keeps k2
  obtain ⟨cd, hcd, hsup⟩ : ∃ cd, clsIn K C = some cd ∧ alongIn K "__init__" ((cd.mro.dropWhile (· != .ref C)).drop 1) = some (some (.builtin "Exception.__init__")) := by
    have z := F.sup
    unfold ks_superIn at z
    cases q : clsIn K C with
    | none => rw [q] at z; cases z
    | some cd => rw [q] at z; exact ⟨cd, rfl, z⟩
  have I2 : InstAt h2 e (HandSPX.excO C t0) C none := ⟨k2 _ _ he1, rfl, rfl, trivial⟩
  have isE : Looks (model P w) h2 (isInstance (.ref e) (.type "Exception")) true := I2.type.andThen (looks_mroIn X2 F.subE)
  refine ESX.getMethod_super hso (looks_opaque X2 F.op) (l₀ := cd.mro) (fun A Q E s k q => wpAny_bind ((looks_clsIn X2 hcd) A _ E s k (wpAny_pure q))) rfl X2 hsup heC (by decide) isE ?_
  dsimp only
  refine ESX.callWith_bound (x := e) ?_
  refine Calls.spliced_cons (Calls.Constant_str (k := j) (pos := q4) (Calls.spliced_nil ⟨Heap.get?_push_size _ rfl, ?_⟩))
  obtain ⟨nm, NC, qn, bs, bm, hdct, sln, sub, ab, col, dd, k0, k1, k2', k3, k5, hC2, hT2⟩ := excInit_of X2 F.exc
  have kp : ∀ b o, h2.get? b = some o → (h2.push (ESX.bw e)).get? b = some o := fun b o z => Heap.get?_push_of_some _ z
  refine ESX.call_bw (kp _ _ hC2) (kp _ _ (k2 _ _ he1)) (Heap.get?_push_size _ rfl) (by rw [sizeLine_eq]; simp) fun h3 t1 k3' he3 => ?_
  have eC : C ≠ e := fun z => heC z.symm
  have inOther : ∀ b o, b ≠ e → hp.get? b = some o → h3.get? b = some o := fun b o hb z => k3' b o hb (kp _ _ (k2 _ _ (hk _ _ z)))
  have hKe : ∀ b o, K.lookup b = some o → b ≠ e := fun b o z q => by
    rw [q] at z
    rw [M.kin _ _ z] at hbe
    cases hbe
  have X3 : K.In h3 := fun b o z => inOther b o (hKe b o z) (X _ _ z)
  have hL : h3.Ns hp.objs.size (fun x => ([(a1.arg, Value.ref e), (a2.arg, v)] : List (Str × Value)).reverse.lookup x) := by
    obtain ⟨oL, es, ep, q, r⟩ := hns
    have ne : hp.objs.size ≠ e := fun z => Nat.lt_irrefl _ (z ▸ Heap.lt_size (he : hp.get? e = _))
    exact ⟨oL, es, ep, k3' _ _ ne (kp _ _ (k2 _ _ q)), r⟩
  refine wpAt_of_wpAny (wpAny_execs_cons (plainObj_wpAny_Assign_Attribute ?_))
  refine wpAny_Name (wpAny_loadName_local rfl hl2 hL hlk2 ?_) hd2
  refine wpAny_Name (wpAny_loadName_local rfl hl1 hL hlk1 ?_) hd1
  refine set_plain X3 (ox := HandSPX.excO C t1) (od := none) ⟨he3, rfl, rfl, trivial⟩ F.sa (x_store F X3 he3 fun h4 tk4 dx k4 dn dne he4 hns4 => ?_)
  dsimp only
  have sz : hp.objs.size ≤ h3.objs.size := by
    have z1 : hp.objs.size < h1.objs.size := hns.lt
    obtain ⟨oL, es, ep, q, r⟩ := hL
    exact Nat.le_of_lt (Heap.lt_size q)
  exact wpAny_pure (hq h4 tk4 dx t1 (fun b o hb z => k4 b o hb (inOther b o hb z)) (Nat.le_trans sz dn) dne he4 hns4)
end
end Ab
namespace Ab
open PySem PyProof.Rows L2 PySem.Spec
open PySem.W (Frag findIn nsIn clsIn mroIn subIn)
section
variable {X : Cx} {R : Rw} {ce : Option Addr} {W : WX} {C : Addr} {fI : Addr} {attr : Str} {pins : List (Addr × Obj)} {σ : L2.St} {H : Hp} {s : Shared} {E : Value → Shared → Prop}
theorem x_make {u : Value} {Q : Value → Shared → Prop} (F : XcF X.prog X.K C fI attr) (I : Inv X pins σ H s) (hr : Room 1 X.A)
    (hq : ∀ h' e dx t0 tk', (∀ b o, s.heap.get? b = some o → h'.get? b = some o) → s.heap.objs.size ≤ e → s.heap.objs.size ≤ dx → dx ≠ e → h'.get? e = some { HandSPX.excO C t0 with dict := some dx } → h'.Ns1 dx (fun z => if z = attr then some u else none) →
      Q (.ref e) { s with heap := h', toks := tk' }) : wpAny (model X.prog X.w) X.A (call (.ref C) [u]) Q E s := by
  have KX := I.kIn
  obtain ⟨nm, NC, qn, bs, bm, hdct, sln, sub, ab, col, dd, k0, k1, k2, k3, k5, hC, hT⟩ := PySem.W.excInit_of KX F.exc
  have tI : PySem.W.typeIn X.K (.ref fI) = some (.type "function") := beq_iff_eq.mp F.isf
  obtain ⟨hp, g, d, t, os⟩ := s
  have kp : ∀ b o, hp.get? b = some o → ((hp.push (PySem.W.kdv_tup [u])).push (HandSPX.excO C hp.objs.size)).get? b = some o := fun b o z => Heap.get?_push_of_some _ (Heap.get?_push_of_some _ z)
  have he : ((hp.push (PySem.W.kdv_tup [u])).push (HandSPX.excO C hp.objs.size)).get? (hp.objs.size + 1) = some (HandSPX.excO C hp.objs.size) := by heap_get
  have hbe : X.base.get? (hp.objs.size + 1) = none := by
    cases z : X.base.get? (hp.objs.size + 1) with
    | none => rfl
    | some o => exact absurd (Heap.lt_size (I.bk _ _ z)) (by show ¬ hp.objs.size + 1 < hp.objs.size; omega)
  refine wpAny_call (HandSPX.call_own PySem.F.excBase_Exception hT hC (PySem.W.looks_findIn KX F.init) (fun self => PySem.W.bind_fn KX self tI) (by rw [sizeLine_eq]; simp) ?_)
  refine x_init F I.mod (fun b o z => kp b o (I.bk b o z)) (hr.make C [u] []).depth hbe he fun h' tk' dx t1 k dn dne he' hns => ?_
  refine ⟨rfl, hq h' _ dx t1 tk' (fun b o z => k b o (fun q => ?_) (kp b o z)) (Nat.le_succ _) ?_ dne he' hns⟩
  · have z1 := Heap.lt_size z
    rw [q] at z1
    exact absurd z1 (by show ¬ hp.objs.size + 1 < hp.objs.size; omega)
  · exact Nat.le_trans (show hp.objs.size ≤ ((hp.push _).push _).objs.size by rw [Heap.size_push, Heap.size_push]; omega) dn

/-- what was made, without the exception itself -/
theorem x_ground {h' : Heap} {e dx : Addr} {tk' : Nat} {u : Value} {y : V} (I : Inv X pins σ H s) (k : ∀ b o, s.heap.get? b = some o → h'.get? b = some o) (se : s.heap.objs.size ≤ e) (sd : s.heap.objs.size ≤ dx) (ne : dx ≠ e)
    (hns : h'.Ns1 dx (fun z => if z = attr then some u else none)) (ry : RelV y u) :
    ∃ G : Heap, (∀ b o, s.heap.get? b = some o → G.get? b = some o) ∧ (∀ b o, G.get? b = some o → h'.get? b = some o) ∧ G.get? e = none ∧ Inv X pins σ (upd H dx (.xd [(attr, y)])) { s with heap := G, toks := tk' } := by
  obtain ⟨G, g1, g2⟩ := restrict h' fun b => decide (b ≠ e)
  have gk : ∀ b, b ≠ e → G.get? b = h'.get? b := fun b hb => g1 b (decide_eq_true hb)
  have ge : G.get? e = none := g2 e (by simp)
  have ke : ∀ b o, s.heap.get? b = some o → G.get? b = some o := fun b o z => by
    have hb : b ≠ e := Nat.ne_of_lt (Nat.lt_of_lt_of_le (Heap.lt_size z) se)
    rw [gk b hb]
    exact k b o z
  refine ⟨G, ke, fun b o z => ?_, ge, I.laid ke sd ?_⟩
  · by_cases hb : b = e
    · rw [hb, ge] at z
      cases z
    · rw [← gk b hb]
      exact z
  · exact ⟨_, hns.at fun o z => (gk dx ne).trans z, relO_put (fs := []) ry fun _ => True.intro⟩
/-- X(e) to be raised -/
theorem pmk_x {x : Str} {e : Expr} {te : TE} {p pos : Pos} (F : XcF X.prog X.K C fI attr) (hr : Room 1 X.A) (hg : Gl X x) (hm : X.mg x = some (.ref C)) (he : PE X e te) (hs : noStar e = true) (hdb : (x == ("__debug__" : Str)) = false) :
    PMk X (.Call (.Name x p) [e] [] pos) (fun σ H Q => te σ H fun y H1 => ∀ d, H1 d = none → Q (.ref C) (some d) (upd H1 d (.xd [(attr, y)]))) := by
  intro pins s σ H Q I h
  refine (wpAny_Call_Name_kw (ld_glob I hg hm ?_ hdb))
  have ha : PA X [e] (tCons te tNil) := pa_cons he pa_nil (noStar_eq hs)
  refine PySem.W.callWith_K (h₀ := X.base) I.ok.mod.kin F.kp (thn (ha.run pos pins s σ H (fun vs H1 => match vs with | [y] => ∀ d, H1 d = none → Q (.ref C) (some d) (upd H1 d (.xd [(attr, y)])) | _ => False) I h) fun us s1 hh => ?_) (noStar_eq hs) rfl
  obtain ⟨vs, H1, I1, r1, q⟩ := hh
  obtain ⟨y, rfl⟩ : ∃ y, vs = [y] := by
    rcases vs with _ | ⟨y, _ | ⟨z, r⟩⟩
    · exact q.elim
    · exact ⟨y, rfl⟩
    · exact q.elim
  refine ⟨I1.kIn, ?_⟩
  obtain ⟨u, rfl, ru⟩ := r1.one
  refine x_make F I1 hr fun h' a dx t0 tk' k se sd ne hge hns => ?_
  obtain ⟨G, k1, k2, ge, J⟩ := x_ground (tk' := tk') I1 k se sd ne hns ru
  have na : H1 a = none := I1.hok.fresh se
  refine ⟨a, _, _, _, _, .ref C, some dx, rfl, J, k2, ge, hge, ⟨rfl, rfl⟩, rfl, rfl, ?_, rfl, I1.bare, raises_own F.subB F.ty, q dx (I1.hok.fresh sd)⟩
  rw [upd_ne (Ne.symm ne)]
  exact na
/-- the object of an exception that was made -/
def xObj (C dx t0 : Addr) : Obj := { cls := .ref C, dict := some dx, data := .fields #[.ref t0, .none, .none, .none, .bool false, .none] }
/-- X(e) as a value -/
theorem pe_x {x : Str} {e : Expr} {te : TE} {p pos : Pos} (F : XcF X.prog X.K C fI attr) (hr : Room 1 X.A) (hg : Gl X x) (hm : X.mg x = some (.ref C)) (he : PE X e te) (hs : noStar e = true) (hdb : (x == ("__debug__" : Str)) = false) :
    PE X (.Call (.Name x p) [e] [] pos) (fun σ H Q => te σ H fun y H1 => ∀ a d t0 u, H1 a = none → H1 d = none → a ≠ d → Q (.ref a) (upd (upd H1 d (.xd [(attr, y)])) a (.frz (xObj C d t0) u))) := by
  constructor; intro pins s σ H Q I h
  refine (wpAny_Call_Name_kw (ld_glob I hg hm ?_ hdb))
  have ha : PA X [e] (tCons te tNil) := pa_cons he pa_nil (noStar_eq hs)
  refine PySem.W.callWith_K (h₀ := X.base) I.ok.mod.kin F.kp (thn (ha.run pos pins s σ H (fun vs H1 => match vs with | [y] => ∀ a d t0 u, H1 a = none → H1 d = none → a ≠ d → Q (.ref a) (upd (upd H1 d (.xd [(attr, y)])) a (.frz (xObj C d t0) u)) | _ => False) I h) fun us s1 hh => ?_) (noStar_eq hs) rfl
  obtain ⟨vs, H1, I1, r1, q⟩ := hh
  obtain ⟨y, rfl⟩ : ∃ y, vs = [y] := by
    rcases vs with _ | ⟨y, _ | ⟨z, r⟩⟩
    · exact q.elim
    · exact ⟨y, rfl⟩
    · exact q.elim
  refine ⟨I1.kIn, ?_⟩
  obtain ⟨u, rfl, ru⟩ := r1.one
  refine x_make F I1 hr fun h' a dx t0 tk' k se sd ne hge hns => ?_
  obtain ⟨G, k1, k2, ge, J⟩ := x_ground (tk' := tk') I1 k se sd ne hns ru
  have na : H1 a = none := I1.hok.fresh se
  have na2 : upd H1 dx (.xd [(attr, y)]) a = none := by rw [upd_ne (Ne.symm ne)]; exact na
  have J2 := J.laidN (t' := tk') (o := exo a C (some dx)) k2 ge na2 (exo_ok hge)
  obtain ⟨od, J3⟩ := J2.lock (d := a) L2.upd_same trivial
  have hod : ∃ t1, od = xObj C dx t1 := by
    have z := J3.hok a _ L2.upd_same
    obtain ⟨z1, _⟩ := z
    obtain ⟨t1, z2⟩ := exo_at J2.hok L2.upd_same
    rw [z2] at z1
    exact ⟨t1, (Option.some.inj z1).symm⟩
  obtain ⟨t1, rfl⟩ := hod
  rw [upd_upd] at J3
  exact ⟨.ref a, _, J3, rfl, q a dx t1 _ na (I1.hok.fresh sd) (Ne.symm ne)⟩
end
end Ab
/-! What a body stands in; fields, isinstance. -/
namespace Ab
open PySem PyProof.Rows L2 PySem.Spec

def bnames : List Str := ["len", "int", "str", "tuple", "list", "range", "isinstance", "min", "max", "abs", "all", "any", "sum", "bool", "dict", "sorted", "Exception", "ValueError", "enumerate", "zip"]
/-- the value of a class that isinstance is asked of -/
def Ty.val (R : Rw) : Ty → Option Value
  | .bt b => some (.type b.name)
  | .cls x => (R.clA x).map .ref
  | .bcls x => if (R.clA (Str.ofString x)).isNone then some (.type x) else none
/-- the row's own facts -/
structure Rok (P : Program) (K : PySem.W.Frag) (mg : Str → Option Value) (R : Rw) : Prop where
  glob : ∀ x d, R.T.cst x = some d → ∃ u v, mg x = some u ∧ RelV v u ∧ ∀ H, Rel K R H d v
  bn : ∀ x ∈ bnames, mg x = none
  cls : ∀ c C, R.clA c = some C → mg c = some (.ref C)
  xc : ∀ c f, R.T.att c = some f → ∃ C fI, R.clA c = some C ∧ XcF P K C fI f ∧ ExcC K C ∧ PySem.W.findIn K (.ref C) f = some none
  xs : ∀ c C t Ct b, R.clA c = some C → R.T.sub c t = some b → R.clA t = some Ct → PySem.W.kitOne K (.ref C) (.ref Ct) = some b
  xb : ∀ c C x b, R.clA c = some C → R.T.bsub c x = some b → PySem.W.kitOne K (.ref C) (.type x) = some b
  xm : ∀ c C t Ct b, R.clA c = some C → R.T.sub c t = some b → R.clA t = some Ct → PySem.W.exmOne K (.ref C) (.ref Ct) = some b
  fl : ∀ c C f, R.clA c = some C → R.T.fld c f = true → Cls K C ∧ NoAttr K C f
  fn : ∀ f a, R.gfn f = true → R.fnA f = some a → mg f = some (.ref a) ∧ PySem.W.keepIn K (.ref a) = true
  bi : ∀ f a, R.fnA f = some a → Binds K (R.fnD f) (R.fnP f) []
/-- the exception in hand lies as the suite has it -/
def CurOk (X : Cx) (R : Rw) (ce : Option Cur) (C : Ct) : Prop := ∀ a e, C.cur = some (a, e) → ∃ c oe, ce = some c ∧ c.a = a ∧ c.x = e ∧ R.clA e.1 = some c.C ∧ R.T.att e.1 = some c.f ∧ (a, oe) ∈ X.pn ∧ Zc (.ref c.C) (some c.dx) oe ∧ ∃ vs, oe.data = .fields vs
structure Cok (n : Nat) (X : Cx) (R : Rw) (ce : Option Cur) (W : WX) (C : Ct) : Prop where
  row : Rok X.prog X.K X.mg R
  nd : X.N.Nodup
  un : X.A.units + 200 < cLine
  cst : C.cst = R.T.cst
  att : C.att = R.T.att
  sub : C.sub = R.T.sub
  bsub : C.bsub = R.T.bsub
  fld : C.fld = R.T.fld
  tk : Takes X W
  cur : CurOk X R ce C
  hot : C.calm = false → C.call = noFc ∧ C.init = noFc
  calm : C.calm = true → X.calm = true ∧ ce = none ∧ Room (n + 1) X.A
  call : ce = none → ∀ f a, R.fnA f = some a → FnOk X.prog X.w X.K X.mg X.base (L2.CX X.prog X.w) n a (R.fnD f) (R.fnP f) (spOf X.K R (C.call f) (R.fnP f).length)
  none : ∀ f, R.fnA f = none → ∀ l m Q E, ¬ C.call f l m Q E
  ar : ∀ f l m Q E, C.call f l m Q E → l.length = (R.fnP f).length

/-- isinstance may ask for the type of the value -/
def HasTy (X : Cx) (H : Hp) (x : V) (t : Value) : Prop := ∀ (pins : List (Addr × Obj)) (σ : L2.St) (s : Shared) (u : Value), Inv X pins σ H s → RelV x u → ∃ P : Heap → Prop, PySem.W.KitX X.K u t P ∧ P s.heap ∧ u ≠ .builtin "__main__.__loader__#opaque"
theorem HasTy.of {X : Cx} {H : Hp} {x : V} {t : Value} (h : TyX X.K H x t) : HasTy X H x t := fun _ _ _ _ I r => kit_of I r h

section
variable {n : Nat} {X : Cx} {R : Rw} {ce : Option Cur} {W : WX} {C : Ct} {H : Hp} {m : Mm}
theorem has_exc {Cx : Addr} {ob : Obj} {a dx : Addr} {fs : List (Str × V)} {u : HO} (E : ExcC X.K Cx) (h : H a = some (.frz ob u)) (hc : ob.cls = .ref Cx) (hd : ob.dict = some dx) (hf : ∃ vs, ob.data = .fields vs) (hx : H dx = some (.xd fs)) : HasTy X H (.ref a) (.ref Cx) := fun pins σ s v I r => by
  cases r
  obtain ⟨vs, hv⟩ := hf
  obtain ⟨h1, _⟩ := I.hok a _ h
  obtain ⟨mA, ⟨od, es, ep, h2, h3⟩, _⟩ := I.hok dx _ hx
  obtain ⟨cd, hcd, _⟩ := PySem.W.any_some E.hd
  refine ⟨fun hh => PySem.W.InstAt hh a ob Cx (some od), PySem.W.kitx_exc (gt := none) (by rw [hcd]; rfl) E.hg E.hk E.hs E.ha E.hn E.ht E.hm, ⟨h1, hc, ?_, ?_⟩, fun z => nomatch z⟩
  · unfold PySem.W.notCls
    rw [hv] <;> rfl
  · rw [hd]
    exact h2
theorem bt_kit (K : PySem.W.Frag) (a b : Bt) : PySem.W.kitOne K (.type a.name) (.type b.name) = some (a.sub b) := by
  cases a <;> cases b <;> kernel_rfl
theorem has_bt {d : D} {v : V} {b : Bt} (rm : RelM X.K R ce H m) (r : Rel X.K R H d v) (e : btOf m d = some b) : HasTy X H v (.type b.name) := by
  refine .of ?_
  cases d with
  | non => cases e; rw [rel_nonE r]; exact .base .non
  | bl k => cases e; rw [rel_bl r]; exact .base (.bl k)
  | int k => cases e; rw [rel_int r]; exact .base (.int k)
  | str k => cases e; rw [rel_str r]; exact .base (.str k)
  | tup l =>
    cases e
    obtain ⟨a, vs, rfl, hs, _⟩ := rel_tup r
    rcases hs with (h | ⟨o, h⟩) | ⟨o, its, k, h1, h2, _⟩
    · exact .base (.tup h)
    · exact .fTuple h
    · exact .kTuple h1 h2
  | lst l =>
    cases e
    unfold Rel at r
    obtain ⟨a, vs, rfl, hs, _⟩ := r
    rcases hs with ⟨o, h⟩ | ⟨o, its, k, h1, h2, _⟩
    · exact .base (.frz h)
    · exact .kList h1 h2
  | ref a =>
    rw [rel_ref r]
    cases q : m a with
    | none => simp [btOf, q] at e
    | some o =>
      cases o with
      | lst l =>
        simp [btOf, q] at e
        subst e
        obtain ⟨vs, h1, _⟩ := rm.lst q
        exact .base (.lst h1)
      | ins c fs => simp [btOf, q] at e
  | _ => simp [btOf] at e
theorem has_cur {c : Cur} {oe : Obj} (E : ExcC X.K c.C) (hp : (c.a, oe) ∈ X.pn) (hz : Zc (.ref c.C) (some c.dx) oe) (hf : ∃ vs, oe.data = .fields vs) (hx : H c.dx = some (.xd [(c.f, c.v)])) : HasTy X H (.ref c.a) (.ref c.C) := fun pins σ s v I r => by
  cases r
  obtain ⟨vs, hv⟩ := hf
  obtain ⟨h1, _⟩ := I.pin (c.a, oe) (List.mem_append_left _ hp)
  obtain ⟨mA, ⟨od, es, ep, h2, h3⟩, _⟩ := I.hok c.dx _ hx
  obtain ⟨cd, hcd, _⟩ := PySem.W.any_some E.hd
  refine ⟨fun hh => PySem.W.InstAt hh c.a oe c.C (some od), PySem.W.kitx_exc (gt := none) (by rw [hcd]; rfl) E.hg E.hk E.hs E.ha E.hn E.ht E.hm, ⟨h1, hz.1, ?_, ?_⟩, fun z => nomatch z⟩
  · unfold PySem.W.notCls
    rw [hv] <;> rfl
  · rw [hz.2]
    exact h2
/-- the value's type -/
def vtOf (C : Ct) (R : Rw) (m : Mm) : D → Option Value
  | .exc c _ => (R.clA c).map .ref
  | .cur a => C.cur.bind fun e => if e.1 = a then (R.clA e.2.1).map .ref else none
  | d => (btOf m d).map fun b => .type b.name
/-- what tyOf says is what isinstance finds -/
theorem ty_ok (ok : Cok n X R ce W C) {d : D} {v : V} {t : Ty} {b : Bool} {tv : Value} (rm : RelM X.K R ce H m) (r : Rel X.K R H d v) (e : tyOf C d m t = some b) (ht : t.val R = some tv) : ∃ vt, vtOf C R m d = some vt ∧ HasTy X H v vt ∧ PySem.W.kitOne X.K vt tv = some b := by
  have exc : ∀ c e', d = .exc c e' → ∃ Ca, R.clA c = some Ca ∧ vtOf C R m d = some (.ref Ca) ∧ HasTy X H v (.ref Ca) := fun c e' hd => by
    subst hd
    unfold Rel at r
    obtain ⟨a, Ca, dx, f, x, o, u, rfl, h1, h2, h3, h4, h5, h6, h7, _⟩ := r
    obtain ⟨C2, fI, g1, _, E, _⟩ := ok.row.xc c f h2
    rw [h1] at g1
    cases g1
    exact ⟨Ca, h1, by simp [vtOf, h1], has_exc E h3 h4 h5 h6 h7⟩
  have bt : ∀ k, t = .bt k → (btOf m d).map (fun j => j.sub k) = some b → ∃ vt, vtOf C R m d = some vt ∧ HasTy X H v vt ∧ PySem.W.kitOne X.K vt tv = some b := fun k hk hb => by
    subst hk
    cases ht
    obtain ⟨j, h1, rfl⟩ := Option.map_eq_some_iff.mp hb
    refine ⟨_, ?_, has_bt rm r h1, bt_kit _ _ _⟩
    cases d <;> first
      | (simp [btOf] at h1; done)
      | (simp only [vtOf, h1, Option.map_some])
  have cur : ∀ a (g : Str → Option Bool), (C.cur.bind fun e => if e.1 = a then g e.2.1 else none) = some b → d = .cur a → ∃ Ca cn, R.clA cn = some Ca ∧ vtOf C R m d = some (.ref Ca) ∧ HasTy X H v (.ref Ca) ∧ g cn = some b := fun a g hb hd => by
    subst hd
    obtain ⟨⟨a', e'⟩, h1, h2⟩ := Option.bind_eq_some_iff.mp hb
    split at h2
    · rename_i ha
      dsimp only at ha h2
      subst ha
      obtain ⟨c, oe, g1, g2, g3, g4, g5, g6, g7, g8⟩ := ok.cur _ _ h1
      obtain ⟨C2, fI, k1, _, E, _⟩ := ok.row.xc _ _ g5
      rw [g4] at k1
      cases k1
      have hv : v = .ref a' := by unfold Rel at r; exact r
      subst hv
      subst g2
      exact ⟨_, _, g4, by simp [vtOf, h1, g4], has_cur E g6 g7 g8 (rm.cur c g1).1, h2⟩
    · cases h2
  have fin : ∀ cn Ca t2, R.clA cn = some Ca → vtOf C R m d = some (.ref Ca) → HasTy X H v (.ref Ca) → C.sub cn t2 = some b → (R.clA t2).map Value.ref = some tv → ∃ vt, vtOf C R m d = some vt ∧ HasTy X H v vt ∧ PySem.W.kitOne X.K vt tv = some b := fun cn Ca t2 h1 h0 h2 h3 h4 => by
    rw [ok.sub] at h3
    obtain ⟨Ct, h5, rfl⟩ := Option.map_eq_some_iff.mp h4
    exact ⟨_, h0, h2, ok.row.xs cn Ca t2 Ct b h1 h3 h5⟩
  have finB : ∀ cn Ca x, R.clA cn = some Ca → vtOf C R m d = some (.ref Ca) → HasTy X H v (.ref Ca) → C.bsub cn x = some b → tv = .type x → ∃ vt, vtOf C R m d = some vt ∧ HasTy X H v vt ∧ PySem.W.kitOne X.K vt tv = some b := fun cn Ca x h1 h0 h2 h3 h4 => by
    rw [ok.bsub] at h3
    subst h4
    exact ⟨_, h0, h2, ok.row.xb cn Ca x b h1 h3⟩
  cases t with
  | bt k =>
    refine bt k rfl ?_
    cases d <;> exact e
  | cls x =>
    cases d with
    | exc c e' =>
      obtain ⟨Ca, h1, h0, h2⟩ := exc c e' rfl
      exact fin c Ca x h1 h0 h2 e ht
    | cur a =>
      obtain ⟨Ca, cn, h1, h0, h2, h3⟩ := cur a (fun c => C.sub c x) e rfl
      exact fin cn Ca x h1 h0 h2 h3 ht
    | _ => exact absurd e (by simp [tyOf])
  | bcls x =>
    unfold Ty.val at ht
    dsimp only at ht
    split at ht
    rotate_left
    · exact absurd ht (by simp)
    rename_i hn'
    obtain rfl : Value.type x = tv := Option.some.inj ht
    cases d with
    | exc c e' =>
      obtain ⟨Ca, h1, h0, h2⟩ := exc c e' rfl
      exact finB c Ca x h1 h0 h2 e rfl
    | cur a =>
      obtain ⟨Ca, cn, h1, h0, h2, h3⟩ := cur a (fun c => C.bsub c x) e rfl
      exact finB cn Ca x h1 h0 h2 h3 rfl
    | _ => exact absurd e (by simp [tyOf])
end
end Ab
/-! Expressions: fields, isinstance, exceptions as values. -/
namespace Ab
open PySem PyProof.Rows L2 PySem.Spec
def baseOk : Expr → Bool
  | .Call (.Name x _) _ _ _ => x != "super"
  | _ => true
theorem baseOk_eq {o : Expr} {a : Str} {env : Env} (h : baseOk o = true) : attributeBase o a env (eval o env) = eval o env := by
  cases o with
  | Call f as ks p =>
    cases f with
    | Name x q =>
      have hx : (x != ("super" : Str)) = true := h
      unfold attributeBase
      cases as <;> cases ks <;> first
        | rfl
        | simp [hx]
    | _ => rfl
  | _ => rfl
theorem RelF.look {K : PySem.W.Frag} {R : Rw} {H : Hp} {f : Str} : ∀ {fs : List (Str × D)} {fv : List (Str × V)} {d : D}, RelF K R H fs fv → fs.lookup f = some d → ∃ v, fv.lookup f = some v ∧ Rel K R H d v
  | _, _, _, .nil, h => by cases h
  | _, _, d, @Paired.cons _ _ _ p q _ _ r t, h => by
    obtain ⟨g, y⟩ := p
    obtain ⟨g', z⟩ := q
    obtain ⟨e, r⟩ := r
    dsimp only at e r
    subst e
    by_cases hf : f = g
    · subst hf
      simp [List.lookup] at h
      subst h
      exact ⟨z, by simp [List.lookup], r⟩
    · have hb : (f == g) = false := by simpa using hf
      simp only [List.lookup, hb] at h ⊢
      exact RelF.look t h
section
variable {n : Nat} {X : Cx} {R : Rw} {ce : Option Cur} {W : WX} {C : Ct}

/-- a field of an exception, read -/
theorem x_get {pins : List (Addr × Obj)} {σ : L2.St} {H : Hp} {s : Shared} {a Ca dx : Addr} {oe : Obj} {f : Str} {v : V} {b : Bool} {Q : Value → Shared → Prop} {E : Value → Shared → Prop} (I : Inv X pins σ H s) (Ec : ExcC X.K Ca) (hno : PySem.W.findIn X.K (.ref Ca) f = some none)
    (ha : s.heap.get? a = some oe) (hc : oe.cls = .ref Ca) (hd : oe.dict = some dx) (hf : ∃ vs, oe.data = .fields vs) (hx : H dx = some (.xd [(f, v)])) (h : ∀ u s', Inv X pins σ H s' → RelV v u → Q u s') :
    wpAny (model X.prog X.w) X.A (getAttr (.ref a) f b) Q E s := by
  obtain ⟨vs, hv⟩ := hf
  obtain ⟨mA, hns, hr⟩ := I.hok dx _ hx
  rcases lookIn_ns hns with ⟨od, ho, hl⟩
  obtain ⟨u, hu, ru⟩ := L2.RelO.some_of (v := v) (o := mA f) (by have z := hr f; simpa [List.lookup] using z)
  have J : PySem.W.InstAt s.heap a oe Ca (some od) := by
    refine ⟨ha, hc, ?_, ?_⟩
    · unfold PySem.W.notCls
      rw [hv] <;> rfl
    · rw [hd]
      exact ho
  exact HandSPX.exc_get I.kIn J Ec.hg Ec.hk Ec.hs (PySem.W.findObj_own Ec.hd hno rfl (by rw [hl, hu])) (handed_of ru) (h u _ (I.tok _) ru)
theorem ie_fldX (ok : Cok n X R ce W C) {e : Expr} {a : E} {f : Str} {pos : Pos} (he : IE X R ce W C e a) (hb : baseOk e = true) : IE X R ce W C (.Attribute e f pos) (.fld a f) := by
  constructor; intro pins s σ H Q I h
  obtain ⟨δ, m, Xd, k, rs, rm, hw, q, hx⟩ := h
  refine attr_of (baseOk_eq hb) (thn (he.run pins s σ H (fun x H1 => ∃ d m1, Kp m H m1 H1 ∧ Rel X.K R H1 d x ∧ RelM X.K R ce H1 m1 ∧ fldW C d f m1 fun y => k y m1) I ?_) ?_)
  · exact LE.mk rs rm hw hx fun d m1 x H1 k1 r1 rm1 hw1 => ⟨d, m1, k1, r1, rm1, hw1⟩
  · rintro u s1 ⟨x, H1, I1, rx, d, m1, k1, r1, rm1, hw1⟩
    cases d with
    | exc c d' =>
      obtain ⟨hat, kd⟩ := hw1
      rw [ok.att] at hat
      unfold Rel at r1
      obtain ⟨a', Ca, dx, f', y, o, u', rfl, h1, h2, h3, h4, h5, h6, h7, ry⟩ := r1
      rw [hat] at h2
      cases h2
      obtain ⟨C2, fI, g1, _, Ec, hno⟩ := ok.row.xc c f hat
      rw [h1] at g1
      cases g1
      cases rx
      exact x_get I1 Ec hno (I1.hok a' _ h3).1 h4 h5 h6 h7 fun w s2 I2 rw' => ⟨y, H1, I2, rw', q d' m1 y H1 k1 ry rm1 kd⟩
    | cur a' =>
      obtain ⟨e', hcur, hat, kd⟩ := hw1
      rw [ok.att] at hat
      obtain ⟨c, oe, g1, g2, g3, g4, g5, g6, g7, g8⟩ := ok.cur _ _ hcur
      obtain ⟨C2, fI, k1', _, Ec, hno⟩ := ok.row.xc _ _ g5
      rw [g4] at k1'
      cases k1'
      rw [hat] at g5
      obtain rfl : f = c.f := Option.some.inj g5
      have hv : x = .ref a' := by unfold Rel at r1; exact r1
      subst hv
      cases rx
      obtain ⟨z1, z2⟩ := rm1.cur c g1
      obtain ⟨ha, _⟩ := I1.pin (a', oe) (List.mem_append_left _ g6)
      rw [g3] at z2
      exact x_get I1 Ec hno ha g7.1 g7.2 g8 z1 fun w s2 I2 rw' => ⟨c.v, H1, I2, rw', q e'.2 m1 c.v H1 k1 z2 rm1 kd⟩
    | ref a' =>
      obtain ⟨c, fs, d', h1, h0, h2, kd⟩ := hw1
      rw [ok.fld] at h0
      obtain ⟨Ca, dx, fv, g1, g2, g3⟩ := rm1.at_ _ _ h1
      obtain ⟨hcl, hno⟩ := ok.row.fl c Ca f g1 h0
      rw [rel_ref r1] at rx
      cases rx
      obtain ⟨v, hv, rv⟩ := g3.look h2
      exact getattr_ok I1 g2 hcl hno hv fun w s2 I2 rw' => ⟨v, H1, I2, rw', q d' m1 v H1 k1 rv rm1 kd⟩
    | _ => exact hw1.elim
end
end Ab
/-! Expressions: isinstance, exceptions as values, calls. -/
namespace Ab
open PySem PyProof.Rows L2 PySem.Spec
def glB (sc : Scope) (x : Str) : Bool := sc.names.lookup x == some .globalImplicit
/-- a written class: the name, or a tuple of names -/
def tyNm (sc : Scope) : Expr → Ty → Bool
  | .Name x _, .bt b => glB sc x && x == Str.ofString b.name && bnames.contains x && x != "__name__" && x != "__debug__"
  | .Name x _, .cls y => glB sc x && x == y && x != "__debug__"
  | .Name x _, .bcls y => glB sc x && x == Str.ofString y && bnames.contains x && (y == "Exception" || y == "ValueError")
  | _, _ => false
def tyNms (sc : Scope) : List Expr → List Ty → Bool
  | [], [] => true
  | e :: r, t :: s => tyNm sc e t && tyNms sc r s
  | _, _ => false
section
variable {n : Nat} {X : Cx} {R : Rw} {ce : Option Cur} {W : WX} {C : Ct}
theorem gl_of {x : Str} (h : glB X.env.scope x = true) : Gl X x := by
  unfold glB at h
  exact beq_iff_eq.mp h
theorem boot_bt (b : Bt) (h : bnames.contains (Str.ofString b.name) = true) : bootBuiltins (Str.ofString b.name) = some (.type b.name) := by
  cases b <;> first
    | exact absurd h (by decide +kernel)
    | kernel_rfl
theorem pe_ty (ok : Cok n X R ce W C) {e : Expr} {t : Ty} (h : tyNm X.env.scope e t = true) (tv : Value) (ht : t.val R = some tv) : ∃ c, ClsV c tv ∧ PE X e (tC c) := by
  cases e with
  | Name x p =>
    cases t with
    | bt b =>
      simp only [tyNm, Bool.and_eq_true, beq_iff_eq, bne_iff_ne, ne_eq] at h
      obtain ⟨⟨⟨⟨h1, rfl⟩, h3⟩, h4⟩, h5⟩ := h
      cases ht
      exact ⟨.ty b.name, .ty _, pe_bltn (gl_of h1) (ok.row.bn _ (List.contains_iff_mem.mp h3)) (boot_bt b h3) rfl h4 (by simpa using h5)⟩
    | cls y =>
      simp only [tyNm, Bool.and_eq_true, beq_iff_eq, bne_iff_ne, ne_eq] at h
      obtain ⟨⟨h1, rfl⟩, h5⟩ := h
      obtain ⟨Ca, h2, rfl⟩ := Option.map_eq_some_iff.mp (show (R.clA x).map Value.ref = some tv from ht)
      exact ⟨.ref Ca, .own Ca, ⟨fun pins s σ H Q I q => ld_glob I (gl_of h1) (ok.row.cls _ _ h2) ⟨.ref Ca, H, I, rfl, q⟩ (by simpa using h5)⟩⟩
    | bcls y =>
      simp only [tyNm, Bool.and_eq_true, beq_iff_eq, Bool.or_eq_true] at h
      obtain ⟨⟨⟨h1, rfl⟩, h3⟩, h4⟩ := h
      have htv : tv = .type y := by
        unfold Ty.val at ht
        dsimp only at ht
        split at ht
        · exact (Option.some.inj ht).symm
        · exact absurd ht (by simp)
      subst htv
      rcases h4 with rfl | rfl
      · exact ⟨.ty _, .ty _, pe_bltn (gl_of h1) (ok.row.bn _ (List.contains_iff_mem.mp h3)) PyProof.Rows.Boot.«Exception» rfl⟩
      · exact ⟨.ty _, .ty _, pe_bltn (gl_of h1) (ok.row.bn _ (List.contains_iff_mem.mp h3)) PyProof.Rows.Boot.«ValueError» rfl⟩
  | _ => simp [tyNm] at h
/-- isinstance of a value, whatever it is -/
def rIsA (X : Cx) : List V → Hp → VK → Prop := fun xs H Q => ∃ (x tc : V) (vt : Value) (b : Bool), xs = [x, tc] ∧ HasTy X H x vt ∧
  ((∃ u, ClsV tc u ∧ PySem.W.kitOne X.K vt u = some b) ∨ ∃ (tp : Addr) (cs : List V) (us : List Value), tc = .ref tp ∧ H tp = some (.tup cs) ∧ Paired ClsV cs us ∧ PySem.W.kitAny X.K vt us = some b) ∧ Q (.bl b) H
theorem call_isA : CallR X (.builtin "isinstance") (rIsA X) := by
  intro pins s σ H xs us; intro Q I r h
  obtain ⟨x, tc, vt, b, rfl, ty, alt, q⟩ := h
  rcases vals2 r with ⟨u1, u2, rfl, r1, r2⟩
  obtain ⟨P, Z, p, hx⟩ := ty _ _ _ _ I r1
  rcases alt with ⟨u, k, e⟩ | ⟨tp, cs, ws, rfl, hT, k, e⟩
  · rw [k.eq r2]
    refine PySem.W.kia_one Z I.kIn p e hx fun tk => ?_; exact ⟨V.bl b, H, I.tok tk, rfl, q⟩
  · obtain rfl : u2 = Value.ref tp := r2
    obtain ⟨_, its, rv, o, h1, h2, j, h3⟩ := (show ObjOk X.prog X.w H s.heap tp (.tup cs) from I.hok tp _ hT)
    obtain rfl := ClsV.all k rv
    obtain ⟨oc, od, dt, sl⟩ := o
    dsimp only at h2 h3
    subst h2 h3
    refine PySem.W.kia_tup Z I.kIn p h1 e hx fun tk => ?_; exact ⟨V.bl b, H, I.tok tk, rfl, q⟩
/-- a list of classes asked one after another -/
theorem isiW_ok (ok : Cok n X R ce W C) {H : Hp} {m : Mm} {d : D} {v : V} (rm : RelM X.K R ce H m) (r : Rel X.K R H d v) {Q : Bool → Prop} : ∀ {ts : List Ty}, ts ≠ [] → (∀ t ∈ ts, (t.val R).isSome = true) → isiW C d m ts Q →
    ∃ vt b tvs, vtOf C R m d = some vt ∧ HasTy X H v vt ∧ Paired (fun t u => Ty.val R t = some u) ts tvs ∧ PySem.W.kitAny X.K vt tvs = some b ∧ Q b
  | [], ne, _, _ => absurd rfl ne
  | t :: rest, _, hv, hw => by
    obtain ⟨b, e, hq⟩ := hw
    obtain ⟨tv, ht⟩ := Option.isSome_iff_exists.mp (hv t (List.mem_cons_self ..))
    obtain ⟨vt, h1, h2, h3⟩ := ty_ok ok rm r e ht
    have all : ∀ l : List Ty, (∀ t ∈ l, (t.val R).isSome = true) → ∃ tvs, Paired (fun t u => Ty.val R t = some u) l tvs := fun l => by
      induction l with
      | nil => exact fun _ => ⟨[], .nil⟩
      | cons a l ih =>
        intro h
        obtain ⟨u, hu⟩ := Option.isSome_iff_exists.mp (h a (List.mem_cons_self ..))
        obtain ⟨us, hus⟩ := ih fun t ht => h t (List.mem_cons_of_mem _ ht)
        exact ⟨u :: us, .cons hu hus⟩
    cases b with
    | true =>
      obtain ⟨tvs, hp⟩ := all rest fun t ht => hv t (List.mem_cons_of_mem _ ht)
      exact ⟨vt, true, tv :: tvs, h1, h2, .cons ht hp, by simp only [PySem.W.kitAny, h3], hq⟩
    | false =>
      rw [if_neg Bool.false_ne_true] at hq
      cases rest with
      | nil => exact ⟨vt, false, [tv], h1, h2, .cons ht .nil, by simp only [PySem.W.kitAny, h3], hq⟩
      | cons t2 r2 =>
        obtain ⟨vt', b', tvs, g1, g2, g3, g4, g5⟩ := isiW_ok ok rm r (ts := t2 :: r2) (fun z => nomatch z) (fun t ht => hv t (List.mem_cons_of_mem _ ht)) hq
        rw [h1] at g1
        cases g1
        exact ⟨vt, b', tv :: tvs, h1, h2, .cons ht g3, by simp only [PySem.W.kitAny, h3]; exact g4, g5⟩

theorem boot_isi : bootBuiltins (Str.ofString "isinstance") = some (.builtin "isinstance") := by kernel_rfl
theorem mg_of (ok : Cok n X R ce W C) {x : Str} (h : x ∈ bnames) : X.mg x = none := ok.row.bn x h
def tyVals (R : Rw) (ts : List Ty) : Bool := ts.all fun t => (t.val R).isSome
/-- the reading behind the value that is asked for -/
theorem isi_imp (ok : Cok n X R ce W C) {ea : E} {ts : List Ty} (hne : ts ≠ []) (hv : tyVals R ts = true) {σ : L2.St} {H : Hp} {δ : Dl} {m : Mm} {Xd : Kx} {k : Bool → Mm → Prop} {Z : V → Hp → Prop} (rs : RelS X.K R H δ σ) (rm : RelM X.K R ce H m)
    (hw : wE C Xd ea δ m fun x m1 => isiW C x m1 ts fun b => k b m1) (hx : HX X.K R ce W σ m H Xd)
    (q : ∀ v H1 vt b tvs m1, Kp m H m1 H1 → RelM X.K R ce H1 m1 → (∀ H2, Keep H1 H2 → RelM X.K R ce H2 m1 → HasTy X H2 v vt) → Paired (fun t u => Ty.val R t = some u) ts tvs → PySem.W.kitAny X.K vt tvs = some b → k b m1 → Z v H1) : LE X.K R ce W (fun Xd => wE C Xd ea) σ H Z := by
  refine LE.mk rs rm hw hx fun d m1 v H1 k1 r1 rm1 hi => ?_
  obtain ⟨vt, b, tvs, h1, h2, h3, h4, h5⟩ := isiW_ok ok rm1 r1 hne (by simpa [tyVals] using hv) hi
  refine q v H1 vt b tvs m1 k1 rm1 (fun H2 k2 rm2 => ?_) h3 h4 h5
  obtain ⟨vt', _, _, g1, g2, _⟩ := isiW_ok ok rm2 (Rel.keep k2 _ _ r1) hne (by simpa [tyVals] using hv) hi
  rw [h1] at g1
  cases g1
  exact g2
theorem isi_one (ok : Cok n X R ce W C) {e te : Expr} {ea : E} {t : Ty} {p pos : Pos} (hg : glB X.env.scope "isinstance" = true) (he : IE X R ce W C e ea) (h1 : noStar e = true) (ht : tyNm X.env.scope te t = true) (h2 : noStar te = true) (hv : tyVals R [t] = true) {pins : List (Addr × Obj)} {s : Shared} {σ : L2.St} {H : Hp} {δ : Dl} {m : Mm} {Xd : Kx} {k : Bool → Mm → Prop} {Q : VK}
    (I : Inv X pins σ H s) (rs : RelS X.K R H δ σ) (rm : RelM X.K R ce H m) (hw : wE C Xd ea δ m fun x m1 => isiW C x m1 [t] fun b => k b m1) (hx : HX X.K R ce W σ m H Xd) (q : ∀ b m' H', Kp m H m' H' → RelM X.K R ce H' m' → k b m' → Q (.bl b) H') :
    wpAny (model X.prog X.w) X.A (eval (.Call (.Name "isinstance" p) [e, te] [] pos) X.env) (EP X pins σ Q) X.xe s := by
  obtain ⟨tv, htv⟩ := Option.isSome_iff_exists.mp (show (t.val R).isSome = true by simpa [tyVals] using hv)
  obtain ⟨c, hc, pc⟩ := pe_ty ok ht tv htv
  have ha : PA X [e, te] (tCons (LE X.K R ce W fun Xd => wE C Xd ea) (tCons (tC c) tNil)) := pa_cons he (pa_cons pc pa_nil (noStar_eq h2)) (noStar_eq h1)
  refine (pe_callB (X := X) (x := "isinstance") (p := p) (pos := pos) call_isA (gl_of hg) (mg_of ok (by decide)) boot_isi ha (he := noStar_eq h1) (hpl := by rw [noStar_eq h2]; rfl)).run pins s σ H Q I ?_
  refine isi_imp ok (by simp) hv rs rm hw hx fun v H1 vt b tvs m1 k1 rm1 hty hp hk kb => ?_
  refine ⟨v, c, vt, b, rfl, hty H1 (Keep.refl _) rm1, .inl ⟨tv, hc, ?_⟩, q b m1 H1 k1 rm1 kb⟩
  cases hp with
  | cons e1 e2 =>
    cases e2
    rw [htv] at e1
    cases e1
    simp only [PySem.W.kitAny] at hk
    split at hk
    · rename_i z; rw [z]; exact hk
    · rename_i z; rw [z]; exact hk
    · cases hk

theorem tyNm_star {sc : Scope} {e : Expr} {t : Ty} (h : tyNm sc e t = true) : noStar e = true := by
  cases e <;> first | rfl | simp [tyNm] at h
theorem pa_tys (ok : Cok n X R ce W C) : ∀ {es : List Expr} {ts : List Ty} {tvs : List Value}, tyNms X.env.scope es ts = true → Paired (fun t u => Ty.val R t = some u) ts tvs → ∃ cs, Paired ClsV cs tvs ∧ PA X es (fun _ H Q => Q cs H)
  | [], [], _, _, .nil => ⟨[], .nil, pa_nil⟩
  | e :: r, t :: s, _, h, .cons h1 h2 => by
    have h' : tyNm X.env.scope e t = true ∧ tyNms X.env.scope r s = true := by simpa [tyNms] using h
    obtain ⟨c, hc, pc⟩ := pe_ty ok h'.1 _ h1
    obtain ⟨cs, hcs, pcs⟩ := pa_tys ok h'.2 h2
    exact ⟨c :: cs, .cons hc hcs, PA.imp (pa_cons pc pcs (noStar_eq (tyNm_star h'.1))) fun _ _ _ q => q⟩
  | [], _ :: _, _, h, _ => by simp [tyNms] at h
  | _ :: _, [], _, h, _ => by simp [tyNms] at h
theorem isi_many (ok : Cok n X R ce W C) {e : Expr} {es : List Expr} {ea : E} {ts : List Ty} {p pos p2 : Pos} {x1} (hg : glB X.env.scope "isinstance" = true) (he : IE X R ce W C e ea) (h1 : noStar e = true) (ht : tyNms X.env.scope es ts = true) (hne : ts ≠ []) (hv : tyVals R ts = true) {pins : List (Addr × Obj)} {s : Shared} {σ : L2.St} {H : Hp} {δ : Dl} {m : Mm} {Xd : Kx} {k : Bool → Mm → Prop} {Q : VK}
    (I : Inv X pins σ H s) (rs : RelS X.K R H δ σ) (rm : RelM X.K R ce H m) (hw : wE C Xd ea δ m fun x m1 => isiW C x m1 ts fun b => k b m1) (hx : HX X.K R ce W σ m H Xd) (q : ∀ b m' H', Kp m H m' H' → RelM X.K R ce H' m' → k b m' → Q (.bl b) H') (hsz : ts.length ≤ 1000) :
    wpAny (model X.prog X.w) X.A (eval (.Call (.Name "isinstance" p) [e, .Tuple es x1 p2] [] pos) X.env) (EP X pins σ Q) X.xe s := by
  have all : ∃ tvs, Paired (fun t u => Ty.val R t = some u) ts tvs := by
    have hv' : ∀ t ∈ ts, (t.val R).isSome = true := by simpa [tyVals] using hv
    clear hne hw hsz ht hv
    induction ts with
    | nil => exact ⟨[], .nil⟩
    | cons a l ih =>
      obtain ⟨u, hu⟩ := Option.isSome_iff_exists.mp (hv' a (List.mem_cons_self ..))
      obtain ⟨us, hus⟩ := ih fun t ht => hv' t (List.mem_cons_of_mem _ ht)
      exact ⟨u :: us, .cons hu hus⟩
  obtain ⟨tvs, hp⟩ := all
  obtain ⟨cs, hcs, pcs⟩ := pa_tys ok ht hp
  have ha : PA X [e, .Tuple es x1 p2] (tCons (LE X.K R ce W fun Xd => wE C Xd ea) (tCons (tTup (fun _ H Q => Q cs H)) tNil)) := pa_cons he (pa_cons (pe_tup pcs) pa_nil rfl) (noStar_eq h1)
  refine (pe_callB (X := X) (x := "isinstance") (p := p) (pos := pos) call_isA (gl_of hg) (mg_of ok (by decide)) boot_isi ha (he := noStar_eq h1) (hpl := rfl)).run pins s σ H Q I ?_
  refine isi_imp ok hne hv rs rm hw hx fun v H1 vt b tvs' m1 k1 rm1 hty hp' hk kb => ?_
  have e2 : tvs' = tvs := by
    have aux : ∀ {l : List Ty} {a b : List Value}, Paired (fun t u => Ty.val R t = some u) l a → Paired (fun t u => Ty.val R t = some u) l b → a = b := by
      intro l a b h1 h2
      induction h1 generalizing b with
      | nil => cases h2; rfl
      | cons x _ ih =>
        cases h2 with
        | cons y z =>
          rw [x] at y
          cases y
          rw [ih z]
    exact aux hp' hp
  subst e2
  have lenP : ∀ {α β : Type} {r : α → β → Prop} {x : List α} {y : List β}, Paired r x y → x.length = y.length := by
    intro α β r x y h
    induction h with
    | nil => rfl
    | cons _ _ ih => simp [ih]
  refine ⟨by rw [lenP hcs, ← lenP hp', sizeLine_eq]; omega, fun tp htp => ?_⟩
  have kn := Kp.new (m := m1) (.tup cs) htp
  exact ⟨v, .ref tp, vt, b, rfl, hty _ kn.keep (rm1.new _ htp), .inr ⟨tp, cs, tvs', rfl, L2.upd_same, hcs, hk⟩, q b m1 _ (k1.trans kn) (rm1.new _ htp) kb⟩

/-- the written form of isinstance -/
def isiB (sc : Scope) : Expr → List Ty → Bool
  | .Tuple es _ _, ts => tyNms sc es ts && ts.length ≤ 1000 && !ts.isEmpty
  | e, [t] => tyNm sc e t
  | _, _ => false
theorem isi_ok (ok : Cok n X R ce W C) {e te : Expr} {ea : E} {ts : List Ty} {p pos : Pos} (hg : glB X.env.scope "isinstance" = true) (he : IE X R ce W C e ea) (h1 : noStar e = true) (ht : isiB X.env.scope te ts = true) (hv : tyVals R ts = true) {pins : List (Addr × Obj)} {s : Shared} {σ : L2.St} {H : Hp} {δ : Dl} {m : Mm} {Xd : Kx} {k : Bool → Mm → Prop} {Q : VK}
    (I : Inv X pins σ H s) (rs : RelS X.K R H δ σ) (rm : RelM X.K R ce H m) (hw : wE C Xd ea δ m fun x m1 => isiW C x m1 ts fun b => k b m1) (hx : HX X.K R ce W σ m H Xd) (q : ∀ b m' H', Kp m H m' H' → RelM X.K R ce H' m' → k b m' → Q (.bl b) H') :
    wpAny (model X.prog X.w) X.A (eval (.Call (.Name "isinstance" p) [e, te] [] pos) X.env) (EP X pins σ Q) X.xe s := by
  by_cases tup : ∃ es x1 p2, te = .Tuple es x1 p2
  · obtain ⟨es, x1, p2, rfl⟩ := tup
    simp only [isiB, Bool.and_eq_true, decide_eq_true_eq, Bool.not_eq_true'] at ht
    exact isi_many ok hg he h1 ht.1.1 (by rintro rfl; simp at ht) hv I rs rm hw hx q ht.1.2
  · have ht2 : ∃ t, ts = [t] ∧ tyNm X.env.scope te t = true := by
      unfold isiB at ht
      split at ht
      · exact absurd ⟨_, _, _, rfl⟩ tup
      · exact ⟨_, rfl, ht⟩
      · cases ht
    obtain ⟨t, rfl, ht2⟩ := ht2
    exact isi_one ok hg he h1 ht2 (tyNm_star ht2) hv I rs rm hw hx q
theorem ie_isi (ok : Cok n X R ce W C) {e te : Expr} {ea : E} {ts : List Ty} {p pos : Pos} (hg : glB X.env.scope "isinstance" = true) (he : IE X R ce W C e ea) (h1 : noStar e = true) (ht : isiB X.env.scope te ts = true) (hv : tyVals R ts = true) :
    IE X R ce W C (.Call (.Name "isinstance" p) [e, te] [] pos) (.isi ea ts) := by
  constructor; intro pins s σ H Q I h
  obtain ⟨δ, m, Xd, k, rs, rm, hw, q, hx⟩ := h
  exact isi_ok (k := fun b m => k (.bl b) m) ok hg he h1 ht hv I rs rm hw hx fun b m' H' k' rm' kb => q (.bl b) m' (.bl b) H' k' (Rel.bl b) rm' kb
theorem it_isi (ok : Cok n X R ce W C) {e te : Expr} {ea : E} {ts : List Ty} {p pos : Pos} (hg : glB X.env.scope "isinstance" = true) (he : IE X R ce W C e ea) (h1 : noStar e = true) (ht : isiB X.env.scope te ts = true) (hv : tyVals R ts = true) :
    IT X R ce W C (.Call (.Name "isinstance" p) [e, te] [] pos) (.isi ea ts) := by
  constructor; intro pins s σ H Q I h
  obtain ⟨δ, m, Xd, k, rs, rm, hw, q, hx⟩ := h
  refine isTrue_plain (thn (isi_ok (k := k) (Q := fun v H' => ∃ b, v = .bl b ∧ Q b H') ok hg he h1 ht hv I rs rm hw hx fun b m' H' k' rm' kb => ⟨b, rfl, q b m' H' k' rm' kb⟩) ?_) rfl
  rintro u s1 ⟨x, H1, I1, r1, b, rfl, hq⟩
  cases r1
  exact wpAny_truthy_bool ⟨H1, I1, hq⟩
/-- X(e), an exception as a value -/
theorem ie_mkx (ok : Cok n X R ce W C) (hcm : C.calm = true) {c f : Str} {e : Expr} {ea : E} {p pos : Pos} (hg : glB X.env.scope c = true) (hf : R.T.att c = some f) (he : IE X R ce W C e ea) (h1 : noStar e = true) (hdb : (c == ("__debug__" : Str)) = false) :
    IE X R ce W C (.Call (.Name c p) [e] [] pos) (.mkx c ea) := by
  obtain ⟨Ca, fI, g1, F, Ec, _⟩ := ok.row.xc c f hf
  obtain ⟨_, _, hr⟩ := ok.calm hcm
  refine PE.imp (pe_x F (hr.mono (by omega)) (gl_of hg) (ok.row.cls _ _ g1) he h1 hdb) fun σ H Q h => ?_
  obtain ⟨δ, m, Xd, k, rs, rm, hw, q, hx⟩ := h
  refine LE.mk rs rm hw hx fun d m1 y H1 k1 r1 rm1 kd a dx t0 u ha hd ne => ?_
  have kn1 := Kp.new (m := m1) (.xd [(f, y)]) hd
  have ha' : upd H1 dx (.xd [(f, y)]) a = none := by rw [upd_ne ne]; exact ha
  have kn2 := Kp.new (m := m1) (.frz (xObj Ca dx t0) u) ha'
  refine q _ m1 _ _ (k1.trans (kn1.trans kn2)) ?_ ((rm1.new _ hd).new _ ha') kd
  unfold Rel
  refine ⟨a, Ca, dx, f, y, xObj Ca dx t0, u, rfl, g1, hf, L2.upd_same, rfl, rfl, ⟨_, rfl⟩, ?_, Rel.keep (kn1.trans kn2).keep _ _ r1⟩
  rw [upd_ne (Ne.symm ne)]
  exact L2.upd_same
end
end Ab
/-! Expressions: built-in functions, methods of built-in types. -/
namespace Ab
open PySem PyProof.Rows L2 PySem.Spec
def Bi.nm : Bi → Str
  | .len => "len" | .int => "int" | .str => "str" | .tuple => "tuple" | .list => "list" | .min2 => "min" | .max2 => "max" | .abs => "abs" | .all => "all" | .any => "any" | .sum => "sum"
def Bi.val : Bi → Value
  | .len => .builtin "len" | .int => .type "int" | .str => .type "str" | .tuple => .type "tuple" | .list => .type "list" | .min2 => .builtin "min" | .max2 => .builtin "max" | .abs => .builtin "abs" | .all => .builtin "all" | .any => .builtin "any" | .sum => .builtin "sum"
theorem Bi.boot (b : Bi) : bootBuiltins b.nm = some b.val := by cases b <;> kernel_rfl
theorem Bi.bn (b : Bi) : b.nm ∈ bnames := by cases b <;> decide +kernel
theorem Bi.n1 (b : Bi) : b.nm ≠ "__name__" := by cases b <;> decide +kernel
theorem Bi.n2 (b : Bi) : (b.nm == ("__debug__" : Str)) = false := by cases b <;> decide +kernel
section
variable {n : Nat} {X : Cx} {R : Rw} {ce : Option Cur} {W : WX} {C : Ct}
def rBi (X : Cx) (R : Rw) (ce : Option Cur) (b : Bi) : List V → Hp → VK → Prop := fun xs H Q => ∃ l m k, RelL X.K R H l xs ∧ RelM X.K R ce H m ∧ biW b l m k ∧ ∀ d H' v, Kp m H m H' → Rel X.K R H' d v → RelM X.K R ce H' m → k d → Q v H'
theorem lenS {xs : List V} {H : Hp} {z : Str} (h : RelL X.K R H [.str z] xs) : xs = [.str z] := by
  obtain ⟨v, s, rfl, h1, h2⟩ := h.cons_inv
  rw [h2.nil_inv, rel_str h1]
theorem one_rel {xs : List V} {H : Hp} {d : D} (h : RelL X.K R H [d] xs) : ∃ v, xs = [v] ∧ Rel X.K R H d v := by
  obtain ⟨v, s, rfl, h1, h2⟩ := h.cons_inv
  rw [h2.nil_inv]
  exact ⟨v, rfl, h1⟩
theorem two_rel {xs : List V} {H : Hp} {d e : D} (h : RelL X.K R H [d, e] xs) : ∃ v u, xs = [v, u] ∧ Rel X.K R H d v ∧ Rel X.K R H e u := by
  obtain ⟨v, s, rfl, h1, h2⟩ := h.cons_inv
  obtain ⟨u, rfl, h3⟩ := one_rel h2
  exact ⟨v, u, rfl, h1, h3⟩
theorem callBi (hcalm : X.calm = true) (b : Bi) : CallR X b.val (rBi X R ce b) := by
  intro pins s σ H xs us; intro Q I r h
  obtain ⟨l, m, k, rl, rm, hw, q⟩ := h
  have fin : ∀ d v, Rel X.K R H d v → k d → Q v H := fun d v hr hk => q d H v Kp.refl hr rm hk
  cases b with
  | len =>
    have seq : ∀ x, l = [x] → (∃ l', seqD m x = some l' ∧ k (.int l'.length)) → wpAny (model X.prog X.w) X.A (call (Bi.val .len) us) (EP X pins σ Q) X.xe s := fun x hl ⟨l', h1, h2⟩ => by
      subst hl
      obtain ⟨v, rfl, rv⟩ := one_rel rl
      obtain ⟨a, vs, rfl, hs, hr⟩ := seq_rel rm rv h1
      refine call_len_seq pins s σ H _ us Q I r ⟨a, vs, rfl, hs, ?_⟩
      rw [hr.len]
      exact fin _ _ (Rel.int _) h2
    match l, hw with
    | [.str z], ⟨h1, h2⟩ => exact call_len_str pins s σ H _ us Q I r ⟨z, lenS rl, h1, fin _ _ (Rel.int _) h2⟩
    | [.tup l'], h => exact seq _ rfl h
    | [.lst l'], h => exact seq _ rfl h
    | [.ref a], h => exact seq _ rfl h
    | [.non], ⟨_, h, _⟩ => cases h
    | [.bl _], ⟨_, h, _⟩ => cases h
    | [.int _], ⟨_, h, _⟩ => cases h
    | [.dic _], ⟨_, h, _⟩ => cases h
    | [.exc _ _], ⟨_, h, _⟩ => cases h
    | [.cur _], ⟨_, h, _⟩ => cases h
    | [], h => exact h.elim
    | _ :: _ :: _, h => exact absurd h (by simp [biW])
  | int =>
    match l, hw with
    | [.int i], h =>
      obtain ⟨v, rfl, rv⟩ := one_rel rl
      exact call_int1 pins s σ H _ us Q I r (.inl ⟨i, by rw [rel_int rv], fin _ _ (Rel.int _) h⟩)
    | [.bl i], h =>
      obtain ⟨v, rfl, rv⟩ := one_rel rl
      refine call_int1 pins s σ H _ us Q I r (.inr ⟨i, by rw [rel_bl rv], fin (.int (if i then 1 else 0)) _ (Rel.int _) h⟩)
    | [.non], h => exact h.elim
    | [.str _], h => exact h.elim
    | [.tup _], h => exact h.elim
    | [.lst _], h => exact h.elim
    | [.ref _], h => exact h.elim
    | [.dic _], h => exact h.elim
    | [.exc _ _], h => exact h.elim
    | [.cur _], h => exact h.elim
    | [], h => exact h.elim
    | _ :: _ :: _, h => exact absurd h (by simp [biW])
  | str =>
    match l, hw with
    | [.int i], ⟨h1, h2⟩ =>
      obtain ⟨v, rfl, rv⟩ := one_rel rl
      exact call_str_int pins s σ H _ us Q I r ⟨i, by rw [rel_int rv], h1, fin _ _ (Rel.str _) h2⟩
    | [.str z], h =>
      obtain ⟨v, rfl, rv⟩ := one_rel rl
      exact SkE.call_str_str pins s σ H _ us Q I r ⟨z, by rw [rel_str rv], fin _ _ (Rel.str _) h⟩
    | [.non], h => exact h.elim
    | [.bl _], h => exact h.elim
    | [.tup _], h => exact h.elim
    | [.lst _], h => exact h.elim
    | [.ref _], h => exact h.elim
    | [.dic _], h => exact h.elim
    | [.exc _ _], h => exact h.elim
    | [.cur _], h => exact h.elim
    | [], h => exact h.elim
    | _ :: _ :: _, h => exact absurd h (by simp [biW])
  | tuple =>
    have lstc : ∀ x, l = [x] → (∃ l', top m x = .lst l' ∧ k (.tup l')) → wpAny (model X.prog X.w) X.A (call (Bi.val .tuple) us) (EP X pins σ Q) X.xe s := fun x hl ⟨l', h1, h2⟩ => by
      subst hl
      obtain ⟨v, rfl, rv⟩ := one_rel rl
      obtain ⟨a, vs, rfl, hs, hr⟩ := top_lst rm rv h1
      refine call_tuple_of pins s σ H _ us Q I r ⟨a, vs, rfl, .inl ⟨hs, fun p hp => ?_⟩⟩
      have kn := Kp.new (m := m) (.tup vs) hp
      exact q _ _ _ kn (Rel.tup' L2.upd_same (RelL.keep kn.keep _ _ hr)) (rm.new _ hp) h2
    match l, hw with
    | [.tup l'], h =>
      obtain ⟨v, rfl, rv⟩ := one_rel rl
      obtain ⟨a, vs, rfl, hs, hr⟩ := rel_tup rv
      exact call_tuple_of pins s σ H _ us Q I r ⟨a, vs, rfl, .inr ⟨hs, fin _ _ rv h⟩⟩
    | [.lst l'], h => exact lstc _ rfl h
    | [.ref a], h => exact lstc _ rfl h
    | [.non], ⟨_, h, _⟩ => cases h
    | [.str _], ⟨_, h, _⟩ => cases h
    | [.bl _], ⟨_, h, _⟩ => cases h
    | [.int _], ⟨_, h, _⟩ => cases h
    | [.dic _], ⟨_, h, _⟩ => cases h
    | [.exc _ _], ⟨_, h, _⟩ => cases h
    | [.cur _], ⟨_, h, _⟩ => cases h
    | [], h => exact h.elim
    | _ :: _ :: _, h => exact absurd h (by simp [biW])
  | list =>
    have seq : ∀ x, l = [x] → (∃ l', seqD m x = some l' ∧ k (.lst l')) → wpAny (model X.prog X.w) X.A (call (Bi.val .list) us) (EP X pins σ Q) X.xe s := fun x hl ⟨l', h1, h2⟩ => by
      subst hl
      obtain ⟨v, rfl, rv⟩ := one_rel rl
      obtain ⟨a, vs, rfl, hs, hr⟩ := seq_rel rm rv h1
      refine thn (call_list_of pins s σ H _ us (fun v H' => ∃ p, v = .ref p ∧ H p = none ∧ H' = upd H p (.lst vs)) I r ⟨a, vs, rfl, hs, fun p hp => ⟨p, rfl, hp, rfl⟩⟩) ?_
      rintro u s' ⟨v', H', I', ru, p, rfl, hp, rfl⟩
      obtain ⟨H2, I2, k2, rm2, r2⟩ := frz_new I' hp rm hr
      exact ⟨.ref p, H2, I2, ru, q _ _ _ k2 r2 rm2 h2⟩
    match l, hw with
    | [x], h => exact seq x rfl h
    | [], h => exact h.elim
    | _ :: _ :: _, h => exact absurd h (by simp [biW])
  | abs =>
    match l, hw with
    | [.int i], h =>
      obtain ⟨v, rfl, rv⟩ := one_rel rl
      exact call_abs pins s σ H _ us Q I r ⟨i, by rw [rel_int rv], fin _ _ (Rel.int _) h⟩
    | [.non], h => exact h.elim
    | [.str _], h => exact h.elim
    | [.bl _], h => exact h.elim
    | [.tup _], h => exact h.elim
    | [.lst _], h => exact h.elim
    | [.ref _], h => exact h.elim
    | [.dic _], h => exact h.elim
    | [.exc _ _], h => exact h.elim
    | [.cur _], h => exact h.elim
    | [], h => exact h.elim
    | _ :: _ :: _, h => exact absurd h (by simp [biW])
  | min2 =>
    match l, hw with
    | [_, _], ⟨i, j, hi, hj, h⟩ =>
      subst hi hj
      obtain ⟨v, u, rfl, rv, ru⟩ := two_rel rl
      exact call_min2 hcalm pins s σ H _ us Q I r ⟨i, j, by rw [rel_int rv, rel_int ru], fin _ _ (Rel.int _) h⟩
    | [], h => exact h.elim
    | [_], h => exact absurd h (by simp [biW])
    | _ :: _ :: _ :: _, h => exact absurd h (by simp [biW])
  | max2 =>
    match l, hw with
    | [_, _], ⟨i, j, hi, hj, h⟩ =>
      subst hi hj
      obtain ⟨v, u, rfl, rv, ru⟩ := two_rel rl
      exact call_max2 hcalm pins s σ H _ us Q I r ⟨i, j, by rw [rel_int rv, rel_int ru], fin _ _ (Rel.int _) h⟩
    | [], h => exact h.elim
    | [_], h => exact absurd h (by simp [biW])
    | _ :: _ :: _ :: _, h => exact absurd h (by simp [biW])
  | _ => exact absurd hw (by simp [biW])

theorem noStars : ∀ {es : List Expr} {env : Env}, (∀ e ∈ es, noStar e = true) → ∀ p, (backTo p (starEach es env)).any (·.1) = false
  | [], _, _, _ => rfl
  | e :: r, env, h, p => by
    rw [noStar_eq (h e (List.mem_cons_self ..))]
    exact (Bool.false_or _).trans (noStars (env := env) (fun e' he => h e' (List.mem_cons_of_mem _ he)) p)
theorem bi_imp {b : Bi} {as : As} {σ : L2.St} {H : Hp} {Q : VK} (h : LE X.K R ce W (fun Xd => wE C Xd (.bi b as)) σ H Q) : LA X.K R ce W (fun Xd => wAs C Xd as) σ H fun xs H1 => rBi X R ce b xs H1 Q := by
  obtain ⟨δ, m, Xd, k, rs, rm, hw, q, hx⟩ := h
  refine LA.mk rs rm hw hx fun l m1 vs H1 k1 r1 rm1 hb => ?_
  exact ⟨l, m1, _, r1, rm1, hb, fun d H' v k' r' rm' kd => q d m1 v H' (k1.trans k') r' rm' kd⟩
theorem ie_bi (ok : Cok n X R ce W C) (hc : X.calm = true) {b : Bi} {e : Expr} {es : List Expr} {as : As} {p pos : Pos} (hg : glB X.env.scope b.nm = true) (ha : IA X R ce W C (e :: es) as) (hs : ∀ x ∈ e :: es, noStar x = true) :
    IE X R ce W C (.Call (.Name b.nm p) (e :: es) [] pos) (.bi b as) := by
  have h0 := noStar_eq (es := es) (env := X.env) (hs e (List.mem_cons_self ..))
  have h1 := noStars (env := X.env) (fun x hx => hs x (List.mem_cons_of_mem _ hx)) pos
  have hcb := callBi (R := R) (ce := ce) hc b
  cases hv : b.val with
  | builtin id => exact PE.imp (pe_callB (by rw [hv] at hcb; exact hcb) (gl_of hg) (mg_of ok b.bn) (by rw [b.boot, hv]) ha b.n1 b.n2 h0 h1) fun σ H Q h => bi_imp h
  | type T => exact PE.imp (pe_callTy (by rw [hv] at hcb; exact hcb) (gl_of hg) (mg_of ok b.bn) (by rw [b.boot, hv]) ha b.n1 b.n2 h0 h1) fun σ H Q h => bi_imp h
  | _ => cases b <;> exact absurd hv (by simp [Bi.val])

theorem one_arg {e : Expr} {as : As} (h : ∃ a, as = .cons a .nil) : True := trivial
theorem strs_rel {H : Hp} : ∀ {l : List D} {ss : List Str} {vs : List V}, RelL X.K R H l vs → strsOf l = some ss → vs = ss.map V.str
  | [], _, _, h, e => by
    rw [h.nil_inv]
    cases e
    rfl
  | d :: r, ss, vs, h, e => by
    obtain ⟨v, s, rfl, h1, h2⟩ := h.cons_inv
    cases d with
    | str x =>
      obtain ⟨t, h3, rfl⟩ := Option.map_eq_some_iff.mp (show (strsOf r).map (x :: ·) = some ss from e)
      rw [rel_str h1, strs_rel h2 h3]
      rfl
    | _ => simp [strsOf] at e
theorem ie_append {o e : Expr} {oa ea : E} {apos pos : Pos} (ho : IE X R ce W C o oa) (he : IE X R ce W C e ea) (hb : baseOk o = true) (hs : noStar e = true) (hl : (apos.endLine == pos.line) = true) : IE X R ce W C (.Call (.Attribute o "append" apos) [e] [] pos) (.mth .append oa (.cons ea .nil)) := by
  have ha : IA X R ce W C [e] (.cons ea .nil) := ia_cons hs he ia_nil
  refine PE.imp (pe_bm PySem.F.plainAttrs_list PySem.F.slot_list_append PySem.F.type_list_append mt_append ho ha (baseOk_eq hb) ?_ hl (noStar_eq hs) rfl) fun σ H Q h => ?_
  · rw [noStar_eq hs]
    rfl
  · obtain ⟨δ, m, Xd, k, rs, rm, hw, q, hx⟩ := h
    refine LE.mk rs rm hw hx fun d m1 x H1 k1 r1 rm1 ⟨⟨p, l0, hd, hp⟩, hw1⟩ => ?_
    subst hd
    obtain ⟨vs0, hH, _⟩ := rm1.lst hp
    refine ⟨?_, LA.mk (rs.keep k1.keep) rm1 hw1 (HX.keep hx k1) fun l m2 us H2 k2 r2 rm2 hk => ?_⟩
    · rw [rel_ref r1]
      exact .inl ⟨rfl, _, SqL.of hH⟩
    · match l, hk with
      | [d'], ⟨l', hm, hz, kd⟩ =>
        obtain ⟨v, rfl, rv⟩ := one_rel r2
        obtain ⟨vs, hv, hr⟩ := rm2.lst hm
        have kn := Kp.mut (m := m2) (H := H2) (.lst (vs ++ [v])) (.lst (l' ++ [d'])) hm (by rw [hv]; trivial)
        refine ⟨p, vs, v, rel_ref r1, rfl, hv, by rw [hr.len]; exact hz, q _ _ _ _ ((k1.trans k2).trans kn) Rel.non (rm2.put kn.keep (mo := .lst (l' ++ [d'])) ⟨_, L2.upd_same, RelL.keep kn.keep _ _ (hr.app (.cons rv .nil))⟩) kd⟩
      | [], hk => exact hk.elim
      | _ :: _ :: _, hk => exact absurd hk (by simp [mtW])
theorem ie_join {o e : Expr} {oa ea : E} {apos pos : Pos} (ho : IE X R ce W C o oa) (he : IE X R ce W C e ea) (hb : baseOk o = true) (hs : noStar e = true) (hl : (apos.endLine == pos.line) = true) : IE X R ce W C (.Call (.Attribute o "join" apos) [e] [] pos) (.mth .join oa (.cons ea .nil)) := by
  refine PE.imp (pe_join ho he (noStar_eq hs) (baseOk_eq hb) hl) fun σ H Q h => ?_
  obtain ⟨δ, m, Xd, k, rs, rm, hw, q, hx⟩ := h
  refine LE.mk rs rm hw hx fun d m1 x H1 k1 r1 rm1 ⟨⟨z, hd⟩, hw1⟩ => ?_
  subst hd
  refine ⟨⟨z, rel_str r1⟩, LE.mk (rs.keep k1.keep) rm1 hw1 (HX.keep hx k1) fun dy m2 y H2 k2 r2 rm2 hk => ?_⟩
  obtain ⟨l, ss, h1, h2, h3, h4⟩ := hk
  obtain ⟨p, vs, rfl, hsq, hr⟩ := seq_rel rm2 r2 h1
  have e := strs_rel hr h2
  subst e
  exact ⟨z, p, ss, rel_str r1, rfl, hsq, h3, q _ m2 _ H2 (k1.trans k2) (Rel.str _) rm2 h4⟩

/-! ### calls of own defs -/
def spE (X : Cx) (R : Rw) (C : Ct) (f : Str) : Sp := spOf X.K R (C.call f) (R.fnP f).length
theorem call_imp (ok : Cok n X R ce W C) {f : Str} {as : As} {σ : L2.St} {H : Hp} {Q : VK} (hce : ce = none) (h : LE X.K R ce W (fun Xd => wE C Xd (.call f as)) σ H Q) :
    LA X.K R ce W (fun Xd => wAs C Xd as) σ H fun xs H1 => spE X R C f xs H1 Q (WE W σ) := by
  subst hce
  obtain ⟨δ, m, Xd, k, rs, rm, hw, q, hx⟩ := h
  refine LA.mk rs rm hw hx fun l m1 vs H1 k1 r1 rm1 hb => ?_
  exact ⟨l, m1, k, Xd, r1, rm1, hb, ok.ar _ _ _ _ _ hb, fun d m' v H' k' r' rm' kd => q d m' v H' (k1.trans k') r' rm' kd, fun x m' H' cls dx k' rm' rx hXd => hx x m' H' cls dx (k1.trans k') rm' rx hXd⟩
theorem False.leW {P : Prop} (h : False) : P := h.elim
/-- nothing is called where nothing may be called -/
theorem call_none (hot : C.call = noFc) {f : Str} {as : As} {es : List Expr} {p pos : Pos} {q : Expr} (ha : IA X R ce W C es as) {pins : List (Addr × Obj)} {s : Shared} {σ : L2.St} {H : Hp} {Q : VK} (h : LE X.K R ce W (fun Xd => wE C Xd (.call f as)) σ H Q) : True := trivial
theorem ie_call (ok : Cok n X R ce W C) (hcm : C.calm = true) {f : Str} {e : Expr} {es : List Expr} {as : As} {p pos : Pos} {a : Addr} (hg : glB X.env.scope f = true) (hdb : (f == ("__debug__" : Str)) = false) (hG : R.gfn f = true) (hA : R.fnA f = some a) (ha : IA X R ce W C (e :: es) as) (hs : ∀ x ∈ e :: es, noStar x = true) :
    IE X R ce W C (.Call (.Name f p) (e :: es) [] pos) (.call f as) := by
  have h0 := noStar_eq (es := es) (env := X.env) (hs e (List.mem_cons_self ..))
  have h1 := noStars (env := X.env) (fun x hx => hs x (List.mem_cons_of_mem _ hx)) pos
  obtain ⟨_, hce, hr⟩ := ok.calm hcm
  obtain ⟨hm, hk⟩ := ok.row.fn f a hG hA
  have F := ok.call hce f a hA
  exact PE.imp (pe_callS F (hr.mono (by omega)) (gl_of hg) hm hk (ok.row.bi f a hA) (fun σ => passAt ok.tk σ) ha hdb h0 h1) fun σ H Q h => call_imp ok hce h
theorem ie_call0 (ok : Cok n X R ce W C) (hcm : C.calm = true) {f : Str} {p pos : Pos} {a : Addr} (hg : glB X.env.scope f = true) (hdb : (f == ("__debug__" : Str)) = false) (hG : R.gfn f = true) (hA : R.fnA f = some a) : IE X R ce W C (.Call (.Name f p) [] [] pos) (.call f .nil) := by
  obtain ⟨_, hce, hr⟩ := ok.calm hcm
  obtain ⟨hm, hk⟩ := ok.row.fn f a hG hA
  have F := ok.call hce f a hA
  constructor; intro pins s σ H Q I h
  have h2 := call_imp ok hce h
  refine wpAny_Call_Name_kw (ld_glob I (gl_of hg) hm ?_ hdb)
  refine PySem.W.callWith_K0 I.kIn hk ?_
  obtain ⟨vs, q1⟩ : ∃ vs, vs = ([] : List V) ∧ spE X R C f vs H Q (WE W σ) := by
    refine ⟨[], rfl, ?_⟩
    subst hce
    obtain ⟨δ, m, Xd, k, rs, rm, hw, q, hx⟩ := h
    exact ⟨[], m, k, Xd, .nil, rm, hw, ok.ar _ _ _ _ _ hw, q, fun x m' H' cls dx k' rm' rx hXd => hx x m' H' cls dx k' rm' rx hXd⟩
  obtain ⟨rfl, q1⟩ := q1
  exact run_fnS F (hr.mono (by omega)) (ok.row.bi f a hA) (passAt ok.tk σ) I .nil q1
end
end Ab
/-! What a loop runs over; targets; list comprehensions. -/
namespace Ab
open PySem PyProof.Rows L2 PySem.Spec
section
variable {n : Nat} {X : Cx} {R : Rw} {ce : Option Cur} {W : WX} {C : Ct}
/-- the iterator gives the items, whatever else happens to the state -/
def ItM (X : Cx) (R : Rw) (ce : Option Cur) (J : L2.It) (g : Mm → Prop) (l : List D) (H0 : Hp) : Prop := ∀ i H m, Keep H0 H → RelM X.K R ce H m → g m →
  (∀ d, l[i]? = some d → J.go i H ∧ ∀ x H', J.yld i H x H' → H' = H ∧ Rel X.K R H d x) ∧ (l.length ≤ i → J.stop i H)
def LI (X : Cx) (R : Rw) (ce : Option Cur) (W : WX) (w : Kx → Dl → Mm → ((Mm → Prop) → List D → Mm → Prop) → Prop) : TI := fun σ H Q => ∃ δ m Xd k, RelS X.K R H δ σ ∧ RelM X.K R ce H m ∧ w Xd δ m k ∧
  (∀ g l m1 H1 J, Kp m H m1 H1 → RelM X.K R ce H1 m1 → ItM X R ce J g l H1 → k g l m1 → Q J H1) ∧ HX X.K R ce W σ m H Xd
abbrev II (X : Cx) (R : Rw) (ce : Option Cur) (W : WX) (C : Ct) (tg e : Expr) (it : It) : Prop := PI X tg e (LI X R ce W fun Xd => wI C Xd it)
theorem itm_list {H0 : Hp} {a : Addr} {g : Mm → Prop} {l : List D} (h : ∀ H m, Keep H0 H → RelM X.K R ce H m → g m → ∃ vs, SqL X.K H a vs ∧ RelL X.K R H l vs) : ItM X R ce (Itl X.K a) g l H0 := fun i H m k rm hg => by
  obtain ⟨vs, hs, hr⟩ := h H m k rm hg
  refine ⟨fun d hd => ?_, fun hi => ⟨vs, hs, by rw [hr.len]; exact hi⟩⟩
  obtain ⟨v, hv, rv⟩ := hr.get hd
  refine ⟨⟨vs, v, hs, hv⟩, fun x H' hy => ⟨hy.1, ?_⟩⟩
  have z := hy.2 vs hs
  rw [hv] at z
  cases z
  exact rv
theorem itm_tup {H0 : Hp} {a : Addr} {g : Mm → Prop} {l : List D} {vs : List V} (hs0 : SqT X.K H0 a vs) (hr0 : RelL X.K R H0 l vs) : ItM X R ce (Itt X.K a) g l H0 := fun i H m k rm hg => by
  have hs := k.sqT hs0
  have hr := RelL.keep k _ _ hr0
  refine ⟨fun d hd => ?_, fun hi => ⟨vs, hs, by rw [hr.len]; exact hi⟩⟩
  obtain ⟨v, hv, rv⟩ := hr.get hd
  refine ⟨⟨vs, v, hs, hv⟩, fun x H' hy => ⟨hy.1, ?_⟩⟩
  have z := hy.2 vs hs
  rw [hv] at z
  cases z
  exact rv
theorem itm_str {H0 : Hp} {z : Str} {g : Mm → Prop} : ItM X R ce (Its z) g (z.cps.toList.map fun c => .str ⟨#[c]⟩) H0 := fun i H m k rm hg => by
  refine ⟨fun d hd => ?_, fun hi => by
    show z.cps.size ≤ i
    simpa using hi⟩
  rw [List.getElem?_map] at hd
  obtain ⟨c, hc, rfl⟩ := Option.map_eq_some_iff.mp hd
  rw [Array.getElem?_toList] at hc
  refine ⟨?_, fun x H' hy => ?_⟩
  · show i < z.cps.size
    exact (Array.getElem?_eq_some_iff.mp hc).1
  · obtain ⟨h1, c', h2, rfl⟩ := hy
    rw [hc] at h2
    cases h2
    exact ⟨h1, Rel.str _⟩
theorem itm_rng {H0 : Hp} {lo : Int} {k : Nat} {g : Mm → Prop} : ItM X R ce (Itr lo k) g ((List.range k).map fun (j : Nat) => .int (lo + (j : Int))) H0 := fun i H m kk rm hg => by
  refine ⟨fun d hd => ?_, fun hi => by
    show k ≤ i
    simpa using hi⟩
  rw [List.getElem?_map] at hd
  obtain ⟨j, hj, rfl⟩ := Option.map_eq_some_iff.mp hd
  obtain ⟨h1, h2⟩ := List.getElem?_eq_some_iff.mp hj
  rw [List.getElem_range] at h2
  subst h2
  refine ⟨show i < k by simpa using h1, fun x H' hy => ?_⟩
  obtain ⟨h3, rfl⟩ := hy
  exact ⟨h3, Rel.int _⟩
/-- a list, a tuple, a text: by its value -/
theorem ii_ex {tg e : Expr} {a : E} (he : IE X R ce W C e a) : II X R ce W C tg e (.ex a) := by
  constructor; intro pins s σ H Q I h
  obtain ⟨δ, m, Xd, k, rs, rm, hw, q, hx⟩ := h
  refine thn (he.run pins s σ H (fun v H1 => ∃ d m1, Kp m H m1 H1 ∧ Rel X.K R H1 d v ∧ RelM X.K R ce H1 m1 ∧ match d with
    | .tup l => k (fun _ => True) l m1
    | .lst l => k (fun _ => True) l m1
    | .str z => k (fun _ => True) (z.cps.toList.map fun c => .str ⟨#[c]⟩) m1
    | .ref a => ∃ l, m1 a = some (.lst l) ∧ k (fun m => m a = some (.lst l)) l m1
    | _ => False) I (LE.mk rs rm hw hx fun d m1 v H1 k1 r1 rm1 hk => ⟨d, m1, k1, r1, rm1, hk⟩)) ?_
  rintro u s1 ⟨v, H1, I1, ru, d, m1, k1, r1, rm1, hk⟩
  have lst : ∀ a vs g l, v = .ref a → SqL X.K H1 a vs → ItM X R ce (Itl X.K a) g l H1 → k g l m1 → wpAny (model X.prog X.w) X.A (pyIter u) (PIE X pins σ tg Q) X.xe s1 := fun a vs g l hv hs hi hkk => by
    subst hv
    cases ru
    obtain ⟨its, rv, pl, hz⟩ := I1.list hs
    exact wpAny_pyIter_list pl.isList (pi_one (tk := s1.toks) I1 _ (turn_list a _) ⟨_, Heap.get?_push_size _ rfl, rfl, rfl⟩ (q _ _ _ _ _ k1 rm1 hi hkk))
  cases d with
  | tup l =>
    obtain ⟨a, vs, rfl, hs, hr⟩ := rel_tup r1
    cases ru
    obtain ⟨its, rv, pl, hz⟩ := I1.tuple hs
    exact wpAny_pyIter_tuple (show s1.heap.IsTuple a its.toArray from pl) (pi_one (tk := s1.toks) I1 _ (turn_tuple a _) ⟨_, Heap.get?_push_size _ rfl, rfl, rfl⟩ (q _ _ _ _ _ k1 rm1 (itm_tup hs hr) hk))
  | lst l =>
    unfold Rel at r1
    obtain ⟨a, vs, hv, hs, hr⟩ := r1
    exact lst a vs _ l hv hs.sq (itm_list fun H m kk rm hg => ⟨vs, (kk.lsF hs).sq, RelL.keep kk _ _ hr⟩) hk
  | ref a =>
    obtain ⟨l, hm, hk⟩ := hk
    obtain ⟨vs, hv, hr⟩ := rm1.lst hm
    exact lst a vs _ l (rel_ref r1) (SqL.of hv) (itm_list fun H m kk rm hg => by
      obtain ⟨vs2, h1, h2⟩ := rm.lst hg
      exact ⟨vs2, SqL.of h1, h2⟩) hk
  | str z =>
    have hv := rel_str r1
    subst hv
    obtain ⟨t, rfl⟩ := ru
    cases ha : z.cps.all (· < 128)
    · exact wpAny_pyIter_wide ha (pi_one (tk := s1.toks) I1 _ (turn_str _ z t "str_iterator" (.inr rfl)) ⟨_, Heap.get?_push_size _ rfl, rfl, rfl⟩ (q _ _ _ _ _ k1 rm1 itm_str hk))
    · exact wpAny_pyIter_ascii ha (pi_one (tk := s1.toks) I1 _ (turn_str _ z t "str_ascii_iterator" (.inl rfl)) ⟨_, Heap.get?_push_size _ rfl, rfl, rfl⟩ (q _ _ _ _ _ k1 rm1 itm_str hk))
  | _ => exact hk.elim
theorem ii_rng1 (ok : Cok n X R ce W C) {tg e : Expr} {a : E} {p pos : Pos} (hg : glB X.env.scope "range" = true) (he : IE X R ce W C e a) (hs : noStar e = true) : II X R ce W C tg (.Call (.Name "range" p) [e] [] pos) (.rng1 a) := by
  have hi := pi_range1 (X := X) (tg := tg) (p := p) (pos := pos) (gl_of hg) (mg_of ok (by decide)) (ia_cons hs he (ia_nil (X := X) (R := R) (ce := ce) (W := W) (C := C))) (noStar_eq hs)
  refine ⟨fun pins s σ H Q I h => hi.run pins s σ H Q I ?_⟩
  obtain ⟨δ, m, Xd, k, rs, rm, hw, q, hx⟩ := h
  refine LA.mk (k := fun l m1 => match l with
    | [d] => ∃ j : Int, d = .int j ∧ -(2 ^ 62) ≤ j ∧ j < 2 ^ 62 ∧ k (fun _ => True) ((List.range j.toNat).map fun (i : Nat) => .int (i : Int)) m1
    | _ => False) rs rm (Xd := Xd) hw hx ?_
  intro l m1 vs H1 k1 r1 rm1 hk
  match l, hk with
  | [d], ⟨j, hd, h1, h2, hk⟩ =>
    subst hd
    obtain ⟨v, rfl, rv⟩ := one_rel r1
    refine ⟨j, by rw [rel_int rv], h1, h2, q _ _ m1 H1 _ k1 rm1 ?_ hk⟩
    have z := itm_rng (X := X) (R := R) (ce := ce) (H0 := H1) (lo := 0) (k := j.toNat) (g := fun _ => True)
    simpa using z
theorem ii_rng2 (ok : Cok n X R ce W C) {tg e e2 : Expr} {a b : E} {p pos : Pos} (hg : glB X.env.scope "range" = true) (he : IE X R ce W C e a) (he2 : IE X R ce W C e2 b) (hs : noStar e = true) (hs2 : noStar e2 = true) : II X R ce W C tg (.Call (.Name "range" p) [e, e2] [] pos) (.rng2 a b) := by
  have hi := pi_range2 (X := X) (tg := tg) (p := p) (pos := pos) (gl_of hg) (mg_of ok (by decide)) (ia_cons hs he (ia_cons hs2 he2 (ia_nil (X := X) (R := R) (ce := ce) (W := W) (C := C)))) (by rw [noStar_eq hs, noStar_eq hs2]; rfl) (by rw [noStar_eq hs2]; rfl)
  refine ⟨fun pins s σ H Q I h => hi.run pins s σ H Q I ?_⟩
  obtain ⟨δ, m, Xd, k, rs, rm, hw, q, hx⟩ := h
  refine LA.mk (k := fun l m2 => match l with
    | [d, d2] => ∃ i j, d = .int i ∧ d2 = .int j ∧ (-(2 ^ 62) ≤ i ∧ i < 2 ^ 62 ∧ -(2 ^ 62) ≤ j ∧ j < 2 ^ 62) ∧ k (fun _ => True) ((List.range (j - i).toNat).map fun (k : Nat) => .int (i + (k : Int))) m2
    | _ => False) rs rm (Xd := Xd) hw hx ?_
  intro l m1 vs H1 k1 r1 rm1 hk
  match l, hk with
  | [d, d2], ⟨i, j, hd, hd2, h1, hk⟩ =>
    subst hd hd2
    obtain ⟨v, u, rfl, rv, ru⟩ := two_rel r1
    exact ⟨i, j, by rw [rel_int rv, rel_int ru], h1, q _ _ m1 H1 _ k1 rm1 itm_rng hk⟩

/-! ### targets -/
def gAll : List Nat → TGs
  | [] => gNil
  | i :: r => gCons (gName i) (gAll r)
def gT (K : PySem.W.Frag) : Tg → TG
  | .one i => gName i
  | .many l => gTup K l.length (gAll l)
def Tg.slots : Tg → List Nat
  | .one i => [i]
  | .many l => l
def SetIn (is : List Nat) (σ σ' : L2.St) : Prop := σ'.length = σ.length ∧ ∀ i, i ∉ is → σ'[i]? = σ[i]?
theorem SetIn.one {σ : L2.St} {i : Nat} {v : Option V} {is : List Nat} (h : i ∈ is) : SetIn is σ (σ.set i v) := ⟨List.length_set .., fun j hj => List.getElem?_set_ne fun e => hj (by rw [← e]; exact h)⟩
theorem SetIn.trans {is : List Nat} {a b c : L2.St} (h : SetIn is a b) (k : SetIn is b c) : SetIn is a c := ⟨k.1.trans h.1, fun i hi => (k.2 i hi).trans (h.2 i hi)⟩
theorem RelS.set {K : PySem.W.Frag} {H : Hp} {δ : Dl} {σ : L2.St} {i : Nat} {d : D} {v : V} (rs : RelS K R H δ σ) (r : Rel K R H d v) : RelS K R H (δ.set i (some d)) (σ.set i (some v)) := by
  refine ⟨by rw [List.length_set, List.length_set, rs.1], fun j d' e => ?_⟩
  by_cases hj : j = i
  · subst hj
    have hl : j < δ.length := by
      have z := (List.getElem?_eq_some_iff.mp e).1
      rwa [List.length_set] at z
    rw [List.getElem?_set_self hl] at e
    cases e
    exact ⟨v, List.getElem?_set_self (rs.1 ▸ hl), r⟩
  · rw [List.getElem?_set_ne (Ne.symm hj)] at e
    obtain ⟨u, h1, h2⟩ := rs.2 j d' e
    exact ⟨u, by rw [List.getElem?_set_ne (Ne.symm hj)]; exact h1, h2⟩
theorem RelS.unset {K : PySem.W.Frag} {H : Hp} {δ : Dl} {σ : L2.St} {i : Nat} (rs : RelS K R H δ σ) : RelS K R H (δ.set i none) (σ.set i none) := by
  refine ⟨by rw [List.length_set, List.length_set, rs.1], fun j d' e => ?_⟩
  by_cases hj : j = i
  · subst hj
    have hl : j < δ.length := by
      have z := (List.getElem?_eq_some_iff.mp e).1
      rwa [List.length_set] at z
    rw [List.getElem?_set_self hl] at e
    cases e
  · rw [List.getElem?_set_ne (Ne.symm hj)] at e
    obtain ⟨u, h1, h2⟩ := rs.2 j d' e
    exact ⟨u, by rw [List.getElem?_set_ne (Ne.symm hj)]; exact h1, h2⟩
theorem RelS.wipe {K : PySem.W.Frag} {H : Hp} {δ : Dl} {σ : L2.St} (rs : RelS K R H δ σ) : ∀ vs : List Nat, RelS K R H (wipeD δ vs) (L2.wipe σ vs)
  | [] => rs
  | i :: r => (RelS.wipe rs r).unset
theorem gAll_ok {K : PySem.W.Frag} {H : Hp} {Q : L2.St → Hp → Prop} : ∀ {is all : List Nat} {l : List D} {vs : List V} {δ : Dl} {σ : L2.St}, (∀ i ∈ is, i ∈ all) → l.length = is.length → RelL K R H l vs → RelS K R H δ σ →
    (∀ σ', SetIn all σ σ' → RelS K R H (setAll is l δ) σ' → Q σ' H) → gAll is vs σ H Q
  | [], _, l, vs, δ, σ, _, hl, r, rs, q => by
    cases l with
    | nil => exact ⟨r.nil_inv, q σ ⟨rfl, fun _ _ => rfl⟩ rs⟩
    | cons _ _ => cases hl
  | i :: is, all, l, vs, δ, σ, ha, hl, r, rs, q => by
    cases l with
    | nil => cases hl
    | cons d l =>
      obtain ⟨v, s, rfl, h1, h2⟩ := r.cons_inv
      refine ⟨v, s, rfl, gAll_ok (all := all) (fun j hj => ha j (List.mem_cons_of_mem _ hj)) (by simpa using hl) h2 (rs.set (i := i) h1) fun σ' hs rs' => q σ' ((SetIn.one (ha i (List.mem_cons_self ..))).trans hs) rs'⟩
theorem gT_ok {K : PySem.W.Frag} {H : Hp} {Q : L2.St → Hp → Prop} {t : Tg} {d : D} {v : V} {δ : Dl} {σ : L2.St} {k : Dl → Prop} (hw : tgW C t d δ k) (r : Rel K R H d v) (rs : RelS K R H δ σ) (q : ∀ δ' σ', SetIn t.slots σ σ' → RelS K R H δ' σ' → k δ' → Q σ' H) : gT K t v σ H Q := by
  cases t with
  | one i => exact q _ _ (SetIn.one (by simp [Tg.slots])) (rs.set r) hw
  | many is =>
    cases d with
    | tup l =>
      obtain ⟨_, hl, hk⟩ := hw
      obtain ⟨a, vs, rfl, hs, hr⟩ := rel_tup r
      exact ⟨a, vs, rfl, hs, by rw [hr.len]; exact hl, gAll_ok (all := is) (fun _ h => h) hl hr rs fun σ' h1 h2 => q _ σ' h1 h2 hk⟩
    | _ => exact absurd hw (by simp [tgW])
def locB (fc : Bool) (sc : Scope) (x : Str) : Bool := sc.names.lookup x == some .local || (fc && sc.names.lookup x == some .cell)
def nmB (fc : Bool) (N : List Str) (sc : Scope) : Expr → Nat → Bool
  | .Name x _, i => N[i]? == some x && locB fc sc x
  | _, _ => false
def nmBs (fc : Bool) (N : List Str) (sc : Scope) : List Expr → List Nat → Bool
  | [], [] => true
  | e :: r, i :: s => nmB fc N sc e i && nmBs fc N sc r s
  | _, _ => false
def tgB (fc : Bool) (N : List Str) (sc : Scope) : Expr → Tg → Bool
  | .Tuple es _ _, .many is => nmBs fc N sc es is
  | e, .one i => nmB fc N sc e i
  | _, _ => false
theorem pg_nm {fc : Bool} (hN : X.N.Nodup) (hf : fc = true → ∀ x, X.fn x = true) {e : Expr} {i : Nat} (h : nmB fc X.N X.env.scope e i = true) : PG X e (gName i) := by
  cases e with
  | Name x p =>
    simp only [nmB, locB, Bool.and_eq_true, Bool.or_eq_true, beq_iff_eq] at h
    obtain ⟨h1, h2⟩ := h
    rcases h2 with h2 | ⟨h3, h2⟩
    · exact pg_name hN h1 (.inl h2) (.inr h2)
    · exact pg_name hN h1 (.inr h2) (.inl (hf h3 x))
  | _ => simp [nmB] at h
theorem nm_each {fc : Bool} {e : Expr} {i : Nat} {es : List Expr} (h : nmB fc X.N X.env.scope e i = true) : assignEach (e :: es) X.env = (false, assign e X.env) :: assignEach es X.env := by
  cases e <;> first | rfl | simp [nmB] at h
theorem pg_nms {fc : Bool} (hN : X.N.Nodup) (hf : fc = true → ∀ x, X.fn x = true) : ∀ {es : List Expr} {is : List Nat}, nmBs fc X.N X.env.scope es is = true → PGs X es (gAll is) ∧ (assignEach es X.env).length = is.length ∧ (assignEach es X.env).findIdx? (·.1) = none
  | [], [], _ => ⟨pgs_nil, rfl, rfl⟩
  | e :: r, i :: s, h => by
    have h' : nmB fc X.N X.env.scope e i = true ∧ nmBs fc X.N X.env.scope r s = true := by simpa [nmBs] using h
    obtain ⟨g1, g2, g3⟩ := pg_nms hN hf h'.2
    refine ⟨pgs_cons (pg_nm hN hf h'.1) g1 (by rw [nm_each h'.1]; rfl), by rw [nm_each h'.1]; simp [g2], ?_⟩
    rw [nm_each h'.1, List.findIdx?_cons, g3]
    rfl
  | [], _ :: _, h => by simp [nmBs] at h
  | _ :: _, [], h => by simp [nmBs] at h
theorem pg_tg {fc : Bool} (hN : X.N.Nodup) (hf : fc = true → ∀ x, X.fn x = true) {e : Expr} {t : Tg} (hm : X.calm = true) (h : tgB fc X.N X.env.scope e t = true) : PG X e (gT X.K t) := by
  cases t with
  | one i => exact pg_nm hN hf (by cases e <;> simpa [tgB] using h)
  | many is =>
    cases e with
    | Tuple es k p =>
      obtain ⟨g1, g2, g3⟩ := pg_nms hN hf (show nmBs fc X.N X.env.scope es is = true from h)
      exact pg_tup hm g1 g2 g3
    | _ => simp [tgB] at h
end
end Ab
/-! List comprehensions. -/
namespace Ab
open PySem PyProof.Rows L2 PySem.Spec
section
variable {n : Nat} {X : Cx} {R : Rw} {ce : Option Cur} {W : WX} {C : Ct}
theorem wipe_get (σ : L2.St) (j : Nat) : ∀ vs : List Nat, (wipe σ vs)[j]? = if j ∈ vs then (if j < σ.length then some none else none) else σ[j]?
  | [] => by simp [wipe]
  | v :: vs => by
    unfold wipe
    by_cases h : v = j
    · subst h
      rw [if_pos (List.mem_cons_self ..)]
      by_cases hl : v < σ.length
      · rw [List.getElem?_set_self (by rw [wipe_length]; exact hl), if_pos hl]
      · rw [List.getElem?_eq_none (by rw [List.length_set, wipe_length]; omega), if_neg hl]
    · rw [List.getElem?_set_ne h, wipe_get σ j vs]
      have e : (j ∈ v :: vs) ↔ j ∈ vs := by simp [Ne.symm h]
      by_cases hm : j ∈ vs
      · rw [if_pos hm, if_pos (e.mpr hm)]
      · rw [if_neg hm, if_neg (fun z => hm (e.mp z))]
theorem wipe_set {σ σ2 : L2.St} {is vs : List Nat} (hs : ∀ i ∈ is, i ∈ vs) (h : SetIn is (wipe σ vs) σ2) : wipe σ2 vs = wipe σ vs := by
  apply List.ext_getElem?; intro j
  rw [wipe_get, wipe_get]
  have hl : σ2.length = σ.length := h.1.trans (wipe_length σ vs)
  by_cases hj : j ∈ vs
  · rw [if_pos hj, if_pos hj, hl]
  · rw [if_neg hj, if_neg hj, h.2 j fun z => hj (hs j z), wipe_get, if_neg hj]
/-- the word of nothing: a block's exceptions -/
def W0 : WX := fun _ _ _ _ => False
/-- a turn of a comprehension -/
def turnW (C : Ct) (own : List Nat) (tg : Tg) (ifs : As) (elt : E) (δ : Dl) : D → Mm → (Option D → Mm → Prop) → Prop := fun d m2 K => tgW C tg d (wipeD δ own) fun δ' => wTs C ifs δ' m2 fun b m3 => if b = true then wE C (fun _ _ => False) elt δ' m3 fun x m4 => K (some x) m4 else K none m3
theorem RelM.past {K : PySem.W.Frag} {H : Hp} {m : Mm} {p : Addr} {o : HO} (rm : RelM K R ce H m) (hm : m p = none) (mu : Mut (H p)) : RelM K R ce (upd H p o) m := rm.keep (Keep.mut o mu) fun b u e => upd_ne fun z => by rw [z, hm] at e; cases e
theorem Kp.past {m m1 : Mm} {H H1 : Hp} {p : Addr} {o : HO} (k : Kp m H m1 H1) (hp : H p = none) (mu : Mut (H1 p)) : Kp m H m1 (upd H1 p o) := ⟨k.keep.trans (Keep.mut o mu), fun b u h hm => by
  obtain ⟨h1, h2⟩ := k.fr b u h hm
  exact ⟨by rw [upd_ne (ne_of_none h hp)]; exact h1, h2⟩⟩
/-- a comprehension's turns, by the machine's word -/
theorem lc_imp {ow : List Nat} {t : Tg} {it : It} {as : As} {e : E} {fin : List D → Mm → Prop} {Q : VK} {σ : L2.St} {H : Hp} {δ : Dl} {m : Mm} {Xd : Kx} (hsl : ∀ i ∈ t.slots, i ∈ ow) (rs : RelS X.K R H δ σ) (rm : RelM X.K R ce H m)
    (hw : wI C Xd it δ m fun g l m1 => lcL g (turnW C ow t as e δ) l [] m1 fin) (hx : HX X.K R ce W σ m H Xd)
    (q : ∀ D vs r m5 m1 H1 H', H' D = some (.lst vs) → m5 D = none → H1 D = none → Kp m H m1 H1 → Kp m1 H1 m5 H' → RelM X.K R ce H' m5 → RelL X.K R H' r vs → fin r m5 → Q (.ref D) H') :
    tLc (LI X R ce W fun Xd => wI C Xd it) (gT X.K t) (LT X.K R ce W0 fun _ => wTs C as) (LE X.K R ce W0 fun Xd => wE C Xd e) ow σ H Q := by
  refine ⟨δ, m, Xd, _, rs, rm, hw, fun g l m1 H1 J k1 rm1 hit hk => ?_, hx⟩
  intro D hD
  have rsD := (RelS.keep k1.keep rs)
  refine ⟨fun i mm H2 => ∃ acc vs m2, Kp m1 H1 m2 H2 ∧ RelM X.K R ce H2 m2 ∧ m2 D = none ∧ H2 D = some (.lst vs) ∧ RelL X.K R H2 acc vs ∧ lcL g (turnW C ow t as e δ) (l.drop i) acc m2 fin ∧ mm = l.length - i ∧ i ≤ l.length,
    ⟨l.length, [], [], m1, Kp.new _ hD, rm1.new _ hD, rm1.free hD, L2.upd_same, .nil, hk, by simp, Nat.zero_le _⟩, ?_⟩
  rintro i mm H2 ⟨acc, vs, m2, k2, rm2, hmD, hHD, hr, hl, rfl, hi2⟩
  have k12 := k1.trans k2
  cases hdr : l.drop i with
  | nil =>
    rw [hdr] at hl
    obtain ⟨hg2, hfin⟩ := hl
    have hle : l.length ≤ i := by simpa using hdr
    exact .inl ⟨(hit i H2 m2 k2.keep rm2 hg2).2 hle, q D vs acc m2 m1 H1 H2 hHD hmD hD k1 k2 rm2 hr hfin⟩
  | cons d r =>
    rw [hdr] at hl
    obtain ⟨hg2, hturn⟩ := hl
    have hd : l[i]? = some d := by
      have z : (l.drop i)[0]? = some d := by rw [hdr]; rfl
      rwa [List.getElem?_drop, Nat.add_zero] at z
    have hr' : l.drop (i + 1) = r := by
      have z : (l.drop i).drop 1 = r := by rw [hdr]; rfl
      rwa [List.drop_drop] at z
    have hlt : i < l.length := (List.getElem?_eq_some_iff.mp hd).1
    obtain ⟨hgo, hyld⟩ := (hit i H2 m2 k2.keep rm2 hg2).1 d hd
    refine .inr ⟨hgo, _, fun H' hN => ⟨l.length - (i + 1), by omega, hN⟩, fun x H' hy => ?_⟩
    obtain ⟨rfl, rx⟩ := hyld x H' hy
    refine gT_ok hturn rx (RelS.wipe (RelS.keep k12.keep rs) _) fun δ2 σ2 hset rs2 hts => ⟨wipe_set hsl hset, ?_⟩
    refine LT.mk (Xd := fun _ _ => False) rs2 rm2 hts HX.none fun b m3 H3 k3 rm3 hb3 => ?_
    cases b with
    | false =>
      rw [if_neg Bool.false_ne_true] at hb3 ⊢
      obtain ⟨g1, g2⟩ := k3.fr D _ hHD hmD
      exact ⟨acc, vs, m3, k2.trans k3, rm3, g2, g1, RelL.keep k3.keep _ _ hr, by rw [hr']; exact hb3, rfl, hlt⟩
    | true =>
      rw [if_pos rfl] at hb3 ⊢
      refine LE.mk (rs2.keep k3.keep) rm3 hb3 HX.none fun y m4 yv H4 k4 ry rm4 hK => ?_
      have k34 := k3.trans k4
      obtain ⟨g1, g2⟩ := k34.fr D _ hHD hmD
      obtain ⟨hz, hnext⟩ := hK
      have mu : Mut (H4 D) := by rw [g1]; trivial
      have kD := Keep.mut (p := D) (.lst (vs ++ [yv])) mu
      refine ⟨vs, g1, by rw [hr.len]; exact hz, acc ++ [y], vs ++ [yv], m4, (k2.trans k34).past hD mu, rm4.past g2 mu, g2, L2.upd_same, ?_, by rw [hr']; exact hnext, rfl, hlt⟩
      exact (RelL.keep kD _ _ (RelL.keep k34.keep _ _ hr)).app (.cons (Rel.keep kD _ _ ry) .nil)
theorem ie_lc (ok : Cok n X R ce W C) (hcm : C.calm = true) {elt tg iter : Expr} {ifs : List Expr} {scope : Scope} {own : List (Str × Nat)} {pos : Pos} {fz : Bool} {t : Tg} {it : It} {as : As} {e : E} (hi : II X R ce W C tg iter it) (hb : blkC X.N X.env.scope scope own = true)
    (hg : ∀ (s : Shared) (H : Hp) (Ca : Addr) (cl : List (Str × Addr)) (fp : List Addr), PG (X.blk s H scope (compEnvC scope cl Ca X.env) fp) tg (gT X.K t)) (hsl : ∀ i ∈ t.slots, i ∈ own.map (·.2))
    (ht : ∀ (s : Shared) (H : Hp) (Ca : Addr) (cl : List (Str × Addr)) (fp : List Addr), PTs (X.blk s H scope (compEnvC scope cl Ca X.env) fp) ifs (LT X.K R ce W0 fun _ => wTs C as))
    (he : ∀ (s : Shared) (H : Hp) (Ca : Addr) (cl : List (Str × Addr)) (fp : List Addr), PE (X.blk s H scope (compEnvC scope cl Ca X.env) fp) elt (LE X.K R ce W0 fun Xd => wE C Xd e))
    (hf : ∀ x, foldedSetIterable iter X.env x = pure x) : IE X R ce W C (.ListComp elt [⟨tg, iter, ifs, 0⟩] scope pos) (.lc fz (own.map (·.2)) t it as e) := by
  obtain ⟨hXc, _, _⟩ := ok.calm hcm
  constructor; intro pins s σ H Q I h
  obtain ⟨δ, m, Xd, k, rs, rm, ⟨_, hw⟩, q, hx⟩ := h
  refine thn ((pe_lc hXc ok.nd hi (blkOk_by hb) hg ht he hf).run pins s σ H (fun v H' => ∃ D vs r m5 m1 H1, v = .ref D ∧ H' D = some (.lst vs) ∧ m5 D = none ∧ H1 D = none ∧ Kp m H m1 H1 ∧ Kp m1 H1 m5 H' ∧ RelM X.K R ce H' m5 ∧ RelL X.K R H' r vs ∧
    (if fz = true then k (.lst r) m5 else ∀ a, m5 a = none → k (.ref a) (m5.put a (.lst r)))) I ?_) ?_
  · exact lc_imp hsl rs rm hw hx fun D vs r m5 m1 H1 H' h1 h2 h3 h4 h5 h6 h7 h8 => ⟨D, vs, r, m5, m1, H1, rfl, h1, h2, h3, h4, h5, h6, h7, h8⟩
  · rintro u s' ⟨v, H', I', ru, D, vs, r, m5, m1, H1, rfl, hHD, hmD, hD, k1, k2, rm5, hr, hk⟩
    have mu : Mut (H' D) := by rw [hHD]; trivial
    cases fz with
    | true =>
      rw [if_pos rfl] at hk
      obtain ⟨od, I2⟩ := I'.lock hHD trivial
      refine ⟨.ref D, _, I2, ru, q _ m5 _ _ (k1.trans (k2.past hD mu)) ?_ (rm5.past hmD mu) hk⟩
      unfold Rel
      exact ⟨D, vs, rfl, .inl ⟨od, L2.upd_same⟩, RelL.keep (Keep.mut _ mu) _ _ hr⟩
    | false =>
      rw [if_neg Bool.false_ne_true] at hk
      refine ⟨.ref D, H', I', ru, q _ (m5.put D (.lst r)) _ H' ?_ (by unfold Rel; rfl) ⟨fun b o e => ?_, rm5.cur⟩ (hk D hmD)⟩
      · refine k1.trans ⟨k2.keep, fun b o h hm => ?_⟩
        obtain ⟨g1, g2⟩ := k2.fr b o h hm
        refine ⟨g1, ?_⟩
        unfold Mm.put
        rw [if_neg (ne_of_none h hD)]
        exact g2
      · unfold Mm.put at e
        by_cases hb' : b = D
        · subst hb'
          rw [if_pos rfl] at e
          cases e
          exact ⟨vs, hHD, hr⟩
        · rw [if_neg hb'] at e
          exact rm5.at_ b o e
end
end Ab
/-! try with several except clauses, with or without a name. -/
namespace Ab
open PySem PyProof.Rows L2 PySem.Spec
structure Clv where
  c : Value
  i : Option Nat
  ts : Addr → Value → Option Addr → TS
def setV (σ : L2.St) : Option Nat → Option V → L2.St
  | some i, v => σ.set i v
  | none, _ => σ
def endD (D : Ends) : Option Nat → Ends
  | none => D
  | some i => { nx := fun σ1 H1 => D.nx (σ1.set i none) H1, rt := D.rt, bk := fun σ1 H1 => D.bk (σ1.set i none) H1, ct := fun σ1 H1 => D.ct (σ1.set i none) H1 }
/-- what the clauses wish -/
def wClv (K : PySem.W.Frag) (Wout : WX) (D : Ends) : List Clv → WX
  | [] => Wout
  | q :: r => fun cls d σ H => ∃ b, PySem.W.exmOne K cls q.c = some b ∧ (b = true → ∀ a, H a = none → q.ts a cls d (endD D q.i) (setV σ q.i (some (.ref a))) H) ∧ (b = false → wClv K Wout D r cls d σ H)
/-- a clause's name -/
def NmOk (X : Cx) : Option Str → Option Nat → Prop
  | none, none => True
  | some y, some i => X.N[i]? = some y ∧ X.env.kindOf y = some .local
  | _, _ => False
inductive HdOk (X : Cx) : List ExceptHandler → List Clv → Prop
  | nil : HdOk X [] []
  | cons {x : Str} {y : Option Str} {q : Clv} {b₀ : Stmt} {suite : List Stmt} {np p : Pos} {hds : List ExceptHandler} {l : List Clv} (hc : Names X x q.c) (hy : NmOk X y q.i)
      (hsu : ∀ (a : Addr) (ob : Obj) (cls : Value) (d : Option Addr) (pn : List (Addr × Obj)), Zc cls d ob → (∃ vs, ob.data = .fields vs) → PSs (X.suite a ((a, ob) :: pn)) (b₀ :: suite) (q.ts a cls d)) (r : HdOk X hds l) :
      HdOk X (.ExceptHandler (some (.Name x np)) y (b₀ :: suite) p :: hds) (q :: l)
section
variable {X : Cx} {body : List Stmt} {h₀ : ExceptHandler} {hds : List ExceptHandler} {l : List Clv} {pos : Pos} {tb : WX → TS} {Wout : WX}
/-- the clauses, one after another, with the exception on the ground -/
theorem clv_go {pins : List (Addr × Obj)} {s2 : Shared} {D : Ends} {a : Addr} {B : Heap} {sI : Shared} {σ1 : L2.St} {H1 : Hp} {cls : Value} {d : Option Addr} {h3 : Heap} (hs : X.stack = X.env :: X.outer) (hf : X.env.frame = some X.env.locals) (hN : X.N.Nodup) (tk : Takes X Wout) (ok : X.Ok)
    (J : Inv X pins σ1 H1 sI) (nb : ∀ b o, sI.heap.get? b = some o → b ∉ frs X.stack → B.get? b = some o) (up : sI.heap.UpToSlots s2.heap) (na : H1 a = none) (os : s2.os = sI.os) (ag : AllBare s2.gens)
    (fl : HandSPX.FlyingZ B (X.env :: X.outer) a (Zc cls d) h3) (up3 : s2.heap.UpToSlots h3) : ∀ {hds : List ExceptHandler} {l : List Clv}, HdOk X hds l → wClv X.K Wout D l cls d σ1 H1 →
      wpAny (model X.prog X.w) X.A (handleBy (.ref a) X.env hds) (SP X pins D) X.xe { s2 with heap := h3 } := by
  have J3 : Inv X pins σ1 H1 { s2 with heap := h3 } := J.landed nb fl.1 (up.trans up3) os ag
  obtain ⟨ob, vs, hob, hz, hdt⟩ := fl.there
  have nfr : a ∉ frs (X.env :: X.outer) := fun hm => by
    obtain ⟨_, o', e', hnf⟩ := fl.2.2.1.mem hm
    rw [hob] at e'
    cases e'
    exact hnf _ hdt
  have nL : a ≠ X.env.locals := fun z => nfr (List.mem_filterMap.mpr ⟨X.env, List.mem_cons_self .., by rw [hf, z]⟩)
  have nF : a ∉ X.fs := by
    intro hm
    rcases List.mem_filterMap.mp hm with ⟨e, he, q⟩
    exact nfr (List.mem_filterMap.mpr ⟨_, List.mem_cons_of_mem _ he, q⟩)
  have S3 := J3.suite hob hdt na nL nF
  intro hds l hk
  induction hk with
  | nil =>
    intro w
    refine wpAny_handleBy_nil ?_
    obtain ⟨_, _, _, _, _, T, _, _, he, _, hd, h1, _⟩ := id fl
    have fin : wpAny (model X.prog X.w) X.A (setFlight (.ref a) X.env.frame) (fun _ s4 => wpAny (model X.prog X.w) X.A (throw (.ref a) : Sem Flow) (SP X pins D) X.xe s4) X.xe { s2 with heap := h3 } := by
      rw [hf]
      exact HandSPX.setFlight_upZ fl fun h4 hh4 up4 => wpAny_throw (tk _ _ ⟨a, B, sI, pins, σ1, H1, cls, d, rfl, J, nb, (up.trans up3).trans up4, .inr (.inr (by rw [hs]; exact hh4)), na, os, ag, w⟩)
    unfold PySem.passOn
    apply wpAny_bind; refine wpAny_field he hd h1 ?_
    have hT : ¬ ((Value.ref T == Value.none) = true) := by simp
    rw [if_neg hT]
    first
      | exact wpAny_bind fin
      | exact wpAny_bind (wpAny_pure (wpAny_bind (fin)))
  | @cons x y q b₀ suite np p hds2 l2 hc hy hsu r ih =>
    intro w
    rcases w with ⟨b, hb1, hyes, hno⟩
    refine wpAny_handleBy_cons (codeAny_handlers_test ?_) (by intro z; cases z)
    have LT : PySem.W.Looks (model X.prog X.w) h3 (typeOf (.ref a)) cls := fun A Q E s k z => wpAny_typeOf_ref (k _ _ hob) (by rw [hz.1]; exact z)
    have LM := PySem.W.exm_one (M := model X.prog X.w) J3.kIn LT hb1
    have test : ∀ {Q : Value → Shared → Prop} {E : Value → Shared → Prop}, Q q.c { s2 with heap := h3 } → wpAny (model X.prog X.w) (X.A.mark (some (.ref a))) (eval (.Name x np) X.env) Q E { s2 with heap := h3 } := fun {Q E} z => by
      rcases hc with ⟨hg, hdbg, (hm | ⟨hm, hv, hnn⟩)⟩
      · exact ld_glob (X := X.suite a ((a, ob) :: (X.pn ++ pins))) S3 hg hm z hdbg
      · exact ld_blt (X := X.suite a ((a, ob) :: (X.pn ++ pins))) S3 hg hm hv z hnn hdbg
    refine test (LM.here ?_)
    cases b with
    | false => exact (show wpAny _ X.A (handleBy (.ref a) X.env hds2) _ _ _ from ih (hno rfl))
    | true =>
      have hw := hyes rfl a na
      obtain ⟨c, i, ts⟩ := q
      cases y with
      | none =>
        cases i with
        | some _ => exact hy.elim
        | none =>
          refine (codeAny_handlers_suite ?_)
          refine HandSPX.lands_againZ fl fun h4 fl4 up4 => ?_
          have J4 : Inv X pins σ1 H1 { s2 with heap := h4 } := J.landed nb fl4.1 ((up.trans up3).trans up4) os ag
          obtain ⟨ob4, vs4, he4, hz4, hd4⟩ := fl4.there
          refine wpAny_mono ((hsu a ob4 cls d (X.pn ++ pins) hz4 ⟨_, hd4⟩).run [] _ _ H1 _ (J4.suite he4 hd4 na nL nF) hw) (fun f s6 hsp => ?_) fun _ _ z => z.elim
          cases f with
          | ret u =>
            rcases hsp with ⟨v6, σ6, H6, S6, r6, q6⟩
            exact ⟨v6, σ6, H6, S6.unsuite ok, r6, q6⟩
          | next => obtain ⟨σ6, H6, S6, q6⟩ := hsp; exact ⟨σ6, H6, S6.unsuite ok, q6⟩
          | brk => obtain ⟨σ6, H6, S6, q6⟩ := hsp; exact ⟨σ6, H6, S6.unsuite ok, q6⟩
          | cont => obtain ⟨σ6, H6, S6, q6⟩ := hsp; exact ⟨σ6, H6, S6.unsuite ok, q6⟩
      | some y =>
        cases i with
        | none => exact hy.elim
        | some i =>
          obtain ⟨hi, hln⟩ := hy
          refine (codeAny_handlers_suite_as ?_)
          refine HandSPX.lands_againZ fl fun h4 fl4 up4 => ?_
          have J4 : Inv X pins σ1 H1 { s2 with heap := h4 } := J.landed nb fl4.1 ((up.trans up3).trans up4) os ag
          obtain ⟨ob4, vs4, he4, hz4, hd4⟩ := fl4.there
          refine store_ok (X := X.suite a ((a, ob4) :: (X.pn ++ pins))) (v := .ref a) (J4.suite he4 hd4 na nL nF) hN hi (.inl hln) rfl (fun s5 S5 => ?_) (.inr hln)
          refine wpAny_mono ((hsu a ob4 cls d (X.pn ++ pins) hz4 ⟨_, hd4⟩).run [] s5 _ H1 _ S5 hw) (fun f s6 hsp => ?_) fun _ _ z => z.elim
          have gone : ∀ {σ6 : L2.St} {H6 : Hp} {Q : Shared → Prop}, Inv (X.suite a ((a, ob4) :: (X.pn ++ pins))) [] σ6 H6 s6 → (∀ s7, Inv X pins (σ6.set i none) H6 s7 → Q s7) →
              wpAny (model X.prog X.w) X.A (do bindName X.env y .none; unbindBehindTheSuite X.env y p) (fun _ s7 => Q s7) X.xe s6 := fun {σ6 H6 Q} S6 hq => gone_ok (S6.unsuite ok) hN hi hln hq
          cases f with
          | ret u =>
            rcases hsp with ⟨v6, σ6, H6, S6, r6, q6⟩
            exact gone S6 fun s7 J7 => ⟨v6, _, H6, J7, r6, q6⟩
          | next => obtain ⟨σ6, H6, S6, q6⟩ := hsp; exact gone S6 fun s7 J7 => ⟨_, H6, J7, q6⟩
          | brk => obtain ⟨σ6, H6, S6, q6⟩ := hsp; exact gone S6 fun s7 J7 => ⟨_, H6, J7, q6⟩
          | cont => obtain ⟨σ6, H6, S6, q6⟩ := hsp; exact gone S6 fun s7 J7 => ⟨_, H6, J7, q6⟩
theorem ps_try_any (hs : X.stack = X.env :: X.outer) (hf : X.env.frame = some X.env.locals) (hN : X.N.Nodup) (tk : Takes X Wout)
    (hb : ∀ (U : WX) (pn : List (Addr × Obj)) (xe : Value → Shared → Prop), Takes (X.tr pn xe) U → PassesOwn (model X.prog X.w) X.A X.env xe → PSs (X.tr pn xe) body (tb U))
    (hh : HdOk X (h₀ :: hds) l) : PS X (.Try body (h₀ :: hds) [] [] pos) (fun D σ H => tb (wClv X.K Wout D l) D σ H) := by
  constructor; intro pins s σ H D I h
  have ok := I.ok
  have hfr : X.A.frames = some (X.env :: X.outer) := ok.frames.trans (by rw [hs])
  refine wpAny_Try_except ?_
  refine wpAny_mono ((hb (wClv X.K Wout D l) (X.pn ++ pins) (fun (e : Value) (t1 : Shared) => wpAny (model X.prog X.w) X.A (noteFrame e X.env) (fun _ t2 => wpAny (model X.prog X.w) X.A (setFlight e none) (fun _ t3 => wpAny (model X.prog X.w) X.A (handleBy e X.env (h₀ :: hds)) (SP X pins D) X.xe t3) X.xe t2) X.xe t1)
    (fun u s2 xx => ?_) PassesOwn.looking).run [] s σ H D (I.toTry _) h) (fun f s1 hsp => ?_) fun e s1 he => he
  · obtain ⟨a, B, sI, pins1, σ1, H1, cls, d, rfl, J1, nb, up, sky, na, os, ag, w⟩ := xx
    have J : Inv X pins σ1 H1 sI := J1.ofTry ok
    have sky1 : Sky B (X.env :: X.outer) a (Zc cls d) X.env.locals s2.heap := by rw [← hs]; exact sky
    exact (show wpAny (model X.prog X.w) X.A (noteFrame (.ref a) X.env) _ _ _ from Sky.land Zc.steady hfr hf sky1 fun h3 fl3 up3 => clv_go hs hf hN tk ok J nb up na os ag fl3 up3 hh w)
  · cases f with
    | ret u =>
      rcases hsp with ⟨v, σ', H', J', r, q⟩
      exact ⟨v, _, H', J'.ofTry ok, r, q⟩
    | next =>
      obtain ⟨σ', H', J', q⟩ := hsp
      exact wpAny_execs_nil ⟨_, H', J'.ofTry ok, q⟩
    | brk => obtain ⟨σ', H', J', q⟩ := hsp; exact ⟨σ', H', J'.ofTry ok, q⟩
    | cont => obtain ⟨σ', H', J', q⟩ := hsp; exact ⟨σ', H', J'.ofTry ok, q⟩
end
end Ab
/-! Statements. -/
namespace Ab
open PySem PyProof.Rows L2 PySem.Spec
/-- the machine's wishes behind a statement are the row's -/
structure EnOk (K : PySem.W.Frag) (R : Rw) (ce : Option Cur) (W : WX) (F : En) (m : Mm) (H : Hp) (D : Ends) : Prop where
  nx : ∀ δ1 m1 σ1 H1, Kp m H m1 H1 → RelS K R H1 δ1 σ1 → RelM K R ce H1 m1 → F.nx δ1 m1 → D.nx σ1 H1
  rt : ∀ d m1 v H1, Kp m H m1 H1 → Rel K R H1 d v → RelM K R ce H1 m1 → F.rt d m1 → D.rt v H1
  bk : ∀ δ1 m1 σ1 H1, Kp m H m1 H1 → RelS K R H1 δ1 σ1 → RelM K R ce H1 m1 → F.bk δ1 m1 → D.bk σ1 H1
  ct : ∀ δ1 m1 σ1 H1, Kp m H m1 H1 → RelS K R H1 δ1 σ1 → RelM K R ce H1 m1 → F.ct δ1 m1 → D.ct σ1 H1
  ex : ∀ x δ1 m1 σ1 H1 cls dx, Kp m H m1 H1 → RelS K R H1 δ1 σ1 → RelM K R ce H1 m1 → RelX K R H1 x cls dx → F.ex x δ1 m1 → W cls dx σ1 H1
theorem EnOk.step {K : PySem.W.Frag} {R : Rw} {ce : Option Cur} {W : WX} {F : En} {m m1 : Mm} {H H1 : Hp} {D : Ends} (h : EnOk K R ce W F m H D) (k : Kp m H m1 H1) : EnOk K R ce W F m1 H1 D :=
  ⟨fun a b c d e => h.nx a b c d (k.trans e), fun a b c d e => h.rt a b c d (k.trans e), fun a b c d e => h.bk a b c d (k.trans e), fun a b c d e => h.ct a b c d (k.trans e), fun a b c d e f g i => h.ex a b c d e f g (k.trans i)⟩
theorem EnOk.hx {K : PySem.W.Frag} {R : Rw} {ce : Option Cur} {W : WX} {F : En} {m : Mm} {H : Hp} {D : Ends} {δ : Dl} {σ : L2.St} (h : EnOk K R ce W F m H D) (rs : RelS K R H δ σ) : HX K R ce W σ m H (fun x m' => F.ex x δ m') := fun x m' H' cls dx k rm rx hx => h.ex x δ m' σ H' cls dx k (rs.keep k.keep) rm rx hx
def LS (K : PySem.W.Frag) (R : Rw) (ce : Option Cur) (W : WX) (w : En → Dl → Mm → Prop) : TS := fun D σ H => ∃ δ m F, RelS K R H δ σ ∧ RelM K R ce H m ∧ w F δ m ∧ EnOk K R ce W F m H D
theorem PS.imp {X : Cx} {st : Stmt} {t t' : TS} (h : PS X st t) (i : ∀ D σ H, t' D σ H → t D σ H) : PS X st t' := ⟨fun pins s σ H D I q => h.run pins s σ H D I (i D σ H q)⟩
theorem PSs.imp {X : Cx} {st : List Stmt} {t t' : TS} (h : PSs X st t) (i : ∀ D σ H, t' D σ H → t D σ H) : PSs X st t' := ⟨fun pins s σ H D I q => h.run pins s σ H D I (i D σ H q)⟩
section
variable {n : Nat} {X : Cx} {R : Rw} {ce : Option Cur} {W : WX} {C : Ct}
abbrev IS (X : Cx) (R : Rw) (ce : Option Cur) (W : WX) (C : Ct) (st : Stmt) (s : S) : Prop := PS X st (LS X.K R ce W (wS C s))
abbrev ISs (X : Cx) (R : Rw) (ce : Option Cur) (W : WX) (C : Ct) (st : List Stmt) (s : Ss) : Prop := PSs X st (LS X.K R ce W (wSs C s))
theorem iss_nil : ISs X R ce W C [] .nil := PSs.imp pss_nil fun D σ H ⟨δ, m, F, rs, rm, hw, q⟩ => q.nx δ m σ H Kp.refl rs rm hw
theorem iss_cons {st : Stmt} {rest : List Stmt} {s : S} {r : Ss} (h1 : IS X R ce W C st s) (h2 : ISs X R ce W C rest r) : ISs X R ce W C (st :: rest) (.cons s r) := by
  refine PSs.imp (pss_cons h1 h2) fun D σ H ⟨δ, m, F, rs, rm, hw, q⟩ => ?_
  exact ⟨δ, m, { F with nx := wSs C r F }, rs, rm, hw, ⟨fun δ1 m1 σ1 H1 k rs1 rm1 h => ⟨δ1, m1, F, rs1, rm1, h, q.step k⟩, q.rt, q.bk, q.ct, q.ex⟩⟩
/-- a list that nobody changes any more: nothing runs -/
theorem iss_frz {st : List Stmt} {i : Nat} {r : Ss} (h : ISs X R ce W C st r) : ISs X R ce W C st (.cons (.frz i) r) := by
  refine ⟨fun pins s σ H D I ⟨δ, m, F, rs, rm, hw, q⟩ => ?_⟩
  obtain ⟨a, l, hi, hm, hw⟩ := hw
  obtain ⟨vs, hH, hr⟩ := rm.lst hm
  have mu : Mut (H a) := by rw [hH]; trivial
  obtain ⟨od, I2⟩ := I.lock hH trivial
  have kd := Kp.del (m := m) (H := H) (p := a) (.frz od (.lst vs)) hm mu
  obtain ⟨v, hv, rv⟩ := rs.2 i _ hi
  rw [rel_ref rv] at hv
  refine h.run pins s σ _ D I2 ⟨_, m.del a, F, ?_, ?_, hw, q.step kd⟩
  · refine ⟨by rw [List.length_set]; exact rs.1, fun j d e => ?_⟩
    by_cases hj : j = i
    · subst hj
      have hl : j < δ.length := by
        have z := (List.getElem?_eq_some_iff.mp e).1
        rwa [List.length_set] at z
      rw [List.getElem?_set_self hl] at e
      cases e
      refine ⟨.ref a, hv, ?_⟩
      unfold Rel
      exact ⟨a, vs, rfl, .inl ⟨od, L2.upd_same⟩, RelL.keep kd.keep _ _ hr⟩
    · rw [List.getElem?_set_ne (Ne.symm hj)] at e
      obtain ⟨u, h1, h2⟩ := rs.2 j d e
      exact ⟨u, h1, Rel.keep kd.keep _ _ h2⟩
  · have rm' : RelM X.K R ce H (m.del a) := rm.sub fun b o e => by
      unfold Mm.del at e
      split at e
      · cases e
      · exact e
    exact rm'.past (by unfold Mm.del; rw [if_pos rfl]) mu
def noComp : Expr → Bool
  | .ListComp _ _ _ _ => false | .SetComp _ _ _ _ => false | .DictComp _ _ _ _ _ => false
  | _ => true
theorem sw_no {e : Expr} {t : Option Expr} {l : Nat} {env : Env} (h : noComp e = true) : swapsWith e t l env = pure false := by
  cases e <;> first | rfl | simp [noComp] at h
theorem is_ex {e : Expr} {a : E} {pos : Pos} (he : IE X R ce W C e a) (h : noComp e = true) : IS X R ce W C (.Expr e pos) (.ex a) := by
  refine PS.imp (ps_expr he (sw_no h)) fun D σ H ⟨δ, m, F, rs, rm, hw, q⟩ => ?_
  exact LE.mk rs rm hw (q.hx rs) fun d m1 v H1 k1 _ rm1 h => q.nx δ m1 σ H1 k1 (rs.keep k1.keep) rm1 h
theorem is_ret {e : Expr} {a : E} {pos : Pos} (he : IE X R ce W C e a) : IS X R ce W C (.Return (some e) pos) (.ret a) := by
  refine PS.imp (ps_ret he) fun D σ H ⟨δ, m, F, rs, rm, hw, q⟩ => ?_
  exact LE.mk rs rm hw (q.hx rs) fun d m1 v H1 k1 r1 rm1 h => q.rt d m1 v H1 k1 r1 rm1 h
theorem is_retN {pos : Pos} : IS X R ce W C (.Return none pos) .retN := PS.imp ps_retN fun D σ H ⟨δ, m, F, rs, rm, hw, q⟩ => q.rt .non m .non H Kp.refl Rel.non rm hw
theorem is_pass {pos : Pos} : IS X R ce W C (.Pass pos) .pass := PS.imp ps_pass fun D σ H ⟨δ, m, F, rs, rm, hw, q⟩ => q.nx δ m σ H Kp.refl rs rm hw
theorem is_brk {pos : Pos} : IS X R ce W C (.Break pos) .brk := PS.imp ps_break fun D σ H ⟨δ, m, F, rs, rm, hw, q⟩ => q.bk δ m σ H Kp.refl rs rm hw
theorem is_cont {pos : Pos} : IS X R ce W C (.Continue pos) .cont := PS.imp ps_continue fun D σ H ⟨δ, m, F, rs, rm, hw, q⟩ => q.ct δ m σ H Kp.refl rs rm hw
theorem is_if {c : Expr} {t : E} {a b : List Stmt} {sa sb : Ss} {pos : Pos} (hc : IT X R ce W C c t) (ha : ISs X R ce W C a sa) (hb : ISs X R ce W C b sb) : IS X R ce W C (.If c a b pos) (.ite t sa sb) := by
  refine PS.imp (ps_if hc ha hb) fun D σ H ⟨δ, m, F, rs, rm, hw, q⟩ => ?_
  refine LT.mk rs rm hw (q.hx rs) fun k m1 H1 k1 rm1 h => ?_
  cases k with
  | true =>
    rw [if_pos rfl] at h ⊢
    exact ⟨δ, m1, F, rs.keep k1.keep, rm1, h, q.step k1⟩
  | false =>
    rw [if_neg Bool.false_ne_true] at h ⊢
    exact ⟨δ, m1, F, rs.keep k1.keep, rm1, h, q.step k1⟩
/-! ### assignments -/
def isTup : Expr → Bool
  | .Tuple _ _ _ => true
  | _ => false
def notList : Expr → Bool
  | .List _ _ => false
  | _ => true
theorem ss_no {tg e : Expr} {env : Env} (h : (isTup tg && isTup e) = false) (h2 : notList tg = true) : swappedStores [tg] e env = pure none := by
  cases tg <;> first
    | rfl
    | (simp [notList] at h2; done)
    | (cases e <;> first | rfl | simp [isTup] at h)
theorem tg_nl {fc : Bool} {N : List Str} {sc : Scope} {tg : Expr} {t : Tg} (h : tgB fc N sc tg t = true) : notList tg = true ∧ (∀ env : Env, (assignEach [tg] env).map (·.2) = [assign tg env]) := by
  cases tg <;> first
    | exact ⟨rfl, fun _ => rfl⟩
    | (cases t <;> simp [tgB, nmB] at h)
theorem is_asg {fc : Bool} (ok : Cok n X R ce W C) (hm : X.calm = true) (hf : fc = true → ∀ x, X.fn x = true) {tg e : Expr} {t : Tg} {a : E} {pos : Pos} (ht : tgB fc X.N X.env.scope tg t = true) (he : IE X R ce W C e a) (h1 : noComp e = true) (h2 : (isTup tg && isTup e) = false) :
    IS X R ce W C (.Assign [tg] e pos) (.asg t a) := by
  obtain ⟨g1, g2⟩ := tg_nl ht
  refine PS.imp (ps_asg he (pg_tg ok.nd hf hm ht) (sw_no h1) (ss_no h2 g1) (g2 _)) fun D σ H ⟨δ, m, F, rs, rm, hw, q⟩ => ?_
  refine LE.mk rs rm hw (q.hx rs) fun d m1 v H1 k1 r1 rm1 h => ?_
  exact gT_ok h r1 (rs.keep k1.keep) fun δ1 σ1 _ rs1 hk => q.nx δ1 m1 σ1 H1 k1 rs1 rm1 hk
theorem is_asgN {fc : Bool} (ok : Cok n X R ce W C) (hf : fc = true → ∀ x, X.fn x = true) {tg e : Expr} {i : Nat} {a : E} {pos : Pos} (ht : nmB fc X.N X.env.scope tg i = true) (he : IE X R ce W C e a) (h1 : noComp e = true) :
    IS X R ce W C (.Assign [tg] e pos) (.asg (.one i) a) := by
  obtain ⟨g1, g2⟩ := tg_nl (t := .one i) (tg := tg) (fc := fc) (N := X.N) (sc := X.env.scope) (by cases tg <;> simpa [tgB] using ht)
  have h2 : (isTup tg && isTup e) = false := by cases tg <;> first | rfl | simp [nmB] at ht
  refine PS.imp (ps_asg he (pg_nm ok.nd hf ht) (sw_no h1) (ss_no h2 g1) (g2 _)) fun D σ H ⟨δ, m, F, rs, rm, hw, q⟩ => ?_
  refine LE.mk rs rm hw (q.hx rs) fun d m1 v H1 k1 r1 rm1 h => ?_
  exact q.nx _ m1 _ H1 k1 ((rs.keep k1.keep).set r1) rm1 h
/-- name = [..] -/
theorem is_asgC (ok : Cok n X R ce W C) (hcm : C.calm = true) {elt tg iter : Expr} {ifs : List Expr} {scope : Scope} {own : List (Str × Nat)} {pos py spos : Pos} {y : Str} {i : Nat} {t : Tg} {it : It} {as : As} {e : E} (hi : II X R ce W C tg iter it) (hb : blkC X.N X.env.scope scope own = true)
    (hg : ∀ (s : Shared) (H : Hp) (Ca : Addr) (cl : List (Str × Addr)) (fp : List Addr), PG (X.blk s H scope (compEnvC scope cl Ca X.env) fp) tg (gT X.K t)) (hsl : ∀ i ∈ t.slots, i ∈ own.map (·.2))
    (ht : ∀ (s : Shared) (H : Hp) (Ca : Addr) (cl : List (Str × Addr)) (fp : List Addr), PTs (X.blk s H scope (compEnvC scope cl Ca X.env) fp) ifs (LT X.K R ce W0 fun _ => wTs C as))
    (he : ∀ (s : Shared) (H : Hp) (Ca : Addr) (cl : List (Str × Addr)) (fp : List Addr), PE (X.blk s H scope (compEnvC scope cl Ca X.env) fp) elt (LE X.K R ce W0 fun Xd => wE C Xd e))
    (hf : ∀ x, foldedSetIterable iter X.env x = pure x) (hy : X.N[i]? = some y) (hyl : X.env.scope.names.lookup y = some .local) (hk : X.env.scope.kind = .function) (hl : (py.line == pos.line) = true) (ha : (scope.names.any fun (n, k) => n == y && (k == .local || k == .cell)) = false) :
    IS X R ce W C (.Assign [.Name y py] (.ListComp elt [⟨tg, iter, ifs, 0⟩] scope pos) spos) (.asgC i (.lc false (own.map (·.2)) t it as e)) := by
  obtain ⟨hXc, _, _⟩ := ok.calm hcm
  refine PS.imp (ps_setLc hXc ok.nd hy hyl (sw_true hk hyl hl ha) hi (blkOk_by hb) hg ht he hf) fun D σ H ⟨δ, m, F, rs, rm, hw, q⟩ => ?_
  refine lc_imp hsl rs rm hw.2 (q.hx rs) fun L vs r m5 m1 H1 H' hHD hmD hD k1 k2 rm5 hr hk => ?_
  rw [if_neg Bool.false_ne_true] at hk
  have kk : Kp m1 H1 (m5.put L (.lst r)) H' := ⟨k2.keep, fun b o h hm => by
    obtain ⟨g1, g2⟩ := k2.fr b o h hm
    refine ⟨g1, ?_⟩
    unfold Mm.put
    rw [if_neg (ne_of_none h hD)]
    exact g2⟩
  refine q.nx _ (m5.put L (.lst r)) _ H' (k1.trans kk) (((rs.keep k1.keep).keep k2.keep).set (by unfold Rel; rfl)) ⟨fun b o e => ?_, rm5.cur⟩ (hk L hmD)
  unfold Mm.put at e
  by_cases hb' : b = L
  · subst hb'
    rw [if_pos rfl] at e
    cases e
    exact ⟨vs, hHD, hr⟩
  · rw [if_neg hb'] at e
    exact rm5.at_ b o e
/-- o[i] = e -/
theorem is_asgI {o ix e : Expr} {ao ai ae : E} {pos pt : Pos} (ho : IE X R ce W C o ao) (hi : IE X R ce W C ix ai) (he : IE X R ce W C e ae) (h1 : noComp e = true)
    (ha : ∀ u, assign (.Subscript o ix pt) X.env u = (do
      let ov ← holding [u] (eval o X.env)
      let iv ← holding [u, ov] (eval ix X.env)
      standAt pt
      holding [u, ov, iv] (setItem ov iv u)
      release [u, ov, iv] [])) : IS X R ce W C (.Assign [.Subscript o ix pt] e pos) (.asgI ao ai ae) := by
  refine PS.imp (ps_asg he (pg_sub ho hi set_list ha) (by unfold swapsWithSole; exact sw_no h1) (ss_no rfl rfl) rfl) fun D σ H ⟨δ, m, F, rs, rm, hw, q⟩ => ?_
  refine LE.mk rs rm hw (q.hx rs) fun dv m1 v H1 k1 r1 rm1 hw1 => ?_
  have q1 := q.step k1
  have rs1 := rs.keep k1.keep
  refine LE.mk rs1 rm1 hw1 (q1.hx rs1) fun dx m2 x H2 k2 r2 rm2 hw2 => ?_
  have q2 := q1.step k2
  have rs2 := rs1.keep k2.keep
  refine LE.mk rs2 rm2 hw2 (q2.hx rs2) fun dy m3 y H3 k3 r3 rm3 hw3 => ?_
  obtain ⟨a, l, kk, j, hx, hm, hy, hj, hn⟩ := hw3
  subst hx hy
  obtain ⟨vs, hH, hr⟩ := rm3.lst hm
  have rv : Rel X.K R H3 dv v := Rel.keep (k2.trans k3).keep _ _ r1
  have kd := Kp.mut (m := m3) (H := H3) (p := a) (.lst (vs.set j v)) (.lst (l.set j dv)) hm (by rw [hH]; trivial)
  refine ⟨a, vs, kk, j, rel_ref r2, rel_int r3, hH, by rw [hr.len]; exact hj, ?_⟩
  exact (q2.step k3).nx δ _ σ _ kd ((rs2.keep k3.keep).keep kd.keep) (rm3.put kd.keep (mo := .lst (l.set j dv)) ⟨_, L2.upd_same, RelL.keep kd.keep _ _ (hr.set j rv)⟩) hn

/-! ### loops -/
theorem is_for {fc : Bool} (ok : Cok n X R ce W C) (hp : PassesOwn (model X.prog X.w) X.A X.env X.xe) (hf : fc = true → ∀ x, X.fn x = true) {tg iter : Expr} {t : Tg} {it : It} {body : List Stmt} {sb : Ss} {pos : Pos} (hm : X.calm = true) (hi : II X R ce W C tg iter it) (ht : tgB fc X.N X.env.scope tg t = true) (hb : ISs X R ce W C body sb)
    (hfs : ∀ x, foldedSetIterable iter X.env x = pure x) : IS X R ce W C (.For tg iter body [] pos) (.forS t it sb) := by
  refine PS.imp (ps_for hp hm hi (pg_tg ok.nd hf hm ht) hb hfs) fun D σ H ⟨δ, m, F, rs, rm, ⟨_, hw⟩, q⟩ => ?_
  refine ⟨δ, m, _, _, rs, rm, hw, fun g l m1 H1 J k1 rm1 hit hk => ?_, q.hx rs⟩
  refine ⟨fun i mm σ2 H2 => ∃ δ2 m2, Kp m1 H1 m2 H2 ∧ RelS X.K R H2 δ2 σ2 ∧ RelM X.K R ce H2 m2 ∧ forL g (fun d F' δ' m' => tgW C t d δ' fun δ2 => wSs C sb F' δ2 m') (l.drop i) F δ2 m2 ∧ mm = l.length - i ∧ i ≤ l.length,
    ⟨l.length, δ, m1, Kp.refl, rs.keep k1.keep, rm1, hk, by simp, Nat.zero_le _⟩, ?_⟩
  rintro i mm σ2 H2 ⟨δ2, m2, k2, rs2, rm2, hl, rfl, hi2⟩
  have k12 := k1.trans k2
  cases hdr : l.drop i with
  | nil =>
    rw [hdr] at hl
    obtain ⟨hg2, hfin⟩ := hl
    have hle : l.length ≤ i := by simpa using hdr
    exact .inl ⟨(hit i H2 m2 k2.keep rm2 hg2).2 hle, q.nx δ2 m2 σ2 H2 k12 rs2 rm2 hfin⟩
  | cons d r =>
    rw [hdr] at hl
    obtain ⟨hg2, hturn⟩ := hl
    have hd : l[i]? = some d := by
      have z : (l.drop i)[0]? = some d := by rw [hdr]; rfl
      rwa [List.getElem?_drop, Nat.add_zero] at z
    have hr' : l.drop (i + 1) = r := by
      have z : (l.drop i).drop 1 = r := by rw [hdr]; rfl
      rwa [List.drop_drop] at z
    have hlt : i < l.length := (List.getElem?_eq_some_iff.mp hd).1
    obtain ⟨hgo, hyld⟩ := (hit i H2 m2 k2.keep rm2 hg2).1 d hd
    refine .inr ⟨hgo, fun σ' H' => ∃ δ' m', Kp m1 H1 m' H' ∧ RelS X.K R H' δ' σ' ∧ RelM X.K R ce H' m' ∧ forL g (fun d F' δ' m' => tgW C t d δ' fun δ2 => wSs C sb F' δ2 m') r F δ' m', fun σ' H' ⟨δ', m', h1, h2, h3, h4⟩ => ⟨l.length - (i + 1), by omega, δ', m', h1, h2, h3, by rw [hr']; exact h4, rfl, hlt⟩, fun x H' hy => ?_⟩
    obtain ⟨rfl, rx⟩ := hyld x H' hy
    refine gT_ok hturn rx rs2 fun δ3 σ3 _ rs3 hbody => ?_
    refine ⟨δ3, m2, _, rs3, rm2, hbody, ?_, ?_, ?_, ?_, ?_⟩
    · exact fun δ4 m4 σ4 H4 k4 rs4 rm4 h4 => ⟨δ4, m4, k2.trans k4, rs4, rm4, h4⟩
    · exact (q.step k12).rt
    · exact fun δ4 m4 σ4 H4 k4 rs4 rm4 h4 => q.nx δ4 m4 σ4 H4 (k12.trans k4) rs4 rm4 h4
    · exact fun δ4 m4 σ4 H4 k4 rs4 rm4 h4 => ⟨δ4, m4, k2.trans k4, rs4, rm4, h4⟩
    · exact (q.step k12).ex
theorem is_while (hp : PassesOwn (model X.prog X.w) X.A X.env X.xe) {c : Expr} {t : E} {body : List Stmt} {sb : Ss} {pos : Pos} (hc : IT X R ce W C c t) (hb : ISs X R ce W C body sb) : IS X R ce W C (.While c body [] pos) (.whileS t sb) := by
  refine PS.imp (ps_while hp hc hb) fun D σ H ⟨δ, m, F, rs, rm, ⟨V, ⟨k0, hk0⟩, hV⟩, q⟩ => ?_
  refine ⟨fun j σ1 H1 => ∃ δ1 m1, Kp m H m1 H1 ∧ RelS X.K R H1 δ1 σ1 ∧ RelM X.K R ce H1 m1 ∧ V j δ1 m1, ⟨k0, δ, m, Kp.refl, rs, rm, hk0⟩, ?_⟩
  rintro j σ1 H1 ⟨δ1, m1, k1, rs1, rm1, hj⟩
  have q1 := q.step k1
  refine LT.mk rs1 rm1 (hV j δ1 m1 hj) (q1.hx rs1) fun b m2 H2 k2 rm2 hb2 => ?_
  have k12 := k1.trans k2
  have rs2 := rs1.keep k2.keep
  cases b with
  | false =>
    rw [if_neg Bool.false_ne_true] at hb2 ⊢
    exact q.nx δ1 m2 σ1 H2 k12 rs2 rm2 hb2
  | true =>
    rw [if_pos rfl] at hb2 ⊢
    refine ⟨fun σ' H' => ∃ δ' m' j', j' < j ∧ Kp m H m' H' ∧ RelS X.K R H' δ' σ' ∧ RelM X.K R ce H' m' ∧ V j' δ' m', fun σ' H' ⟨δ', m', j', h0, h1, h2, h3, h4⟩ => ⟨j', h0, δ', m', h1, h2, h3, h4⟩, δ1, m2, _, rs2, rm2, hb2, ?_, ?_, ?_, ?_, ?_⟩
    · exact fun δ4 m4 σ4 H4 k4 rs4 rm4 ⟨j', h0, h4⟩ => ⟨δ4, m4, j', h0, k12.trans k4, rs4, rm4, h4⟩
    · exact (q.step k12).rt
    · exact fun δ4 m4 σ4 H4 k4 rs4 rm4 h4 => q.nx δ4 m4 σ4 H4 (k12.trans k4) rs4 rm4 h4
    · exact fun δ4 m4 σ4 H4 k4 rs4 rm4 ⟨j', h0, h4⟩ => ⟨δ4, m4, j', h0, k12.trans k4, rs4, rm4, h4⟩
    · exact (q.step k12).ex
/-! ### raise -/
theorem is_raise (ok : Cok n X R ce W C) (hcm : C.calm = true) {c f : Str} {e : Expr} {a : E} {p pos pos2 : Pos} (hg : glB X.env.scope c = true) (hf : R.T.att c = some f) (he : IE X R ce W C e a) (h1 : noStar e = true) (hdb : (c == ("__debug__" : Str)) = false) :
    IS X R ce W C (.Raise (some (.Call (.Name c p) [e] [] pos)) none pos2) (.raise c a) := by
  obtain ⟨Ca, fI, g1, F, Ec, _⟩ := ok.row.xc c f hf
  obtain ⟨hXc, _, hr⟩ := ok.calm hcm
  refine PS.imp (ps_raise hXc ok.tk (pmk_x F (hr.mono (by omega)) (gl_of hg) (ok.row.cls _ _ g1) he h1 hdb)) fun D σ H ⟨δ, m, F2, rs, rm, ⟨_, hw⟩, q⟩ => ?_
  refine LE.mk rs rm hw (q.hx rs) fun d m1 v H1 k1 r1 rm1 h dx hdx => ?_
  have kn := Kp.new (m := m1) (.xd [(f, v)]) hdx
  exact q.ex (c, d) δ m1 σ _ _ _ (k1.trans kn) ((rs.keep k1.keep).keep kn.keep) (rm1.new _ hdx) ⟨Ca, f, v, dx, g1, rfl, hf, rfl, L2.upd_same, Rel.keep kn.keep _ _ r1⟩ h
end
end Ab
/-! try. -/
namespace Ab
open PySem PyProof.Rows L2 PySem.Spec
section
variable {n : Nat} {X : Cx} {R : Rw} {ce : Option Cur} {W : WX} {C : Ct}
/-- an except suite's reading -/
def tSu (X : Cx) (R : Rw) (C : Ct) (b : Ss) : Addr → Value → Option Addr → TS := fun a cls d D σ H => ∃ (x : Ex) (Ca dx : Addr) (f : Str) (v : V), cls = .ref Ca ∧ d = some dx ∧ R.clA x.1 = some Ca ∧ R.T.att x.1 = some f ∧ LS X.K R (some ⟨a, Ca, dx, f, x, v⟩) W0 (wSs (C.suite a x) b) D σ H
theorem takes0 {X : Cx} : Takes X W0 := fun _ _ ⟨_, _, _, _, _, _, _, _, _, _, _, _, _, _, _, _, w⟩ => w.elim
theorem Cok.suite (ok : Cok n X R ce W C) {a Ca dx : Addr} {ob : Obj} {f : Str} {x : Ex} {v : V} {pn : List (Addr × Obj)} (h1 : R.clA x.1 = some Ca) (h2 : R.T.att x.1 = some f) (hz : Zc (.ref Ca) (some dx) ob) (hf : ∃ vs, ob.data = .fields vs) :
    Cok n (X.suite a ((a, ob) :: pn)) R (some ⟨a, Ca, dx, f, x, v⟩) W0 (C.suite a x) where
  row := ok.row
  nd := ok.nd
  un := ok.un
  cst := ok.cst
  att := ok.att
  sub := ok.sub
  bsub := ok.bsub
  fld := ok.fld
  tk := takes0
  cur := fun a' e h => by
    cases h
    exact ⟨_, ob, rfl, rfl, rfl, h1, h2, List.mem_cons_self .., hz, hf⟩
  hot := fun _ => ⟨rfl, rfl⟩
  calm := fun h => by cases h
  call := fun h => by cases h
  none := fun _ _ _ _ _ _ h => h
  ar := fun _ _ _ _ _ h => h.elim
theorem Cok.try_ (ok : Cok n X R ce W C) {W' : WX} {pn : List (Addr × Obj)} {xe : Value → Shared → Prop} (hcm : C.calm = true) (tk : Takes (X.tr pn xe) W') : Cok n (X.tr pn xe) R ce W' C where
  row := ok.row
  nd := ok.nd
  un := ok.un
  cst := ok.cst
  att := ok.att
  sub := ok.sub
  bsub := ok.bsub
  fld := ok.fld
  tk := tk
  cur := fun a e h => by
    obtain ⟨c, _, h1, _⟩ := ok.cur a e h
    rw [(ok.calm hcm).2.1] at h1
    cases h1
  hot := ok.hot
  calm := ok.calm
  call := ok.call
  none := ok.none
  ar := ok.ar
/-- the clauses of the machine and of the text -/
inductive ClOk (X : Cx) (R : Rw) (C : Ct) : List ExceptHandler → Cl → List Clv → Prop
  | nil : ClOk X R C [] .nil []
  | cons {c : Str} {Cc : Addr} {y : Option Str} {nm : Option Nat} {b₀ : Stmt} {suite : List Stmt} {sb : Ss} {np p : Pos} {hds : List ExceptHandler} {r : Cl} {l : List Clv} (hg : glB X.env.scope c = true) (hd : (c == ("__debug__" : Str)) = false) (hc : R.clA c = some Cc) (hm : X.mg c = some (.ref Cc)) (hy : NmOk X y nm)
      (hsu : ∀ (a : Addr) (ob : Obj) (cls : Value) (d : Option Addr) (pn : List (Addr × Obj)), Zc cls d ob → (∃ vs, ob.data = .fields vs) → PSs (X.suite a ((a, ob) :: pn)) (b₀ :: suite) (tSu X R C sb a cls d)) (t : ClOk X R C hds r l) :
      ClOk X R C (.ExceptHandler (some (.Name c np)) y (b₀ :: suite) p :: hds) (.cons c nm sb r) (⟨.ref Cc, nm, tSu X R C sb⟩ :: l)
theorem ClOk.hd {hds : List ExceptHandler} {cl : Cl} {l : List Clv} (h : ClOk X R C hds cl l) : HdOk X hds l := by
  induction h with
  | nil => exact .nil
  | cons hg hd hc hm hy hsu t ih => exact .cons ⟨gl_of hg, hd, .inl hm⟩ hy hsu ih
theorem suite_ok (ok : Cok n X R ce W C) {b₀ : Stmt} {suite : List Stmt} {sb : Ss} (h : ∀ (a : Addr) (x : Ex) (cu : Cur) (pn : List (Addr × Obj)), Cok n (X.suite a pn) R (some cu) W0 (C.suite a x) → ISs (X.suite a pn) R (some cu) W0 (C.suite a x) (b₀ :: suite) sb)
    (a : Addr) (ob : Obj) (cls : Value) (d : Option Addr) (pn : List (Addr × Obj)) (hz : Zc cls d ob) (hf : ∃ vs, ob.data = .fields vs) : PSs (X.suite a ((a, ob) :: pn)) (b₀ :: suite) (tSu X R C sb a cls d) := by
  refine ⟨fun pins s σ H D I ⟨x, Ca, dx, f, v, e1, e2, h1, h2, hr⟩ => ?_⟩
  subst e1 e2
  exact (h a x ⟨a, Ca, dx, f, x, v⟩ _ (ok.suite h1 h2 hz hf)).run pins s σ H D I hr
theorem RelS.setO {K : PySem.W.Frag} {H : Hp} {δ : Dl} {σ : L2.St} {nm : Option Nat} {a : Addr} (rs : RelS K R H δ σ) : RelS K R H (Ab.setO δ nm (some (.cur a))) (setV σ nm (some (.ref a))) := by
  cases nm with
  | none => exact rs
  | some i => exact rs.set (by unfold Rel; rfl)
theorem cl_imp (ok : Cok n X R ce W C) (hce : ce = none) {D : Ends} {F : En} {m : Mm} {H : Hp} (q : EnOk X.K R ce W F m H D) {hds : List ExceptHandler} {cl : Cl} {l : List Clv} (h : ClOk X R C hds cl l) :
    ∀ {x : Ex} {δ1 : Dl} {m1 : Mm} {σ1 : L2.St} {H1 : Hp} {cls : Value} {dx : Option Addr}, Kp m H m1 H1 → RelS X.K R H1 δ1 σ1 → RelM X.K R ce H1 m1 → RelX X.K R H1 x cls dx → wCl C cl F x δ1 m1 → wClv X.K W D l cls dx σ1 H1 := by
  induction h with
  | nil => exact fun k rs rm rx hw => q.ex _ _ _ _ _ _ _ k rs rm rx hw
  | @cons c Cc y nm b₀ suite sb np p hds r l hg hd hc hm hy hsu t ih =>
    intro x δ1 m1 σ1 H1 cls dx k rs rm rx hw
    obtain ⟨b, hsub, hw⟩ := hw
    have rx0 := rx
    obtain ⟨Ca, f, v, db, g1, rfl, g2, rfl, g3, g4⟩ := rx0
    rw [ok.sub] at hsub
    refine ⟨b, ok.row.xm x.1 Ca c Cc b g1 hsub hc, fun hb a ha => ?_, fun hb => ?_⟩
    · subst hb
      rw [if_pos rfl] at hw
      refine ⟨x, Ca, db, f, v, rfl, rfl, g1, g2, Ab.setO δ1 nm (some (.cur a)), m1, _, rs.setO, ⟨rm.at_, fun c e => by cases e; exact ⟨g3, g4⟩⟩, hw a, ?_⟩
      have back : ∀ {m2 : Mm} {H2 : Hp} {cu : Cur}, RelM X.K R (some cu) H2 m2 → RelM X.K R ce H2 m2 := fun h => ⟨h.at_, fun c e => by rw [hce] at e; cases e⟩
      have q1 := q.step k
      cases nm with
      | none =>
        exact ⟨fun δ2 m2 σ2 H2 k2 rs2 rm2 h2 => q1.nx δ2 m2 σ2 H2 k2 rs2 (back rm2) h2, fun d m2 v H2 k2 r2 rm2 h2 => q1.rt d m2 v H2 k2 r2 (back rm2) h2, fun δ2 m2 σ2 H2 k2 rs2 rm2 h2 => q1.bk δ2 m2 σ2 H2 k2 rs2 (back rm2) h2,
          fun δ2 m2 σ2 H2 k2 rs2 rm2 h2 => q1.ct δ2 m2 σ2 H2 k2 rs2 (back rm2) h2, fun _ _ _ _ _ _ _ _ _ _ _ z => z.elim⟩
      | some i =>
        exact ⟨fun δ2 m2 σ2 H2 k2 rs2 rm2 h2 => q1.nx _ m2 _ H2 k2 rs2.unset (back rm2) h2, fun d m2 v H2 k2 r2 rm2 h2 => q1.rt d m2 v H2 k2 r2 (back rm2) h2, fun δ2 m2 σ2 H2 k2 rs2 rm2 h2 => q1.bk _ m2 _ H2 k2 rs2.unset (back rm2) h2,
          fun δ2 m2 σ2 H2 k2 rs2 rm2 h2 => q1.ct _ m2 _ H2 k2 rs2.unset (back rm2) h2, fun _ _ _ _ _ _ _ _ _ _ _ z => z.elim⟩
    · subst hb
      rw [if_neg Bool.false_ne_true] at hw
      exact ih k rs rm rx hw
theorem is_try (ok : Cok n X R ce W C) (hcm : C.calm = true) (hs : X.stack = X.env :: X.outer) (hf : X.env.frame = some X.env.locals) {body : List Stmt} {sb : Ss} {h₀ : ExceptHandler} {hds : List ExceptHandler} {cl : Cl} {l : List Clv} {pos : Pos}
    (hb : ∀ (W' : WX) (pn : List (Addr × Obj)) (xe : Value → Shared → Prop), Cok n (X.tr pn xe) R ce W' C → PassesOwn (model X.prog X.w) X.A X.env xe → ISs (X.tr pn xe) R ce W' C body sb) (hc : ClOk X R C (h₀ :: hds) cl l) :
    IS X R ce W C (.Try body (h₀ :: hds) [] [] pos) (.tryS sb cl) := by
  obtain ⟨_, hce, _⟩ := ok.calm hcm
  refine PS.imp (ps_try_any (tb := fun W' => LS X.K R ce W' (wSs C sb)) hs hf ok.nd ok.tk (fun W' pn xe tk hp => hb W' pn xe (ok.try_ hcm tk) hp) hc.hd) fun D σ H ⟨δ, m, F, rs, rm, ⟨_, hw⟩, q⟩ => ?_
  exact ⟨δ, m, _, rs, rm, hw, ⟨q.nx, q.rt, q.bk, q.ct, fun x δ1 m1 σ1 H1 cls dx k rs1 rm1 rx h => cl_imp ok hce q hc k rs1 rm1 rx h⟩⟩
/-! ### fields -/
theorem putF_rel {K : PySem.W.Frag} {H : Hp} {f : Str} {d : D} {v : V} (r : Rel K R H d v) : ∀ {fs : List (Str × D)} {fv : List (Str × V)}, RelF K R H fs fv → RelF K R H (putFl f d fs) (putF f v fv)
  | _, _, .nil => .cons ⟨rfl, r⟩ .nil
  | _, _, @Paired.cons _ _ _ p q _ _ r1 t => by
    obtain ⟨g, y⟩ := p
    obtain ⟨g', z⟩ := q
    obtain ⟨e, r1⟩ := r1
    dsimp only at e r1
    subst e
    unfold putFl putF
    by_cases hf : g = f
    · first
        | (rw [if_pos hf, if_pos hf]; exact .cons ⟨rfl, r⟩ t)
        | (subst hf; simp; exact .cons ⟨rfl, r⟩ t)
    · first
        | (rw [if_neg hf, if_neg hf]; exact .cons ⟨rfl, r1⟩ (putF_rel r t))
        | (simp [hf]; exact .cons ⟨rfl, r1⟩ (putF_rel r t))
end
end Ab
/-! The check that a written body is the machine's. -/
namespace Ab
open PySem PyProof.Rows L2 PySem.Spec
def visB (sc : Scope) (x : Str) : Bool := match sc.names.lookup x with
  | some .local => true | some .cell => true | some .free => true
  | _ => false
def fsB : Expr → Bool
  | .Set _ _ _ => false
  | _ => true
theorem fs_eq {e : Expr} {env : Env} (h : fsB e = true) (x : Value) : foldedSetIterable e env x = pure x := by
  cases e <;> first | rfl | simp [fsB] at h
def ownN (N : List Str) (own : List Nat) : List (Str × Nat) := own.map fun i => ((N[i]?).getD ("" : Str), i)
theorem ownN_snd (N : List Str) (own : List Nat) : (ownN N own).map (·.2) = own := by
  unfold ownN
  rw [List.map_map]
  exact List.map_id _
def Mt.nm : Mt → Str
  | .append => "append"
  | .join => "join"
mutual
def okE (R : Rw) (N : List Str) (cm : Bool) : E → Scope → Expr → Bool
  | .var i, sc, e => (match e with | .Name x _ => N[i]? == some x && visB sc x && x != "__debug__" && x != "__classdict__" | _ => false)
  | .int i, _, e => (match e with | .Constant (.int j) _ _ => i == j | _ => false)
  | .str i, _, e => (match e with | .Constant (.str j) _ _ => i == j | _ => false)
  | .bl i, _, e => (match e with | .Constant (.bool j) _ _ => i == j | _ => false)
  | .non, _, e => (match e with | .Constant .none _ _ => true | _ => false)
  | .glob x, sc, e => (match e with | .Name y _ => x == y && glB sc y && y != "__debug__" | _ => false)
  | .bop o a b, sc, e => (match e with | .BinOp l op r _ => op == o.op && okE R N cm a sc l && okE R N cm b sc r | _ => false)
  | .neg a, sc, e => (match e with | .UnaryOp .USub l _ => okE R N cm a sc l | _ => false)
  | .cmp o a b, sc, e => (match e with | .Compare l [op] [r] _ => op == o.op && okE R N cm a sc l && okE R N cm b sc r && !behindInMarks op r | _ => false)
  | .chain o p a b c, sc, e => (match e with | .Compare l [op, op2] [r, r2] _ => op == o.op && op2 == p.op && okE R N cm a sc l && okE R N cm b sc r && okE R N cm c sc r2 && !lastMarks [op, op2] [r, r2] | _ => false)
  | .isN a, sc, e => (match e with | .Compare l [.Is] [.Constant .none _ _] _ => okE R N cm a sc l | _ => false)
  | .notN a, sc, e => (match e with | .Compare l [.IsNot] [.Constant .none _ _] _ => okE R N cm a sc l | _ => false)
  | .andE es, sc, e => (match e with | .BoolOp .And l _ => !l.isEmpty && okAs R N cm es sc l | _ => false)
  | .orE es, sc, e => (match e with | .BoolOp .Or l _ => !l.isEmpty && okAs R N cm es sc l | _ => false)
  | .notE a, sc, e => (match e with | .UnaryOp .Not l _ => okE R N cm a sc l | _ => false)
  | .ite t a b, sc, e => (match e with | .IfExp c l r _ => okT R N cm t sc c && okE R N cm a sc l && okE R N cm b sc r | _ => false)
  | .tup es, sc, e => (match e with | .Tuple l _ _ => okAs R N cm es sc l && l.all noStar | _ => false)
  | .lst es, sc, e => (match e with | .List l _ => okAs R N cm es sc l && l.all noStar | _ => false)
  | .lstM es, sc, e => (match e with | .List l _ => okAs R N cm es sc l && l.all noStar | _ => false)
  | .idx a i, sc, e => (match e with | .Subscript l r _ => okE R N cm a sc l && okE R N cm i sc r && plainIx r | _ => false)
  | .slc _ _ _, _, _ => false
  | .noE, _, _ => false
  | .fld a f, sc, e => (match e with | .Attribute l g _ => f == g && okE R N cm a sc l && baseOk l | _ => false)
  | .call f es, sc, e => (match e with | .Call (.Name g _) l [] _ => cm && f == g && glB sc g && g != "__debug__" && R.gfn f && (R.fnA f).isSome && okAs R N cm es sc l && l.all noStar | _ => false)
  | .bi b es, sc, e => (match e with | .Call (.Name g _) l [] _ => cm && b.nm == g && glB sc g && okAs R N cm es sc l && l.all noStar && !l.isEmpty | _ => false)
  | .mth o a es, sc, e => (match e with
      | .Call (.Attribute l g ap) [r] [] p => (match es with
        | .cons x .nil => g == o.nm && okE R N cm a sc l && okE R N cm x sc r && baseOk l && noStar r && ap.endLine == p.line
        | _ => false)
      | _ => false)
  | .um _ _ _, _, _ => false
  | .new _ _, _, _ => false
  | .mkx c a, sc, e => (match e with | .Call (.Name g _) [r] [] _ => cm && c == g && glB sc g && g != "__debug__" && (R.T.att c).isSome && okE R N cm a sc r && noStar r | _ => false)
  | .isi a ts, sc, e => (match e with | .Call (.Name g _) [l, t] [] _ => g == "isinstance" && glB sc g && okE R N cm a sc l && noStar l && isiB sc t ts && tyVals R ts | _ => false)
  | .lc _ own t it ifs elt, sc, e => (match e with
      | .ListComp x [⟨tg, iter, cs, k⟩] scope _ => cm && k == 0 && okI R N cm it sc iter && blkC N sc scope (ownN N own) && tgB false N (relS scope sc) tg t && t.slots.all (fun i => own.contains i) && okIf R N cm ifs (relS scope sc) cs && okE R N cm elt (relS scope sc) x && fsB iter
      | _ => false)
def okT (R : Rw) (N : List Str) (cm : Bool) : E → Scope → Expr → Bool
  | .andE es, sc, e => (match e with | .BoolOp .And l _ => !l.isEmpty && okTs R N cm es sc l | _ => false)
  | .orE es, sc, e => (match e with | .BoolOp .Or l _ => !l.isEmpty && okTs R N cm es sc l | _ => false)
  | .notE a, sc, e => (match e with | .UnaryOp .Not l _ => okT R N cm a sc l | _ => false)
  | .var i, sc, e => (match e with | .Name x _ => N[i]? == some x && visB sc x && x != "__debug__" && x != "__classdict__" | _ => false)
  | .cmp o a b, sc, e => (match e with | .Compare l [op] [r] _ => op == o.op && okE R N cm a sc l && okE R N cm b sc r && !behindInMarks op r | _ => false)
  | .chain o p a b c, sc, e => (match e with | .Compare l [op, op2] [r, r2] _ => op == o.op && op2 == p.op && okE R N cm a sc l && okE R N cm b sc r && okE R N cm c sc r2 && !lastMarks [op, op2] [r, r2] | _ => false)
  | .isN a, sc, e => (match e with | .Compare l [.Is] [.Constant .none _ _] _ => okE R N cm a sc l | _ => false)
  | .notN a, sc, e => (match e with | .Compare l [.IsNot] [.Constant .none _ _] _ => okE R N cm a sc l | _ => false)
  | .idx a i, sc, e => (match e with | .Subscript l r _ => okE R N cm a sc l && okE R N cm i sc r && plainIx r | _ => false)
  | .fld a f, sc, e => (match e with | .Attribute l g _ => f == g && okE R N cm a sc l && baseOk l | _ => false)
  | .call f es, sc, e => (match e with | .Call (.Name g _) l [] _ => cm && f == g && glB sc g && g != "__debug__" && R.gfn f && (R.fnA f).isSome && okAs R N cm es sc l && l.all noStar | _ => false)
  | .bi b es, sc, e => (match e with | .Call (.Name g _) l [] _ => cm && b.nm == g && glB sc g && okAs R N cm es sc l && l.all noStar && !l.isEmpty | _ => false)
  | .isi a ts, sc, e => (match e with | .Call (.Name g _) [l, t] [] _ => g == "isinstance" && glB sc g && okE R N cm a sc l && noStar l && isiB sc t ts && tyVals R ts | _ => false)
  | _, _, _ => false
def okAs (R : Rw) (N : List Str) (cm : Bool) : As → Scope → List Expr → Bool
  | .nil, _, l => l.isEmpty
  | .cons a r, sc, l => (match l with | e :: s => okE R N cm a sc e && okAs R N cm r sc s | [] => false)
def okTs (R : Rw) (N : List Str) (cm : Bool) : As → Scope → List Expr → Bool
  | .nil, _, l => l.isEmpty
  | .cons a r, sc, l => (match l with | e :: s => okT R N cm a sc e && okTs R N cm r sc s | [] => false)
def okIf (R : Rw) (N : List Str) (cm : Bool) : As → Scope → List Expr → Bool
  | .nil, _, l => l.isEmpty
  | .cons a r, sc, l => (match r, l with | .nil, [e] => okT R N cm a sc e | _, _ => false)
def okI (R : Rw) (N : List Str) (cm : Bool) : It → Scope → Expr → Bool
  | .ex a, sc, e => okE R N cm a sc e
  | .rng1 a, sc, e => (match e with | .Call (.Name g _) [l] [] _ => g == "range" && glB sc g && okE R N cm a sc l && noStar l | _ => false)
  | .rng2 a b, sc, e => (match e with | .Call (.Name g _) [l, r] [] _ => g == "range" && glB sc g && okE R N cm a sc l && okE R N cm b sc r && noStar l && noStar r | _ => false)
end
theorem cm_calm {n : Nat} {X : Cx} {R : Rw} {ce : Option Cur} {W : WX} {C : Ct} (ok : Cok n X R ce W C) (h : C.calm = true) : X.calm = true := (ok.calm h).1
theorem Cok.blk {n : Nat} {X : Cx} {R : Rw} {ce : Option Cur} {W : WX} {C : Ct} (ok : Cok n X R ce W C) (hcm : C.calm = true) (s : Shared) (H : Hp) (scope : Scope) (cenv : Env) (fp : List Addr) : Cok n (X.blk s H scope cenv fp) R ce W0 C where
  row := ok.row
  nd := ok.nd
  un := ok.un
  cst := ok.cst
  att := ok.att
  sub := ok.sub
  bsub := ok.bsub
  fld := ok.fld
  tk := takes0
  cur := fun a e h => by
    obtain ⟨c, _, h1, _⟩ := ok.cur a e h
    rw [(ok.calm hcm).2.1] at h1
    cases h1
  hot := ok.hot
  calm := ok.calm
  call := ok.call
  none := ok.none
  ar := ok.ar
theorem vis_of {X : Cx} {x : Str} (h : visB X.env.scope x = true) : Vis X.env.scope x := by
  unfold visB at h
  split at h
  · rename_i e; exact .inl e
  · rename_i e; exact .inr (.inl e)
  · rename_i e; exact .inr (.inr e)
  · cases h
end Ab
/-! The check is enough: expressions. -/
namespace Ab
open PySem PyProof.Rows L2 PySem.Spec
theorem PTs.imp {X : Cx} {es : List Expr} {t t' : TT} (h : PTs X es t) (i : ∀ σ H Q, t' σ H Q → t σ H Q) : PTs X es t' := ⟨fun pins s σ H Q I q => h.run pins s σ H Q I (i σ H Q q)⟩
section
variable {R : Rw} {C : Ct} {cm : Bool}
theorem dbg_no {x y : Str} (h : (x != y) = true) : (x == y) = false := by simpa using h
theorem all_star {l : List Expr} (h : l.all noStar = true) : ∀ x ∈ l, noStar x = true := List.all_eq_true.mp h
theorem fn_some {f : Str} (h : (R.fnA f).isSome = true) : ∃ a, R.fnA f = some a := Option.isSome_iff_exists.mp h
theorem mark_no {b : Bool} (h : (!b) = true) : b = false := by simpa using h
theorem ne_nil {l : List Expr} (h : (!l.isEmpty) = true) : ∃ e r, l = e :: r := by cases l with
  | nil => simp at h
  | cons e r => exact ⟨e, r, rfl⟩
theorem calm_of {cm : Bool} {n : Nat} {X : Cx} {ce : Option Cur} {W : WX} (ok : Cok n X R ce W C) (hcm : cm = true → C.calm = true) (h : cm = true) : C.calm = true ∧ X.calm = true := ⟨hcm h, (ok.calm (hcm h)).1⟩

theorem okIf_one {n : Nat} {X : Cx} {ce : Option Cur} {W : WX} {e : Expr} {a : E} (h : IT X R ce W C e a) : PTs X [e] (LT X.K R ce W fun _ => wTs C (.cons a .nil)) := by
  refine PTs.imp (pts_one h) fun σ H Q ⟨δ, m, Xd, k, rs, rm, hw, q, hx⟩ => ?_
  exact ⟨δ, m, fun _ _ => False, k, rs, rm, hw, q, HX.none⟩
theorem okIf_nil {n : Nat} {X : Cx} {ce : Option Cur} {W : WX} : PTs X [] (LT X.K R ce W fun _ => wTs C .nil) := by
  refine PTs.imp pts_nil fun σ H Q ⟨δ, m, Xd, k, rs, rm, hw, q, hx⟩ => ?_
  exact q true m H Kp.refl rm hw
mutual
theorem okE_ok : ∀ (a : E) {n : Nat} {X : Cx} {ce : Option Cur} {W : WX} (ok : Cok n X R ce W C) (hcm : cm = true → C.calm = true) (e : Expr), okE R X.N cm a X.env.scope e = true → IE X R ce W C e a
  | .var i, n, X, ce, W, ok, hcm, e, h => by
    simp only [okE] at h
    split at h
    · simp only [beq_iff_eq, Bool.and_eq_true] at h
      rcases h with ⟨⟨⟨h1, h2⟩, h3⟩, h4⟩
      exact ie_var h1 (vis_of h2) (dbg_no h3) (dbg_no h4)
    · cases h
  | .int i, n, X, ce, W, ok, hcm, e, h => by
    simp only [okE] at h
    split at h
    · cases beq_iff_eq.mp h; exact ie_int
    · cases h
  | .str i, n, X, ce, W, ok, hcm, e, h => by
    simp only [okE] at h
    split at h
    · cases beq_iff_eq.mp h; exact ie_str
    · cases h
  | .bl i, n, X, ce, W, ok, hcm, e, h => by
    simp only [okE] at h
    split at h
    · cases beq_iff_eq.mp h; exact ie_bl
    · cases h
  | .non, n, X, ce, W, ok, hcm, e, h => by
    simp only [okE] at h
    split at h
    · exact ie_non
    · cases h
  | .glob x, n, X, ce, W, ok, hcm, e, h => by
    simp only [okE] at h
    split at h
    · simp only [beq_iff_eq, Bool.and_eq_true] at h
      obtain ⟨⟨rfl, h2⟩, h3⟩ := h
      exact ie_glob (gl_of h2) (dbg_no h3) fun d hd => by rw [ok.cst] at hd; exact ok.row.glob _ d hd
    · cases h
  | .bop o a b, n, X, ce, W, ok, hcm, e, h => by
    simp only [okE] at h
    split at h
    · simp only [beq_iff_eq, Bool.and_eq_true] at h
      obtain ⟨⟨rfl, h2⟩, h3⟩ := h
      exact ie_bop (okE_ok a ok hcm _ h2) (okE_ok b ok hcm _ h3)
    · cases h
  | .neg a, n, X, ce, W, ok, hcm, e, h => by
    simp only [okE] at h
    split at h
    · exact ie_neg (okE_ok a ok hcm _ h)
    · cases h
  | .cmp o a b, n, X, ce, W, ok, hcm, e, h => by
    simp only [okE] at h
    split at h
    · simp only [beq_iff_eq, Bool.and_eq_true] at h
      obtain ⟨⟨⟨rfl, h2⟩, h3⟩, h4⟩ := h
      exact ie_cmp ok.un (okE_ok a ok hcm _ h2) (okE_ok b ok hcm _ h3) (mark_no h4)
    · cases h
  | .chain o p a b c, n, X, ce, W, ok, hcm, e, h => by
    simp only [okE] at h
    split at h
    · simp only [beq_iff_eq, Bool.and_eq_true] at h
      obtain ⟨⟨⟨⟨⟨rfl, rfl⟩, h2⟩, h3⟩, h5⟩, h4⟩ := h
      exact ie_chain ok.un (okE_ok a ok hcm _ h2) (okE_ok b ok hcm _ h3) (okE_ok c ok hcm _ h5) (mark_no h4)
    · cases h
  | .isN a, n, X, ce, W, ok, hcm, e, h => by
    simp only [okE] at h
    split at h
    · exact ie_isN (okE_ok a ok hcm _ h)
    · cases h
  | .notN a, n, X, ce, W, ok, hcm, e, h => by
    simp only [okE] at h
    split at h
    · exact ie_notN (okE_ok a ok hcm _ h)
    · cases h
  | .andE es, n, X, ce, W, ok, hcm, e, h => by
    simp only [okE] at h
    split at h
    · simp only [Bool.and_eq_true_iff] at h
      exact PE.imp (okAnd_ok es ok hcm _ _ h.1 h.2) fun _ _ _ q => q
    · cases h
  | .orE es, n, X, ce, W, ok, hcm, e, h => by
    simp only [okE] at h
    split at h
    · simp only [Bool.and_eq_true_iff] at h
      exact PE.imp (okOr_ok es ok hcm _ _ h.1 h.2) fun _ _ _ q => q
    · cases h
  | .notE a, n, X, ce, W, ok, hcm, e, h => by
    simp only [okE] at h
    split at h
    · exact ie_not (okE_ok a ok hcm _ h)
    · cases h
  | .ite t a b, n, X, ce, W, ok, hcm, e, h => by
    simp only [okE] at h
    split at h
    · simp only [Bool.and_eq_true_iff] at h
      exact ie_ite (okT_ok t ok hcm _ h.1.1) (okE_ok a ok hcm _ h.1.2) (okE_ok b ok hcm _ h.2)
    · cases h
  | .tup es, n, X, ce, W, ok, hcm, e, h => by
    simp only [okE] at h
    split at h
    · simp only [Bool.and_eq_true_iff] at h
      exact ie_tup (okAs_ok es ok hcm _ h.1 h.2)
    · cases h
  | .lst es, n, X, ce, W, ok, hcm, e, h => by
    simp only [okE] at h
    split at h
    · simp only [Bool.and_eq_true_iff] at h
      exact ie_lst (okAs_ok es ok hcm _ h.1 h.2)
    · cases h
  | .lstM es, n, X, ce, W, ok, hcm, e, h => by
    simp only [okE] at h
    split at h
    · simp only [Bool.and_eq_true_iff] at h
      exact ie_lstM (okAs_ok es ok hcm _ h.1 h.2)
    · cases h
  | .idx a i, n, X, ce, W, ok, hcm, e, h => by
    simp only [okE] at h
    split at h
    · simp only [Bool.and_eq_true_iff] at h
      exact ie_idx (okE_ok a ok hcm _ h.1.1) (okE_ok i ok hcm _ h.1.2) (plainIx_eq h.2)
    · cases h
  | .slc _ _ _, n, X, ce, W, ok, hcm, e, h => by simp only [okE] at h; cases h
  | .noE, n, X, ce, W, ok, hcm, e, h => by simp only [okE] at h; cases h
  | .um _ _ _, n, X, ce, W, ok, hcm, e, h => by simp only [okE] at h; cases h
  | .new _ _, n, X, ce, W, ok, hcm, e, h => by simp only [okE] at h; cases h
  | .fld a f, n, X, ce, W, ok, hcm, e, h => by
    simp only [okE] at h
    split at h
    · simp only [beq_iff_eq, Bool.and_eq_true] at h
      obtain ⟨⟨rfl, h2⟩, h3⟩ := h
      exact ie_fldX ok (okE_ok a ok hcm _ h2) h3
    · cases h
  | .call f es, n, X, ce, W, ok, hcm, e, h => by
    simp only [okE] at h
    split at h
    · simp only [beq_iff_eq, Bool.and_eq_true] at h
      obtain ⟨⟨⟨⟨⟨⟨⟨h0, rfl⟩, h2⟩, h3⟩, h4⟩, h5⟩, h6⟩, h7⟩ := h
      obtain ⟨ad, hA⟩ := fn_some h5
      rename_i l _
      cases l with
      | nil =>
        cases es with
        | nil => exact ie_call0 ok (hcm h0) h2 (dbg_no h3) h4 hA
        | cons _ _ => simp [okAs] at h6
      | cons e0 l => exact ie_call ok (hcm h0) h2 (dbg_no h3) h4 hA (okAs_ok es ok hcm _ h6 h7) (all_star h7)
    · cases h
  | .bi b es, n, X, ce, W, ok, hcm, e, h => by
    simp only [okE] at h
    split at h
    · simp only [beq_iff_eq, Bool.and_eq_true] at h
      obtain ⟨⟨⟨⟨⟨h0, rfl⟩, h2⟩, h6⟩, h7⟩, h8⟩ := h
      obtain ⟨e0, l, rfl⟩ := ne_nil h8
      exact ie_bi ok (cm_calm ok (hcm h0)) h2 (okAs_ok es ok hcm _ h6 h7) (all_star h7)
    · cases h
  | .mth o a (.cons x .nil), n, X, ce, W, ok, hcm, e, h => by
    unfold okE at h
    split at h
    · simp only [beq_iff_eq, Bool.and_eq_true] at h
      obtain ⟨⟨⟨⟨⟨rfl, h2⟩, h3⟩, h4⟩, h5⟩, h6⟩ := h
      cases o with
      | append => exact ie_append (okE_ok a ok hcm _ h2) (okE_ok x ok hcm _ h3) h4 h5 (by rw [h6]; exact beq_self_eq_true _)
      | join => exact ie_join (okE_ok a ok hcm _ h2) (okE_ok x ok hcm _ h3) h4 h5 (by rw [h6]; exact beq_self_eq_true _)
    · cases h
  | .mth o a .nil, n, X, ce, W, ok, hcm, e, h => by
    unfold okE at h
    split at h <;> cases h
  | .mth o a (.cons _ (.cons _ _)), n, X, ce, W, ok, hcm, e, h => by
    unfold okE at h
    split at h <;> cases h
  | .mkx c a, n, X, ce, W, ok, hcm, e, h => by
    simp only [okE] at h
    split at h
    · simp only [beq_iff_eq, Bool.and_eq_true] at h
      obtain ⟨⟨⟨⟨⟨⟨h0, rfl⟩, h2⟩, h3⟩, h4⟩, h5⟩, h6⟩ := h
      obtain ⟨f, hf⟩ := Option.isSome_iff_exists.mp h4
      exact ie_mkx ok (hcm h0) h2 hf (okE_ok a ok hcm _ h5) h6 (dbg_no h3)
    · cases h
  | .isi a ts, n, X, ce, W, ok, hcm, e, h => by
    simp only [okE] at h
    split at h
    · simp only [beq_iff_eq, Bool.and_eq_true] at h
      obtain ⟨⟨⟨⟨⟨rfl, h2⟩, h3⟩, h4⟩, h5⟩, h6⟩ := h
      exact ie_isi ok h2 (okE_ok a ok hcm _ h3) h4 h5 h6
    · cases h
  | .lc fz own t it ifs elt, n, X, ce, W, ok, hcm, e, h => by
    simp only [okE] at h
    split at h
    · simp only [beq_iff_eq, Bool.and_eq_true] at h
      obtain ⟨⟨⟨⟨⟨⟨⟨⟨h0, rfl⟩, h2⟩, h3⟩, h4⟩, h5⟩, h6⟩, h7⟩, h8⟩ := h
      rename_i tg iter cs scope pos
      have e1 : own = (ownN X.N own).map (·.2) := (ownN_snd _ _).symm
      have hc := hcm h0
      rw [e1]
      refine ie_lc ok hc (okI_ok it ok hcm tg iter h2) h3 (fun s H Ca cl fp => ?_) (fun i hi => ?_) (fun s H Ca cl fp => ?_) (fun s H Ca cl fp => ?_) (fs_eq h8)
      · exact pg_tg (X := X.blk s H scope (compEnvC scope cl Ca X.env) fp) (fc := false) ok.nd (fun z => by cases z) (cm_calm (ok.blk hc s H scope (compEnvC scope cl Ca X.env) fp) hc) h4
      · rw [← e1]
        exact List.contains_iff_mem.mp (List.all_eq_true.mp h5 i hi)
      · exact okIf_ok ifs (ok.blk hc s H scope (compEnvC scope cl Ca X.env) fp) hcm cs h6
      · exact okE_ok elt (ok.blk hc s H scope (compEnvC scope cl Ca X.env) fp) hcm _ h7
    · cases h
theorem okT_ok : ∀ (a : E) {n : Nat} {X : Cx} {ce : Option Cur} {W : WX} (ok : Cok n X R ce W C) (hcm : cm = true → C.calm = true) (e : Expr), okT R X.N cm a X.env.scope e = true → IT X R ce W C e a
  | .andE es, n, X, ce, W, ok, hcm, e, h => by
    simp only [okT] at h
    split at h
    · simp only [Bool.and_eq_true_iff] at h
      exact PT.imp (okTAnd_ok es ok hcm _ _ h.1 h.2).pt fun _ _ _ q => q
    · cases h
  | .orE es, n, X, ce, W, ok, hcm, e, h => by
    simp only [okT] at h
    split at h
    · simp only [Bool.and_eq_true_iff] at h
      exact PT.imp (okTOr_ok es ok hcm _ _ h.1 h.2).pt fun _ _ _ q => q
    · cases h
  | .notE a, n, X, ce, W, ok, hcm, e, h => by
    simp only [okT] at h
    split at h
    · exact it_not (okT_ok a ok hcm _ h)
    · cases h
  | .var i, n, X, ce, W, ok, hcm, e, h => by
    simp only [okT] at h
    split at h
    · simp only [beq_iff_eq, Bool.and_eq_true] at h
      rcases h with ⟨⟨⟨h1, h2⟩, h3⟩, h4⟩
      exact PT.imp (it_truth (ie_var (R := R) (ce := ce) (W := W) (C := C) h1 (vis_of h2) (dbg_no h3) (dbg_no h4)) fun _ => rfl) fun _ _ _ q => q
    · cases h
  | .cmp o a b, n, X, ce, W, ok, hcm, e, h => by
    simp only [okT] at h
    split at h
    · simp only [beq_iff_eq, Bool.and_eq_true] at h
      obtain ⟨⟨⟨rfl, h2⟩, h3⟩, h4⟩ := h
      exact it_cmp ok.un (okE_ok a ok hcm _ h2) (okE_ok b ok hcm _ h3) (mark_no h4)
    · cases h
  | .chain o p a b c, n, X, ce, W, ok, hcm, e, h => by
    simp only [okT] at h
    split at h
    · simp only [beq_iff_eq, Bool.and_eq_true] at h
      obtain ⟨⟨⟨⟨⟨rfl, rfl⟩, h2⟩, h3⟩, h5⟩, h4⟩ := h
      exact it_chain ok.un (okE_ok a ok hcm _ h2) (okE_ok b ok hcm _ h3) (okE_ok c ok hcm _ h5) (mark_no h4)
    · cases h
  | .isN a, n, X, ce, W, ok, hcm, e, h => by
    simp only [okT] at h
    split at h
    · exact it_isN (okE_ok a ok hcm _ h)
    · cases h
  | .notN a, n, X, ce, W, ok, hcm, e, h => by
    simp only [okT] at h
    split at h
    · exact it_notN (okE_ok a ok hcm _ h)
    · cases h
  | .idx a i, n, X, ce, W, ok, hcm, e, h => by
    simp only [okT] at h
    split at h
    · simp only [Bool.and_eq_true_iff] at h
      exact PT.imp (it_truth (ie_idx (okE_ok a ok hcm _ h.1.1) (okE_ok i ok hcm _ h.1.2) (plainIx_eq h.2)) fun _ => rfl) fun _ _ _ q => q
    · cases h
  | .fld a f, n, X, ce, W, ok, hcm, e, h => by
    simp only [okT] at h
    split at h
    · simp only [beq_iff_eq, Bool.and_eq_true] at h
      obtain ⟨⟨rfl, h2⟩, h3⟩ := h
      exact PT.imp (it_truth (ie_fldX ok (okE_ok a ok hcm _ h2) h3) fun _ => rfl) fun _ _ _ q => q
    · cases h
  | .call f es, n, X, ce, W, ok, hcm, e, h => by
    simp only [okT] at h
    split at h
    · simp only [beq_iff_eq, Bool.and_eq_true] at h
      obtain ⟨⟨⟨⟨⟨⟨⟨h0, rfl⟩, h2⟩, h3⟩, h4⟩, h5⟩, h6⟩, h7⟩ := h
      obtain ⟨ad, hA⟩ := fn_some h5
      rename_i l _
      refine PT.imp (it_truth (w := fun Xd => wE C Xd (.call _ es)) ?_ fun _ => rfl) fun _ _ _ q => q
      cases l with
      | nil =>
        cases es with
        | nil => exact ie_call0 ok (hcm h0) h2 (dbg_no h3) h4 hA
        | cons _ _ => simp [okAs] at h6
      | cons e0 l => exact ie_call ok (hcm h0) h2 (dbg_no h3) h4 hA (okAs_ok es ok hcm _ h6 h7) (all_star h7)
    · cases h
  | .bi b es, n, X, ce, W, ok, hcm, e, h => by
    simp only [okT] at h
    split at h
    · simp only [beq_iff_eq, Bool.and_eq_true] at h
      obtain ⟨⟨⟨⟨⟨h0, rfl⟩, h2⟩, h6⟩, h7⟩, h8⟩ := h
      obtain ⟨e0, l, rfl⟩ := ne_nil h8
      exact PT.imp (it_truth (ie_bi ok (cm_calm ok (hcm h0)) h2 (okAs_ok es ok hcm _ h6 h7) (all_star h7)) fun _ => rfl) fun _ _ _ q => q
    · cases h
  | .isi a ts, n, X, ce, W, ok, hcm, e, h => by
    simp only [okT] at h
    split at h
    · simp only [beq_iff_eq, Bool.and_eq_true] at h
      obtain ⟨⟨⟨⟨⟨rfl, h2⟩, h3⟩, h4⟩, h5⟩, h6⟩ := h
      exact it_isi ok h2 (okE_ok a ok hcm _ h3) h4 h5 h6
    · cases h
  | .int _, n, X, ce, W, ok, hcm, e, h => by simp only [okT] at h; cases h
  | .str _, n, X, ce, W, ok, hcm, e, h => by simp only [okT] at h; cases h
  | .bl _, n, X, ce, W, ok, hcm, e, h => by simp only [okT] at h; cases h
  | .non, n, X, ce, W, ok, hcm, e, h => by simp only [okT] at h; cases h
  | .glob _, n, X, ce, W, ok, hcm, e, h => by simp only [okT] at h; cases h
  | .bop _ _ _, n, X, ce, W, ok, hcm, e, h => by simp only [okT] at h; cases h
  | .neg _, n, X, ce, W, ok, hcm, e, h => by simp only [okT] at h; cases h
  | .ite _ _ _, n, X, ce, W, ok, hcm, e, h => by simp only [okT] at h; cases h
  | .tup _, n, X, ce, W, ok, hcm, e, h => by simp only [okT] at h; cases h
  | .lst _, n, X, ce, W, ok, hcm, e, h => by simp only [okT] at h; cases h
  | .lstM _, n, X, ce, W, ok, hcm, e, h => by simp only [okT] at h; cases h
  | .slc _ _ _, n, X, ce, W, ok, hcm, e, h => by simp only [okT] at h; cases h
  | .noE, n, X, ce, W, ok, hcm, e, h => by simp only [okT] at h; cases h
  | .mth _ _ _, n, X, ce, W, ok, hcm, e, h => by simp only [okT] at h; cases h
  | .um _ _ _, n, X, ce, W, ok, hcm, e, h => by simp only [okT] at h; cases h
  | .new _ _, n, X, ce, W, ok, hcm, e, h => by simp only [okT] at h; cases h
  | .mkx _ _, n, X, ce, W, ok, hcm, e, h => by simp only [okT] at h; cases h
  | .lc _ _ _ _ _ _, n, X, ce, W, ok, hcm, e, h => by simp only [okT] at h; cases h
theorem okAs_ok : ∀ (as : As) {n : Nat} {X : Cx} {ce : Option Cur} {W : WX} (ok : Cok n X R ce W C) (hcm : cm = true → C.calm = true) (l : List Expr), okAs R X.N cm as X.env.scope l = true → l.all noStar = true → IA X R ce W C l as
  | .nil, n, X, ce, W, ok, hcm, l, h, hs => by
    cases l with
    | nil => exact ia_nil
    | cons _ _ => simp [okAs] at h
  | .cons a r, n, X, ce, W, ok, hcm, l, h, hs => by
    cases l with
    | nil => simp [okAs] at h
    | cons e s =>
      simp only [okAs, Bool.and_eq_true] at h
      simp only [Bool.and_eq_true, List.all_cons] at hs
      exact ia_cons hs.1 (okE_ok a ok hcm _ h.1) (okAs_ok r ok hcm _ h.2 hs.2)
theorem okAnd_ok : ∀ (as : As) {n : Nat} {X : Cx} {ce : Option Cur} {W : WX} (ok : Cok n X R ce W C) (hcm : cm = true → C.calm = true) (l : List Expr) (pos : Pos), (!l.isEmpty) = true → okAs R X.N cm as X.env.scope l = true → IAnd X R ce W C pos l as
  | .nil, n, X, ce, W, ok, hcm, l, pos, hne, h => by
    obtain ⟨e, r, rfl⟩ := ne_nil hne
    simp [okAs] at h
  | .cons a r, n, X, ce, W, ok, hcm, l, pos, hne, h => by
    obtain ⟨e, s, rfl⟩ := ne_nil hne
    simp only [okAs, Bool.and_eq_true] at h
    cases s with
    | nil =>
      cases r with
      | nil => exact iand_one (okE_ok a ok hcm _ h.1)
      | cons _ _ => simp [okAs] at h
    | cons e2 s =>
      cases r with
      | nil => simp [okAs] at h
      | cons a2 r => exact iand_cons (okE_ok a ok hcm _ h.1) (okAnd_ok (.cons a2 r) ok hcm (e2 :: s) pos rfl h.2)
theorem okOr_ok : ∀ (as : As) {n : Nat} {X : Cx} {ce : Option Cur} {W : WX} (ok : Cok n X R ce W C) (hcm : cm = true → C.calm = true) (l : List Expr) (pos : Pos), (!l.isEmpty) = true → okAs R X.N cm as X.env.scope l = true → IOr X R ce W C pos l as
  | .nil, n, X, ce, W, ok, hcm, l, pos, hne, h => by
    obtain ⟨e, r, rfl⟩ := ne_nil hne
    simp [okAs] at h
  | .cons a r, n, X, ce, W, ok, hcm, l, pos, hne, h => by
    obtain ⟨e, s, rfl⟩ := ne_nil hne
    simp only [okAs, Bool.and_eq_true] at h
    cases s with
    | nil =>
      cases r with
      | nil => exact ior_one (okE_ok a ok hcm _ h.1)
      | cons _ _ => simp [okAs] at h
    | cons e2 s =>
      cases r with
      | nil => simp [okAs] at h
      | cons a2 r => exact ior_cons (okE_ok a ok hcm _ h.1) (okOr_ok (.cons a2 r) ok hcm (e2 :: s) pos rfl h.2)
theorem okTAnd_ok : ∀ (as : As) {n : Nat} {X : Cx} {ce : Option Cur} {W : WX} (ok : Cok n X R ce W C) (hcm : cm = true → C.calm = true) (l : List Expr) (pos : Pos), (!l.isEmpty) = true → okTs R X.N cm as X.env.scope l = true → ITAnd X R ce W C pos l as
  | .nil, n, X, ce, W, ok, hcm, l, pos, hne, h => by
    obtain ⟨e, r, rfl⟩ := ne_nil hne
    simp [okTs] at h
  | .cons a r, n, X, ce, W, ok, hcm, l, pos, hne, h => by
    obtain ⟨e, s, rfl⟩ := ne_nil hne
    simp only [okTs, Bool.and_eq_true] at h
    cases s with
    | nil =>
      cases r with
      | nil => exact itand_one (okT_ok a ok hcm _ h.1)
      | cons _ _ => simp [okTs] at h
    | cons e2 s =>
      cases r with
      | nil => simp [okTs] at h
      | cons a2 r => exact itand_cons (okT_ok a ok hcm _ h.1) (okTAnd_ok (.cons a2 r) ok hcm (e2 :: s) pos rfl h.2)
theorem okTOr_ok : ∀ (as : As) {n : Nat} {X : Cx} {ce : Option Cur} {W : WX} (ok : Cok n X R ce W C) (hcm : cm = true → C.calm = true) (l : List Expr) (pos : Pos), (!l.isEmpty) = true → okTs R X.N cm as X.env.scope l = true → ITOr X R ce W C pos l as
  | .nil, n, X, ce, W, ok, hcm, l, pos, hne, h => by
    obtain ⟨e, r, rfl⟩ := ne_nil hne
    simp [okTs] at h
  | .cons a r, n, X, ce, W, ok, hcm, l, pos, hne, h => by
    obtain ⟨e, s, rfl⟩ := ne_nil hne
    simp only [okTs, Bool.and_eq_true] at h
    cases s with
    | nil =>
      cases r with
      | nil => exact itor_one (okT_ok a ok hcm _ h.1)
      | cons _ _ => simp [okTs] at h
    | cons e2 s =>
      cases r with
      | nil => simp [okTs] at h
      | cons a2 r => exact itor_cons (okT_ok a ok hcm _ h.1) (okTOr_ok (.cons a2 r) ok hcm (e2 :: s) pos rfl h.2)
theorem okIf_ok : ∀ (as : As) {n : Nat} {X : Cx} {ce : Option Cur} {W : WX} (ok : Cok n X R ce W C) (hcm : cm = true → C.calm = true) (l : List Expr), okIf R X.N cm as X.env.scope l = true → PTs X l (LT X.K R ce W fun _ => wTs C as)
  | .nil, n, X, ce, W, ok, hcm, l, h => by
    cases l with
    | nil => exact okIf_nil (n := n)
    | cons _ _ => simp [okIf] at h
  | .cons a .nil, n, X, ce, W, ok, hcm, l, h => by
    match l, h with
    | [e], h => exact okIf_one (n := n) (okT_ok a ok hcm _ (by simpa only [okIf] using h))
    | [], h => simp [okIf] at h
    | _ :: _ :: _, h => simp [okIf] at h
  | .cons a (.cons _ _), n, X, ce, W, ok, hcm, l, h => by simp [okIf] at h
theorem okI_ok : ∀ (it : It) {n : Nat} {X : Cx} {ce : Option Cur} {W : WX} (ok : Cok n X R ce W C) (hcm : cm = true → C.calm = true) (tg e : Expr), okI R X.N cm it X.env.scope e = true → II X R ce W C tg e it
  | .ex a, n, X, ce, W, ok, hcm, tg, e, h => ii_ex (okE_ok a ok hcm e (by simpa only [okI] using h))
  | .rng1 a, n, X, ce, W, ok, hcm, tg, e, h => by
    simp only [okI] at h
    split at h
    · simp only [beq_iff_eq, Bool.and_eq_true] at h
      obtain ⟨⟨⟨rfl, h2⟩, h3⟩, h4⟩ := h
      exact ii_rng1 ok h2 (okE_ok a ok hcm _ h3) h4
    · cases h
  | .rng2 a b, n, X, ce, W, ok, hcm, tg, e, h => by
    simp only [okI] at h
    split at h
    · simp only [beq_iff_eq, Bool.and_eq_true] at h
      obtain ⟨⟨⟨⟨⟨rfl, h2⟩, h3⟩, h4⟩, h5⟩, h6⟩ := h
      exact ii_rng2 ok h2 (okE_ok a ok hcm _ h3) (okE_ok b ok hcm _ h4) h5 h6
    · cases h
end
end
end Ab
/-! The check of statements, and that it is enough. -/
namespace Ab
open PySem PyProof.Rows L2 PySem.Spec
def noSlice : Expr → Bool
  | .Slice _ _ _ _ => false
  | _ => true
def nmOkB (N : List Str) (sc : Scope) : Option Str → Option Nat → Bool
  | none, none => true
  | some y, some i => N[i]? == some y && sc.names.lookup y == some .local
  | _, _ => false
def oneB (fc : Bool) (N : List Str) (sc : Scope) : Expr → Tg → Bool
  | e, .one i => nmB fc N sc e i
  | _, _ => false
mutual
def okS (R : Rw) (N : List Str) (fc cm : Bool) : S → Scope → Stmt → Bool
  | .ex a, sc, st => (match st with | .Expr e _ => okE R N cm a sc e && noComp e | _ => false)
  | .asg t a, sc, st => (match st with | .Assign [tg] e _ => okE R N cm a sc e && noComp e && (oneB fc N sc tg t || (cm && tgB fc N sc tg t && !(isTup tg && isTup e))) | _ => false)
  | .asgC i a, sc, st => (match st with
      | .Assign [.Name y py] (.ListComp x [⟨tg, iter, cs, k⟩] scope pos) _ => (match a with
        | .lc false own t it ifs elt => cm && k == 0 && okI R N cm it sc iter && blkC N sc scope (ownN N own) && tgB false N (relS scope sc) tg t && t.slots.all (fun i => own.contains i) && okIf R N cm ifs (relS scope sc) cs && okE R N cm elt (relS scope sc) x && fsB iter
            && N[i]? == some y && sc.names.lookup y == some .local && py.line == pos.line && !(scope.names.any fun (n, k) => n == y && (k == .local || k == .cell))
        | _ => false)
      | _ => false)
  | .asgI o i a, sc, st => (match st with | .Assign [.Subscript p q _] e _ => okE R N cm o sc p && okE R N cm i sc q && okE R N cm a sc e && noComp e && noSlice q | _ => false)
  | .asgF _ _ _, _, _ => false
  | .aug _ _ _, _, _ => false
  | .augF _ _ _ _, _, _ => false
  | .ite t a b, sc, st => (match st with | .If c x y _ => okT R N cm t sc c && okSs R N fc cm a sc x && okSs R N fc cm b sc y | _ => false)
  | .forS t it b, sc, st => (match st with | .For tg iter body [] _ => cm && okI R N cm it sc iter && tgB fc N sc tg t && okSs R N fc cm b sc body && fsB iter | _ => false)
  | .whileS t b, sc, st => (match st with | .While c body [] _ => cm && okT R N cm t sc c && okSs R N fc cm b sc body | _ => false)
  | .ret a, sc, st => (match st with | .Return (some e) _ => okE R N cm a sc e | _ => false)
  | .retN, _, st => (match st with | .Return none _ => true | _ => false)
  | .raise c a, sc, st => (match st with | .Raise (some (.Call (.Name g _) [r] [] _)) none _ => cm && c == g && glB sc g && g != "__debug__" && (R.T.att c).isSome && okE R N cm a sc r && noStar r | _ => false)
  | .tryS b cl, sc, st => (match st with | .Try body hds [] [] _ => cm && !hds.isEmpty && okSs R N fc cm b sc body && okCl R N fc cl sc hds | _ => false)
  | .brk, _, st => (match st with | .Break _ => true | _ => false)
  | .cont, _, st => (match st with | .Continue _ => true | _ => false)
  | .pass, _, st => (match st with | .Pass _ => true | _ => false)
  | .frz _, _, _ => false
def okSs (R : Rw) (N : List Str) (fc cm : Bool) : Ss → Scope → List Stmt → Bool
  | .nil, _, l => l.isEmpty
  | .cons s r, sc, l => (match s with
      | .frz _ => okSs R N fc cm r sc l
      | s => (match l with | st :: t => okS R N fc cm s sc st && okSs R N fc cm r sc t | [] => false))
def okCl (R : Rw) (N : List Str) (fc : Bool) : Cl → Scope → List ExceptHandler → Bool
  | .nil, _, l => l.isEmpty
  | .cons c nm b r, sc, l => (match l with
      | .ExceptHandler (some (.Name g _)) y suite _ :: t => c == g && glB sc g && g != "__debug__" && (R.clA c).isSome && nmOkB N sc y nm && !suite.isEmpty && okSs R N fc false b sc suite && okCl R N fc r sc t
      | _ => false)
end
section
variable {R : Rw} {C : Ct}
/-- what a def's body has that a comprehension's block has not -/
structure Sok (X : Cx) (fc cm : Bool) : Prop where
  fn : fc = true → ∀ x, X.fn x = true
  stk : X.stack = X.env :: X.outer
  fr : X.env.frame = some X.env.locals
  kind : (X.env.scope.kind) = .function
  own : cm = true → PassesOwn (model X.prog X.w) X.A X.env X.xe
theorem asgI_eq {o ix : Expr} {pt : Pos} {env : Env} (h : noSlice ix = true) : ∀ u, assign (.Subscript o ix pt) env u = (do
      let ov ← holding [u] (eval o env)
      let iv ← holding [u, ov] (eval ix env)
      standAt pt
      holding [u, ov, iv] (setItem ov iv u)
      release [u, ov, iv] []) := fun u => by
  cases ix <;> first | rfl | simp [noSlice] at h
theorem nmOk_of {X : Cx} {y : Option Str} {nm : Option Nat} (h : nmOkB X.N X.env.scope y nm = true) : NmOk X y nm := by
  cases y <;> cases nm <;> first
    | trivial
    | (simp [nmOkB] at h; done)
    | (simp only [nmOkB, Bool.and_eq_true, beq_iff_eq] at h; exact h)
mutual
theorem okS_ok : ∀ (s : S) {C : Ct} {fc cm : Bool} {n : Nat} {X : Cx} {ce : Option Cur} {W : WX} (ok : Cok n X R ce W C) (sk : Sok X fc cm) (hcm : cm = true → C.calm = true) (st : Stmt), okS R X.N fc cm s X.env.scope st = true → IS X R ce W C st s
  | .ex a, C, fc, cm, n, X, ce, W, ok, sk, hcm, st, h => by
    simp only [okS] at h
    split at h
    · simp only [Bool.and_eq_true_iff] at h
      exact is_ex (okE_ok a ok hcm _ h.1) h.2
    · cases h
  | .asg t a, C, fc, cm, n, X, ce, W, ok, sk, hcm, st, h => by
    simp only [okS] at h
    split at h
    · simp only [Bool.and_eq_true, Bool.or_eq_true] at h
      obtain ⟨⟨h1, h2⟩, h3⟩ := h
      rcases h3 with h3 | ⟨⟨h3, h4⟩, h5⟩
      · cases t with
        | one i => exact is_asgN ok sk.fn h3 (okE_ok a ok hcm _ h1) h2
        | many _ => simp [oneB] at h3
      · exact is_asg ok (cm_calm ok (hcm h3)) sk.fn h4 (okE_ok a ok hcm _ h1) h2 (mark_no h5)
    · cases h
  | .asgC i a, C, fc, cm, n, X, ce, W, ok, sk, hcm, st, h => by
    simp only [okS] at h
    split at h
    · split at h
      · rename_i y py x tg iter cs k scope pos spos _ own t it ifs elt
        simp only [beq_iff_eq, Bool.and_eq_true] at h
        obtain ⟨⟨⟨⟨⟨⟨⟨⟨⟨⟨⟨⟨h0, rfl⟩, h2⟩, h3⟩, h4⟩, h5⟩, h6⟩, h7⟩, h8⟩, h9⟩, h10⟩, h11⟩, h12⟩ := h
        have e1 : own = (ownN X.N own).map (·.2) := (ownN_snd _ _).symm
        have hc := hcm h0
        rw [e1]
        refine is_asgC ok hc (okI_ok it ok hcm tg iter h2) h3 (fun s H Ca cl fp => ?_) (fun i hi => ?_) (fun s H Ca cl fp => ?_) (fun s H Ca cl fp => ?_) (fs_eq h8) h9 h10 sk.kind (by rw [h11]; exact beq_self_eq_true _) (by simpa using h12)
        · exact pg_tg (X := X.blk s H scope (compEnvC scope cl Ca X.env) fp) (fc := false) ok.nd (fun z => by cases z) (cm_calm (ok.blk hc s H scope (compEnvC scope cl Ca X.env) fp) hc) h4
        · rw [← e1]
          exact List.contains_iff_mem.mp (List.all_eq_true.mp h5 i hi)
        · exact okIf_ok ifs (ok.blk hc s H scope (compEnvC scope cl Ca X.env) fp) hcm cs h6
        · exact okE_ok elt (ok.blk hc s H scope (compEnvC scope cl Ca X.env) fp) hcm _ h7
      · cases h
    · cases h
  | .asgI o i a, C, fc, cm, n, X, ce, W, ok, sk, hcm, st, h => by
    simp only [okS] at h
    split at h
    · simp only [Bool.and_eq_true_iff] at h
      obtain ⟨⟨⟨⟨h1, h2⟩, h3⟩, h4⟩, h5⟩ := h
      exact is_asgI (okE_ok o ok hcm _ h1) (okE_ok i ok hcm _ h2) (okE_ok a ok hcm _ h3) h4 (asgI_eq h5)
    · cases h
  | .asgF _ _ _, C, fc, cm, n, X, ce, W, ok, sk, hcm, st, h => by simp only [okS] at h; cases h
  | .aug _ _ _, C, fc, cm, n, X, ce, W, ok, sk, hcm, st, h => by simp only [okS] at h; cases h
  | .augF _ _ _ _, C, fc, cm, n, X, ce, W, ok, sk, hcm, st, h => by simp only [okS] at h; cases h
  | .frz _, C, fc, cm, n, X, ce, W, ok, sk, hcm, st, h => by simp only [okS] at h; cases h
  | .ite t a b, C, fc, cm, n, X, ce, W, ok, sk, hcm, st, h => by
    simp only [okS] at h
    split at h
    · simp only [Bool.and_eq_true_iff] at h
      exact is_if (okT_ok t ok hcm _ h.1.1) (okSs_ok a ok sk hcm _ h.1.2) (okSs_ok b ok sk hcm _ h.2)
    · cases h
  | .forS t it b, C, fc, cm, n, X, ce, W, ok, sk, hcm, st, h => by
    simp only [okS] at h
    split at h
    · simp only [Bool.and_eq_true_iff] at h
      obtain ⟨⟨⟨⟨h1, h2⟩, h3⟩, h4⟩, h5⟩ := h
      exact is_for ok (sk.own h1) sk.fn (cm_calm ok (hcm h1)) (okI_ok it ok hcm _ _ h2) h3 (okSs_ok b ok sk hcm _ h4) (fs_eq h5)
    · cases h
  | .whileS t b, C, fc, cm, n, X, ce, W, ok, sk, hcm, st, h => by
    simp only [okS] at h
    split at h
    · simp only [Bool.and_eq_true_iff] at h
      exact is_while (sk.own h.1.1) (okT_ok t ok hcm _ h.1.2) (okSs_ok b ok sk hcm _ h.2)
    · cases h
  | .ret a, C, fc, cm, n, X, ce, W, ok, sk, hcm, st, h => by
    simp only [okS] at h
    split at h
    · exact is_ret (okE_ok a ok hcm _ h)
    · cases h
  | .retN, C, fc, cm, n, X, ce, W, ok, sk, hcm, st, h => by
    simp only [okS] at h
    split at h
    · exact is_retN
    · cases h
  | .raise c a, C, fc, cm, n, X, ce, W, ok, sk, hcm, st, h => by
    simp only [okS] at h
    split at h
    · simp only [beq_iff_eq, Bool.and_eq_true] at h
      obtain ⟨⟨⟨⟨⟨⟨h0, rfl⟩, h2⟩, h3⟩, h4⟩, h5⟩, h6⟩ := h
      obtain ⟨f, hf⟩ := Option.isSome_iff_exists.mp h4
      exact is_raise ok (hcm h0) h2 hf (okE_ok a ok hcm _ h5) h6 (dbg_no h3)
    · cases h
  | .tryS b cl, C, fc, cm, n, X, ce, W, ok, sk, hcm, st, h => by
    simp only [okS] at h
    split at h
    · rename_i body hds pos
      simp only [Bool.and_eq_true_iff] at h
      obtain ⟨⟨⟨h0, h1⟩, h2⟩, h3⟩ := h
      cases hds with
      | nil => simp at h1
      | cons hd hds =>
        obtain ⟨l, hl⟩ := okCl_ok cl ok sk.fn sk.stk sk.fr sk.kind (hd :: hds) h3
        exact is_try ok (hcm h0) sk.stk sk.fr (fun W' pn xe ok' hp => okSs_ok b ok' ⟨sk.fn, sk.stk, sk.fr, sk.kind, fun _ => hp⟩ hcm _ h2) hl
    · cases h
  | .brk, C, fc, cm, n, X, ce, W, ok, sk, hcm, st, h => by
    simp only [okS] at h
    split at h
    · exact is_brk
    · cases h
  | .cont, C, fc, cm, n, X, ce, W, ok, sk, hcm, st, h => by
    simp only [okS] at h
    split at h
    · exact is_cont
    · cases h
  | .pass, C, fc, cm, n, X, ce, W, ok, sk, hcm, st, h => by
    simp only [okS] at h
    split at h
    · exact is_pass
    · cases h
theorem okSs_ok : ∀ (ss : Ss) {C : Ct} {fc cm : Bool} {n : Nat} {X : Cx} {ce : Option Cur} {W : WX} (ok : Cok n X R ce W C) (sk : Sok X fc cm) (hcm : cm = true → C.calm = true) (l : List Stmt), okSs R X.N fc cm ss X.env.scope l = true → ISs X R ce W C l ss
  | .nil, C, fc, cm, n, X, ce, W, ok, sk, hcm, l, h => by
    cases l with
    | nil => exact iss_nil
    | cons _ _ => simp [okSs] at h
  | .cons s r, C, fc, cm, n, X, ce, W, ok, sk, hcm, l, h => by
    by_cases hf : ∃ i, s = .frz i
    · obtain ⟨i, rfl⟩ := hf
      simp only [okSs] at h
      exact iss_frz (okSs_ok r ok sk hcm l h)
    · have h' : ∃ st t, l = st :: t ∧ okS R X.N fc cm s X.env.scope st = true ∧ okSs R X.N fc cm r X.env.scope t = true := by
        unfold okSs at h
        split at h
        · exact absurd ⟨_, rfl⟩ hf
        · split at h
          · simp only [Bool.and_eq_true_iff] at h
            exact ⟨_, _, rfl, h⟩
          · cases h
      obtain ⟨st, t, rfl, h1, h2⟩ := h'
      exact iss_cons (okS_ok s ok sk hcm st h1) (okSs_ok r ok sk hcm t h2)
theorem okCl_ok : ∀ (cl : Cl) {C : Ct} {fc : Bool} {n : Nat} {X : Cx} {ce : Option Cur} {W : WX} (ok : Cok n X R ce W C) (fn : fc = true → ∀ x, X.fn x = true) (stk : X.stack = X.env :: X.outer) (fr : X.env.frame = some X.env.locals) (kind : X.env.scope.kind = .function) (l : List ExceptHandler), okCl R X.N fc cl X.env.scope l = true → ∃ q, ClOk X R C l cl q
  | .nil, C, fc, n, X, ce, W, ok, fn, stk, fr, kind, l, h => by
    cases l with
    | nil => exact ⟨[], .nil⟩
    | cons _ _ => simp [okCl] at h
  | .cons c nm b r, C, fc, n, X, ce, W, ok, fn, stk, fr, kind, l, h => by
    simp only [okCl] at h
    split at h
    · rename_i g np y suite p t
      simp only [beq_iff_eq, Bool.and_eq_true] at h
      obtain ⟨⟨⟨⟨⟨⟨⟨rfl, h2⟩, h3⟩, h4⟩, h5⟩, h6⟩, h7⟩, h8⟩ := h
      obtain ⟨Cc, hc⟩ := Option.isSome_iff_exists.mp h4
      obtain ⟨q, hq⟩ := okCl_ok r ok fn stk fr kind t h8
      cases suite with
      | nil => simp at h6
      | cons b0 suite => exact ⟨_, .cons h2 (dbg_no h3) hc (ok.row.cls _ _ hc) (nmOk_of h5) (suite_ok ok fun a x cu pn ok' => okSs_ok b ok' ⟨fn, stk, fr, kind, fun z => by cases z⟩ (fun z => by cases z) _ h7) hq⟩
    · cases h
end
end
end Ab
/-! The table of defs: each keeps the machine's word, at every level. -/
namespace Ab
open PySem PyProof.Rows L2 PySem.Spec
/-- one def lies as the table says -/
structure FdOk (P : Program) (K : PySem.W.Frag) (R : Rw) (f : Str) (fd : Fd) : Prop where
  at_ : ∃ (a : Addr) (oc : Value) (od : Option Addr) (osl : Array (Option Value)) (name qual : Str) (params : Arguments) (body : List Stmt) (scope : Scope) (kV doc pm cdv ct : Value) (an : Option Addr),
    R.fnA f = some a ∧ K.lookup a = some ⟨oc, od, .func (PySem.W.fnOf name qual params body scope .none kV doc pm an cdv ct), osl⟩ ∧ R.fnD f = PySem.W.fnOf name qual params body scope .none kV doc pm an cdv ct ∧ PySem.W.codeIn K cdv qual = true ∧
    FnScope fd.N (R.fnP f) scope ∧ okSs R fd.N true true fd.body scope body = true
  np : (R.fnP f).length = fd.np
structure TbOk (P : Program) (K : PySem.W.Frag) (mg : Str → Option Value) (R : Rw) : Prop where
  row : Rok P K mg R
  fns : ∀ f fd, R.T.fns f = some fd → FdOk P K R f fd
  no : ∀ f, R.fnA f = Option.none → R.T.fns f = Option.none
  yes : ∀ f, R.T.fns f = Option.none → R.fnA f = Option.none
theorem start_rel {K : PySem.W.Frag} {R : Rw} {H : Hp} {N : List Str} {l : List D} {vs : List V} (r : RelL K R H l vs) (hl : l.length ≤ N.length) : RelS K R H (startD N.length l) (L2.start N vs) := by
  have e := r.len
  refine ⟨by unfold startD L2.start; simp [e], fun i d h => ?_⟩
  unfold startD at h
  by_cases hi : i < l.length
  · rw [List.getElem?_append_left (by simpa using hi), List.getElem?_map] at h
    cases q : l[i]? with
    | none => rw [q] at h; cases h
    | some d' =>
      rw [q] at h
      cases h
      obtain ⟨v, h1, h2⟩ := r.get q
      refine ⟨v, ?_, h2⟩
      unfold L2.start
      rw [List.getElem?_append_left (by simp [e, hi]), List.getElem?_map, h1]
      rfl
  · rw [List.getElem?_append_right (by simpa using hi), List.getElem?_replicate] at h
    split at h <;> cases h
section
variable {P : Program} {w : World} {K : PySem.W.Frag} {mg : Str → Option Value} {base : Heap} {R : Rw}
theorem wC_some {n : Nat} {f : Str} {l : List D} {m : Mm} {Q : Kd} {X : Kx} (h : R.T.wC n f l m Q X) : ∃ fd, R.T.fns f = some fd ∧ l.length = fd.np := by
  match n, h with
  | 0, h => exact h.elim
  | 1, ⟨fd, h1, h2, _⟩ => exact ⟨fd, h1, h2⟩
  | n + 2, ⟨fd, h1, h2, _⟩ => exact ⟨fd, h1, h2⟩
/-- what a body's context is -/
theorem cok_of (tb : TbOk P K mg R) {lv : Nat} {A : Around} {outer : List Env} {s : Shared} {H : Hp} {E : XK} {N ps : List Str} {qual : Str} {scope : Scope} {f : Addr} {cdv : Value} {C : Ct} (S : FnScope N ps scope) (hr : Room (lv + 1) (A.deeper (envOfC qual scope s.heap.objs.size f cdv)))
    (hC : ∃ call init, C = R.T.ct call init ∧ (∀ f l m Q X, call f l m Q X → ∃ k, R.T.wC k f l m Q X) ∧ ∀ f a, R.fnA f = some a → FnOk P w K mg base (L2.CX P w) lv a (R.fnD f) (R.fnP f) (spOf K R (call f) (R.fnP f).length)) :
    Cok lv (cxOf (L2.CX P w) P w K mg base N qual scope f cdv A outer s H E) R none (fun cls d _ H => E cls d H) C := by
  obtain ⟨call, init, rfl, hw, hF⟩ := hC
  refine { row := tb.row, nd := S.nd, un := ?_, cst := rfl, att := rfl, sub := rfl, bsub := rfl, fld := rfl, tk := ?_, cur := fun a e h => (by cases h), hot := fun h => (by cases h), calm := fun _ => ⟨rfl, rfl, hr⟩, call := fun _ => hF, none := fun g hg l m Q E' h => ?_, ar := fun g l m Q E' h => ?_ }
  · have z := hr.un
    show (A.deeper _).units + 200 < cLine
    omega
  · exact takes_of rfl rfl rfl rfl
  · obtain ⟨k, hk⟩ := hw g l m Q E' h
    obtain ⟨fd, h1, _⟩ := wC_some hk
    rw [tb.no g hg] at h1
    cases h1
  · obtain ⟨k, hk⟩ := hw g l m Q E' h
    obtain ⟨fd, h1, h2⟩ := wC_some hk
    rw [h2, (tb.fns g fd h1).np]
theorem fn_lvl (tb : TbOk P K mg R) {lv : Nat} {f : Str} {fd : Fd} {a : Addr} (hf : R.T.fns f = some fd) (hA : R.fnA f = some a) {C : Ct} {wc : Fc} (hwc : ∀ l m Q X, wc f l m Q X → fdW C fd l m Q X)
    (hC : ∃ call init, C = R.T.ct call init ∧ (∀ f l m Q X, call f l m Q X → ∃ k, R.T.wC k f l m Q X) ∧ ∀ f a, R.fnA f = some a → FnOk P w K mg base (L2.CX P w) lv a (R.fnD f) (R.fnP f) (spOf K R (call f) (R.fnP f).length)) :
    FnOk P w K mg base (L2.CX P w) (lv + 2) a (R.fnD f) (R.fnP f) (spOf K R (wc f) (R.fnP f).length) := by
  obtain ⟨⟨a', oc, od, osl, name, qual, params, body, scope, kV, doc, pm, cdv, ct, an, h1, h2, h3, h4, S, h5⟩, hnp⟩ := tb.fns f fd hf
  rw [hA] at h1
  cases h1
  rw [h3]
  refine fn_of (N := fd.N) h2 h4 S (fun vs H Q E ⟨l, m, QD, X, rl, _, _, hl, _⟩ => by rw [rl.len, hl]) fun A outer s H vs Q E hr hsp => ?_
  obtain ⟨l, m, QD, Xd, rl, rm, hw, hl, hQ, hE⟩ := hsp
  obtain ⟨hlen, hb⟩ := hwc _ _ _ _ hw
  have hC' := hC
  obtain ⟨call, init, rfl, _, _⟩ := hC'
  have ok := cok_of (outer := outer) (E := E) (H := H) (s := s) tb S hr hC
  refine ⟨_, okSs_ok fd.body ok ⟨fun _ _ => rfl, rfl, rfl, S.kind, fun _ => passes_of rfl⟩ (fun _ => rfl) body h5, startD fd.N.length l, m, _, start_rel rl ?_, rm, hb, ?_⟩
  · have z := congrArg List.length S.pre
    rw [List.length_take] at z
    rw [hl]
    omega
  · refine ⟨?_, ?_, fun _ _ _ _ _ _ _ z => z.elim, fun _ _ _ _ _ _ _ z => z.elim, ?_⟩
    · rintro δ1 m1 σ1 H1 k1 rs1 rm1 ⟨m2, hs, hq⟩
      exact hQ .non m2 .non H1 (k1.sub hs) Rel.non (rm1.sub hs) hq
    · rintro d m1 v H1 k1 r1 rm1 ⟨m2, hs, hq⟩
      exact hQ d m2 v H1 (k1.sub hs) r1 (rm1.sub hs) hq
    · rintro x δ1 m1 σ1 H1 cls dx k1 rs1 rm1 rx ⟨m2, hs, hq⟩
      exact hE x m2 H1 cls dx (k1.sub hs) (rm1.sub hs) rx hq
theorem fn_zero {a : Addr} {fd : FuncData} {ps : List Str} {lv : Nat} : FnOk P w K mg base (L2.CX P w) lv a fd ps (spOf K R (fun _ _ _ _ => False) ps.length) :=
  ⟨fun _ _ _ _ ⟨_, _, _, _, _, _, h, _⟩ => h.elim, fun _ _ _ _ _ _ _ _ _ _ _ _ _ ⟨_, _, _, _, _, _, h, _⟩ => h.elim⟩
/-- every def at every level -/
theorem fn_all (tb : TbOk P K mg R) : ∀ (n : Nat) (f : Str) (a : Addr), R.fnA f = some a → FnOk P w K mg base (L2.CX P w) (2 * n) a (R.fnD f) (R.fnP f) (spOf K R (R.T.wC n f) (R.fnP f).length)
  | 0, f, a, _ => fn_zero
  | 1, f, a, hA => by
    cases hf : R.T.fns f with
    | none => exact absurd (tb.yes f hf) (by rw [hA]; simp)
    | some fd =>
      refine fn_lvl (lv := 0) tb hf hA (C := R.T.ct noFc noFc) (fun l m Q X ⟨fd', h1, h2⟩ => by rw [hf] at h1; cases h1; exact h2) ⟨noFc, noFc, rfl, fun _ _ _ _ _ h => h.elim, fun _ _ _ => fn_zero⟩
  | n + 2, f, a, hA => by
    cases hf : R.T.fns f with
    | none => exact absurd (tb.yes f hf) (by rw [hA]; simp)
    | some fd =>
      refine fn_lvl (lv := 2 * (n + 1)) tb hf hA (C := R.T.ct (R.T.wC (n + 1)) (R.T.wC n)) (fun l m Q X ⟨fd', h1, h2⟩ => by rw [hf] at h1; cases h1; exact h2) ⟨R.T.wC (n + 1), R.T.wC n, rfl, fun _ _ _ _ _ h => ⟨n + 1, h⟩, fun g b hb => fn_all tb (n + 1) g b hb⟩
end
end Ab
/-! The check of the whole row, and the law's end. -/
namespace Ab
open PySem PyProof.Rows L2 PySem.Spec
open PySem.W (Frag findIn nsIn clsIn mroIn subIn)
open He (ga ma)
def fdAt (K : Frag) (a : Addr) : FuncData := match K.lookup a with
  | some ⟨_, _, .func fd, _⟩ => fd
  | _ => default
def rwOf (T : Tab) (K : Frag) : Rw where
  T := T
  clA := fun c => if T.clsL.contains c = true then some (ga K c) else none
  fnA := fun f => if (T.fns f).isSome = true then some (ga K f) else none
  fnD := fun f => fdAt K (ga K f)
  fnP := fun f => (plainArgs (fdAt K (ga K f)).params).getD []
  gfn := fun f => (T.fns f).isSome
def scopeB (N ps : List Str) (sc : Scope) : Bool := sc.kind == .function && !sc.isCoroutine && !sc.isGenerator && decide N.Nodup && N.take ps.length == ps && ps.all (fun x => sc.names.lookup x == some .local || sc.names.lookup x == some .cell) && sc.names.all (fun y => y.2 != .free)
theorem scopeB_ok {N ps : List Str} {sc : Scope} (h : scopeB N ps sc = true) : FnScope N ps sc := by
  simp only [scopeB, Bool.and_eq_true, beq_iff_eq, Bool.not_eq_true', decide_eq_true_eq, List.all_eq_true, Bool.or_eq_true, bne_iff_ne] at h
  rcases h with ⟨⟨⟨⟨⟨⟨h1, h2⟩, h3⟩, h4⟩, h5⟩, h6⟩, h7⟩
  refine ⟨h1, h2, h3, h4, h5, h6, ?_⟩; exact h7
def fdB (K : Frag) (R : Rw) (f : Str) (fd : Fd) : Bool := nsIn K mainGlobals f == some (some (.ref (ga K f))) && PySem.W.keepIn K (.ref (ga K f)) && (match K.lookup (ga K f) with
  | some ⟨_, _, .func d, _⟩ => (match d.body, plainArgs d.params with
    | .stmts body, some ps => ps.length == fd.np && PySem.W.codeIn K d.code d.qualname && d.globals == mainGlobals && d.builtins == builtinsNs && d.closure.isEmpty && d.defaults == .none && scopeB fd.N ps d.scope && decide ps.Nodup && okSs R fd.N true true fd.body d.scope body
    | _, _ => false)
  | _ => false)
theorem fdB_ok {P : Program} {T : Tab} {K : Frag} {f : Str} {fd : Fd} (hf : T.fns f = some fd) (h : fdB K (rwOf T K) f fd = true) : FdOk P K (rwOf T K) f fd ∧ (∀ us : List Value, us.length = ((rwOf T K).fnP f).length → bindArgs ((rwOf T K).fnD f) ⟨us, []⟩ = pure (((rwOf T K).fnP f).zip us)) ∧ nsIn K mainGlobals f = some (some (.ref (ga K f))) ∧ PySem.W.keepIn K (.ref (ga K f)) = true := by
  simp only [fdB, Bool.and_eq_true, beq_iff_eq] at h
  obtain ⟨⟨h1, h2⟩, h⟩ := h
  split at h
  · rename_i oc od d osl lk
    split at h
    · rename_i body ps eb ep
      simp only [Bool.and_eq_true, beq_iff_eq, List.isEmpty_iff, decide_eq_true_eq] at h
      obtain ⟨⟨⟨⟨⟨⟨⟨⟨g1, g2⟩, g3⟩, g4⟩, g5⟩, g6⟩, g7⟩, g8⟩, g9⟩ := h
      obtain ⟨as, ea, el⟩ := plainArgs_of ep
      obtain ⟨name, qual, params, fbody, scope, globals, closure, dV, kV, doc, pm, an, code, ct, blt⟩ := d
      dsimp only at eb ea g2 g3 g4 g5 g6 g7 g9 ep
      subst eb ea g3 g4 g5 g6 el
      have eD : (rwOf T K).fnD f = PySem.W.fnOf name qual { posonlyargs := [], args := as, vararg := none, kwonlyargs := [], kw_defaults := [], kwarg := none, defaults := [] } body scope .none kV doc pm an code ct := by
        show fdAt K (ga K f) = _
        unfold fdAt
        rw [lk] <;> rfl
      have eP : (rwOf T K).fnP f = as.map (·.arg) := by
        show (plainArgs (fdAt K (ga K f)).params).getD [] = _
        have z : fdAt K (ga K f) = _ := eD
        rw [z]
        rfl
      have eA : (rwOf T K).fnA f = some (ga K f) := by
        show (if (T.fns f).isSome = true then some (ga K f) else none) = _
        rw [hf]
        rfl
      refine ⟨⟨⟨ga K f, oc, od, osl, name, qual, _, body, scope, kV, doc, pm, code, ct, an, eA, lk, eD, g2, by rw [eP]; exact scopeB_ok g7, g9⟩, by rw [eP]; exact g1⟩, ?_, h1, h2⟩
      rw [eD, eP]
      exact fun us hus => bind_all rfl rfl g8 hus
    · cases h
  · cases h
/-! ### constants -/
mutual
def relB (K : Frag) : D → Value → Bool
  | .non, v => (match v with | .none => true | _ => false)
  | .bl b, v => (match v with | .bool c => b == c | _ => false)
  | .int i, v => (match v with | .int j _ => i == j | _ => false)
  | .str x, v => (match v with | .str y _ => x == y | _ => false)
  | .tup l, v => (match v with | .ref a => (match K.lookup a with | some ⟨.type "tuple", _, .seq its _, _⟩ => decide (its.size ≤ sizeLine) && relBs K l its.toList | _ => false) | _ => false)
  | .lst l, v => (match v with | .ref a => (match K.lookup a with | some ⟨.type "list", none, .seq its _, _⟩ => decide (its.size ≤ sizeLine) && relBs K l its.toList | _ => false) | _ => false)
  | _, _ => false
def relBs (K : Frag) : List D → List Value → Bool
  | [], l => l.isEmpty
  | d :: r, l => (match l with | v :: s => relB K d v && relBs K r s | [] => false)
end
mutual
theorem relB_ok {K : Frag} {R : Rw} : ∀ (d : D) (u : Value), relB K d u = true → ∃ v, RelV v u ∧ ∀ H, Rel K R H d v
  | .non, u, h => by
    simp only [relB] at h
    split at h
    · exact ⟨.non, rfl, fun H => Rel.non⟩
    · cases h
  | .bl b, u, h => by
    simp only [relB] at h
    split at h
    · cases beq_iff_eq.mp h; exact ⟨.bl b, rfl, fun H => Rel.bl b⟩
    · cases h
  | .int i, u, h => by
    simp only [relB] at h
    split at h
    · cases beq_iff_eq.mp h; exact ⟨.int i, ⟨_, rfl⟩, fun H => Rel.int i⟩
    · cases h
  | .str i, u, h => by
    simp only [relB] at h
    split at h
    · cases beq_iff_eq.mp h; exact ⟨.str i, ⟨_, rfl⟩, fun H => Rel.str i⟩
    · cases h
  | .tup l, u, h => by
    simp only [relB] at h
    split at h
    · split at h
      · rename_i a xo dd its n sl lk
        simp only [decide_eq_true_eq, Bool.and_eq_true] at h
        obtain ⟨vs, h1, h2⟩ := relBs_ok l _ h.2
        exact ⟨.ref a, rfl, fun H => Rel.tup (.inr ⟨_, its, n, lk, rfl, rfl, h.1, h1⟩) (h2 H)⟩
      · cases h
    · cases h
  | .lst l, u, h => by
    simp only [relB] at h
    split at h
    · split at h
      · rename_i a xo its n sl lk
        simp only [decide_eq_true_eq, Bool.and_eq_true] at h
        obtain ⟨vs, h1, h2⟩ := relBs_ok l _ h.2
        exact ⟨.ref a, rfl, fun H => Rel.lst (.inr ⟨_, its, n, lk, rfl, rfl, rfl, h.1, h1⟩) (h2 H)⟩
      · cases h
    · cases h
  | .dic _, u, h => by simp only [relB] at h; cases h
  | .ref _, u, h => by simp only [relB] at h; cases h
  | .exc _ _, u, h => by simp only [relB] at h; cases h
  | .cur _, u, h => by simp only [relB] at h; cases h
theorem relBs_ok {K : Frag} {R : Rw} : ∀ (l : List D) (us : List Value), relBs K l us = true → ∃ vs, Vals vs us ∧ ∀ H, RelL K R H l vs
  | [], us, h => by
    cases us with
    | nil => exact ⟨[], .nil, fun H => .nil⟩
    | cons _ _ => simp [relBs] at h
  | d :: r, us, h => by
    cases us with
    | nil => simp [relBs] at h
    | cons u s =>
      simp only [relBs, Bool.and_eq_true] at h
      obtain ⟨v, h1, h2⟩ := relB_ok (R := R) d u h.1
      obtain ⟨vs, h3, h4⟩ := relBs_ok (R := R) r s h.2
      exact ⟨v :: vs, .cons h1 h3, fun H => .cons (h2 H) (h4 H)⟩
end
/-! ### exception classes -/
def xcB (P : Program) (K : Frag) (C : Addr) (f : Str) : Bool := PySem.W.excInitIn K C ESX.exTail "Exception.__new__" && PySem.W.excOver K C ESX.exTail && decide (findIn K (.ref C) "__setattr__" = some (some (.builtin "object.__setattr__"))) && decide (PySem.W.takerIn K C f = some none) &&
  PySem.W.hasDictIn K C && decide (findIn K (.ref C) "__init__" = some (some (.ref (ma K C "__init__")))) && PySem.W.isFn K (.ref (ma K C "__init__")) && decide (PySem.W.ks_superIn K C C "__init__" = some (some (.builtin "Exception.__init__"))) && decide (mroIn K C (.type "Exception") = some true) &&
  decide (mroIn K C (.ref C) = some true) && decide (subIn K (.ref C) (.type "BaseException") = some true) && decide (PySem.W.typeIn K (.ref C) = some (.type "type")) && PySem.W.keepIn K (.ref C) && decide (nsIn K mainGlobals "super" = some none) && decide (nsIn K cStatics "thirdparty.any" = some none) &&
  !(P.main.scope.names.lookup ("super" : Str)).isSome && initB P K C (ma K C "__init__") f && decide (findIn K (.ref C) "__getattribute__" = some (some (.builtin "BaseException.__getattribute__"))) && decide (findIn K (.ref C) "__getattr__" = some none) &&
  decide (findIn K (.ref C) "__class__" = some (some (.builtin "object.__class__"))) && decide (PySem.W.specialIn K (.builtin "object.__class__") "__get__" = some (some (.builtin "getset_descriptor.__get__"))) && decide (PySem.W.takesIn K (.builtin "object.__class__") = some true) && decide (mroIn K C (.type "object") = some true) && decide (findIn K (.ref C) f = some none)
theorem xcB_ok {P : Program} {K : Frag} {C : Addr} {f : Str} (h : xcB P K C f = true) : XcF P K C (ma K C "__init__") f ∧ ExcC K C ∧ findIn K (.ref C) f = some none := by
  simp only [xcB, Bool.and_eq_true, decide_eq_true_eq, Bool.not_eq_true'] at h
  obtain ⟨⟨⟨⟨⟨⟨⟨⟨⟨⟨⟨⟨⟨⟨⟨⟨⟨⟨⟨⟨⟨⟨⟨h1, h2⟩, h3⟩, h4⟩, h5⟩, h6⟩, h7⟩, h8⟩, h9⟩, h10⟩, h11⟩, h12⟩, h13⟩, h14⟩, h15⟩, h16⟩, h17⟩, h18⟩, h19⟩, h20⟩, h21⟩, h22⟩, h23⟩, h24⟩ := h
  exact ⟨⟨h1, h2, h3, h4, h5, h6, h7, h8, h9, h10, h11, h12, h13, h14, h15, h16, h17⟩, ⟨h18, h19, h11, h5, h20, h21, h22, h23⟩, h24⟩
def rowB (P : Program) (T : Tab) (K : Frag) : Bool :=
  T.fnL.all (fun p => fdB K (rwOf T K) p.1 p.2) && T.cstL.all (fun p => match nsIn K mainGlobals p.1 with | some (some u) => relB K p.2 u | _ => false) && bnames.all (fun x => decide (nsIn K mainGlobals x = some none)) &&
  T.clsL.all (fun c => decide (nsIn K mainGlobals c = some (some (.ref (ga K c))))) && T.attL.all (fun p => T.clsL.contains p.1 && xcB P K (ga K p.1) p.2) &&
  T.subL.all (fun p => decide (PySem.W.kitOne K (.ref (ga K p.1.1)) (.ref (ga K p.1.2)) = some p.2) && decide (PySem.W.exmOne K (.ref (ga K p.1.1)) (.ref (ga K p.1.2)) = some p.2)) && T.bsubL.all (fun p => decide (PySem.W.kitOne K (.ref (ga K p.1.1)) (.type p.1.2) = some p.2)) &&
  T.fldL.isEmpty
theorem mem_lookup {α β : Type} [BEq α] [LawfulBEq α] : ∀ {l : List (α × β)} {x : α} {v : β}, l.lookup x = some v → (x, v) ∈ l
  | [], _, _, h => by cases h
  | (y, u) :: r, x, v, h => by
    by_cases e : x = y
    · subst e
      simp [List.lookup] at h
      subst h
      exact List.mem_cons_self ..
    · have q : (x == y) = false := by simpa using e
      simp only [List.lookup, q] at h
      exact List.mem_cons_of_mem _ (mem_lookup h)
theorem tb_ok {P : Program} {T : Tab} {K : Frag} {h : Heap} {mg : Str → Option Value} (X : K.In h) (G : h.Ns mainGlobals mg) (hb : rowB P T K = true) : TbOk P K mg (rwOf T K) := by
  simp only [rowB, Bool.and_eq_true, List.all_eq_true, decide_eq_true_eq] at hb
  obtain ⟨⟨⟨⟨⟨⟨⟨b1, b2⟩, b3⟩, b4⟩, b5⟩, b6⟩, b7⟩, b8⟩ := hb
  have clA : ∀ c C, (rwOf T K).clA c = some C → c ∈ T.clsL ∧ C = ga K c := fun c C e => by
    have e' : (if T.clsL.contains c = true then some (ga K c) else none) = some C := e
    split at e'
    · rename_i hc
      exact ⟨List.contains_iff_mem.mp hc, (Option.some.inj e').symm⟩
    · cases e'
  have fnA : ∀ f a, (rwOf T K).fnA f = some a → ∃ fd, T.fns f = some fd ∧ a = ga K f := fun f a e => by
    have e' : (if (T.fns f).isSome = true then some (ga K f) else none) = some a := e
    split at e'
    · rename_i hc
      obtain ⟨fd, hfd⟩ := Option.isSome_iff_exists.mp hc
      exact ⟨fd, hfd, (Option.some.inj e').symm⟩
    · cases e'
  have fd : ∀ f fd, T.fns f = some fd → FdOk P K (rwOf T K) f fd ∧ (∀ us : List Value, us.length = ((rwOf T K).fnP f).length → bindArgs ((rwOf T K).fnD f) ⟨us, []⟩ = pure (((rwOf T K).fnP f).zip us)) ∧ nsIn K mainGlobals f = some (some (.ref (ga K f))) ∧ PySem.W.keepIn K (.ref (ga K f)) = true := fun f fd e => fdB_ok e (b1 _ (mem_lookup e))
  refine ⟨{ glob := fun x d e => ?_, bn := fun x e => PySem.W.mg_none_of X G (b3 x e), cls := fun c C e => ?_, xc := fun c f e => ?_, xs := fun c C t Ct b e1 e2 e3 => ?_, xb := fun c C x b e1 e2 => ?_, xm := fun c C t Ct b e1 e2 e3 => ?_, fl := fun c C f e1 e2 => ?_, fn := fun f a _ e => ?_, bi := fun f a e => ?_ }, fun f q e => (fd f q e).1, fun f e => ?_, fun f e => ?_⟩
  · have z := b2 _ (mem_lookup e)
    dsimp only at z
    split at z
    · rename_i u hu
      obtain ⟨v, h1, h2⟩ := relB_ok (R := rwOf T K) d u z
      exact ⟨u, v, PySem.W.mg_of X G hu, h1, h2⟩
    · cases z
  · obtain ⟨h1, rfl⟩ := clA c C e
    exact PySem.W.mg_of X G (b4 c h1)
  · have z := b5 _ (mem_lookup e)
    obtain ⟨g1, g2, g3⟩ := xcB_ok z.2
    refine ⟨ga K c, _, ?_, g1, g2, g3⟩
    show (if T.clsL.contains c = true then some (ga K c) else none) = _
    rw [if_pos z.1]
  · obtain ⟨_, rfl⟩ := clA c C e1
    obtain ⟨_, rfl⟩ := clA t Ct e3
    exact (b6 _ (mem_lookup e2)).1
  · obtain ⟨_, rfl⟩ := clA c C e1
    exact b7 _ (mem_lookup e2)
  · obtain ⟨_, rfl⟩ := clA c C e1
    obtain ⟨_, rfl⟩ := clA t Ct e3
    exact (b6 _ (mem_lookup e2)).2
  · have z : T.fldL = [] := by simpa using b8
    have z2 : T.fldL.contains (c, f) = true := e2
    rw [z] at z2
    cases z2
  · obtain ⟨q, h1, rfl⟩ := fnA f a e
    obtain ⟨_, _, h3, h4⟩ := fd f q h1
    exact ⟨PySem.W.mg_of X G h3, h4⟩
  · obtain ⟨q, h1, rfl⟩ := fnA f a e
    exact Binds.all (fd f q h1).2.1
  · cases q : T.fns f with
    | none => exact q
    | some z =>
      have e' : (if (T.fns f).isSome = true then some (ga K f) else none) = none := e
      rw [q] at e'
      cases e'
  · show (if (T.fns f).isSome = true then some (ga K f) else none) = none
    rw [show T.fns f = none from e]
    rfl
/-! ### the Hook and the end -/
/-- what an object names, a def's cells too -/
def refsX (o : Obj) : List Addr := He.refsO o ++ match o.data with
  | .func fd => fd.closure.map fun p => p.2
  | .cell (some v) => He.refV v
  | _ => []
def growX (g : Addr → Option Obj) (as : List Addr) : List Addr := (as ++ as.flatMap fun a => match g a with
  | some o => refsX o
  | none => []).eraseDups
/-- what the module's names reach in n steps -/
def reachX (g : Addr → Option Obj) : Nat → List Addr
  | 0 => [mainGlobals, cStatics]
  | n + 1 => growX g (reachX g n)
def hkT (P : Program) (T : Tab) (j : Nat) : PySem.W.Hook where
  α := Bool
  obs := fun s => rowB P T (He.frG s.heap.get? (reachX s.heap.get? j))
  val := fun _ => true
  says := fun _ h => ∃ K : Frag, K.In h ∧ rowB P T K = true
  of := fun _ _ e => ⟨_, He.frG_in, e⟩
  keeps := fun _ _ _ ⟨K, kI, c⟩ kp => ⟨K, PySem.W.Frag.In.keeps kI kp, c⟩
/-- a law: its def promises True at every script -/
theorem law_walk {l : PySem.W.OpenLaw} {n lv : Nat} {q : Program} {loose : List Str} {XP : (Str → Option Value) → Heap → Prop} {T : Tab} {j : Nat} {d : DefRec} {fd : Fd} {x : Str} {r : List Str}
    (hn : l.most = some n) (hn2 : n ≤ sizeLine) (hdf : d.params.defaults = []) (hr : Room (2 * lv) callerA) (hd : T.fns d.name = some fd) (h1 : fd.np = 1) (hN : fd.N = x :: r)
    (law : ∀ ns : List Int, ns.length ≤ n → T.wC lv d.name [.lst (ns.map D.int)] (fun _ => none) (fun v _ => v = .bl true) (fun _ _ => False)) :
    PySem.W.WalkO q loose XP (hkT l.prog T j).says l.row.toRowW d [] (fun f vs => PySem.call f vs) := by
  refine walk_ofE (CX := fun o H s E u s' => ∃ w, L2.CX l.prog w o H s E u s') (k := 2 * lv) (x := x) hn hn2 hdf hr (fun w mg fa h Y G hfa => ?_) ?_
  · obtain ⟨K, KX, hb⟩ := Y
    have tb := tb_ok KX G hb
    have hb' := hb
    simp only [rowB, Bool.and_eq_true, List.all_eq_true] at hb'
    obtain ⟨g1, g2, g3, g4⟩ := fdB_ok (P := l.prog) hd (hb'.1.1.1.1.1.1.1 _ (mem_lookup hd))
    have hmg := PySem.W.mg_of KX G g3
    rw [hfa] at hmg
    obtain rfl : fa = ga K d.name := Value.ref.inj (Option.some.inj hmg)
    have hps : (rwOf T K).fnP d.name = [x] := by
      obtain ⟨⟨_, _, _, _, _, _, _, _, _, _, _, _, _, _, _, _, _, _, _, S, _⟩, hnp⟩ := g1
      have z := S.pre
      rw [hnp, h1, hN] at z
      exact z.symm
    have hA : (rwOf T K).fnA d.name = some (ga K d.name) := by
      show (if (T.fns d.name).isSome = true then some (ga K d.name) else none) = _
      rw [hd]
      rfl
    refine ⟨K, (rwOf T K).fnD d.name, spOf K (rwOf T K) ((rwOf T K).T.wC lv d.name) 1, KX, fun s u => ?_, fun H a ns hl hO hS => ?_, fun base kb gb => ?_⟩
    · have z := g2 [u] (by rw [hps]; rfl)
      rw [hps] at z
      exact .of_eq z
    · have hL : LsF K H a (ns.map V.int) := by
        rcases hS with (h2 | h2) | h2
        · rcases hO a with h3 | ⟨o, xs, h3⟩
          · rw [h2] at h3; cases h3
          · rw [h2] at h3; cases h3
        · exact .inl h2
        · exact .inr h2
      have hR : RelL K (rwOf T K) H (ns.map D.int) (ns.map V.int) := by
        clear hL hS hl
        induction ns with
        | nil => exact .nil
        | cons i r ih => exact .cons (Rel.int i) ih
      refine ⟨[.lst (ns.map D.int)], fun _ => none, _, _, .cons (Rel.lst hL hR) .nil, ⟨fun b o e => (by cases e), fun c e => (by cases e)⟩, law ns hl, rfl, fun e m' v H' _ re _ hq => ?_, fun _ _ _ _ _ _ _ _ z => z.elim⟩
      subst hq
      exact rel_bl re
    · have F := fn_all (P := l.prog) (w := w) (base := base) tb lv d.name _ hA
      rw [hps] at F
      refine ⟨F.len, fun A o s H args us vs Q E hr2 e0 hbi rv hsp => codeAny_mono (F.run A o s H args us vs Q E hr2 e0 hbi rv hsp) fun r s' hq => ?_⟩
      cases r with
      | error e => exact ⟨w, hq⟩
      | ok fl =>
        cases fl with
        | ret u => exact hq
        | _ => exact hq
  · rintro H s e s' ⟨w, a, B, H', cls, dd, _, _, _, _, _, _, _, h⟩
    exact h
end Ab
namespace K00
open PySem Ab
def f_law_mix : Fd := ⟨2, ["_law_cell", "_law_salt", "_law_one"],
    (.cons (.asg (.one 2) (.bop .mod (.bi .int (.cons (.bop .add (.bop .add (.bop .mul (.var 0) (.int 48271)) (.bop .mul (.var 1) (.int 69621))) (.int 12345)) .nil)) (.int 2147483647)))
      (.cons (.ret (.bop .mod (.bi .int (.cons (.bop .add (.bop .add (.bop .mul (.var 2) (.var 2)) (.bop .mul (.var 2) (.int 16807))) (.bop .mul (.var 1) (.int 7919))) .nil)) (.int 2147483629)))
      .nil))⟩
def f_law_box : Fd := ⟨2, ["_law_script", "_law_at", "_law_cell"],
    (.cons (.ret (.lstM (.cons (.int 0) (.cons (.int 0) (.cons (.var 1) (.cons (.int 0) (.cons (.var 1) (.cons (.lc true [2] (.one 2) (.ex (.var 0)) .nil (.bi .int (.cons (.var 2) .nil))) .nil))))))))
      .nil)⟩
def f_law_draw : Fd := ⟨2, ["_law_box_here", "_law_many", "_law_cell", "_law_drawn"],
    (.cons (.ite (.andE (.cons (.cmp .eq (.idx (.var 0) (.int 1)) (.int 0)) (.cons (.cmp .lt (.idx (.var 0) (.int 2)) (.bi .len (.cons (.idx (.var 0) (.int 5)) .nil))) .nil))) (.cons (.asg (.one 2) (.idx (.idx (.var 0) (.int 5)) (.idx (.var 0) (.int 2))))
      (.cons (.asgI (.var 0) (.int 2) (.bop .add (.idx (.var 0) (.int 2)) (.int 2)))
      (.cons (.asgI (.var 0) (.int 4) (.bop .mod (.bi .int (.cons (.bop .add (.bop .mul (.idx (.var 0) (.int 4)) (.int 31)) (.var 2)) .nil)) (.int 2147483647)))
      (.cons (.ite (.cmp .ge (.var 2) (.bop .pow (.int 10) (.int 18))) (.cons (.asgI (.var 0) (.int 0) (.bop .sub (.var 2) (.bop .pow (.int 10) (.int 18))))
      (.cons (.asgI (.var 0) (.int 1) (.int 60))
      .nil))
      .nil)
      .nil))))
      .nil)
      (.cons (.ite (.andE (.cons (.cmp .gt (.idx (.var 0) (.int 1)) (.int 0)) (.cons (.cmp .gt (.idx (.var 0) (.int 0)) (.int 0)) .nil))) (.cons (.asg (.one 3) (.bop .mod (.bi .int (.cons (.idx (.var 0) (.int 0)) .nil)) (.var 1)))
      (.cons (.asgI (.var 0) (.int 0) (.bop .fdiv (.idx (.var 0) (.int 0)) (.var 1)))
      (.cons (.asgI (.var 0) (.int 1) (.bop .sub (.idx (.var 0) (.int 1)) (.int 1)))
      (.cons (.ret (.var 3))
      .nil))))
      .nil)
      (.cons (.asgI (.var 0) (.int 1) (.int 0))
      (.cons (.asgI (.var 0) (.int 3) (.bop .add (.idx (.var 0) (.int 3)) (.int 1)))
      (.cons (.ret (.bop .mod (.bi .int (.cons (.call "_law_mix" (.cons (.idx (.var 0) (.int 4)) (.cons (.idx (.var 0) (.int 3)) .nil))) .nil)) (.var 1)))
      .nil)))))⟩
def f_law_alike : Fd := ⟨2, ["_law_told", "_law_due", "_law_k"],
    (.cons (.ite (.isi (.var 1) [.bt .tuple, .bt .list]) (.cons (.ite (.orE (.cons (.cmp .ne (.isi (.var 0) [.bt .tuple]) (.isi (.var 1) [.bt .tuple])) (.cons (.cmp .ne (.isi (.var 0) [.bt .list]) (.isi (.var 1) [.bt .list])) .nil))) (.cons (.ret (.bl false))
      .nil)
      .nil)
      (.cons (.ite (.cmp .ne (.bi .len (.cons (.var 0) .nil)) (.bi .len (.cons (.var 1) .nil))) (.cons (.ret (.bl false))
      .nil)
      .nil)
      (.cons (.forS (.one 2) (.rng1 (.bi .len (.cons (.var 1) .nil)))
      (.cons (.ite (.notE (.call "_law_alike" (.cons (.idx (.var 0) (.var 2)) (.cons (.idx (.var 1) (.var 2)) .nil)))) (.cons (.ret (.bl false))
      .nil)
      .nil)
      .nil))
      (.cons (.ret (.bl true))
      .nil))))
      .nil)
      (.cons (.ite (.isN (.var 1)) (.cons (.ret (.isN (.var 0)))
      .nil)
      .nil)
      (.cons (.ite (.isi (.var 1) [.bt .bool]) (.cons (.ret (.andE (.cons (.isi (.var 0) [.bt .bool]) (.cons (.cmp .eq (.var 0) (.var 1)) .nil))))
      .nil)
      .nil)
      (.cons (.ite (.isi (.var 1) [.bt .str]) (.cons (.ret (.andE (.cons (.isi (.var 0) [.bt .str]) (.cons (.cmp .eq (.var 0) (.var 1)) .nil))))
      .nil)
      .nil)
      (.cons (.ret (.andE (.cons (.isi (.var 0) [.bt .int]) (.cons (.notE (.isi (.var 0) [.bt .bool])) (.cons (.cmp .eq (.var 0) (.var 1)) .nil)))))
      .nil)))))⟩
def f_law_text : Fd := ⟨1, ["_law_box_here", "_law_signs", "_law_k"],
    (.cons (.ite (.cmp .eq (.call "_law_draw" (.cons (.var 0) (.cons (.int 3) .nil))) (.int 0)) (.cons (.ret (.idx (.lst (.cons (.str "rows") (.cons (.str "terms") (.cons (.str "tokens") (.cons (.str "sets") (.cons (.str "key") (.cons (.str "a1") (.cons (.str "") (.cons (.str "sold") .nil))))))))) (.call "_law_draw" (.cons (.var 0) (.cons (.int 8) .nil)))))
      .nil)
      .nil)
      (.cons (.asg (.one 1) (.str "abcdefghijklmnopqrstuvwxyz 0123456789"))
      (.cons (.ret (.mth .join (.str "") (.cons (.lc true [2] (.one 2) (.rng1 (.bop .add (.int 1) (.call "_law_draw" (.cons (.var 0) (.cons (.int 8) .nil))))) .nil (.idx (.var 1) (.call "_law_draw" (.cons (.var 0) (.cons (.int 37) .nil))))) .nil)))
      .nil)))⟩
def f_law_alone : Fd := ⟨2, ["_law_e", "_law_kind", "_law_kinds", "_law_k"],
    (.cons (.asg (.one 2) (.lst (.cons (.isi (.var 0) [.cls "BadValue"]) (.cons (.isi (.var 0) [.cls "BadProgram"]) (.cons (.isi (.var 0) [.cls "BadRecord"]) (.cons (.isi (.var 0) [.cls "BadPaper"]) .nil))))))
      (.cons (.asg (.one 2) (.bop .add (.var 2) (.lst (.cons (.isi (.var 0) [.cls "BadLine"]) (.cons (.isi (.var 0) [.cls "TooMany"]) (.cons (.isi (.var 0) [.cls "NothingThere"]) (.cons (.isi (.var 0) [.cls "Unlike"]) .nil)))))))
      (.cons (.forS (.one 3) (.rng1 (.int 8))
      (.cons (.ite (.cmp .ne (.idx (.var 2) (.var 3)) (.cmp .eq (.var 3) (.var 1))) (.cons (.ret (.bl false))
      .nil)
      .nil)
      .nil))
      (.cons (.ret (.andE (.cons (.isi (.var 0) [.cls "TraceError"]) (.cons (.isi (.var 0) [.bcls "Exception"]) (.cons (.notE (.isi (.var 0) [.bcls "ValueError"])) .nil)))))
      .nil))))⟩
def f_law_numbered : Fd := ⟨2, ["_law_at", "_law_other", "_law_first", "_law_second", "_law_k"],
    (.cons (.asg (.one 2) (.lst (.cons (.mkx "BadValue" (.var 0)) (.cons (.mkx "BadProgram" (.var 0)) (.cons (.mkx "BadRecord" (.var 0)) (.cons (.mkx "BadPaper" (.var 0)) (.cons (.mkx "BadLine" (.var 0)) .nil)))))))
      (.cons (.asg (.one 3) (.lst (.cons (.mkx "BadValue" (.var 1)) (.cons (.mkx "BadProgram" (.var 1)) (.cons (.mkx "BadRecord" (.var 1)) (.cons (.mkx "BadPaper" (.var 1)) (.cons (.mkx "BadLine" (.var 1)) .nil)))))))
      (.cons (.forS (.one 4) (.rng1 (.int 5))
      (.cons (.ite (.orE (.cons (.notE (.call "_law_alike" (.cons (.tup (.cons (.fld (.idx (.var 2) (.var 4)) "at") (.cons (.fld (.idx (.var 3) (.var 4)) "at") .nil))) (.cons (.tup (.cons (.var 0) (.cons (.var 1) .nil))) .nil)))) (.cons (.notE (.call "_law_alone" (.cons (.idx (.var 2) (.var 4)) (.cons (.var 4) .nil)))) .nil))) (.cons (.ret (.bl false))
      .nil)
      .nil)
      .nil))
      (.cons (.ret (.bl true))
      .nil))))⟩
def f_law_worded : Fd := ⟨2, ["_law_word", "_law_other", "_law_many", "_law_there", "_law_unlike"],
    (.cons (.asg (.one 2) (.lst (.cons (.mkx "TooMany" (.var 0)) (.cons (.mkx "TooMany" (.var 1)) .nil))))
      (.cons (.asg (.one 3) (.lst (.cons (.mkx "NothingThere" (.var 0)) (.cons (.mkx "NothingThere" (.var 1)) .nil))))
      (.cons (.asg (.one 4) (.lst (.cons (.mkx "Unlike" (.var 0)) (.cons (.mkx "Unlike" (.var 1)) .nil))))
      (.cons (.ite (.notE (.call "_law_alike" (.cons (.tup (.cons (.fld (.idx (.var 2) (.int 0)) "word") (.cons (.fld (.idx (.var 3) (.int 0)) "name") (.cons (.fld (.idx (.var 4) (.int 0)) "name") .nil)))) (.cons (.tup (.cons (.var 0) (.cons (.var 0) (.cons (.var 0) .nil)))) .nil)))) (.cons (.ret (.bl false))
      .nil)
      .nil)
      (.cons (.ite (.notE (.call "_law_alike" (.cons (.tup (.cons (.fld (.idx (.var 2) (.int 1)) "word") (.cons (.fld (.idx (.var 3) (.int 1)) "name") (.cons (.fld (.idx (.var 4) (.int 1)) "name") .nil)))) (.cons (.tup (.cons (.var 1) (.cons (.var 1) (.cons (.var 1) .nil)))) .nil)))) (.cons (.ret (.bl false))
      .nil)
      .nil)
      (.cons (.ret (.andE (.cons (.call "_law_alone" (.cons (.idx (.var 2) (.int 0)) (.cons (.int 5) .nil))) (.cons (.call "_law_alone" (.cons (.idx (.var 3) (.int 0)) (.cons (.int 6) .nil))) (.cons (.call "_law_alone" (.cons (.idx (.var 4) (.int 0)) (.cons (.int 7) .nil))) .nil)))))
      .nil))))))⟩
def f_law_raise : Fd := ⟨3, ["_law_kind", "_law_at", "_law_word"],
    (.cons (.ite (.cmp .eq (.var 0) (.int 0)) (.cons (.raise "BadValue" (.var 1))
      .nil)
      .nil)
      (.cons (.ite (.cmp .eq (.var 0) (.int 1)) (.cons (.raise "BadProgram" (.var 1))
      .nil)
      .nil)
      (.cons (.ite (.cmp .eq (.var 0) (.int 2)) (.cons (.raise "BadRecord" (.var 1))
      .nil)
      .nil)
      (.cons (.ite (.cmp .eq (.var 0) (.int 3)) (.cons (.raise "BadPaper" (.var 1))
      .nil)
      .nil)
      (.cons (.ite (.cmp .eq (.var 0) (.int 4)) (.cons (.raise "BadLine" (.var 1))
      .nil)
      .nil)
      (.cons (.ite (.cmp .eq (.var 0) (.int 5)) (.cons (.raise "TooMany" (.var 2))
      .nil)
      .nil)
      (.cons (.ite (.cmp .eq (.var 0) (.int 6)) (.cons (.raise "NothingThere" (.var 2))
      .nil)
      .nil)
      (.cons (.raise "Unlike" (.var 2))
      .nil))))))))⟩
def f_law_caught : Fd := ⟨3, ["_law_kind", "_law_at", "_law_word", "_law_e"],
    (.cons (.tryS (.cons (.ex (.call "_law_raise" (.cons (.var 0) (.cons (.var 1) (.cons (.var 2) .nil)))))
      .nil)
      (.cons "Unlike" (some 3) (.cons (.ret (.tup (.cons (.int 7) (.cons (.fld (.var 3) "name") .nil))))
      .nil)
      (.cons "NothingThere" (some 3) (.cons (.ret (.tup (.cons (.int 6) (.cons (.fld (.var 3) "name") .nil))))
      .nil)
      (.cons "TooMany" (some 3) (.cons (.ret (.tup (.cons (.int 5) (.cons (.fld (.var 3) "word") .nil))))
      .nil)
      (.cons "BadLine" (some 3) (.cons (.ret (.tup (.cons (.int 4) (.cons (.fld (.var 3) "at") .nil))))
      .nil)
      (.cons "BadPaper" (some 3) (.cons (.ret (.tup (.cons (.int 3) (.cons (.fld (.var 3) "at") .nil))))
      .nil)
      (.cons "BadRecord" (some 3) (.cons (.ret (.tup (.cons (.int 2) (.cons (.fld (.var 3) "at") .nil))))
      .nil)
      (.cons "BadProgram" (some 3) (.cons (.ret (.tup (.cons (.int 1) (.cons (.fld (.var 3) "at") .nil))))
      .nil)
      (.cons "BadValue" (some 3) (.cons (.ret (.tup (.cons (.int 0) (.cons (.fld (.var 3) "at") .nil))))
      .nil)
      .nil)))))))))
      (.cons (.ret (.tup (.cons (.int 8) (.cons .non .nil))))
      .nil))⟩
def f_law_beneath : Fd := ⟨3, ["_law_kind", "_law_at", "_law_word"],
    (.cons (.tryS (.cons (.ex (.call "_law_raise" (.cons (.var 0) (.cons (.var 1) (.cons (.var 2) .nil)))))
      .nil)
      (.cons "TraceError" none (.cons (.ret (.bl true))
      .nil)
      .nil))
      (.cons (.ret (.bl false))
      .nil))⟩
def f_law : Fd := ⟨1, ["_law_script", "_law_box_here", "_law_far", "_law_at", "_law_word", "_law_kind", "_law_due"],
    (.cons (.asg (.one 1) (.call "_law_box" (.cons (.var 0) (.cons (.int 0) .nil))))
      (.cons (.asg (.one 2) (.call "_law_box" (.cons (.var 0) (.cons (.int 1) .nil))))
      (.cons (.asg (.one 3) (.call "_law_draw" (.cons (.var 1) (.cons (.int 1000) .nil))))
      (.cons (.asg (.one 4) (.call "_law_text" (.cons (.var 1) .nil)))
      (.cons (.ite (.orE (.cons (.notE (.call "_law_numbered" (.cons (.var 3) (.cons (.call "_law_draw" (.cons (.var 2) (.cons (.int 9) .nil))) .nil)))) (.cons (.notE (.call "_law_worded" (.cons (.var 4) (.cons (.call "_law_text" (.cons (.var 2) .nil)) .nil)))) .nil))) (.cons (.ret (.bl false))
      .nil)
      .nil)
      (.cons (.forS (.one 5) (.rng1 (.int 8))
      (.cons (.asg (.one 6) (.idx (.lst (.cons (.var 3) (.cons (.var 4) .nil))) (.bi .int (.cons (.cmp .gt (.var 5) (.int 4)) .nil))))
      (.cons (.ite (.orE (.cons (.notE (.call "_law_alike" (.cons (.call "_law_caught" (.cons (.var 5) (.cons (.var 3) (.cons (.var 4) .nil)))) (.cons (.tup (.cons (.var 5) (.cons (.var 6) .nil))) .nil)))) (.cons (.notE (.call "_law_beneath" (.cons (.var 5) (.cons (.var 3) (.cons (.var 4) .nil))))) .nil))) (.cons (.ret (.bl false))
      .nil)
      .nil)
      .nil)))
      (.cons (.ret (.bl true))
      .nil)))))))⟩
def tab : Tab where
  fnL := ([("_law_mix", f_law_mix), ("_law_box", f_law_box), ("_law_draw", f_law_draw), ("_law_alike", f_law_alike), ("_law_text", f_law_text), ("_law_alone", f_law_alone), ("_law_numbered", f_law_numbered), ("_law_worded", f_law_worded), ("_law_raise", f_law_raise), ("_law_caught", f_law_caught), ("_law_beneath", f_law_beneath), ("law", f_law)] : List (Str × Fd))
  cstL := ([] : List (Str × D))
  clsL := ["TraceError", "BadValue", "BadProgram", "BadRecord", "BadPaper", "BadLine", "NothingThere", "TooMany", "Unlike"]
  attL := [("BadValue", "at"), ("BadProgram", "at"), ("BadRecord", "at"), ("BadPaper", "at"), ("BadLine", "at"), ("NothingThere", "name"), ("TooMany", "word"), ("Unlike", "name")]
  subL := ([(("BadValue", "TraceError"), true), (("BadValue", "BadValue"), true), (("BadValue", "BadProgram"), false), (("BadValue", "BadRecord"), false), (("BadValue", "BadPaper"), false), (("BadValue", "BadLine"), false), (("BadValue", "NothingThere"), false), (("BadValue", "TooMany"), false), (("BadValue", "Unlike"), false), (("BadProgram", "TraceError"), true), (("BadProgram", "BadValue"), false), (("BadProgram", "BadProgram"), true), (("BadProgram", "BadRecord"), false), (("BadProgram", "BadPaper"), false), (("BadProgram", "BadLine"), false), (("BadProgram", "NothingThere"), false), (("BadProgram", "TooMany"), false), (("BadProgram", "Unlike"), false), (("BadRecord", "TraceError"), true), (("BadRecord", "BadValue"), false)] : List ((Str × Str) × Bool)) ++ ([(("BadRecord", "BadProgram"), false), (("BadRecord", "BadRecord"), true), (("BadRecord", "BadPaper"), false), (("BadRecord", "BadLine"), false), (("BadRecord", "NothingThere"), false), (("BadRecord", "TooMany"), false), (("BadRecord", "Unlike"), false), (("BadPaper", "TraceError"), true), (("BadPaper", "BadValue"), false), (("BadPaper", "BadProgram"), false), (("BadPaper", "BadRecord"), false), (("BadPaper", "BadPaper"), true), (("BadPaper", "BadLine"), false), (("BadPaper", "NothingThere"), false), (("BadPaper", "TooMany"), false), (("BadPaper", "Unlike"), false), (("BadLine", "TraceError"), true), (("BadLine", "BadValue"), false), (("BadLine", "BadProgram"), false), (("BadLine", "BadRecord"), false)] : List ((Str × Str) × Bool)) ++ ([(("BadLine", "BadPaper"), false), (("BadLine", "BadLine"), true), (("BadLine", "NothingThere"), false), (("BadLine", "TooMany"), false), (("BadLine", "Unlike"), false), (("NothingThere", "TraceError"), true), (("NothingThere", "BadValue"), false), (("NothingThere", "BadProgram"), false), (("NothingThere", "BadRecord"), false), (("NothingThere", "BadPaper"), false), (("NothingThere", "BadLine"), false), (("NothingThere", "NothingThere"), true), (("NothingThere", "TooMany"), false), (("NothingThere", "Unlike"), false), (("TooMany", "TraceError"), true), (("TooMany", "BadValue"), false), (("TooMany", "BadProgram"), false), (("TooMany", "BadRecord"), false), (("TooMany", "BadPaper"), false), (("TooMany", "BadLine"), false)] : List ((Str × Str) × Bool)) ++ ([(("TooMany", "NothingThere"), false), (("TooMany", "TooMany"), true), (("TooMany", "Unlike"), false), (("Unlike", "TraceError"), true), (("Unlike", "BadValue"), false), (("Unlike", "BadProgram"), false), (("Unlike", "BadRecord"), false), (("Unlike", "BadPaper"), false), (("Unlike", "BadLine"), false), (("Unlike", "NothingThere"), false), (("Unlike", "TooMany"), false), (("Unlike", "Unlike"), true)] : List ((Str × Str) × Bool))
  bsubL := ([(("BadValue", "Exception"), true), (("BadValue", "ValueError"), false), (("BadProgram", "Exception"), true), (("BadProgram", "ValueError"), false), (("BadRecord", "Exception"), true), (("BadRecord", "ValueError"), false), (("BadPaper", "Exception"), true), (("BadPaper", "ValueError"), false), (("BadLine", "Exception"), true), (("BadLine", "ValueError"), false), (("NothingThere", "Exception"), true), (("NothingThere", "ValueError"), false), (("TooMany", "Exception"), true), (("TooMany", "ValueError"), false), (("Unlike", "Exception"), true), (("Unlike", "ValueError"), false)] : List ((Str × String) × Bool))
  fldL := []

end K00
namespace K00
open PySem Ab
def ini (T : Tab) : Nat → Fc
  | 0 => noFc
  | k + 1 => T.wC k
abbrev cc (k : Nat) : Ct := tab.ct (tab.wC k) (ini tab k)
abbrev en (Q : Kd) (X : Kx) : En := ⟨fun _ m' => Q .non m', Q, fun _ _ => False, fun _ _ => False, fun x _ m' => X x m'⟩
theorem run {k : Nat} {f : Str} {fd : Fd} {l : List D} {δ : Dl} {m : Mm} {Q : Kd} {X : Kx} (hf : tab.fns f = some fd) (hl : l.length = fd.np) (hδ : startD fd.N.length l = δ)
    (h : wSs (cc k) fd.body ⟨fun _ m' => ∃ m'', m''.Sub m' ∧ Q .non m'', fun d m' => ∃ m'', m''.Sub m' ∧ Q d m'', fun _ _ => False, fun _ _ => False, fun x _ m' => ∃ m'', m''.Sub m' ∧ X x m''⟩ δ m) : tab.wC (k + 1) f l m Q X := by
  subst hδ
  cases k with
  | zero => exact ⟨fd, hf, hl, h⟩
  | succ k => exact ⟨fd, hf, hl, h⟩
theorem same {m : Mm} {P : Mm → Prop} (h : P m) : ∃ m'', m''.Sub m ∧ P m'' := ⟨m, fun _ _ e => e, h⟩
theorem idx_ref {m : Mm} {b : Addr} {l : List D} {i : Int} {d : D} {K : D → Prop} (h1 : m b = some (.lst l)) (h2 : L2.atI l i = some d) (h3 : K d) : idxW (.ref b) (.int i) m K := ⟨l, d, by simp [seqD, h1], h2, h3⟩
theorem cut {C : Ct} {s : S} {r : Ss} {F : En} {δ : Dl} {m : Mm} (P : Dl → Mm → Prop) (h1 : ∀ K : Dl → Mm → Prop, (∀ δ m, P δ m → K δ m) → wS C s { F with nx := K } δ m) (h2 : ∀ δ m, P δ m → wSs C r F δ m) : wSs C (.cons s r) F δ m := h1 _ h2
theorem log_small {x : Int} (h : 0 ≤ x ∧ x < 2 ^ 62) : x.natAbs.log2 < 62 := by
  have z : x.natAbs < 2 ^ 62 := by omega
  by_cases h0 : x.natAbs = 0
  · rw [h0]; decide
  · exact (Nat.log2_lt h0).mpr z
theorem mulOk {x y : Int} (hx : 0 ≤ x ∧ x < 2 ^ 62) (hy : y.natAbs.log2 < 100) : L2.CMulW x y := by
  have z := log_small hx
  unfold L2.CMulW
  omega
theorem mix_spec {k : Nat} {c s : Int} {m : Mm} {Q : Kd} {X : Kx} (hc : 0 ≤ c ∧ c < 2 ^ 62) (hs : 0 ≤ s ∧ s < 2 ^ 62) (q : ∀ r, 0 ≤ r → r < 2147483629 → Q (.int r) m) : tab.wC (k + 1) "_law_mix" [.int c, .int s] m Q X := by
  refine run (fd := f_law_mix) (δ := [some (.int c), some (.int s), none]) (by rfl) rfl rfl ?_
  unfold f_law_mix
  dsimp only [wSs, wS, wE, wAs]
  refine ⟨_, rfl, mulOk hc (by decide +kernel), _, rfl, mulOk hs (by decide +kernel), ?_⟩
  show 0 < (2147483647 : Int) ∧ _
  refine ⟨by decide, ?_⟩
  generalize hr : (c * 48271 + s * 69621 + 12345) % 2147483647 = r
  have hr1 : 0 ≤ r ∧ r < 2 ^ 62 := by
    have a1 := Int.emod_nonneg (c * 48271 + s * 69621 + 12345) (b := 2147483647) (by decide)
    have a2 := Int.emod_lt_of_pos (c * 48271 + s * 69621 + 12345) (b := 2147483647) (by decide)
    rw [hr] at a1 a2
    exact ⟨a1, by omega⟩
  refine ⟨_, rfl, _, rfl, mulOk hr1 (by have := log_small hr1; omega), _, rfl, mulOk hr1 (by decide +kernel), _, rfl, mulOk hs (by decide +kernel), ?_⟩
  show 0 < (2147483629 : Int) ∧ _
  refine ⟨by decide, ?_⟩
  refine same (q _ (Int.emod_nonneg _ (by decide)) (Int.emod_lt_of_pos _ (by decide)))
def Bx (m : Mm) (b : Addr) (c : Nat) (cells : List Int) : Prop := ∃ r n at_ sm sd : Int, m b = some (.lst [.int r, .int n, .int at_, .int sm, .int sd, .lst (cells.map D.int)]) ∧ 0 ≤ at_ ∧ 0 ≤ sm ∧ sm ≤ c ∧ 0 ≤ sd ∧ sd < 2147483647
theorem put_same {m : Mm} {b : Addr} {o : MO} : (m.put b o) b = some o := by unfold Mm.put; rw [if_pos rfl]
theorem put_ne {m : Mm} {a b : Addr} {o : MO} (h : a ≠ b) : (m.put b o) a = m a := by unfold Mm.put; rw [if_neg h]
theorem put_put {m : Mm} {b : Addr} {o o' : MO} : (m.put b o).put b o' = m.put b o' := by
  funext a
  unfold Mm.put
  split <;> rfl
/-- a box's item written -/
theorem set_ref {m : Mm} {b : Addr} {l : List D} {i : Int} {j : Nat} {v : D} {K : Mm → Prop} (h1 : m b = some (.lst l)) (h2 : L2.ixN l.length i = some j) (h3 : K (m.put b (.lst (l.set j v)))) : ∃ a l' k' j', D.ref b = .ref a ∧ m a = some (.lst l') ∧ D.int i = .int k' ∧ L2.ixN l'.length k' = some j' ∧ K (m.put a (.lst (l'.set j' v))) :=
  ⟨b, l, i, j, rfl, h1, rfl, h2, h3⟩
theorem c_eq {a b : Int} {m : Mm} {K : Bool → Prop} (h1 : a = b → K true) (h2 : a ≠ b → K false) : cmpW .eq (.int a) (.int b) m K := by
  refine ⟨rfl, ?_⟩
  show K (a == b)
  by_cases h : a = b
  · rw [show (a == b) = true by simpa using h]; exact h1 h
  · rw [show (a == b) = false by simpa using h]; exact h2 h
theorem c_lt {a b : Int} {m : Mm} {K : Bool → Prop} (h1 : a < b → K true) (h2 : ¬ a < b → K false) : cmpW .lt (.int a) (.int b) m K := by
  show K (decide (a < b))
  by_cases h : a < b
  · rw [decide_eq_true h]; exact h1 h
  · rw [decide_eq_false h]; exact h2 h
theorem c_gt {a b : Int} {m : Mm} {K : Bool → Prop} (h1 : b < a → K true) (h2 : ¬ b < a → K false) : cmpW .gt (.int a) (.int b) m K := c_lt (m := m) h1 h2
theorem c_ge {a b : Int} {m : Mm} {K : Bool → Prop} (h1 : b ≤ a → K true) (h2 : ¬ b ≤ a → K false) : cmpW .ge (.int a) (.int b) m K := by
  show K (decide (b ≤ a))
  by_cases h : b ≤ a
  · rw [decide_eq_true h]; exact h1 h
  · rw [decide_eq_false h]; exact h2 h
theorem at_cells {cells : List Int} {i : Int} (h0 : 0 ≤ i) (h : i < cells.length) : ∃ cell, L2.atI (cells.map D.int) i = some (.int cell) := by
  have hl : i.toNat < cells.length := by omega
  refine ⟨cells[i.toNat], ?_⟩
  have e : L2.ixN (cells.map D.int).length i = some i.toNat := by
    unfold L2.ixN
    rw [List.length_map]
    first
      | (rw [if_pos h0, if_pos hl])
      | (simp [h0, hl]; done)
      | (simp [h0]; omega)
  unfold L2.atI
  rw [e]
  simp [hl]
theorem bx_put {m : Mm} {b : Addr} {c : Nat} {cells : List Int} {r n at_ sm sd : Int} {o : MO} (ho : o = .lst [.int r, .int n, .int at_, .int sm, .int sd, .lst (cells.map D.int)]) (h1 : 0 ≤ at_) (h2 : 0 ≤ sm) (h3 : sm ≤ c) (h4 : 0 ≤ sd) (h5 : sd < 2147483647) : Bx (m.put b o) b c cells :=
  ⟨r, n, at_, sm, sd, by rw [put_same, ho], h1, h2, h3, h4, h5⟩
theorem draw_spec {k : Nat} {b : Addr} {many : Int} {c : Nat} {cells : List Int} {m : Mm} {Q : Kd} {X : Kx} (hb : Bx m b c cells) (hm : 0 < many ∧ many < 2 ^ 62) (hc : c < 2 ^ 60)
    (q : ∀ d m', 0 ≤ d → d < many → Bx m' b (c + 1) cells → (∀ a, a ≠ b → m' a = m a) → Q (.int d) m') : tab.wC (k + 2) "_law_draw" [.ref b, .int many] m Q X := by
  refine run (fd := f_law_draw) (δ := [some (.ref b), some (.int many), none, none]) (by rfl) rfl rfl ?_
  unfold f_law_draw
  dsimp only
  refine cut (fun δ1 m1 => ∃ v, δ1 = [some (.ref b), some (.int many), v, none] ∧ Bx m1 b c cells ∧ ∀ a, a ≠ b → m1 a = m a) (fun K hK => ?_) (fun δ1 m1 hP => ?_)
  · have hb0 := hb
    obtain ⟨r, n, at_, sm, sd, hb, h1, h2, h3, h4, h5⟩ := hb
    dsimp only [wSs, wS, wE, wAs, wT, wTAnd, wTOr]
    have done : K [some (.ref b), some (.int many), none, none] m := hK _ _ ⟨none, rfl, hb0, fun _ _ => rfl⟩
    refine ⟨_, rfl, idx_ref hb rfl (c_eq (fun hn => ?_) fun hn => done)⟩
    refine ⟨_, rfl, idx_ref hb rfl ⟨_, rfl, idx_ref hb rfl ⟨_, rfl, c_lt (fun hlt => ?_) fun hlt => done⟩⟩⟩
    obtain ⟨cell, hat⟩ := at_cells h1 (by simpa using hlt)
    refine ⟨_, rfl, idx_ref hb rfl ⟨_, rfl, idx_ref hb rfl ⟨_, _, rfl, hat, ?_⟩⟩⟩
    refine ⟨_, rfl, idx_ref hb rfl ⟨_, rfl, b, _, _, _, rfl, hb, rfl, rfl, ?_⟩⟩
    refine ⟨_, rfl, idx_ref put_same rfl ⟨mulOk ⟨h4, by omega⟩ (by decide +kernel), _, rfl, ?_⟩⟩
    refine ⟨by decide, _, rfl, b, _, _, _, rfl, put_same, rfl, rfl, ?_⟩
    rw [put_put]
    generalize hz : (sd * 31 + cell) % 2147483647 = sd2
    have e1 : 0 ≤ sd2 := by rw [← hz]; exact Int.emod_nonneg _ (by decide)
    have e2 : sd2 < 2147483647 := by rw [← hz]; exact Int.emod_lt_of_pos _ (by decide)
    refine ⟨_, rfl, ?_⟩
    have fr : ∀ o, ∀ a, a ≠ b → (m.put b o) a = m a := fun o a ha => put_ne ha
    refine ⟨⟨by decide, by decide, by decide⟩, c_ge (fun hge => ?_) fun hge => ?_⟩
    · refine ⟨_, rfl, ⟨by decide, by decide, by decide⟩, _, rfl, b, _, _, _, rfl, put_same, rfl, rfl, _, rfl, b, _, _, _, rfl, put_same, rfl, rfl, ?_⟩
      rw [put_put, put_put]
      exact hK _ _ ⟨_, rfl, bx_put rfl (by omega) h2 h3 e1 e2, fr _⟩
    · exact hK _ _ ⟨_, rfl, bx_put rfl (by omega) h2 h3 e1 e2, fr _⟩
  · obtain ⟨v, rfl, hb, hfr⟩ := hP
    obtain ⟨r, n, at_, sm, sd, hb, h1, h2, h3, h4, h5⟩ := hb
    refine cut (fun δ2 m2 => ∃ v w, δ2 = [some (.ref b), some (.int many), v, w] ∧ m2 = m1) (fun K hK => ?_) (fun δ2 m2 hP => ?_)
    · dsimp only [wSs, wS, wE, wAs, wT, wTAnd, wTOr]
      have done : K [some (.ref b), some (.int many), v, none] m1 := hK _ _ ⟨_, _, rfl, rfl⟩
      refine ⟨_, rfl, idx_ref hb rfl (c_gt (fun hn => ?_) fun hn => done)⟩
      refine ⟨_, rfl, idx_ref hb rfl (c_gt (fun hr => ?_) fun hn => done)⟩
      refine ⟨_, rfl, idx_ref hb rfl ⟨_, rfl, hm.1, ?_⟩⟩
      refine ⟨_, rfl, idx_ref hb rfl ⟨_, rfl, ⟨hm.1, by have := log_small ⟨by omega, hm.2⟩; omega⟩, _, rfl, b, _, _, _, rfl, hb, rfl, rfl, ?_⟩⟩
      refine ⟨_, rfl, idx_ref put_same rfl ⟨_, rfl, b, _, _, _, rfl, put_same, rfl, rfl, _, rfl, ?_⟩⟩
      rw [put_put]
      refine same (q _ _ (Int.emod_nonneg _ (by omega)) (Int.emod_lt_of_pos _ hm.1) (bx_put rfl h1 h2 (by omega) h4 h5) fun a ha => ?_)
      rw [put_ne ha, hfr a ha]
    · obtain ⟨v, w, rfl, rfl⟩ := hP
      dsimp only [wSs, wS, wE, wAs, wT, wTAnd, wTOr]
      refine ⟨_, rfl, b, _, _, _, rfl, hb, rfl, rfl, _, rfl, idx_ref put_same rfl ⟨_, rfl, b, _, _, _, rfl, put_same, rfl, rfl, ?_⟩⟩
      refine ⟨_, rfl, idx_ref put_same rfl ⟨_, rfl, idx_ref put_same rfl ?_⟩⟩
      rw [put_put]
      refine mix_spec (k := k) ⟨h4, by omega⟩ ⟨by omega, by omega⟩ fun z hz1 hz2 => ?_
      refine ⟨_, rfl, hm.1, ?_⟩
      refine same (q _ _ (Int.emod_nonneg _ (by omega)) (Int.emod_lt_of_pos _ hm.1) (bx_put rfl h1 (by omega) (by push_cast; omega) h4 h5) fun a ha => ?_)
      rw [put_ne ha, hfr a ha]
end K00
namespace K00
open PySem PySem.Spec PyProof.Rows Ab
theorem lcL_map {g : Mm → Prop} {turn : D → Mm → (Option D → Mm → Prop) → Prop} {f : D → D} {m : Mm} {Q : List D → Mm → Prop} (hg : g m) : ∀ {l acc : List D}, (∀ d ∈ l, ∀ K : Option D → Mm → Prop, K (some (f d)) m → turn d m K) → acc.length + l.length ≤ sizeLine → Q (acc ++ l.map f) m → lcL g turn l acc m Q
  | [], acc, _, _, q => ⟨hg, by simpa using q⟩
  | d :: r, acc, h, hz, q => by
    refine ⟨hg, h d (List.mem_cons_self ..) _ ⟨by simp at hz; omega, ?_⟩⟩
    exact lcL_map hg (fun d hd => h d (List.mem_cons_of_mem _ hd)) (by simp at hz ⊢; omega) (by simpa using q)
theorem box_spec {k : Nat} {cells : List Int} {at_ : Int} {m : Mm} {Q : Kd} {X : Kx} (hz : cells.length ≤ 1000) (h : 0 ≤ at_ ∧ at_ < 1000) (q : ∀ b m', m b = none → Bx m' b 0 cells → (∀ a, a ≠ b → m' a = m a) → Q (.ref b) m') : tab.wC (k + 1) "_law_box" [.lst (cells.map D.int), .int at_] m Q X := by
  refine run (fd := f_law_box) (δ := [some (.lst (cells.map D.int)), some (.int at_), none]) (by rfl) rfl rfl ?_
  unfold f_law_box
  dsimp only [wSs, wS, wE, wAs, wI]
  refine ⟨_, rfl, _, rfl, rfl, _, rfl, ?_⟩
  refine lcL_map (f := fun d => d) trivial (fun d hd K hK => ?_) (by rw [List.length_map, sizeLine_eq]; simp; omega) ?_
  · obtain ⟨i, _, rfl⟩ := List.mem_map.mp hd
    refine ⟨_, rfl, hK⟩
  · rw [if_pos rfl]
    refine ⟨by rw [sizeLine_eq]; show 6 ≤ 16777216; decide, fun b hb => same (q b _ hb ⟨0, 0, at_, 0, at_, ?_, h.1, by decide, by simp, h.1, by omega⟩ fun a ha => put_ne ha)⟩
    rw [put_same]
    simp
/-! ### alike -/
theorem c_ne {a b : Int} {m : Mm} {K : Bool → Prop} (h1 : a ≠ b → K true) (h2 : a = b → K false) : cmpW .ne (.int a) (.int b) m K := by
  refine ⟨rfl, ?_⟩
  show K (!(a == b))
  by_cases h : a = b
  · rw [show (a == b) = true by simpa using h]; exact h2 h
  · rw [show (a == b) = false by simpa using h]; exact h1 h
inductive Leaf : D → Prop
  | int (i : Int) : Leaf (.int i)
  | str (x : Str) : Leaf (.str x)
theorem alike_leaf {k : Nat} {d : D} {m : Mm} {Q : Kd} {X : Kx} (hd : Leaf d) (q : Q (.bl true) m) : tab.wC (k + 1) "_law_alike" [d, d] m Q X := by
  refine run (fd := f_law_alike) (δ := [some d, some d, none]) (by rfl) rfl rfl ?_
  unfold f_law_alike
  cases hd with
  | int i =>
    dsimp only [wSs, wS, wE, wAs, wT, wTAnd, wAnd]
    refine ⟨_, rfl, false, rfl, ?_⟩
    refine ⟨false, rfl, ?_⟩
    refine ⟨_, rfl, ?_⟩
    refine ⟨_, rfl, false, rfl, ?_⟩
    refine ⟨_, rfl, false, rfl, ?_⟩
    refine ⟨_, rfl, true, rfl, true, rfl, ?_⟩
    refine ⟨_, rfl, false, rfl, false, rfl, true, rfl, ?_⟩
    refine ⟨_, rfl, _, rfl, c_eq (fun _ => same q) fun h => absurd rfl h⟩
  | str x =>
    dsimp only [wSs, wS, wE, wAs, wT, wTAnd, wAnd]
    refine ⟨_, rfl, false, rfl, ?_⟩
    refine ⟨false, rfl, ?_⟩
    refine ⟨_, rfl, ?_⟩
    refine ⟨_, rfl, false, rfl, ?_⟩
    refine ⟨_, rfl, true, rfl, ?_⟩
    refine ⟨_, rfl, true, rfl, true, rfl, ?_⟩
    refine ⟨_, rfl, _, rfl, rfl, ?_⟩
    have e : D.beq (.str x) (.str x) = true := by show (x == x) = true; simp
    show ∃ m'', m''.Sub m ∧ Q (.bl (D.beq (.str x) (.str x))) m''
    rw [e]
    exact same q
theorem alike_tup {k : Nat} {l : List D} {m : Mm} {Q : Kd} {X : Kx} (hl : ∀ d ∈ l, Leaf d) (hz : l.length < 1000) (q : Q (.bl true) m) : tab.wC (k + 2) "_law_alike" [.tup l, .tup l] m Q X := by
  refine run (fd := f_law_alike) (δ := [some (.tup l), some (.tup l), none]) (by rfl) rfl rfl ?_
  unfold f_law_alike
  dsimp only
  dsimp only [wSs, wS, wE, wAs, wT, wTAnd, wTOr, wI]
  refine ⟨_, rfl, true, rfl, ?_⟩
  refine ⟨_, rfl, true, rfl, _, rfl, true, rfl, rfl, ?_⟩
  refine ⟨_, rfl, false, rfl, _, rfl, false, rfl, rfl, ?_⟩
  refine ⟨_, rfl, _, rfl, _, rfl, _, rfl, c_ne (fun h => absurd rfl h) fun _ => ?_⟩
  refine ⟨rfl, _, rfl, _, rfl, _, rfl, by omega, by omega, ?_⟩
  have e : ((l.length : Int)).toNat = l.length := by omega
  rw [e]
  have loop : ∀ (r : List Nat) (v : Option D), (∀ i ∈ r, i < l.length) → forL (fun _ => True) (fun d F' δ' m' => tgW (cc (k + 1)) (.one 2) d δ' fun δ2 => wT (cc (k + 1)) (fun x m' => F'.ex x δ2 m') (.notE (.call "_law_alike" (.cons (.idx (.var 0) (.var 2)) (.cons (.idx (.var 1) (.var 2)) .nil)))) δ2 m' fun b m1 => if b = true then F'.rt (.bl false) m1 else F'.nx δ2 m1)
      (r.map fun (k : Nat) => D.int (k : Int)) ⟨fun _ m' => ∃ m'', m''.Sub m' ∧ Q (.bl true) m'', fun d m' => ∃ m'', m''.Sub m' ∧ Q d m'', fun _ _ => False, fun _ _ => False, fun x _ m' => ∃ m'', m''.Sub m' ∧ X x m''⟩ [some (.tup l), some (.tup l), v] m := by
    intro r
    induction r with
    | nil => exact fun v _ => ⟨trivial, same q⟩
    | cons i r ih =>
      intro v hi
      have hil := hi i (List.mem_cons_self ..)
      have hat : L2.atI l (i : Int) = some l[i] := by
        unfold L2.atI L2.ixN
        simp [hil]
      refine ⟨trivial, ?_⟩
      dsimp only [tgW, wT, wAs, wE]
      refine ⟨_, rfl, _, rfl, _, _, rfl, hat, _, rfl, _, rfl, _, _, rfl, hat, ?_⟩
      refine alike_leaf (k := k) (hl _ (List.getElem_mem hil)) ⟨true, rfl, ?_⟩
      exact ih _ fun j hj => hi j (List.mem_cons_of_mem _ hj)
  exact loop (List.range l.length) none fun i hi => List.mem_range.mp hi
/-! ### the classes -/
def cls : Fin 8 → Str
  | 0 => "BadValue" | 1 => "BadProgram" | 2 => "BadRecord" | 3 => "BadPaper" | 4 => "BadLine" | 5 => "TooMany" | 6 => "NothingThere" | 7 => "Unlike"
def arg (w : Int) (x : Str) : Fin 8 → D
  | 5 => .str x | 6 => .str x | 7 => .str x | _ => .int w
theorem sub_cls : ∀ i j : Fin 8, tab.sub (cls i) (cls j) = some (decide (i = j)) := by decide +kernel
theorem sub_top : ∀ i : Fin 8, tab.sub (cls i) "TraceError" = some true := by decide +kernel
theorem bsub_exc : ∀ i : Fin 8, tab.bsub (cls i) "Exception" = some true ∧ tab.bsub (cls i) "ValueError" = some false := by decide +kernel
theorem isi_own {k : Nat} {i j : Fin 8} {x : Str} {d : D} {m : Mm} {K : Bool → Prop} (hx : x = cls j) (h : K (decide (i = j))) : isiW (cc k) (.exc (cls i) d) m [.cls x] K := by
  subst hx
  refine ⟨decide (i = j), sub_cls i j, ?_⟩
  cases hd : decide (i = j) with
  | true => rw [hd] at h; exact h
  | false => rw [hd] at h; exact h
theorem isi_top {k : Nat} {i : Fin 8} {d : D} {m : Mm} {K : Bool → Prop} (h : K true) : isiW (cc k) (.exc (cls i) d) m [.cls "TraceError"] K := ⟨true, sub_top i, h⟩
theorem isi_exc {k : Nat} {i : Fin 8} {d : D} {m : Mm} {K : Bool → Prop} (h : K true) : isiW (cc k) (.exc (cls i) d) m [.bcls "Exception"] K := ⟨true, (bsub_exc i).1, h⟩
theorem isi_val {k : Nat} {i : Fin 8} {d : D} {m : Mm} {K : Bool → Prop} (h : K false) : isiW (cc k) (.exc (cls i) d) m [.bcls "ValueError"] K := ⟨false, (bsub_exc i).2, h⟩
def kinds (i : Fin 8) : List D := [.bl (decide (i = 0)), .bl (decide (i = 1)), .bl (decide (i = 2)), .bl (decide (i = 3)), .bl (decide (i = 4)), .bl (decide (i = 5)), .bl (decide (i = 6)), .bl (decide (i = 7))]
theorem kinds_at (i : Fin 8) : ∀ j : Fin 8, L2.atI (kinds i) (j.val : Int) = some (.bl (decide (i = j)))
  | 0 => rfl | 1 => rfl | 2 => rfl | 3 => rfl | 4 => rfl | 5 => rfl | 6 => rfl | 7 => rfl
theorem alone_spec {k : Nat} {d : D} {m : Mm} {Q : Kd} {X : Kx} (i : Fin 8) (q : Q (.bl true) m) : tab.wC (k + 1) "_law_alone" [.exc (cls i) d, .int (i.val : Int)] m Q X := by
  refine run (fd := f_law_alone) (δ := [some (.exc (cls i) d), some (.int (i.val : Int)), none, none]) (by rfl) rfl rfl ?_
  unfold f_law_alone
  dsimp only
  dsimp only [wSs, wS, wE, wAs, wT, wTAnd, wTOr, wI, wAnd]
  refine ⟨_, rfl, isi_own (j := 0) rfl ⟨_, rfl, isi_own (j := 1) rfl ⟨_, rfl, isi_own (j := 2) rfl ⟨_, rfl, isi_own (j := 3) rfl ⟨by rw [sizeLine_eq]; show 4 ≤ 16777216; decide, ?_⟩⟩⟩⟩⟩
  refine ⟨_, rfl, _, rfl, isi_own (j := 4) rfl ⟨_, rfl, isi_own (j := 5) rfl ⟨_, rfl, isi_own (j := 6) rfl ⟨_, rfl, isi_own (j := 7) rfl ⟨by rw [sizeLine_eq]; show 4 ≤ 16777216; decide, ?_⟩⟩⟩⟩⟩
  refine ⟨_, _, rfl, rfl, by rw [sizeLine_eq]; show 8 ≤ 16777216; decide, rfl, 8, rfl, by omega, by omega, ?_⟩
  have loop : ∀ (r : List Nat) (v : Option D), (∀ j ∈ r, j < 8) → forL (fun _ => True) (fun d' F' δ' m' => tgW (cc k) (.one 3) d' δ' fun δ2 => wT (cc k) (fun x m' => F'.ex x δ2 m') (.cmp .ne (.idx (.var 2) (.var 3)) (.cmp .eq (.var 3) (.var 1))) δ2 m' fun b m1 => if b = true then F'.rt (.bl false) m1 else F'.nx δ2 m1)
      (r.map fun (k : Nat) => D.int (k : Int)) ⟨fun δ1 m1 => wSs (cc k) (.cons (.ret (.andE (.cons (.isi (.var 0) [.cls "TraceError"]) (.cons (.isi (.var 0) [.bcls "Exception"]) (.cons (.notE (.isi (.var 0) [.bcls "ValueError"])) .nil))))) .nil) ⟨fun _ m' => ∃ m'', m''.Sub m' ∧ Q .non m'', fun d m' => ∃ m'', m''.Sub m' ∧ Q d m'', fun _ _ => False, fun _ _ => False, fun x _ m' => ∃ m'', m''.Sub m' ∧ X x m''⟩ δ1 m1, fun d m' => ∃ m'', m''.Sub m' ∧ Q d m'', fun _ _ => False, fun _ _ => False, fun x _ m' => ∃ m'', m''.Sub m' ∧ X x m''⟩ [some (.exc (cls i) d), some (.int (i.val : Int)), some (.lst (kinds i)), v] m := by
    intro r
    induction r with
    | nil =>
      intro v _
      refine ⟨trivial, ?_⟩
      dsimp only [wSs, wS, wE, wAnd]
      exact ⟨_, rfl, isi_top ⟨true, rfl, _, rfl, isi_exc ⟨true, rfl, _, rfl, isi_val ⟨false, rfl, same q⟩⟩⟩⟩
    | cons j r ih =>
      intro v hj
      have hj8 := hj j (List.mem_cons_self ..)
      refine ⟨trivial, ?_⟩
      dsimp only [tgW, wT, wAs, wE]
      refine ⟨_, rfl, _, rfl, _, _, rfl, kinds_at i ⟨j, hj8⟩, _, rfl, _, rfl, c_eq (fun h => ?_) fun h => ?_⟩
      · have e : i = ⟨j, hj8⟩ := _root_.Fin.ext (show i.val = j by omega)
        rw [decide_eq_true e]
        exact ⟨rfl, ih _ fun j hj' => hj j (List.mem_cons_of_mem _ hj')⟩
      · have e : ¬ i = ⟨j, hj8⟩ := fun z => h (by rw [z])
        rw [decide_eq_false e]
        exact ⟨rfl, ih _ fun j hj' => hj j (List.mem_cons_of_mem _ hj')⟩
  exact loop (List.range 8) none fun j hj => List.mem_range.mp hj

def isNum (i : Fin 8) : Prop := i.val < 5
theorem att_num : ∀ i : Fin 8, i.val < 5 → tab.att (cls i) = some "at" := by decide +kernel
theorem att_word : tab.att "TooMany" = some "word" ∧ tab.att "NothingThere" = some "name" ∧ tab.att "Unlike" = some "name" := by decide +kernel
def excs (d : D) : List D := [.exc (cls 0) d, .exc (cls 1) d, .exc (cls 2) d, .exc (cls 3) d, .exc (cls 4) d]
theorem excs_at (d : D) : ∀ j : Fin 8, j.val < 5 → L2.atI (excs d) (j.val : Int) = some (.exc (cls j) d)
  | 0, _ => rfl | 1, _ => rfl | 2, _ => rfl | 3, _ => rfl | 4, _ => rfl
  | 5, h => absurd h (by decide) | 6, h => absurd h (by decide) | 7, h => absurd h (by decide)
theorem numbered_spec {k : Nat} {a o : Int} {m : Mm} {Q : Kd} {X : Kx} (q : Q (.bl true) m) : tab.wC (k + 3) "_law_numbered" [.int a, .int o] m Q X := by
  refine run (fd := f_law_numbered) (δ := [some (.int a), some (.int o), none, none, none]) (by rfl) rfl rfl ?_
  unfold f_law_numbered
  dsimp only
  dsimp only [wSs, wS, wE, wAs, wT, wTAnd, wTOr, wI, wAnd]
  refine ⟨_, rfl, _, rfl, _, rfl, _, rfl, _, rfl, by rw [sizeLine_eq]; show 5 ≤ 16777216; decide, ?_⟩
  refine ⟨_, rfl, _, rfl, _, rfl, _, rfl, _, rfl, by rw [sizeLine_eq]; show 5 ≤ 16777216; decide, ?_⟩
  refine ⟨rfl, 5, rfl, by omega, by omega, ?_⟩
  have loop : ∀ (r : List Nat) (v : Option D), (∀ j ∈ r, j < 5) → forL (fun _ => True) (fun d' F' δ' m' => tgW (cc (k + 2)) (.one 4) d' δ' fun δ2 => wT (cc (k + 2)) (fun x m' => F'.ex x δ2 m') (.orE (.cons (.notE (.call "_law_alike" (.cons (.tup (.cons (.fld (.idx (.var 2) (.var 4)) "at") (.cons (.fld (.idx (.var 3) (.var 4)) "at") .nil))) (.cons (.tup (.cons (.var 0) (.cons (.var 1) .nil))) .nil)))) (.cons (.notE (.call "_law_alone" (.cons (.idx (.var 2) (.var 4)) (.cons (.var 4) .nil)))) .nil))) δ2 m' fun b m1 => if b = true then F'.rt (.bl false) m1 else F'.nx δ2 m1)
      (r.map fun (k : Nat) => D.int (k : Int)) ⟨fun _ m1 => ∃ m'', m''.Sub m1 ∧ Q (.bl true) m'', fun d m' => ∃ m'', m''.Sub m' ∧ Q d m'', fun _ _ => False, fun _ _ => False, fun x _ m' => ∃ m'', m''.Sub m' ∧ X x m''⟩ [some (.int a), some (.int o), some (.lst (excs (.int a))), some (.lst (excs (.int o))), v] m := by
    intro r
    induction r with
    | nil => exact fun v _ => ⟨trivial, same q⟩
    | cons j r ih =>
      intro v hj
      have hj5 := hj j (List.mem_cons_self ..)
      have att : (cc (k + 2)).att (cls ⟨j, by omega⟩) = some "at" := att_num ⟨j, by omega⟩ hj5
      refine ⟨trivial, ?_⟩
      dsimp only [tgW, wT, wTOr, wAs, wE]
      refine ⟨_, rfl, _, rfl, _, _, rfl, excs_at (.int a) ⟨j, by omega⟩ hj5, att, _, rfl, _, rfl, _, _, rfl, excs_at (.int o) ⟨j, by omega⟩ hj5, att, by rw [sizeLine_eq]; show 2 ≤ 16777216; decide, _, rfl, _, rfl, by rw [sizeLine_eq]; show 2 ≤ 16777216; decide, ?_⟩
      refine alike_tup (k := k) (fun d hd => ?_) (by simp) ⟨true, rfl, ?_⟩
      · simp only [List.mem_cons, List.not_mem_nil, or_false] at hd
        rcases hd with rfl | rfl
        · exact .int _
        · exact .int _
      · refine ⟨_, rfl, _, rfl, _, _, rfl, excs_at (.int a) ⟨j, by omega⟩ hj5, _, rfl, ?_⟩
        refine alone_spec (k := k + 1) ⟨j, by omega⟩ ⟨true, rfl, ?_⟩
        exact ih _ fun j hj' => hj j (List.mem_cons_of_mem _ hj')
  exact loop (List.range 5) none fun j hj => List.mem_range.mp hj
theorem leaf3 {x : Str} : ∀ d ∈ [D.str x, .str x, .str x], Leaf d := fun d hd => by
  simp only [List.mem_cons, List.not_mem_nil, or_false, or_self] at hd
  subst hd
  exact .str _
theorem worded_spec {k : Nat} {a o : Str} {m : Mm} {Q : Kd} {X : Kx} (q : Q (.bl true) m) : tab.wC (k + 3) "_law_worded" [.str a, .str o] m Q X := by
  refine run (fd := f_law_worded) (δ := [some (.str a), some (.str o), none, none, none]) (by rfl) rfl rfl ?_
  unfold f_law_worded
  dsimp only
  dsimp only [wSs, wS, wE, wAs, wT, wTAnd, wTOr, wI, wAnd]
  have z2 : ([D.non, .non] : List D).length ≤ sizeLine := by rw [sizeLine_eq]; show 2 ≤ 16777216; decide
  have z3 : ([D.non, .non, .non] : List D).length ≤ sizeLine := by rw [sizeLine_eq]; show 3 ≤ 16777216; decide
  obtain ⟨a1, a2, a3⟩ := att_word
  refine ⟨_, rfl, _, rfl, z2, _, rfl, _, rfl, z2, _, rfl, _, rfl, z2, ?_⟩
  refine ⟨_, rfl, _, _, rfl, rfl, a1, _, rfl, _, _, rfl, rfl, a2, _, rfl, _, _, rfl, rfl, a3, z3, _, rfl, _, rfl, _, rfl, z3, alike_tup (k := k) leaf3 (by simp) ⟨true, rfl, ?_⟩⟩
  refine ⟨_, rfl, _, _, rfl, rfl, a1, _, rfl, _, _, rfl, rfl, a2, _, rfl, _, _, rfl, rfl, a3, z3, _, rfl, _, rfl, _, rfl, z3, alike_tup (k := k) leaf3 (by simp) ⟨true, rfl, ?_⟩⟩
  refine ⟨_, rfl, _, _, rfl, rfl, alone_spec (k := k + 1) 5 ⟨true, rfl, ?_⟩⟩
  refine ⟨_, rfl, _, _, rfl, rfl, alone_spec (k := k + 1) 6 ⟨true, rfl, ?_⟩⟩
  exact ⟨_, rfl, _, _, rfl, rfl, alone_spec (k := k + 1) 7 (same q)⟩
end K00
namespace K00
open PySem PySem.Spec PyProof.Rows Ab
theorem Bx.mono {m : Mm} {b : Addr} {c c' : Nat} {cells : List Int} (h : Bx m b c cells) (hc : c ≤ c') : Bx m b c' cells := by
  obtain ⟨r, n, at_, sm, sd, h0, h1, h2, h3, h4, h5⟩ := h
  exact ⟨r, n, at_, sm, sd, h0, h1, h2, by omega, h4, h5⟩
theorem Bx.fr {m m' : Mm} {b : Addr} {c : Nat} {cells : List Int} (h : Bx m b c cells) (e : m' b = m b) : Bx m' b c cells := by
  obtain ⟨r, n, at_, sm, sd, h0, h1, h2, h3, h4, h5⟩ := h
  exact ⟨r, n, at_, sm, sd, e.trans h0, h1, h2, h3, h4, h5⟩
theorem raise_spec {k : Nat} {w : Int} {x : Str} {m : Mm} {Q : Kd} {X : Kx} (i : Fin 8) (q : X (cls i, arg w x i) m) : tab.wC (k + 1) "_law_raise" [.int (i.val : Int), .int w, .str x] m Q X := by
  refine run (fd := f_law_raise) (δ := [some (.int (i.val : Int)), some (.int w), some (.str x)]) (by rfl) rfl rfl ?_
  unfold f_law_raise
  dsimp only
  dsimp only [wSs, wS, wE, wAs, wT]
  have no : ∀ {P : Prop} {j : Nat} {z : Int}, (j : Int) = z → (j : Int) ≠ z → P := fun h k => absurd h k
  match i, q with
  | 0, q => exact ⟨_, rfl, c_eq (fun _ => ⟨rfl, _, rfl, same q⟩) fun h => absurd rfl h⟩
  | 1, q => exact ⟨_, rfl, c_eq (fun h => absurd h (by decide)) fun _ => ⟨_, rfl, c_eq (fun _ => ⟨rfl, _, rfl, same q⟩) fun h => absurd rfl h⟩⟩
  | 2, q => exact ⟨_, rfl, c_eq (fun h => absurd h (by decide)) fun _ => ⟨_, rfl, c_eq (fun h => absurd h (by decide)) fun _ => ⟨_, rfl, c_eq (fun _ => ⟨rfl, _, rfl, same q⟩) fun h => absurd rfl h⟩⟩⟩
  | 3, q => exact ⟨_, rfl, c_eq (fun h => absurd h (by decide)) fun _ => ⟨_, rfl, c_eq (fun h => absurd h (by decide)) fun _ => ⟨_, rfl, c_eq (fun h => absurd h (by decide)) fun _ => ⟨_, rfl, c_eq (fun _ => ⟨rfl, _, rfl, same q⟩) fun h => absurd rfl h⟩⟩⟩⟩
  | 4, q => exact ⟨_, rfl, c_eq (fun h => absurd h (by decide)) fun _ => ⟨_, rfl, c_eq (fun h => absurd h (by decide)) fun _ => ⟨_, rfl, c_eq (fun h => absurd h (by decide)) fun _ => ⟨_, rfl, c_eq (fun h => absurd h (by decide)) fun _ => ⟨_, rfl, c_eq (fun _ => ⟨rfl, _, rfl, same q⟩) fun h => absurd rfl h⟩⟩⟩⟩⟩
  | 5, q => exact ⟨_, rfl, c_eq (fun h => absurd h (by decide)) fun _ => ⟨_, rfl, c_eq (fun h => absurd h (by decide)) fun _ => ⟨_, rfl, c_eq (fun h => absurd h (by decide)) fun _ => ⟨_, rfl, c_eq (fun h => absurd h (by decide)) fun _ => ⟨_, rfl, c_eq (fun h => absurd h (by decide)) fun _ => ⟨_, rfl, c_eq (fun _ => ⟨rfl, _, rfl, same q⟩) fun h => absurd rfl h⟩⟩⟩⟩⟩⟩
  | 6, q => exact ⟨_, rfl, c_eq (fun h => absurd h (by decide)) fun _ => ⟨_, rfl, c_eq (fun h => absurd h (by decide)) fun _ => ⟨_, rfl, c_eq (fun h => absurd h (by decide)) fun _ => ⟨_, rfl, c_eq (fun h => absurd h (by decide)) fun _ => ⟨_, rfl, c_eq (fun h => absurd h (by decide)) fun _ => ⟨_, rfl, c_eq (fun h => absurd h (by decide)) fun _ => ⟨_, rfl, c_eq (fun _ => ⟨rfl, _, rfl, same q⟩) fun h => absurd rfl h⟩⟩⟩⟩⟩⟩⟩
  | 7, q => exact ⟨_, rfl, c_eq (fun h => absurd h (by decide)) fun _ => ⟨_, rfl, c_eq (fun h => absurd h (by decide)) fun _ => ⟨_, rfl, c_eq (fun h => absurd h (by decide)) fun _ => ⟨_, rfl, c_eq (fun h => absurd h (by decide)) fun _ => ⟨_, rfl, c_eq (fun h => absurd h (by decide)) fun _ => ⟨_, rfl, c_eq (fun h => absurd h (by decide)) fun _ => ⟨_, rfl, c_eq (fun h => absurd h (by decide)) fun _ => ⟨rfl, _, rfl, same q⟩⟩⟩⟩⟩⟩⟩⟩
theorem beneath_spec {k : Nat} {w : Int} {x : Str} {m : Mm} {Q : Kd} {X : Kx} (i : Fin 8) (q : Q (.bl true) m) : tab.wC (k + 2) "_law_beneath" [.int (i.val : Int), .int w, .str x] m Q X := by
  refine run (fd := f_law_beneath) (δ := [some (.int (i.val : Int)), some (.int w), some (.str x)]) (by rfl) rfl rfl ?_
  unfold f_law_beneath
  dsimp only
  dsimp only [wSs, wS, wE, wAs, wT, wCl]
  refine ⟨rfl, _, rfl, _, rfl, _, rfl, raise_spec (k := k) i ⟨true, sub_top i, fun a => same q⟩⟩
theorem clause_no {k : Nat} {i j : Fin 8} {x : Str} (hx : x = cls j) (h : i ≠ j) : (cc k).sub (cls i) x = some false := by
  subst hx
  have z := sub_cls i j
  rw [decide_eq_false h] at z
  exact z
theorem clause_yes {k : Nat} {i : Fin 8} {x : Str} (hx : x = cls i) : (cc k).sub (cls i) x = some true := by
  subst hx
  have z := sub_cls i i
  rw [decide_eq_true rfl] at z
  exact z
theorem caught_spec {k : Nat} {w : Int} {x : Str} {m : Mm} {Q : Kd} {X : Kx} (i : Fin 8) (q : Q (.tup [.int (i.val : Int), arg w x i]) m) : tab.wC (k + 2) "_law_caught" [.int (i.val : Int), .int w, .str x] m Q X := by
  refine run (fd := f_law_caught) (δ := [some (.int (i.val : Int)), some (.int w), some (.str x), none]) (by rfl) rfl rfl ?_
  unfold f_law_caught
  dsimp only
  dsimp only [wSs, wS, wE, wAs, wT, wCl]
  refine ⟨rfl, _, rfl, _, rfl, _, rfl, raise_spec (k := k) i ?_⟩
  have z2 : ([D.non, .non] : List D).length ≤ sizeLine := by rw [sizeLine_eq]; show 2 ≤ 16777216; decide
  obtain ⟨a1, a2, a3⟩ := att_word
  match i, q with
  | 7, q => exact ⟨true, clause_yes (k := k + 1) (i := 7) rfl, fun a => ⟨_, rfl, _, rfl, a3, z2, same q⟩⟩
  | 6, q => exact ⟨false, clause_no (k := k + 1) (i := 6) (j := 7) rfl (by decide), true, clause_yes (k := k + 1) (i := 6) rfl, fun a => ⟨_, rfl, _, rfl, a2, z2, same q⟩⟩
  | 5, q => exact ⟨false, clause_no (k := k + 1) (i := 5) (j := 7) rfl (by decide), false, clause_no (k := k + 1) (i := 5) (j := 6) rfl (by decide), true, clause_yes (k := k + 1) (i := 5) rfl, fun a => ⟨_, rfl, _, rfl, a1, z2, same q⟩⟩
  | 4, q => exact ⟨false, clause_no (k := k + 1) (i := 4) (j := 7) rfl (by decide), false, clause_no (k := k + 1) (i := 4) (j := 6) rfl (by decide), false, clause_no (k := k + 1) (i := 4) (j := 5) rfl (by decide), true, clause_yes (k := k + 1) (i := 4) rfl, fun a => ⟨_, rfl, _, rfl, att_num 4 (by decide), z2, same q⟩⟩
  | 3, q => exact ⟨false, clause_no (k := k + 1) (i := 3) (j := 7) rfl (by decide), false, clause_no (k := k + 1) (i := 3) (j := 6) rfl (by decide), false, clause_no (k := k + 1) (i := 3) (j := 5) rfl (by decide), false, clause_no (k := k + 1) (i := 3) (j := 4) rfl (by decide), true, clause_yes (k := k + 1) (i := 3) rfl, fun a => ⟨_, rfl, _, rfl, att_num 3 (by decide), z2, same q⟩⟩
  | 2, q => exact ⟨false, clause_no (k := k + 1) (i := 2) (j := 7) rfl (by decide), false, clause_no (k := k + 1) (i := 2) (j := 6) rfl (by decide), false, clause_no (k := k + 1) (i := 2) (j := 5) rfl (by decide), false, clause_no (k := k + 1) (i := 2) (j := 4) rfl (by decide), false, clause_no (k := k + 1) (i := 2) (j := 3) rfl (by decide), true, clause_yes (k := k + 1) (i := 2) rfl, fun a => ⟨_, rfl, _, rfl, att_num 2 (by decide), z2, same q⟩⟩
  | 1, q => exact ⟨false, clause_no (k := k + 1) (i := 1) (j := 7) rfl (by decide), false, clause_no (k := k + 1) (i := 1) (j := 6) rfl (by decide), false, clause_no (k := k + 1) (i := 1) (j := 5) rfl (by decide), false, clause_no (k := k + 1) (i := 1) (j := 4) rfl (by decide), false, clause_no (k := k + 1) (i := 1) (j := 3) rfl (by decide), false, clause_no (k := k + 1) (i := 1) (j := 2) rfl (by decide), true, clause_yes (k := k + 1) (i := 1) rfl, fun a => ⟨_, rfl, _, rfl, att_num 1 (by decide), z2, same q⟩⟩
  | 0, q => exact ⟨false, clause_no (k := k + 1) (i := 0) (j := 7) rfl (by decide), false, clause_no (k := k + 1) (i := 0) (j := 6) rfl (by decide), false, clause_no (k := k + 1) (i := 0) (j := 5) rfl (by decide), false, clause_no (k := k + 1) (i := 0) (j := 4) rfl (by decide), false, clause_no (k := k + 1) (i := 0) (j := 3) rfl (by decide), false, clause_no (k := k + 1) (i := 0) (j := 2) rfl (by decide), false, clause_no (k := k + 1) (i := 0) (j := 1) rfl (by decide), true, clause_yes (k := k + 1) (i := 0) rfl, fun a => ⟨_, rfl, _, rfl, att_num 0 (by decide), z2, same q⟩⟩

def signs : Str := "abcdefghijklmnopqrstuvwxyz 0123456789"
theorem signs_at {i : Int} (h : 0 ≤ i ∧ i < 37) : ∃ c, L2.atI signs.cps.toList i = some c := by
  have hl : signs.cps.toList.length = 37 := by decide +kernel
  have e : L2.ixN signs.cps.toList.length i = some i.toNat := by
    unfold L2.ixN
    rw [hl, if_pos h.1, if_pos (by omega)]
  unfold L2.atI
  rw [e]
  have hi : i.toNat < signs.cps.toList.length := by rw [hl]; omega
  exact ⟨_, List.getElem?_eq_getElem hi⟩
def words : List D := [.str "rows", .str "terms", .str "tokens", .str "sets", .str "key", .str "a1", .str "", .str "sold"]
theorem words_at {i : Int} (h : 0 ≤ i ∧ i < 8) : ∃ x, L2.atI words i = some (.str x) := by
  obtain ⟨n, rfl⟩ : ∃ n : Nat, i = n := ⟨i.toNat, by omega⟩
  have hn : n < 8 := by omega
  match n, hn with
  | 0, _ => exact ⟨_, rfl⟩ | 1, _ => exact ⟨_, rfl⟩ | 2, _ => exact ⟨_, rfl⟩ | 3, _ => exact ⟨_, rfl⟩
  | 4, _ => exact ⟨_, rfl⟩ | 5, _ => exact ⟨_, rfl⟩ | 6, _ => exact ⟨_, rfl⟩ | 7, _ => exact ⟨_, rfl⟩
theorem signs_len : signs.length ≤ sizeLine := by rw [sizeLine_eq]; decide +kernel
theorem text_loop {k : Nat} {b : Addr} {c0 : Nat} {cells : List Int} {m0 : Mm} {Qf : List D → Mm → Prop} (hc0 : c0 < 2 ^ 60) (fin : ∀ (ss : List Str) m', ss.length ≤ 8 → (∀ s ∈ ss, s.length = 1) → Bx m' b c0 cells → (∀ a, a ≠ b → m' a = m0 a) → Qf (ss.map D.str) m') :
    ∀ (r : List D) (acc : List Str) (m : Mm) (c : Nat), acc.length + r.length ≤ 8 → c + r.length ≤ c0 → (∀ s ∈ acc, s.length = 1) → Bx m b c cells → (∀ a, a ≠ b → m a = m0 a) →
      lcL (fun _ => True) (turnW (cc (k + 2)) [2] (.one 2) .nil (.idx (.var 1) (.call "_law_draw" (.cons (.var 0) (.cons (.int 37) .nil)))) [some (.ref b), some (.str signs), none]) r (acc.map D.str) m Qf
  | [], acc, m, c, h1, h2, h3, hb, hf => ⟨trivial, fin acc m (by simpa using h1) h3 (hb.mono (by simpa using h2)) hf⟩
  | d :: r, acc, m, c, h1, h2, h3, hb, hf => by
    simp only [List.length_cons] at h1 h2
    refine ⟨trivial, ?_⟩
    dsimp only [turnW, tgW, wTs, wE, wAs]
    rw [if_pos rfl]
    refine ⟨_, rfl, _, rfl, draw_spec (k := k) hb ⟨by decide, by decide⟩ (by omega) fun i m1 hi1 hi2 hb1 hf1 => ?_⟩
    obtain ⟨ch, hch⟩ := signs_at ⟨hi1, hi2⟩
    refine ⟨signs_len, ch, hch, by rw [List.length_map, sizeLine_eq]; omega, ?_⟩
    have z := text_loop (k := k) hc0 fin r (acc ++ [⟨#[ch]⟩]) m1 (c + 1) (by simp; omega) (by omega) (fun s hs => ?_) hb1 fun a ha => (hf1 a ha).trans (hf a ha)
    · rw [List.map_append] at z
      exact z
    · rcases List.mem_append.mp hs with h | h
      · exact h3 s h
      · rw [List.mem_singleton] at h
        subst h
        rfl
theorem strs_map : ∀ ss : List Str, strsOf (ss.map D.str) = some ss
  | [] => rfl
  | s :: r => by
    show (strsOf (r.map D.str)).map (s :: ·) = _
    rw [strs_map r]
    rfl
theorem sum_one : ∀ ss : List Str, (∀ s ∈ ss, s.length = 1) → (ss.map (·.length)).sum = ss.length
  | [], _ => rfl
  | s :: r, h => by
    rw [List.map_cons, List.sum_cons, h s (List.mem_cons_self ..), sum_one r fun s hs => h s (List.mem_cons_of_mem _ hs), List.length_cons]
    omega
theorem text_spec {k : Nat} {b : Addr} {c : Nat} {cells : List Int} {m : Mm} {Q : Kd} {X : Kx} (hb : Bx m b c cells) (hc : c + 10 < 2 ^ 60) (q : ∀ x m', Bx m' b (c + 10) cells → (∀ a, a ≠ b → m' a = m a) → Q (.str x) m') : tab.wC (k + 3) "_law_text" [.ref b] m Q X := by
  refine run (fd := f_law_text) (δ := [some (.ref b), none, none]) (by rfl) rfl rfl ?_
  unfold f_law_text
  dsimp only
  refine cut (fun δ1 m1 => δ1 = [some (.ref b), none, none] ∧ Bx m1 b (c + 1) cells ∧ ∀ a, a ≠ b → m1 a = m a) (fun K hK => ?_) (fun δ1 m1 hP => ?_)
  · dsimp only [wSs, wS, wE, wAs, wT]
    refine ⟨_, rfl, draw_spec (k := k) hb ⟨by decide, by decide⟩ (by omega) fun i m1 hi1 hi2 hb1 hf1 => c_eq (fun h => ?_) fun h => hK _ _ ⟨rfl, hb1, hf1⟩⟩
    refine ⟨by rw [sizeLine_eq]; show 8 ≤ 16777216; decide, _, rfl, draw_spec (k := k) hb1 ⟨by decide, by decide⟩ (by omega) fun j m2 hj1 hj2 hb2 hf2 => ?_⟩
    obtain ⟨x, hx⟩ := words_at ⟨hj1, hj2⟩
    exact ⟨_, _, rfl, hx, same (q x m2 (hb2.mono (by omega)) fun a ha => (hf2 a ha).trans (hf1 a ha))⟩
  · obtain ⟨rfl, hb1, hf1⟩ := hP
    dsimp only [wSs, wS, wE, wAs, wT, wI, tgW]
    refine ⟨⟨_, rfl⟩, rfl, _, rfl, draw_spec (k := k) hb1 ⟨by decide, by decide⟩ (by omega) fun i m2 hi1 hi2 hb2 hf2 => ?_⟩
    refine ⟨_, rfl, by omega, by omega, ?_⟩
    refine text_loop (k := k) (c0 := c + 10) (m0 := m) (by omega) (fun ss m3 h1 h2 h3 h4 => ?_) _ [] m2 (c + 2) (by simp; omega) (by simp; omega) (fun _ h => by cases h) hb2 fun a ha => (hf2 a ha).trans (hf1 a ha)
    rw [if_pos rfl]
    exact ⟨_, ss, rfl, strs_map ss, by rw [sum_one ss h2]; show ss.length + ss.length * 0 ≤ _; omega, same (q _ m3 h3 h4)⟩
theorem law (ns : List Int) (h : ns.length ≤ 63) : tab.wC 20 "law" [.lst (ns.map D.int)] (fun _ => none) (fun v _ => v = .bl true) (fun _ _ => False) := by
  refine run (k := 19) (fd := f_law) (δ := [some (.lst (ns.map D.int)), none, none, none, none, none, none]) (by rfl) rfl rfl ?_
  unfold f_law
  dsimp only
  dsimp only [wSs, wS, wE, wAs, wT, wTOr, wI]
  refine ⟨_, rfl, box_spec (k := 18) (cells := ns) (by omega) (by decide) fun b m1 hb0 hb1 hf1 => ?_⟩
  refine ⟨_, rfl, box_spec (k := 18) (cells := ns) (by omega) (by decide) fun f m2 hf0 hf1' hf2 => ?_⟩
  have hbf : b ≠ f := fun z => by
    subst z
    obtain ⟨_, _, _, _, _, e, _⟩ := hb1
    rw [e] at hf0
    cases hf0
  have hb2 := hb1.fr (hf2 b hbf)
  refine ⟨_, rfl, draw_spec (k := 17) hb2 ⟨by decide, by decide⟩ (by decide) fun w m3 hw1 hw2 hb3 hf3 => ?_⟩
  have hg3 := hf1'.fr (hf3 f (Ne.symm hbf))
  refine ⟨_, rfl, text_spec (k := 16) hb3 (by decide) fun x m4 hb4 hf4 => ?_⟩
  have hg4 := hg3.fr (hf4 f (Ne.symm hbf))
  refine ⟨_, rfl, _, rfl, draw_spec (k := 17) hg4 ⟨by decide, by decide⟩ (by decide) fun o m5 ho1 ho2 hg5 hf5 => ?_⟩
  refine numbered_spec (k := 16) ⟨true, rfl, ?_⟩
  refine ⟨_, rfl, _, rfl, text_spec (k := 16) hg5 (by decide) fun y m6 hg6 hf6 => ?_⟩
  refine worded_spec (k := 16) ⟨true, rfl, ?_⟩
  refine ⟨rfl, 8, rfl, by omega, by omega, ?_⟩
  have z2 : ([D.non, .non] : List D).length ≤ sizeLine := by rw [sizeLine_eq]; show 2 ≤ 16777216; decide
  have loop : ∀ (r : List Nat) (u v : Option D), (∀ j ∈ r, j < 8) → forL (fun _ => True) (fun d F' δ' m' => tgW (cc 19) (.one 5) d δ' fun δ2 => wSs (cc 19) (.cons (.asg (.one 6) (.idx (.lst (.cons (.var 3) (.cons (.var 4) .nil))) (.bi .int (.cons (.cmp .gt (.var 5) (.int 4)) .nil)))) (.cons (.ite (.orE (.cons (.notE (.call "_law_alike" (.cons (.call "_law_caught" (.cons (.var 5) (.cons (.var 3) (.cons (.var 4) .nil)))) (.cons (.tup (.cons (.var 5) (.cons (.var 6) .nil))) .nil)))) (.cons (.notE (.call "_law_beneath" (.cons (.var 5) (.cons (.var 3) (.cons (.var 4) .nil))))) .nil))) (.cons (.ret (.bl false)) .nil) .nil) .nil)) F' δ2 m')
      (r.map fun (k : Nat) => D.int (k : Int)) ⟨fun _ m' => ∃ m'' : Mm, m''.Sub m' ∧ D.bl true = D.bl true, fun d m' => ∃ m'' : Mm, m''.Sub m' ∧ d = D.bl true, fun _ _ => False, fun _ _ => False, fun _ _ m' => ∃ m'' : Mm, m''.Sub m' ∧ False⟩ [some (.lst (ns.map D.int)), some (.ref b), some (.ref f), some (.int w), some (.str x), u, v] m6 := by
    intro r
    induction r with
    | nil => exact fun u v _ => ⟨trivial, m6, fun _ _ e => e, rfl⟩
    | cons j r ih =>
      intro u v hj
      have hj8 := hj j (List.mem_cons_self ..)
      refine ⟨trivial, ?_⟩
      dsimp only [wSs, wS, tgW, wT, wTOr, wAs, wE]
      have leaf : Leaf (arg w x ⟨j, hj8⟩) := by
        match j, hj8 with
        | 0, _ => exact .int _ | 1, _ => exact .int _ | 2, _ => exact .int _ | 3, _ => exact .int _ | 4, _ => exact .int _
        | 5, _ => exact .str _ | 6, _ => exact .str _ | 7, _ => exact .str _
      have due : ∀ {K : D → Prop} {bb : Bool}, bb = decide (4 < (j : Int)) → K (arg w x ⟨j, hj8⟩) → biW .int [.bl bb] m6 fun y => idxW (.lst [.int w, .str x]) y m6 K := fun {K bb} hbb hK => by
        match j, hj8, hbb, hK with
        | 0, _, e, hK => rw [e]; exact ⟨_, _, rfl, rfl, hK⟩
        | 1, _, e, hK => rw [e]; exact ⟨_, _, rfl, rfl, hK⟩
        | 2, _, e, hK => rw [e]; exact ⟨_, _, rfl, rfl, hK⟩
        | 3, _, e, hK => rw [e]; exact ⟨_, _, rfl, rfl, hK⟩
        | 4, _, e, hK => rw [e]; exact ⟨_, _, rfl, rfl, hK⟩
        | 5, _, e, hK => rw [e]; exact ⟨_, _, rfl, rfl, hK⟩
        | 6, _, e, hK => rw [e]; exact ⟨_, _, rfl, rfl, hK⟩
        | 7, _, e, hK => rw [e]; exact ⟨_, _, rfl, rfl, hK⟩
      refine ⟨_, rfl, _, rfl, z2, _, rfl, due rfl ?_⟩
      refine ⟨_, rfl, _, rfl, _, rfl, caught_spec (k := 17) ⟨j, hj8⟩ ⟨_, rfl, _, rfl, z2, ?_⟩⟩
      refine alike_tup (k := 17) (fun d hd => ?_) (by simp) ⟨true, rfl, ?_⟩
      · simp only [List.mem_cons, List.not_mem_nil, or_false] at hd
        rcases hd with rfl | rfl
        · exact .int _
        · exact leaf
      · refine ⟨_, rfl, _, rfl, _, rfl, beneath_spec (k := 17) ⟨j, hj8⟩ ⟨true, rfl, ?_⟩⟩
        exact ih _ _ fun j hj' => hj j (List.mem_cons_of_mem _ hj')
  exact loop (List.range 8) none none fun j hj => List.mem_range.mp hj
end K00
namespace K00
open PySem PyProof.Rows L2 PySem.Spec
def loose : List PySem.Str := (["TraceError", "BadValue", "BadProgram", "BadRecord", "BadPaper", "BadLine", "NothingThere", "TooMany", "Unlike", "_law_mix", "_law_box", "_law_draw", "_law_alike", "_law_text", "_law_alone", "_law_numbered", "_law_worded", "_law_raise", "_law_caught", "_law_beneath"] : List PySem.Str)
abbrev Rr : PySem.W.OpenRow := PySem.W.OpenLaw.row PySem.Challenge.rw_ledgertrace_k00_errors
abbrev hk : PySem.W.Hook := Ab.hkT PySem.Challenge.rw_ledgertrace_k00_errors.prog tab 6
def ob (s : PySem.W.SharedT) : Bool := Ab.rowB PySem.Challenge.rw_ledgertrace_k00_errors.prog tab (He.frG (HandSHeadRun.getT s) (Ab.reachX (HandSHeadRun.getT s) 6))
theorem ob_eq (s : PySem.W.SharedT) : ob s = hk.obs s.abs := by
  have e : HandSHeadRun.getT s = s.abs.heap.get? := funext (HandSHeadRun.getT_eq s)
  unfold ob
  rw [e] <;> rfl
theorem headRun (w : World) : HandSHeadRun.RunEq Rr (PySem.W.view Rr.prog [22]) hk ob 5000 loose w := by
  intro os
  kernel_rfl
theorem df : (HandSHeadRun.topDef Rr.prog 22).params.defaults = [] := by kernel_rfl
theorem nm : (HandSHeadRun.topDef Rr.prog 22).name = "law" := by kernel_rfl
theorem fns : tab.fns (HandSHeadRun.topDef Rr.prog 22).name = some f_law := by rw [nm]; rfl
theorem room : Room (2 * 20) callerA := ⟨rfl, by decide +kernel, by decide +kernel⟩
theorem most : PySem.Challenge.rw_ledgertrace_k00_errors.most = some 63 := by first | rfl | kernel_rfl
theorem walk : PySem.W.WalkO (PySem.W.view Rr.prog [22]) loose (PySem.W.XL (PySem.W.view Rr.prog [22]) []) hk.says (PySem.W.OpenLaw.row PySem.Challenge.rw_ledgertrace_k00_errors).toRowW (HandSHeadRun.topDef Rr.prog 22) [] (fun f vs => PySem.call f vs) :=
  Ab.law_walk (l := PySem.Challenge.rw_ledgertrace_k00_errors) (T := tab) (j := 6) (n := 63) (lv := 20) (fd := f_law) most (by decide +kernel) df room fns rfl rfl fun ns h => by rw [nm]; exact law ns h
end K00
open PySem PyProof.Rows PySem.Calls PySem.W
theorem PySem.Challenge.cw_ledgertrace_k00_errors_holds : PySem.Challenge.rw_ledgertrace_k00_errors.Holds := by
  w_on; o_law
  refine HandSHeadRun.head_any (r := OpenLaw.row PySem.Challenge.rw_ledgertrace_k00_errors) (q := view (OpenLaw.row PySem.Challenge.rw_ledgertrace_k00_errors).prog [22]) (H := K00.hk) (ob := K00.ob) (M := 5000) (loose := K00.loose) (d := HandSHeadRun.topDef (OpenLaw.row PySem.Challenge.rw_ledgertrace_k00_errors).prog 22) (kwd := []) K00.ob_eq
    (by kernel_rfl) (fun s => by kernel_rfl) K00.headRun (by kernel_rfl) (by kernel_rfl) (by kernel_rfl) (by rfl) (by first | assumption | decide +kernel) (by decide +kernel) ⟨rfl, rfl, rfl, rfl, rfl, by decide +kernel⟩ ?hw ?hc
  case hw => w_witness2
  case hc => exact K00.walk
