import PyProof.Rows.All
import Wide.All
import OpenK.AllK
import Wide.FinOn
import HandS.ForMost
import HandS.FStr
import HandS.IsInst
import HandS.Zip
import HandS.Walk
import HandS.Flow
import HandS.TupAny
import HandS.TupMul
import HandS.Style
import HandS.Defaults
import HandS.EndBits
import HandS.Exc
import HandS.ExcInit
import HandS.ExcField
import HandS.Lambda
import HandS.HotCalls
import KE.KExcSuper
import KE.KExcIs
import KE.KIsAll
import HandS.Star
import KE.GoesMore
import HandS.DictComp
import HandS.Words
import PySem.Challenge.RW_firstletter_k03_parts_of_webs
set_option Elab.async false
set_option linter.all false
set_option maxRecDepth 100000
set_option maxHeartbeats 4000000
/-! The data layer: values D, a small core language, its weakest preconditions. -/
namespace FL
open PySem PySem.Spec PyProof.Rows L2

/-- a value as data -/
inductive D where
  | non | bl (b : Bool) | int (i : Int) | str (s : Str)
  | tup (ds : List D) | lst (ds : List D) | lsf (ds : List D) | loc (a : Addr)

/-- what stands at a live place -/
inductive O where
  | lst (ds : List D) | dK (kvs : List (Key × D))

abbrev En := List (Option D)
abbrev Sto := Addr → Option O
def Sto.put (S : Sto) (a : Addr) (o : O) : Sto := fun b => if b = a then some o else S b
structure Exn where
  cls : Str
  fs : List (Str × D)

/-! data as the library's PyData -/
mutual
def D.toP : D → PyData
  | .non => .none | .bl b => .bool b | .int i => .int i | .str s => .str s
  | .tup ds => .tuple (toPs ds) | .lst ds => .list (toPs ds) | .lsf ds => .list (toPs ds) | .loc _ => .none
def toPs : List D → List PyData
  | [] => [] | d :: ds => d.toP :: toPs ds
end
mutual
def D.isP : D → Bool
  | .non | .bl _ | .int _ | .str _ => true
  | .tup ds => isPs ds | .lst ds => isPs ds | .lsf _ => false | .loc _ => false
def isPs : List D → Bool
  | [] => true | d :: ds => d.isP && isPs ds
end

/-- what a place holds, as a value that is read -/
def rs (S : Sto) : D → D
  | .loc a => match S a with
    | some (.lst ds) => .lst ds
    | _ => .loc a
  | d => d

/-! operations on data: none where the model is not asked -/
def truth : D → Option Bool
  | .non => some false | .bl b => some b | .int i => some (i != 0) | .str s => some ((s.length : Int) != 0)
  | .tup ds => some (!ds.isEmpty) | .lst ds => some (!ds.isEmpty) | _ => none

def sz64 (i : Int) : Bool := decide (i.natAbs.log2 < 62)
def binD (op : Operator) (x y : D) : Option D :=
  match op, x, y with
  | .Add, .int i, .int j => some (.int (i + j))
  | .Add, .str a, .str b => if a.length + b.length ≤ sizeLine then some (.str (a ++ b)) else none
  | .Add, .tup a, .tup b => if a.length + b.length ≤ sizeLine then some (.tup (a ++ b)) else none
  | .Add, .lst a, .lst b => if a.length + b.length ≤ sizeLine then some (.lst (a ++ b)) else none
  | .Sub, .int i, .int j => some (.int (i - j))
  | .Mult, .int i, .int j => if sz64 i then some (.int (i * j)) else none
  | .Mult, .lst a, .int k => if 0 ≤ k ∧ k ≤ 1000 ∧ a.length ≤ 1000 then some (.lst (List.replicate k.toNat a).flatten) else none
  | .Mult, .tup a, .int k => if a ≠ [] ∧ 2 ≤ k ∧ k ≤ 1000 ∧ a.length ≤ 1000 then some (.tup (List.replicate k.toNat a).flatten) else none
  | .FloorDiv, .int i, .int j => if 0 < j ∧ j.natAbs.log2 < 30 then some (.int (i / j)) else none
  | .Mod, .int i, .int j => if 0 < j then some (.int (i % j)) else none
  | .Pow, .int i, .int j => if 0 ≤ j ∧ j ≤ 1000000 ∧ i.natAbs < 2 ^ 64 then some (.int (i ^ j.toNat)) else none
  | _, _, _ => none

def strLt (a b : Str) : Bool := decide (a.cps.toList < b.cps.toList)
/-- is x among these (flat things) -/
def flatD : D → Bool
  | .non | .bl _ | .int _ | .str _ => true
  | _ => false
def eqD (x y : D) : Bool := PyData.eqv x.toP y.toP
def okEq (x : D) : Bool := x.isP && SeqAt.shaped x.toP
def inD (x : D) (ys : List D) : Bool := ys.any fun y => eqD y x
def cmpD (op : CmpOp) (x y : D) : Option Bool :=
  match op with
  | .Eq => match x, y with
    | .int i, .int j => some (decide (i = j))
    | .str a, .str b => some (decide (a = b))
    | _, _ => if okEq x && okEq y then some (eqD x y) else none
  | .NotEq => match x, y with
    | .int i, .int j => some (!decide (i = j))
    | .str a, .str b => some (!decide (a = b))
    | _, _ => if okEq x && okEq y then some (!eqD x y) else none
  | .Lt => match x, y with
    | .int i, .int j => some (decide (i < j))
    | .str a, .str b => some (strLt a b)
    | _, _ => none
  | .LtE => match x, y with
    | .int i, .int j => some (decide (i ≤ j))
    | .str a, .str b => some (!strLt b a)
    | _, _ => none
  | .Gt => match x, y with
    | .int i, .int j => some (decide (j < i))
    | .str a, .str b => some (strLt b a)
    | _, _ => none
  | .GtE => match x, y with
    | .int i, .int j => some (decide (j ≤ i))
    | .str a, .str b => some (!strLt a b)
    | _, _ => none
  | .Is => match y with
    | .non => some (match x with | .non => true | _ => false)
    | _ => none
  | .IsNot => match y with
    | .non => some (match x with | .non => false | _ => true)
    | _ => none
  | .In => match y with
    | .str b => match x with
      | .str a => some (!(Builtin.Str.occurrences b a 0 b.length 1).isEmpty)
      | _ => none
    | .tup ds => if flatD x && ds.all flatD then some (inD x ds) else none
    | .lst ds => if flatD x && ds.all flatD then some (inD x ds) else none
    | _ => none
  | .NotIn => match y with
    | .str b => match x with
      | .str a => some ((Builtin.Str.occurrences b a 0 b.length 1).isEmpty)
      | _ => none
    | .tup ds => if flatD x && ds.all flatD then some (!inD x ds) else none
    | .lst ds => if flatD x && ds.all flatD then some (!inD x ds) else none
    | _ => none

/-- xs[i] -/
def subD (x y : D) : Option D :=
  match x, y with
  | .lst ds, .int i => atI ds i
  | .tup ds, .int i => atI ds i
  | .str s, .int i => (atI s.cps.toList i).map fun c => .str ⟨#[c]⟩
  | _, _ => none
def cutD (ds : List D) (lo hi : Option Int) : List D :=
  (ds.drop (HT.sIx ds.length 0 lo)).take (HT.sIx ds.length ds.length hi - HT.sIx ds.length 0 lo)
def slD (x : D) (lo hi : Option Int) : Option D :=
  match x with
  | .lst ds => some (.lst (cutD ds lo hi))
  | .lsf ds => some (.lst (cutD ds lo hi))
  | .tup ds => some (.tup (cutD ds lo hi))
  | .str s => some (.str (cutS s lo hi))
  | _ => none
def rvD (x : D) : Option D :=
  match x with
  | .lst ds => some (.lst ds.reverse)
  | .tup ds => some (.tup ds.reverse)
  | _ => none

def strsOf : List D → Option (List Str)
  | [] => some []
  | .str s :: r => (strsOf r).map (s :: ·)
  | _ :: _ => none
def bools : List D → Option (List Bool)
  | [] => some []
  | .bl s :: r => (bools r).map (s :: ·)
  | _ :: _ => none
def intsOf : List D → Option (List Int)
  | [] => some []
  | .int s :: r => (intsOf r).map (s :: ·)
  | _ :: _ => none

/-- sorting texts -/
def insS (x : Str) : List Str → List Str
  | [] => [x]
  | y :: r => if strLt y x then y :: insS x r else x :: y :: r
def sortS : List Str → List Str
  | [] => []
  | x :: r => insS x (sortS r)

inductive Bi where
  | len | int1 | sorted | tuple | list | repr | str | all | any | sum
  deriving DecidableEq
def reprOk (d : D) : Bool := d.isP && d.toP.showable && decide (d.toP.shown.length ≤ sizeLine) && decide (d.toP.depth ≤ 60)
def biD (b : Bi) (ds : List D) : Option D :=
  match b, ds with
  | .len, [.lst xs] => some (.int xs.length)
  | .len, [.tup xs] => some (.int xs.length)
  | .len, [.str s] => some (.int s.length)
  | .int1, [.int i] => some (.int i)
  | .int1, [.bl b] => some (.int (if b = true then 1 else 0))
  | .sorted, [.lst xs] => if xs.length < 64 then (strsOf xs).map fun ss => .lst ((sortS ss).map .str) else none
  | .tuple, [.lst xs] => some (.tup xs)
  | .tuple, [.tup xs] => some (.tup xs)
  | .list, [.lst xs] => some (.lst xs)
  | .list, [.tup xs] => some (.lst xs)
  | .repr, [d] => if reprOk d then some (.str d.toP.shown) else none
  | .str, [.int i] => if i.natAbs.log2 < 1920 then some (.str (Str.ofString (toString i))) else none
  | .str, [.str s] => some (.str s)
  | .all, [.lst xs] => (bools xs).map fun bs => .bl (bs.all id)
  | .any, [.lst xs] => (bools xs).map fun bs => .bl (bs.any id)
  | .sum, [.lst xs] => (intsOf xs).map fun is => .int is.sum
  | _, _ => none
inductive Ty where
  | int | bool | str | tuple | list
  deriving DecidableEq
def isiD (t : Ty) : D → Option Bool
  | .non => some false
  | .bl _ => some (t == .bool || t == .int)
  | .int _ => some (t == .int)
  | .str _ => some (t == .str)
  | .tup _ => some (t == .tuple)
  | .lst _ => some (t == .list)
  | _ => none
def joinD (x y : D) : Option D :=
  match x, y with
  | .str a, .lst ds => (strsOf ds).bind fun ys => if (ys.map (·.length)).sum + ys.length * a.length ≤ 16777216 then some (.str (Txt.join a ys)) else none
  | .str a, .tup ds => (strsOf ds).bind fun ys => if (ys.map (·.length)).sum + ys.length * a.length ≤ 16777216 then some (.str (Txt.join a ys)) else none
  | _, _ => none
def fmtD : D → Option Str
  | .str s => some s
  | .int i => if i.natAbs.log2 < 1920 then some (Str.ofString (toString i)) else none
  | _ => none
def cstD : Const → Option D
  | .none => some .non | .bool b => some (.bl b) | .int i => some (.int i)
  | .str s => if s.length ≤ sizeLine then some (.str s) else none
  | _ => none

/-! the core language -/
mutual
inductive CT where
  | nm (i : Nat) | tp (ts : CTs)
inductive CTs where
  | nil | cons (t : CT) (r : CTs)
end
mutual
inductive CE where
  | var (i : Nat) | cst (c : Const) | glb (g : Nat)
  | tup (es : CEs) | lst (es : CEs) | dct (ks : List Str) (es : CEs)
  | bin (op : Operator) (a b : CE) | neg (a : CE) | nt (a : CE)
  | cmp (op : CmpOp) (a b : CE) | ch (o1 o2 : CmpOp) (a b c : CE)
  | and (es : CEs) | or (es : CEs) | ite (t a b : CE)
  | sub (a i : CE) | dget (a i : CE) | sl (a : CE) (lo hi : CO) | rv (a : CE)
  | call (f : Nat) (es : CEs) | callk (f : Nat) (es ks : CEs) (sh : Nat)
  | bi (b : Bi) (es : CEs) | isi (a : CE) (t : Ty)
  | join (a b : CE) | fs (es : CEs) | fv (e : CE)
  | comp (own : List Nat) (e : CE) (t : CT) (it : CI) (ifs : CEs)
  | app (o e : CE)
  | frz (e : CE) | live (e : CE) | said (e : CE)
  | calld (f : Nat) (es : CEs) (sh : Nat) | dcomp (own : List Nat) (ke ve : CE) (t : CT) (it : CI) (ifs : CEs)
  | inK (ng : Bool) (a b : CE) | dgetd (a i d : CE) | dctv (es : CEs) | comp2 (own : List Nat) (e : CE) (t : CT) (it : CI) (t2 : CT) (it2 : CI)
inductive CEs where
  | nil | cons (e : CE) (r : CEs) | star (e : CE) (r : CEs)
inductive CO where
  | no | so (e : CE)
inductive CI where
  | val (e : CE) | rng1 (a : CE) | rng2 (a b : CE) | enum (e : CE) | zip (a b : CE)
end

abbrev Spec := List D → Sto → (D → Sto → Prop) → (Exn → Sto → Prop) → Prop
structure Ctx where
  fn : Nat → Spec
  gl : Nat → Option D
  ar : Nat → Nat
  /-- how a call by keywords puts its values in the parameters' order -/
  ord : Nat → Nat → List D → List D → List D

mutual
def bindT : CT → D → En → (En → Prop) → Prop
  | .nm i, d, r, k => k (r.set i (some d))
  | .tp ts, d, r, k => match d with
    | .tup ds => bindTs ts ds r k
    | _ => False
def bindTs : CTs → List D → En → (En → Prop) → Prop
  | .nil, ds, r, k => match ds with
    | [] => k r
    | _ => False
  | .cons t ts, ds, r, k => match ds with
    | d :: ds' => bindT t d r fun r1 => bindTs ts ds' r1 k
    | [] => False
end

/-- a comprehension's own names -/
def wipeE (r : En) : List Nat → En
  | [] => r
  | v :: vs => (wipeE r vs).set v none
def putK (kvs : List (Key × D)) (k : Key) (v : D) : List (Key × D) :=
  if (kvs.any fun p => decide (p.1 = k)) = true then kvs.map (fun p => if p.1 = k then (p.1, v) else p) else kvs ++ [(k, v)]
def getK (kvs : List (Key × D)) (k : Key) : Option D := (kvs.find? fun kv => decide (kv.1 = k)).map (·.2)

/-- a comprehension's turns -/
def compLoop (te : En → Sto → (D → Sto → Prop) → Prop) (tt : En → Sto → (Bool → Sto → Prop) → Prop) (t : CT) (r : En) (Q : List D → Sto → Prop) : List D → List D → Sto → Prop
  | [], acc, S => Q acc S
  | d :: ds, acc, S => bindT t d r fun r1 => tt r1 S fun b S1 =>
      if b = true then te r1 S1 fun y S2 => compLoop te tt t r Q ds (acc ++ [y]) S2 else compLoop te tt t r Q ds acc S1

/-- the turns of a dict's comprehension -/
def dcompLoop (tk tv : En → Sto → (D → Sto → Prop) → Prop) (tt : En → Sto → (Bool → Sto → Prop) → Prop) (t : CT) (r : En) (Q : List (Key × D) → Sto → Prop) : List D → List (Key × D) → Sto → Prop
  | [], acc, S => Q acc S
  | d :: ds, acc, S => bindT t d r fun r1 => tt r1 S fun b S1 =>
      if b = true then tk r1 S1 fun y S2 => tv r1 S2 fun z S3 => match y with
        | .str k => dcompLoop tk tv tt t r Q ds (putK acc (Sum.inr k) z) S3
        | _ => False
      else dcompLoop tk tv tt t r Q ds acc S1
/-- one comprehension in the other -/
def comp2Loop (ti : En → Sto → (List D → Sto → Prop) → Prop) (te : En → Sto → (D → Sto → Prop) → Prop) (t t2 : CT) (r : En) (Q : List D → Sto → Prop) : List D → List D → Sto → Prop
  | [], acc, S => Q acc S
  | d :: ds, acc, S => bindT t d r fun r1 => ti r1 S fun es S1 => compLoop te (fun _ S2 k => k true S2) t2 r1 (fun acc S2 => comp2Loop ti te t t2 r Q ds acc S2) es acc S1
/-- keys and values by turns -/
def pairsD : List D → List (Key × D) → Option (List (Key × D))
  | [], acc => some acc
  | .str k :: d :: r, acc => pairsD r (putK acc (Sum.inr k) d)
  | _, _ => none
abbrev XP := Exn → En → Sto → Prop
def noX : XP := fun _ _ _ => False

def rngD (lo hi : Int) : List D := (List.range (hi - lo).toNat).map fun k => D.int (lo + (k : Nat))
def enumD (ds : List D) (k : Nat) : List D := match ds with
  | [] => []
  | d :: r => .tup [.int k, d] :: enumD r (k + 1)
def zipD : List D → List D → List D
  | a :: x, b :: y => .tup [a, b] :: zipD x y
  | _, _ => []
def sgnD (s : Str) : List D := s.cps.toList.map fun c => D.str ⟨#[c]⟩
/-- what is walked -/
def seqD : D → Option (List D)
  | .lst ds => some ds
  | .tup ds => some ds
  | .str s => some (sgnD s)
  | _ => none
/-- what a star spreads -/
def starD : D → Option (List D)
  | .lst ds => some ds
  | .tup ds => some ds
  | _ => none
/-- the words of a class of errors that is told -/
def wordOf (x : Str) : Option (Str × Str × Str) := if x = "InvalidPaper" then some ("paper", "word", "at") else if x = "NotUsable" then some ("use", "word", "at") else if x = "InvalidText" then some ("text", "line", "field") else none
/-- how an error is told -/
def refD (ex : Exn) : Option D := match wordOf ex.cls, ex.fs with
  | some (w, f1, f2), [(g2, d2), (g1, d1)] => if g1 = f1 ∧ g2 = f2 then some (.tup [.str "no", .str w, d1, d2]) else none
  | _, _ => none
def okI (i : Int) : Prop := -(2 ^ 62) ≤ i ∧ i < 2 ^ 62
mutual
def WE (G : Ctx) (R : XP) : CE → En → Sto → (D → Sto → Prop) → Prop
  | .var i, r, S, Q => match r[i]? with
    | some (some d) => Q d S
    | _ => False
  | .cst c, _, S, Q => match cstD c with
    | some d => Q d S
    | none => False
  | .glb g, _, S, Q => match G.gl g with
    | some d => Q d S
    | none => False
  | .tup es, r, S, Q => WEs G R es r S fun ds S1 => ds.length ≤ sizeLine ∧ Q (.tup ds) S1
  | .lst es, r, S, Q => WEs G R es r S fun ds S1 => ds.length ≤ sizeLine ∧ Q (.lst ds) S1
  | .dct ks es, r, S, Q => WEs G R es r S fun ds S1 => ds.length = ks.length ∧
      ∀ a, S1 a = none → Q (.loc a) (S1.put a (.dK ((ks.map Sum.inr).zip ds)))
  | .bin op a b, r, S, Q => WE G R a r S fun x S1 => WE G R b r S1 fun y S2 =>
      match binD op (rs S2 x) (rs S2 y) with
      | some z => Q z S2
      | none => False
  | .neg a, r, S, Q => WE G R a r S fun x S1 => match x with
      | .int i => Q (.int (-i)) S1
      | _ => False
  | .nt a, r, S, Q => WE G R a r S fun x S1 => match truth (rs S1 x) with
      | some b => Q (.bl (!b)) S1
      | none => False
  | .cmp op a b, r, S, Q => WE G R a r S fun x S1 => WE G R b r S1 fun y S2 =>
      match cmpD op (rs S2 x) (rs S2 y) with
      | some z => Q (.bl z) S2
      | none => False
  | .ch o1 o2 a b c, r, S, Q => WE G R a r S fun x S1 => WE G R b r S1 fun y S2 =>
      match cmpD o1 (rs S2 x) (rs S2 y) with
      | some true => WE G R c r S2 fun z S3 => match cmpD o2 (rs S3 y) (rs S3 z) with
        | some w => Q (.bl w) S3
        | none => False
      | some false => Q (.bl false) S2
      | none => False
  | .and es, r, S, Q => WAnd G R es r S Q
  | .or es, r, S, Q => WOr G R es r S Q
  | .ite t a b, r, S, Q => WE G R t r S fun x S1 => match truth (rs S1 x) with
      | some true => WE G R a r S1 Q
      | some false => WE G R b r S1 Q
      | none => False
  | .sub a i, r, S, Q => WE G R a r S fun x S1 => WE G R i r S1 fun y S2 =>
      match subD (rs S2 x) y with
      | some z => Q z S2
      | none => False
  | .dget a i, r, S, Q => WE G R a r S fun x S1 => WE G R i r S1 fun y S2 =>
      match x, y with
      | .loc p, .str k => match S2 p with
        | some (.dK kvs) => match getK kvs (Sum.inr k) with
          | some d => Q d S2
          | none => False
        | _ => False
      | _, _ => False
  | .sl a lo hi, r, S, Q => WE G R a r S fun x S1 => WO G R lo r S1 fun l S2 => WO G R hi r S2 fun h S3 =>
      match slD (rs S3 x) l h with
      | some z => Q z S3
      | none => False
  | .rv a, r, S, Q => WE G R a r S fun x S1 => match rvD (rs S1 x) with
      | some z => Q z S1
      | none => False
  | .call f es, r, S, Q => WEs G R es r S fun ds S1 => ds.length = G.ar f ∧ G.fn f ds S1 Q fun e S2 => R e r S2
  | .callk f es ks sh, r, S, Q => WEs G R es r S fun ds S1 => WEs G R ks r S1 fun zs S2 => (G.ord f sh ds zs).length = G.ar f ∧ G.fn f (G.ord f sh ds zs) S2 Q fun e S2 => R e r S2
  | .bi b es, r, S, Q => WEs G R es r S fun ds S1 => match biD b (ds.map (rs S1)) with
      | some z => Q z S1
      | none => False
  | .isi a t, r, S, Q => WE G R a r S fun x S1 => match isiD t (rs S1 x) with
      | some z => Q (.bl z) S1
      | none => False
  | .join a b, r, S, Q => WE G R a r S fun x S1 => match x with
      | .str z => WE G R b r S1 fun y S2 => match joinD (.str z) (rs S2 y) with
        | some z => Q z S2
        | none => False
      | _ => False
  | .fs es, r, S, Q => WFs G R es Str.empty r S fun s S1 => Q (.str s) S1
  | .fv e, r, S, Q => WE G R e r S fun x S1 => match fmtD x with
      | some s => Q (.str s) S1
      | none => False
  | .comp own e t it ifs, r, S, Q => WI G R it r S fun ds S1 =>
      compLoop (fun r1 S2 k => WE G noX e r1 S2 k) (fun r1 S2 k => WTs G noX ifs r1 S2 k) t (wipeE r own) (fun acc S2 => Q (.lst acc) S2) ds [] S1
  | .app o e, r, S, Q => WE G R o r S fun x S1 => match x with
      | .loc a => match S1 a with
        | some (.lst _) => WE G R e r S1 fun y S2 => match S2 a with
          | some (.lst ds) => ds.length < 1000000 ∧ Q .non (S2.put a (.lst (ds ++ [y])))
          | _ => False
        | _ => False
      | _ => False
  | .frz e, r, S, Q => WE G R e r S fun x S1 => match x with
      | .loc a => match S1 a with
        | some (.lst ds) => Q (.lst ds) (fun b => if b = a then none else S1 b)
        | _ => False
      | d => Q d S1
  | .live e, r, S, Q => WE G R e r S fun x S1 => match x with
      | .lst ds => ∀ a, S1 a = none → Q (.loc a) (S1.put a (.lst ds))
      | _ => False
  | .said e, r, S, Q => WE G (fun ex _ S' => match refD ex with
      | some d => Q d S'
      | none => False) e r S fun d S1 => Q (.tup [.str "told", d]) S1
  | .calld f es sh, r, S, Q => WEs G R es r S fun ds S1 => (G.ord f sh ds []).length = G.ar f ∧ G.fn f (G.ord f sh ds []) S1 Q fun e S2 => R e r S2
  | .dcomp own ke ve t it ifs, r, S, Q => WI G R it r S fun ds S1 =>
      dcompLoop (fun r1 S2 k => WE G noX ke r1 S2 k) (fun r1 S2 k => WE G noX ve r1 S2 k) (fun r1 S2 k => WTs G noX ifs r1 S2 k) t (wipeE r own) (fun acc S2 => ∀ a, S2 a = none → Q (.loc a) (S2.put a (.dK acc))) ds [] S1
  | .inK ng a b, r, S, Q => WE G R a r S fun x S1 => WE G R b r S1 fun y S2 => match x, y with
      | .str k, .loc p => match S2 p with
        | some (.dK kvs) => Q (.bl (ng != (getK kvs (Sum.inr k)).isSome)) S2
        | _ => False
      | _, _ => False
  | .dgetd a i d, r, S, Q => WE G R a r S fun x S1 => match x with
      | .loc p => match S1 p with
        | some (.dK _) => WE G R i r S1 fun y S2 => WE G R d r S2 fun z S3 => match y with
          | .str k => match S3 p with
            | some (.dK kvs) => Q ((getK kvs (Sum.inr k)).getD z) S3
            | _ => False
          | _ => False
        | _ => False
      | _ => False
  | .dctv es, r, S, Q => WEs G R es r S fun ds S1 => match pairsD ds [] with
      | some kvs => ∀ a, S1 a = none → Q (.loc a) (S1.put a (.dK kvs))
      | none => False
  | .comp2 own e t it t2 it2, r, S, Q => WI G R it r S fun ds S1 =>
      comp2Loop (fun r1 S2 k => WI G noX it2 r1 S2 k) (fun r1 S2 k => WE G noX e r1 S2 k) t t2 (wipeE r own) (fun acc S2 => Q (.lst acc) S2) ds [] S1
def WEs (G : Ctx) (R : XP) : CEs → En → Sto → (List D → Sto → Prop) → Prop
  | .nil, _, S, Q => Q [] S
  | .cons e es, r, S, Q => WE G R e r S fun x S1 => WEs G R es r S1 fun xs S2 => Q (x :: xs) S2
  | .star e es, r, S, Q => WE G R e r S fun x S1 => match starD (rs S1 x) with
      | some ys => WEs G R es r S1 fun xs S2 => Q (ys ++ xs) S2
      | none => False
/-- x and y .. by truth -/
def WAnd (G : Ctx) (R : XP) : CEs → En → Sto → (D → Sto → Prop) → Prop
  | .nil, _, _, _ => False
  | .star _ _, _, _, _ => False
  | .cons e es, r, S, Q => WE G R e r S fun x S1 => match es with
      | .nil => Q x S1
      | _ => match truth (rs S1 x) with
        | some true => WAnd G R es r S1 Q
        | some false => Q x S1
        | none => False
def WOr (G : Ctx) (R : XP) : CEs → En → Sto → (D → Sto → Prop) → Prop
  | .nil, _, _, _ => False
  | .star _ _, _, _, _ => False
  | .cons e es, r, S, Q => WE G R e r S fun x S1 => match es with
      | .nil => Q x S1
      | _ => match truth (rs S1 x) with
        | some true => Q x S1
        | some false => WOr G R es r S1 Q
        | none => False
/-- the tests of a comprehension -/
def WTs (G : Ctx) (R : XP) : CEs → En → Sto → (Bool → Sto → Prop) → Prop
  | .nil, _, S, Q => Q true S
  | .star _ _, _, _, _ => False
  | .cons e es, r, S, Q => WE G R e r S fun x S1 => match truth (rs S1 x) with
      | some true => WTs G R es r S1 Q
      | some false => Q false S1
      | none => False
/-- the parts of an f-string -/
def WFs (G : Ctx) (R : XP) : CEs → Str → En → Sto → (Str → Sto → Prop) → Prop
  | .nil, acc, _, S, Q => Q acc S
  | .star _ _, _, _, _, _ => False
  | .cons e es, acc, r, S, Q => WE G R e r S fun x S1 => match x with
      | .str s => (acc ++ s).length ≤ sizeLine ∧ WFs G R es (acc ++ s) r S1 Q
      | _ => False
def WO (G : Ctx) (R : XP) : CO → En → Sto → (Option Int → Sto → Prop) → Prop
  | .no, _, S, Q => Q none S
  | .so e, r, S, Q => WE G R e r S fun x S1 => match x with
      | .int i => Q (some i) S1
      | _ => False
def WI (G : Ctx) (R : XP) : CI → En → Sto → (List D → Sto → Prop) → Prop
  | .val e, r, S, Q => WE G R e r S fun x S1 => match seqD x with
      | some ds => Q ds S1
      | none => False
  | .rng1 a, r, S, Q => WE G R a r S fun x S1 => match x with
      | .int i => okI i ∧ i ≤ sizeLine ∧ Q (rngD 0 i) S1
      | _ => False
  | .rng2 a b, r, S, Q => WE G R a r S fun x S1 => WE G R b r S1 fun y S2 => match x, y with
      | .int i, .int j => okI i ∧ okI j ∧ j - i ≤ sizeLine ∧ Q (rngD i j) S2
      | _, _ => False
  | .enum e, r, S, Q => WE G R e r S fun x S1 => match x with
      | .lst ds => Q (enumD ds 0) S1
      | .tup ds => Q (enumD ds 0) S1
      | _ => False
  | .zip a b, r, S, Q => WE G R a r S fun x S1 => WE G R b r S1 fun y S2 => match x, y with
      | .lst d1, .lst d2 => Q (zipD d1 d2) S2
      | .tup d1, .tup d2 => Q (zipD d1 d2) S2
      | _, _ => False
end

/-! statements -/
structure Out where
  nx : En → Sto → Prop
  rt : D → Sto → Prop
  bk : En → Sto → Prop := fun _ _ => False
  ct : En → Sto → Prop := fun _ _ => False
mutual
inductive CS where
  | set (t : CT) (e : CE) | setN (i : Nat) (e : CE) | par (is : List Nat) (es : CEs) | put (o k e : CE) | aug (i : Nat) (op : Operator) (e : CE)
  | ex (e : CE) | ret (e : CE) | ret0 | ite (t : CE) (a b : CSs) | «for» (t : CT) (it : CI) (b : CSs) | whl (t : CE) (b : CSs)
  | pass | brk | cnt | nev | rse (x f1 f2 : Str) (es : CEs)
inductive CSs where
  | nil | cons (s : CS) (r : CSs)
end
def forLoop (tb : En → Sto → Out → Prop) (t : CT) (Dn : Out) : List D → En → Sto → Prop
  | [], r, S => Dn.nx r S
  | d :: ds, r, S => bindT t d r fun r1 => tb r1 S { Dn with nx := forLoop tb t Dn ds, ct := forLoop tb t Dn ds, bk := Dn.nx }
def setAll : List Nat → List D → En → Option En
  | [], [], r => some r
  | i :: is, d :: ds, r => setAll is ds (r.set i (some d))
  | _, _, _ => none
mutual
def WS (G : Ctx) (R : XP) : CS → En → Sto → Out → Prop
  | .set t e, r, S, Z => WE G R e r S fun x S1 => bindT t x r fun r1 => Z.nx r1 S1
  | .setN i e, r, S, Z => WE G R e r S fun x S1 => match x with
      | .lst ds => ∀ a, S1 a = none → Z.nx (r.set i (some (.loc a))) (S1.put a (.lst ds))
      | _ => False
  | .par is es, r, S, Z => WEs G R es r S fun ds S1 => match setAll is ds r with
      | some r1 => Z.nx r1 S1
      | none => False
  | .put o k e, r, S, Z => WE G R e r S fun x S1 => WE G R o r S1 fun y S2 => WE G R k r S2 fun z S3 => match y, z with
      | .loc a, .str s => match S3 a with
        | some (.dK kvs) => kvs.length < 1000000 ∧ Z.nx r (S3.put a (.dK (putK kvs (Sum.inr s) x)))
        | _ => False
      | _, _ => False
  | .aug i op e, r, S, Z => match r[i]? with
      | some (some x) => WE G R e r S fun y S1 => match op, x, y with
        | .Add, .int a, .int b => Z.nx (r.set i (some (.int (a + b)))) S1
        | .Sub, .int a, .int b => Z.nx (r.set i (some (.int (a - b)))) S1
        | _, _, _ => False
      | _ => False
  | .ex e, r, S, Z => WE G R e r S fun _ S1 => Z.nx r S1
  | .ret e, r, S, Z => WE G R e r S Z.rt
  | .ret0, _, S, Z => Z.rt .non S
  | .ite t a b, r, S, Z => WE G R t r S fun x S1 => match truth (rs S1 x) with
      | some true => WSs G R a r S1 Z
      | some false => WSs G R b r S1 Z
      | none => False
  | .for t it b, r, S, Z => WI G R it r S fun ds S1 => forLoop (fun r1 S2 Z1 => WSs G R b r1 S2 Z1) t Z ds r S1
  | .whl t b, r, S, Z => ∃ I : Nat → En → Sto → Prop, (∃ m, I m r S) ∧ ∀ m r1 S1, I m r1 S1 →
      WE G R t r1 S1 fun x S2 => match truth (rs S2 x) with
        | some true => WSs G R b r1 S2 { Z with nx := fun r3 S3 => ∃ m', m' < m ∧ I m' r3 S3, ct := fun r3 S3 => ∃ m', m' < m ∧ I m' r3 S3, bk := Z.nx }
        | some false => Z.nx r1 S2
        | none => False
  | .pass, r, S, Z => Z.nx r S
  | .brk, r, S, Z => Z.bk r S
  | .cnt, r, S, Z => Z.ct r S
  | .nev, _, _, _ => False
  | .rse x f1 f2 es, r, S, _ => WEs G R es r S fun ds S1 => match ds with
      | [d1, d2] => R ⟨x, [(f2, d2), (f1, d1)]⟩ r S1
      | _ => False
def WSs (G : Ctx) (R : XP) : CSs → En → Sto → Out → Prop
  | .nil, r, S, Z => Z.nx r S
  | .cons s ss, r, S, Z => WS G R s r S { Z with nx := fun r1 S1 => WSs G R ss r1 S1 Z }
end
end FL

namespace FL
open PySem PySem.Spec PyProof.Rows L2 PySem.W PySem.Calls
/-! ### an exception with two fields is made: super().__init__(x, y); self.x = x; self.y = y -/
section
variable {P : Program} {w : World} {A : Around} {Er : Value → Shared → Prop} {h : Heap} {g : Array GenState} {d : Drawn} {t : Nat} {os : OsState}
/-- the bound built-in __init__, called -/
theorem mw_call {K : Frag} {u a C t0 : Addr} {rest : List Value} {Q : Value → Shared → Prop} (T : OexC K C) (KX : K.In h) (ha : h.get? a = some (PySem.HandSPX.excO C t0)) (hu : h.get? u = some (kxs_mw "ValueError.__init__" a)) (hz : rest.length ≤ sizeLine)
    (hq : ∀ h' t1, (∀ b o, b ≠ a → h.get? b = some o → h'.get? b = some o) → h'.get? a = some (PySem.HandSPX.excO C t1) → Q .none ⟨h', g, d, t, os⟩) : wpAny (model P w) A (call (.ref u) rest) Q Er ⟨h, g, d, t, os⟩ := by
  obtain ⟨nm, q, N, bs, bm, sn, sub, ab, col, dd, k0, k1, k2, k3, k5, hC, hbm⟩ := T.cls
  refine wpAny_call (codeAny_of_tree ?_)
  show wpAny _ A.in1 (callAny (.ref u) ⟨rest, []⟩) _ _ _
  simp only [callAny]
  refine wpAny_bind (wpAny_load hu (KFB.if_so rfl (wpAny_bind (check_bound_init F.excBase_ValueError.toExcCallFacts (KX _ _ hC) ha rfl (wpAny_bind (wpAny_pure (wpAny_pure ?_)))))))
  refine ⟨plainId_quiet F.excBase_ValueError.init.plain _, codeAny_builtin F.excBase_ValueError.initEntry ?_⟩
  exact exc_init_tree (cls := .ref C) (t0 := t0) (dv := none) (c2 := .none) (c3 := .none) (b4 := .bool false) ha hz fun h' h1 h2 _ => hq h' _ h1 h2
end
theorem ev_mcall {o : Expr} {name : Str} {apos pos : Pos} {args : List Expr} {env : Env} (hf : methodCallForm (args.length + 0) (backTo pos (starEach args env)) [] = true) (hl : (apos.endLine == pos.line) = true) :
    eval (.Call (.Attribute o name apos) args [] pos) env = (do
      let ov ← attributeBase o name env (eval o env)
      standAt apos.atName
      let (f, first) ← holding [ov] (getMethod ov name (do return (← importBound o env).getD true))
      callWith pos f first (backTo pos (starEach args env)) []) := by
  have e : ∀ ov, methodCall o name apos pos env ov (args.length + 0) (backTo pos (starEach args env)) [] = (do
      let (f, first) ← holding [ov] (getMethod ov name (do return (← importBound o env).getD true))
      callWith pos f first (backTo pos (starEach args env)) []) := by
    intro ov
    unfold methodCall calleeOf methodCallPos
    rw [hf, hl]
    simp only [if_true, Bool.not_true, Bool.or_true, pure_bind]
  show (do
      let ov ← attributeBase o name env (eval o env)
      standAt apos.atName
      methodCall o name apos pos env ov (args.length + 0) (backTo pos (starEach args env)) []) = _
  simp only [e]
/-- what is written of such a class -/
structure IniC (P : Program) (K : Frag) (C fI : Addr) (f1 f2 : Str) (fd : FuncData) : Prop where
  oex : OexC K C
  iC : findIn K (.ref C) "__init__" = some (some (.ref fI))
  tI : typeIn K (.ref fI) = some (.type "function")
  sup : ks_superIn K C C "__init__" = some (some (.builtin "ValueError.__init__"))
  subB : subIn K (.ref C) (.type "ValueError") = some true
  own : mroIn K C (.ref C) = some true
  any : nsIn K cStatics "thirdparty.any" = some none
  gsup : nsIn K mainGlobals "super" = some none
  no1 : findIn K (.ref C) f1 = some none
  no2 : findIn K (.ref C) f2 = some none
  fn : ∃ (oc : Value) (od : Option Addr) (osl : Array (Option Value)) (nm q : Str) (params : Arguments) (body : List Stmt) (scope : Scope) (dV kV doc pm : Value) (an : Option Addr) (ct : Value) (cda cc : Addr) (ar : Arg) (ccl cl : Value) (cdd cld : Option Addr) (ccs csl : Array (Option Value)) (vs : Array Value) (file : Str) (tf : Tok)
      (p0 p1 p2 p3 p4 p5 p6 p7 p8 p9 q7 q8 q9 r1 r2 : Pos),
    fd = ksFn nm q params body scope dV kV doc pm an (.ref cda) ct cc ∧ K.lookup fI = some ⟨oc, od, .func fd, osl⟩ ∧ codeIn K (.ref cda) q = true ∧ K.lookup cda = some ⟨ccl, cdd, .fields vs, ccs⟩ ∧ vs[2]? = some (.str file tf) ∧ ((P.main.file : Str) == file) = true ∧
    K.lookup cc = some ⟨cl, cld, .cell (some (.ref C)), csl⟩ ∧ (params.posonlyargs ++ params.args).head? = some ar ∧ ar.arg = "self" ∧
    body = [.Expr (.Call (.Attribute (.Call (.Name "super" p0) [] [] p1) "__init__" p2) [.Name f1 p3, .Name f2 p4] [] p5) p6, .Assign [.Attribute (.Name "self" p7) f1 p8] (.Name f1 p9) r1, .Assign [.Attribute (.Name "self" q7) f2 q8] (.Name f2 q9) r2] ∧
    scope.kind = .function ∧ scope.isCoroutine = false ∧ scope.isGenerator = false ∧ (∀ x ∈ scope.names, x.2 ≠ .cell) ∧ scope.names.lookup ("super" : Str) = some .globalImplicit ∧ scope.names.lookup ("__class__" : Str) = some .free ∧ scope.names.lookup ("self" : Str) = some .local ∧ scope.names.lookup f1 = some .local ∧ scope.names.lookup f2 = some .local ∧
    (P.main.scope.names.lookup ("super" : Str)).isSome = false ∧ (f1 == ("__debug__" : Str)) = false ∧ (f2 == ("__debug__" : Str)) = false ∧ f1 ≠ "self" ∧ f2 ≠ "self" ∧ f1 ≠ f2 ∧ (p2.endLine == p5.line) = true
/-- what the __init__ promises -/
def spIni (C : Addr) (f1 f2 : Str) : Sp := fun vs H Q _ => ∃ (a : Addr) (y1 y2 : V), vs = [.ref a, y1, y2] ∧ H a = some (exo a C none) ∧
  ∀ dx, H dx = none → dx ≠ a → Q .non (upd (upd H dx (exd dx [(f2, y2), (f1, y1)])) a (exo a C (some dx)))
section
variable {P : Program} {w : World} {K : Frag} {mg : Str → Option Value} {base : Heap} {C fI : Addr} {f1 f2 : Str} {fd : FuncData}
theorem ini_ok (T : IniC P K C fI f1 f2 fd) : FnOk P w K mg base (CX P w) 1 fI fd ["self", f1, f2] (spIni C f1 f2) := by
  refine ⟨fun vs H Q E ⟨a, y1, y2, e, _⟩ => by rw [e]; rfl, ?_⟩
  rintro A outer s H args us vs Q E hr e0 hb rv ⟨a, y1, y2, rfl, ea, hq⟩
  obtain ⟨oc, od, osl, nm, q, params, body, scope, dV, kV, doc, pm, an, ct, cda, cc, ar, ccl, cl, cdd, cld, ccs, csl, vs, file, tf, p0, p1, p2, p3, p4, p5, p6, p7, p8, p9, q7, q8, q9, r1, r2, rfl, lf, hcd, lc, hvs, hfile, lcell, hpar, har, rfl, k1, k2, k3, k4, n1, n2, n3, n4, n5, htop, db1, db2, ne1, ne2, ne12, hline⟩ := T.fn
  cases rv with
  | @cons _ u0 _ ur ra rw1 =>
  cases rw1 with
  | @cons _ u1 _ ur1 rb rw2 =>
  cases rw2 with
  | @cons _ u2 _ ur2 rc rw3 =>
  cases rw3
  obtain rfl : u0 = Value.ref a := ra
  have KX : K.In s.heap := e0.mod.kin.keeps fun b o e => (e0.bs b o e).1
  have lim : s.heap.NoLimit := e0.mod.nolimit.keeps fun b o e => (e0.bs b o e).1
  refine ks_codeAny_call_defAt hr.depth (KX _ _ lf) rfl lim (codeRec_of KX hcd) rfl hb k4 ?_ ?_ k2 k3 k1
  · intro x hx
    simp only [List.zip_cons_cons, List.zip_nil_right, List.mem_cons, List.not_mem_nil, or_false] at hx
    rcases hx with rfl | rfl | rfl
    · exact n3
    · exact n4
    · exact n5
  intro h₀ hns kp
  have KX0 : K.In h₀ := KX.keeps kp
  have kb : ∀ b o, base.get? b = some o → h₀.get? b = some o := fun b o e => kp b o (e0.bs b o e).1
  obtain ⟨t0, oa⟩ := exo_at e0.hok ea
  have oa0 := kp _ _ oa
  obtain ⟨mb, hbn, hbb⟩ := e0.mod.blt
  have mS : (([("self", Value.ref a), (f1, u1), (f2, u2)] : List (Str × Value)).reverse.lookup ("self" : Str)) = some (Value.ref a) := by
    have q1 : (("self" : Str) == f2) = false := by simpa using Ne.symm ne2
    have q2 : (("self" : Str) == f1) = false := by simpa using Ne.symm ne1
    simp [List.lookup, q1, q2]
  have m1 : (([("self", Value.ref a), (f1, u1), (f2, u2)] : List (Str × Value)).reverse.lookup f1) = some u1 := by
    have q1 : (f1 == f2) = false := by simpa using ne12
    simp [List.lookup, q1]
  have m2 : (([("self", Value.ref a), (f1, u1), (f2, u2)] : List (Str × Value)).reverse.lookup f2) = some u2 := by
    simp [List.lookup]
  obtain ⟨cdC, hcC⟩ : ∃ cd, clsIn K C = some cd := by
    cases e : clsIn K C with
    | some cd => exact ⟨cd, rfl⟩
    | none =>
      have := T.sup
      unfold ks_superIn at this
      rw [e] at this
      cases this
  have I0 : InstAt h₀ a (PySem.HandSPX.excO C t0) C none := ⟨oa0, rfl, rfl, trivial⟩
  obtain ⟨oD, hD1, hD2⟩ : ∃ oD, h₀.get? C = some oD ∧ oD.data = .cls cdC := by
    unfold clsIn at hcC
    split at hcC
    · rename_i c d cd' sl ho
      cases hcC
      exact ⟨_, KX0 _ _ ho, rfl⟩
    · cases hcC
  have hal : alongIn K "__init__" ((cdC.mro.dropWhile (· != .ref C)).drop 1) = some (some (.builtin "ValueError.__init__")) := by
    have := T.sup
    unfold ks_superIn at this
    rw [hcC] at this
    exact this
  have aL : s.heap.objs.size ≠ a := Nat.ne_of_gt (Heap.lt_size oa)
  have nsTo : ∀ {h' : Heap} {L : Addr} {m : Str → Option Value}, L ≠ a → h₀.Ns L m → (∀ b o, b ≠ a → h₀.get? b = some o → h'.get? b = some o) → h'.Ns L m := by
    rintro h' L m hne ⟨o, es, ep, e, r⟩ k
    exact ⟨o, es, ep, k _ _ hne e, r⟩
  obtain ⟨oL, esL, epL, hL0, rL⟩ := id hns
  have hint : ∀ {L : Addr}, interactive (ksEnv q scope L fI (.ref cda) cc) = false := by
    intro L
    unfold interactive
    simp [k1]
  refine ks_wpAt_execs_cons (ks_wpAt_Expr_any (ks_wpAt_MethodCall (ks_wpAt_super_base n1 n2 (by decide) rfl (KX0 _ _ lf) rfl hpar rfl (KX0 _ _ lc) rfl hvs hfile htop ?_) (ev_mcall rfl hline)) (hi := hint))
  refine ks_loadName_global k1 n1 (loadGlobal_builtin (e0.mod.glob.keeps kb) (mg_none_of e0.mod.kin e0.mod.glob T.gsup) (hbn.keeps kb) ((hbb _ (by decide +kernel)).trans (show bootBuiltins "super" = some (.type "super") by kernel_rfl)) ⟨rfl, ?_⟩)
  refine wpAny_loadName_free k1 n2 rfl ⟨_, KX0 _ _ lcell, rfl⟩ ?_
  rw [har]
  refine wpAny_loadName_local k1 n3 hns mS ?_
  refine ks_wpAny_isType_cls hD1 hD2 ⟨rfl, ?_⟩
  refine ks_wpAny_call_super hD1 hD2 I0.at_ I0.cls (fun c e => by cases e) (looks_mroIn KX0 T.own) fun h1 e1 kh1 => ?_
  have X1 : K.In h1 := KX0.keeps kh1
  have I1 : InstAt h1 a (PySem.HandSPX.excO C t0) C none := ⟨kh1 _ _ oa0, rfl, rfl, trivial⟩
  refine kxs_getMethod kxs_ValueError e1 (looks_opaque X1 T.any) (l₀ := cdC.mro) (fun A Q E s k q => wpAny_bind ((looks_clsIn X1 hcC) A _ E s k (wpAny_pure q))) rfl X1 hal (I1.type.andThen (looks_subIn X1 T.subB)) (ks_ne X1 I1 hcC) (by decide) ?_
  have k2' : ∀ b o, h₀.get? b = some o → (h1.push (kxs_mw "ValueError.__init__" a)).get? b = some o := fun b o e => Heap.get?_push_of_some _ (kh1 b o e)
  have ns2 : (h1.push (kxs_mw "ValueError.__init__" a)).Ns s.heap.objs.size (fun x => ([("self", Value.ref a), (f1, u1), (f2, u2)] : List (Str × Value)).reverse.lookup x) := ⟨oL, esL, epL, k2' _ _ hL0, rL⟩
  refine kxs_callWith (i := "ValueError.__init__") (u := h1.objs.size) (x := a) rfl (evalArgs_plain ?_)
  refine spliced_cons (wpAny_Name (wpAny_loadName_local k1 n4 ns2 m1 (spliced_cons (wpAny_Name (wpAny_loadName_local k1 n5 ns2 m2 (spliced_nil ⟨Heap.get?_push_size _ rfl, ?_⟩)) db2))) db1)
  refine mw_call T.oex (KX0.keeps k2') (k2' _ _ oa0) (Heap.get?_push_size _ rfl) (by show (2 : Nat) ≤ sizeLine; decide) fun h2 t1 kh2 ha2 => ?_
  have keep2 : ∀ b o, b ≠ a → h₀.get? b = some o → h2.get? b = some o := fun b o hb e => kh2 b o hb (k2' b o e)
  have X2 : K.In h2 := fun b o e => keep2 b o (fun z => by
    have q := KX0 b o e
    rw [z, oa0] at q
    cases q
    rw [z] at e
    have q2 := e0.mod.kin _ _ e
    have q3 := (e0.bs _ _ q2).2
    rw [ea] at q3
    cases q3) (KX0 b o e)
  obtain ⟨nmC, qC, NC, bsC, bmC, snC, subC, abC, colC, ddC, c0, c1, c2, c3, c5, hlC, hbm⟩ := T.oex.cls
  have hcl : clsIn K C = some { name := nmC, bases := bsC, mro := .ref C :: bmC, ns := NC, qualname := qC, hasDict := true, slotNames := snC, subclasses := subC, abstract := abC, collection := colC, hasDel := false } := by
    unfold clsIn
    rw [hlC] <;> rfl
  have ns3 := nsTo aL hns keep2
  -- self.f1 = f1
  refine ks_wpAt_execs_cons (ks_wpAt_Assign_Attr (wpAt_of_wpAny (wpAny_Name (wpAny_loadName_local k1 n4 ns3 m1 (wpAny_Name (wpAny_loadName_local k1 n3 ns3 mS ?_) (by decide))) db1)))
  refine set_plain X2 (ox := { cls := .ref C, dict := none, data := .fields #[.ref t1, .none, .none, .none, .bool false, .none] }) (od := none) ⟨ha2, rfl, rfl, trivial⟩ T.oex.sa ?_
  refine PySem.HandSPX.exc_osa X2 ha2 hcl (show PySem.HandSPX.refsVE (.ref C :: bmC) = true from hbm) rfl T.no1 fun h3 tk3 dx kh3 hdx hda ha3 hn3 => ?_
  have keep3 : ∀ b o, b ≠ a → h₀.get? b = some o → h3.get? b = some o := fun b o hb e => kh3 b o hb (keep2 b o hb e)
  have X3 : K.In h3 := fun b o e => kh3 b o (fun z => by
    have q := X2 b o e
    rw [z, ha2] at q
    cases q
    rw [z] at e
    have q2 := e0.mod.kin _ _ e
    have q3 := (e0.bs _ _ q2).2
    rw [ea] at q3
    cases q3) (X2 b o e)
  have ns4 := nsTo aL hns keep3
  have w3 : Within (fun y => if y = f1 then some u1 else none) [f1] := fun y hy => by
    by_cases e : y = f1
    · rw [e]
      exact List.mem_cons_self
    · exact absurd (if_neg e) hy
  obtain ⟨oX, _, _, hoX, _, _⟩ := hn3.count w3
  -- self.f2 = f2
  refine ks_wpAt_execs_cons (ks_wpAt_Assign_Attr (wpAt_of_wpAny (wpAny_Name (wpAny_loadName_local k1 n5 ns4 m2 (wpAny_Name (wpAny_loadName_local k1 n3 ns4 mS ?_) (by decide))) db2)))
  refine set_plain X3 (ox := { cls := .ref C, dict := some dx, data := .fields #[.ref t1, .none, .none, .none, .bool false, .none] }) (od := some oX) ⟨ha3, rfl, rfl, hoX⟩ T.oex.sa ?_
  refine PySem.OEX.osa_old X3 ha3 hn3 w3 (by show (1 : Nat) ≤ 1000; decide) hcl (show PySem.HandSPX.refsVE (.ref C :: bmC) = true from hbm) rfl T.no2 fun h4 tk4 kh4 hn4 => ?_
  refine wpAt_of_wpAny (wpAny_execs_nil ?_)
  have sz : s.heap.objs.size ≤ dx := by
    refine Nat.le_trans ?_ hdx
    exact Nat.le_of_lt (Heap.lt_size (keep2 _ _ aL hL0))
  have hHd : H dx = none := e0.hok.fresh sz
  have ne4 : ∀ {b : Addr} {o : Obj}, s.heap.get? b = some o → b ≠ dx := fun {b o} e => Nat.ne_of_lt (Nat.lt_of_lt_of_le (Heap.lt_size e) sz)
  have keep4 : ∀ b o, b ≠ a → s.heap.get? b = some o → h4.get? b = some o := fun b o hb e => kh4 b o (ne4 e) (keep3 b o hb (kp b o e))
  have ha4 := kh4 a _ (Ne.symm hda) ha3
  have nA : ∀ {b : Addr}, H b = none → b ≠ a := fun {b} n z => by
    rw [z, ea] at n
    cases n
  refine ⟨.non, _, rfl, e0.bare, ?_, ?_, rfl, hq dx hHd hda⟩
  · exact {
      keep := fun b o e n _ _ => keep4 b o (nA n) e
      slot := fun b o e n _ _ => ⟨o.slots, keep4 b o (nA n) e⟩
      free := fun b o e n _ => by rw [upd_ne (nA n), upd_ne (ne4 e)]; exact n
      there := fun b o e _ => by
        by_cases z : b = a
        · rw [z]
          exact ⟨_, ha4⟩
        · exact ⟨o, keep4 b o z e⟩
      tups := fun b xs e => by rw [upd_ne (at_ne ea e exo_tup), upd_ne (ne_of_none e hHd)]; exact e
      frzs := fun b o v e => by rw [upd_ne (at_ne ea e exo_frz), upd_ne (ne_of_none e hHd)]; exact e
      tbls := fun b ps e => ⟨#[], by rw [upd_ne (at_ne ea e exo_tbl), upd_ne (ne_of_none e hHd), e]; simp⟩ }
  · intro b o e
    by_cases z : b = a
    · subst z
      rw [upd_same] at e
      cases e
      exact exo_ok ha4
    · rw [upd_ne z] at e
      by_cases zd : b = dx
      · subst zd
        rw [upd_same] at e
        cases e
        refine exd_ok hn4 fun f => ?_
        exact relO_put rc (relO_put (fs := []) (mA := fun _ => none) rb fun _ => True.intro) f
      · rw [upd_ne zd] at e
        refine (e0.hok b o e).stay (fun c v hc y => ?_) (fun c hc => ?_) fun c xs hc => ?_
        · refine keep4 c v ?_ y
          rcases hc with hc | hc
          · rw [hc]
            exact z
          · exact at_ne ea hc exo_own
        · rw [upd_ne (at_ne ea hc exo_own), upd_ne (ne_of_none hc hHd)]
          exact hc
        · rw [upd_ne (at_ne ea hc exo_tup), upd_ne (ne_of_none hc hHd)]
          exact hc
end
end FL

namespace FL
open PySem PySem.Spec PyProof.Rows L2 PySem.W PySem.Calls
/-! ### the caught exception, looked at -/
/-- what is written of an exception's class -/
structure KiF (K : Frag) (C : Addr) : Prop where
  cl : (clsIn K C).isSome = true
  ga : findIn K (.ref C) "__getattribute__" = some (some (.builtin "BaseException.__getattribute__"))
  gg : findIn K (.ref C) "__getattr__" = some none
  bs : subIn K (.ref C) (.type "BaseException") = some true
  kc : findIn K (.ref C) "__class__" = some (some (.builtin "object.__class__"))
  hn : specialIn K (.builtin "object.__class__") "__get__" = some (some (.builtin "getset_descriptor.__get__"))
  tk : takesIn K (.builtin "object.__class__") = some true
  ob : mroIn K C (.type "object") = some true
  hd : hasDictIn K C = true
structure Caught (X : Cx) (a C dd : Addr) (oe : Obj) : Prop where
  pin : (a, oe) ∈ X.pn
  z : Zc (.ref C) (some dd) oe
  dat : ∃ vs, oe.data = .fields vs
  kit : KiF X.K C
section
variable {X : Cx} {a C dd : Addr} {oe : Obj}
theorem Caught.inst (c : Caught X a C dd oe) {pins : List (Addr × Obj)} {σ : L2.St} {H : Hp} {s : Shared} (I : Inv X pins σ H s) {od : Obj} (ho : s.heap.get? dd = some od) : InstAt s.heap a oe C (some od) := by
  obtain ⟨vs, hd⟩ := c.dat
  exact ⟨(I.pin (a, oe) (List.mem_append_left _ c.pin)).1, c.z.1, by unfold notCls; rw [hd] <;> rfl, by rw [c.z.2]; exact ho⟩
/-- isinstance(e, D) -/
def rIsx (K : Frag) (a C dd : Addr) : List V → Hp → VK → Prop := fun xs H Q => ∃ (y : V) (u : Value) (b : Bool) (ws : List (Str × V)), xs = [.ref a, y] ∧ ((∃ D, y = .ref D ∧ u = .ref D) ∨ ∃ n, y = .ty n ∧ u = .type n) ∧ H dd = some (.xd ws) ∧ kitOne K (.ref C) u = some b ∧ Q (.bl b) H
theorem call_isx (c : Caught X a C dd oe) : CallR X (.builtin "isinstance") (rIsx X.K a C dd) := by
  intro pins s σ H xs us Q I rv h
  obtain ⟨y, u, b, ws, rfl, hy, ed, hk, q⟩ := h
  cases rv with
  | @cons _ u0 _ ur ra rw1 =>
  cases rw1 with
  | @cons _ u1 _ ur1 rb rw2 =>
  cases rw2
  obtain rfl : u0 = Value.ref a := ra
  have e1 : u1 = u := by
    rcases hy with ⟨D, rfl, rfl⟩ | ⟨n, rfl, rfl⟩
    · exact rb
    · exact rb
  subst e1
  obtain ⟨mA, hns, hr⟩ : ∃ mA, s.heap.Ns1 dd mA ∧ ∀ f, RelO (ws.lookup f) (mA f) := I.hok dd _ ed
  obtain ⟨od, ho, _⟩ := lookIn_ns hns
  exact kia_one (kitx_exc (ox := oe) (od := some od) c.kit.cl c.kit.ga c.kit.gg c.kit.bs c.kit.kc c.kit.hn c.kit.tk c.kit.ob) I.kIn (c.inst I ho) hk (by intro z; cases z) fun tk => ⟨.bl b, H, I.tok _, rfl, q⟩
/-- e.f -/
def tFx (a dd : Addr) (f : Str) (te : TE) : TE := fun σ H Q => te σ H fun x H1 => x = .ref a ∧ ∃ (fs : List (Str × V)) (v : V), H1 dd = some (.xd fs) ∧ fs.lookup f = some v ∧ Q v H1
theorem pe_fx {e : Expr} {te : TE} {pos : Pos} {n : Str} (c : Caught X a C dd oe) (hno : findIn X.K (.ref C) n = some none) (he : PE X e te) (hb : attributeBase e n X.env (eval e X.env) = eval e X.env) : PE X (.Attribute e n pos) (tFx a dd n te) := by
  refine ⟨fun pins s σ H Q I h => ?_⟩
  refine attr_of hb (thn (he.run pins s σ H _ I h) fun u s1 hh => ?_)
  obtain ⟨x, H1, I1, rx, ex, fs, v, ea, l, q⟩ := hh
  subst ex
  obtain rfl : u = Value.ref a := rx
  obtain ⟨mA, hns, hr⟩ : ∃ mA, s1.heap.Ns1 dd mA ∧ ∀ f, RelO (fs.lookup f) (mA f) := I1.hok dd _ ea
  obtain ⟨od, ho, hl⟩ := lookIn_ns hns
  obtain ⟨u, hu, ru⟩ := RelO.some_of (v := v) (o := mA n) (by rw [← l]; exact hr n)
  exact HandSPX.exc_get I1.kIn (c.inst I1 ho) c.kit.ga c.kit.gg c.kit.bs (findObj_own c.kit.hd hno rfl (by rw [hl, hu])) (handed_of ru) ⟨v, H1, I1.tok _, ru, q⟩
/-- xs.count(True) of bools -/
def eqT (v : Value) : Bool := match v with
  | .bool b => b
  | _ => false
theorem vals_bools : ∀ {bs : List Bool} {us : List Value}, Vals (bs.map V.bl) us → (∀ y ∈ us, ∃ b, y = .bool b) ∧ us.countP eqT = bs.count true
  | [], _, .nil => ⟨fun _ h => (by cases h), rfl⟩
  | b :: bs, _, .cons r rs => by
    obtain ⟨h1, h2⟩ := vals_bools (bs := bs) rs
    have r' : _ = Value.bool b := r
    subst r'
    refine ⟨fun y hy => ?_, ?_⟩
    · rcases List.mem_cons.mp hy with e | e
      · exact ⟨b, e⟩
      · exact h1 y e
    · rw [List.countP_cons, List.count_cons, h2]
      cases b <;> rfl
def rCntB (K : Frag) : V → List V → Hp → VK → Prop := fun x xs H Q => ∃ (p : Addr) (bs : List Bool), x = .ref p ∧ xs = [.bl true] ∧ SqL K H p (bs.map V.bl) ∧ Q (.int (bs.count true : Nat)) H
theorem mt_bcount : MtR X "list.count" (rCntB X.K) := by
  intro pins s σ H x xs v us Q I rx rxs h
  obtain ⟨p, bs, rfl, rfl, hs, q⟩ := h
  cases rx
  obtain ⟨u, rfl, ru⟩ := rxs.one
  obtain rfl : u = Value.bool true := ru
  obtain ⟨its, rv, ⟨⟨cls, d1, data, sl⟩, n, ho, hc, hdn, hd⟩, hlen⟩ := I.list hs
  simp only at hc hd
  subst hc hd
  obtain ⟨hb, hcnt⟩ := vals_bools rv
  refine call_meets PySem.F.slot_list_count ⟨_, ho, rfl⟩ PySem.F.entry_list_count (PySem.F.args_list_count_2 _ _) (SeqAt.list_countAt p its.toArray n d1 sl (.bool true) eqT) ⟨ho, fun y hy => ?_, ?_⟩
  · obtain ⟨b, rfl⟩ := hb y (by simpa using hy)
    have := SeqAt.EqAt.bool_bool (A := X.A.in1) (s := s) b true
    cases b <;> exact this
  · refine ⟨.int (bs.count true : Nat), H, I.tok _, ⟨s.toks, ?_⟩, q⟩
    show Value.int ((its.toArray.toList.countP eqT : Nat) : Int) s.toks = _
    rw [show its.toArray.toList.countP eqT = bs.count true from hcnt]
end
end FL

namespace FL
open PySem PySem.Spec PyProof.Rows L2 PySem.W PySem.Calls
/-! ### what the laws make of a caught error -/
def refBody (p1 p2 p3 p4 p5 p6 p7 p8 p9 p10 p11 p12 p13 p14 p15 p16 p17 p18 p19 p20 p21 p22 p23 p24 p25 p26 p27 p28 p29 p30 p31 p32 p33 p34 p35 p36 p37 p38 p39 p40 p41 p42 p43 p44 p45 p46 p47 p48 p49 p50 p51 p52 p53 p54 p55 p56 p57 p58 p59 p60 p61 p62 p63 p64 p65 p66 p67 p68 p69 p70 p71 p72 p73 p74 p75 p76 p77 p78 p79 p80 p81 p82 p83 p84 p85 p86 p87 p88 p89 p90 p91 p92 p93 p94 p95 p96 p97 p98 p99 p100 p101 p102 p103 p104 p105 : Pos) (j1 j2 j3 j4 j5 j6 j7 j8 j9 j10 j11 j12 j13 j14 j15 j16 j17 j18 j19 j20 : Nat) : List Stmt := [
  .Assign [(.Name "_law_families" p1)] (.List [(.Call (.Name "isinstance" p2) [(.Name "_law_error" p3), (.Name "PaperError" p4)] [] p5), (.Call (.Name "isinstance" p6) [(.Name "_law_error" p7), (.Name "WebError" p8)] [] p9), (.Call (.Name "isinstance" p10) [(.Name "_law_error" p11), (.Name "LiveError" p12)] [] p13)] p14) p15,
  .Expr (.Call (.Attribute (.Name "_law_families" p16) "append" p17) [(.Call (.Name "isinstance" p18) [(.Name "_law_error" p19), (.Name "TextError" p20)] [] p21)] [] p22) p23,
  .If (.BoolOp .Or [(.Compare (.Call (.Attribute (.Name "_law_families" p24) "count" p25) [(.Constant (.bool true) j1 p26)] [] p27) [.NotEq] [(.Constant (.int 1) j2 p28)] p29), (.UnaryOp .Not (.Call (.Name "isinstance" p30) [(.Name "_law_error" p31), (.Name "ValueError" p32)] [] p33) p34)] p35) [.Return (some (.Tuple [(.Constant (.str "no") j3 p36), (.Constant (.str "odd") j4 p37)] j5 p38)) p39] [] p40,
  .If (.BoolOp .And [(.Subscript (.Name "_law_families" p41) (.Constant (.int 0) j6 p42) p43), (.Call (.Name "isinstance" p44) [(.Name "_law_error" p45), (.Name "InvalidPaper" p46)] [] p47)] p48) [.Return (some (.Tuple [(.Constant (.str "no") j7 p49), (.Constant (.str "paper") j8 p50), (.Attribute (.Name "_law_error" p51) "word" p52), (.Attribute (.Name "_law_error" p53) "at" p54)] j9 p55)) p56] [] p57,
  .If (.BoolOp .And [(.Subscript (.Name "_law_families" p58) (.Constant (.int 1) j10 p59) p60), (.Call (.Name "isinstance" p61) [(.Name "_law_error" p62), (.Name "NotUsable" p63)] [] p64), (.UnaryOp .Not (.Call (.Name "isinstance" p65) [(.Name "_law_error" p66), (.Name "Missed" p67)] [] p68) p69)] p70) [.Return (some (.Tuple [(.Constant (.str "no") j11 p71), (.Constant (.str "use") j12 p72), (.Attribute (.Name "_law_error" p73) "word" p74), (.Attribute (.Name "_law_error" p75) "at" p76)] j13 p77)) p78] [] p79,
  .If (.BoolOp .And [(.Subscript (.Name "_law_families" p80) (.Constant (.int 3) j14 p81) p82), (.Call (.Name "isinstance" p83) [(.Name "_law_error" p84), (.Name "InvalidText" p85)] [] p86), (.UnaryOp .Not (.Call (.Name "isinstance" p87) [(.Name "_law_error" p88), (.Name "InvalidRow" p89)] [] p90) p91)] p92) [.Return (some (.Tuple [(.Constant (.str "no") j15 p93), (.Constant (.str "text") j16 p94), (.Attribute (.Name "_law_error" p95) "line" p96), (.Attribute (.Name "_law_error" p97) "field" p98)] j17 p99)) p100] [] p101,
  .Return (some (.Tuple [(.Constant (.str "no") j18 p102), (.Constant (.str "odd") j19 p103)] j20 p104)) p105]

def clsNames : List Str := ["PaperError", "WebError", "LiveError", "TextError", "InvalidPaper", "NotUsable", "Missed", "InvalidText", "InvalidRow"]
/-- which families a told class is of -/
def bitOf (x y : Str) : Bool :=
  if x = "InvalidPaper" then decide (y = "PaperError" ∨ y = "InvalidPaper") else if x = "NotUsable" then decide (y = "WebError" ∨ y = "NotUsable") else decide (y = "TextError" ∨ y = "InvalidText")
/-- the context of such a def's body -/
structure RefX (X : Cx) (a C dd : Addr) (oe : Obj) (x : Str) (f1 f2 : Str) : Prop where
  c : Caught X a C dd oe
  N : X.N = (["_law_error", "_law_families"] : List Str)
  v0 : X.env.scope.names.lookup ("_law_error" : Str) = some .local
  v1 : X.env.scope.names.lookup ("_law_families" : Str) = some .local
  gi : X.env.scope.names.lookup ("isinstance" : Str) = some .globalImplicit
  gv : X.env.scope.names.lookup ("ValueError" : Str) = some .globalImplicit
  mi : X.mg "isinstance" = none
  mv : X.mg "ValueError" = none
  kv : kitOne X.K (.ref C) (.type "ValueError") = some true
  cs : ∀ y ∈ clsNames, X.env.scope.names.lookup y = some .globalImplicit ∧ ∃ D, X.mg y = some (.ref D) ∧ kitOne X.K (.ref C) (.ref D) = some (bitOf x y)
  n1 : findIn X.K (.ref C) f1 = some none
  n2 : findIn X.K (.ref C) f2 = some none
section
variable {X : Cx} {a C dd : Addr} {oe : Obj} {x f1 f2 : Str}
def tIx (a dd : Addr) (b : Bool) : TE := fun σ H Q => σ[0]? = some (some (.ref a)) ∧ (∃ ws, H dd = some (.xd ws)) ∧ Q (.bl b) H
theorem RefX.var (g : RefX X a C dd oe x f1 f2) {p : Pos} : PE X (.Name "_law_error" p) (tVar 0) := pe_var (i := 0) (by rw [g.N]; rfl) (.inl g.v0) (by decide) (by decide)
theorem RefX.fam (g : RefX X a C dd oe x f1 f2) {p : Pos} : PE X (.Name "_law_families" p) (tVar 1) := pe_var (i := 1) (by rw [g.N]; rfl) (.inl g.v1) (by decide) (by decide)
theorem RefX.isx (g : RefX X a C dd oe x f1 f2) {y : Str} (hy : y ∈ clsNames) (hd : (y == ("__debug__" : Str)) = false) {q1 q2 q3 pos : Pos} : PE X (.Call (.Name "isinstance" q1) [.Name "_law_error" q2, .Name y q3] [] pos) (tIx a dd (bitOf x y)) := by
  obtain ⟨hg, D, hm, hk⟩ := g.cs y hy
  refine ⟨fun pins s σ H Q I h => (pe_callB (call_isx g.c) g.gi g.mi boot_isinstance (pa_cons g.var (pa_cons (pe_glob (v := .ref D) hg hm rfl hd) pa_nil)) (by decide) (by decide)).run pins s σ H Q I ?_⟩
  obtain ⟨h1, ⟨ws, h2⟩, h3⟩ := h
  exact ⟨_, h1, _, _, _, ws, rfl, .inl ⟨D, rfl, rfl⟩, h2, hk, h3⟩
theorem RefX.isv (g : RefX X a C dd oe x f1 f2) {q1 q2 q3 pos : Pos} : PE X (.Call (.Name "isinstance" q1) [.Name "_law_error" q2, .Name "ValueError" q3] [] pos) (tIx a dd true) := by
  refine ⟨fun pins s σ H Q I h => (pe_callB (call_isx g.c) g.gi g.mi boot_isinstance (pa_cons g.var (pa_cons (pe_bltn (v := .ty "ValueError") g.gv g.mv PyProof.Rows.Boot.«ValueError» rfl (by decide) (by decide)) pa_nil)) (by decide) (by decide)).run pins s σ H Q I ?_⟩
  obtain ⟨h1, ⟨ws, h2⟩, h3⟩ := h
  exact ⟨_, h1, _, _, _, ws, rfl, .inr ⟨_, rfl, rfl⟩, h2, g.kv, h3⟩
theorem pss_never {l : List Stmt} : PSs X l (fun _ _ _ => False) := ⟨fun _ _ _ _ _ _ h => h.elim⟩
theorem g_in (y : Str) (h : decide (y ∈ clsNames) = true) : y ∈ clsNames := of_decide_eq_true h
/-- what stands behind the families' test -/
theorem ref_pre (g : RefX X a C dd oe x f1 f2) (hc : ([bitOf x "PaperError", bitOf x "WebError", bitOf x "LiveError", bitOf x "TextError"] : List Bool).count true = 1) {p1 p2 p3 p4 p5 p6 p7 p8 p9 p10 p11 p12 p13 p14 p15 p16 p17 p18 p19 p20 p21 p22 p23 p24 p25 p26 p27 p28 p29 p30 p31 p32 p33 p34 p35 p36 p37 p38 p39 p40 : Pos} {j1 j2 j3 j4 j5 : Nat} {rest : List Stmt} {u : TS} (h1 : (p17.endLine == p22.line) = true) (h2 : (p25.endLine == p27.line) = true) (hr : PSs X rest u) :
    ∃ t, PSs X (.Assign [(.Name "_law_families" p1)] (.List [(.Call (.Name "isinstance" p2) [(.Name "_law_error" p3), (.Name "PaperError" p4)] [] p5), (.Call (.Name "isinstance" p6) [(.Name "_law_error" p7), (.Name "WebError" p8)] [] p9), (.Call (.Name "isinstance" p10) [(.Name "_law_error" p11), (.Name "LiveError" p12)] [] p13)] p14) p15 ::
      .Expr (.Call (.Attribute (.Name "_law_families" p16) "append" p17) [(.Call (.Name "isinstance" p18) [(.Name "_law_error" p19), (.Name "TextError" p20)] [] p21)] [] p22) p23 ::
      .If (.BoolOp .Or [(.Compare (.Call (.Attribute (.Name "_law_families" p24) "count" p25) [(.Constant (.bool true) j1 p26)] [] p27) [.NotEq] [(.Constant (.int 1) j2 p28)] p29), (.UnaryOp .Not (.Call (.Name "isinstance" p30) [(.Name "_law_error" p31), (.Name "ValueError" p32)] [] p33) p34)] p35) [.Return (some (.Tuple [(.Constant (.str "no") j3 p36), (.Constant (.str "odd") j4 p37)] j5 p38)) p39] [] p40 :: rest) t ∧ ∀ (Z : Ends) (H : Hp) (ws : List (Str × V)), H dd = some (.xd ws) →
      (∀ l H', H' l = some (.lst [.bl (bitOf x "PaperError"), .bl (bitOf x "WebError"), .bl (bitOf x "LiveError"), .bl (bitOf x "TextError")]) → (∀ b o, H b = some o → H' b = some o) → u Z [some (.ref a), some (.ref l)] H') → t Z [some (.ref a), none] H := by
  have nd : X.N.Nodup := by rw [g.N]; decide
  have n1 : X.N[1]? = some ("_law_families" : Str) := by rw [g.N]; rfl
  refine ⟨_, pss_cons (ps_asg (pe_lst (pa_cons (g.isx (g_in _ (by decide +kernel)) (by decide)) (pa_cons (g.isx (g_in _ (by decide +kernel)) (by decide)) (pa_cons (g.isx (g_in _ (by decide +kernel)) (by decide)) pa_nil)))) (pg_name nd n1 (.inl g.v1) (.inr g.v1)))
    (pss_cons (ps_expr (pe_bm PySem.F.plainAttrs_list PySem.F.slot_list_append PySem.F.type_list_append mt_append g.fam (pa_cons (g.isx (g_in _ (by decide +kernel)) (by decide)) pa_nil) rfl rfl h1 rfl rfl))
    (pss_cons (ps_if (PW.pt (pw_or (pt_cmpR op_ne (pe_bm PySem.F.plainAttrs_list PySem.F.slot_list_count PySem.F.type_list_count mt_bcount g.fam (pa_cons pe_bl pa_nil) rfl rfl h2 rfl rfl) pe_int rfl) (pw_or1 (pt_not (pt_val g.isv))))) pss_never pss_nil) hr)), fun Z H ws hd hz => ?_⟩
  refine ⟨rfl, ⟨ws, hd⟩, rfl, ⟨ws, hd⟩, rfl, ⟨ws, hd⟩, (show (3 : Nat) ≤ sizeLine by decide), fun l hl => ?_⟩
  have ndl : dd ≠ l := fun z => by rw [z, hl] at hd; cases hd
  refine ⟨.ref l, rfl, .inl ⟨rfl, _, .of upd_same⟩, rfl, ⟨ws, by rw [upd_ne ndl]; exact hd⟩, l, _, _, rfl, rfl, upd_same, (show (3 : Nat) < sizeLine by decide), ?_⟩
  generalize hH : upd (upd H l (HO.lst [V.bl (bitOf x "PaperError"), V.bl (bitOf x "WebError"), V.bl (bitOf x "LiveError")])) l (HO.lst ([V.bl (bitOf x "PaperError"), V.bl (bitOf x "WebError"), V.bl (bitOf x "LiveError")] ++ [V.bl (bitOf x "TextError")])) = H2
  have el : H2 l = some (.lst (([bitOf x "PaperError", bitOf x "WebError", bitOf x "LiveError", bitOf x "TextError"] : List Bool).map V.bl)) := by rw [← hH, upd_same]; rfl
  have keep : ∀ b o, H b = some o → H2 b = some o := fun b o e => by
    have ne : b ≠ l := fun z => by rw [z, hl] at e; cases e
    rw [← hH, upd_ne ne, upd_ne ne]
    exact e
  refine ⟨.ref l, rfl, .inl ⟨rfl, _, .of el⟩, l, _, rfl, rfl, .of el, rfl, false, ?_, ?_⟩
  · rw [hc]
    rfl
  · refine ⟨rfl, ⟨ws, keep _ _ hd⟩, true, rfl, ?_⟩
    exact hz l H2 el keep
theorem ref_paper (g : RefX X a C dd oe "InvalidPaper" "word" "at") {p1 p2 p3 p4 p5 p6 p7 p8 p9 p10 p11 p12 p13 p14 p15 p16 p17 p18 p19 p20 p21 p22 p23 p24 p25 p26 p27 p28 p29 p30 p31 p32 p33 p34 p35 p36 p37 p38 p39 p40 p41 p42 p43 p44 p45 p46 p47 p48 p49 p50 p51 p52 p53 p54 p55 p56 p57 p58 p59 p60 p61 p62 p63 p64 p65 p66 p67 p68 p69 p70 p71 p72 p73 p74 p75 p76 p77 p78 p79 p80 p81 p82 p83 p84 p85 p86 p87 p88 p89 p90 p91 p92 p93 p94 p95 p96 p97 p98 p99 p100 p101 p102 p103 p104 p105 : Pos} {j1 j2 j3 j4 j5 j6 j7 j8 j9 j10 j11 j12 j13 j14 j15 j16 j17 j18 j19 j20 : Nat} (h1 : (p17.endLine == p22.line) = true) (h2 : (p25.endLine == p27.line) = true) :
    ∃ t, PSs X (refBody p1 p2 p3 p4 p5 p6 p7 p8 p9 p10 p11 p12 p13 p14 p15 p16 p17 p18 p19 p20 p21 p22 p23 p24 p25 p26 p27 p28 p29 p30 p31 p32 p33 p34 p35 p36 p37 p38 p39 p40 p41 p42 p43 p44 p45 p46 p47 p48 p49 p50 p51 p52 p53 p54 p55 p56 p57 p58 p59 p60 p61 p62 p63 p64 p65 p66 p67 p68 p69 p70 p71 p72 p73 p74 p75 p76 p77 p78 p79 p80 p81 p82 p83 p84 p85 p86 p87 p88 p89 p90 p91 p92 p93 p94 p95 p96 p97 p98 p99 p100 p101 p102 p103 p104 p105 j1 j2 j3 j4 j5 j6 j7 j8 j9 j10 j11 j12 j13 j14 j15 j16 j17 j18 j19 j20) t ∧ ∀ (Z : Ends) (H : Hp) (y1 y2 : V), H dd = some (.xd [("at", y2), ("word", y1)]) →
      (∀ p H', (∀ b o, H b = some o → H' b = some o) → H' p = none → Z.rt (.ref p) (upd H' p (.tup [.str "no", .str "paper", y1, y2]))) → t Z [some (.ref a), none] H := by
  have fx1 : ∀ {q1 q2 : Pos}, PE X (.Attribute (.Name "_law_error" q1) "word" q2) (tFx a dd "word" (tVar 0)) := fun {q1 q2} => pe_fx g.c g.n1 g.var rfl
  have fx2 : ∀ {q1 q2 : Pos}, PE X (.Attribute (.Name "_law_error" q1) "at" q2) (tFx a dd "at" (tVar 0)) := fun {q1 q2} => pe_fx g.c g.n2 g.var rfl
  have tail : PSs X [.If (.BoolOp .And [(.Subscript (.Name "_law_families" p41) (.Constant (.int 0) j6 p42) p43), (.Call (.Name "isinstance" p44) [(.Name "_law_error" p45), (.Name "InvalidPaper" p46)] [] p47)] p48) [.Return (some (.Tuple [(.Constant (.str "no") j7 p49), (.Constant (.str "paper") j8 p50), (.Attribute (.Name "_law_error" p51) "word" p52), (.Attribute (.Name "_law_error" p53) "at" p54)] j9 p55)) p56] [] p57, .If (.BoolOp .And [(.Subscript (.Name "_law_families" p58) (.Constant (.int 1) j10 p59) p60), (.Call (.Name "isinstance" p61) [(.Name "_law_error" p62), (.Name "NotUsable" p63)] [] p64), (.UnaryOp .Not (.Call (.Name "isinstance" p65) [(.Name "_law_error" p66), (.Name "Missed" p67)] [] p68) p69)] p70) [.Return (some (.Tuple [(.Constant (.str "no") j11 p71), (.Constant (.str "use") j12 p72), (.Attribute (.Name "_law_error" p73) "word" p74), (.Attribute (.Name "_law_error" p75) "at" p76)] j13 p77)) p78] [] p79, .If (.BoolOp .And [(.Subscript (.Name "_law_families" p80) (.Constant (.int 3) j14 p81) p82), (.Call (.Name "isinstance" p83) [(.Name "_law_error" p84), (.Name "InvalidText" p85)] [] p86), (.UnaryOp .Not (.Call (.Name "isinstance" p87) [(.Name "_law_error" p88), (.Name "InvalidRow" p89)] [] p90) p91)] p92) [.Return (some (.Tuple [(.Constant (.str "no") j15 p93), (.Constant (.str "text") j16 p94), (.Attribute (.Name "_law_error" p95) "line" p96), (.Attribute (.Name "_law_error" p97) "field" p98)] j17 p99)) p100] [] p101, .Return (some (.Tuple [(.Constant (.str "no") j18 p102), (.Constant (.str "odd") j19 p103)] j20 p104)) p105] _ := pss_cons (ps_if (PW.pt (pw_and (pt_val (pe_ix ix_list g.fam pe_int (fun _ _ => rfl))) (pw_and1 (pt_val (g.isx (g_in _ (by decide +kernel)) (by decide)))))) (pss_one (ps_ret (pe_tup (pa_cons pe_str (pa_cons pe_str (pa_cons fx1 (pa_cons fx2 pa_nil))))))) pss_nil) pss_never
  obtain ⟨t, ht, hq⟩ := ref_pre g (by decide +kernel) h1 h2 tail
  refine ⟨t, ht, fun Z H y1 y2 hd hz => hq Z H _ hd fun l H' hl hk => ?_⟩
  have hd' := hk _ _ hd
  refine ⟨.ref l, rfl, l, _, _, _, rfl, rfl, .of hl, rfl, true, (by decide +kernel), ?_⟩
  refine ⟨rfl, ⟨_, hd'⟩, true, (by decide +kernel), ?_⟩
  refine ⟨.ref a, rfl, rfl, _, y1, hd', ?_, .ref a, rfl, rfl, _, y2, hd', ?_, (show (4 : Nat) ≤ sizeLine by decide), fun p hp => hz p H' hk hp⟩
  · rw [lookup_put, if_neg (by decide +kernel), lookup_put, if_pos rfl]
  · rw [lookup_put, if_pos rfl]
theorem ref_use (g : RefX X a C dd oe "NotUsable" "word" "at") {p1 p2 p3 p4 p5 p6 p7 p8 p9 p10 p11 p12 p13 p14 p15 p16 p17 p18 p19 p20 p21 p22 p23 p24 p25 p26 p27 p28 p29 p30 p31 p32 p33 p34 p35 p36 p37 p38 p39 p40 p41 p42 p43 p44 p45 p46 p47 p48 p49 p50 p51 p52 p53 p54 p55 p56 p57 p58 p59 p60 p61 p62 p63 p64 p65 p66 p67 p68 p69 p70 p71 p72 p73 p74 p75 p76 p77 p78 p79 p80 p81 p82 p83 p84 p85 p86 p87 p88 p89 p90 p91 p92 p93 p94 p95 p96 p97 p98 p99 p100 p101 p102 p103 p104 p105 : Pos} {j1 j2 j3 j4 j5 j6 j7 j8 j9 j10 j11 j12 j13 j14 j15 j16 j17 j18 j19 j20 : Nat} (h1 : (p17.endLine == p22.line) = true) (h2 : (p25.endLine == p27.line) = true) :
    ∃ t, PSs X (refBody p1 p2 p3 p4 p5 p6 p7 p8 p9 p10 p11 p12 p13 p14 p15 p16 p17 p18 p19 p20 p21 p22 p23 p24 p25 p26 p27 p28 p29 p30 p31 p32 p33 p34 p35 p36 p37 p38 p39 p40 p41 p42 p43 p44 p45 p46 p47 p48 p49 p50 p51 p52 p53 p54 p55 p56 p57 p58 p59 p60 p61 p62 p63 p64 p65 p66 p67 p68 p69 p70 p71 p72 p73 p74 p75 p76 p77 p78 p79 p80 p81 p82 p83 p84 p85 p86 p87 p88 p89 p90 p91 p92 p93 p94 p95 p96 p97 p98 p99 p100 p101 p102 p103 p104 p105 j1 j2 j3 j4 j5 j6 j7 j8 j9 j10 j11 j12 j13 j14 j15 j16 j17 j18 j19 j20) t ∧ ∀ (Z : Ends) (H : Hp) (y1 y2 : V), H dd = some (.xd [("at", y2), ("word", y1)]) →
      (∀ p H', (∀ b o, H b = some o → H' b = some o) → H' p = none → Z.rt (.ref p) (upd H' p (.tup [.str "no", .str "use", y1, y2]))) → t Z [some (.ref a), none] H := by
  have fx1 : ∀ {q1 q2 : Pos}, PE X (.Attribute (.Name "_law_error" q1) "word" q2) (tFx a dd "word" (tVar 0)) := fun {q1 q2} => pe_fx g.c g.n1 g.var rfl
  have fx2 : ∀ {q1 q2 : Pos}, PE X (.Attribute (.Name "_law_error" q1) "at" q2) (tFx a dd "at" (tVar 0)) := fun {q1 q2} => pe_fx g.c g.n2 g.var rfl
  have tail : PSs X [.If (.BoolOp .And [(.Subscript (.Name "_law_families" p41) (.Constant (.int 0) j6 p42) p43), (.Call (.Name "isinstance" p44) [(.Name "_law_error" p45), (.Name "InvalidPaper" p46)] [] p47)] p48) [.Return (some (.Tuple [(.Constant (.str "no") j7 p49), (.Constant (.str "paper") j8 p50), (.Attribute (.Name "_law_error" p51) "word" p52), (.Attribute (.Name "_law_error" p53) "at" p54)] j9 p55)) p56] [] p57, .If (.BoolOp .And [(.Subscript (.Name "_law_families" p58) (.Constant (.int 1) j10 p59) p60), (.Call (.Name "isinstance" p61) [(.Name "_law_error" p62), (.Name "NotUsable" p63)] [] p64), (.UnaryOp .Not (.Call (.Name "isinstance" p65) [(.Name "_law_error" p66), (.Name "Missed" p67)] [] p68) p69)] p70) [.Return (some (.Tuple [(.Constant (.str "no") j11 p71), (.Constant (.str "use") j12 p72), (.Attribute (.Name "_law_error" p73) "word" p74), (.Attribute (.Name "_law_error" p75) "at" p76)] j13 p77)) p78] [] p79, .If (.BoolOp .And [(.Subscript (.Name "_law_families" p80) (.Constant (.int 3) j14 p81) p82), (.Call (.Name "isinstance" p83) [(.Name "_law_error" p84), (.Name "InvalidText" p85)] [] p86), (.UnaryOp .Not (.Call (.Name "isinstance" p87) [(.Name "_law_error" p88), (.Name "InvalidRow" p89)] [] p90) p91)] p92) [.Return (some (.Tuple [(.Constant (.str "no") j15 p93), (.Constant (.str "text") j16 p94), (.Attribute (.Name "_law_error" p95) "line" p96), (.Attribute (.Name "_law_error" p97) "field" p98)] j17 p99)) p100] [] p101, .Return (some (.Tuple [(.Constant (.str "no") j18 p102), (.Constant (.str "odd") j19 p103)] j20 p104)) p105] _ := pss_cons (ps_if (PW.pt (pw_and (pt_val (pe_ix ix_list g.fam pe_int (fun _ _ => rfl))) (pw_and1 (pt_val (g.isx (g_in _ (by decide +kernel)) (by decide)))))) pss_never pss_nil) (pss_cons (ps_if (PW.pt (pw_and (pt_val (pe_ix ix_list g.fam pe_int (fun _ _ => rfl))) (pw_and (pt_val (g.isx (g_in _ (by decide +kernel)) (by decide))) (pw_and1 (pt_not (pt_val (g.isx (g_in _ (by decide +kernel)) (by decide)))))))) (pss_one (ps_ret (pe_tup (pa_cons pe_str (pa_cons pe_str (pa_cons fx1 (pa_cons fx2 pa_nil))))))) pss_nil) pss_never)
  obtain ⟨t, ht, hq⟩ := ref_pre g (by decide +kernel) h1 h2 tail
  refine ⟨t, ht, fun Z H y1 y2 hd hz => hq Z H _ hd fun l H' hl hk => ?_⟩
  have hd' := hk _ _ hd
  refine ⟨.ref l, rfl, l, _, _, _, rfl, rfl, .of hl, rfl, false, (by decide +kernel), ?_⟩
  refine ⟨.ref l, rfl, l, _, _, _, rfl, rfl, .of hl, rfl, true, (by decide +kernel), ?_⟩
  refine ⟨rfl, ⟨_, hd'⟩, true, (by decide +kernel), ?_⟩
  refine ⟨rfl, ⟨_, hd'⟩, false, (by decide +kernel), ?_⟩
  refine ⟨.ref a, rfl, rfl, _, y1, hd', ?_, .ref a, rfl, rfl, _, y2, hd', ?_, (show (4 : Nat) ≤ sizeLine by decide), fun p hp => hz p H' hk hp⟩
  · rw [lookup_put, if_neg (by decide +kernel), lookup_put, if_pos rfl]
  · rw [lookup_put, if_pos rfl]
theorem ref_text (g : RefX X a C dd oe "InvalidText" "line" "field") {p1 p2 p3 p4 p5 p6 p7 p8 p9 p10 p11 p12 p13 p14 p15 p16 p17 p18 p19 p20 p21 p22 p23 p24 p25 p26 p27 p28 p29 p30 p31 p32 p33 p34 p35 p36 p37 p38 p39 p40 p41 p42 p43 p44 p45 p46 p47 p48 p49 p50 p51 p52 p53 p54 p55 p56 p57 p58 p59 p60 p61 p62 p63 p64 p65 p66 p67 p68 p69 p70 p71 p72 p73 p74 p75 p76 p77 p78 p79 p80 p81 p82 p83 p84 p85 p86 p87 p88 p89 p90 p91 p92 p93 p94 p95 p96 p97 p98 p99 p100 p101 p102 p103 p104 p105 : Pos} {j1 j2 j3 j4 j5 j6 j7 j8 j9 j10 j11 j12 j13 j14 j15 j16 j17 j18 j19 j20 : Nat} (h1 : (p17.endLine == p22.line) = true) (h2 : (p25.endLine == p27.line) = true) :
    ∃ t, PSs X (refBody p1 p2 p3 p4 p5 p6 p7 p8 p9 p10 p11 p12 p13 p14 p15 p16 p17 p18 p19 p20 p21 p22 p23 p24 p25 p26 p27 p28 p29 p30 p31 p32 p33 p34 p35 p36 p37 p38 p39 p40 p41 p42 p43 p44 p45 p46 p47 p48 p49 p50 p51 p52 p53 p54 p55 p56 p57 p58 p59 p60 p61 p62 p63 p64 p65 p66 p67 p68 p69 p70 p71 p72 p73 p74 p75 p76 p77 p78 p79 p80 p81 p82 p83 p84 p85 p86 p87 p88 p89 p90 p91 p92 p93 p94 p95 p96 p97 p98 p99 p100 p101 p102 p103 p104 p105 j1 j2 j3 j4 j5 j6 j7 j8 j9 j10 j11 j12 j13 j14 j15 j16 j17 j18 j19 j20) t ∧ ∀ (Z : Ends) (H : Hp) (y1 y2 : V), H dd = some (.xd [("field", y2), ("line", y1)]) →
      (∀ p H', (∀ b o, H b = some o → H' b = some o) → H' p = none → Z.rt (.ref p) (upd H' p (.tup [.str "no", .str "text", y1, y2]))) → t Z [some (.ref a), none] H := by
  have fx1 : ∀ {q1 q2 : Pos}, PE X (.Attribute (.Name "_law_error" q1) "line" q2) (tFx a dd "line" (tVar 0)) := fun {q1 q2} => pe_fx g.c g.n1 g.var rfl
  have fx2 : ∀ {q1 q2 : Pos}, PE X (.Attribute (.Name "_law_error" q1) "field" q2) (tFx a dd "field" (tVar 0)) := fun {q1 q2} => pe_fx g.c g.n2 g.var rfl
  have tail : PSs X [.If (.BoolOp .And [(.Subscript (.Name "_law_families" p41) (.Constant (.int 0) j6 p42) p43), (.Call (.Name "isinstance" p44) [(.Name "_law_error" p45), (.Name "InvalidPaper" p46)] [] p47)] p48) [.Return (some (.Tuple [(.Constant (.str "no") j7 p49), (.Constant (.str "paper") j8 p50), (.Attribute (.Name "_law_error" p51) "word" p52), (.Attribute (.Name "_law_error" p53) "at" p54)] j9 p55)) p56] [] p57, .If (.BoolOp .And [(.Subscript (.Name "_law_families" p58) (.Constant (.int 1) j10 p59) p60), (.Call (.Name "isinstance" p61) [(.Name "_law_error" p62), (.Name "NotUsable" p63)] [] p64), (.UnaryOp .Not (.Call (.Name "isinstance" p65) [(.Name "_law_error" p66), (.Name "Missed" p67)] [] p68) p69)] p70) [.Return (some (.Tuple [(.Constant (.str "no") j11 p71), (.Constant (.str "use") j12 p72), (.Attribute (.Name "_law_error" p73) "word" p74), (.Attribute (.Name "_law_error" p75) "at" p76)] j13 p77)) p78] [] p79, .If (.BoolOp .And [(.Subscript (.Name "_law_families" p80) (.Constant (.int 3) j14 p81) p82), (.Call (.Name "isinstance" p83) [(.Name "_law_error" p84), (.Name "InvalidText" p85)] [] p86), (.UnaryOp .Not (.Call (.Name "isinstance" p87) [(.Name "_law_error" p88), (.Name "InvalidRow" p89)] [] p90) p91)] p92) [.Return (some (.Tuple [(.Constant (.str "no") j15 p93), (.Constant (.str "text") j16 p94), (.Attribute (.Name "_law_error" p95) "line" p96), (.Attribute (.Name "_law_error" p97) "field" p98)] j17 p99)) p100] [] p101, .Return (some (.Tuple [(.Constant (.str "no") j18 p102), (.Constant (.str "odd") j19 p103)] j20 p104)) p105] _ := pss_cons (ps_if (PW.pt (pw_and (pt_val (pe_ix ix_list g.fam pe_int (fun _ _ => rfl))) (pw_and1 (pt_val (g.isx (g_in _ (by decide +kernel)) (by decide)))))) pss_never pss_nil) (pss_cons (ps_if (PW.pt (pw_and (pt_val (pe_ix ix_list g.fam pe_int (fun _ _ => rfl))) (pw_and (pt_val (g.isx (g_in _ (by decide +kernel)) (by decide))) (pw_and1 (pt_not (pt_val (g.isx (g_in _ (by decide +kernel)) (by decide)))))))) pss_never pss_nil) (pss_cons (ps_if (PW.pt (pw_and (pt_val (pe_ix ix_list g.fam pe_int (fun _ _ => rfl))) (pw_and (pt_val (g.isx (g_in _ (by decide +kernel)) (by decide))) (pw_and1 (pt_not (pt_val (g.isx (g_in _ (by decide +kernel)) (by decide)))))))) (pss_one (ps_ret (pe_tup (pa_cons pe_str (pa_cons pe_str (pa_cons fx1 (pa_cons fx2 pa_nil))))))) pss_nil) pss_never))
  obtain ⟨t, ht, hq⟩ := ref_pre g (by decide +kernel) h1 h2 tail
  refine ⟨t, ht, fun Z H y1 y2 hd hz => hq Z H _ hd fun l H' hl hk => ?_⟩
  have hd' := hk _ _ hd
  refine ⟨.ref l, rfl, l, _, _, _, rfl, rfl, .of hl, rfl, false, (by decide +kernel), ?_⟩
  refine ⟨.ref l, rfl, l, _, _, _, rfl, rfl, .of hl, rfl, false, (by decide +kernel), ?_⟩
  refine ⟨.ref l, rfl, l, _, _, _, rfl, rfl, .of hl, rfl, true, (by decide +kernel), ?_⟩
  refine ⟨rfl, ⟨_, hd'⟩, true, (by decide +kernel), ?_⟩
  refine ⟨rfl, ⟨_, hd'⟩, false, (by decide +kernel), ?_⟩
  refine ⟨.ref a, rfl, rfl, _, y1, hd', ?_, .ref a, rfl, rfl, _, y2, hd', ?_, (show (4 : Nat) ≤ sizeLine by decide), fun p hp => hz p H' hk hp⟩
  · rw [lookup_put, if_neg (by decide +kernel), lookup_put, if_pos rfl]
  · rw [lookup_put, if_pos rfl]
end
end FL

namespace FL
open PySem PySem.Spec PyProof.Rows L2 PySem.W PySem.Calls
/-! ### a def called while an exception is handled -/
theorem warm_run {CX : CXT} {P : Program} {w : World} {K : Frag} {mg : Str → Option Value} {base : Heap} {f : Addr} {name qual : Str} {params : Arguments} {body : List Stmt} {scope : Scope} {dV kV doc pm cdv ct oc : Value} {an od : Option Addr} {osl : Array (Option Value)} {N ps : List Str}
    (lk : K.lookup f = some ⟨oc, od, .func (fnOf name qual params body scope dV kV doc pm an cdv ct), osl⟩) (hcd : codeIn K cdv qual = true) (S : FnScope N ps scope) {A : Around} {outer : List Env} {s : Shared} {H : Hp} {args : Args} {us : List Value} {vs : List V} {Q : VK} {E : XK} {p : Addr × Obj}
    (hdp : A.depth < recursionLimit) (hpin : L2H.PinOk outer H s p) (e0 : Env0 P w K mg base A outer s H) (hb : BindsTo s (fnOf name qual params body scope dV kV doc pm an cdv ct) args (ps.zip us)) (r : Vals vs us) (hl : vs.length = ps.length)
    (hbody : ∃ t, PSs (L2H.cxH CX P w K mg base N qual scope f cdv A outer s H E p) body t ∧ t { nx := fun _ H' => Q .non H', rt := Q } (L2.start N vs) H) :
    codeAny (model P w) A (.call (.ref f) args) (CR CX outer P w H s Q E) s := by
  obtain ⟨t, ht, hq⟩ := hbody
  have KX : K.In s.heap := e0.mod.kin.keeps fun b o e => (e0.bs b o e).1
  have par : ∀ y ∈ ps.zip us, scope.names.lookup y.1 = some .local ∨ (scope.names.lookup y.1 = some .cell ∧ ((cellsFrom (s.heap.objs.size + 1) scope.names []).lookup y.1).isSome = true) := by
    intro y hy
    exact (S.par y.1 (List.of_mem_zip (show (y.1, y.2) ∈ ps.zip us from hy)).1).imp id fun q => ⟨q, cellsFrom_some _ _ _ (.inl q)⟩
  refine codeAny_call_function hdp (KX _ _ lk) rfl S.co S.gen rfl (codeRec_of KX hcd) (hb _ _ _ _ (wpAny_newFunctionEnv_cells S.kind par fun env he s1 x => ?_))
  subst he
  refine ⟨(e0.mod.nolimit.keeps fun b o e => (e0.bs b o e).1).keeps x.toInCall.keep, codeAny_func ?_⟩
  refine wpAny_mono (ht.run [] s1 (L2.start N vs) H _ (L2H.inv_startH S hpin e0 hl r x) hq) (fun fl s' hs => ?_) fun e s' hs => hs
  match fl, hs with
  | .ret u, ⟨v, σ', H', J, rv, q⟩ => exact ⟨v, H', J.os, J.bare, J.base, J.hok, rv, q⟩
  | .next, ⟨σ', H', J, q⟩ => exact ⟨V.non, H', J.os, J.bare, J.base, J.hok, rfl, q⟩
  | .brk, ⟨_, _, _, q⟩ => exact False.elim q
  | .cont, ⟨_, _, _, q⟩ => exact False.elim q
/-! ### the def that tells an error, and the one that asks -/
/-- what is written of the two defs -/
structure RefD (K : Frag) (mg : Str → Option Value) (fr : Addr) (sr : Scope) (cdr : Value) : Prop where
  fn : ∃ (oc : Value) (od : Option Addr) (osl : Array (Option Value)) (params : Arguments) (body : List Stmt) (dV kV doc pm : Value) (an : Option Addr) (ct : Value),
    K.lookup fr = some ⟨oc, od, .func (fnOf "_law_refusal" "_law_refusal" params body sr dV kV doc pm an cdr ct), osl⟩ ∧ codeIn K cdr "_law_refusal" = true ∧ keepIn K (.ref fr) = true ∧ mg "_law_refusal" = some (.ref fr) ∧ Binds K (fnOf "_law_refusal" "_law_refusal" params body sr dV kV doc pm an cdr ct) ["_law_error"] [] ∧
    (∀ (X : Cx) (a C dd : Addr) (oe : Obj), RefX X a C dd oe "InvalidPaper" "word" "at" → ∃ t, PSs X body t ∧ ∀ (Z : Ends) (H : Hp) (y1 y2 : V), H dd = some (.xd [("at", y2), ("word", y1)]) → (∀ p H', (∀ b o, H b = some o → H' b = some o) → H' p = none → Z.rt (.ref p) (upd H' p (.tup [.str "no", .str "paper", y1, y2]))) → t Z [some (.ref a), none] H) ∧
    (∀ (X : Cx) (a C dd : Addr) (oe : Obj), RefX X a C dd oe "NotUsable" "word" "at" → ∃ t, PSs X body t ∧ ∀ (Z : Ends) (H : Hp) (y1 y2 : V), H dd = some (.xd [("at", y2), ("word", y1)]) → (∀ p H', (∀ b o, H b = some o → H' b = some o) → H' p = none → Z.rt (.ref p) (upd H' p (.tup [.str "no", .str "use", y1, y2]))) → t Z [some (.ref a), none] H) ∧
    (∀ (X : Cx) (a C dd : Addr) (oe : Obj), RefX X a C dd oe "InvalidText" "line" "field" → ∃ t, PSs X body t ∧ ∀ (Z : Ends) (H : Hp) (y1 y2 : V), H dd = some (.xd [("field", y2), ("line", y1)]) → (∀ p H', (∀ b o, H b = some o → H' b = some o) → H' p = none → Z.rt (.ref p) (upd H' p (.tup [.str "no", .str "text", y1, y2]))) → t Z [some (.ref a), none] H)
  sc : FnScope (["_law_error", "_law_families"] : List Str) ["_law_error"] sr
  v0 : sr.names.lookup ("_law_error" : Str) = some .local
  v1 : sr.names.lookup ("_law_families" : Str) = some .local
  gi : sr.names.lookup ("isinstance" : Str) = some .globalImplicit
  gv : sr.names.lookup ("ValueError" : Str) = some .globalImplicit
  cs : ∀ y ∈ clsNames, sr.names.lookup y = some .globalImplicit
  mi : mg "isinstance" = none
  mv : mg "ValueError" = none
/-- a class that is told -/
structure TolC (K : Frag) (mg : Str → Option Value) (CL C : Addr) (x w f1 f2 : Str) : Prop where
  wd : wordOf x = some (w, f1, f2)
  ki : KiF K C
  ex : exmOne K (.ref C) (.ref CL) = some true
  kv : kitOne K (.ref C) (.type "ValueError") = some true
  cs : ∀ y ∈ clsNames, ∃ D, mg y = some (.ref D) ∧ kitOne K (.ref C) (.ref D) = some (bitOf x y)
  n1 : findIn K (.ref C) f1 = some none
  n2 : findIn K (.ref C) f2 = some none
theorem RefD.go {K : Frag} {mg : Str → Option Value} {fr CL C : Addr} {sr : Scope} {cdr : Value} {x w f1 f2 : Str} (D : RefD K mg fr sr cdr) (T : TolC K mg CL C x w f1 f2) :
    ∃ (oc : Value) (od : Option Addr) (osl : Array (Option Value)) (params : Arguments) (body : List Stmt) (dV kV doc pm : Value) (an : Option Addr) (ct : Value),
    K.lookup fr = some ⟨oc, od, .func (fnOf "_law_refusal" "_law_refusal" params body sr dV kV doc pm an cdr ct), osl⟩ ∧ codeIn K cdr "_law_refusal" = true ∧ keepIn K (.ref fr) = true ∧ mg "_law_refusal" = some (.ref fr) ∧ Binds K (fnOf "_law_refusal" "_law_refusal" params body sr dV kV doc pm an cdr ct) ["_law_error"] [] ∧
    ∀ (X : Cx) (a C dd : Addr) (oe : Obj), RefX X a C dd oe x f1 f2 → ∃ t, PSs X body t ∧ ∀ (Z : Ends) (H : Hp) (y1 y2 : V), H dd = some (.xd [(f2, y2), (f1, y1)]) → (∀ p H', (∀ b o, H b = some o → H' b = some o) → H' p = none → Z.rt (.ref p) (upd H' p (.tup [.str "no", .str w, y1, y2]))) → t Z [some (.ref a), none] H := by
  obtain ⟨oc, od, osl, params, body, dV, kV, doc, pm, an, ct, h1, h2, h3, h4, h5, q1, q2, q3⟩ := D.fn
  refine ⟨oc, od, osl, params, body, dV, kV, doc, pm, an, ct, h1, h2, h3, h4, h5, ?_⟩
  have e := T.wd
  unfold wordOf at e
  split at e
  · rename_i ex
    cases e
    subst ex
    exact q1
  · split at e
    · rename_i ex
      cases e
      subst ex
      exact q2
    · split at e
      · rename_i ex
        cases e
        subst ex
        exact q3
      · cases e
section
variable {X : Cx}
/-- _law_refusal(e) in an except suite -/
def tRef (a dd : Addr) (f1 f2 w : Str) (i : Nat) : TE := fun σ H Q => σ[i]? = some (some (.ref a)) ∧ ∃ y1 y2, H dd = some (.xd [(f2, y2), (f1, y1)]) ∧ ∀ p H', (∀ b o, H b = some o → H' b = some o) → H' p = none → Q (.ref p) (upd H' p (.tup [.str "no", .str w, y1, y2]))
theorem pe_ref {fr CL C a dd : Addr} {oe : Obj} {sr : Scope} {cdr : Value} {x w f1 f2 n : Str} {i : Nat} {pn : List (Addr × Obj)} {q1 q2 pos : Pos} (D : RefD X.K X.mg fr sr cdr) (T : TolC X.K X.mg CL C x w f1 f2) (hz : Zc (.ref C) (some dd) oe) (hf : ∃ vs, oe.data = .fields vs) (hN : X.N[i]? = some n) (hv : Vis X.env.scope n) (hg : X.env.scope.names.lookup ("_law_refusal" : Str) = some .globalImplicit)
    (hd : (X.A.mark (some (.ref a))).depth < recursionLimit) (hn1 : (n == ("__debug__" : Str)) = false) (hn2 : (n == ("__classdict__" : Str)) = false) :
    PE (X.suite a ((a, oe) :: pn)) (.Call (.Name "_law_refusal" q1) [.Name n q2] [] pos) (tRef a dd f1 f2 w i) := by
  obtain ⟨oc, od, osl, params, body, dV, kV, doc, pm, an, ct, lk, hcd, hk, hm, hb, go⟩ := D.go T
  refine ⟨fun pins s σ H Q I h => ?_⟩
  obtain ⟨h0, y1, y2, hdd, hq⟩ := h
  refine wpAny_Call_Name_kw (ld_glob I hg hm ?_ (by decide))
  have ha : PA (X.suite a ((a, oe) :: pn)) [.Name n q2] (tCons (tVar i) tNil) := pa_cons (pe_var (i := i) hN hv hn1 hn2) pa_nil
  refine callWith_K (h₀ := X.base) I.ok.mod.kin hk (thn (ha.run pos pins s σ H (fun vs H1 => vs = [.ref a] ∧ H1 = H) I ⟨.ref a, h0, rfl, rfl⟩) fun us s1 ⟨vs, H1, I1, r1, ev, eH⟩ => ⟨I1.kIn, ?_⟩) (by rfl) (by rfl)
  subst ev
  rw [eH] at I1
  have P1 := I1.pin (a, oe) (List.mem_append_left _ List.mem_cons_self)
  have hpin : L2H.PinOk X.stack H s1 (a, oe) := ⟨P1.1, P1.2.1, fun hm => (List.mem_cons.mp (I1.stkSub a hm)).elim P1.2.2.1 P1.2.2.2.1, P1.2.2.2.2⟩
  have hl : us.length = 1 := by rw [← r1.length]; rfl
  have b := hb s1 us I1.kIn (by rw [List.append_nil, hl]; rfl)
  rw [List.append_nil] at b
  have rc := warm_run (CX := C8.CX0) (E := C8.E0) (Q := Q) (p := (a, oe)) lk hcd D.sc hd hpin I1.env0 b r1 rfl (by
    obtain ⟨t, ht, hq2⟩ := go (L2H.cxH C8.CX0 X.prog X.w X.K X.mg X.base ["_law_error", "_law_families"] "_law_refusal" sr fr cdr (X.A.mark (some (.ref a))) X.stack s1 H C8.E0 (a, oe)) a C dd oe
      ⟨⟨List.mem_singleton.mpr rfl, hz, hf, T.ki⟩, rfl, D.v0, D.v1, D.gi, D.gv, D.mi, D.mv, T.kv, fun y hy => ⟨D.cs y hy, T.cs y hy⟩, T.n1, T.n2⟩
    exact ⟨t, ht, hq2 _ H y1 y2 hdd fun p H' h1 h2 => hq p H' h1 h2⟩)
  refine wpAny_call (codeAny_mono rc fun r s2 hq => ?_)
  match r, hq with
  | .error e, hq => exact (show False from hq).elim
  | .ok (.ret u), hq => exact I1.after hq
  | .ok .next, hq => exact False.elim hq
  | .ok .brk, hq => exact False.elim hq
  | .ok .cont, hq => exact False.elim hq
end
end FL

namespace FL
open PySem PySem.Spec PyProof.Rows L2 PySem.W PySem.Calls
/-- the body of the def that asks -/
def saidBody (p1 p2 p3 p4 p5 p6 p7 p8 p9 p10 p11 p12 : Pos) (j1 j2 : Nat) : List Stmt :=
  [.Try [.Return (some (.Tuple [(.Constant (.str "told") j1 p1), (.Call (.Name "_law_ask" p2) [] [] p3)] j2 p4)) p5] [.ExceptHandler (some (.Name "LetterError" p6)) (some "_law_error") [.Return (some (.Call (.Name "_law_refusal" p7) [(.Name "_law_error" p8)] [] p9)) p10] p11] [] [] p12]
/-- what it makes of the lambda's reading -/
def TSaid (K : Frag) (mg : Str → Option Value) (CL : Addr) : (XK → Hp → VK → Prop) → Hp → VK → Prop := fun tl H Q =>
  tl (fun cls d H' => ∃ (C dd : Addr) (x w f1 f2 : Str) (y1 y2 : V), cls = .ref C ∧ d = some dd ∧ TolC K mg CL C x w f1 f2 ∧ H' dd = some (.xd [(f2, y2), (f1, y1)]) ∧ ∀ p (H'' : Hp), (∀ b o, H' b = some o → H'' b = some o) → H'' p = none → Q (.ref p) (upd H'' p (.tup [.str "no", .str w, y1, y2]))) H
    (fun v H1 => (2 : Nat) ≤ sizeLine ∧ ∀ p, H1 p = none → Q (.ref p) (upd H1 p (.tup [.str "told", v])))
section
variable {X : Cx}
theorem said_gives {sg : Scope} {g CL fr : Addr} {cdg cdr : Value} {sr : Scope} {q : Str} {p1 p2 p3 p4 p5 p6 p7 p8 p9 p10 p11 p12 : Pos} {j1 j2 : Nat} (D : RefD X.K X.mg fr sr cdr) (hl : sg.names.lookup ("_law_error" : Str) = some .local) (hge : sg.names.lookup ("LetterError" : Str) = some .globalImplicit) (hgr : sg.names.lookup ("_law_refusal" : Str) = some .globalImplicit)
    (hme : X.mg "LetterError" = some (.ref CL)) (hr : Room 2 X.A) :
    LamX.GivesTo X ["_law_ask", "_law_error"] "_law_said" sg g cdg (saidBody p1 p2 p3 p4 p5 p6 p7 p8 p9 p10 p11 p12 j1 j2) "_law_ask" q (TSaid X.K X.mg CL) := by
  intro f c' s H Q tl act hc h
  refine ⟨_, pss_one (ps_try_as (X := (cxOf C8.CX0 X.prog X.w X.K X.mg X.base ["_law_ask", "_law_error"] "_law_said" sg g cdg X.A X.stack s H C8.E0).nox) (c := .ref CL) (i := 1)
      (tb := fun W E σ H => ∃ Ech : XK, (∀ cls d σ' H', Ech cls d H' → W cls d σ' H') ∧ σ[0]? = some (some (.ref f)) ∧ H c' = some (LamX.CodeO c' q) ∧ tl Ech H (fun v H1 => (2 : Nat) ≤ sizeLine ∧ ∀ p, H1 p = none → E.rt (.ref p) (upd H1 p (.tup [.str "told", v]))))
      (ts := fun a cls d E σ H' => (∃ σ0 : L2.St, σ = σ0.set 1 (some (.ref a))) ∧ ∃ (C dd : Addr) (x w f1 f2 : Str) (y1 y2 : V), cls = .ref C ∧ d = some dd ∧ TolC X.K X.mg CL C x w f1 f2 ∧ H' dd = some (.xd [(f2, y2), (f1, y1)]) ∧ ∀ p (H'' : Hp), (∀ b o, H' b = some o → H'' b = some o) → H'' p = none → E.rt (.ref p) (upd H'' p (.tup [.str "no", .str w, y1, y2])))
      rfl rfl (by show (["_law_ask", "_law_error"] : List Str).Nodup; decide) rfl hl ⟨hge, by decide, .inl hme⟩ LamX.takes0 (fun W pn xe tk _ => ?_) (fun a oe cls d pn hz hf => ?_)), ?_⟩
  · refine ⟨fun pins s' σ H' E I h' => ?_⟩
    obtain ⟨Ech, hW, h1, h2, h3⟩ := h'
    exact (pss_one (ps_ret (pos := p5) (pe_tup (x1 := j2) (pos := p4) (pa_cons (pe_str (j := j1) (pos := p1)) (pa_cons (act W pn xe Ech p2 p3 tk hW) pa_nil))))).run pins s' σ H' E I ⟨h1, h2, h3⟩
  · refine ⟨fun pins s' σ H' E I h' => ?_⟩
    obtain ⟨⟨σ0, rfl⟩, C, dd, x, w, f1, f2, y1, y2, rfl, rfl, T, hdd, hq⟩ := h'
    have hlen : (σ0.set 1 (some (V.ref a))).length = 2 := I.len
    rw [List.length_set] at hlen
    refine (pss_one (ps_ret (pos := p10) (pe_ref (X := (cxOf C8.CX0 X.prog X.w X.K X.mg X.base ["_law_ask", "_law_error"] "_law_said" sg g cdg X.A X.stack s H C8.E0).nox) (pos := p9) (q1 := p7) (q2 := p8) (i := 1) (n := "_law_error") D T hz hf rfl (.inl hl) hgr ?_ (by decide) (by decide)))).run pins s' _ H' E I ⟨List.getElem?_set_self (by omega), y1, y2, hdd, hq⟩
    have := hr.dp
    show X.A.depth + 1 < recursionLimit
    omega
  · refine ⟨fun cls d H' => ∃ (C dd : Addr) (x w f1 f2 : Str) (y1 y2 : V), cls = .ref C ∧ d = some dd ∧ TolC X.K X.mg CL C x w f1 f2 ∧ H' dd = some (.xd [(f2, y2), (f1, y1)]) ∧ ∀ p (H'' : Hp), (∀ b o, H' b = some o → H'' b = some o) → H'' p = none → Q (.ref p) (upd H'' p (.tup [.str "no", .str w, y1, y2])), ?_, rfl, hc, h⟩
    rintro cls d σ' H' ⟨C, dd, x, w, f1, f2, y1, y2, rfl, rfl, T, hdd, hq⟩
    exact ⟨true, T.ex, fun _ a _ => ⟨⟨σ', rfl⟩, C, dd, x, w, f1, f2, y1, y2, rfl, rfl, T, hdd, hq⟩, fun z => by cases z⟩
end
end FL

namespace FL
open PySem PySem.Spec PyProof.Rows L2 PySem.W PySem.Calls
/-! ### a lambda is made: what is new is told -/
/-- only the table at P grows, and a code object is laid -/
def Grown (P : Addr) (H H1 : Hp) : Prop := H1 = H ∨ ∃ (ps : Array Value) (c : Addr) (q : Str) (ps' : Array Value), H P = some (.tbl ps) ∧ H c = none ∧ H1 = upd (upd H P (.tbl ps')) c (LamX.CodeO c q)
section
variable {X : Cx} {pins : List (Addr × Obj)} {σ : L2.St} {H : Hp} {s : Shared}
theorem lam_new {TL : List (Addr × Str)} {c P : Addr} {params : Arguments} {body : Expr} {scope : Scope} {pos : Pos} {E Q : Value → Shared → Prop} (I : Inv X pins σ H s) (TB : LamX.TabB X.base X.mg c P) (hcode : X.env.code = .ref c) (hm : (P, X.env.qual ++ "<lambda>") ∈ TL) (hu : ∀ p ∈ TL, p.1 = P → p.2 = X.env.qual ++ "<lambda>")
    (hT : LamX.Tabs TL H) (hdef : defaultsOf params X.env = ([], [])) (hfree : ∀ y ∈ scope.names, y.2 = .free → ∃ c, X.env.cells.lookup y.1 = some c)
    (h : ∀ (f c' : Addr) (pm ctv : Value) (H1 : Hp) (s' : Shared), Inv X pins σ H1 s' → Grown P H H1 → LamX.Tabs TL H1 → s'.heap.get? f = some (kla_obj "<lambda>" (X.env.qual ++ "<lambda>") params body scope (cloFrom X.env.cells scope.names []) pm c' ctv) → H1 f = none → f ∉ frs X.stack → H1 c' = some (LamX.CodeO c' (X.env.qual ++ "<lambda>")) → Q (.ref f) s') :
    wpAny (model X.prog X.w) X.A (eval (.Lambda params body scope pos) X.env) Q E s := by
  obtain ⟨ps, hP, tri, among⟩ := hT _ hm
  have oP : s.heap.get? P = some { cls := .none, data := .fields ps } := I.hok P _ hP
  have bA : s.heap.BuiltinsAt X.mg P := TB.bm.keeps I.bk
  have away : ∀ f, s.heap.objs.size ≤ f → f ∉ frs X.stack := by
    intro f hf z
    rcases List.mem_cons.mp (I.stkSub _ z) with e | e
    · have lt := I.lt
      rw [← e] at lt
      exact absurd (Nat.lt_of_lt_of_le lt hf) (Nat.lt_irrefl _)
    · exact I.nofs hf e
  refine kla_eval hdef ?_
  cases hc : codeAmong pos ps.toList with
  | some cv =>
    obtain ⟨c', rfl, hco⟩ := among pos cv hc
    refine kla_makeFunctionHit (mg := X.mg) (c := c) (P := P) (ps := ps) (closure_ok hfree) I.ok.glob (I.mod.glob.keeps I.bk) hcode (TB.code.keeps I.bk) oP tri hc bA fun ctv h' tk hx hsz => ?_
    exact h _ c' _ ctv H _ (I.kept fun b o e => Heap.get?_push_of_some _ (hx b o e)) (.inl rfl) hT (Heap.get?_push_size _ rfl) (I.hok.fresh hsz) (away _ hsz) hco
  | none =>
    refine kla_makeFunction (mg := X.mg) (c := c) (P := P) (ps := ps) (closure_ok hfree) I.ok.glob (I.mod.glob.keeps I.bk) hcode (TB.code.keeps I.bk) oP tri hc TB.gP bA fun c' ctv h' tk hx hge hlt hrec htb => ?_
    obtain ⟨c2, oc, vs, t, e2, hoc, hd, hv⟩ := hrec
    cases e2
    have hsz : s.heap.objs.size ≤ h'.objs.size := Nat.le_trans hge (Nat.le_of_lt hlt)
    have nC : H c' = none := I.hok.fresh hge
    have PC : P ≠ c' := ne_of_none hP nC
    have J := LamX.inv_table (t' := tk) (more := #[rawInt pos.line, rawInt pos.col, .ref c']) (h' := h'.push (kla_obj "<lambda>" (X.env.qual ++ "<lambda>") params body scope (cloFrom X.env.cells scope.names []) ((X.mg "__name__").getD .none) c' ctv)) I hP
      (fun b o hb e => Heap.get?_push_of_some _ (hx b o hb e)) (Heap.get?_push_of_some _ htb) hge ⟨oc, vs, t, Heap.get?_push_of_some _ hoc, hd, hv⟩
    refine h h'.objs.size c' _ ctv _ _ J (.inr ⟨ps, c', _, _, hP, nC, rfl⟩) ?_ (Heap.get?_push_size _ rfl) ?_ (away _ hsz) upd_same
    · intro p hp
      have keepC : ∀ c0 : Addr, ∀ q, H c0 = some (LamX.CodeO c0 q) → upd (upd H P (.tbl (ps ++ #[rawInt pos.line, rawInt pos.col, .ref c']))) c' (LamX.CodeO c' (X.env.qual ++ "<lambda>")) c0 = some (LamX.CodeO c0 q) := by
        intro c0 q e
        rw [upd_ne (ne_of_none e nC), upd_ne]
        · exact e
        · intro z
          rw [z, hP] at e
          exact LamX.codeO_ne ps (Option.some.inj e).symm
      by_cases hb : p.1 = P
      · rw [hu p hp hb, hb]
        have eL : (ps ++ #[rawInt pos.line, rawInt pos.col, .ref c']).toList = ps.toList ++ [rawInt pos.line, rawInt pos.col, .ref c'] := by simp
        refine ⟨_, by rw [upd_ne PC, upd_same], by rw [eL]; exact TriplesOk_snoc _ _ _ _ tri, fun p' cv hcv => ?_⟩
        rw [eL] at hcv
        rcases LamX.among_app _ tri hcv with z | z
        · obtain ⟨c0, e1, e2⟩ := among p' cv z
          exact ⟨c0, e1, keepC _ _ e2⟩
        · exact ⟨c', z, upd_same⟩
      · obtain ⟨ps', a1, a2, a3⟩ := hT p hp
        refine ⟨ps', by rw [upd_ne (ne_of_none a1 nC), upd_ne hb]; exact a1, a2, fun p' cv hcv => ?_⟩
        obtain ⟨c0, e1, e2⟩ := a3 p' cv hcv
        exact ⟨c0, e1, keepC _ _ e2⟩
    · have n1 : h'.objs.size ≠ c' := Nat.ne_of_gt hlt
      have n2 : h'.objs.size ≠ P := Nat.ne_of_gt (Nat.lt_of_lt_of_le (Heap.lt_size oP) hsz)
      rw [upd_ne n1, upd_ne n2]
      exact I.hok.fresh hsz
end
section
variable {X : Cx} {pins : List (Addr × Obj)} {σ : L2.St} {H : Hp} {s : Shared}
/-- what was handed over is asked -/
theorem pe_ask {CXg : CXT} {Eg : XK} {Ng : List Str} {qg : Str} {sg : Scope} {g f c' : Addr} {cdg pm ctv : Value} {params : Arguments} {body : Expr} {scope : Scope} {k i : Nat} {a : Str} {pn : List (Addr × Obj)} {xe : Value → Shared → Prop} {W : WX} {E : XK} {tb : TE} {p1 p2 : Pos} (I : Inv X pins σ H s) (L : LamX.LamS X.env.scope scope)
    (hf : s.heap.get? f = some (kla_obj "<lambda>" (X.env.qual ++ "<lambda>") params body scope (cloFrom X.env.cells scope.names []) pm c' ctv)) (hfn : H f = none) (hfr : f ∉ frs X.stack) (hbind : bindArgs (kla_fn "<lambda>" (X.env.qual ++ "<lambda>") params body scope (cloFrom X.env.cells scope.names []) pm (.ref c') ctv) ⟨[], []⟩ = pure [])
    (tk : Takes ((cxOf CXg X.prog X.w X.K X.mg X.base Ng qg sg g cdg X.A X.stack s H Eg).tr pn xe) W) (hW : ∀ cls d σ' H', E cls d H' → W cls d σ' H') (hr : Room (k + 1) (X.A.deeper (envOfC qg sg s.heap.objs.size g cdg)))
    (hbody : ∀ (A : Around) (outer : List Env) (s : Shared) (H : Hp), Room k (A.deeper (LamX.lamEnv X scope s.heap.objs.size f c')) → A.guards = X.A.guards → PE (LamX.lamCx X A outer s H E scope f c') body tb) (hN : Ng[i]? = some a) (hv : Vis sg a) (hd : (a == ("__debug__" : Str)) = false) (hcd : (a == ("__classdict__" : Str)) = false) :
    PE ((cxOf CXg X.prog X.w X.K X.mg X.base Ng qg sg g cdg X.A X.stack s H Eg).tr pn xe) (.Call (.Name a p1) [] [] p2) (fun σZ HZ Q => σZ[i]? = some (some (.ref f)) ∧ HZ c' = some (LamX.CodeO c' (X.env.qual ++ "<lambda>")) ∧ tb σ HZ Q) := by
  refine ⟨fun pinsZ sZ σZ HZ Q IZ ⟨hs, hc, ht⟩ => ?_⟩
  refine wpAny_Call_Name_kw (thn ((pe_var (pos := p1) (i := i) hN hv hd hcd).run pinsZ sZ σZ HZ (fun v H1 => v = .ref f ∧ H1 = HZ) IZ ⟨.ref f, hs, rfl, rfl⟩) fun u s1 ⟨v, H1, J, r1, ev, eH⟩ => ?_)
  subst ev
  rw [eH] at J
  obtain rfl : u = Value.ref f := r1
  have gf := J.base.keep f _ hf hfn hfr (fun z => nomatch (show f ∈ ([] : List Addr) from z))
  refine callWith_F0 ⟨_, _, _, _, gf⟩ (wpAny_call (codeAny_mono (R := CR (L2.CX X.prog X.w) (envOfC qg sg s.heap.objs.size g cdg :: X.stack) X.prog X.w HZ s1 Q E) ?_ fun r s' hq => ?_))
  · obtain ⟨⟨oc, vs, t, hoc, hdc, hvc⟩, _, _⟩ := J.hok c' _ hc
    show codeAny (model X.prog X.w) (X.A.deeper (envOfC qg sg s.heap.objs.size g cdg)) (.call (.ref f) ⟨[], []⟩) _ s1
    refine kla_callFunE hr.depth gf rfl L.co L.gen rfl ⟨c', oc, vs, t, rfl, hoc, hdc, hvc⟩ ?_
    rw [hbind]
    refine wpAny_pure (wpAny_newFunctionEnv (fun y hy => (L.own y hy).2) (fun y hy => absurd hy (by simp)) (fun h₁ hns hsb => ⟨J.nolimit.fresh _ hsb, ?_⟩) L.kind)
    show codeAny _ _ (.expr body (LamX.lamEnv X scope s1.heap.objs.size f c')) _ _
    refine kla_codeExpr (wpAny_mono ((hbody _ _ s1 HZ (hr.deeper _) rfl).run [] _ _ HZ Q (LamX.lam_start2 I L J.env0 hr.hd J.base hns fun b o e => hsb.extBut b o (Nat.ne_of_lt (Heap.lt_size e)) (Heap.get?_push_of_some _ e)) ht) (fun v s' ⟨w', H', J', rv, q⟩ => ⟨w', H', J'.os, J'.bare, J'.base, J'.hok, rv, q⟩) fun e s' hq => hq)
  · match r, hq with
    | .error e, hq => exact passes_call tk hW pinsZ σZ HZ s1 e s' J hq
    | .ok (.ret u), hq => exact J.after hq
    | .ok .next, hq => exact False.elim hq
    | .ok .brk, hq => exact False.elim hq
    | .ok .cont, hq => exact False.elim hq
end
/-- x(lambda: body), what grows being told -/
def tLamG (TL : List (Addr × Str)) (P : Addr) (TT : (XK → Hp → VK → Prop) → Hp → VK → Prop) (t : XK → TE) : TE := fun σ H Q => LamX.Tabs TL H ∧ ∀ H1, Grown P H H1 → LamX.Tabs TL H1 → TT (fun E H' Q' => t E σ H' Q') H1 Q
section
variable {X : Cx}
theorem pe_lamG {TL : List (Addr × Str)} {TT : (XK → Hp → VK → Prop) → Hp → VK → Prop} {x a : Str} {g c P : Addr} {k : Nat} {pg : Arguments} {bg : List Stmt} {sg : Scope} {dV kV doc pm cdv ct oc : Value} {an od : Option Addr} {osl : Array (Option Value)} {Ng : List Str} {params : Arguments} {body : Expr} {scope : Scope} {t : XK → TE} {p lpos pos : Pos}
    (hg : Gl X x) (hm : X.mg x = some (.ref g)) (hk : keepIn X.K (.ref g) = true) (lk : X.K.lookup g = some ⟨oc, od, .func (fnOf x x pg bg sg dV kV doc pm an cdv ct), osl⟩) (hcg : codeIn X.K cdv x = true) (hb : L2.Binds X.K (fnOf x x pg bg sg dV kV doc pm an cdv ct) [a] []) (Sg : FnScope Ng [a] sg) (hNg : Ng[0]? = some a) (hva : Vis sg a)
    (hG : LamX.GivesTo X Ng x sg g cdv bg a (X.env.qual ++ "<lambda>") TT) (TB : LamX.TabB X.base X.mg c P) (hcode : X.env.code = .ref c) (hmT : (P, X.env.qual ++ "<lambda>") ∈ TL) (hu : ∀ p ∈ TL, p.1 = P → p.2 = X.env.qual ++ "<lambda>") (hr : Room (k + 2) X.A) (L : LamX.LamS X.env.scope scope) (hdef : defaultsOf params X.env = ([], []))
    (hbind : ∀ (q : Str) (cl : List (Str × Addr)) (pm cv ctv : Value), bindArgs (kla_fn "<lambda>" q params body scope cl pm cv ctv) ⟨[], []⟩ = pure [])
    (hbody : ∀ (A : Around) (outer : List Env) (s : Shared) (H : Hp) (E : XK) (f c' : Addr), Room k (A.deeper (LamX.lamEnv X scope s.heap.objs.size f c')) → A.guards = X.A.guards → PE (LamX.lamCx X A outer s H E scope f c') body (t E))
    (hdb : (x == ("__debug__" : Str)) = false) (hd : (a == ("__debug__" : Str)) = false) (hcd : (a == ("__classdict__" : Str)) = false) : PE X (.Call (.Name x p) [.Lambda params body scope lpos] [] pos) (tLamG TL P TT t) := by
  refine ⟨fun pins s σ H Q I h => ?_⟩
  obtain ⟨hT, h⟩ := h
  refine wpAny_Call_Name_kw (ld_glob I hg hm (callWith_K (h₀ := X.base) I.ok.mod.kin hk ?_ (by rfl) (by rfl)) hdb)
  show wpAny _ _ (spliced ((false, eval (.Lambda params body scope lpos) X.env) :: backTo pos (starEach [] X.env))) _ _ s
  refine spliced_cons (lam_new I TB hcode hmT hu hT hdef (L.has I.ok) fun f c' pm' ctv H1 s' J gr T1 of fn frn co => spliced_nil ⟨J.kIn, ?_⟩)
  have rc : codeAny (model X.prog X.w) X.A (.call (.ref g) ⟨[.ref f], []⟩) (CR C8.CX0 X.stack X.prog X.w H1 s' Q C8.E0) s' := by
    refine LamX.run_ofS (N := Ng) (ps := [a]) (us := [.ref f]) (vs := [.ref f]) lk hcg Sg hr J.env0 (hb s' [.ref f] J.kIn rfl) (.cons rfl .nil) rfl fun hr' => ?_
    have q := hG f c' s' H1 Q (fun E H' Q' => t E σ H' Q') (fun W pn xe E p1 p2 tk hW => ?_) co (h H1 gr T1)
    · obtain ⟨t', ht', hq'⟩ := q
      exact ⟨t', ht'.nox, hq'⟩
    · exact pe_ask (i := 0) J L of fn frn (hbind _ _ _ _ _) tk hW hr' (fun A outer s H hr2 hgd => hbody A outer s H E f c' hr2 hgd) hNg hva hd hcd
  refine wpAny_call (codeAny_mono rc fun r s2 hq => ?_)
  match r, hq with
  | .error e, hq => exact (show False from hq).elim
  | .ok (.ret u), hq => exact J.after hq
  | .ok .next, hq => exact False.elim hq
  | .ok .brk, hq => exact False.elim hq
  | .ok .cont, hq => exact False.elim hq
end
end FL

namespace FL
open PySem PySem.Spec PyProof.Rows L2
/-- the store with what is under way: none: may be read for ever; some none: kept aside by a rule; some (some o): live -/
abbrev XS := Addr → Option (Option O)
def prj (T : XS) : Sto := fun b => (T b).join
def XS.put (T : XS) (a : Addr) (o : O) : XS := fun b => if b = a then some (some o) else T b
def XS.del (T : XS) (a : Addr) : XS := fun b => if b = a then none else T b
def XS.aside (T : XS) (a : Addr) : XS := fun b => if b = a then some none else T b
theorem prj_put (T : XS) (a : Addr) (o : O) : prj (T.put a o) = (prj T).put a o := by
  funext b
  unfold prj XS.put Sto.put
  split <;> rfl
theorem prj_del (T : XS) (a : Addr) : prj (T.del a) = fun b => if b = a then none else prj T b := by
  funext b
  unfold prj XS.del
  split <;> rfl
theorem prj_some {T : XS} {a : Addr} {o : O} (h : prj T a = some o) : T a = some (some o) := by
  unfold prj at h
  cases e : T a with
  | none => rw [e] at h; cases h
  | some x =>
    rw [e] at h
    cases x with
    | none => cases h
    | some y => cases h; rfl
theorem prj_of {T : XS} {a : Addr} {o : O} (h : T a = some (some o)) : prj T a = some o := by
  unfold prj
  rw [h]
  rfl

/-- a list that is read and never written: plain and not live, locked, or of the text -/
def SqF (K : PySem.W.Frag) (S : XS) (H : Hp) (a : Addr) (vs : List V) : Prop :=
  (H a = some (.lst vs) ∧ S a = none) ∨ (∃ o, H a = some (.frz o (.lst vs))) ∨
    ∃ (o : Obj) (its : Array Value) (n : Nat), K.lookup a = some o ∧ o.cls = .type "list" ∧ o.dict = none ∧ o.data = .seq its n ∧ its.size ≤ sizeLine ∧ Vals vs its.toList
theorem SqF.sq {K : PySem.W.Frag} {S : XS} {H : Hp} {a : Addr} {vs : List V} (h : SqF K S H a vs) : SqL K H a vs := by
  rcases h with h | h | h
  · exact .inl (.inl h.1)
  · exact .inl (.inr h)
  · exact .inr h
mutual
inductive Rep (K : PySem.W.Frag) (S : XS) (H : Hp) : V → D → Prop
  | non : Rep K S H .non .non
  | bl (b : Bool) : Rep K S H (.bl b) (.bl b)
  | int (i : Int) : Rep K S H (.int i) (.int i)
  | str {s : Str} : s.length ≤ sizeLine → Rep K S H (.str s) (.str s)
  | tup {a : Addr} {vs : List V} {ds : List D} : SqT K H a vs → vs.length ≤ sizeLine → Reps K S H vs ds → Rep K S H (.ref a) (.tup ds)
  | lst {a : Addr} {vs : List V} {ds : List D} : H a = some (.lst vs) → S a = none → vs.length ≤ sizeLine → Reps K S H vs ds → Rep K S H (.ref a) (.lst ds)
  | lsf {a : Addr} {vs : List V} {ds : List D} : SqF K S H a vs → vs.length ≤ sizeLine → Reps K S H vs ds → Rep K S H (.ref a) (.lsf ds)
  | loc (a : Addr) : Rep K S H (.ref a) (.loc a)
inductive Reps (K : PySem.W.Frag) (S : XS) (H : Hp) : List V → List D → Prop
  | nil : Reps K S H [] []
  | cons {v : V} {vs : List V} {d : D} {ds : List D} : Rep K S H v d → Reps K S H vs ds → Reps K S H (v :: vs) (d :: ds)
end

/-- the heap goes on: what is not live stays; what becomes live is new -/
structure Step (S : XS) (H : Hp) (S' : XS) (H' : Hp) : Prop where
  keep : ∀ b o, H b = some o → S b = none → (∀ ps, o ≠ .tbl ps) → H' b = some o
  new : ∀ b, S' b ≠ none → S b ≠ none ∨ H b = none
  tups : ∀ b xs, H b = some (.tup xs) → H' b = some (.tup xs)
  frzs : ∀ b o u, H b = some (.frz o u) → H' b = some (.frz o u)
  asd : ∀ b, S b = some none → S' b = some none ∧ ((∀ ps, H b ≠ some (.tbl ps)) → H' b = H b)
  trk : ∀ b, H' b = none → H b = none
theorem Step.refl (S : XS) (H : Hp) : Step S H S H := ⟨fun _ _ h _ _ => h, fun _ h => .inl h, fun _ _ h => h, fun _ _ _ h => h, fun _ h => ⟨h, fun _ => rfl⟩, fun _ h => h⟩
theorem Step.trans {S S1 S2 : XS} {H H1 H2 : Hp} (a : Step S H S1 H1) (b : Step S1 H1 S2 H2) : Step S H S2 H2 where
  keep := fun c o h hn hnt => by
    have h1 := a.keep c o h hn hnt
    refine b.keep c o h1 ?_ hnt
    cases e : S1 c with
    | none => rfl
    | some x =>
      rcases a.new c (by rw [e]; simp) with z | z
      · exact absurd hn z
      · rw [h] at z; cases z
  new := fun c hc => by
    rcases b.new c hc with z | z
    · exact a.new c z
    · cases e : H c with
      | none => exact .inr rfl
      | some o =>
        cases es : S c with
        | some x => exact .inl (by simp)
        | none =>
          have := a.trk c z
          rw [e] at this; cases this
  tups := fun c xs h => b.tups c xs (a.tups c xs h)
  frzs := fun c o u h => b.frzs c o u (a.frzs c o u h)
  asd := fun c h => let ⟨h1, e1⟩ := a.asd c h; let ⟨h2, e2⟩ := b.asd c h1; ⟨h2, fun n => (e2 (by rw [e1 n]; exact n)).trans (e1 n)⟩
  trk := fun c h => a.trk c (b.trk c h)
theorem Step.same {S : XS} {H H' : Hp} (h : Same H H') (hp : ∀ b, S b ≠ none → H b ≠ none) : Step S H S H' := ⟨fun b o e _ _ => h b o e, fun _ z => .inl z, fun b xs e => h b _ e, fun b o u e => h b _ e, fun b e => ⟨e, fun _ => by
  cases q : H b with
  | none => exact absurd q (hp b (by rw [e]; simp))
  | some o => exact h b o q⟩, fun b e => by
    cases q : H b with
    | none => rfl
    | some o => rw [h b o q] at e; cases e⟩
/-- what is live may be forgotten -/
theorem Step.forget {S S1 S2 : XS} {H H1 : Hp} (a : Step S H S1 H1) (hf : ∀ b o, S2 b = some o → S1 b = some o) (ha : ∀ b, S1 b = some none → S2 b = some none) : Step S H S2 H1 :=
  ⟨a.keep, fun b hb => by
    cases e : S2 b with
    | none => exact absurd e hb
    | some o => exact a.new b (by rw [hf b o e]; simp), a.tups, a.frzs, fun b e => ⟨ha b (a.asd b e).1, (a.asd b e).2⟩, a.trk⟩

theorem SqT.stp {K : PySem.W.Frag} {S S' : XS} {H H' : Hp} (h : Step S H S' H') {a : Addr} {vs : List V} (q : SqT K H a vs) : SqT K H' a vs := by
  rcases q with q | q
  · rcases q with q | ⟨o, q⟩
    · exact .inl (.inl (h.tups a vs q))
    · exact .inl (.inr ⟨o, h.frzs a o _ q⟩)
  · exact .inr q
theorem live_none {S S' : XS} {H H' : Hp} (h : Step S H S' H') {a : Addr} {o : HO} (e : H a = some o) (n : S a = none) : S' a = none := by
  cases q : S' a with
  | none => rfl
  | some x =>
    rcases h.new a (by rw [q]; simp) with z | z
    · exact absurd n z
    · rw [e] at z; cases z
theorem SqF.stp {K : PySem.W.Frag} {S S' : XS} {H H' : Hp} (h : Step S H S' H') {a : Addr} {vs : List V} (q : SqF K S H a vs) : SqF K S' H' a vs := by
  rcases q with ⟨q, n⟩ | ⟨o, q⟩ | q
  · exact .inl ⟨h.keep a _ q n (fun _ z => by cases z), live_none h q n⟩
  · exact .inr (.inl ⟨o, h.frzs a o _ q⟩)
  · exact .inr (.inr q)
mutual
theorem Rep.stp {K : PySem.W.Frag} {S S' : XS} {H H' : Hp} (h : Step S H S' H') : ∀ {v : V} {d : D}, Rep K S H v d → Rep K S' H' v d
  | _, _, .non => .non
  | _, _, .bl b => .bl b
  | _, _, .int i => .int i
  | _, _, .str z => .str z
  | _, _, .tup q z r => .tup (SqT.stp h q) z (Reps.stp h r)
  | _, _, .lst q n z r => .lst (h.keep _ _ q n (fun _ z => by cases z)) (live_none h q n) z (Reps.stp h r)
  | _, _, .lsf q z r => .lsf (SqF.stp h q) z (Reps.stp h r)
  | _, _, .loc a => .loc a
theorem Reps.stp {K : PySem.W.Frag} {S S' : XS} {H H' : Hp} (h : Step S H S' H') : ∀ {vs : List V} {ds : List D}, Reps K S H vs ds → Reps K S' H' vs ds
  | _, _, .nil => .nil
  | _, _, .cons a r => .cons (Rep.stp h a) (Reps.stp h r)
end
theorem Reps.len {K : PySem.W.Frag} {S : XS} {H : Hp} : ∀ {vs : List V} {ds : List D}, Reps K S H vs ds → vs.length = ds.length
  | _, _, .nil => rfl
  | _, _, .cons _ r => by simp [r.len]
theorem Reps.get {K : PySem.W.Frag} {S : XS} {H : Hp} : ∀ {vs : List V} {ds : List D}, Reps K S H vs ds → ∀ {i : Nat} {d : D}, ds[i]? = some d → ∃ v, vs[i]? = some v ∧ Rep K S H v d
  | _, _, .nil, _, _, e => by simp at e
  | _, _, .cons a r, 0, d, e => by
    simp at e
    subst e
    exact ⟨_, rfl, a⟩
  | _, _, .cons a r, i + 1, d, e => by
    obtain ⟨v, e1, h⟩ := r.get (i := i) (by simpa using e)
    exact ⟨v, by simpa using e1, h⟩
theorem Reps.getV {K : PySem.W.Frag} {S : XS} {H : Hp} : ∀ {vs : List V} {ds : List D}, Reps K S H vs ds → ∀ {i : Nat} {v : V}, vs[i]? = some v → ∃ d, ds[i]? = some d ∧ Rep K S H v d
  | _, _, .nil, _, _, e => by simp at e
  | _, _, .cons a r, 0, d, e => by
    simp at e
    subst e
    exact ⟨_, rfl, a⟩
  | _, _, .cons a r, i + 1, d, e => by
    obtain ⟨v, e1, h⟩ := r.getV (i := i) (by simpa using e)
    exact ⟨v, by simpa using e1, h⟩
theorem Reps.app {K : PySem.W.Frag} {S : XS} {H : Hp} : ∀ {vs ws : List V} {ds es : List D}, Reps K S H vs ds → Reps K S H ws es → Reps K S H (vs ++ ws) (ds ++ es)
  | _, _, _, _, .nil, s => s
  | _, _, _, _, .cons a r, s => .cons a (r.app s)
theorem Reps.take {K : PySem.W.Frag} {S : XS} {H : Hp} : ∀ {vs : List V} {ds : List D} (n : Nat), Reps K S H vs ds → Reps K S H (vs.take n) (ds.take n)
  | _, _, 0, _ => .nil
  | _, _, _ + 1, .nil => .nil
  | _, _, n + 1, .cons a r => .cons a (r.take n)
theorem Reps.drop {K : PySem.W.Frag} {S : XS} {H : Hp} : ∀ {vs : List V} {ds : List D} (n : Nat), Reps K S H vs ds → Reps K S H (vs.drop n) (ds.drop n)
  | _, _, 0, r => r
  | _, _, _ + 1, .nil => .nil
  | _, _, n + 1, .cons _ r => r.drop n
theorem Reps.rev {K : PySem.W.Frag} {S : XS} {H : Hp} : ∀ {vs : List V} {ds : List D}, Reps K S H vs ds → Reps K S H vs.reverse ds.reverse
  | _, _, .nil => .nil
  | _, _, .cons a r => by
    rw [List.reverse_cons, List.reverse_cons]
    exact r.rev.app (.cons a .nil)
theorem Reps.rep {K : PySem.W.Frag} {S : XS} {H : Hp} {vs : List V} {ds : List D} (r : Reps K S H vs ds) : ∀ n : Nat, Reps K S H (List.replicate n vs).flatten (List.replicate n ds).flatten
  | 0 => .nil
  | n + 1 => by
    rw [List.replicate_succ, List.replicate_succ, List.flatten_cons, List.flatten_cons]
    exact r.app (r.rep n)

/-- a dict's pairs -/
def KReps (K : PySem.W.Frag) (S : XS) (H : Hp) (ws : List (Key × V)) (kvs : List (Key × D)) : Prop :=
  ws.map (·.1) = kvs.map (·.1) ∧ Reps K S H (ws.map (·.2)) (kvs.map (·.2))
def ObjR (K : PySem.W.Frag) (S : XS) (H : Hp) (a : Addr) : O → Prop
  | .lst ds => ∃ vs, H a = some (.lst vs) ∧ vs.length ≤ sizeLine ∧ Reps K S H vs ds
  | .dK kvs => ∃ ws, H a = some (.dK ws) ∧ KReps K S H ws kvs
def NoTF (o : Option HO) : Prop := (∀ xs, o ≠ some (.tup xs)) ∧ (∀ ob u, o ≠ some (.frz ob u)) ∧ (∀ ps, o ≠ some (.tbl ps)) ∧ ∀ f, o ≠ some (.ext f)
theorem NoTF.lst {ws : List V} : NoTF (some (.lst ws)) := ⟨fun _ => by simp, fun _ _ => by simp, fun _ => by simp, fun _ => by simp⟩
theorem NoTF.dK {ws : List (Key × V)} : NoTF (some (.dK ws)) := ⟨fun _ => by simp, fun _ _ => by simp, fun _ => by simp, fun _ => by simp⟩
theorem NoTF.non : NoTF none := ⟨fun _ => by simp, fun _ _ => by simp, fun _ => by simp, fun _ => by simp⟩
theorem tabs_upd {H : Hp} {p : Addr} {u : HO} (hv : NoTF (H p)) (h : LamX.Tabs TL H) : LamX.Tabs TL (upd H p u) := by
  intro q hq
  obtain ⟨ps, h1, h2, h3⟩ := h q hq
  refine ⟨ps, ?_, h2, fun pos cv hc => ?_⟩
  · have ne : q.1 ≠ p := fun z => hv.2.2.1 ps (by rw [← z]; exact h1)
    rw [upd_ne ne]
    exact h1
  · obtain ⟨c, e1, e2⟩ := h3 pos cv hc
    refine ⟨c, e1, ?_⟩
    have ne : c ≠ p := fun z => hv.2.2.2 _ (by rw [← z]; exact e2)
    rw [upd_ne ne]
    exact e2
theorem Tabs.same {H H' : Hp} (h : LamX.Tabs TL H) (s : Same H H') : LamX.Tabs TL H' := h.ext fun b o e => s b o e
structure HRep (TL : List (Addr × Str)) (K : PySem.W.Frag) (S : XS) (H : Hp) : Prop where
  ob : ∀ a o, S a = some (some o) → ObjR K S H a o
  tr : ∀ a, S a ≠ none → H a ≠ none
  tab : LamX.Tabs TL H
theorem HRep.fresh {K : PySem.W.Frag} {S : XS} {H : Hp} (h : HRep TL K S H) {a : Addr} (e : H a = none) : S a = none := by
  cases q : S a with
  | none => rfl
  | some o => exact absurd e (h.tr a (by rw [q]; simp))
theorem ObjR.stp {K : PySem.W.Frag} {S S' : XS} {H H' : Hp} (h : Step S H S' H') {a : Addr} {o : O} (e : H' a = H a) (q : ObjR K S H a o) : ObjR K S' H' a o := by
  cases o with
  | lst ds =>
    obtain ⟨vs, e1, z, r⟩ := q
    exact ⟨vs, e.trans e1, z, r.stp h⟩
  | dK kvs =>
    obtain ⟨ws, e1, e2, r⟩ := q
    exact ⟨ws, e.trans e1, e2, r.stp h⟩
theorem same_at {H H' : Hp} (s : Same H H') {a : Addr} (n : H a ≠ none) : H' a = H a := by
  cases q2 : H a with
  | none => exact absurd q2 n
  | some u => exact s a u q2
theorem HRep.sstep {K : PySem.W.Frag} {S : XS} {H H' : Hp} (h : HRep TL K S H) (s : Same H H') : Step S H S H' := .same s h.tr
theorem HRep.same {K : PySem.W.Frag} {S : XS} {H H' : Hp} (h : HRep TL K S H) (s : Same H H') : HRep TL K S H' :=
  ⟨fun a o e => (h.ob a o e).stp (h.sstep s) (same_at s (h.tr a (by rw [e]; simp))), fun a e => by rw [same_at s (h.tr a e)]; exact h.tr a e, Tabs.same h.tab s⟩
theorem HRep.forget {K : PySem.W.Frag} {S S' : XS} {H : Hp} (h : HRep TL K S H) (hf : ∀ b o, S' b = some o → S b = some o) (ha : ∀ b, S b = some none → S' b = some none) : HRep TL K S' H :=
  ⟨fun a o e => (h.ob a o (hf a _ e)).stp ((Step.refl S H).forget hf ha) rfl, fun a e => by
    cases q : S' a with
    | none => exact absurd q e
    | some o => exact h.tr a (by rw [hf a o q]; simp), h.tab⟩
theorem HRep.empty {K : PySem.W.Frag} {H : Hp} (ht : LamX.Tabs TL H) : HRep TL K (fun _ => none) H := ⟨fun _ _ e => (by cases e), fun _ e => absurd rfl e, ht⟩

theorem upd_trk {H : Hp} {p b : Addr} {o : HO} (h : upd H p o b = none) : H b = none := by
  unfold upd at h
  split at h
  · cases h
  · exact h
theorem upd_laid {H : Hp} {p : Addr} {o : HO} (h : H p = none) : Same H (upd H p o) := fun b x e => by
  rw [upd_ne (ne_of_none e h)]
  exact e
theorem live_ne {K : PySem.W.Frag} {S : XS} {H : Hp} {a : Addr} {o : O} (h : HRep TL K S H) (e : S a = some (some o)) : (∀ xs, H a ≠ some (.tup xs)) ∧ ∀ ob u, H a ≠ some (.frz ob u) := by
  have q := h.ob a o e
  cases o with
  | lst ds => obtain ⟨vs, e1, _⟩ := q; rw [e1]; exact ⟨fun _ => by simp, fun _ _ => by simp⟩
  | dK ds => obtain ⟨vs, e1, _⟩ := q; rw [e1]; exact ⟨fun _ => by simp, fun _ _ => by simp⟩
/-- a live object is written -/
theorem put_step {K : PySem.W.Frag} {S : XS} {H : Hp} {a : Addr} {o o' : O} {u : HO} (h : HRep TL K S H) (e : S a = some (some o)) : Step S H (S.put a o') (upd H a u) := by
  have hl := live_ne h e
  refine ⟨fun b x hb hn _ => ?_, fun b hb => ?_, fun b xs hb => ?_, fun b ob x hb => ?_, fun b hb => ?_, fun b hb => upd_trk hb⟩
  · have ne : b ≠ a := fun z => by rw [z, e] at hn; cases hn
    rw [upd_ne ne]; exact hb
  · by_cases hz : b = a
    · subst hz
      exact .inl (by rw [e]; simp)
    · unfold XS.put at hb
      rw [if_neg hz] at hb
      exact .inl hb
  · have ne : b ≠ a := fun z => hl.1 xs (z ▸ hb)
    rw [upd_ne ne]; exact hb
  · have ne : b ≠ a := fun z => hl.2 ob x (z ▸ hb)
    rw [upd_ne ne]; exact hb
  · have ne : b ≠ a := fun z => by rw [z, e] at hb; cases hb
    exact ⟨by unfold XS.put; rw [if_neg ne]; exact hb, fun _ => upd_ne ne⟩
theorem put_hrep {K : PySem.W.Frag} {S : XS} {H : Hp} {a : Addr} {o' : O} {u : HO} (h : HRep TL K S H) (st : Step S H (S.put a o') (upd H a u)) (new : ObjR K (S.put a o') (upd H a u) a o') : HRep TL K (S.put a o') (upd H a u) := by
  have nt : NoTF (H a) := by
    cases q : S a with
    | none =>
      rcases st.new a (by unfold XS.put; rw [if_pos rfl]; simp) with z | z
      · exact absurd q z
      · rw [z]
        exact .non
    | some x =>
      cases x with
      | none =>
        have z := (st.asd a q).1
        unfold XS.put at z
        rw [if_pos rfl] at z
        cases z
      | some o =>
        have z := h.ob a o q
        cases o with
        | lst ds => obtain ⟨vs, e1, _⟩ := z; rw [e1]; exact .lst
        | dK ds => obtain ⟨vs, e1, _⟩ := z; rw [e1]; exact .dK
  refine ⟨fun b o e => ?_, fun b e => ?_, tabs_upd nt h.tab⟩
  · by_cases hz : b = a
    · subst hz
      unfold XS.put at e
      rw [if_pos rfl] at e
      cases e
      exact new
    · unfold XS.put at e
      rw [if_neg hz] at e
      exact (h.ob b o e).stp st (upd_ne hz)
  · by_cases hz : b = a
    · subst hz
      rw [upd_same]; simp
    · unfold XS.put at e
      rw [if_neg hz] at e
      rw [upd_ne hz]
      exact h.tr b e
/-- a new object is laid and live -/
theorem new_step {K : PySem.W.Frag} {S : XS} {H : Hp} {a : Addr} {o' : O} {u : HO} (hp : HRep TL K S H) (h : H a = none) : Step S H (S.put a o') (upd H a u) := by
  refine ⟨fun b x hb hn _ => ?_, fun b hb => ?_, fun b xs hb => ?_, fun b ob x hb => ?_, fun b hb => ?_, fun b hb => upd_trk hb⟩
  · rw [upd_ne (ne_of_none hb h)]; exact hb
  · by_cases hz : b = a
    · subst hz
      exact .inr h
    · unfold XS.put at hb
      rw [if_neg hz] at hb
      exact .inl hb
  · rw [upd_ne (ne_of_none hb h)]; exact hb
  · rw [upd_ne (ne_of_none hb h)]; exact hb
  · have ne : b ≠ a := fun z => by
      have := hp.fresh h
      rw [z, this] at hb; cases hb
    exact ⟨by unfold XS.put; rw [if_neg ne]; exact hb, fun _ => upd_ne ne⟩
/-- a new object is laid and kept aside -/
theorem aside_step {K : PySem.W.Frag} {S : XS} {H : Hp} {a : Addr} {u : HO} (hp : HRep TL K S H) (h : H a = none) : Step S H (S.aside a) (upd H a u) := by
  refine ⟨fun b x hb hn _ => ?_, fun b hb => ?_, fun b xs hb => ?_, fun b ob x hb => ?_, fun b hb => ?_, fun b hb => upd_trk hb⟩
  · rw [upd_ne (ne_of_none hb h)]; exact hb
  · by_cases hz : b = a
    · subst hz
      exact .inr h
    · unfold XS.aside at hb
      rw [if_neg hz] at hb
      exact .inl hb
  · rw [upd_ne (ne_of_none hb h)]; exact hb
  · rw [upd_ne (ne_of_none hb h)]; exact hb
  · have ne : b ≠ a := fun z => by
      have := hp.fresh h
      rw [z, this] at hb; cases hb
    exact ⟨by unfold XS.aside; rw [if_neg ne]; exact hb, fun _ => upd_ne ne⟩
theorem aside_hrep {K : PySem.W.Frag} {S : XS} {H : Hp} {a : Addr} {u : HO} (hp : HRep TL K S H) (h : H a = none) : HRep TL K (S.aside a) (upd H a u) := by
  refine ⟨fun b o e => ?_, fun b e => ?_, tabs_upd (by rw [h]; exact .non) hp.tab⟩
  · by_cases hz : b = a
    · subst hz
      unfold XS.aside at e
      rw [if_pos rfl] at e
      cases e
    · unfold XS.aside at e
      rw [if_neg hz] at e
      exact (hp.ob b o e).stp (aside_step hp h) (upd_ne hz)
  · by_cases hz : b = a
    · subst hz
      rw [upd_same]; simp
    · unfold XS.aside at e
      rw [if_neg hz] at e
      rw [upd_ne hz]
      exact hp.tr b e
theorem prj_aside {S : XS} {a : Addr} (h : S a = none) : prj (S.aside a) = prj S := by
  funext b
  unfold prj XS.aside
  by_cases hz : b = a
  · subst hz
    rw [if_pos rfl, h]
    rfl
  · rw [if_neg hz]

/-! a thing kept aside -/
theorem SqF.less {K : PySem.W.Frag} {S S' : XS} {H : Hp} (h : ∀ b, S b = none → S' b = none) {a : Addr} {vs : List V} (q : SqF K S H a vs) : SqF K S' H a vs := by
  rcases q with ⟨q, n⟩ | q | q
  · exact .inl ⟨q, h a n⟩
  · exact .inr (.inl q)
  · exact .inr (.inr q)
mutual
theorem Rep.less {K : PySem.W.Frag} {S S' : XS} {H : Hp} (h : ∀ b, S b = none → S' b = none) : ∀ {v : V} {d : D}, Rep K S H v d → Rep K S' H v d
  | _, _, .non => .non
  | _, _, .bl b => .bl b
  | _, _, .int i => .int i
  | _, _, .str z => .str z
  | _, _, .tup q z r => .tup q z (Reps.less h r)
  | _, _, .lst q n z r => .lst q (h _ n) z (Reps.less h r)
  | _, _, .lsf q z r => .lsf (q.less h) z (Reps.less h r)
  | _, _, .loc a => .loc a
theorem Reps.less {K : PySem.W.Frag} {S S' : XS} {H : Hp} (h : ∀ b, S b = none → S' b = none) : ∀ {vs : List V} {ds : List D}, Reps K S H vs ds → Reps K S' H vs ds
  | _, _, .nil => .nil
  | _, _, .cons a r => .cons (Rep.less h a) (Reps.less h r)
end
theorem ObjR.less {K : PySem.W.Frag} {S S' : XS} {H : Hp} (h : ∀ b, S b = none → S' b = none) {a : Addr} {o : O} (q : ObjR K S H a o) : ObjR K S' H a o := by
  cases o with
  | lst ds =>
    obtain ⟨vs, e1, z, r⟩ := q
    exact ⟨vs, e1, z, r.less h⟩
  | dK kvs =>
    obtain ⟨ws, e1, e2, r⟩ := q
    exact ⟨ws, e1, e2, r.less h⟩
section
variable {K : PySem.W.Frag} {S0 S : XS} {H0 H : Hp} {p : Addr}
theorem del_less (b : Addr) (h : S b = none) : (S.del p) b = none := by
  unfold XS.del
  split
  · rfl
  · exact h
theorem put_less {o : O} (hp : S p = some none) (b : Addr) (h : S b = none) : (S.put p o) b = none := by
  have ne : b ≠ p := fun z => by rw [z, hp] at h; cases h
  unfold XS.put
  rw [if_neg ne]
  exact h
theorem del_prj (hp : S p = some none) : prj (S.del p) = prj S := by
  funext b
  unfold prj XS.del
  by_cases hz : b = p
  · subst hz
    rw [if_pos rfl, hp]
    rfl
  · rw [if_neg hz]
theorem del_hrep (hp : S p = some none) (h : HRep TL K S H) : HRep TL K (S.del p) H := by
  refine ⟨fun a o e => ?_, fun a e => ?_, h.tab⟩
  · unfold XS.del at e
    split at e
    · cases e
    · exact (h.ob a o e).less del_less
  · unfold XS.del at e
    split at e
    · exact absurd rfl e
    · exact h.tr a e
theorem del_step (hn : S0 p = none) (h : Step S0 H0 S H) : Step S0 H0 (S.del p) H := by
  refine ⟨h.keep, fun b hb => ?_, h.tups, h.frzs, fun b hb => ?_, h.trk⟩
  · unfold XS.del at hb
    split at hb
    · exact absurd rfl hb
    · exact h.new b hb
  · have ne : b ≠ p := fun z => by rw [z, hn] at hb; cases hb
    obtain ⟨h1, h2⟩ := h.asd b hb
    exact ⟨by unfold XS.del; rw [if_neg ne]; exact h1, h2⟩
theorem lay_hrep {ds : List D} {vs : List V} (hp : S p = some none) (h : HRep TL K S H) (hv : H p = some (.lst vs)) (hz : vs.length ≤ sizeLine) (r : Reps K S H vs ds) : HRep TL K (S.put p (.lst ds)) H := by
  refine ⟨fun a o e => ?_, fun a e => ?_, h.tab⟩
  · unfold XS.put at e
    split at e
    · rename_i hz2
      subst hz2
      cases e
      exact ⟨vs, hv, hz, r.less (put_less hp)⟩
    · exact (h.ob a o e).less (put_less hp)
  · unfold XS.put at e
    split at e
    · rename_i hz2
      subst hz2
      rw [hv]; simp
    · exact h.tr a e
theorem lay_step {o : O} (hn : S0 p = none) (h0 : H0 p = none) (h : Step S0 H0 S H) : Step S0 H0 (S.put p o) H := by
  refine ⟨h.keep, fun b hb => ?_, h.tups, h.frzs, fun b hb => ?_, h.trk⟩
  · by_cases hz : b = p
    · subst hz
      exact .inr h0
    · unfold XS.put at hb
      rw [if_neg hz] at hb
      exact h.new b hb
  · have ne : b ≠ p := fun z => by rw [z, hn] at hb; cases hb
    obtain ⟨h1, h2⟩ := h.asd b hb
    exact ⟨by unfold XS.put; rw [if_neg ne]; exact h1, h2⟩
/-- a thing aside is written -/
theorem off_step {u : HO} (hn : S0 p = none) (h0 : H0 p = none) (h : Step S0 H0 S H) : Step S0 H0 S (upd H p u) := by
  refine ⟨fun b o e n nt => ?_, h.new, fun b xs e => ?_, fun b o x e => ?_, fun b hb => ?_, fun b hb => h.trk b (upd_trk hb)⟩
  · rw [upd_ne (ne_of_none e h0)]
    exact h.keep b o e n nt
  · rw [upd_ne (ne_of_none e h0)]
    exact h.tups b xs e
  · rw [upd_ne (ne_of_none e h0)]
    exact h.frzs b o x e
  · have ne : b ≠ p := fun z => by rw [z, hn] at hb; cases hb
    obtain ⟨h1, h2⟩ := h.asd b hb
    exact ⟨h1, fun n => by rw [upd_ne ne]; exact h2 n⟩
theorem SqT.off {vs : List V} {a : Addr} {u : HO} (hv : NoTF (H p)) (q : SqT K H a vs) : SqT K (upd H p u) a vs := by
  rcases q with (q | ⟨o, q⟩) | q
  · exact .inl (.inl (by rw [upd_ne (fun z => hv.1 _ (z ▸ q))]; exact q))
  · exact .inl (.inr ⟨o, by rw [upd_ne (fun z => hv.2.1 _ _ (z ▸ q))]; exact q⟩)
  · exact .inr q
theorem SqF.off {vs : List V} {a : Addr} {u : HO} (hp : S p = some none) (hv : NoTF (H p)) (q : SqF K S H a vs) : SqF K S (upd H p u) a vs := by
  rcases q with ⟨q, n⟩ | ⟨o, q⟩ | q
  · exact .inl ⟨by rw [upd_ne (fun z => by rw [z, hp] at n; cases n)]; exact q, n⟩
  · exact .inr (.inl ⟨o, by rw [upd_ne (fun z => hv.2.1 _ _ (z ▸ q))]; exact q⟩)
  · exact .inr (.inr q)
mutual
theorem Rep.off {u : HO} (hp : S p = some none) (hv : NoTF (H p)) : ∀ {v : V} {d : D}, Rep K S H v d → Rep K S (upd H p u) v d
  | _, _, .non => .non
  | _, _, .bl b => .bl b
  | _, _, .int i => .int i
  | _, _, .str z => .str z
  | _, _, .tup q z r => .tup (SqT.off hv q) z (Reps.off hp hv r)
  | _, _, .lst q n z r => .lst (by rw [upd_ne (fun z => by rw [z, hp] at n; cases n)]; exact q) n z (Reps.off hp hv r)
  | _, _, .lsf q z r => .lsf (SqF.off hp hv q) z (Reps.off hp hv r)
  | _, _, .loc a => .loc a
theorem Reps.off {u : HO} (hp : S p = some none) (hv : NoTF (H p)) : ∀ {vs : List V} {ds : List D}, Reps K S H vs ds → Reps K S (upd H p u) vs ds
  | _, _, .nil => .nil
  | _, _, .cons a r => .cons (Rep.off hp hv a) (Reps.off hp hv r)
end
theorem off_hrep {u : HO} (hp : S p = some none) (hv : NoTF (H p)) (h : HRep TL K S H) : HRep TL K S (upd H p u) := by
  refine ⟨fun a o e => ?_, fun a e => ?_, tabs_upd hv h.tab⟩
  · have ne : a ≠ p := fun z => by rw [z, hp] at e; cases e
    have q := h.ob a o e
    cases o with
    | lst ds =>
      obtain ⟨vs, e1, z, r⟩ := q
      exact ⟨vs, (upd_ne ne).trans e1, z, Reps.off hp hv r⟩
    | dK kvs =>
      obtain ⟨xs, e1, e2, r⟩ := q
      exact ⟨xs, (upd_ne ne).trans e1, e2, Reps.off hp hv r⟩
  · by_cases hz : a = p
    · subst hz
      rw [upd_same]; simp
    · rw [upd_ne hz]
      exact h.tr a e
/-- a thing aside becomes live -/
theorem live_hrep {o : O} (hp : S p = some none) (h : HRep TL K S H) (q : ObjR K S H p o) : HRep TL K (S.put p o) H := by
  refine ⟨fun a o' e => ?_, fun a e => ?_, h.tab⟩
  · unfold XS.put at e
    split at e
    · rename_i hz2
      subst hz2
      cases e
      exact q.less (put_less hp)
    · exact (h.ob a o' e).less (put_less hp)
  · unfold XS.put at e
    split at e
    · rename_i hz2
      subst hz2
      exact h.tr a (by rw [hp]; simp)
    · exact h.tr a e
end
/-- a lambda's making is a step -/
theorem grow_step {K : PySem.W.Frag} {S : XS} {H H1 : Hp} {P : Addr} (h : HRep TL K S H) (g : Grown P H H1) : Step S H S H1 := by
  rcases g with rfl | ⟨ps, c, q, ps', hP, hc, rfl⟩
  · exact .refl _ _
  have liv : ∀ b x, S b = some (some x) → b ≠ P := fun b x e z => by
    have := (live_ne h e)
    have q := h.ob b x e
    cases x with
    | lst ds => obtain ⟨vs, e1, _⟩ := q; rw [z, hP] at e1; cases e1
    | dK ds => obtain ⟨vs, e1, _⟩ := q; rw [z, hP] at e1; cases e1
  refine ⟨fun b o e _ nt => ?_, fun b hb => .inl hb, fun b xs e => ?_, fun b o u e => ?_, fun b e => ⟨e, fun n => ?_⟩, fun b e => upd_trk (upd_trk e)⟩
  · rw [upd_ne (ne_of_none e hc), upd_ne (fun z => nt ps (by rw [z, hP] at e; exact (Option.some.inj e).symm))]
    exact e
  · rw [upd_ne (ne_of_none e hc), upd_ne (fun z => by rw [z, hP] at e; cases e)]
    exact e
  · rw [upd_ne (ne_of_none e hc), upd_ne (fun z => by rw [z, hP] at e; cases e)]
    exact e
  · have n1 : b ≠ P := fun z => n ps (by rw [z]; exact hP)
    have n2 : b ≠ c := fun z => h.tr b (by rw [e]; simp) (by rw [z]; exact hc)
    rw [upd_ne n2, upd_ne n1]
theorem grow_hrep {K : PySem.W.Frag} {S : XS} {H H1 : Hp} {P : Addr} (h : HRep TL K S H) (g : Grown P H H1) (ht : LamX.Tabs TL H1) : HRep TL K S H1 := by
  have st := grow_step h g
  refine ⟨fun a o e => ?_, fun a e z => h.tr a e (st.trk a z), ht⟩
  refine (h.ob a o e).stp st ?_
  rcases g with rfl | ⟨ps, c, q, ps', hP, hc, rfl⟩
  · rfl
  · have n1 : a ≠ P := fun z => by
      have q := h.ob a o e
      cases o with
      | lst ds => obtain ⟨vs, e1, _⟩ := q; rw [z, hP] at e1; cases e1
      | dK ds => obtain ⟨vs, e1, _⟩ := q; rw [z, hP] at e1; cases e1
    have n2 : a ≠ c := fun z => h.tr a (by rw [e]; simp) (by rw [z]; exact hc)
    rw [upd_ne n2, upd_ne n1]
/-- slots, heap and store -/
structure Rl (TL : List (Addr × Str)) (E9 : XS × Hp) (K : PySem.W.Frag) (S : XS) (H : Hp) (σ : L2.St) (r : En) : Prop where
  len : σ.length = r.length
  env : ∀ (i : Nat) (d : D), r[i]? = some (some d) → ∃ v, σ[i]? = some (some v) ∧ Rep K S H v d
  hp : HRep TL K S H
  fr : Step E9.1 E9.2 S H
theorem Rl.stp {K : PySem.W.Frag} {S S' : XS} {H H' : Hp} {σ : L2.St} {r : En} (x : Rl TL E9 K S H σ r) (h : Step S H S' H') (hp : HRep TL K S' H') : Rl TL E9 K S' H' σ r :=
  ⟨x.len, fun i d e => let ⟨v, e1, q⟩ := x.env i d e; ⟨v, e1, q.stp h⟩, hp, x.fr.trans h⟩
theorem Rl.set {K : PySem.W.Frag} {S : XS} {H : Hp} {σ : L2.St} {r : En} (x : Rl TL E9 K S H σ r) {i : Nat} {v : V} {d : D} (q : Rep K S H v d) : Rl TL E9 K S H (σ.set i (some v)) (r.set i (some d)) := by
  refine ⟨by simp [x.len], fun j e hj => ?_, x.hp, x.fr⟩
  by_cases hij : i = j
  · subst hij
    by_cases hl : i < r.length
    · rw [List.getElem?_set_self hl] at hj
      cases hj
      exact ⟨v, List.getElem?_set_self (by rw [x.len]; exact hl), q⟩
    · rw [List.getElem?_eq_none (by rw [List.length_set]; omega)] at hj
      cases hj
  · rw [List.getElem?_set_ne hij] at hj ⊢
    exact x.env j e hj

/-! readings -/
abbrev WDE := En → Sto → (D → Sto → Prop) → Prop
def rdE (TL : List (Addr × Str)) (E9 : XS × Hp) (K : PySem.W.Frag) (w : WDE) : TE := fun σ H Q => ∃ (r : En) (S : XS) (Q0 : D → Sto → Prop), Rl TL E9 K S H σ r ∧ w r (prj S) Q0 ∧
  ∀ d S' v H', Q0 d (prj S') → Step S H S' H' → HRep TL K S' H' → Rep K S' H' v d → Q v H'
/-- a new list, not seen by anything yet -/
def rdF (TL : List (Addr × Str)) (E9 : XS × Hp) (K : PySem.W.Frag) (w : WDE) : TE := fun σ H Q => ∃ (r : En) (S : XS) (Q0 : D → Sto → Prop), Rl TL E9 K S H σ r ∧ w r (prj S) Q0 ∧
  ∀ ds S' vs H' p, Q0 (.lst ds) (prj S') → Step S H S' H' → HRep TL K S' H' → S p = none → H p = none → S' p = some none → H' p = some (.lst vs) → vs.length ≤ sizeLine → Reps K S' H' vs ds → Q (.ref p) H'
def rdT (TL : List (Addr × Str)) (E9 : XS × Hp) (K : PySem.W.Frag) (w : En → Sto → (Bool → Sto → Prop) → Prop) : TT := fun σ H Q => ∃ (r : En) (S : XS) (Q0 : Bool → Sto → Prop), Rl TL E9 K S H σ r ∧ w r (prj S) Q0 ∧
  ∀ b S' H', Q0 b (prj S') → Step S H S' H' → HRep TL K S' H' → Q b H'
def rdA (TL : List (Addr × Str)) (E9 : XS × Hp) (K : PySem.W.Frag) (w : En → Sto → (List D → Sto → Prop) → Prop) : TA := fun σ H Q => ∃ (r : En) (S : XS) (Q0 : List D → Sto → Prop), Rl TL E9 K S H σ r ∧ w r (prj S) Q0 ∧
  ∀ ds S' vs H', Q0 ds (prj S') → Step S H S' H' → HRep TL K S' H' → Reps K S' H' vs ds → Q vs H'
def rdS (TL : List (Addr × Str)) (E9 : XS × Hp) (K : PySem.W.Frag) (w : En → Sto → Out → Prop) : TS := fun Z σ H => ∃ (r : En) (S : XS) (Z0 : Out), Rl TL E9 K S H σ r ∧ w r (prj S) Z0 ∧
  (∀ r' S' σ' H', Z0.nx r' (prj S') → Step S H S' H' → Rl TL E9 K S' H' σ' r' → Z.nx σ' H') ∧
  (∀ d S' v H', Z0.rt d (prj S') → Step S H S' H' → HRep TL K S' H' → Rep K S' H' v d → Z.rt v H') ∧
  (∀ r' S' σ' H', Z0.bk r' (prj S') → Step S H S' H' → Rl TL E9 K S' H' σ' r' → Z.bk σ' H') ∧
  (∀ r' S' σ' H', Z0.ct r' (prj S') → Step S H S' H' → Rl TL E9 K S' H' σ' r' → Z.ct σ' H')
mutual
def CT.slots : CT → List Nat
  | .nm i => [i]
  | .tp ts => ts.slots
def CTs.slots : CTs → List Nat
  | .nil => []
  | .cons t ts => t.slots ++ ts.slots
end
/-- nothing but these slots is changed -/
def Off (is : List Nat) (σ σ' : L2.St) : Prop := ∀ vs : List Nat, (∀ i ∈ is, i ∈ vs) → wipe σ' vs = wipe σ vs
def rdG (TL : List (Addr × Str)) (E9 : XS × Hp) (K : PySem.W.Frag) (t : CT) : TG := fun v σ H Q => ∃ (r : En) (S : XS) (d : D) (Q0 : En → Prop), Rl TL E9 K S H σ r ∧ Rep K S H v d ∧ bindT t d r Q0 ∧ ∀ r' σ', Q0 r' → Rl TL E9 K S H σ' r' → Off t.slots σ σ' → Q σ' H
def rdGs (TL : List (Addr × Str)) (E9 : XS × Hp) (K : PySem.W.Frag) (t : CTs) : TGs := fun vs σ H Q => ∃ (r : En) (S : XS) (ds : List D) (Q0 : En → Prop), Rl TL E9 K S H σ r ∧ Reps K S H vs ds ∧ bindTs t ds r Q0 ∧ ∀ r' σ', Q0 r' → Rl TL E9 K S H σ' r' → Off t.slots σ σ' → Q σ' H

/-- the weak look: also a live list is read -/
inductive RepW (K : PySem.W.Frag) (S : XS) (H : Hp) : V → D → Prop
  | of {v : V} {d : D} : Rep K S H v d → RepW K S H v d
  | live {a : Addr} {vs : List V} {ds : List D} : H a = some (.lst vs) → vs.length ≤ sizeLine → Reps K S H vs ds → RepW K S H (.ref a) (.lst ds)
theorem rs_rep {K : PySem.W.Frag} {S : XS} {H : Hp} {v : V} {d : D} (h : HRep TL K S H) (q : Rep K S H v d) : RepW K S H v (rs (prj S) d) := by
  cases q with
  | loc a =>
    cases e : prj S a with
    | none => simp only [rs, e]; exact .of (.loc a)
    | some o =>
      cases o with
      | lst ds =>
        simp only [rs, e]
        obtain ⟨vs, e1, z, r⟩ := h.ob a _ (prj_some e)
        exact .live e1 z r
      | dK kvs => simp only [rs, e]; exact .of (.loc a)
  | non => exact .of .non
  | bl b => exact .of (.bl b)
  | int i => exact .of (.int i)
  | str z => exact .of (.str z)
  | tup a b c => exact .of (.tup a b c)
  | lst a b c d => exact .of (.lst a b c d)
  | lsf a b c => exact .of (.lsf a b c)
section
variable {K : PySem.W.Frag} {S : XS} {H : Hp} {v : V}
theorem RepW.lst_inv {ds : List D} (q : RepW K S H v (.lst ds)) : ∃ a vs, v = .ref a ∧ H a = some (.lst vs) ∧ vs.length ≤ sizeLine ∧ Reps K S H vs ds := by
  cases q with
  | of q => cases q with
    | lst a n z r => exact ⟨_, _, rfl, a, z, r⟩
  | live a z r => exact ⟨_, _, rfl, a, z, r⟩
theorem RepW.tup_inv {ds : List D} (q : RepW K S H v (.tup ds)) : ∃ a vs, v = .ref a ∧ SqT K H a vs ∧ vs.length ≤ sizeLine ∧ Reps K S H vs ds := by
  cases q with
  | of q => cases q with
    | tup a z r => exact ⟨_, _, rfl, a, z, r⟩
theorem RepW.int_inv {i : Int} (q : RepW K S H v (.int i)) : v = .int i := by
  cases q with
  | of q => cases q; rfl
theorem RepW.str_inv {i : Str} (q : RepW K S H v (.str i)) : v = .str i ∧ i.length ≤ sizeLine := by
  cases q with
  | of q => cases q with
    | str z => exact ⟨rfl, z⟩
theorem RepW.bl_inv {i : Bool} (q : RepW K S H v (.bl i)) : v = .bl i := by
  cases q with
  | of q => cases q; rfl
theorem RepW.non_inv (q : RepW K S H v .non) : v = .non := by
  cases q with
  | of q => cases q; rfl
theorem RepW.lsf_inv {ds : List D} (q : RepW K S H v (.lsf ds)) : ∃ a vs, v = .ref a ∧ SqL K H a vs ∧ vs.length ≤ sizeLine ∧ Reps K S H vs ds := by
  cases q with
  | of q => cases q with
    | lsf a z r => exact ⟨_, _, rfl, a.sq, z, r⟩
end
/-! data by the library's reading -/
mutual
theorem Rep.dp {K : PySem.W.Frag} {S : XS} {H : Hp} : ∀ (d : D) {v : V}, d.isP = true → Rep K S H v d → Dp K H v d.toP
  | .non, _, _, .non => .non
  | .bl _, _, _, .bl b => .bl b
  | .int _, _, _, .int i => .int i
  | .str _, _, _, .str z => .str _
  | .tup ds, _, h, .tup q z r => .tup q (Reps.dp ds (by simpa [D.isP] using h) r)
  | .lst ds, _, h, .lst q n z r => .lst (.of q) (Reps.dp ds (by simpa [D.isP] using h) r)
  | .lsf ds, _, h, _ => by simp [D.isP] at h
  | .loc ds, _, h, _ => by simp [D.isP] at h
theorem Reps.dp {K : PySem.W.Frag} {S : XS} {H : Hp} : ∀ (ds : List D) {vs : List V}, isPs ds = true → Reps K S H vs ds → DpAll K H vs (toPs ds)
  | [], _, _, .nil => .nil
  | d :: ds, _, h, .cons a r => by
    simp only [isPs, Bool.and_eq_true] at h
    exact .cons (Rep.dp d h.1 a) (Reps.dp ds h.2 r)
end
theorem RepW.dp {K : PySem.W.Frag} {S : XS} {H : Hp} {v : V} {d : D} (h : d.isP = true) (q : RepW K S H v d) : Dp K H v d.toP := by
  cases q with
  | of q => exact q.dp d h
  | live a z r => exact .lst (.of a) (Reps.dp _ (by simpa [D.isP] using h) r)
end FL

namespace FL
open PySem PySem.Spec PyProof.Rows L2
theorem in_log {n k : Nat} (h : n.log2 < k) : n < 2 ^ k := by
  by_cases h0 : n = 0
  · subst h0
    exact Nat.two_pow_pos k
  · exact (Nat.log2_lt h0).mp h
theorem sz_in {i : Int} (h : sz64 i = true) : -(2 ^ 64) < i ∧ i < 2 ^ 64 := by
  have := in_log (of_decide_eq_true h)
  omega
variable {X : Cx}
def rD2 (TL : List (Addr × Str)) (K : PySem.W.Frag) (g : D → D → Option D) : R2 := fun x y H Q => ∃ S dx dy dz, HRep TL K S H ∧ RepW K S H x dx ∧ RepW K S H y dy ∧ g dx dy = some dz ∧ ∀ v H', Same H H' → Rep K S H' v dz → Q v H'
theorem Reps.sm {K : PySem.W.Frag} {S : XS} {H H' : Hp} {v : List V} {d : List D} (hp : HRep TL K S H) (h : Reps K S H v d) (s : Same H H') : Reps K S H' v d := h.stp (hp.sstep s)
/-- a new list, a new tuple -/
theorem Rep.newL {K : PySem.W.Frag} {S : XS} {H : Hp} {p : Addr} {vs : List V} {ds : List D} (hp : HRep TL K S H) (hn : H p = none) (hz : vs.length ≤ sizeLine) (r : Reps K S H vs ds) : Rep K S (upd H p (.lst vs)) (.ref p) (.lst ds) :=
  .lst upd_same (hp.fresh hn) hz (Reps.sm hp r (upd_laid hn))
theorem Rep.newT {K : PySem.W.Frag} {S : XS} {H : Hp} {p : Addr} {vs : List V} {ds : List D} (hp : HRep TL K S H) (hn : H p = none) (hz : vs.length ≤ sizeLine) (r : Reps K S H vs ds) : Rep K S (upd H p (.tup vs)) (.ref p) (.tup ds) :=
  .tup (.of upd_same) hz (Reps.sm hp r (upd_laid hn))
theorem str_app_len (a b : Str) : (a ++ b).length = a.length + b.length := by
  show (a.cps ++ b.cps).size = a.cps.size + b.cps.size
  simp

theorem bin_ok (op : Operator) : OpR X (binaryOp op) (rD2 TL X.K (binD op)) := by
  intro pins s σ H x y v u Q I rx ry h
  obtain ⟨S, dx, dy, dz, hp, hx, hy, e, q⟩ := h
  unfold binD at e
  split at e
  · -- + ints
    obtain rfl := hx.int_inv
    obtain rfl := hy.int_inv
    cases e
    exact op_add pins s σ H _ _ v u Q I rx ry ⟨_, _, rfl, rfl, q _ _ (.refl _) (.int _)⟩
  · obtain ⟨rfl, _⟩ := hx.str_inv
    obtain ⟨rfl, _⟩ := hy.str_inv
    split at e
    · rename_i hz
      cases e
      exact op_add_str pins s σ H _ _ v u Q I rx ry ⟨_, _, rfl, rfl, hz, q _ _ (.refl _) (.str (by rw [str_app_len]; exact hz))⟩
    · cases e
  · obtain ⟨a, vs, rfl, ha, za, ra⟩ := hx.tup_inv
    obtain ⟨b, ws, rfl, hb, zb, rb⟩ := hy.tup_inv
    split at e
    · rename_i hz
      cases e
      have hl : vs.length + ws.length ≤ sizeLine := by rw [ra.len, rb.len]; exact hz
      refine op_catA pins s σ H _ _ v u Q I rx ry ⟨a, b, vs, ws, rfl, rfl, ha, hb, hl, fun z => ?_, fun z1 z2 => ?_, fun _ _ p np => ?_⟩
      · subst z
        cases ra
        exact q _ _ (.refl _) (.tup hb zb (by simpa using rb))
      · subst z2
        cases rb
        exact q _ _ (.refl _) (.tup ha za (by simpa using ra))
      · exact q _ _ (upd_laid np) (Rep.newT hp np (by simpa using hl) (ra.app rb))
    · cases e
  · obtain ⟨a, vs, rfl, ha, za, ra⟩ := hx.lst_inv
    obtain ⟨b, ws, rfl, hb, zb, rb⟩ := hy.lst_inv
    split at e
    · rename_i hz
      cases e
      have hl : vs.length + ws.length ≤ sizeLine := by rw [ra.len, rb.len]; exact hz
      refine op_cat pins s σ H _ _ v u Q I rx ry ⟨a, b, vs, ws, rfl, rfl, ha, hb, hl, fun p np => ?_⟩
      exact q _ _ (upd_laid np) (Rep.newL hp np (by simpa using hl) (ra.app rb))
    · cases e
  · obtain rfl := hx.int_inv
    obtain rfl := hy.int_inv
    cases e
    exact op_sub pins s σ H _ _ v u Q I rx ry ⟨_, _, rfl, rfl, q _ _ (.refl _) (.int _)⟩
  · obtain rfl := hx.int_inv
    obtain rfl := hy.int_inv
    split at e
    · rename_i hz
      cases e
      have hz2 := sz_in hz
      exact op_mul pins s σ H _ _ v u Q I rx ry ⟨_, _, rfl, rfl, .inl hz2, q _ _ (.refl _) (.int _)⟩
    · cases e
  · obtain ⟨a, vs, rfl, ha, za, ra⟩ := hx.lst_inv
    obtain rfl := hy.int_inv
    split at e
    · rename_i k hz
      cases e
      have hl : vs.length * k.toNat ≤ sizeLine := by
        rw [ra.len]
        have h1 : k.toNat ≤ 1000 := by omega
        exact Nat.le_trans (Nat.mul_le_mul hz.2.2 h1) (by decide)
      refine op_rep pins s σ H _ _ v u Q I rx ry ⟨a, k, vs, rfl, rfl, ha, by omega, by omega, hl, fun p np => ?_⟩
      refine q _ _ (upd_laid np) (Rep.newL hp np ?_ (ra.rep _))
      simp only [List.length_flatten, List.map_replicate, List.sum_replicate_nat]
      rw [Nat.mul_comm]; exact hl
    · cases e
  · obtain ⟨a, vs, rfl, ha, za, ra⟩ := hx.tup_inv
    obtain rfl := hy.int_inv
    split at e
    · rename_i ds _ k hz
      cases e
      have hl : vs.length * k.toNat ≤ sizeLine := by
        rw [ra.len]
        have h1 : k.toNat ≤ 1000 := by omega
        exact Nat.le_trans (Nat.mul_le_mul hz.2.2.2 h1) (by decide)
      have hne : vs ≠ [] := fun z => by
        subst z
        cases ra
        exact hz.1 rfl
      refine op_repT pins s σ H _ _ v u Q I rx ry ⟨a, k, vs, rfl, rfl, ha, hne, hz.2.1, hz.2.2.1, by rw [ra.len]; exact hz.2.2.2, fun p np => ?_⟩
      refine q _ _ (upd_laid np) (Rep.newT hp np ?_ (ra.rep _))
      simp only [List.length_flatten, List.map_replicate, List.sum_replicate_nat]
      rw [Nat.mul_comm]; exact hl
    · cases e
  · obtain rfl := hx.int_inv
    obtain rfl := hy.int_inv
    split at e
    · rename_i hz
      cases e
      exact op_fdiv pins s σ H _ _ v u Q I rx ry ⟨_, _, rfl, rfl, ⟨hz.1, by have := in_log hz.2; omega⟩, q _ _ (.refl _) (.int _)⟩
    · cases e
  · obtain rfl := hx.int_inv
    obtain rfl := hy.int_inv
    split at e
    · rename_i hz
      cases e
      exact op_mod pins s σ H _ _ v u Q I rx ry ⟨_, _, rfl, rfl, hz, q _ _ (.refl _) (.int _)⟩
    · cases e
  · obtain rfl := hx.int_inv
    obtain rfl := hy.int_inv
    split at e
    · rename_i hz
      cases e
      exact op_pow pins s σ H _ _ v u Q I rx ry ⟨_, _, rfl, rfl, hz, q _ _ (.refl _) (.int _)⟩
    · cases e
  · cases e

def rDc (TL : List (Addr × Str)) (K : PySem.W.Frag) (g : D → D → Option Bool) : R2 := fun x y H Q => ∃ S dx dy b, HRep TL K S H ∧ RepW K S H x dx ∧ RepW K S H y dy ∧ g dx dy = some b ∧ Q (.bl b) H
theorem RepW.isN {K : PySem.W.Frag} {S : XS} {H : Hp} {x : V} {d : D} (h : RepW K S H x d) : decide (x = V.non) = (match d with | .non => true | _ => false) := by
  cases h with
  | of h => cases h <;> simp
  | live => simp
theorem flat_eq {K : PySem.W.Frag} {S : XS} {H : Hp} {x y : V} {dx dy : D} (hx : Rep K S H x dx) (hy : Rep K S H y dy) (fx : flatD dx = true) (fy : flatD dy = true) : eqV x y = eqD dx dy ∧ flatV x = true ∧ flatV y = true := by
  cases hx <;> first
    | (simp [flatD] at fx; done)
    | (cases hy <;> first
        | (simp [flatD] at fy; done)
        | exact ⟨rfl, rfl, rfl⟩)
theorem RepW.flat {K : PySem.W.Frag} {S : XS} {H : Hp} {x : V} {d : D} (h : RepW K S H x d) (f : flatD d = true) : Rep K S H x d := by
  cases h with
  | of h => exact h
  | live => simp [flatD] at f
theorem flat_in {K : PySem.W.Frag} {S : XS} {H : Hp} {x : V} {dx : D} (hx : Rep K S H x dx) (fx : flatD dx = true) : ∀ {vs : List V} {ds : List D}, Reps K S H vs ds → ds.all flatD = true → inV x vs = inD dx ds ∧ vs.all flatV = true
  | _, _, .nil, _ => ⟨rfl, rfl⟩
  | _, _, .cons a r, h => by
    simp only [List.all_cons, Bool.and_eq_true] at h
    obtain ⟨e1, f1, _⟩ := flat_eq a hx h.1 fx
    obtain ⟨e2, f2⟩ := flat_in hx fx r h.2
    unfold inV at e2 ⊢
    unfold inD at e2 ⊢
    simp only [List.any_cons, List.all_cons, e1, e2, f1, f2, Bool.and_self, and_self]
theorem cmp_ok (hu : X.A.units + 64 < cLine) (op : CmpOp) : OpR X (compareOp op) (rDc TL X.K (cmpD op)) := by
  intro pins s σ H x y v u Q I rx ry h
  obtain ⟨S, dx, dy, b, hp, hx, hy, e, q⟩ := h
  cases op with
  | Eq =>
    simp only [cmpD] at e
    split at e
    · obtain rfl := hx.int_inv
      obtain rfl := hy.int_inv
      cases e
      exact op_eq pins s σ H _ _ v u Q I rx ry ⟨rfl, by simpa using q⟩
    · obtain ⟨rfl, _⟩ := hx.str_inv
      obtain ⟨rfl, _⟩ := hy.str_inv
      cases e
      exact op_eq pins s σ H _ _ v u Q I rx ry ⟨rfl, by simpa using q⟩
    · split at e
      · rename_i hz
        cases e
        simp only [okEq, Bool.and_eq_true] at hz
        exact op_eqD hu pins s σ H _ _ v u Q I rx ry ⟨_, _, hx.dp hz.1.1, hy.dp hz.2.1, hz.1.2, hz.2.2, q⟩
      · cases e
  | NotEq =>
    simp only [cmpD] at e
    split at e
    · obtain rfl := hx.int_inv
      obtain rfl := hy.int_inv
      cases e
      exact op_ne pins s σ H _ _ v u Q I rx ry ⟨rfl, by simpa using q⟩
    · obtain ⟨rfl, _⟩ := hx.str_inv
      obtain ⟨rfl, _⟩ := hy.str_inv
      cases e
      exact op_ne pins s σ H _ _ v u Q I rx ry ⟨rfl, by simpa using q⟩
    · split at e
      · rename_i hz
        cases e
        simp only [okEq, Bool.and_eq_true] at hz
        exact op_neD hu pins s σ H _ _ v u Q I rx ry ⟨_, _, hx.dp hz.1.1, hy.dp hz.2.1, hz.1.2, hz.2.2, q⟩
      · cases e
  | Lt =>
    simp only [cmpD] at e
    split at e
    · obtain rfl := hx.int_inv
      obtain rfl := hy.int_inv
      cases e
      exact op_lt pins s σ H _ _ v u Q I rx ry ⟨_, _, rfl, rfl, q⟩
    · obtain ⟨rfl, _⟩ := hx.str_inv
      obtain ⟨rfl, _⟩ := hy.str_inv
      cases e
      exact op_lt_str pins s σ H _ _ v u Q I rx ry ⟨_, _, rfl, rfl, q⟩
    · cases e
  | LtE =>
    simp only [cmpD] at e
    split at e
    · obtain rfl := hx.int_inv
      obtain rfl := hy.int_inv
      cases e
      exact op_le pins s σ H _ _ v u Q I rx ry ⟨_, _, rfl, rfl, q⟩
    · obtain ⟨rfl, _⟩ := hx.str_inv
      obtain ⟨rfl, _⟩ := hy.str_inv
      cases e
      exact op_le_str pins s σ H _ _ v u Q I rx ry ⟨_, _, rfl, rfl, q⟩
    · cases e
  | Gt =>
    simp only [cmpD] at e
    split at e
    · obtain rfl := hx.int_inv
      obtain rfl := hy.int_inv
      cases e
      exact op_gt pins s σ H _ _ v u Q I rx ry ⟨_, _, rfl, rfl, q⟩
    · obtain ⟨rfl, _⟩ := hx.str_inv
      obtain ⟨rfl, _⟩ := hy.str_inv
      cases e
      exact op_gt_str pins s σ H _ _ v u Q I rx ry ⟨_, _, rfl, rfl, q⟩
    · cases e
  | GtE =>
    simp only [cmpD] at e
    split at e
    · obtain rfl := hx.int_inv
      obtain rfl := hy.int_inv
      cases e
      exact op_ge pins s σ H _ _ v u Q I rx ry ⟨_, _, rfl, rfl, q⟩
    · obtain ⟨rfl, _⟩ := hx.str_inv
      obtain ⟨rfl, _⟩ := hy.str_inv
      cases e
      exact op_ge_str pins s σ H _ _ v u Q I rx ry ⟨_, _, rfl, rfl, q⟩
    · cases e
  | Is =>
    simp only [cmpD] at e
    split at e
    · obtain rfl := hy.non_inv
      cases e
      refine op_isN pins s σ H _ _ v u Q I rx ry ⟨rfl, ?_⟩
      rw [hx.isN]
      cases dx <;> exact q
    · cases e
  | IsNot =>
    simp only [cmpD] at e
    split at e
    · obtain rfl := hy.non_inv
      cases e
      refine op_notN pins s σ H _ _ v u Q I rx ry ⟨rfl, ?_⟩
      rw [hx.isN]
      cases dx <;> exact q
    · cases e
  | In =>
    simp only [cmpD] at e
    split at e
    · obtain ⟨rfl, _⟩ := hy.str_inv
      split at e
      · obtain ⟨rfl, _⟩ := hx.str_inv
        cases e
        exact op_in_str pins s σ H _ _ v u Q I rx ry ⟨_, _, rfl, rfl, q⟩
      · cases e
    · obtain ⟨a, vs, rfl, ha, za, ra⟩ := hy.tup_inv
      split at e
      · rename_i hz
        cases e
        simp only [Bool.and_eq_true] at hz
        have hx' := hx.flat hz.1
        obtain ⟨e1, f1⟩ := flat_in hx' hz.1 ra hz.2
        refine op_in_seq pins s σ H _ _ v u Q I rx ry ⟨a, vs, rfl, .inr ha, (flat_eq hx' hx' hz.1 hz.1).2.1, f1, ?_⟩
        show Q (V.bl (inV x vs)) H
        rw [e1]; exact q
      · cases e
    · obtain ⟨a, vs, rfl, ha, za, ra⟩ := hy.lst_inv
      split at e
      · rename_i hz
        cases e
        simp only [Bool.and_eq_true] at hz
        have hx' := hx.flat hz.1
        obtain ⟨e1, f1⟩ := flat_in hx' hz.1 ra hz.2
        refine op_in_seq pins s σ H _ _ v u Q I rx ry ⟨a, vs, rfl, .inl (.of ha), (flat_eq hx' hx' hz.1 hz.1).2.1, f1, ?_⟩
        show Q (V.bl (inV x vs)) H
        rw [e1]; exact q
      · cases e
    · cases e
  | NotIn =>
    simp only [cmpD] at e
    split at e
    · obtain ⟨rfl, _⟩ := hy.str_inv
      split at e
      · obtain ⟨rfl, _⟩ := hx.str_inv
        cases e
        refine op_notin_str pins s σ H _ _ v u Q I rx ry ⟨_, _, rfl, rfl, ?_⟩
        rw [Bool.not_not]; exact q
      · cases e
    · obtain ⟨a, vs, rfl, ha, za, ra⟩ := hy.tup_inv
      split at e
      · rename_i hz
        cases e
        simp only [Bool.and_eq_true] at hz
        have hx' := hx.flat hz.1
        obtain ⟨e1, f1⟩ := flat_in hx' hz.1 ra hz.2
        refine op_notIn_seq pins s σ H _ _ v u Q I rx ry ⟨a, vs, rfl, .inr ha, (flat_eq hx' hx' hz.1 hz.1).2.1, f1, ?_⟩
        show Q (V.bl (!inV x vs)) H
        rw [e1]; exact q
      · cases e
    · obtain ⟨a, vs, rfl, ha, za, ra⟩ := hy.lst_inv
      split at e
      · rename_i hz
        cases e
        simp only [Bool.and_eq_true] at hz
        have hx' := hx.flat hz.1
        obtain ⟨e1, f1⟩ := flat_in hx' hz.1 ra hz.2
        refine op_notIn_seq pins s σ H _ _ v u Q I rx ry ⟨a, vs, rfl, .inl (.of ha), (flat_eq hx' hx' hz.1 hz.1).2.1, f1, ?_⟩
        show Q (V.bl (!inV x vs)) H
        rw [e1]; exact q
      · cases e
    · cases e
/-- truth -/
theorem truth_ok {K : PySem.W.Frag} {S : XS} {H : Hp} {x : V} {d : D} {b : Bool} (h : RepW K S H x d) (e : truth d = some b) : TruV K x H b := by
  cases d with
  | non => cases h.non_inv; cases e; rfl
  | bl c => cases h.bl_inv; cases e; rfl
  | int i => cases h.int_inv; cases e; rfl
  | str z => obtain ⟨rfl, hz⟩ := h.str_inv; cases e; exact ⟨hz, rfl⟩
  | tup ds =>
    obtain ⟨a, vs, rfl, ha, za, ra⟩ := h.tup_inv
    cases e
    refine .inr (.inl ⟨vs, ha, ?_⟩)
    cases ra <;> rfl
  | lst ds =>
    obtain ⟨a, vs, rfl, ha, za, ra⟩ := h.lst_inv
    cases e
    refine .inl ⟨vs, .of ha, ?_⟩
    cases ra <;> rfl
  | lsf ds => cases e
  | loc a => cases e

/-! built-ins of one argument -/
def rB (TL : List (Addr × Str)) (K : PySem.W.Frag) (b : Bi) : List V → Hp → VK → Prop := fun xs H Q => ∃ S ds d, HRep TL K S H ∧ Reps K S H xs ds ∧ biD b (ds.map (rs (prj S))) = some d ∧ ∀ v H', Same H H' → Rep K S H' v d → Q v H'
theorem biD_one {b : Bi} {ds : List D} {d : D} (e : biD b ds = some d) : ∃ x, ds = [x] := by
  match ds, e with
  | [x], _ => exact ⟨x, rfl⟩
  | [], e => cases b <;> simp [biD] at e
  | _ :: _ :: _, e => cases b <;> simp [biD] at e
theorem rB_one {K : PySem.W.Frag} {b : Bi} {xs : List V} {H : Hp} {Q : VK} (h : rB TL K b xs H Q) : ∃ S x d0 d, xs = [x] ∧ HRep TL K S H ∧ RepW K S H x d0 ∧ biD b [d0] = some d ∧ ∀ v H', Same H H' → Rep K S H' v d → Q v H' := by
  obtain ⟨S, ds, d, hp, r, e, q⟩ := h
  obtain ⟨x, hx⟩ := biD_one e
  cases r with
  | nil => simp at hx
  | cons a r =>
    cases r with
    | nil => exact ⟨S, _, _, d, rfl, hp, rs_rep hp a, e, q⟩
    | cons => simp at hx
theorem Reps.strs {K : PySem.W.Frag} {S : XS} {H : Hp} : ∀ {vs : List V} {ds : List D} {ss : List Str}, Reps K S H vs ds → strsOf ds = some ss → vs = ss.map V.str ∧ ds = ss.map D.str ∧ ∀ s ∈ ss, s.length ≤ sizeLine
  | _, _, _, .nil, e => by cases e; simp
  | _, _, ss, .cons (ds := ds) a r, e => by
    cases a with
    | str z =>
      simp only [strsOf, Option.map_eq_some_iff] at e
      obtain ⟨t, e1, rfl⟩ := e
      obtain ⟨h1, h2, h3⟩ := r.strs e1
      subst h1 h2
      exact ⟨rfl, rfl, fun s hs => by
        rcases List.mem_cons.mp hs with rfl | hs
        · exact z
        · exact h3 s hs⟩
    | _ => cases e
theorem Reps.blS {K : PySem.W.Frag} {S : XS} {H : Hp} : ∀ {vs : List V} {ds : List D} {ss : List Bool}, Reps K S H vs ds → bools ds = some ss → vs = ss.map V.bl
  | _, _, _, .nil, e => by cases e; rfl
  | _, _, ss, .cons (ds := ds) a r, e => by
    cases a with
    | bl z =>
      simp only [bools, Option.map_eq_some_iff] at e
      obtain ⟨t, e1, rfl⟩ := e
      rw [r.blS e1]
      rfl
    | _ => cases e
theorem Reps.intS {K : PySem.W.Frag} {S : XS} {H : Hp} : ∀ {vs : List V} {ds : List D} {ss : List Int}, Reps K S H vs ds → intsOf ds = some ss → vs = ss.map V.int
  | _, _, _, .nil, e => by cases e; rfl
  | _, _, ss, .cons (ds := ds) a r, e => by
    cases a with
    | int z =>
      simp only [intsOf, Option.map_eq_some_iff] at e
      obtain ⟨t, e1, rfl⟩ := e
      rw [r.intS e1]
      rfl
    | _ => cases e
theorem Reps.ofStrs {K : PySem.W.Frag} {S : XS} {H : Hp} : ∀ {ss : List Str}, (∀ s ∈ ss, s.length ≤ sizeLine) → Reps K S H (ss.map V.str) (ss.map D.str)
  | [], _ => .nil
  | s :: r, h => .cons (.str (h s List.mem_cons_self)) (.ofStrs fun t ht => h t (List.mem_cons_of_mem _ ht))
mutual
theorem toP_noDict : ∀ d : D, d.toP.hasDict = false
  | .non => rfl | .bl _ => rfl | .int _ => rfl | .str _ => rfl | .loc _ => rfl
  | .tup ds => by simp only [D.toP, PyData.hasDict]; exact toPs_noDict ds
  | .lst ds => by simp only [D.toP, PyData.hasDict]; exact toPs_noDict ds
  | .lsf ds => by simp only [D.toP, PyData.hasDict]; exact toPs_noDict ds
theorem toPs_noDict : ∀ ds : List D, PyData.hasDictAll (toPs ds) = false
  | [] => rfl
  | d :: ds => by simp only [toPs, PyData.hasDictAll, toP_noDict d, toPs_noDict ds, Bool.or_self]
end
/-! sorting texts -/
theorem insS_perm (x : Str) : ∀ l : List Str, (insS x l).Perm (x :: l)
  | [] => .refl _
  | y :: r => by
    unfold insS
    split
    · exact ((insS_perm x r).cons y).trans (.swap x y r)
    · exact .refl _
theorem sortS_perm : ∀ l : List Str, (sortS l).Perm l
  | [] => .refl _
  | x :: r => (insS_perm x (sortS r)).trans ((sortS_perm r).cons x)

def strLe (a b : Str) : Prop := a.cps.toList ≤ b.cps.toList
theorem strLe_iff {a b : Str} : strLe a b ↔ strLt b a = false := by
  unfold strLe strLt
  rw [decide_eq_false_iff_not, List.not_lt]
theorem strLe.trans {a b c : Str} (h : strLe a b) (g : strLe b c) : strLe a c := List.le_trans h g
theorem strLe.anti {a b : Str} (h : strLe a b) (g : strLe b a) : a = b := by
  have e := List.le_antisymm h g
  cases a with | mk x => cases b with | mk y =>
    have e2 : x = y := Array.toList_inj.mp e
    rw [e2]
theorem strLe.total (a b : Str) : strLe a b ∨ strLe b a := List.le_total _ _
theorem strLt_le {a b : Str} (h : strLt a b = true) : strLe a b := by
  rcases strLe.total a b with z | z
  · exact z
  · rw [strLe_iff.mp z] at h; cases h
theorem insS_pw (x : Str) : ∀ l : List Str, l.Pairwise strLe → (insS x l).Pairwise strLe
  | [], _ => by simp [insS]
  | y :: r, h => by
    obtain ⟨h1, h2⟩ := List.pairwise_cons.mp h
    unfold insS
    split
    · rename_i hlt
      refine List.pairwise_cons.mpr ⟨fun z hz => ?_, insS_pw x r h2⟩
      rcases List.mem_cons.mp ((insS_perm x r).mem_iff.mp hz) with rfl | hz
      · exact strLt_le hlt
      · exact h1 z hz
    · rename_i hlt
      have hxy : strLe x y := strLe_iff.mpr (by simpa using hlt)
      refine List.pairwise_cons.mpr ⟨fun z hz => ?_, h⟩
      rcases List.mem_cons.mp hz with rfl | hz
      · exact hxy
      · exact hxy.trans (h1 z hz)
theorem sortS_pw : ∀ l : List Str, (sortS l).Pairwise strLe
  | [] => .nil
  | x :: r => insS_pw x _ (sortS_pw r)
theorem rising_pw : ∀ (p : Str) (l : List Str), risingS p l = true → (p :: l).Pairwise strLe
  | p, [], _ => by simp
  | p, x :: r, h => by
    have h' : (!ltCps x.cps.toList p.cps.toList && risingS x r) = true := h
    simp only [Bool.and_eq_true, Bool.not_eq_true', ltCps_eq] at h'
    have ih := rising_pw x r h'.2
    have hpx : strLe p x := strLe_iff.mpr h'.1
    refine List.pairwise_cons.mpr ⟨fun z hz => ?_, ih⟩
    rcases List.mem_cons.mp hz with rfl | hz
    · exact hpx
    · exact hpx.trans ((List.pairwise_cons.mp ih).1 z hz)
theorem sorted_unique {ys xs : List Str} (p : ys.Perm xs) (h : PyProof.Rows.sortedS ys = true) : ys = sortS xs := by
  have h1 : ys.Pairwise strLe := by
    cases ys with
    | nil => exact .nil
    | cons y r => exact rising_pw y r h
  exact List.Perm.eq_of_pairwise (le := strLe) (fun a b _ _ => strLe.anti) h1 (sortS_pw xs) (p.trans (sortS_perm xs).symm)

theorem bi_len : CallR X (.builtin "len") (rB TL X.K .len) := by
  intro pins s σ H xs us Q I rv h
  obtain ⟨S, x, d0, d, rfl, hp, hx, e, q⟩ := rB_one h
  cases d0 with
  | lst ds =>
    obtain ⟨a, vs, rfl, ha, za, ra⟩ := hx.lst_inv
    cases e
    refine call_len_seq pins s σ H _ us Q I rv ⟨a, vs, rfl, .inl (.of ha), ?_⟩
    rw [ra.len]
    exact q _ _ (.refl _) (.int _)
  | tup ds =>
    obtain ⟨a, vs, rfl, ha, za, ra⟩ := hx.tup_inv
    cases e
    refine call_len_seq pins s σ H _ us Q I rv ⟨a, vs, rfl, .inr ha, ?_⟩
    rw [ra.len]
    exact q _ _ (.refl _) (.int _)
  | str z =>
    obtain ⟨rfl, hz⟩ := hx.str_inv
    cases e
    exact call_len_str pins s σ H _ us Q I rv ⟨z, rfl, hz, q _ _ (.refl _) (.int _)⟩
  | _ => cases e
theorem bi_int : CallR X (.type "int") (rB TL X.K .int1) := by
  intro pins s σ H xs us Q I rv h
  obtain ⟨S, x, d0, d, rfl, hp, hx, e, q⟩ := rB_one h
  cases d0 with
  | int i =>
    cases hx.int_inv
    cases e
    exact call_int1 pins s σ H _ us Q I rv (.inl ⟨i, rfl, q _ _ (.refl _) (.int _)⟩)
  | bl i =>
    cases hx.bl_inv
    cases e
    exact call_int1 pins s σ H _ us Q I rv (.inr ⟨i, rfl, q _ _ (.refl _) (.int _)⟩)
  | _ => cases e
theorem bi_sorted : CallR X (.builtin "sorted") (rB TL X.K .sorted) := by
  intro pins s σ H xs us Q I rv h
  obtain ⟨S, x, d0, d, rfl, hp, hx, e, q⟩ := rB_one h
  cases d0 with
  | lst ds =>
    obtain ⟨a, vs, rfl, ha, za, ra⟩ := hx.lst_inv
    simp only [biD] at e
    split at e
    · rename_i hz
      simp only [Option.map_eq_some_iff] at e
      obtain ⟨ss, e1, rfl⟩ := e
      obtain ⟨rfl, rfl, hl⟩ := ra.strs e1
      refine cr_sortedS pins s σ H _ us Q I rv ⟨a, ss, rfl, .of ha, by simpa using hz, fun ys p pm sd np => ?_⟩
      have e2 := sorted_unique pm sd
      subst e2
      have hl' : ∀ s ∈ sortS ss, s.length ≤ sizeLine := fun s hs => hl s ((sortS_perm ss).mem_iff.mp hs)
      exact q _ _ (upd_laid np) (Rep.newL hp np (by
        have := (sortS_perm ss).length_eq
        simp only [List.length_map] at hz za ⊢
        omega) (.ofStrs hl'))
    · cases e
  | _ => cases e
theorem bi_tuple : CallR X (.type "tuple") (rB TL X.K .tuple) := by
  intro pins s σ H xs us Q I rv h
  obtain ⟨S, x, d0, d, rfl, hp, hx, e, q⟩ := rB_one h
  cases d0 with
  | lst ds =>
    obtain ⟨a, vs, rfl, ha, za, ra⟩ := hx.lst_inv
    cases e
    exact call_tuple_of pins s σ H _ us Q I rv ⟨a, vs, rfl, .inl ⟨.of ha, fun p np => q _ _ (upd_laid np) (Rep.newT hp np za ra)⟩⟩
  | tup ds =>
    obtain ⟨a, vs, rfl, ha, za, ra⟩ := hx.tup_inv
    cases e
    exact call_tuple_of pins s σ H _ us Q I rv ⟨a, vs, rfl, .inr ⟨ha, q _ _ (.refl _) (.tup ha za ra)⟩⟩
  | _ => cases e
theorem bi_list : CallR X (.type "list") (rB TL X.K .list) := by
  intro pins s σ H xs us Q I rv h
  obtain ⟨S, x, d0, d, rfl, hp, hx, e, q⟩ := rB_one h
  cases d0 with
  | lst ds =>
    obtain ⟨a, vs, rfl, ha, za, ra⟩ := hx.lst_inv
    cases e
    exact call_list_of pins s σ H _ us Q I rv ⟨a, vs, rfl, .inl (.of ha), fun p np => q _ _ (upd_laid np) (Rep.newL hp np za ra)⟩
  | tup ds =>
    obtain ⟨a, vs, rfl, ha, za, ra⟩ := hx.tup_inv
    cases e
    exact call_list_of pins s σ H _ us Q I rv ⟨a, vs, rfl, .inr ha, fun p np => q _ _ (upd_laid np) (Rep.newL hp np za ra)⟩
  | _ => cases e
theorem bi_str : CallR X (.type "str") (rB TL X.K .str) := by
  intro pins s σ H xs us Q I rv h
  obtain ⟨S, x, d0, d, rfl, hp, hx, e, q⟩ := rB_one h
  cases d0 with
  | int i =>
    cases hx.int_inv
    simp only [biD] at e
    split at e
    · rename_i hz
      cases e
      exact call_str_int pins s σ H _ us Q I rv ⟨i, rfl, hz, q _ _ (.refl _) (.str (int_text_fits hz))⟩
    · cases e
  | str z =>
    obtain ⟨rfl, hz⟩ := hx.str_inv
    cases e
    cases rv with
    | cons r0 rr =>
      cases rr
      obtain ⟨t, rfl⟩ := r0
      exact PySem.P.str_of_str ⟨.str z, H, I, ⟨_, rfl⟩, q _ _ (.refl _) (.str hz)⟩
  | _ => cases e
theorem bi_all (hc : X.calm = true) : CallR X (.builtin "all") (rB TL X.K .all) := by
  intro pins s σ H xs us Q I rv h
  obtain ⟨S, x, d0, d, rfl, hp, hx, e, q⟩ := rB_one h
  cases d0 with
  | lst ds =>
    obtain ⟨a, vs, rfl, ha, za, ra⟩ := hx.lst_inv
    simp only [biD, Option.map_eq_some_iff] at e
    obtain ⟨bs, e1, rfl⟩ := e
    obtain rfl := ra.blS e1
    exact cr_all hc pins s σ H _ us Q I rv ⟨a, bs, rfl, .of ha, q _ _ (.refl _) (.bl _)⟩
  | _ => cases e
theorem bi_any (hc : X.calm = true) : CallR X (.builtin "any") (rB TL X.K .any) := by
  intro pins s σ H xs us Q I rv h
  obtain ⟨S, x, d0, d, rfl, hp, hx, e, q⟩ := rB_one h
  cases d0 with
  | lst ds =>
    obtain ⟨a, vs, rfl, ha, za, ra⟩ := hx.lst_inv
    simp only [biD, Option.map_eq_some_iff] at e
    obtain ⟨bs, e1, rfl⟩ := e
    obtain rfl := ra.blS e1
    exact cr_any hc pins s σ H _ us Q I rv ⟨a, bs, rfl, .of ha, q _ _ (.refl _) (.bl _)⟩
  | _ => cases e
theorem bi_sum (hc : X.calm = true) : CallR X (.builtin "sum") (rB TL X.K .sum) := by
  intro pins s σ H xs us Q I rv h
  obtain ⟨S, x, d0, d, rfl, hp, hx, e, q⟩ := rB_one h
  cases d0 with
  | lst ds =>
    obtain ⟨a, vs, rfl, ha, za, ra⟩ := hx.lst_inv
    simp only [biD, Option.map_eq_some_iff] at e
    obtain ⟨bs, e1, rfl⟩ := e
    obtain rfl := ra.intS e1
    exact cr_sum hc pins s σ H _ us Q I rv ⟨a, bs, rfl, .of ha, q _ _ (.refl _) (.int _)⟩
  | _ => cases e
theorem bi_repr (hg : X.A.guards = some []) (hu : X.A.units + 64 < cLine) : CallR X (.builtin "repr") (rB TL X.K .repr) := by
  intro pins s σ H xs us Q I rv h
  obtain ⟨S, x, d0, d, rfl, hp, hx, e, q⟩ := rB_one h
  have e' : (if reprOk d0 = true then some (D.str d0.toP.shown) else none) = some d := by
    cases d0 <;> exact e
  split at e'
  · rename_i hz
    cases e'
    simp only [reprOk, Bool.and_eq_true, decide_eq_true_eq] at hz
    obtain ⟨⟨⟨h1, h2⟩, h3⟩, h4⟩ := hz
    cases rv with
    | cons r0 rr =>
      cases rr
      rename_i u0
      have fin := q (.str d0.toP.shown) H (.refl _) (.str h3)
      obtain ⟨as, rd⟩ := Dp.reads I d0.toP x u0 (hx.dp h1) r0
      cases x with
      | ref a =>
        cases r0
        refine repr_of_reads' rd h2 (fun z => by rw [toP_noDict] at z; cases z) hg (by omega) (fun _ _ e => e) (fun h' u tk kk => ?_) h3
        exact ⟨.str _, H, I.kept kk, ⟨_, rfl⟩, fin⟩
      | non =>
        cases r0
        have := hx.dp h1
        cases hd : d0.toP with
        | none => rw [hd] at fin; exact PySem.P.repr_of_none ⟨.str _, H, I.tok _, ⟨_, rfl⟩, fin⟩
        | _ => rw [hd] at this; cases this
      | bl b =>
        cases r0
        have := hx.dp h1
        cases hd : d0.toP with
        | bool c =>
          rw [hd] at fin this
          cases this
          exact PySem.P.repr_of_bool ⟨.str _, H, I.tok _, ⟨_, rfl⟩, fin⟩
        | _ => rw [hd] at this; cases this
      | int i =>
        obtain ⟨t, rfl⟩ := r0
        have := hx.dp h1
        cases hd : d0.toP with
        | int c =>
          rw [hd] at fin this h2
          cases this
          exact PySem.P.repr_of_int (of_decide_eq_true h2) ⟨.str _, H, I.tok _, ⟨_, rfl⟩, fin⟩
        | _ => rw [hd] at this; cases this
      | str z =>
        obtain ⟨t, rfl⟩ := r0
        have := hx.dp h1
        cases hd : d0.toP with
        | str c =>
          rw [hd] at fin this h3
          cases this
          exact PySem.P.repr_of_str ⟨.str _, H, I.tok _, ⟨_, rfl⟩, fin⟩ h3
        | _ => rw [hd] at this; cases this
      | byt b => have := hx.dp h1; cases hd : d0.toP <;> (rw [hd] at this; cases this)
      | flt b => have := hx.dp h1; cases hd : d0.toP <;> (rw [hd] at this; cases this)
      | ty b => have := hx.dp h1; cases hd : d0.toP <;> (rw [hd] at this; cases this)
  · cases e'
end FL

namespace FL
open PySem PySem.Spec PyProof.Rows L2
/-! t[::-1] of a tuple -/
section
variable {prog : Program} {w : World} {A : Around} {E : Value → Shared → Prop} {s : Shared}
theorem rv_places (n : Nat) : Builtin.Slice.slicePlaces ((n : Int) - 1) (-1) (-1) = n := by
  unfold Builtin.Slice.slicePlaces
  rw [if_neg (by omega)]
  by_cases h : (n : Int) - 1 > -1
  · rw [if_pos h, show (- -1 : Int) = 1 by decide, Int.ediv_one]
    omega
  · rw [if_neg h]
    omega
theorem rv_applied {sl : Addr} {vl vu vs : Value} {n : Nat} {Q : Int × Int × Nat → Shared → Prop} (hs : s.heap.IsSliceOf sl vl vu vs) (pl : IsPart vl none) (pu : IsPart vu none) (ps : IsPart vs (some (-1)))
    (h : Q ((n : Int) - 1, -1, n) s) : wpAny (model prog w) A (Builtin.Slice.sliceApplied (.ref sl) (pure (n : Int))) Q E s := by
  obtain ⟨os, hos, hcs, hds⟩ := id hs
  unfold Builtin.Slice.sliceApplied Builtin.Slice.sliceFields
  refine wpAny_bind (wpAny_bind (wpAny_field hos hds (x := vl) rfl (wpAny_bind (wpAny_field hos hds (x := vu) rfl (wpAny_bind (wpAny_field hos hds (x := vs) rfl (wpAny_pure (wpAny_bind (HT.slicePart_ ps ?_)))))))))
  show wpAny _ _ (if ((-1 : Int) == 0) = true then _ else _) _ _ s
  rw [if_neg (show ¬ ((-1 : Int) == 0) = true by decide)]
  refine wpAny_bind (HT.slicePart_ pl (wpAny_bind (HT.slicePart_ pu (wpAny_bind (wpAny_pure (show wpAny _ _ (pure ((n : Int) - 1, (-1 : Int), Builtin.Slice.slicePlaces ((n : Int) - 1) (-1) (-1))) _ _ s from ?_)))))) 
  rw [rv_places]
  exact wpAny_pure h
theorem fm_congr {α β : Type} {f g : α → Option β} : ∀ {l : List α}, (∀ x ∈ l, f x = g x) → l.filterMap f = l.filterMap g
  | [], _ => rfl
  | x :: r, h => by
    rw [List.filterMap_cons, List.filterMap_cons, h x List.mem_cons_self, fm_congr fun y hy => h y (List.mem_cons_of_mem _ hy)]
theorem rv_pick (xs : Array Value) : ((List.range xs.size).filterMap fun (m : Nat) => xs[(((xs.size : Nat) : Int) - 1 + (m : Int) * (-1)).toNat]?).toArray = xs.toList.reverse.toArray := by
  have e : (List.range xs.size).filterMap (fun (m : Nat) => xs[(((xs.size : Nat) : Int) - 1 + (m : Int) * (-1)).toNat]?) = (List.range xs.size).filterMap (fun m => xs.toList.reverse[m]?) := by
    refine fm_congr fun m hm => ?_
    have hm' := List.mem_range.mp hm
    rw [List.getElem?_reverse (by simpa using hm'), show ((((xs.size : Nat) : Int) - 1 + (m : Int) * (-1)).toNat) = xs.size - 1 - m by omega]
    simp
  rw [e]
  have h := PySem.W.krv_all xs.toList.reverse.toArray
  simpa using h
theorem getItem_tup_rv {t sl : Addr} {items : Array Value} {vl vu vs : Value} {Q : Value → Shared → Prop} (ht : IsTup s.heap t items) (hs : s.heap.IsSliceOf sl vl vu vs) (pl : IsPart vl none) (pu : IsPart vu none) (ps : IsPart vs (some (-1)))
    (h : Q (.ref s.heap.objs.size) { s with heap := s.heap.push { cls := .type "tuple", data := .seq items.toList.reverse.toArray } })
    (hsz : items.size ≤ sizeLine) : wpAny (model prog w) A (getItem (.ref t) (.ref sl)) Q E s := by
  have htake : sizeOk (.seq items.toList.reverse.toArray) := by
    show items.toList.reverse.toArray.size ≤ sizeLine
    simpa using hsz
  have hTs : s.TypeIs (.ref sl) "slice" := let ⟨os, hos, hcs, _⟩ := id hs; ⟨os, hos, hcs⟩
  unfold getItem
  try with_reducible refine wpAny_holding ?_
  first | (refine wpAny_bind (wpAny_pure ?_)) | skip
  refine wpAny_bind (wpAny_sequenceKey ht.typeIs (by decide) (wpAny_bind (wpAny_callSpecial?_slot (name := Str.ofString "__getitem__") ht.typeIs PyProof.Rows.slot_tuple_getitem
    (wpAny_call_entry PyProof.Rows.slot_tuple_getitem ht.typeIs entry_tuple_getitem (show wpAny _ _ (Builtin.Tuple.tupleItemsOf (.ref t) >>= _) _ _ s from ?_) (args_tuple_getitem _ _)))))
  refine wpAny_bind (tupleItemsOf_ ht (wpAny_bind (wpAny_typeOf hTs ?_)))
  rw [if_pos (show ((Value.type "slice" == Value.type "slice") = true) by decide)]
  refine wpAny_bind (rv_applied hs pl pu ps ?_)
  have hno : ¬ (((((items.size : Nat) : Int) - 1) == 0 && (-1 : Int) == 1 && (items.size) == items.size) = true) := by
    intro q
    rw [Bool.and_eq_true, Bool.and_eq_true] at q
    exact absurd q.1.2 (by decide)
  show wpAny _ _ (if ((((items.size : Nat) : Int) - 1) == 0 && (-1 : Int) == 1 && (items.size) == items.size) = true then _ else _) _ _ s
  rw [if_neg hno, rv_pick]
  first
    | exact wpAny_bind (m := Builtin.Tuple.tupleExact _) (wpAny_newObj_type (wpAny_pure ⟨_, rfl, wpAny_pure h⟩) htake)
    | exact wpAny_bind (m := Builtin.Tuple.tupleExact _) (wpAny_newObj_type (wpAny_bind (wpAny_pure (wpAny_pure ⟨_, rfl, wpAny_pure h⟩))) htake)
    | exact wpAny_bind (wpAny_bind (m := Builtin.Tuple.tupleExact _) (wpAny_newObj_type (wpAny_pure (wpAny_pure ⟨_, rfl, wpAny_pure h⟩)) htake))
    | exact wpAny_bind (wpAny_bind (m := Builtin.Tuple.tupleExact _) (wpAny_newObj_type (wpAny_pure ⟨_, rfl, wpAny_pure h⟩) htake))
end
variable {X : Cx}
/-- x[::-1] -/
def rDrv (TL : List (Addr × Str)) (K : PySem.W.Frag) : V → Hp → VK → Prop := fun x H Q => ∃ S dx dz, HRep TL K S H ∧ RepW K S H x dx ∧ rvD dx = some dz ∧ ∀ v H', Same H H' → Rep K S H' v dz → Q v H'
theorem pe_rv {e : Expr} {te : TE} {k : Nat} {p1 p2 p3 pos : Pos} (he : PE X e te) : PE X (.Subscript e (.Slice none none (some (.UnaryOp .USub (.Constant (.int 1) k p1) p2)) p3) pos) (fun σ H Q => te σ H fun x H1 => rDrv TL X.K x H1 Q) := by
  refine ⟨fun pins s σ H Q I h => ?_⟩
  refine Subscript_ (thn (he.run pins s σ H _ I h) fun v s1 ⟨x, H1, I1, r1, S, dx, dz, hp, hx, e, q⟩ => ?_)
  have hst : PO X (some (.UnaryOp .USub (.Constant (.int 1) k p1) p2)) (tPart (tUn (rU fun i => .int (-i)) (tC (.int 1)))) := po_some (pe_un un_neg pe_int)
  refine wpAny_Slice (thn (po_none.run pins s1 σ H1 (fun o H2 => o = none ∧ H2 = H1) I1 ⟨rfl, rfl⟩) fun vl s2 ⟨l, H2, I2, pl, el, e2⟩ => ?_)
  subst el e2
  refine thn (po_none.run pins s2 σ H2 (fun o H3 => o = none ∧ H3 = H2) I2 ⟨rfl, rfl⟩) fun vu s3 ⟨u, H3, I3, pu, eu, e3⟩ => ?_
  subst eu e3
  refine thn (hst.run pins s3 σ H3 (fun o H4 => o = some (-1) ∧ H4 = H3) I3 ⟨1, rfl, -1, rfl, rfl, rfl⟩) fun vs s4 ⟨o, H4, I4, ps, eo, e4⟩ => ?_
  subst eo e4
  have I5 : Inv X pins σ H4 { s4 with heap := s4.heap.push { cls := .type "slice", data := .fields #[vl, vu, vs] } } := I4.kept (t' := s4.toks) fun b ob q => Heap.get?_push_of_some _ q
  cases dx with
  | lst ds =>
    obtain ⟨a, ws, rfl, ha, za, ra⟩ := hx.lst_inv
    cases e
    cases r1
    obtain ⟨its, r, ht, hz⟩ := I5.list (.of ha)
    have hlen := r.length
    refine tail_any (ops := [.ref a, .ref s4.heap.objs.size]) ht.isList.typeIs (PySem.slot_list_getitem.lookup) ?_ (by with_unfolding_all rfl)
    refine wpAny_getItem_list_slice ht.isList (Heap.IsSliceOf.new _ vl vu vs) pl pu ps (by decide) ?_ (by rw [List.size_toArray]; omega)
    rw [PySem.W.krv_pick]
    have np := I5.hok.fresh (Nat.le_refl _)
    refine ⟨.ref _, _, I5.laid (t' := s4.toks) (o := .lst ws.reverse) (fun b ob q => Heap.get?_push_of_some _ q) (Nat.le_refl _) ?_, rfl, q _ _ (upd_laid np) (Rep.newL hp np (by simpa using za) ra.rev)⟩
    exact ⟨by simpa using za, _, 0, r.reverse, Heap.get?_push_size _ rfl⟩
  | tup ds =>
    obtain ⟨a, ws, rfl, ha, za, ra⟩ := hx.tup_inv
    cases e
    cases r1
    obtain ⟨its, r, ht, hz⟩ := I5.tuple ha
    have hlen := r.length
    refine tail_any (ops := [.ref a, .ref s4.heap.objs.size]) ht.typeIs (PyProof.Rows.slot_tuple_getitem.lookup) ?_ (by with_unfolding_all rfl)
    have np := I5.hok.fresh (Nat.le_refl _)
    refine getItem_tup_rv ht (Heap.IsSliceOf.new _ vl vu vs) pl pu ps ?_ (by rw [List.size_toArray]; omega)
    refine ⟨.ref _, _, I5.laid (t' := s4.toks) (o := .tup ws.reverse) (fun b ob q => Heap.get?_push_of_some _ q) (Nat.le_refl _) ?_, rfl, q _ _ (upd_laid np) (Rep.newT hp np (by simpa using za) ra.rev)⟩
    exact ⟨by simpa using za, its.reverse, r.reverse, ⟨_, Heap.get?_push_size _ rfl, rfl, 0, by simp⟩⟩
  | _ => cases e
theorem atI_get {K : PySem.W.Frag} {S : XS} {H : Hp} {vs : List V} {ds : List D} {i : Int} {d : D} (r : Reps K S H vs ds) (e : atI ds i = some d) : ∃ v, atI vs i = some v ∧ Rep K S H v d := by
  unfold atI at e ⊢
  rw [r.len]
  cases h : ixN ds.length i with
  | none => rw [h] at e; cases e
  | some j =>
    rw [h] at e
    exact r.get e
theorem sub_ok : IxR X (rD2 TL X.K subD) := by
  intro value slice pins s σ H x y v u Q I rx ry h hs
  obtain ⟨S, dx, dy, dz, hp, hx, hy, e, q⟩ := h
  unfold subD at e
  split at e
  · obtain ⟨a, vs, rfl, ha, za, ra⟩ := hx.lst_inv
    cases hy.int_inv
    obtain ⟨w, e1, rw1⟩ := atI_get ra e
    exact ix_list value slice pins s σ H _ _ v u Q I rx ry ⟨a, vs, _, w, rfl, rfl, .of ha, e1, q _ _ (.refl _) rw1⟩ hs
  · obtain ⟨a, vs, rfl, ha, za, ra⟩ := hx.tup_inv
    cases hy.int_inv
    obtain ⟨w, e1, rw1⟩ := atI_get ra e
    exact ix_tup value slice pins s σ H _ _ v u Q I rx ry ⟨a, vs, _, w, rfl, rfl, ha, e1, q _ _ (.refl _) rw1⟩ hs
  · obtain ⟨rfl, hz⟩ := hx.str_inv
    cases hy.int_inv
    simp only [Option.map_eq_some_iff] at e
    obtain ⟨c, e1, rfl⟩ := e
    exact ix_str value slice pins s σ H _ _ v u Q I rx ry ⟨_, _, c, rfl, rfl, hz, e1, q _ _ (.refl _) (.str (by show (1 : Nat) ≤ sizeLine; decide))⟩ hs
  · cases e
def rDs (TL : List (Addr × Str)) (K : PySem.W.Frag) : V → Option Int → Option Int → Hp → VK → Prop := fun x lo hi H Q => ∃ S dx dz, HRep TL K S H ∧ RepW K S H x dx ∧ slD dx lo hi = some dz ∧ ∀ v H', Same H H' → Rep K S H' v dz → Q v H'
theorem Reps.cut {K : PySem.W.Frag} {S : XS} {H : Hp} {vs : List V} {ds : List D} (r : Reps K S H vs ds) (lo hi : Option Int) : Reps K S H (cutV vs lo hi) (cutD ds lo hi) := by
  unfold cutV cutD
  rw [r.len]
  exact (r.drop _).take _
theorem cutV_len (vs : List V) (lo hi : Option Int) : (cutV vs lo hi).length ≤ vs.length := by
  unfold cutV
  rw [List.length_take, List.length_drop]
  omega
theorem cutS_len (z : Str) (lo hi : Option Int) : (cutS z lo hi).length ≤ z.length := by
  show (List.toArray _).size ≤ z.cps.size
  rw [List.size_toArray, List.length_take, List.length_drop, Array.length_toList]
  omega
theorem sl_ok : SlR X (rDs TL X.K) := by
  intro pins s σ H x v vl vu lo hi sl Q I rx hs pl pu h
  obtain ⟨S, dx, dz, hp, hx, e, q⟩ := h
  cases dx with
  | lst ds =>
    obtain ⟨a, vs, rfl, ha, za, ra⟩ := hx.lst_inv
    cases e
    exact sl_list pins s σ H _ v vl vu lo hi sl Q I rx hs pl pu ⟨a, vs, rfl, .of ha, fun p np => q _ _ (upd_laid np) (Rep.newL hp np (Nat.le_trans (cutV_len _ _ _) za) (ra.cut lo hi))⟩
  | lsf ds =>
    obtain ⟨a, vs, rfl, ha, za, ra⟩ := hx.lsf_inv
    cases e
    exact sl_list pins s σ H _ v vl vu lo hi sl Q I rx hs pl pu ⟨a, vs, rfl, ha, fun p np => q _ _ (upd_laid np) (Rep.newL hp np (Nat.le_trans (cutV_len _ _ _) za) (ra.cut lo hi))⟩
  | tup ds =>
    obtain ⟨a, vs, rfl, ha, za, ra⟩ := hx.tup_inv
    cases e
    refine sl_tupA pins s σ H _ v vl vu lo hi sl Q I rx hs pl pu ⟨a, vs, rfl, ha, fun z => ?_, fun _ p np => q _ _ (upd_laid np) (Rep.newT hp np (Nat.le_trans (cutV_len _ _ _) za) (ra.cut lo hi))⟩
    have e1 : cutD ds lo hi = ds := by
      unfold cutD
      rw [← ra.len, z.1, z.2, List.drop_zero, ra.len, Nat.sub_zero, List.take_length]
    exact q _ _ (.refl _) (.tup ha za (by rw [e1]; exact ra))
  | str z =>
    obtain ⟨rfl, hz⟩ := hx.str_inv
    cases e
    exact sl_str pins s σ H _ v vl vu lo hi sl Q I rx hs pl pu ⟨z, rfl, hz, q _ _ (.refl _) (.str (Nat.le_trans (cutS_len _ _ _) hz))⟩
  | _ => cases e
/-- isinstance -/
def tyS : Ty → String
  | .int => "int" | .bool => "bool" | .str => "str" | .tuple => "tuple" | .list => "list"
theorem isi_ok (t : Ty) : CallR X (.builtin "isinstance") (fun xs H Q => ∃ S x dx b, xs = [x, .ty (tyS t)] ∧ HRep TL X.K S H ∧ RepW X.K S H x dx ∧ isiD t dx = some b ∧ Q (.bl b) H) := by
  intro pins s σ H xs us Q I rv h
  obtain ⟨S, x, dx, b, rfl, hp, hx, e, q⟩ := h
  have fin : ∀ {tn : String}, TyX X.K H x (.type tn) → kitB tn (tyS t) = some b → wpAny (model X.prog X.w) X.A (call (.builtin "isinstance") us) (EP X pins σ Q) X.xe s := fun ht hk =>
    call_isi pins s σ H _ us Q I rv ⟨x, .ty (tyS t), _, _, b, rfl, .ty _, ht, kit_ty hk, q⟩
  cases dx with
  | non => cases hx.non_inv; cases e; exact fin (.base .non) (by cases t <;> decide +kernel)
  | bl c => cases hx.bl_inv; cases e; exact fin (.base (.bl c)) (by cases t <;> decide +kernel)
  | int c => cases hx.int_inv; cases e; exact fin (.base (.int c)) (by cases t <;> decide +kernel)
  | str c => obtain ⟨rfl, _⟩ := hx.str_inv; cases e; exact fin (.base (.str c)) (by cases t <;> decide +kernel)
  | tup ds =>
    obtain ⟨a, vs, rfl, ha, za, ra⟩ := hx.tup_inv
    cases e
    rcases ha with (ha | ⟨o, ha⟩) | ⟨o, its, n, hk, hc, _⟩
    · exact fin (.base (.tup ha)) (by cases t <;> decide +kernel)
    · exact fin (.fTuple ha) (by cases t <;> decide +kernel)
    · exact fin (.kTuple hk hc) (by cases t <;> decide +kernel)
  | lst ds =>
    obtain ⟨a, vs, rfl, ha, za, ra⟩ := hx.lst_inv
    cases e
    exact fin (.base (.lst ha)) (by cases t <;> decide +kernel)
  | _ => cases e
end FL

namespace FL
open PySem PySem.Spec PyProof.Rows L2
/-- how an exception lies: its class by the text's name, its dict with the fields -/
def ExR (K : PySem.W.Frag) (S : XS) (H : Hp) (cls : Value) (d : Option Addr) (ex : Exn) : Prop := ∃ (C dx : Addr) (ws : List (Str × V)), cls = .ref C ∧ PySem.W.nsIn K mainGlobals ex.cls = some (some (.ref C)) ∧ d = some dx ∧ H dx = some (.xd ws) ∧ S dx = none ∧ ws.map (·.1) = ex.fs.map (·.1) ∧ Reps K S H (ws.map (·.2)) (ex.fs.map (·.2))
theorem ExR.less {K : PySem.W.Frag} {S S' : XS} {H : Hp} {cls : Value} {d : Option Addr} {ex : Exn} (h : ExR K S H cls d ex) (hs : ∀ b, S b = none → S' b = none) : ExR K S' H cls d ex := by
  obtain ⟨C, dx, ws, h1, h2, h3, h4, h7, h5, h6⟩ := h
  exact ⟨C, dx, ws, h1, h2, h3, h4, hs _ h7, h5, h6.less hs⟩
def liftW (TL : List (Addr × Str)) (E9 : XS × Hp) (K : PySem.W.Frag) (R : XP) : WX := fun cls d σ H => ∃ ex r S, Rl TL E9 K S H σ r ∧ ExR K S H cls d ex ∧ R ex r (prj S)
def liftSp (TL : List (Addr × Str)) (K : PySem.W.Frag) (n : Nat) (sp : Spec) : Sp := fun vs H Q E => ∃ ds S Q0 R0, ds.length = n ∧ Reps K S H vs ds ∧ HRep TL K S H ∧ sp ds (prj S) Q0 R0 ∧
  (∀ d S' v H', Q0 d (prj S') → Step S H S' H' → HRep TL K S' H' → Rep K S' H' v d → Q v H') ∧
  (∀ ex S' cls d H', R0 ex (prj S') → Step S H S' H' → HRep TL K S' H' → ExR K S' H' cls d ex → E cls d H')
/-- a def keeps a promise where no repr is under way -/
structure FnG (P : Program) (w : World) (K : PySem.W.Frag) (mg : Str → Option Value) (base : Heap) (CX : CXT) (k : Nat) (f : Addr) (fd : FuncData) (ps : List Str) (sp : Sp) : Prop where
  len : ∀ vs H Q E, sp vs H Q E → vs.length = ps.length
  run : ∀ (A : Around) (outer : List Env) (s : Shared) (H : Hp) (args : Args) (us : List Value) (vs : List V) (Q : VK) (E : XK), Room k A → A.guards = some [] →
    Env0 P w K mg base A outer s H → BindsTo s fd args (ps.zip us) → Vals vs us → sp vs H Q E → codeAny (model P w) A (.call (.ref f) args) (CR CX outer P w H s Q E) s
theorem FnG.mono {P : Program} {w : World} {K : PySem.W.Frag} {mg : Str → Option Value} {base : Heap} {CX : CXT} {j k : Nat} {f : Addr} {fd : FuncData} {ps : List Str} {sp : Sp} (F : FnG P w K mg base CX j f fd ps sp) (h : j ≤ k) :
    FnG P w K mg base CX k f fd ps sp := ⟨F.len, fun A outer s H args us vs Q E hr => F.run A outer s H args us vs Q E (hr.mono h)⟩
section
variable {X : Cx} {k : Nat} {f : Addr} {fd : FuncData} {ps : List Str} {sp : Sp} {E : XK}
theorem run_fnG {CX : CXT} {pins : List (Addr × Obj)} {σ : L2.St} {H : Hp} {s : Shared} {Q : VK} {args : Args} {us : List Value} {vs : List V} (F : FnG X.prog X.w X.K X.mg X.base CX k f fd ps sp) (hr : Room k X.A) (hg : X.A.guards = some [])
    (hb : BindsTo s fd args (ps.zip us)) (hx : ∀ e s', CX X.stack H s E e s' → X.xe e s') (I : Inv X pins σ H s) (r : Vals vs us) (h : sp vs H Q E) : wpAny (model X.prog X.w) X.A (call (.ref f) args.pos args.kw) (EP X pins σ Q) X.xe s := by
  refine wpAny_call (codeAny_mono (F.run X.A X.stack s H args us vs Q E hr hg I.env0 hb r h) fun fl s' hq => ?_)
  match fl, hq with
  | .error e, hq => exact hx e s' hq
  | .ok (.ret u), hq => exact I.after hq
  | .ok .next, hq => exact False.elim hq
  | .ok .brk, hq => exact False.elim hq
  | .ok .cont, hq => exact False.elim hq
end
/-- a def by its body -/
theorem fnG_of {CX : CXT} {P : Program} {w : World} {K : PySem.W.Frag} {mg : Str → Option Value} {base : Heap} {k : Nat} {f : Addr} {name qual : Str} {params : Arguments} {body : List Stmt} {scope : Scope} {dV kV doc pm cdv ct oc : Value} {an od : Option Addr}
    {osl : Array (Option Value)} {N ps : List Str} {sp : Sp} (lk : K.lookup f = some ⟨oc, od, .func (PySem.W.fnOf name qual params body scope dV kV doc pm an cdv ct), osl⟩) (hcd : PySem.W.codeIn K cdv qual = true) (S : FnScope N ps scope)
    (len : ∀ vs H Q E, sp vs H Q E → vs.length = ps.length)
    (hbody : ∀ (A : Around) (outer : List Env) (s : Shared) (H : Hp) (vs : List V) (Q : VK) (E : XK), Room k (A.deeper (envOfC qual scope s.heap.objs.size f cdv)) → A.guards = some [] → sp vs H Q E →
      ∃ t, PSs (cxOf CX P w K mg base N qual scope f cdv A outer s H E) body t ∧ t { nx := fun _ H' => Q .non H', rt := Q } (start N vs) H) :
    FnG P w K mg base CX (k + 1) f (PySem.W.fnOf name qual params body scope dV kV doc pm an cdv ct) ps sp := by
  refine ⟨len, fun A outer s H args us vs Q E hr hgd e0 hb r hsp => ?_⟩
  have KX : K.In s.heap := e0.mod.kin.keeps fun b o e => (e0.bs b o e).1
  have hkind : ∀ y ∈ ps.zip us, scope.names.lookup y.1 = some .local ∨ (scope.names.lookup y.1 = some .cell ∧ ((cellsFrom (s.heap.objs.size + 1) scope.names []).lookup y.1).isSome = true) := by
    intro y hy
    exact (S.par y.1 (List.of_mem_zip (show (y.1, y.2) ∈ ps.zip us from hy)).1).imp id fun q => ⟨q, PySem.W.cellsFrom_some _ _ _ (.inl q)⟩
  refine codeAny_call_function hr.depth (KX _ _ lk) rfl S.co S.gen rfl (PySem.W.codeRec_of KX hcd) (hb _ _ _ _ (wpAny_newFunctionEnv_cells S.kind hkind fun env he s1 x => ?_))
  subst he
  refine ⟨(e0.mod.nolimit.keeps fun b o e => (e0.bs b o e).1).keeps x.toInCall.keep, codeAny_func ?_⟩
  obtain ⟨t, ht, hq⟩ := hbody A outer s H vs Q E (hr.deeper _) hgd hsp
  refine wpAny_mono (ht.run [] s1 (start N vs) H _ (inv_start S hr.hd e0 (len _ _ _ _ hsp) r x) hq) (fun fl s' hs => ?_) fun e s' hs => hs
  match fl, hs with
  | .ret u, ⟨v, σ', H', J, rv, q⟩ => exact ⟨v, H', J.os, J.bare, J.base, J.hok, rv, q⟩
  | .next, ⟨σ', H', J, q⟩ => exact ⟨V.non, H', J.os, J.bare, J.base, J.hok, rfl, q⟩
  | .brk, ⟨_, _, _, q⟩ => exact False.elim q
  | .cont, ⟨_, _, _, q⟩ => exact False.elim q

/-! what is static of a def's body -/
/-- the keywords of a call's shape: a star ahead of them, some parameters have their defaults -/
def nmOf : List Str → List Str
  | [] => []
  | x :: r => if x = "*" then r else x :: r
structure Sta where
  N : List Str
  sc : Scope
  fnB : Str → Bool
  fns : List Str
  gls : List Str
  shp : Nat → Nat → List Str
  xr : Nat := 0
  exs : List (Str × Str × Str) := []
  lam : Bool := false
/-- a class whose exceptions are raised -/
structure Ex0 (P : Program) (K : PySem.W.Frag) (mg : Str → Option Value) (x f1 f2 : Str) : Prop where
  ex : ∃ C fI fd, IniC P K C fI f1 f2 fd ∧ mg x = some (.ref C) ∧ PySem.W.nsIn K mainGlobals x = some (some (.ref C)) ∧ Binds K fd ["self", f1, f2] []
/-- what a def wants that hands lambdas over -/
structure Sd (TL : List (Addr × Str)) (K : PySem.W.Frag) (mg : Str → Option Value) (base : Heap) (code : Value) (qual : Str) : Prop where
  ex : ∃ (g CL fr c P : Addr) (sr : Scope) (cdr : Value) (pg : Arguments) (sg : Scope) (dV kV doc pm cdv ct oc : Value) (an od : Option Addr) (osl : Array (Option Value)) (p1 p2 p3 p4 p5 p6 p7 p8 p9 p10 p11 p12 : Pos) (j1 j2 : Nat),
    mg "_law_said" = some (.ref g) ∧ PySem.W.keepIn K (.ref g) = true ∧ K.lookup g = some ⟨oc, od, .func (PySem.W.fnOf "_law_said" "_law_said" pg (saidBody p1 p2 p3 p4 p5 p6 p7 p8 p9 p10 p11 p12 j1 j2) sg dV kV doc pm an cdv ct), osl⟩ ∧ PySem.W.codeIn K cdv "_law_said" = true ∧
    Binds K (PySem.W.fnOf "_law_said" "_law_said" pg (saidBody p1 p2 p3 p4 p5 p6 p7 p8 p9 p10 p11 p12 j1 j2) sg dV kV doc pm an cdv ct) ["_law_ask"] [] ∧ FnScope ["_law_ask", "_law_error"] ["_law_ask"] sg ∧ Vis sg "_law_ask" ∧ RefD K mg fr sr cdr ∧ sg.names.lookup ("_law_error" : Str) = some .local ∧ sg.names.lookup ("LetterError" : Str) = some .globalImplicit ∧ sg.names.lookup ("_law_refusal" : Str) = some .globalImplicit ∧ mg "LetterError" = some (.ref CL) ∧
    LamX.TabB base mg c P ∧ code = .ref c ∧ (P, qual ++ "<lambda>") ∈ TL ∧ (∀ p ∈ TL, p.1 = P → p.2 = qual ++ "<lambda>") ∧ ∀ x w f1 f2 C, wordOf x = some (w, f1, f2) → PySem.W.nsIn K mainGlobals x = some (some (.ref C)) → TolC K mg CL C x w f1 f2
/-- what a call wants of a def -/
structure Fn1 (TL : List (Addr × Str)) (G : Ctx) (X : Cx) (st : Sta) (k : Nat) (i : Nat) (x : Str) : Prop where
  ex : ∃ fa fd ps, FnG X.prog X.w X.K X.mg X.base (CX X.prog X.w) k fa fd ps (liftSp TL X.K (G.ar i) (G.fn i)) ∧ X.mg x = some (.ref fa) ∧ PySem.W.keepIn X.K (.ref fa) = true ∧ Binds X.K fd ps [] ∧
    ∀ sh, st.shp i sh ≠ [] → ∃ g gV, KBinds X.K fd ps (nmOf (st.shp i sh)) g gV ∧ ∀ S H vs ds ws es, Reps X.K S H vs ds → Reps X.K S H ws es → Reps X.K S H (gV vs ws) (G.ord i sh ds es)
def bltNames : List Str := ["len", "int", "sorted", "tuple", "list", "repr", "str", "all", "any", "sum", "isinstance", "range", "enumerate", "zip", "bool", "set", "dict", "min", "max", "iter"]
structure Gd (TL : List (Addr × Str)) (E9 : XS × Hp) (G : Ctx) (st : Sta) (R : XP) (k : Nat) (X : Cx) : Prop where
  calm : X.calm = true
  N : X.N = st.N
  nd : st.N.Nodup
  sc : X.env.scope = st.sc
  kd : st.sc.kind = .function
  fn : ∀ x, st.fnB x = true → X.fn x = true
  room : Room (k + st.xr) X.A
  gd : X.A.guards = some []
  fns : ∀ i x, st.fns[i]? = some x → Fn1 TL G X st k i x
  gls : ∀ (g : Nat) x, st.gls[g]? = some x → ∃ d u v, G.gl g = some d ∧ X.mg x = some u ∧ RelV v u ∧ ∀ S H, Rep X.K S H v d
  blt : ∀ x ∈ bltNames, X.mg x = none
  tk : Takes X (liftW TL E9 X.K R)
  po : PassesOwn (model X.prog X.w) X.A X.env X.xe
  exs : ∀ x f1 f2, (x, f1, f2) ∈ st.exs → 2 ≤ st.xr ∧ Ex0 X.prog X.K X.mg x f1 f2
  sd : st.lam = true → 2 ≤ st.xr ∧ Sd TL X.K X.mg X.base X.env.code X.env.qual

def isStar : Expr → Bool
  | .Starred _ _ => true
  | _ => false
def nst (es : List Expr) : Bool := es.all fun e => !isStar e
theorem starEach_cons {e : Expr} {es : List Expr} {env : Env} (h : isStar e = false) : starEach (e :: es) env = (false, eval e env) :: starEach es env := by
  cases e <;> first
    | rfl
    | (simp [isStar] at h)
theorem star_any {env : Env} {pos : Pos} : ∀ {es : List Expr}, nst es = true → (backTo pos (starEach es env)).any (·.1) = false
  | [], _ => rfl
  | e :: es, h => by
    simp only [nst, List.all_cons, Bool.and_eq_true, Bool.not_eq_true'] at h
    rw [starEach_cons h.1]
    show (false || (backTo pos (starEach es env)).any (·.1)) = false
    rw [star_any (es := es) h.2]
    rfl
section
variable {X : Cx} {G : Ctx} {st : Sta} {R : XP} {k : Nat}
theorem tk_call (g : Gd TL E9 G st R k X) {pins : List (Addr × Obj)} {σ : L2.St} {H : Hp} {s : Shared} (I : Inv X pins σ H s) : ∀ e s', CX X.prog X.w X.stack H s (fun cls d H' => liftW TL E9 X.K R cls d σ H') e s' → X.xe e s' := fun e s' c =>
  g.tk e s' (XE.of_call I (fun _ _ _ z => z) c)
/-- the promise at a call -/
theorem sp_of {K : PySem.W.Frag} {n : Nat} {sp : Spec} {σ : L2.St} {H : Hp} {r : En} {S : XS} {vs : List V} {ds : List D} {Q : VK} {Q0 : D → Sto → Prop} (rl : Rl TL E9 K S H σ r) (hn : ds.length = n) (rp : Reps K S H vs ds)
    (h : sp ds (prj S) Q0 fun e S2 => R e r S2) (hq : ∀ d S' v H', Q0 d (prj S') → Step S H S' H' → HRep TL K S' H' → Rep K S' H' v d → Q v H') : liftSp TL K n sp vs H Q (fun cls d H' => liftW TL E9 K R cls d σ H') :=
  ⟨ds, S, Q0, _, hn, rp, rl.hp, h, hq, fun ex S' cls d H' hr hs hp hx => ⟨ex, r, S', rl.stp hs hp, hx, hr⟩⟩
end
end FL

namespace FL
open PySem PySem.Spec PyProof.Rows L2
section
variable {X : Cx} {G : Ctx} {st : Sta} {R : XP} {k : Nat} (g : Gd TL E9 G st R k X)
include g
theorem Gd.hu : X.A.units + 64 < cLine := g.room.units

omit g in
/-- what is new now was new before -/
theorem fresh_back {K : PySem.W.Frag} {S S' : XS} {H H' : Hp} {p : Addr} (h : Step S H S' H') (hp : HRep TL K S H) (n : H' p = none) : H p = none ∧ S p = none := by
  have h1 : H p = none := h.trk p n
  exact ⟨h1, hp.fresh h1⟩
/-! ### names, constants, displays -/
theorem se_var {i : Nat} {x : Str} {pos : Pos} (hN : st.N[i]? = some x) (hv : Vis st.sc x) (hd : (x == ("__debug__" : Str)) = false) (hc : (x == ("__classdict__" : Str)) = false) : PE X (.Name x pos) (rdE TL E9 X.K (WE G R (.var i))) := by
  refine ⟨fun pins s σ H Q I h => (pe_var (i := i) (by rw [g.N]; exact hN) (by rw [g.sc]; exact hv) hd hc).run pins s σ H Q I ?_⟩
  obtain ⟨r, S, Q0, rl, hw, hq⟩ := h
  simp only [WE] at hw
  split at hw
  · rename_i d e
    obtain ⟨v, e1, q⟩ := rl.env i d e
    exact ⟨v, e1, hq d S v H hw (.refl _ _) rl.hp q⟩
  · exact hw.elim
theorem se_cst {c : Const} {j : Nat} {pos : Pos} : PE X (.Constant c j pos) (rdE TL E9 X.K (WE G R (.cst c))) := by
  refine ⟨fun pins s σ H Q I h => ?_⟩
  obtain ⟨r, S, Q0, rl, hw, hq⟩ := h
  simp only [WE] at hw
  cases c with
  | none => exact pe_non.run pins s σ H Q I (hq _ S _ H hw (.refl _ _) rl.hp .non)
  | bool b => exact pe_bl.run pins s σ H Q I (hq _ S _ H hw (.refl _ _) rl.hp (.bl b))
  | int i => exact pe_int.run pins s σ H Q I (hq _ S _ H hw (.refl _ _) rl.hp (.int i))
  | str z =>
    simp only [cstD] at hw
    by_cases hz : z.length ≤ sizeLine
    · rw [if_pos hz] at hw
      exact pe_str.run pins s σ H Q I (hq _ S _ H hw (.refl _ _) rl.hp (.str hz))
    · rw [if_neg hz] at hw
      exact hw.elim
  | _ => exact hw.elim
theorem se_glb {i : Nat} {x : Str} {pos : Pos} (hN : st.gls[i]? = some x) (hv : st.sc.names.lookup x = some .globalImplicit) (hd : (x == ("__debug__" : Str)) = false) : PE X (.Name x pos) (rdE TL E9 X.K (WE G R (.glb i))) := by
  obtain ⟨d, u, v, e1, e2, rv, rp⟩ := g.gls i x hN
  refine ⟨fun pins s σ H Q I h => (pe_glob (v := v) (u := u) (show X.env.scope.names.lookup x = _ by rw [g.sc]; exact hv) e2 rv hd).run pins s σ H Q I ?_⟩
  obtain ⟨r, S, Q0, rl, hw, hq⟩ := h
  simp only [WE, e1] at hw
  exact hq d S v H hw (.refl _ _) rl.hp (rp S H)
theorem se_tup {es : List Expr} {cs : CEs} {j : Nat} {pos : Pos} (ha : PA X es (rdA TL E9 X.K (WEs G R cs))) : PE X (.Tuple es j pos) (rdE TL E9 X.K (WE G R (.tup cs))) := by
  refine ⟨fun pins s σ H Q I h => (pe_tup ha).run pins s σ H Q I ?_⟩
  obtain ⟨r, S, Q0, rl, hw, hq⟩ := h
  refine ⟨r, S, _, rl, hw, fun ds S1 vs H1 hx st1 hp1 rx => ?_⟩
  have hz : vs.length ≤ sizeLine := by rw [rx.len]; exact hx.1
  exact ⟨hz, fun p np => hq _ S1 _ _ hx.2 (st1.trans (hp1.sstep (upd_laid np))) (hp1.same (upd_laid np)) (Rep.newT hp1 np hz rx)⟩
omit g in
theorem se_of_F {e : Expr} {w : WDE} (h : PE X e (rdF TL E9 X.K w)) : PE X e (rdE TL E9 X.K w) := by
  refine ⟨fun pins s σ H Q I hw => h.run pins s σ H Q I ?_⟩
  obtain ⟨r, S, Q0, rl, hw, hq⟩ := hw
  refine ⟨r, S, _, rl, hw, fun ds S' vs H' p h0 st1 hp1 ns np nS hv hz rp => ?_⟩
  refine hq _ (S'.del p) _ H' (by rw [del_prj nS]; exact h0) (del_step ns st1) (del_hrep nS hp1) (.lst hv ?_ hz (rp.less del_less))
  unfold XS.del
  rw [if_pos rfl]
theorem sf_lst {es : List Expr} {cs : CEs} {pos : Pos} (ha : PA X es (rdA TL E9 X.K (WEs G R cs))) : PE X (.List es pos) (rdF TL E9 X.K (WE G R (.lst cs))) := by
  refine ⟨fun pins s σ H Q I h => (pe_lst ha).run pins s σ H Q I ?_⟩
  obtain ⟨r, S, Q0, rl, hw, hq⟩ := h
  refine ⟨r, S, _, rl, hw, fun ds S1 vs H1 hx st1 hp1 rx => ?_⟩
  have hz : vs.length ≤ sizeLine := by rw [rx.len]; exact hx.1
  refine ⟨hz, fun p np => ?_⟩
  have n0 := fresh_back st1 rl.hp np
  exact hq _ (S1.aside p) vs _ p (by rw [prj_aside (hp1.fresh np)]; exact hx.2) (st1.trans (aside_step hp1 np)) (aside_hrep hp1 np) n0.2 n0.1 (by unfold XS.aside; rw [if_pos rfl]) upd_same hz (rx.stp (aside_step hp1 np))

/-! ### operators -/
theorem se_bin {a b : Expr} {ca cb : CE} {op : Operator} {pos : Pos} (ha : PE X a (rdE TL E9 X.K (WE G R ca))) (hb : PE X b (rdE TL E9 X.K (WE G R cb))) : PE X (.BinOp a op b pos) (rdE TL E9 X.K (WE G R (.bin op ca cb))) := by
  refine ⟨fun pins s σ H Q I h => (pe_op (bin_ok (TL := TL) op) ha hb).run pins s σ H Q I ?_⟩
  obtain ⟨r, S, Q0, rl, hw, hq⟩ := h
  refine ⟨r, S, _, rl, hw, fun x S1 v H1 hx st1 hp1 rx => ⟨r, S1, _, rl.stp st1 hp1, hx, fun y S2 u H2 hy st2 hp2 ry => ?_⟩⟩
  split at hy
  · rename_i z e
    exact ⟨S2, _, _, z, hp2, rs_rep hp2 (rx.stp st2), rs_rep hp2 ry, e, fun w H' sm rw1 => hq z S2 w H' hy ((st1.trans st2).trans (hp2.sstep sm)) (hp2.same sm) rw1⟩
  · exact hy.elim
theorem se_neg {a : Expr} {ca : CE} {pos : Pos} (ha : PE X a (rdE TL E9 X.K (WE G R ca))) : PE X (.UnaryOp .USub a pos) (rdE TL E9 X.K (WE G R (.neg ca))) := by
  refine ⟨fun pins s σ H Q I h => (pe_un un_neg ha).run pins s σ H Q I ?_⟩
  obtain ⟨r, S, Q0, rl, hw, hq⟩ := h
  refine ⟨r, S, _, rl, hw, fun x S1 v H1 hx st1 hp1 rx => ?_⟩
  split at hx
  · cases rx
    exact ⟨_, rfl, hq _ S1 _ H1 hx st1 hp1 (.int _)⟩
  · exact hx.elim
theorem se_nt {a : Expr} {ca : CE} {pos : Pos} (ha : PE X a (rdE TL E9 X.K (WE G R ca))) : PE X (.UnaryOp .Not a pos) (rdE TL E9 X.K (WE G R (.nt ca))) := by
  refine ⟨fun pins s σ H Q I h => (pe_notT ha).run pins s σ H Q I ?_⟩
  obtain ⟨r, S, Q0, rl, hw, hq⟩ := h
  refine ⟨r, S, _, rl, hw, fun x S1 v H1 hx st1 hp1 rx => ?_⟩
  split at hx
  · rename_i b e
    exact ⟨b, truth_ok (rs_rep hp1 rx) e, hq _ S1 _ H1 hx st1 hp1 (.bl _)⟩
  · exact hx.elim
theorem se_cmp {a b : Expr} {ca cb : CE} {op : CmpOp} {pos : Pos} (ha : PE X a (rdE TL E9 X.K (WE G R ca))) (hb : PE X b (rdE TL E9 X.K (WE G R cb))) (hm : behindInMarks op b = false) : PE X (.Compare a [op] [b] pos) (rdE TL E9 X.K (WE G R (.cmp op ca cb))) := by
  refine ⟨fun pins s σ H Q I h => (pe_cmpR (cmp_ok (TL := TL) g.hu op) ha hb hm).run pins s σ H Q I ?_⟩
  obtain ⟨r, S, Q0, rl, hw, hq⟩ := h
  refine ⟨r, S, _, rl, hw, fun x S1 v H1 hx st1 hp1 rx => ⟨r, S1, _, rl.stp st1 hp1, hx, fun y S2 u H2 hy st2 hp2 ry => ?_⟩⟩
  split at hy
  · rename_i z e
    exact ⟨S2, _, _, z, hp2, rs_rep hp2 (rx.stp st2), rs_rep hp2 ry, e, hq _ S2 _ H2 hy (st1.trans st2) hp2 (.bl _)⟩
  · exact hy.elim
theorem se_ch {a b c : Expr} {ca cb cc : CE} {o1 o2 : CmpOp} {pos : Pos} (ha : PE X a (rdE TL E9 X.K (WE G R ca))) (hb : PE X b (rdE TL E9 X.K (WE G R cb))) (hc : PE X c (rdE TL E9 X.K (WE G R cc))) (hm : lastMarks [o1, o2] [b, c] = false) :
    PE X (.Compare a [o1, o2] [b, c] pos) (rdE TL E9 X.K (WE G R (.ch o1 o2 ca cb cc))) := by
  refine ⟨fun pins s σ H Q I h => (pe_chain (cmp_ok (TL := TL) g.hu o1) (cmp_ok (TL := TL) g.hu o2) ha hb hc hm).run pins s σ H Q I ?_⟩
  obtain ⟨r, S, Q0, rl, hw, hq⟩ := h
  refine ⟨r, S, _, rl, hw, fun x S1 v H1 hx st1 hp1 rx => ⟨r, S1, _, rl.stp st1 hp1, hx, fun y S2 u H2 hy st2 hp2 ry => ?_⟩⟩
  split at hy
  · rename_i e
    refine ⟨S2, _, _, true, hp2, rs_rep hp2 (rx.stp st2), rs_rep hp2 ry, e, true, rfl, iteT ?_⟩
    refine ⟨r, S2, _, (rl.stp st1 hp1).stp st2 hp2, hy, fun z S3 u3 H3 hz st3 hp3 rz => ?_⟩
    split at hz
    · rename_i w e2
      exact ⟨S3, _, _, w, hp3, rs_rep hp3 (ry.stp st3), rs_rep hp3 rz, e2, hq _ S3 _ H3 hz ((st1.trans st2).trans st3) hp3 (.bl _)⟩
    · exact hz.elim
  · rename_i e
    exact ⟨S2, _, _, false, hp2, rs_rep hp2 (rx.stp st2), rs_rep hp2 ry, e, false, rfl, iteF (hq _ S2 _ H2 hy (st1.trans st2) hp2 (.bl _))⟩
  · exact hy.elim
end
/-! ### tests -/
def rdTT (TL : List (Addr × Str)) (E9 : XS × Hp) (K : PySem.W.Frag) (w : WDE) : TT := fun σ H Q => ∃ (r : En) (S : XS) (Q1 : D → Sto → Prop), Rl TL E9 K S H σ r ∧ w r (prj S) Q1 ∧
  ∀ d S' H', Q1 d (prj S') → Step S H S' H' → HRep TL K S' H' → ∃ b, truth (rs (prj S') d) = some b ∧ Q b H'
section
variable {X : Cx} {G : Ctx} {st : Sta} {R : XP} {k : Nat} (g : Gd TL E9 G st R k X)
def plainT : Expr → Bool
  | .UnaryOp .Not _ _ => false
  | .BoolOp .. => false
  | .IfExp .. => false
  | .Compare .. => false
  | _ => true
theorem plainT_eq {e : Expr} (h : plainT e = true) (env : Env) : ∀ whole, isTrue e env whole = (do let v ← whole; standAt e.pos; holding [v] (truthy v)) := by
  intro whole
  cases e <;> first
    | rfl
    | (simp [plainT] at h; done)
    | (rename_i op a p; cases op <;> first | rfl | (simp [plainT] at h; done))
theorem st_plain {e : Expr} {w : WDE} (he : PE X e (rdE TL E9 X.K w)) (hp : plainT e = true) : PT X e (rdTT TL E9 X.K w) := by
  refine ⟨fun pins s σ H Q I h => (pt_truth he (plainT_eq hp _)).run pins s σ H Q I ?_⟩
  obtain ⟨r, S, Q1, rl, hw, hq⟩ := h
  refine ⟨r, S, Q1, rl, hw, fun d S1 v H1 h1 st1 hp1 rx => ?_⟩
  obtain ⟨b, e1, q⟩ := hq d S1 H1 h1 st1 hp1
  exact ⟨b, truth_ok (rs_rep hp1 rx) e1, q⟩
theorem st_nt {a : Expr} {ca : CE} {pos : Pos} (ha : PT X a (rdTT TL E9 X.K (WE G R ca))) : PT X (.UnaryOp .Not a pos) (rdTT TL E9 X.K (WE G R (.nt ca))) := by
  refine ⟨fun pins s σ H Q I h => (pt_not ha).run pins s σ H Q I ?_⟩
  obtain ⟨r, S, Q1, rl, hw, hq⟩ := h
  refine ⟨r, S, _, rl, hw, fun d S1 H1 h1 st1 hp1 => ?_⟩
  split at h1
  · rename_i b e
    obtain ⟨c, e1, q⟩ := hq _ S1 H1 h1 st1 hp1
    have e2 : some (!b) = some c := e1
    cases e2
    exact ⟨b, e, q⟩
  · exact h1.elim
include g
theorem st_cmp {a b : Expr} {ca cb : CE} {op : CmpOp} {pos : Pos} (ha : PE X a (rdE TL E9 X.K (WE G R ca))) (hb : PE X b (rdE TL E9 X.K (WE G R cb))) (hm : behindInMarks op b = false) : PT X (.Compare a [op] [b] pos) (rdTT TL E9 X.K (WE G R (.cmp op ca cb))) := by
  refine ⟨fun pins s σ H Q I h => (pt_cmpR (cmp_ok (TL := TL) g.hu op) ha hb hm).run pins s σ H Q I ?_⟩
  obtain ⟨r, S, Q0, rl, hw, hq⟩ := h
  refine ⟨r, S, _, rl, hw, fun x S1 v H1 hx st1 hp1 rx => ⟨r, S1, _, rl.stp st1 hp1, hx, fun y S2 u H2 hy st2 hp2 ry => ?_⟩⟩
  split at hy
  · rename_i z e
    obtain ⟨c, e1, q⟩ := hq _ S2 H2 hy (st1.trans st2) hp2
    have e2 : some z = some c := e1
    cases e2
    exact ⟨S2, _, _, z, hp2, rs_rep hp2 (rx.stp st2), rs_rep hp2 ry, e, z, rfl, q⟩
  · exact hy.elim
theorem st_ch {a b c : Expr} {ca cb cc : CE} {o1 o2 : CmpOp} {pos : Pos} (ha : PE X a (rdE TL E9 X.K (WE G R ca))) (hb : PE X b (rdE TL E9 X.K (WE G R cb))) (hc : PE X c (rdE TL E9 X.K (WE G R cc))) (hm : lastMarks [o1, o2] [b, c] = false) :
    PT X (.Compare a [o1, o2] [b, c] pos) (rdTT TL E9 X.K (WE G R (.ch o1 o2 ca cb cc))) := by
  refine ⟨fun pins s σ H Q I h => (pt_chain (cmp_ok (TL := TL) g.hu o1) (cmp_ok (TL := TL) g.hu o2) ha hb hc hm).run pins s σ H Q I ?_⟩
  obtain ⟨r, S, Q0, rl, hw, hq⟩ := h
  refine ⟨r, S, _, rl, hw, fun x S1 v H1 hx st1 hp1 rx => ⟨r, S1, _, rl.stp st1 hp1, hx, fun y S2 u H2 hy st2 hp2 ry => ?_⟩⟩
  split at hy
  · rename_i e
    refine ⟨S2, _, _, true, hp2, rs_rep hp2 (rx.stp st2), rs_rep hp2 ry, e, true, rfl, iteT ?_⟩
    refine ⟨r, S2, _, (rl.stp st1 hp1).stp st2 hp2, hy, fun z S3 u3 H3 hz st3 hp3 rz => ?_⟩
    split at hz
    · rename_i w e2
      obtain ⟨c, e3, q⟩ := hq _ S3 H3 hz ((st1.trans st2).trans st3) hp3
      have e4 : some w = some c := e3
      cases e4
      exact ⟨S3, _, _, w, hp3, rs_rep hp3 (ry.stp st3), rs_rep hp3 rz, e2, w, rfl, q⟩
    · exact hz.elim
  · rename_i e
    obtain ⟨c, e3, q⟩ := hq _ S2 H2 hy (st1.trans st2) hp2
    have e4 : some false = some c := e3
    cases e4
    exact ⟨S2, _, _, false, hp2, rs_rep hp2 (rx.stp st2), rs_rep hp2 ry, e, false, rfl, iteF ⟨false, rfl, q⟩⟩
  · exact hy.elim
omit g in
theorem se_ite {t a b : Expr} {ct ca cb : CE} {pos : Pos} (ht : PT X t (rdTT TL E9 X.K (WE G R ct))) (ha : PE X a (rdE TL E9 X.K (WE G R ca))) (hb : PE X b (rdE TL E9 X.K (WE G R cb))) : PE X (.IfExp t a b pos) (rdE TL E9 X.K (WE G R (.ite ct ca cb))) := by
  refine ⟨fun pins s σ H Q I h => (pe_ifExp ht ha hb).run pins s σ H Q I ?_⟩
  obtain ⟨r, S, Q0, rl, hw, hq⟩ := h
  refine ⟨r, S, _, rl, hw, fun x S1 H1 hx st1 hp1 => ?_⟩
  split at hx
  · rename_i e
    exact ⟨true, e, iteT ⟨r, S1, Q0, rl.stp st1 hp1, hx, fun d S' v H' h0 s2 h2 r2 => hq d S' v H' h0 (st1.trans s2) h2 r2⟩⟩
  · rename_i e
    exact ⟨false, e, iteF ⟨r, S1, Q0, rl.stp st1 hp1, hx, fun d S' v H' h0 s2 h2 r2 => hq d S' v H' h0 (st1.trans s2) h2 r2⟩⟩
  · exact hx.elim
/-! and, or -/
omit g in
theorem se_and1 {a : Expr} {ca : CE} {pos : Pos} (ha : PE X a (rdE TL E9 X.K (WE G R ca))) : PE X (.BoolOp .And [a] pos) (rdE TL E9 X.K (WAnd G R (.cons ca .nil))) := by
  refine ⟨fun pins s σ H Q I h => (pe_one ha).run pins s σ H Q I ?_⟩
  obtain ⟨r, S, Q0, rl, hw, hq⟩ := h
  exact ⟨r, S, Q0, rl, by simpa only [WAnd] using hw, hq⟩
omit g in
theorem se_or1 {a : Expr} {ca : CE} {pos : Pos} (ha : PE X a (rdE TL E9 X.K (WE G R ca))) : PE X (.BoolOp .Or [a] pos) (rdE TL E9 X.K (WOr G R (.cons ca .nil))) := by
  refine ⟨fun pins s σ H Q I h => (pe_one ha).run pins s σ H Q I ?_⟩
  obtain ⟨r, S, Q0, rl, hw, hq⟩ := h
  exact ⟨r, S, Q0, rl, by simpa only [WOr] using hw, hq⟩
omit g in
theorem se_and {a b : Expr} {rest : List Expr} {ca cb : CE} {cs : CEs} {pos : Pos} (ha : PE X a (rdE TL E9 X.K (WE G R ca))) (hb : PE X (.BoolOp .And (b :: rest) pos) (rdE TL E9 X.K (WAnd G R (.cons cb cs)))) : PE X (.BoolOp .And (a :: b :: rest) pos) (rdE TL E9 X.K (WAnd G R (.cons ca (.cons cb cs)))) := by
  refine ⟨fun pins s σ H Q I h => (pe_andT ha hb).run pins s σ H Q I ?_⟩
  obtain ⟨r, S, Q0, rl, hw, hq⟩ := h
  rw [WAnd] at hw
  refine ⟨r, S, _, rl, hw, fun x S1 v H1 hx st1 hp1 rx => ?_⟩
  simp only at hx
  split at hx
  · rename_i e
    exact ⟨true, truth_ok (rs_rep hp1 rx) e, iteT ⟨r, S1, Q0, rl.stp st1 hp1, hx, fun d S' v H' h0 s2 h2 r2 => hq d S' v H' h0 (st1.trans s2) h2 r2⟩⟩
  · rename_i e
    exact ⟨false, truth_ok (rs_rep hp1 rx) e, iteF (hq _ S1 _ H1 hx st1 hp1 rx)⟩
  · exact hx.elim
omit g in
theorem se_or {a b : Expr} {rest : List Expr} {ca cb : CE} {cs : CEs} {pos : Pos} (ha : PE X a (rdE TL E9 X.K (WE G R ca))) (hb : PE X (.BoolOp .Or (b :: rest) pos) (rdE TL E9 X.K (WOr G R (.cons cb cs)))) : PE X (.BoolOp .Or (a :: b :: rest) pos) (rdE TL E9 X.K (WOr G R (.cons ca (.cons cb cs)))) := by
  refine ⟨fun pins s σ H Q I h => (pe_orT ha hb).run pins s σ H Q I ?_⟩
  obtain ⟨r, S, Q0, rl, hw, hq⟩ := h
  rw [WOr] at hw
  refine ⟨r, S, _, rl, hw, fun x S1 v H1 hx st1 hp1 rx => ?_⟩
  simp only at hx
  split at hx
  · rename_i e
    exact ⟨true, truth_ok (rs_rep hp1 rx) e, iteT (hq _ S1 _ H1 hx st1 hp1 rx)⟩
  · rename_i e
    exact ⟨false, truth_ok (rs_rep hp1 rx) e, iteF ⟨r, S1, Q0, rl.stp st1 hp1, hx, fun d S' v H' h0 s2 h2 r2 => hq d S' v H' h0 (st1.trans s2) h2 r2⟩⟩
  · exact hx.elim
omit g in
theorem st_and1 {a : Expr} {ca : CE} {pos : Pos} (ha : PT X a (rdTT TL E9 X.K (WE G R ca))) : PW X (.BoolOp .And [a] pos) (rdTT TL E9 X.K (WAnd G R (.cons ca .nil))) := by
  refine ⟨fun wh pins s σ H Q I h => (pw_and1 ha).run wh pins s σ H Q I ?_⟩
  obtain ⟨r, S, Q0, rl, hw, hq⟩ := h
  exact ⟨r, S, Q0, rl, by simpa only [WAnd] using hw, hq⟩
omit g in
theorem st_or1 {a : Expr} {ca : CE} {pos : Pos} (ha : PT X a (rdTT TL E9 X.K (WE G R ca))) : PW X (.BoolOp .Or [a] pos) (rdTT TL E9 X.K (WOr G R (.cons ca .nil))) := by
  refine ⟨fun wh pins s σ H Q I h => (pw_or1 ha).run wh pins s σ H Q I ?_⟩
  obtain ⟨r, S, Q0, rl, hw, hq⟩ := h
  exact ⟨r, S, Q0, rl, by simpa only [WOr] using hw, hq⟩
omit g in
theorem st_and {a b : Expr} {rest : List Expr} {ca cb : CE} {cs : CEs} {pos : Pos} (ha : PT X a (rdTT TL E9 X.K (WE G R ca))) (hb : PW X (.BoolOp .And (b :: rest) pos) (rdTT TL E9 X.K (WAnd G R (.cons cb cs)))) : PW X (.BoolOp .And (a :: b :: rest) pos) (rdTT TL E9 X.K (WAnd G R (.cons ca (.cons cb cs)))) := by
  refine ⟨fun wh pins s σ H Q I h => (pw_and ha hb).run wh pins s σ H Q I ?_⟩
  obtain ⟨r, S, Q0, rl, hw, hq⟩ := h
  rw [WAnd] at hw
  refine ⟨r, S, _, rl, hw, fun x S1 H1 hx st1 hp1 => ?_⟩
  simp only at hx
  split at hx
  · rename_i e
    exact ⟨true, e, iteT ⟨r, S1, Q0, rl.stp st1 hp1, hx, fun d S' H' h0 s2 h2 => hq d S' H' h0 (st1.trans s2) h2⟩⟩
  · rename_i e
    obtain ⟨c, e3, q⟩ := hq _ S1 H1 hx st1 hp1
    rw [e] at e3
    cases e3
    exact ⟨false, e, iteF q⟩
  · exact hx.elim
omit g in
theorem st_or {a b : Expr} {rest : List Expr} {ca cb : CE} {cs : CEs} {pos : Pos} (ha : PT X a (rdTT TL E9 X.K (WE G R ca))) (hb : PW X (.BoolOp .Or (b :: rest) pos) (rdTT TL E9 X.K (WOr G R (.cons cb cs)))) : PW X (.BoolOp .Or (a :: b :: rest) pos) (rdTT TL E9 X.K (WOr G R (.cons ca (.cons cb cs)))) := by
  refine ⟨fun wh pins s σ H Q I h => (pw_or ha hb).run wh pins s σ H Q I ?_⟩
  obtain ⟨r, S, Q0, rl, hw, hq⟩ := h
  rw [WOr] at hw
  refine ⟨r, S, _, rl, hw, fun x S1 H1 hx st1 hp1 => ?_⟩
  simp only at hx
  split at hx
  · rename_i e
    obtain ⟨c, e3, q⟩ := hq _ S1 H1 hx st1 hp1
    rw [e] at e3
    cases e3
    exact ⟨true, e, iteT q⟩
  · rename_i e
    exact ⟨false, e, iteF ⟨r, S1, Q0, rl.stp st1 hp1, hx, fun d S' H' h0 s2 h2 => hq d S' H' h0 (st1.trans s2) h2⟩⟩
  · exact hx.elim
end
end FL

namespace FL
open PySem PySem.Spec PyProof.Rows L2
def isSl : Expr → Bool
  | .Slice .. => true
  | _ => false
theorem plainIx_of {b : Expr} (h : isSl b = false) : PlainIx b := by
  intro o i
  cases b <;> first | rfl | (simp [isSl] at h; done)
theorem KReps.get {K : PySem.W.Frag} {S : XS} {H : Hp} {kk : Key} {d : D} : ∀ {kvs : List (Key × D)} {ws : List (Key × V)}, KReps K S H ws kvs → getK kvs kk = some d → ∃ w, valV ws kk = some w ∧ Rep K S H w d
  | [], _, _, e => by simp [getK] at e
  | kv :: r, [], h, _ => by simp [KReps] at h
  | kv :: r, w0 :: wr, ⟨he, hr⟩, e => by
    simp only [List.map_cons, List.cons.injEq] at he
    cases hr with
    | cons a1 a2 =>
      unfold getK at e
      unfold valV
      rw [List.find?_cons] at e ⊢
      rw [he.1]
      by_cases hk : kv.1 = kk
      · rw [decide_eq_true hk] at e ⊢
        cases e
        exact ⟨_, rfl, a1⟩
      · rw [decide_eq_false hk] at e ⊢
        exact KReps.get (kvs := r) (ws := wr) ⟨he.2, a2⟩ e
section
variable {X : Cx} {G : Ctx} {st : Sta} {R : XP} {k : Nat} (g : Gd TL E9 G st R k X)
/-! ### argument lists -/
theorem sa_nil : PA X [] (rdA TL E9 X.K (WEs G R .nil)) := by
  refine ⟨fun pos pins s σ H Q I h => pa_nil.run pos pins s σ H Q I ?_⟩
  obtain ⟨r, S, Q0, rl, hw, hq⟩ := h
  exact hq [] S [] H hw (.refl _ _) rl.hp .nil
theorem sa_cons {e : Expr} {es : List Expr} {c : CE} {cs : CEs} (ha : PE X e (rdE TL E9 X.K (WE G R c))) (hr : PA X es (rdA TL E9 X.K (WEs G R cs))) (hn : isStar e = false) : PA X (e :: es) (rdA TL E9 X.K (WEs G R (.cons c cs))) := by
  refine ⟨fun pos pins s σ H Q I h => (pa_cons ha hr (starEach_cons hn)).run pos pins s σ H Q I ?_⟩
  obtain ⟨r, S, Q0, rl, hw, hq⟩ := h
  refine ⟨r, S, _, rl, hw, fun x S1 v H1 hx st1 hp1 rx => ⟨r, S1, _, rl.stp st1 hp1, hx, fun xs S2 vs H2 hy st2 hp2 ry => ?_⟩⟩
  exact hq _ S2 _ H2 hy (st1.trans st2) hp2 (.cons (rx.stp st2) ry)
theorem sa_star {e : Expr} {es : List Expr} {p : Pos} {c : CE} {cs : CEs} (ha : PE X e (rdE TL E9 X.K (WE G R c))) (hr : PA X es (rdA TL E9 X.K (WEs G R cs))) : PA X (.Starred e p :: es) (rdA TL E9 X.K (WEs G R (.star c cs))) := by
  refine ⟨fun pos pins s σ H Q I h => (StX.pa_star ha hr).run pos pins s σ H Q I ?_⟩
  obtain ⟨r, S, Q0, rl, hw, hq⟩ := h
  refine ⟨r, S, _, rl, hw, fun x S1 v H1 hx st1 hp1 rx => ?_⟩
  have fin : ∀ {a : Addr} {ys : List D} {vs : List V}, v = .ref a → (SqT X.K H1 a vs ∨ SqL X.K H1 a vs) → Reps X.K S1 H1 vs ys → WEs G R cs r (prj S1) (fun xs S2 => Q0 (ys ++ xs) S2) →
      ∃ p xs, v = V.ref p ∧ (SqT X.K H1 p xs ∨ SqL X.K H1 p xs) ∧ rdA TL E9 X.K (WEs G R cs) σ H1 fun ys H2 => Q (xs ++ ys) H2 := fun {a ys vs} ev hs rp hw1 =>
    ⟨a, vs, ev, hs, r, S1, _, rl.stp st1 hp1, hw1, fun xs S2 ws H2 hy st2 hp2 ry => hq _ S2 _ H2 hy (st1.trans st2) hp2 ((rp.stp st2).app ry)⟩
  have rw1 := rs_rep hp1 rx
  generalize rs (prj S1) x = dx at hx rw1
  cases dx with
  | lst ds =>
    obtain ⟨a, vs, rfl, ha, za, ra⟩ := rw1.lst_inv
    exact fin rfl (.inr (.of ha)) ra hx
  | tup ds =>
    obtain ⟨a, vs, rfl, ha, za, ra⟩ := rw1.tup_inv
    exact fin rfl (.inl ha) ra hx
  | _ => exact hx.elim
include g
/-! ### subscripts -/
theorem se_sub {a b : Expr} {ca cb : CE} {pos : Pos} (ha : PE X a (rdE TL E9 X.K (WE G R ca))) (hb : PE X b (rdE TL E9 X.K (WE G R cb))) (hs : isSl b = false) : PE X (.Subscript a b pos) (rdE TL E9 X.K (WE G R (.sub ca cb))) := by
  refine ⟨fun pins s σ H Q I h => (pe_ix (sub_ok (TL := TL)) ha hb (plainIx_of hs)).run pins s σ H Q I ?_⟩
  obtain ⟨r, S, Q0, rl, hw, hq⟩ := h
  refine ⟨r, S, _, rl, hw, fun x S1 v H1 hx st1 hp1 rx => ⟨r, S1, _, rl.stp st1 hp1, hx, fun y S2 u H2 hy st2 hp2 ry => ?_⟩⟩
  split at hy
  · rename_i z e
    exact ⟨S2, _, _, z, hp2, rs_rep hp2 (rx.stp st2), .of ry, e, fun w H' sm rw1 => hq z S2 w H' hy ((st1.trans st2).trans (hp2.sstep sm)) (hp2.same sm) rw1⟩
  · exact hy.elim
theorem se_dget {a b : Expr} {ca cb : CE} {pos : Pos} (ha : PE X a (rdE TL E9 X.K (WE G R ca))) (hb : PE X b (rdE TL E9 X.K (WE G R cb))) (hs : isSl b = false) : PE X (.Subscript a b pos) (rdE TL E9 X.K (WE G R (.dget ca cb))) := by
  refine ⟨fun pins s σ H Q I h => (pe_dget (by have := g.hu; omega) ha hb (plainIx_of hs)).run pins s σ H Q I ?_⟩
  obtain ⟨r, S, Q0, rl, hw, hq⟩ := h
  refine ⟨r, S, _, rl, hw, fun x S1 v H1 hx st1 hp1 rx => ⟨r, S1, _, rl.stp st1 hp1, hx, fun y S2 u H2 hy st2 hp2 ry => ?_⟩⟩
  cases x with
  | loc p =>
    cases y with
    | str kk =>
      simp only at hy
      cases ep : prj S2 p with
      | none => rw [ep] at hy; exact hy.elim
      | some o =>
        rw [ep] at hy
        cases o with
        | lst ds => exact hy.elim
        | dK kvs =>
          simp only at hy
          cases ed : getK kvs (Sum.inr kk) with
          | none => rw [ed] at hy; exact hy.elim
          | some d =>
            rw [ed] at hy
            cases rx
            cases ry
            obtain ⟨ws, hp, hk⟩ := hp2.ob p _ (prj_some ep)
            obtain ⟨w, ew, rw1⟩ := hk.get ed
            exact ⟨p, w, rfl, by have := DGet.k (k := Sum.inr kk) hp; rw [ew] at this; exact this, hq d S2 w H2 hy (st1.trans st2) hp2 rw1⟩
    | _ => exact hy.elim
  | _ => exact hy.elim
omit g in
theorem so_no : PO X none (fun σ H Q => ∃ (r : En) (S : XS) (Q0 : Option Int → Sto → Prop), Rl TL E9 X.K S H σ r ∧ WO G R .no r (prj S) Q0 ∧ ∀ o S' H', Q0 o (prj S') → Step S H S' H' → HRep TL X.K S' H' → Q o H') := by
  refine ⟨fun pins s σ H Q I h => po_none.run pins s σ H Q I ?_⟩
  obtain ⟨r, S, Q0, rl, hw, hq⟩ := h
  exact hq none S H hw (.refl _ _) rl.hp
omit g in
theorem so_so {e : Expr} {c : CE} (he : PE X e (rdE TL E9 X.K (WE G R c))) : PO X (some e) (fun σ H Q => ∃ (r : En) (S : XS) (Q0 : Option Int → Sto → Prop), Rl TL E9 X.K S H σ r ∧ WO G R (.so c) r (prj S) Q0 ∧ ∀ o S' H', Q0 o (prj S') → Step S H S' H' → HRep TL X.K S' H' → Q o H') := by
  refine ⟨fun pins s σ H Q I h => (po_some he).run pins s σ H Q I ?_⟩
  obtain ⟨r, S, Q0, rl, hw, hq⟩ := h
  refine ⟨r, S, _, rl, hw, fun x S1 v H1 hx st1 hp1 rx => ?_⟩
  split at hx
  · cases rx
    exact ⟨_, rfl, hq _ S1 H1 hx st1 hp1⟩
  · exact hx.elim
def rdO (TL : List (Addr × Str)) (E9 : XS × Hp) (K : PySem.W.Frag) (w : En → Sto → (Option Int → Sto → Prop) → Prop) : TO := fun σ H Q => ∃ (r : En) (S : XS) (Q0 : Option Int → Sto → Prop), Rl TL E9 K S H σ r ∧ w r (prj S) Q0 ∧ ∀ o S' H', Q0 o (prj S') → Step S H S' H' → HRep TL K S' H' → Q o H'
omit g in
theorem se_sl {a : Expr} {lo hi : Option Expr} {ca : CE} {cl ch : CO} {p2 pos : Pos} (ha : PE X a (rdE TL E9 X.K (WE G R ca))) (hl : PO X lo (rdO TL E9 X.K (WO G R cl))) (hh : PO X hi (rdO TL E9 X.K (WO G R ch))) : PE X (.Subscript a (.Slice lo hi none p2) pos) (rdE TL E9 X.K (WE G R (.sl ca cl ch))) := by
  refine ⟨fun pins s σ H Q I h => (pe_slice (sl_ok (TL := TL)) ha hl hh).run pins s σ H Q I ?_⟩
  obtain ⟨r, S, Q0, rl, hw, hq⟩ := h
  refine ⟨r, S, _, rl, hw, fun x S1 v H1 hx st1 hp1 rx => ⟨r, S1, _, rl.stp st1 hp1, hx, fun l S2 H2 hl st2 hp2 => ⟨r, S2, _, (rl.stp st1 hp1).stp st2 hp2, hl, fun u S3 H3 hu st3 hp3 => ?_⟩⟩⟩
  split at hu
  · rename_i z e
    exact ⟨S3, _, z, hp3, rs_rep hp3 ((rx.stp st2).stp st3), e, fun w H' sm rw1 => hq z S3 w H' hu (((st1.trans st2).trans st3).trans (hp3.sstep sm)) (hp3.same sm) rw1⟩
  · exact hu.elim
omit g in
theorem se_rv {a : Expr} {ca : CE} {k : Nat} {p1 p2 p3 pos : Pos} (ha : PE X a (rdE TL E9 X.K (WE G R ca))) : PE X (.Subscript a (.Slice none none (some (.UnaryOp .USub (.Constant (.int 1) k p1) p2)) p3) pos) (rdE TL E9 X.K (WE G R (.rv ca))) := by
  refine ⟨fun pins s σ H Q I h => (pe_rv (TL := TL) ha).run pins s σ H Q I ?_⟩
  obtain ⟨r, S, Q0, rl, hw, hq⟩ := h
  refine ⟨r, S, _, rl, hw, fun x S1 v H1 hx st1 hp1 rx => ?_⟩
  split at hx
  · rename_i z e
    exact ⟨S1, _, z, hp1, rs_rep hp1 rx, e, fun w H' sm rw1 => hq z S1 w H' hx (st1.trans (hp1.sstep sm)) (hp1.same sm) rw1⟩
  · exact hx.elim
/-! ### calls -/
theorem call_fin {i : Nat} {fa : Addr} {fd : FuncData} {ps : List Str} {pins : List (Addr × Obj)} {σ : L2.St} {H H1 : Hp} {s1 : Shared} {S S1 : XS} {r : En} {Q : VK} {Q0 : D → Sto → Prop} {us : List Value} {vs : List V} {ds : List D}
    (F : FnG X.prog X.w X.K X.mg X.base (CX X.prog X.w) k fa fd ps (liftSp TL X.K (G.ar i) (G.fn i))) (hb : Binds X.K fd ps []) (rl : Rl TL E9 X.K S H σ r)
    (hq : ∀ d S' v H', Q0 d (prj S') → Step S H S' H' → HRep TL X.K S' H' → Rep X.K S' H' v d → Q v H') (I1 : Inv X pins σ H1 s1) (rv : Vals vs us) (st1 : Step S H S1 H1) (hp1 : HRep TL X.K S1 H1) (rp : Reps X.K S1 H1 vs ds)
    (hw1 : ds.length = G.ar i ∧ G.fn i ds (prj S1) Q0 (fun e S2 => R e r S2)) : wpAny (model X.prog X.w) X.A (call (.ref fa) us) (EP X pins σ Q) X.xe s1 := by
  have hsp := sp_of (Q := Q) (rl.stp st1 hp1) hw1.1 rp hw1.2 fun d S' v H' h0 s2 h2 r2 => hq d S' v H' h0 (st1.trans s2) h2 r2
  have hl : us.length = ps.length := by rw [← rv.length]; exact F.len _ _ _ _ hsp
  exact run_fnG (args := ⟨us, []⟩) F (g.room.mono (Nat.le_add_right _ _)) g.gd (by have := hb s1 us I1.kIn (by rw [List.append_nil]; exact hl); rw [List.append_nil] at this; exact this) (tk_call g I1) I1 rv hsp
theorem se_call0 {i : Nat} {x : Str} {p pos : Pos} (hf : st.fns[i]? = some x) (hv : st.sc.names.lookup x = some .globalImplicit) (hd : (x == ("__debug__" : Str)) = false) : PE X (.Call (.Name x p) [] [] pos) (rdE TL E9 X.K (WE G R (.call i .nil))) := by
  obtain ⟨fa, fd, ps, F, hm, hk, hb, _⟩ := (g.fns i x hf).ex
  refine ⟨fun pins s σ H Q I h => ?_⟩
  obtain ⟨r, S, Q0, rl, hw, hq⟩ := h
  refine wpAny_Call_Name_kw (ld_glob I (show X.env.scope.names.lookup x = _ by rw [g.sc]; exact hv) hm ?_ hd)
  exact PySem.W.callWith_K0 I.kIn hk (call_fin g F hb rl hq I .nil (.refl _ _) rl.hp .nil hw)
theorem se_call {i : Nat} {x : Str} {e : Expr} {es : List Expr} {cs : CEs} {p pos : Pos} (hf : st.fns[i]? = some x) (hv : st.sc.names.lookup x = some .globalImplicit) (hd : (x == ("__debug__" : Str)) = false)
    (ha : PA X (e :: es) (rdA TL E9 X.K (WEs G R cs))) (hn : nst (e :: es) = true) : PE X (.Call (.Name x p) (e :: es) [] pos) (rdE TL E9 X.K (WE G R (.call i cs))) := by
  obtain ⟨fa, fd, ps, F, hm, hk, hb, _⟩ := (g.fns i x hf).ex
  refine ⟨fun pins s σ H Q I h => ?_⟩
  obtain ⟨r, S, Q0, rl, hw, hq⟩ := h
  refine wpAny_Call_Name_kw (ld_glob I (show X.env.scope.names.lookup x = _ by rw [g.sc]; exact hv) hm ?_ hd)
  have hn' : isStar e = false ∧ nst es = true := by
    simp only [nst, List.all_cons, Bool.and_eq_true, Bool.not_eq_true'] at hn
    exact hn
  refine PySem.W.callWith_K (h₀ := X.base) I.ok.mod.kin hk (thn (ha.run pos pins s σ H (fun vs H1 => ∃ ds S1, Step S H S1 H1 ∧ HRep TL X.K S1 H1 ∧ Reps X.K S1 H1 vs ds ∧ ds.length = G.ar i ∧ G.fn i ds (prj S1) Q0 fun e S2 => R e r S2) I
    ⟨r, S, _, rl, hw, fun ds S1 vs H1 h0 st1 hp1 rp => ⟨ds, S1, st1, hp1, rp, h0⟩⟩) fun us s1 ⟨vs, H1, I1, rv, ds, S1, st1, hp1, rp, hw1⟩ => ⟨I1.kIn, call_fin g F hb rl hq I1 rv st1 hp1 rp hw1⟩) (starEach_cons hn'.1) (star_any hn'.2)
end
end FL

namespace FL
open PySem PySem.Spec PyProof.Rows L2
def biName : Bi → Str
  | .len => "len" | .int1 => "int" | .sorted => "sorted" | .tuple => "tuple" | .list => "list" | .repr => "repr" | .str => "str" | .all => "all" | .any => "any" | .sum => "sum"
def biVal : Bi → Value
  | .len => .builtin "len" | .int1 => .type "int" | .sorted => .builtin "sorted" | .tuple => .type "tuple" | .list => .type "list" | .repr => .builtin "repr" | .str => .type "str" | .all => .builtin "all" | .any => .builtin "any" | .sum => .builtin "sum"
theorem biBoot (b : Bi) : bootBuiltins (biName b) = some (biVal b) := by cases b <;> decide +kernel
theorem biMem (b : Bi) : biName b ∈ bltNames := by cases b <;> decide +kernel
theorem biDbg (b : Bi) : (biName b == ("__debug__" : Str)) = false ∧ biName b ≠ "__name__" := by cases b <;> exact ⟨by decide +kernel, by decide +kernel⟩
def tyB : Ty → Str
  | .int => "int" | .bool => "bool" | .str => "str" | .tuple => "tuple" | .list => "list"
theorem tyBoot (t : Ty) : bootBuiltins (tyB t) = some (.type (tyS t)) := by cases t <;> decide +kernel
theorem tyMem (t : Ty) : tyB t ∈ bltNames := by cases t <;> decide +kernel
theorem tyDbg (t : Ty) : (tyB t == ("__debug__" : Str)) = false ∧ tyB t ≠ "__name__" := by cases t <;> exact ⟨by decide +kernel, by decide +kernel⟩
theorem join_len (a : Str) : ∀ ys : List Str, (Txt.join a ys).length ≤ (ys.map (·.length)).sum + ys.length * a.length := by
  intro ys
  rw [show Txt.join a ys = Str.join a ys from StrLaws.glued_eq_join a ys]
  exact StrLaws.join_length_le a ys
section
variable {X : Cx} {G : Ctx} {st : Sta} {R : XP} {k : Nat} (g : Gd TL E9 G st R k X)
include g
theorem bi_ok (b : Bi) : CallR X (biVal b) (rB TL X.K b) := by
  cases b with
  | len => exact bi_len (TL := TL)
  | int1 => exact bi_int (TL := TL)
  | sorted => exact bi_sorted (TL := TL)
  | tuple => exact bi_tuple (TL := TL)
  | list => exact bi_list (TL := TL)
  | repr => exact bi_repr (TL := TL) g.gd g.hu
  | str => exact bi_str (TL := TL)
  | all => exact bi_all (TL := TL) g.calm
  | any => exact bi_any (TL := TL) g.calm
  | sum => exact bi_sum (TL := TL) g.calm
theorem se_bi {b : Bi} {e : Expr} {es : List Expr} {cs : CEs} {p pos : Pos} (hv : st.sc.names.lookup (biName b) = some .globalImplicit) (ha : PA X (e :: es) (rdA TL E9 X.K (WEs G R cs))) (hn : nst (e :: es) = true) : PE X (.Call (.Name (biName b) p) (e :: es) [] pos) (rdE TL E9 X.K (WE G R (.bi b cs))) := by
  have hn' : isStar e = false ∧ nst es = true := by
    simp only [nst, List.all_cons, Bool.and_eq_true, Bool.not_eq_true'] at hn
    exact hn
  have hgl : Gl X (biName b) := by
    show X.env.scope.names.lookup (biName b) = _
    rw [g.sc]; exact hv
  have hm := g.blt _ (biMem b)
  have key : PE X (.Call (.Name (biName b) p) (e :: es) [] pos) (tCB (rB TL X.K b) (rdA TL E9 X.K (WEs G R cs))) := by
    have hok := bi_ok g b
    have hb := biBoot b
    have hd := biDbg b
    cases b with
    | len => exact pe_callB hok hgl hm hb ha hd.2 hd.1 (starEach_cons hn'.1) (star_any hn'.2)
    | sorted => exact pe_callB hok hgl hm hb ha hd.2 hd.1 (starEach_cons hn'.1) (star_any hn'.2)
    | repr => exact pe_callB hok hgl hm hb ha hd.2 hd.1 (starEach_cons hn'.1) (star_any hn'.2)
    | all => exact pe_callB hok hgl hm hb ha hd.2 hd.1 (starEach_cons hn'.1) (star_any hn'.2)
    | any => exact pe_callB hok hgl hm hb ha hd.2 hd.1 (starEach_cons hn'.1) (star_any hn'.2)
    | sum => exact pe_callB hok hgl hm hb ha hd.2 hd.1 (starEach_cons hn'.1) (star_any hn'.2)
    | int1 => exact pe_callTy hok hgl hm hb ha hd.2 hd.1 (starEach_cons hn'.1) (star_any hn'.2)
    | tuple => exact pe_callTy hok hgl hm hb ha hd.2 hd.1 (starEach_cons hn'.1) (star_any hn'.2)
    | list => exact pe_callTy hok hgl hm hb ha hd.2 hd.1 (starEach_cons hn'.1) (star_any hn'.2)
    | str => exact pe_callTy hok hgl hm hb ha hd.2 hd.1 (starEach_cons hn'.1) (star_any hn'.2)
  refine ⟨fun pins s σ H Q I h => key.run pins s σ H Q I ?_⟩
  obtain ⟨r, S, Q0, rl, hw, hq⟩ := h
  refine ⟨r, S, _, rl, hw, fun ds S1 vs H1 hx st1 hp1 rx => ?_⟩
  split at hx
  · rename_i z e
    exact ⟨S1, ds, z, hp1, rx, e, fun w H' sm rw1 => hq z S1 w H' hx (st1.trans (hp1.sstep sm)) (hp1.same sm) rw1⟩
  · exact hx.elim
theorem se_isi {t : Ty} {e : Expr} {c : CE} {p p2 pos : Pos} (hv : st.sc.names.lookup ("isinstance" : Str) = some .globalImplicit) (hv2 : st.sc.names.lookup (tyB t) = some .globalImplicit) (ha : PE X e (rdE TL E9 X.K (WE G R c))) (hn : isStar e = false) :
    PE X (.Call (.Name "isinstance" p) [e, .Name (tyB t) p2] [] pos) (rdE TL E9 X.K (WE G R (.isi c t))) := by
  have hgl : Gl X "isinstance" := by
    show X.env.scope.names.lookup _ = _
    rw [g.sc]; exact hv
  have hgl2 : Gl X (tyB t) := by
    show X.env.scope.names.lookup _ = _
    rw [g.sc]; exact hv2
  have ht : PE X (.Name (tyB t) p2) (tC (.ty (tyS t))) := pe_bltn hgl2 (g.blt _ (tyMem t)) (tyBoot t) rfl (tyDbg t).2 (tyDbg t).1
  have key := pe_callB (p := p) (pos := pos) (x := "isinstance") (isi_ok (X := X) (TL := TL) t) hgl (g.blt _ (by decide +kernel)) (by decide +kernel) (pa_cons ha (pa_cons ht pa_nil) (starEach_cons hn)) (by decide +kernel) (by decide +kernel) (starEach_cons hn) rfl
  refine ⟨fun pins s σ H Q I h => key.run pins s σ H Q I ?_⟩
  obtain ⟨r, S, Q0, rl, hw, hq⟩ := h
  refine ⟨r, S, _, rl, hw, fun x S1 v H1 hx st1 hp1 rx => ?_⟩
  split at hx
  · rename_i z e
    exact ⟨S1, v, _, z, rfl, hp1, rs_rep hp1 rx, e, hq _ S1 _ H1 hx st1 hp1 (.bl _)⟩
  · exact hx.elim
omit g in
theorem se_join {o e : Expr} {co ce : CE} {apos pos : Pos} (ho : PE X o (rdE TL E9 X.K (WE G R co))) (he : PE X e (rdE TL E9 X.K (WE G R ce))) (hn : isStar e = false) (hb : attributeBase o "join" X.env (eval o X.env) = eval o X.env) (hp : (apos.endLine == pos.line) = true) :
    PE X (.Call (.Attribute o "join" apos) [e] [] pos) (rdE TL E9 X.K (WE G R (.join co ce))) := by
  refine ⟨fun pins s σ H Q I h => (pe_join ho he (starEach_cons hn) hb hp).run pins s σ H Q I ?_⟩
  obtain ⟨r, S, Q0, rl, hw, hq⟩ := h
  refine ⟨r, S, _, rl, hw, fun x S1 v H1 hx st1 hp1 rx => ?_⟩
  cases x with
  | str z =>
    cases rx with
    | str hz =>
    refine ⟨⟨z, rfl⟩, r, S1, _, rl.stp st1 hp1, hx, fun y S2 u H2 hy st2 hp2 ry => ?_⟩
    have rw1 := rs_rep hp2 ry
    generalize rs (prj S2) y = dy at hy rw1
    split at hy
    · rename_i w e
      have fin : ∀ {a : Addr} {vs : List V} {ds : List D}, u = .ref a → (SqL X.K H2 a vs ∨ SqT X.K H2 a vs) → Reps X.K S2 H2 vs ds → ((strsOf ds).bind fun ys => if (ys.map (·.length)).sum + ys.length * z.length ≤ 16777216 then some (D.str (Txt.join z ys)) else none) = some w →
          ∃ a p ys, V.str z = V.str a ∧ [u] = [V.ref p] ∧ (SqL X.K H2 p (ys.map V.str) ∨ SqT X.K H2 p (ys.map V.str)) ∧ (ys.map (·.length)).sum + ys.length * a.length ≤ 16777216 ∧ Q (V.str (Txt.join a ys)) H2 := fun {a vs ds} eu hs rp e1 => by
        rw [Option.bind_eq_some_iff] at e1
        obtain ⟨ys, e2, e3⟩ := e1
        obtain ⟨rfl, _, _⟩ := rp.strs e2
        split at e3
        · rename_i hz2
          cases e3
          refine ⟨z, a, ys, rfl, by rw [eu], hs, hz2, hq _ S2 _ H2 hy (st1.trans st2) hp2 (.str ?_)⟩
          exact Nat.le_trans (join_len z ys) hz2
        · cases e3
      cases dy with
      | lst ds =>
        obtain ⟨a, vs, rfl, ha, za, ra⟩ := rw1.lst_inv
        exact fin rfl (.inl (.of ha)) ra e
      | tup ds =>
        obtain ⟨a, vs, rfl, ha, za, ra⟩ := rw1.tup_inv
        exact fin rfl (.inr ha) ra e
      | _ => cases e
    · exact hy.elim
  | _ => exact hx.elim
/-! f-strings -/
omit g in
theorem se_fv {e : Expr} {c : CE} {pos : Pos} (he : PE X e (rdE TL E9 X.K (WE G R c))) : PE X (.FormattedValue e (-1) none pos) (rdE TL E9 X.K (WE G R (.fv c))) := by
  refine ⟨fun pins s σ H Q I h => (pe_fmt he).run pins s σ H Q I ?_⟩
  obtain ⟨r, S, Q0, rl, hw, hq⟩ := h
  refine ⟨r, S, _, rl, hw, fun x S1 v H1 hx st1 hp1 rx => ?_⟩
  cases x with
  | str z =>
    cases rx with
    | str hz => exact .inl ⟨z, rfl, hz, hq _ S1 _ H1 hx st1 hp1 (.str hz)⟩
  | int i =>
    cases rx
    simp only [fmtD] at hx
    by_cases hz : i.natAbs.log2 < 1920
    · rw [if_pos hz] at hx
      exact .inr ⟨i, rfl, hz, hq _ S1 _ H1 hx st1 hp1 (.str (int_text_fits hz))⟩
    · rw [if_neg hz] at hx
      exact hx.elim
  | _ => exact hx.elim
/-- the parts' readings -/
def fsTs (TL : List (Addr × Str)) (E9 : XS × Hp) (K : PySem.W.Frag) (G : Ctx) (R : XP) : CEs → List TE
  | .nil => []
  | .star _ _ => []
  | .cons c cs => rdE TL E9 K (WE G R c) :: fsTs TL E9 K G R cs
omit g in
theorem fs_rd : ∀ (cs : CEs) (acc : Str) (σ : L2.St) (H : Hp) (Q : Str → Hp → Prop), (∃ (r : En) (S : XS) (Q0 : Str → Sto → Prop), Rl TL E9 X.K S H σ r ∧ WFs G R cs acc r (prj S) Q0 ∧ ∀ z S' H', Q0 z (prj S') → Step S H S' H' → HRep TL X.K S' H' → Q z H') → tJs (fsTs TL E9 X.K G R cs) acc σ H Q
  | .nil, acc, σ, H, Q, ⟨r, S, Q0, rl, hw, hq⟩ => hq acc S H hw (.refl _ _) rl.hp
  | .star _ _, acc, σ, H, Q, ⟨r, S, Q0, rl, hw, hq⟩ => hw.elim
  | .cons c cs, acc, σ, H, Q, ⟨r, S, Q0, rl, hw, hq⟩ => by
    refine ⟨r, S, _, rl, hw, fun x S1 v H1 hx st1 hp1 rx => ?_⟩
    cases x with
    | str z =>
      cases rx
      exact ⟨z, rfl, hx.1, fs_rd cs _ σ H1 Q ⟨r, S1, Q0, rl.stp st1 hp1, hx.2, fun z S' H' h0 s2 h2 => hq z S' H' h0 (st1.trans s2) h2⟩⟩
    | _ => exact hx.elim
omit g in
theorem WFs_len {r : En} : ∀ (cs : CEs) (acc : Str) (S : XS) (Q : Str → Sto → Prop), acc.length ≤ sizeLine → True := fun _ _ _ _ _ => trivial
omit g in
theorem se_fs {e1 e2 : Expr} {es : List Expr} {cs : CEs} {pos : Pos} (h : PJ X (e1 :: e2 :: es) (fsTs TL E9 X.K G R cs)) : PE X (.JoinedStr (e1 :: e2 :: es) pos) (rdE TL E9 X.K (WE G R (.fs cs))) := by
  refine ⟨fun pins s σ H Q I hw => ?_⟩
  obtain ⟨r, S, Q0, rl, hw, hq⟩ := hw
  refine wpAny_JoinedStr (pj_run h Str.empty s H (fun out H1 => ∃ S1 : XS, Q0 (.str out) (prj S1) ∧ Step S H S1 H1 ∧ HRep TL X.K S1 H1) _ (Nat.zero_le _) I (fs_rd cs _ σ H _ ⟨r, S, _, rl, hw, fun z S' H' h0 s2 h2 => ⟨S', h0, s2, h2⟩⟩) fun out s1 H1 hz I1 q1 => ?_)
  obtain ⟨S1, h0, s2, h2⟩ := q1
  exact ⟨hz, .str out, H1, I1.tok _, ⟨_, rfl⟩, hq _ S1 _ H1 h0 s2 h2 (.str hz)⟩
omit g in
theorem se_fs1 {e1 : Expr} {c : CE} {pos : Pos} (h : PE X e1 (rdE TL E9 X.K (WE G R c))) : PE X (.JoinedStr [e1] pos) (rdE TL E9 X.K (WE G R (.fs (.cons c .nil)))) := by
  refine ⟨fun pins s σ H Q I hw => (pe_joined1 h).run pins s σ H Q I ?_⟩
  obtain ⟨r, S, Q0, rl, hw, hq⟩ := hw
  refine ⟨r, S, _, rl, hw, fun x S1 v H1 hx st1 hp1 rx => ?_⟩
  cases x with
  | str z =>
    have e0 : Str.empty ++ z = z := by
      cases z
      show Str.mk (#[] ++ _) = _
      simp
    have h2 := hx.2
    simp only [WFs, e0] at h2
    exact hq _ S1 _ H1 h2 st1 hp1 rx
  | _ => exact hx.elim
end
end FL

namespace FL
open PySem PySem.Spec PyProof.Rows L2
theorem wipe_at {σ : L2.St} {k : Nat} : ∀ {vs : List Nat}, k ∈ vs → (wipe σ vs)[k]? = if k < σ.length then some none else none
  | [], h => by cases h
  | j :: vs, h => by
    unfold wipe
    by_cases hj : j = k
    · subst hj
      rw [List.getElem?_set]
      simp [wipe_length]
    · rw [List.getElem?_set_ne hj]
      rcases List.mem_cons.mp h with z | z
      · exact absurd z.symm hj
      · exact wipe_at z
/-! ### what is walked -/
structure Itm (TL : List (Addr × Str)) (K : PySem.W.Frag) (S : XS) (H : Hp) (J : It) (ds : List D) : Prop where
  go : ∀ S2 H2 i, Step S H S2 H2 → i < ds.length → J.go i H2
  yl : ∀ S2 H2 i x H3 d, Step S H S2 H2 → HRep TL K S2 H2 → ds[i]? = some d → J.yld i H2 x H3 → Same H2 H3 ∧ Rep K S2 H3 x d
  stop : ∀ S2 H2, Step S H S2 H2 → J.stop ds.length H2
  len : ds.length ≤ sizeLine
def rdI (TL : List (Addr × Str)) (E9 : XS × Hp) (K : PySem.W.Frag) (w : En → Sto → (List D → Sto → Prop) → Prop) : TI := fun σ H R => ∃ (r : En) (S : XS) (Q0 : List D → Sto → Prop), Rl TL E9 K S H σ r ∧ w r (prj S) Q0 ∧
  ∀ ds S' H' J, Q0 ds (prj S') → Step S H S' H' → HRep TL K S' H' → Itm TL K S' H' J ds → R J H'
theorem Itm.list {K : PySem.W.Frag} {S : XS} {H : Hp} {a : Addr} {vs : List V} {ds : List D} (h : SqF K S H a vs) (hz : vs.length ≤ sizeLine) (r : Reps K S H vs ds) : Itm TL K S H (Itl K a) ds where
  go := fun S2 H2 i st hi => ⟨vs, vs[i]'(by rw [r.len]; exact hi), (h.stp st).sq, by simp [r.len, hi]⟩
  yl := fun S2 H2 i x H3 d st hp hd hy => by
    obtain ⟨rfl, hx⟩ := hy
    obtain ⟨v, e, q⟩ := r.get hd
    have := hx vs (h.stp st).sq
    rw [e] at this
    cases this
    exact ⟨.refl _, q.stp st⟩
  stop := fun S2 H2 st => ⟨vs, (h.stp st).sq, by rw [r.len]; exact Nat.le_refl _⟩
  len := by rw [← r.len]; exact hz
theorem Itm.tup {K : PySem.W.Frag} {S : XS} {H : Hp} {a : Addr} {vs : List V} {ds : List D} (h : SqT K H a vs) (hz : vs.length ≤ sizeLine) (r : Reps K S H vs ds) : Itm TL K S H (Itt K a) ds where
  go := fun S2 H2 i st hi => ⟨vs, vs[i]'(by rw [r.len]; exact hi), SqT.stp st h, by simp [r.len, hi]⟩
  yl := fun S2 H2 i x H3 d st hp hd hy => by
    obtain ⟨rfl, hx⟩ := hy
    obtain ⟨v, e, q⟩ := r.get hd
    have := hx vs (SqT.stp st h)
    rw [e] at this
    cases this
    exact ⟨.refl _, q.stp st⟩
  stop := fun S2 H2 st => ⟨vs, SqT.stp st h, by rw [r.len]; exact Nat.le_refl _⟩
  len := by rw [← r.len]; exact hz
theorem Itm.str {K : PySem.W.Frag} {S : XS} {H : Hp} {z : Str} (hz : z.length ≤ sizeLine) : Itm TL K S H (Its z) (sgnD z) where
  go := fun S2 H2 i st hi => by
    have : i < z.cps.size := by simpa [sgnD] using hi
    exact this
  yl := fun S2 H2 i x H3 d st hp hd hy => by
    obtain ⟨rfl, c, hc, rfl⟩ := hy
    refine ⟨.refl _, ?_⟩
    unfold sgnD at hd
    rw [List.getElem?_map] at hd
    have e : z.cps.toList[i]? = some c := by simpa using hc
    rw [e] at hd
    cases hd
    exact .str (by show (1 : Nat) ≤ sizeLine; decide)
  stop := fun S2 H2 st => by
    show z.cps.size ≤ _
    simp [sgnD]
  len := by
    have : z.cps.size ≤ sizeLine := hz
    simpa [sgnD] using this
theorem Itm.rng {K : PySem.W.Frag} {S : XS} {H : Hp} {lo hi : Int} (hz : hi - lo ≤ sizeLine) : Itm TL K S H (Itr lo (hi - lo).toNat) (rngD lo hi) where
  go := fun S2 H2 i st h => by
    have : i < (hi - lo).toNat := by simpa [rngD] using h
    exact this
  yl := fun S2 H2 i x H3 d st hp hd hy => by
    obtain ⟨rfl, rfl⟩ := hy
    refine ⟨.refl _, ?_⟩
    unfold rngD at hd
    rw [List.getElem?_map] at hd
    cases e : (List.range (hi - lo).toNat)[i]? with
    | none => rw [e] at hd; cases hd
    | some j =>
      rw [e] at hd
      cases hd
      have h1 := (List.getElem?_eq_some_iff.mp e).1
      have h2 : (List.range (hi - lo).toNat)[i]'h1 = j := (List.getElem?_eq_some_iff.mp e).2
      rw [List.getElem_range] at h2
      subst h2
      exact .int _
  stop := fun S2 H2 st => by
    show (hi - lo).toNat ≤ _
    simp [rngD]
  len := by
    simp only [rngD, List.length_map, List.length_range]
    omega
section
variable {X : Cx} {G : Ctx} {st : Sta} {R : XP} {k : Nat} (g : Gd TL E9 G st R k X) {tg : Expr}
/-- for over a value of one of the three kinds -/
theorem pi_any {e : Expr} {te : TE} (he : PE X e te) : PI X tg e (fun σ H R => te σ H fun x H1 => (∃ a, x = .ref a ∧ (∃ xs, SqL X.K H1 a xs) ∧ R (Itl X.K a) H1) ∨ (∃ a, x = .ref a ∧ (∃ xs, SqT X.K H1 a xs) ∧ R (Itt X.K a) H1) ∨ ∃ z, x = .str z ∧ R (Its z) H1) := by
  refine ⟨fun pins s σ H R I h => ?_⟩
  refine thn (he.run pins s σ H _ I h) fun v s1 ⟨x, H1, I1, r1, q1⟩ => ?_
  rcases q1 with ⟨a, e1, ⟨xs, hq⟩, q⟩ | ⟨a, e1, ⟨xs, hq⟩, q⟩ | ⟨z, e1, q⟩
  · subst e1
    cases r1
    obtain ⟨its, rv, p, hz⟩ := I1.list hq
    refine wpAny_pyIter_list p.isList ⟨s1.heap.objs.size, [s1.heap.objs.size], _, _, H1, rfl, I1.kept (t' := s1.toks) fun b o e => Heap.get?_push_of_some _ e, turn_list a _, ⟨_, Heap.get?_push_size _ rfl, rfl, rfl⟩, fun b hb => ?_, q⟩
    obtain rfl : b = s1.heap.objs.size := by simpa using hb
    exact I1.fpOk (Nat.le_refl _) (I1.hok.fresh (Nat.le_refl _))
  · subst e1
    cases r1
    obtain ⟨its, rv, p, hz⟩ := I1.tuple hq
    refine wpAny_pyIter_tuple (show s1.heap.IsTuple a its.toArray from p) ⟨s1.heap.objs.size, [s1.heap.objs.size], _, _, H1, rfl, I1.kept (t' := s1.toks) fun b o e => Heap.get?_push_of_some _ e, turn_tuple a _, ⟨_, Heap.get?_push_size _ rfl, rfl, rfl⟩, fun b hb => ?_, q⟩
    obtain rfl : b = s1.heap.objs.size := by simpa using hb
    exact I1.fpOk (Nat.le_refl _) (I1.hok.fresh (Nat.le_refl _))
  · subst e1
    obtain ⟨t, rfl⟩ := r1
    cases ha : z.cps.all (· < 128) with
    | false => exact wpAny_pyIter_wide ha (pi_one (tk := s1.toks) I1 _ (turn_str _ z t "str_iterator" (.inr rfl)) ⟨_, Heap.get?_push_size _ rfl, rfl, rfl⟩ q)
    | true => exact wpAny_pyIter_ascii ha (pi_one (tk := s1.toks) I1 _ (turn_str _ z t "str_ascii_iterator" (.inl rfl)) ⟨_, Heap.get?_push_size _ rfl, rfl, rfl⟩ q)

theorem si_val {e : Expr} {c : CE} (he : PE X e (rdE TL E9 X.K (WE G R c))) : PI X tg e (rdI TL E9 X.K (WI G R (.val c))) := by
  refine ⟨fun pins s σ H R' I h => (pi_any he).run pins s σ H R' I ?_⟩
  obtain ⟨r, S, Q0, rl, hw, hq⟩ := h
  refine ⟨r, S, _, rl, hw, fun x S1 v H1 hx st1 hp1 rx => ?_⟩
  cases x with
  | lst ds =>
    cases rx with
    | lst a n z r0 => exact .inl ⟨_, rfl, ⟨_, .of a⟩, hq ds S1 H1 _ hx st1 hp1 (.list (.inl ⟨a, n⟩) z r0)⟩
  | tup ds =>
    cases rx with
    | tup a z r0 => exact .inr (.inl ⟨_, rfl, ⟨_, a⟩, hq ds S1 H1 _ hx st1 hp1 (.tup a z r0)⟩)
  | str z =>
    cases rx with
    | str hz => exact .inr (.inr ⟨z, rfl, hq _ S1 H1 _ hx st1 hp1 (.str hz)⟩)
  | _ => exact hx.elim
include g
theorem si_rng1 {e : Expr} {c : CE} {p pos : Pos} (hv : st.sc.names.lookup ("range" : Str) = some .globalImplicit) (he : PE X e (rdE TL E9 X.K (WE G R c))) (hn : isStar e = false) : PI X tg (.Call (.Name "range" p) [e] [] pos) (rdI TL E9 X.K (WI G R (.rng1 c))) := by
  have hgl : Gl X "range" := by
    show X.env.scope.names.lookup _ = _
    rw [g.sc]; exact hv
  refine ⟨fun pins s σ H R' I h => (pi_range1 hgl (g.blt _ (by decide +kernel)) (pa_cons he pa_nil (starEach_cons hn)) (starEach_cons hn)).run pins s σ H R' I ?_⟩
  obtain ⟨r, S, Q0, rl, hw, hq⟩ := h
  refine ⟨r, S, _, rl, hw, fun x S1 v H1 hx st1 hp1 rx => ?_⟩
  cases x with
  | int i =>
    cases rx
    refine ⟨i, rfl, hx.1.1, hx.1.2, ?_⟩
    have := Itm.rng (TL := TL) (K := X.K) (S := S1) (H := H1) (lo := 0) (hi := i) (by have := hx.2.1; omega)
    rw [Int.sub_zero] at this
    exact hq _ S1 H1 _ hx.2.2 st1 hp1 this
  | _ => exact hx.elim
theorem si_rng2 {e e2 : Expr} {c c2 : CE} {p pos : Pos} (hv : st.sc.names.lookup ("range" : Str) = some .globalImplicit) (he : PE X e (rdE TL E9 X.K (WE G R c))) (he2 : PE X e2 (rdE TL E9 X.K (WE G R c2))) (hn : isStar e = false) (hn2 : isStar e2 = false) : PI X tg (.Call (.Name "range" p) [e, e2] [] pos) (rdI TL E9 X.K (WI G R (.rng2 c c2))) := by
  have hgl : Gl X "range" := by
    show X.env.scope.names.lookup _ = _
    rw [g.sc]; exact hv
  refine ⟨fun pins s σ H R' I h => (pi_range2 hgl (g.blt _ (by decide +kernel)) (pa_cons he (pa_cons he2 pa_nil (starEach_cons hn2)) (starEach_cons hn)) (by rw [starEach_cons hn, starEach_cons hn2]; rfl) (starEach_cons hn2)).run pins s σ H R' I ?_⟩
  obtain ⟨r, S, Q0, rl, hw, hq⟩ := h
  refine ⟨r, S, _, rl, hw, fun x S1 v H1 hx st1 hp1 rx => ⟨r, S1, _, rl.stp st1 hp1, hx, fun y S2 u H2 hy st2 hp2 ry => ?_⟩⟩
  cases x with
  | int i =>
    cases y with
    | int j =>
      cases rx
      cases ry
      exact ⟨i, j, rfl, ⟨hy.1.1, hy.1.2, hy.2.1.1, hy.2.1.2⟩, hq _ S2 H2 _ hy.2.2.2 (st1.trans st2) hp2 (.rng hy.2.2.1)⟩
    | _ => exact hy.elim
  | _ => exact hy.elim
/-! ### targets -/
omit g in
theorem wipe_set {σ : L2.St} {i : Nat} {v : V} : ∀ {vs : List Nat}, i ∈ vs → wipe (σ.set i (some v)) vs = wipe σ vs
  | [], h => by cases h
  | j :: vs, h => by
    unfold wipe
    by_cases hm : i ∈ vs
    · rw [wipe_set hm]
    · obtain rfl : i = j := by
        rcases List.mem_cons.mp h with z | z
        · exact z
        · exact absurd z hm
      refine List.ext_getElem? fun k => ?_
      by_cases hk : i = k
      · subst hk
        rw [List.getElem?_set, List.getElem?_set]
        simp [wipe_length]
      · rw [List.getElem?_set_ne hk, List.getElem?_set_ne hk]
        by_cases hv : k ∈ vs
        · have h1 : ∀ τ : L2.St, (wipe τ vs)[k]? = if k < τ.length then some none else none := fun τ => wipe_at hv
          rw [h1, h1, List.length_set]
        · rw [wipe_out hv, wipe_out hv, List.getElem?_set_ne hk]
omit g in
theorem off_set {σ : L2.St} {i : Nat} {v : V} : Off [i] σ (σ.set i (some v)) := fun vs h => wipe_set (h i (by simp))
omit g in
theorem fold_ok {iter : Expr} (h : (match iter with | .Set .. => false | _ => true) = true) (env : Env) : ∀ x, foldedSetIterable iter env x = pure x := by
  intro x
  cases iter <;> first | rfl | (simp at h; done)
theorem sg_name {i : Nat} {x : Str} {pos : Pos} (hN : st.N[i]? = some x) (hx : st.sc.names.lookup x = some .local ∨ (st.sc.names.lookup x = some .cell ∧ st.fnB x = true)) : PG X (.Name x pos) (rdG TL E9 X.K (.nm i)) := by
  refine ⟨fun pins s σ H v u Q I rv h => ?_⟩
  obtain ⟨r, S, d, Q0, rl, rp, hb, hq⟩ := h
  have hl : Loc X.env.scope x := by
    rw [g.sc]
    exact hx.imp id And.left
  have hf : X.fn x = true ∨ X.env.scope.names.lookup x = some .local := by
    rw [g.sc]
    rcases hx with z | z
    · exact .inr z
    · exact .inl (g.fn x z.2)
  exact (pg_name (i := i) (by rw [g.N]; exact g.nd) (by rw [g.N]; exact hN) hl hf).run pins s σ H v u Q I rv (hq _ _ hb (rl.set rp) off_set)
end
end FL

namespace FL
open PySem PySem.Spec PyProof.Rows L2
mutual
theorem bindT_ex : ∀ (t : CT) {d : D} {r : En} {Q : En → Prop}, bindT t d r Q → ∃ r1, Q r1
  | .nm i, d, r, Q, h => ⟨_, h⟩
  | .tp ts, d, r, Q, h => by
    cases d with
    | tup ds => exact bindTs_ex ts h
    | _ => exact h.elim
theorem bindTs_ex : ∀ (ts : CTs) {ds : List D} {r : En} {Q : En → Prop}, bindTs ts ds r Q → ∃ r1, Q r1
  | .nil, ds, r, Q, h => by
    cases ds with
    | nil => exact ⟨_, h⟩
    | cons => exact h.elim
  | .cons t ts, ds, r, Q, h => by
    cases ds with
    | nil => exact h.elim
    | cons d ds =>
      obtain ⟨r1, h1⟩ := bindT_ex t h
      exact bindTs_ex ts h1
end
def CTs.len : CTs → Nat
  | .nil => 0
  | .cons _ ts => ts.len + 1
theorem bindTs_len : ∀ (ts : CTs) {ds : List D} {r : En} {Q : En → Prop}, bindTs ts ds r Q → ds.length = ts.len
  | .nil, ds, r, Q, h => by
    cases ds with
    | nil => rfl
    | cons => exact h.elim
  | .cons t ts, ds, r, Q, h => by
    cases ds with
    | nil => exact h.elim
    | cons d ds =>
      obtain ⟨r1, h1⟩ := bindT_ex t h
      rw [List.length_cons, bindTs_len ts h1]
      rfl
theorem assignEach_cons {e : Expr} {es : List Expr} {env : Env} (h : isStar e = false) : assignEach (e :: es) env = (false, assign e env) :: assignEach es env := by
  cases e <;> first
    | rfl
    | (simp [isStar] at h)
theorem assignEach_len {env : Env} : ∀ {es : List Expr}, nst es = true → (assignEach es env).length = es.length ∧ (assignEach es env).findIdx? (·.1) = none
  | [], _ => ⟨rfl, rfl⟩
  | e :: es, h => by
    simp only [nst, List.all_cons, Bool.and_eq_true, Bool.not_eq_true'] at h
    obtain ⟨h1, h2⟩ := assignEach_len (env := env) (es := es) h.2
    rw [assignEach_cons h.1, List.length_cons, List.length_cons, h1, List.findIdx?_cons]
    exact ⟨rfl, by simp [h2]⟩
theorem wipeE_length (r : En) : ∀ vs : List Nat, (wipeE r vs).length = r.length
  | [] => rfl
  | v :: vs => by unfold wipeE; rw [List.length_set, wipeE_length r vs]
theorem Rl.wipe {K : PySem.W.Frag} {S : XS} {H : Hp} {σ : L2.St} {r : En} (x : Rl TL E9 K S H σ r) : ∀ vs : List Nat, Rl TL E9 K S H (L2.wipe σ vs) (wipeE r vs)
  | [] => x
  | v :: vs => by
    have ih := x.wipe vs
    refine ⟨by rw [wipe_length, wipeE_length]; exact x.len, fun i d e => ?_, x.hp, x.fr⟩
    unfold wipeE at e
    unfold L2.wipe
    by_cases hi : v = i
    · subst hi
      rw [List.getElem?_set] at e
      simp only [if_true] at e
      split at e <;> cases e
    · rw [List.getElem?_set_ne hi] at e ⊢
      exact ih.env i d e
theorem wipe_twice (σ : L2.St) (vs : List Nat) : L2.wipe (L2.wipe σ vs) vs = L2.wipe σ vs := by
  refine List.ext_getElem? fun k => ?_
  by_cases hk : k ∈ vs
  · rw [wipe_at hk, wipe_at hk, wipe_length]
  · rw [wipe_out hk]
section
variable {X : Cx} {G : Ctx} {st : Sta} {R : XP} {k : Nat} (g : Gd TL E9 G st R k X)
theorem sgs_nil : PGs X [] (rdGs TL E9 X.K .nil) := by
  refine ⟨fun pins s σ H vs us Q I rv h => pgs_nil.run pins s σ H vs us Q I rv ?_⟩
  obtain ⟨r, S, ds, Q0, rl, rp, hb, hq⟩ := h
  cases rp with
  | nil => exact ⟨rfl, hq r σ hb rl fun _ _ => rfl⟩
  | cons => exact hb.elim
theorem sgs_cons {e : Expr} {es : List Expr} {t : CT} {ts : CTs} (h1 : PG X e (rdG TL E9 X.K t)) (h2 : PGs X es (rdGs TL E9 X.K ts)) (hn : isStar e = false) : PGs X (e :: es) (rdGs TL E9 X.K (.cons t ts)) := by
  refine ⟨fun pins s σ H vs us Q I rv h => (pgs_cons h1 h2 (by rw [assignEach_cons hn]; rfl)).run pins s σ H vs us Q I rv ?_⟩
  obtain ⟨r, S, ds, Q0, rl, rp, hb, hq⟩ := h
  cases rp with
  | nil => exact hb.elim
  | cons a rp =>
    refine ⟨_, _, rfl, r, S, _, _, rl, a, hb, fun r1 σ1 h1 rl1 o1 => ⟨r1, S, _, Q0, rl1, rp, h1, fun r2 σ2 h2 rl2 o2 => hq r2 σ2 h2 rl2 fun vs hv => ?_⟩⟩
    rw [o2 vs fun i hi => hv i (List.mem_append_right _ hi), o1 vs fun i hi => hv i (List.mem_append_left _ hi)]
include g
theorem sg_tup {es : List Expr} {ts : CTs} {j : Nat} {pos : Pos} (h : PGs X es (rdGs TL E9 X.K ts)) (hn : nst es = true) (hl : ts.len = es.length) : PG X (.Tuple es j pos) (rdG TL E9 X.K (.tp ts)) := by
  refine ⟨fun pins s σ H v u Q I rv hw => (pg_tup (n := es.length) g.calm h (assignEach_len hn).1 (assignEach_len hn).2).run pins s σ H v u Q I rv ?_⟩
  obtain ⟨r, S, d, Q0, rl, rp, hb, hq⟩ := hw
  cases d with
  | tup ds =>
    cases rp with
    | tup q z r0 => exact ⟨_, _, rfl, q, by rw [r0.len, bindTs_len ts hb, hl], r, S, ds, Q0, rl, r0, hb, hq⟩
  | _ => exact hb.elim
/-! ### comprehensions -/
omit g in
theorem drop_some {α : Type} {l : List α} {i : Nat} {d : α} (h : l[i]? = some d) : l.drop i = d :: l.drop (i + 1) := by
  obtain ⟨h1, h2⟩ := List.getElem?_eq_some_iff.mp h
  rw [← h2]
  exact List.drop_eq_getElem_cons h1
omit g in
theorem comp_rd {σ : L2.St} {H : Hp} {Q : VK} {own : List (Str × Nat)} {c : CE} {t : CT} {it : CI} {cs : CEs} (ho : ∀ i ∈ t.slots, i ∈ own.map (·.2)) (h : rdF TL E9 X.K (WE G R (.comp (own.map (·.2)) c t it cs)) σ H Q) :
    tLc (rdI TL E9 X.K (WI G R it)) (rdG TL E9 X.K t) (rdT TL E9 X.K (WTs G noX cs)) (rdE TL E9 X.K (WE G noX c)) (own.map (·.2)) σ H Q := by
  obtain ⟨r, S, Q0, rl, hw, hq⟩ := h
  refine ⟨r, S, _, rl, hw, fun ds S1 H1 J hx st1 hp1 itm => ?_⟩
  intro p np
  have n0 := fresh_back st1 rl.hp np
  have nS1 : S1 p = none := hp1.fresh np
  -- between two turns
  refine ⟨fun i m Hh => i + m = ds.length ∧ ∃ (S2 : XS) (acc : List D) (vs : List V), Step S1 H1 S2 Hh ∧ S2 p = some none ∧ Hh p = some (.lst vs) ∧ HRep TL X.K S2 Hh ∧ vs.length ≤ i ∧ Reps X.K S2 Hh vs acc ∧
    compLoop (fun r1 S2 k => WE G noX c r1 S2 k) (fun r1 S2 k => WTs G noX cs r1 S2 k) t (wipeE r (own.map (·.2))) (fun acc S2 => Q0 (.lst acc) S2) (ds.drop i) acc (prj S2),
    ⟨ds.length, by omega, S1.aside p, [], [], aside_step hp1 np, by unfold XS.aside; rw [if_pos rfl], upd_same, aside_hrep hp1 np, Nat.le_refl _, .nil, by rw [prj_aside nS1]; exact hx⟩, ?_⟩
  rintro i m Hh ⟨hm, S2, acc, vs, st2, a2, v2, hp2, hl2, rp2, hc⟩
  by_cases hi : i < ds.length
  · obtain ⟨d, hd⟩ : ∃ d, ds[i]? = some d := ⟨ds[i], by simp [hi]⟩
    rw [drop_some hd] at hc
    refine .inr ⟨itm.go S2 Hh i st2 hi, fun H' => i + 1 + (m - 1) = ds.length ∧ ∃ (S2 : XS) (acc : List D) (vs : List V), Step S1 H1 S2 H' ∧ S2 p = some none ∧ H' p = some (.lst vs) ∧ HRep TL X.K S2 H' ∧ vs.length ≤ i + 1 ∧ Reps X.K S2 H' vs acc ∧
      compLoop (fun r1 S2 k => WE G noX c r1 S2 k) (fun r1 S2 k => WTs G noX cs r1 S2 k) t (wipeE r (own.map (·.2))) (fun acc S2 => Q0 (.lst acc) S2) (ds.drop (i + 1)) acc (prj S2),
      fun H' hN => ⟨m - 1, by omega, hN⟩, fun x H' hy => ?_⟩
    obtain ⟨sm, rx⟩ := itm.yl S2 Hh i x H' d st2 hp2 hd hy
    have st3 := st2.trans (hp2.sstep sm)
    have rl3 : Rl TL E9 X.K S2 H' (wipe σ (own.map (·.2))) (wipeE r (own.map (·.2))) := (rl.stp (st1.trans st3) (hp2.same sm)).wipe _
    refine ⟨_, S2, d, _, rl3, rx, hc, fun r4 σ4 h4 rl4 o4 => ⟨?_, r4, S2, _, rl4, h4, fun b S5 H5 hb st5 hp5 => ?_⟩⟩
    · rw [o4 _ ho]
      exact wipe_twice _ _
    · have a5 := (st5.asd p a2)
      have v5 : H5 p = some (.lst vs) := (a5.2 (by rw [sm p _ v2]; intro _ z; cases z)).trans (sm p _ v2)
      cases b with
      | true =>
        rw [if_pos rfl] at hb
        refine iteT ⟨r4, S5, _, rl4.stp st5 hp5, hb, fun y S6 u H6 hy6 st6 hp6 ry => ?_⟩
        have a6 := st6.asd p a5.1
        have v6 : H6 p = some (.lst vs) := (a6.2 (by rw [v5]; intro _ z; cases z)).trans v5
        refine ⟨vs, v6, ?_, by omega, S6, acc ++ [y], vs ++ [u], off_step nS1 np ((st3.trans st5).trans st6), a6.1, upd_same, off_hrep a6.1 (by rw [v6]; exact .lst) hp6, by simp; omega, ?_, hy6⟩
        · have := itm.len
          omega
        · have e1 : Reps X.K S6 H6 vs acc := ((rp2.stp (hp2.sstep sm)).stp st5).stp st6
          exact Reps.off a6.1 (by rw [v6]; exact .lst) (e1.app (.cons ry .nil))
      | false =>
        rw [if_neg Bool.false_ne_true] at hb
        exact iteF ⟨by omega, S5, acc, vs, st3.trans st5, a5.1, v5, hp5, by omega, (rp2.stp (hp2.sstep sm)).stp st5, hb⟩
  · have e : i = ds.length := by omega
    subst e
    rw [List.drop_length] at hc
    have hz : vs.length ≤ sizeLine := Nat.le_trans hl2 itm.len
    exact .inl ⟨itm.stop S2 Hh st2, hq acc S2 vs Hh p hc (st1.trans st2) hp2 n0.2 n0.1 a2 v2 hz rp2⟩
theorem sf_comp {elt tg iter : Expr} {ifs : List Expr} {scope : Scope} {own : List (Str × Nat)} {pos : Pos} {c : CE} {t : CT} {it : CI} {cs : CEs} (hi : PI X tg iter (rdI TL E9 X.K (WI G R it))) (ok : BlkOk st.N st.sc scope own)
    (hg : ∀ (s : Shared) (H : Hp) (C : Addr) (cl : List (Str × Addr)) (fp : List Addr), PG (X.blk s H scope (compEnvC scope cl C X.env) fp) tg (rdG TL E9 X.K t))
    (ht : ∀ (s : Shared) (H : Hp) (C : Addr) (cl : List (Str × Addr)) (fp : List Addr), PTs (X.blk s H scope (compEnvC scope cl C X.env) fp) ifs (rdT TL E9 X.K (WTs G noX cs)))
    (he : ∀ (s : Shared) (H : Hp) (C : Addr) (cl : List (Str × Addr)) (fp : List Addr), PE (X.blk s H scope (compEnvC scope cl C X.env) fp) elt (rdE TL E9 X.K (WE G noX c)))
    (hs : ∀ x, foldedSetIterable iter X.env x = pure x) (ho : ∀ i ∈ t.slots, i ∈ own.map (·.2)) : PE X (.ListComp elt [⟨tg, iter, ifs, 0⟩] scope pos) (rdF TL E9 X.K (WE G R (.comp (own.map (·.2)) c t it cs))) := by
  refine ⟨fun pins s σ H Q I h => (pe_lc g.calm (by rw [g.N]; exact g.nd) hi (by rw [g.N, g.sc]; exact ok) hg ht he hs).run pins s σ H Q I ?_⟩
  exact comp_rd ho h
end
end FL

namespace FL
open PySem PySem.Spec PyProof.Rows L2
theorem mergeK_nd : ∀ (kvs acc : List (Key × V)), ((acc ++ kvs).map (·.1)).Nodup → mergeK acc kvs = acc ++ kvs
  | [], acc, _ => by simp [mergeK]
  | kv :: r, acc, h => by
    have e1 : L2.putK acc kv.1 kv.2 = acc ++ [kv] := by
      unfold L2.putK
      rw [if_neg]
      intro z
      simp only [List.any_eq_true, decide_eq_true_eq] at z
      obtain ⟨x, hx, ex⟩ := z
      rw [List.map_append, List.nodup_append] at h
      exact h.2.2 x.1 (List.mem_map.mpr ⟨x, hx, rfl⟩) kv.1 (by simp) ex
    unfold mergeK
    rw [List.foldl_cons, e1]
    have := mergeK_nd r (acc ++ [kv]) (by simpa using h)
    unfold mergeK at this
    rw [this]
    simp
theorem List.Nodup.map_inr {l : List Str} (h : l.Nodup) : (l.map (Sum.inr : Str → Key)).Nodup := by
  induction l with
  | nil => exact .nil
  | cons x r ih =>
    obtain ⟨h1, h2⟩ := List.nodup_cons.mp h
    refine List.nodup_cons.mpr ⟨fun z => ?_, ih h2⟩
    obtain ⟨y, hy, e⟩ := List.mem_map.mp z
    cases e
    exact h1 hy
theorem zip_keys : ∀ (ks : List Str) (vs : List V), (ks.map V.str).zip vs = ((ks.map (Sum.inr : Str → Key)).zip vs).map fun kv => (kV kv.1, kv.2)
  | [], _ => rfl
  | _ :: _, [] => rfl
  | k :: ks, v :: vs => by
    simp only [List.map_cons, List.zip_cons_cons, zip_keys ks vs]
    rfl
def CEs.flat : CEs → Option Nat
  | .nil => some 0
  | .cons _ r => r.flat.map (· + 1)
  | .star _ _ => none
/-- what a dict's display reads -/
def dctTs (TL : List (Addr × Str)) (E9 : XS × Hp) (K : PySem.W.Frag) (G : Ctx) (R : XP) : List Str → CEs → List (TE × TE)
  | k :: ks, .cons c cs => (tC (.str k), rdE TL E9 K (WE G R c)) :: dctTs TL E9 K G R ks cs
  | _, _ => []
theorem KReps.has {K : PySem.W.Frag} {S : XS} {H : Hp} {ws : List (Key × V)} {kvs : List (Key × D)} (h : KReps K S H ws kvs) (kk : Key) : (ws.any fun kv => decide (kv.1 = kk)) = (kvs.any fun kv => decide (kv.1 = kk)) := by
  have e1 : (ws.any fun kv => decide (kv.1 = kk)) = (ws.map (·.1)).any (fun j => decide (j = kk)) := by rw [List.any_map]; rfl
  have e2 : (kvs.any fun kv => decide (kv.1 = kk)) = (kvs.map (·.1)).any (fun j => decide (j = kk)) := by rw [List.any_map]; rfl
  rw [e1, e2, h.1]
theorem KReps.putMap {K : PySem.W.Frag} {S : XS} {H : Hp} {kk : Key} {v : V} {d : D} (q : Rep K S H v d) : ∀ {ws : List (Key × V)} {kvs : List (Key × D)}, KReps K S H ws kvs →
    KReps K S H (ws.map fun kv => if kv.1 = kk then (kv.1, v) else kv) (kvs.map fun p => if p.1 = kk then (p.1, d) else p)
  | [], [], h => h
  | [], _ :: _, h => by simp [KReps] at h
  | _ :: _, [], h => by simp [KReps] at h
  | w :: ws, p :: kvs, ⟨he, hr⟩ => by
    simp only [List.map_cons, List.cons.injEq] at he
    cases hr with
    | cons a r =>
      obtain ⟨i1, i2⟩ := KReps.putMap q (ws := ws) (kvs := kvs) ⟨he.2, r⟩
      simp only [List.map_cons]
      by_cases hk : p.1 = kk
      · rw [if_pos hk, if_pos (he.1.trans hk)]
        exact ⟨by simp only [List.map_cons, he.1, i1], .cons q i2⟩
      · rw [if_neg hk, if_neg (fun z => hk (he.1.symm.trans z))]
        exact ⟨by simp only [List.map_cons, he.1, i1], .cons a i2⟩
theorem KReps.put {K : PySem.W.Frag} {S : XS} {H : Hp} {kk : Key} {v : V} {d : D} {ws : List (Key × V)} {kvs : List (Key × D)} (h : KReps K S H ws kvs) (q : Rep K S H v d) : KReps K S H (L2.putK ws kk v) (putK kvs kk d) := by
  unfold L2.putK putK
  rw [h.has kk]
  split
  · exact KReps.putMap q h
  · exact ⟨by simp only [List.map_append, h.1, List.map_cons, List.map_nil], by
      rw [List.map_append, List.map_append]
      exact h.2.app (.cons q .nil)⟩
section
variable {X : Cx} {G : Ctx} {st : Sta} {R : XP} {k : Nat} (g : Gd TL E9 G st R k X)
theorem dct_rd : ∀ (ks : List Str) (cs : CEs) (σ : L2.St) (H : Hp) (Q : List (V × V) → Hp → Prop), cs.flat = some ks.length → (∃ (r : En) (S : XS) (Q0 : List D → Sto → Prop), Rl TL E9 X.K S H σ r ∧ WEs G R cs r (prj S) Q0 ∧
    ∀ ds S' vs H', Q0 ds (prj S') → Step S H S' H' → HRep TL X.K S' H' → Reps X.K S' H' vs ds → vs.length = ks.length → Q ((ks.map V.str).zip vs) H') → tPairs (dctTs TL E9 X.K G R ks cs) σ H Q
  | [], .nil, σ, H, Q, _, ⟨r, S, Q0, rl, hw, hq⟩ => hq [] S [] H hw (.refl _ _) rl.hp .nil rfl
  | k :: ks, .nil, σ, H, Q, hf, _ => by cases hf
  | [], .cons c cs, σ, H, Q, hf, _ => by
    simp only [CEs.flat, Option.map_eq_some_iff] at hf
    obtain ⟨n, _, h⟩ := hf
    cases h
  | k :: ks, .cons c cs, σ, H, Q, hf, ⟨r, S, Q0, rl, hw, hq⟩ => by
    simp only [CEs.flat, Option.map_eq_some_iff] at hf
    obtain ⟨n, hf, h⟩ := hf
    cases h
    refine ⟨r, S, _, rl, hw, fun x S1 v H1 hx st1 hp1 rx => ?_⟩
    refine dct_rd ks cs σ H1 _ hf ⟨r, S1, _, rl.stp st1 hp1, hx, fun ds S2 vs H2 h0 st2 hp2 rp hl => ?_⟩
    exact hq _ S2 (v :: vs) H2 h0 (st1.trans st2) hp2 (.cons (rx.stp st2) rp) (by simp [hl])
  | _, .star _ _, σ, H, Q, hf, _ => by cases hf
include g
theorem se_dct {keys : List (Option Expr)} {vals : List Expr} {ks : List Str} {cs : CEs} {pos : Pos} (h : PPs X pos keys vals (dctTs TL E9 X.K G R ks cs)) (hall : keys.all (·.isSome) = true) (hl : keys.length = vals.length) (h0 : keys ≠ []) (h15 : keys.length ≤ 15)
    (hk : ks.length = keys.length) (hf : cs.flat = some ks.length) (nd : ks.Nodup) : PE X (.Dict keys vals pos) (rdE TL E9 X.K (WE G R (.dct ks cs))) := by
  refine ⟨fun pins s σ H Q I hw => (pe_disp h hall hl h0 h15).run pins s σ H Q I ?_⟩
  obtain ⟨r, S, Q0, rl, hw, hq⟩ := hw
  intro p np
  have hp := rl.hp
  have ns := hp.fresh np
  have st0 := aside_step (u := .dK []) hp np
  refine dct_rd ks cs σ _ _ hf ⟨r, S.aside p, _, rl.stp st0 (aside_hrep hp np), by rw [prj_aside ns]; exact hw, fun ds S1 vs H1 h1 st1 hp1 rp hlen => ?_⟩
  have a1 := st1.asd p (by unfold XS.aside; rw [if_pos rfl])
  have v1 : H1 p = some (.dK []) := (a1.2 (by rw [upd_same]; intro _ z; cases z)).trans upd_same
  have eK : ((ks.map (Sum.inr : Str → Key)).zip vs).map (·.1) = ks.map Sum.inr := List.map_fst_zip (by simp [hlen])
  have eV : ((ks.map (Sum.inr : Str → Key)).zip vs).map (·.2) = vs := List.map_snd_zip (by simp [hlen])
  refine ⟨v1, (ks.map Sum.inr).zip vs, ?_, ?_, ?_⟩
  · exact zip_keys ks vs
  · rw [List.length_zip, List.length_map]
    omega
  · have em : mergeK [] ((ks.map (Sum.inr : Str → Key)).zip vs) = (ks.map Sum.inr).zip vs := by
      refine mergeK_nd _ [] ?_
      rw [List.nil_append, eK]
      exact List.Nodup.map_inr nd
    rw [em]
    have nf : NoTF (H1 p) := by rw [v1]; exact .dK
    have hob : ObjR X.K S1 (upd H1 p (.dK ((ks.map Sum.inr).zip vs))) p (.dK ((ks.map Sum.inr).zip ds)) := by
      refine ⟨_, upd_same, ?_, ?_⟩
      · rw [eK, List.map_fst_zip (by simp [← rp.len, hlen])]
      · rw [eV, List.map_snd_zip (by simp [← rp.len, hlen])]
        exact Reps.off a1.1 nf rp
    refine hq (.loc p) (S1.put p (.dK ((ks.map Sum.inr).zip ds))) _ _ ?_ (lay_step ns np (off_step ns np (st0.trans st1))) (live_hrep a1.1 (off_hrep a1.1 nf hp1) hob) (.loc p)
    rw [prj_put]
    exact h1.2 p (by unfold prj; rw [a1.1]; rfl)
/-! ### what changes a list -/
theorem se_app {o e : Expr} {co ce : CE} {apos pos : Pos} (ho : PE X o (rdE TL E9 X.K (WE G R co))) (he : PE X e (rdE TL E9 X.K (WE G R ce))) (hn : isStar e = false) (hb : attributeBase o "append" X.env (eval o X.env) = eval o X.env) (hp : (apos.endLine == pos.line) = true) :
    PE X (.Call (.Attribute o "append" apos) [e] [] pos) (rdE TL E9 X.K (WE G R (.app co ce))) := by
  refine ⟨fun pins s σ H Q I h => (pe_bm PySem.F.plainAttrs_list PySem.F.slot_list_append PySem.F.type_list_append mt_append ho (pa_cons he pa_nil (starEach_cons hn)) hb (by rw [starEach_cons hn]; rfl) hp (starEach_cons hn) rfl).run pins s σ H Q I ?_⟩
  obtain ⟨r, S, Q0, rl, hw, hq⟩ := h
  refine ⟨r, S, _, rl, hw, fun x S1 v H1 hx st1 hp1 rx => ?_⟩
  cases x with
  | loc a =>
    cases rx
    simp only at hx
    cases ea : prj S1 a with
    | none => rw [ea] at hx; exact hx.elim
    | some ob =>
      rw [ea] at hx
      cases ob with
      | dK kvs => exact hx.elim
      | lst ds0 =>
        obtain ⟨vs0, v0, _⟩ := hp1.ob a _ (prj_some ea)
        refine ⟨.inl ⟨rfl, _, .of v0⟩, r, S1, _, rl.stp st1 hp1, hx, fun y S2 u H2 hy st2 hp2 ry => ?_⟩
        cases eb : prj S2 a with
        | none => rw [eb] at hy; exact hy.elim
        | some ob =>
          rw [eb] at hy
          cases ob with
          | dK kvs => exact hy.elim
          | lst ds =>
            obtain ⟨vs, v2, z2, r2⟩ := hp2.ob a _ (prj_some eb)
            have hl : vs.length < sizeLine := by
              rw [r2.len]
              exact Nat.lt_of_lt_of_le hy.1 (by decide)
            have st3 := put_step (o' := .lst (ds ++ [y])) (u := .lst (vs ++ [u])) hp2 (prj_some eb)
            refine ⟨a, vs, u, rfl, rfl, v2, hl, hq .non (S2.put a (.lst (ds ++ [y]))) .non _ (by rw [prj_put]; exact hy.2) ((st1.trans st2).trans st3) (put_hrep hp2 st3 ⟨_, upd_same, by simp; omega, ?_⟩) .non⟩
            exact (r2.app (.cons ry .nil)).stp st3
  | _ => exact hx.elim
omit g in
theorem se_frz {e : Expr} {c : CE} (he : PE X e (rdE TL E9 X.K (WE G R c))) : PE X e (rdE TL E9 X.K (WE G R (.frz c))) := by
  refine ⟨fun pins s σ H Q I h => he.run pins s σ H Q I ?_⟩
  obtain ⟨r, S, Q0, rl, hw, hq⟩ := h
  refine ⟨r, S, _, rl, hw, fun x S1 v H1 hx st1 hp1 rx => ?_⟩
  cases x with
  | loc a =>
    cases rx
    simp only at hx
    cases ea : prj S1 a with
    | none => rw [ea] at hx; exact hx.elim
    | some ob =>
      rw [ea] at hx
      cases ob with
      | dK kvs => exact hx.elim
      | lst ds =>
        have e1 := prj_some ea
        obtain ⟨vs, v1, z1, r1⟩ := hp1.ob a _ e1
        have hf : ∀ b o, (S1.del a) b = some o → S1 b = some o := fun b o e => by
          unfold XS.del at e
          split at e
          · cases e
          · exact e
        have ha : ∀ b, S1 b = some none → (S1.del a) b = some none := fun b e => by
          have ne : b ≠ a := fun z => by rw [z, e1] at e; cases e
          unfold XS.del
          rw [if_neg ne]
          exact e
        refine hq _ (S1.del a) _ H1 (by rw [prj_del]; exact hx) (st1.forget hf ha) (hp1.forget hf ha) (.lst v1 ?_ z1 (r1.less del_less))
        unfold XS.del
        rw [if_pos rfl]
  | non => exact hq _ S1 _ H1 hx st1 hp1 rx
  | bl b => exact hq _ S1 _ H1 hx st1 hp1 rx
  | int b => exact hq _ S1 _ H1 hx st1 hp1 rx
  | str b => exact hq _ S1 _ H1 hx st1 hp1 rx
  | tup b => exact hq _ S1 _ H1 hx st1 hp1 rx
  | lst b => exact hq _ S1 _ H1 hx st1 hp1 rx
  | lsf b => exact hq _ S1 _ H1 hx st1 hp1 rx
end
end FL

namespace FL
open PySem PySem.Spec PyProof.Rows L2
/-! ### lambdas handed to the law's asker; raise -/
def lamSt (st : Sta) (scope : Scope) : Sta := { st with sc := scope, fnB := fun _ => false, xr := 0, exs := [], lam := false }
section
variable {X : Cx} {G : Ctx} {st : Sta} {R : XP} {k : Nat}
theorem Gd.lamb (g : Gd TL E9 G st R k X) {scope : Scope} (L : LamX.LamS X.env.scope scope) {A : Around} {outer : List Env} {s : Shared} {H : Hp} {E : XK} {f c' : Addr} (hr : Room k (A.deeper (LamX.lamEnv X scope s.heap.objs.size f c'))) (hg : A.guards = X.A.guards) {E8 : XS × Hp} {R' : XP} (hE : ∀ cls d σ' H', liftW TL E8 X.K R' cls d σ' H' → E cls d H') :
    Gd TL E8 G (lamSt st scope) R' k (LamX.lamCx X A outer s H E scope f c') where
  calm := rfl
  N := g.N
  nd := g.nd
  sc := rfl
  kd := L.kind
  fn := fun _ h => absurd h Bool.false_ne_true
  room := hr
  gd := by
    show A.guards = some []
    rw [hg]
    exact g.gd
  fns := fun i x h => ⟨(g.fns i x h).ex⟩
  gls := g.gls
  blt := g.blt
  tk := (takes_of (X := LamX.lamCx X A outer s H E scope f c') (E := E) rfl rfl rfl rfl).imp fun cls d σ' H' h => hE cls d σ' H' h
  po := PassesOwn.leaving
  exs := fun _ _ _ h => by cases h
  sd := fun h => by cases h
theorem two_fs {K : PySem.W.Frag} {S : XS} {H : Hp} {ws : List (Str × V)} {f1 f2 : Str} {d1 d2 : D} (hk : ws.map (·.1) = [f2, f1]) (hr : Reps K S H (ws.map (·.2)) [d2, d1]) : ∃ y1 y2, ws = [(f2, y2), (f1, y1)] ∧ Rep K S H y1 d1 ∧ Rep K S H y2 d2 := by
  match ws, hk, hr with
  | [(a, y2), (b, y1)], hk, hr =>
    simp only [List.map_cons, List.map_nil, List.cons.injEq, and_true] at hk
    obtain ⟨rfl, rfl⟩ := hk
    cases hr with
    | cons r2 rr =>
      cases rr with
      | cons r1 _ => exact ⟨y1, y2, rfl, r1, r2⟩
  | [], hk, _ => simp at hk
  | [_], hk, _ => simp at hk
  | _ :: _ :: _ :: _, hk, _ => simp at hk
theorem word_small {x w f1 f2 : Str} (h : wordOf x = some (w, f1, f2)) : w.length ≤ sizeLine := by
  unfold wordOf at h
  split at h
  · cases h
    decide +kernel
  · split at h
    · cases h
      decide +kernel
    · split at h
      · cases h
        decide +kernel
      · cases h
theorem se_said (g : Gd TL E9 G st R k X) (hl : st.lam = true) {c : CE} {params : Arguments} {body : Expr} {scope : Scope} {lpos p pos : Pos} (hgl : st.sc.names.lookup ("_law_said" : Str) = some .globalImplicit) (hL : LamX.lamSB st.sc scope = true) (hdf : defaultsOf params X.env = ([], []))
    (hbd : ∀ (q : Str) (cl : List (Str × Addr)) (pm cv ctv : Value), bindArgs (PySem.W.kla_fn "<lambda>" q params body scope cl pm cv ctv) ⟨[], []⟩ = pure [])
    (hb : ∀ {E8 : XS × Hp} {R' : XP} {X' : Cx}, Gd TL E8 G (lamSt st scope) R' k X' → PE X' body (rdE TL E8 X'.K (WE G R' c))) :
    PE X (.Call (.Name "_law_said" p) [.Lambda params body scope lpos] [] pos) (rdE TL E9 X.K (WE G R (.said c))) := by
  obtain ⟨hxr, ⟨gg, CL, fr, cc, P, sr, cdr, pg, sg, dV, kV, doc, pm, cdv, ct, oc, an, od, osl, p1, p2, p3, p4, p5, p6, p7, p8, p9, p10, p11, p12, j1, j2, h1, h2, h3, h4, h5, h6, h7, h8, h9, h10, h11, h12, h13, h14, h15, h16, h17⟩⟩ := g.sd hl
  have L : LamX.LamS X.env.scope scope := LamX.lamS_by (by rw [g.sc]; exact hL)
  have room2 : Room (k + 2) X.A := g.room.mono (Nat.add_le_add_left hxr k)
  refine ⟨fun pins s σ H Q I h => (pe_lamG (TL := TL) (P := P) (k := k) (t := fun E σ H Q => ∃ (E8 : XS × Hp) (R' : XP), (∀ cls d σ' H', liftW TL E8 X.K R' cls d σ' H' → E cls d H') ∧ rdE TL E8 X.K (WE G R' c) σ H Q) (show X.env.scope.names.lookup _ = _ by rw [g.sc]; exact hgl) h1 h2 h3 h4 h5 h6 rfl h7
    (said_gives h8 h9 h10 h11 h12 (room2.mono (Nat.le_add_left _ _))) h13 h14 h15 h16 room2 L hdf hbd (fun A outer s H E f c' hr hgd => ⟨fun pins s σ H Q I ⟨E8, R', hE, h⟩ => (hb (g.lamb L hr hgd hE)).run pins s σ H Q I h⟩) (by decide) (by decide) (by decide)).run pins s σ H Q I ?_⟩
  obtain ⟨r, S, Q0, rl, hw, hq⟩ := h
  refine ⟨rl.hp.tab, fun H1 gr T1 => ?_⟩
  have st1 := grow_step rl.hp gr
  have hp1 := grow_hrep rl.hp gr T1
  have rl1 : Rl TL (S, H1) X.K S H1 σ r := ⟨rl.len, fun i d e => let ⟨v, e1, q⟩ := rl.env i d e; ⟨v, e1, q.stp st1⟩, hp1, .refl _ _⟩
  simp only [WE] at hw
  refine ⟨(S, H1), _, ?_, r, S, _, rl1, hw, ?_⟩
  · rintro cls d σ' H' ⟨ex, r', S', rl', ⟨C, dx, ws, rfl, hns, rfl, hdx, hSd, hkeys, hreps⟩, hR⟩
    cases hw2 : wordOf ex.cls with
    | none =>
      unfold refD at hR
      rw [hw2] at hR
      exact hR.elim
    | some wff =>
      obtain ⟨w, f1, f2⟩ := wff
      obtain ⟨x, fs⟩ := ex
      simp only at hw2 hkeys hreps hns
      unfold refD at hR
      simp only [hw2] at hR
      rcases fs with _ | ⟨⟨g2, d2⟩, _ | ⟨⟨g1, d1⟩, _ | ⟨_, _⟩⟩⟩
      · exact hR.elim
      · exact hR.elim
      · simp only at hR
        by_cases hgf : g1 = f1 ∧ g2 = f2
        · rw [if_pos hgf] at hR
          obtain ⟨rfl, rfl⟩ := hgf
          obtain ⟨y1, y2, rfl, r1, r2⟩ := two_fs hkeys hreps
          refine ⟨C, dx, x, w, g1, g2, y1, y2, rfl, rfl, h17 _ _ _ _ _ hw2 hns, hdx, fun p H'' sm np => ?_⟩
          have st2 := rl'.fr
          have hp2 := rl'.hp
          have sm' : Same H' H'' := fun b o e => sm b o e
          have hp3 := hp2.same sm'
          have rps : Reps X.K S' H'' [.str "no", .str w, y1, y2] [.str "no", .str w, d1, d2] := .cons (.str (by decide +kernel)) (.cons (.str (word_small hw2)) (.cons (r1.stp (hp2.sstep sm')) (.cons (r2.stp (hp2.sstep sm')) .nil)))
          exact hq _ S' _ _ hR (((st1.trans st2).trans (hp2.sstep sm')).trans (hp3.sstep (upd_laid np))) (hp3.same (upd_laid np)) (Rep.newT hp3 np (show (4 : Nat) ≤ sizeLine by decide) rps)
        · rw [if_neg hgf] at hR
          exact hR.elim
      · exact hR.elim
  · intro d S' v H2 h0 st2 hp2 rv
    refine ⟨by decide, fun p np => ?_⟩
    exact hq _ S' _ _ h0 ((st1.trans st2).trans (hp2.sstep (upd_laid np))) (hp2.same (upd_laid np)) (Rep.newT hp2 np (show (2 : Nat) ≤ sizeLine by decide) (.cons (.str (by decide +kernel)) (.cons rv .nil)))
/-- raise C(x, y) -/
theorem ss_rse (g : Gd TL E9 G st R k X) {x f1 f2 : Str} {e1 e2 : Expr} {cs : CEs} {p pos pos' : Pos} (hx : (x, f1, f2) ∈ st.exs) (hgl : st.sc.names.lookup x = some .globalImplicit) (hdb : (x == ("__debug__" : Str)) = false) (ha : PA X [e1, e2] (rdA TL E9 X.K (WEs G R cs))) (hn : nst [e1, e2] = true) :
    PS X (.Raise (some (.Call (.Name x p) [e1, e2] [] pos)) none pos') (rdS TL E9 X.K (WS G R (.rse x f1 f2 cs))) := by
  obtain ⟨hxr, ⟨C, fI, fd, T, hm, hns, hb⟩⟩ := g.exs x f1 f2 hx
  have n1 : isStar e1 = false := by
    have := hn
    simp only [nst, List.all_cons, Bool.and_eq_true, Bool.not_eq_true'] at this
    exact this.1
  have n2 : nst [e2] = true := by
    have := hn
    simp only [nst, List.all_cons, Bool.and_eq_true] at this
    simp only [nst, List.all_cons, Bool.and_eq_true]
    exact this.2
  have mk := pmk_oex (X := X) (p := p) (pos := pos) (dvs := []) T.oex T.iC T.tI (ini_ok (w := X.w) (mg := X.mg) (base := X.base) T) (g.room.mono (show 2 ≤ k + st.xr by omega)) hb .nil (fun pins σ H s e s' I h => by
    obtain ⟨_, _, _, _, _, _, _, _, _, _, _, _, z⟩ := h
    exact z.elim) (show X.env.scope.names.lookup x = _ by rw [g.sc]; exact hgl) hm ha hdb (starEach_cons n1) (star_any n2)
  refine ⟨fun pins s σ H Z I h => (ps_raise g.calm g.tk mk).run pins s σ H Z I ?_⟩
  obtain ⟨r, S, Z0, rl, hw, _⟩ := h
  simp only [WS] at hw
  refine ⟨r, S, _, rl, hw, fun ds S1 vs H1 hx st1 hp1 rp => ?_⟩
  match ds, hx, rp with
  | [d1, d2], hx, rp =>
    cases rp with
    | @cons y1 _ _ _ r1 rr =>
    cases rr with
    | @cons y2 _ _ _ r2 rr2 =>
    cases rr2
    refine ⟨(show (2 : Nat) ≤ 1000 by decide), fun a na => ⟨a, y1, y2, rfl, upd_same, fun dx ndx da => ?_⟩⟩
    have ndx1 : H1 dx = none := by
      rw [upd_ne da] at ndx
      exact ndx
    refine ⟨rfl, dx, _, upd_same, by rw [upd_ne da, upd_same], ndx1, ?_⟩
    have eH : upd (del (upd (upd (upd H1 a (exo a C none)) dx (exd dx [(f2, y2), (f1, y1)])) a (exo a C (some dx))) a) dx (.xd [(f2, y2), (f1, y1)]) = upd H1 dx (.xd [(f2, y2), (f1, y1)]) := by
      funext b
      by_cases hb1 : b = dx
      · rw [hb1, upd_same, upd_same]
      · rw [upd_ne hb1, upd_ne hb1]
        by_cases hb2 : b = a
        · rw [hb2, del_same, na]
        · rw [del_ne hb2, upd_ne hb2, upd_ne hb1, upd_ne hb2]
    rw [eH]
    have st2 := hp1.sstep (upd_laid (o := .xd [(f2, y2), (f1, y1)]) ndx1)
    have hp2 := hp1.same (upd_laid (o := .xd [(f2, y2), (f1, y1)]) ndx1)
    exact ⟨⟨x, [(f2, d2), (f1, d1)]⟩, r, S1, rl.stp (st1.trans st2) hp2, ⟨C, dx, _, rfl, hns, rfl, upd_same, hp1.fresh ndx1, rfl, .cons (r2.stp st2) (.cons (r1.stp st2) .nil)⟩, hx⟩
  | [], hx, _ => exact hx.elim
  | [_], hx, _ => exact hx.elim
  | _ :: _ :: _ :: _, hx, _ => exact hx.elim
end
end FL

namespace FL
open PySem PySem.Spec PyProof.Rows L2
def isCompE : Expr → Bool
  | .ListComp .. => true
  | .SetComp .. => true
  | .DictComp .. => true
  | _ => false
def isTupE : Expr → Bool
  | .Tuple .. => true
  | _ => false
theorem sw_no {e : Expr} {t : Option Expr} {l : Nat} {env : Env} (h : isCompE e = false) : swapsWith e t l env = pure false := by
  cases e <;> first
    | rfl
    | (simp [isCompE] at h; done)
theorem sw_tup {e : Expr} {ts : List Expr} {k l : Nat} {p : Pos} {env : Env} : swapsWithSole [.Tuple ts k p] e l env = pure false := by
  cases e <;> rfl
theorem sws_tup {e : Expr} {ts : List Expr} {k : Nat} {p : Pos} {env : Env} (h : isTupE e = false) : swappedStores [.Tuple ts k p] e env = pure none := by
  cases e <;> first
    | rfl
    | (simp [isTupE] at h; done)
def locN (sc : Scope) (l : Nat) : Expr → Option Str
  | .Name x p => if sc.names.lookup x == some .local && p.line == l then some x else none
  | _ => none
/-- whether the names of a tuple are stored from the right: the names, if so -/
def swN (sc : Scope) (ts vs : List Expr) : Option (Option (List Str)) :=
  if !(ts.length == 2 || ts.length == 3) || vs.length != ts.length then some none
  else if vs.any isStar then some none
  else
    let ns := ts.filterMap (locN sc ((ts.head?.map (·.pos.line)).getD 0))
    if ns.length != ts.length || ns.eraseDups.length != ns.length then some none
    else if vs.all (foldedForSure 8) then some none
    else if vs.all (constantsAlone 8) then none
    else some (some ns)
theorem swN_ok {ts vs : List Expr} {k j : Nat} {p q : Pos} {env : Env} {r : Option (List Str)} (hk : env.scope.kind = .function) (h : swN env.scope ts vs = some r) : swappedStores [.Tuple ts k p] (.Tuple vs j q) env = pure r := by
  have hb : env.blockKind = .function := by
    unfold Env.blockKind
    rw [hk]
    rfl
  unfold swappedStores
  show (if (!(ts.length == 2 || ts.length == 3) || vs.length != ts.length || env.blockKind != .function) = true then _ else _) = _
  rw [hb]
  unfold swN at h
  by_cases c1 : (!(ts.length == 2 || ts.length == 3) || vs.length != ts.length) = true
  · rw [if_pos c1] at h
    cases h
    rw [c1]
    rfl
  · rw [if_neg c1] at h
    have c1' : (!(ts.length == 2 || ts.length == 3) || vs.length != ts.length || ScopeKind.function != ScopeKind.function) = false := by
      rw [Bool.eq_false_iff]
      intro z
      rw [Bool.or_eq_true] at z
      rcases z with z | z
      · exact c1 z
      · exact absurd z (by decide)
    rw [c1', if_neg Bool.false_ne_true]
    simp only [pure_bind]
    have hst : ∀ f : Expr → Bool, (∀ e, f e = isStar e) → vs.any f = vs.any isStar := fun f hf => by rw [show f = isStar from funext hf]
    have hns : ∀ f : Expr → Option Str, (∀ e, f e = locN env.scope ((ts.head?.map (·.pos.line)).getD 0) e) → ts.filterMap f = ts.filterMap (locN env.scope ((ts.head?.map (·.pos.line)).getD 0)) := fun f hf => by rw [show f = locN env.scope ((ts.head?.map (·.pos.line)).getD 0) from funext hf]
    rw [hst _ (fun e => by cases e <;> rfl), hns _ (fun e => by cases e <;> rfl)]
    by_cases c2 : vs.any isStar = true
    · rw [if_pos c2] at h ⊢
      cases h
      rfl
    · rw [if_neg c2] at h ⊢
      try simp only [pure_bind]
      try simp only at h
      generalize ts.filterMap (locN env.scope ((ts.head?.map (·.pos.line)).getD 0)) = ns at h ⊢
      by_cases c3 : (ns.length != ts.length || ns.eraseDups.length != ns.length) = true
      · rw [if_pos c3] at h ⊢
        cases h
        rfl
      · rw [if_neg c3] at h ⊢
        by_cases c4 : vs.all (foldedForSure 8) = true
        · rw [if_pos c4] at h ⊢
          cases h
          rfl
        · rw [if_neg c4] at h ⊢
          by_cases c5 : vs.all (constantsAlone 8) = true
          · rw [if_pos c5] at h
            cases h
          · rw [if_neg c5] at h ⊢
            cases h
            rfl
section
variable {X : Cx} {G : Ctx} {st : Sta} {R : XP} {k : Nat} (g : Gd TL E9 G st R k X)
theorem ss_pass {pos : Pos} : PS X (.Pass pos) (rdS TL E9 X.K (WS G R .pass)) := by
  refine ⟨fun pins s σ H Z I h => ps_pass.run pins s σ H Z I ?_⟩
  obtain ⟨r, S, Z0, rl, hw, h1, _⟩ := h
  exact h1 r S σ H hw (.refl _ _) rl
theorem ss_brk {pos : Pos} : PS X (.Break pos) (rdS TL E9 X.K (WS G R .brk)) := by
  refine ⟨fun pins s σ H Z I h => ps_break.run pins s σ H Z I ?_⟩
  obtain ⟨r, S, Z0, rl, hw, _, _, h1, _⟩ := h
  exact h1 r S σ H hw (.refl _ _) rl
theorem ss_cnt {pos : Pos} : PS X (.Continue pos) (rdS TL E9 X.K (WS G R .cnt)) := by
  refine ⟨fun pins s σ H Z I h => ps_continue.run pins s σ H Z I ?_⟩
  obtain ⟨r, S, Z0, rl, hw, _, _, _, h1⟩ := h
  exact h1 r S σ H hw (.refl _ _) rl
theorem ss_nil : PSs X [] (rdS TL E9 X.K (WSs G R .nil)) := by
  refine ⟨fun pins s σ H Z I h => pss_nil.run pins s σ H Z I ?_⟩
  obtain ⟨r, S, Z0, rl, hw, h1, _⟩ := h
  exact h1 r S σ H hw (.refl _ _) rl
theorem ss_cons {a : Stmt} {b : List Stmt} {c : CS} {cs : CSs} (h1 : PS X a (rdS TL E9 X.K (WS G R c))) (h2 : PSs X b (rdS TL E9 X.K (WSs G R cs))) : PSs X (a :: b) (rdS TL E9 X.K (WSs G R (.cons c cs))) := by
  refine ⟨fun pins s σ H Z I h => (pss_cons h1 h2).run pins s σ H Z I ?_⟩
  obtain ⟨r, S, Z0, rl, hw, n, rt, bk, ct⟩ := h
  refine ⟨r, S, _, rl, hw, fun r1 S1 σ1 H1 hx st1 rl1 => ?_, rt, bk, ct⟩
  exact ⟨r1, S1, Z0, rl1, hx, fun r' S' σ' H' h0 s2 l2 => n r' S' σ' H' h0 (st1.trans s2) l2, fun d S' v H' h0 s2 p2 r2 => rt d S' v H' h0 (st1.trans s2) p2 r2,
    fun r' S' σ' H' h0 s2 l2 => bk r' S' σ' H' h0 (st1.trans s2) l2, fun r' S' σ' H' h0 s2 l2 => ct r' S' σ' H' h0 (st1.trans s2) l2⟩
theorem ss_ex {e : Expr} {c : CE} {pos : Pos} (he : PE X e (rdE TL E9 X.K (WE G R c))) (hc : isCompE e = false) : PS X (.Expr e pos) (rdS TL E9 X.K (WS G R (.ex c))) := by
  refine ⟨fun pins s σ H Z I h => (ps_expr he (sw_no hc)).run pins s σ H Z I ?_⟩
  obtain ⟨r, S, Z0, rl, hw, n, _⟩ := h
  exact ⟨r, S, _, rl, hw, fun x S1 v H1 hx st1 hp1 rx => n r S1 σ H1 hx st1 (rl.stp st1 hp1)⟩
theorem ss_ret {e : Expr} {c : CE} {pos : Pos} (he : PE X e (rdE TL E9 X.K (WE G R c))) : PS X (.Return (some e) pos) (rdS TL E9 X.K (WS G R (.ret c))) := by
  refine ⟨fun pins s σ H Z I h => (ps_ret he).run pins s σ H Z I ?_⟩
  obtain ⟨r, S, Z0, rl, hw, _, rt, _⟩ := h
  exact ⟨r, S, _, rl, hw, fun x S1 v H1 hx st1 hp1 rx => rt x S1 v H1 hx st1 hp1 rx⟩
theorem ss_ret0 {pos : Pos} : PS X (.Return none pos) (rdS TL E9 X.K (WS G R .ret0)) := by
  refine ⟨fun pins s σ H Z I h => ps_retN.run pins s σ H Z I ?_⟩
  obtain ⟨r, S, Z0, rl, hw, _, rt, _⟩ := h
  exact rt .non S .non H hw (.refl _ _) rl.hp .non
theorem ss_ite {t : Expr} {a b : List Stmt} {ct : CE} {ca cb : CSs} {pos : Pos} (ht : PT X t (rdTT TL E9 X.K (WE G R ct))) (ha : PSs X a (rdS TL E9 X.K (WSs G R ca))) (hb : PSs X b (rdS TL E9 X.K (WSs G R cb))) : PS X (.If t a b pos) (rdS TL E9 X.K (WS G R (.ite ct ca cb))) := by
  refine ⟨fun pins s σ H Z I h => (ps_if ht ha hb).run pins s σ H Z I ?_⟩
  obtain ⟨r, S, Z0, rl, hw, n, rt, bk, ct⟩ := h
  refine ⟨r, S, _, rl, hw, fun x S1 H1 hx st1 hp1 => ?_⟩
  have fin : ∀ {cc : CSs}, WSs G R cc r (prj S1) Z0 → rdS TL E9 X.K (WSs G R cc) Z σ H1 := fun {cc} hx => ⟨r, S1, Z0, rl.stp st1 hp1, hx, fun r' S' σ' H' h0 s2 l2 => n r' S' σ' H' h0 (st1.trans s2) l2, fun d S' v H' h0 s2 p2 r2 => rt d S' v H' h0 (st1.trans s2) p2 r2,
    fun r' S' σ' H' h0 s2 l2 => bk r' S' σ' H' h0 (st1.trans s2) l2, fun r' S' σ' H' h0 s2 l2 => ct r' S' σ' H' h0 (st1.trans s2) l2⟩
  split at hx
  · rename_i e
    exact ⟨true, e, iteT (fin hx)⟩
  · rename_i e
    exact ⟨false, e, iteF (fin hx)⟩
  · exact hx.elim
include g
theorem ss_set {i : Nat} {x : Str} {e : Expr} {c : CE} {pos' pos : Pos} (hN : st.N[i]? = some x) (hx : st.sc.names.lookup x = some .local ∨ (st.sc.names.lookup x = some .cell ∧ st.fnB x = true)) (he : PE X e (rdE TL E9 X.K (WE G R c)))
    (hc : swapsWith e (some (.Name x pos')) pos.line X.env = pure false) : PS X (.Assign [.Name x pos'] e pos) (rdS TL E9 X.K (WS G R (.set (.nm i) c))) := by
  have hl : Loc X.env.scope x := by
    rw [g.sc]
    exact hx.imp id And.left
  have hf : X.fn x = true ∨ X.env.scope.names.lookup x = some .local := by
    rw [g.sc]
    rcases hx with z | z
    · exact .inr z
    · exact .inl (g.fn x z.2)
  refine ⟨fun pins s σ H Z I h => (ps_set (i := i) (by rw [g.N]; exact g.nd) (by rw [g.N]; exact hN) hl he hc hf).run pins s σ H Z I ?_⟩
  obtain ⟨r, S, Z0, rl, hw, n, _⟩ := h
  exact ⟨r, S, _, rl, hw, fun x S1 v H1 hx st1 hp1 rx => n _ S1 _ H1 hx st1 ((rl.stp st1 hp1).set rx)⟩
theorem ss_setN {i : Nat} {x : Str} {e : Expr} {c : CE} {pos' pos : Pos} (hN : st.N[i]? = some x) (hx : st.sc.names.lookup x = some .local ∨ (st.sc.names.lookup x = some .cell ∧ st.fnB x = true)) (he : PE X e (rdF TL E9 X.K (WE G R c)))
    (hc : swapsWith e (some (.Name x pos')) pos.line X.env = pure false) : PS X (.Assign [.Name x pos'] e pos) (rdS TL E9 X.K (WS G R (.setN i c))) := by
  have hl : Loc X.env.scope x := by
    rw [g.sc]
    exact hx.imp id And.left
  have hf : X.fn x = true ∨ X.env.scope.names.lookup x = some .local := by
    rw [g.sc]
    rcases hx with z | z
    · exact .inr z
    · exact .inl (g.fn x z.2)
  refine ⟨fun pins s σ H Z I h => (ps_set (i := i) (by rw [g.N]; exact g.nd) (by rw [g.N]; exact hN) hl he hc hf).run pins s σ H Z I ?_⟩
  obtain ⟨r, S, Z0, rl, hw, n, _⟩ := h
  refine ⟨r, S, _, rl, hw, fun ds S1 vs H1 p hx st1 hp1 ns np nS hv hz rp => ?_⟩
  have st2 := lay_step (o := .lst ds) ns np st1
  have hp2 := lay_hrep nS hp1 hv hz rp
  refine n _ (S1.put p (.lst ds)) _ H1 (by rw [prj_put]; exact hx p (by unfold prj; rw [nS]; rfl)) st2 ((rl.stp st2 hp2).set (.loc p))
theorem ss_setT {es : List Expr} {e : Expr} {ts : CTs} {c : CE} {j : Nat} {p pos : Pos} (hg : PG X (.Tuple es j p) (rdG TL E9 X.K (.tp ts))) (he : PE X e (rdE TL E9 X.K (WE G R c))) (hw : swappedStores [.Tuple es j p] e X.env = pure none) :
    PS X (.Assign [.Tuple es j p] e pos) (rdS TL E9 X.K (WS G R (.set (.tp ts) c))) := by
  refine ⟨fun pins s σ H Z I h => (ps_asg he hg sw_tup hw rfl).run pins s σ H Z I ?_⟩
  obtain ⟨r, S, Z0, rl, hw, n, _⟩ := h
  exact ⟨r, S, _, rl, hw, fun x S1 v H1 hx st1 hp1 rx => ⟨r, S1, x, _, rl.stp st1 hp1, rx, hx, fun r' σ' h0 l0 _ => n r' S1 σ' H1 h0 st1 l0⟩⟩
theorem ss_put {o i e : Expr} {co ci ce : CE} {pos' pos : Pos} (ho : PE X o (rdE TL E9 X.K (WE G R co))) (hi : PE X i (rdE TL E9 X.K (WE G R ci))) (he : PE X e (rdE TL E9 X.K (WE G R ce))) : PS X (.Assign [.Subscript o i pos'] e pos) (rdS TL E9 X.K (WS G R (.put co ci ce))) := by
  have hsw : swapsWith e (some (.Subscript o i pos')) pos.line X.env = pure false := by cases e <;> rfl
  refine ⟨fun pins s σ H Z I h => (ps_dput (by have := g.hu; omega) ho hi he hsw).run pins s σ H Z I ?_⟩
  obtain ⟨r, S, Z0, rl, hw, n, _⟩ := h
  refine ⟨r, S, _, rl, hw, fun x S1 v H1 hx st1 hp1 rx => ⟨r, S1, _, rl.stp st1 hp1, hx, fun y S2 u H2 hy st2 hp2 ry => ⟨r, S2, _, (rl.stp st1 hp1).stp st2 hp2, hy, fun z S3 w H3 hz st3 hp3 rz => ?_⟩⟩⟩
  cases y with
  | loc a =>
    cases z with
    | str kk =>
      simp only at hz
      cases ea : prj S3 a with
      | none => rw [ea] at hz; exact hz.elim
      | some ob =>
        rw [ea] at hz
        cases ob with
        | lst ds => exact hz.elim
        | dK kvs =>
          cases ry
          cases rz
          obtain ⟨ws, hv, hk⟩ := hp3.ob a _ (prj_some ea)
          have hl : ws.length < sizeLine := by
            have e1 := congrArg List.length hk.1
            simp only [List.length_map] at e1
            rw [e1]
            exact Nat.lt_of_lt_of_le hz.1 (by decide)
          have st4 := put_step (o' := .dK (putK kvs (Sum.inr kk) x)) (u := .dK (L2.putK ws (Sum.inr kk) v)) hp3 (prj_some ea)
          have hk' : KReps X.K (S3.put a (.dK (putK kvs (Sum.inr kk) x))) (upd H3 a (.dK (L2.putK ws (Sum.inr kk) v))) (L2.putK ws (Sum.inr kk) v) (putK kvs (Sum.inr kk) x) :=
            KReps.put ⟨hk.1, hk.2.stp st4⟩ (((rx.stp st2).stp st3).stp st4)
          refine ⟨a, _, rfl, DPut.k (k := Sum.inr kk) hv hl, n r (S3.put a (.dK (putK kvs (Sum.inr kk) x))) σ _ (by rw [prj_put]; exact hz.2) (((st1.trans st2).trans st3).trans st4) ?_⟩
          exact (((rl.stp st1 hp1).stp st2 hp2).stp st3 hp3).stp st4 (put_hrep hp3 st4 ⟨_, upd_same, hk'⟩)
    | _ => exact hz.elim
  | _ => exact hz.elim
theorem ss_aug {i : Nat} {x : Str} {op : Operator} {e : Expr} {c : CE} {pos' pos : Pos} (hop : op = .Add ∨ op = .Sub) (hN : st.N[i]? = some x) (hx : st.sc.names.lookup x = some .local ∨ (st.sc.names.lookup x = some .cell ∧ st.fnB x = true)) (he : PE X e (rdE TL E9 X.K (WE G R c))) :
    PS X (.AugAssign (.Name x pos') op e pos) (rdS TL E9 X.K (WS G R (.aug i op c))) := by
  have hl : Loc X.env.scope x := by
    rw [g.sc]
    exact hx.imp id And.left
  have hf : X.fn x = true ∨ X.env.scope.names.lookup x = some .local := by
    rw [g.sc]
    rcases hx with z | z
    · exact .inr z
    · exact .inl (g.fn x z.2)
  refine ⟨fun pins s σ H Z I h => ?_⟩
  obtain ⟨r, S, Z0, rl, hw, n, _⟩ := h
  simp only [WS] at hw
  cases ei : r[i]? with
  | none => rw [ei] at hw; exact hw.elim
  | some o =>
    rw [ei] at hw
    cases o with
    | none => exact hw.elim
    | some xd =>
      obtain ⟨xv, e1, q1⟩ := rl.env i xd ei
      cases op with
      | Add =>
        refine (ps_aug (i := i) (by rw [g.N]; exact g.nd) (by rw [g.N]; exact hN) hl he ip_add hf).run pins s σ H Z I ⟨xv, e1, r, S, _, rl, hw, fun y S1 v H1 hy st1 hp1 ry => ?_⟩
        cases xd with
        | int a =>
          cases y with
          | int b =>
            cases q1
            cases ry
            exact ⟨a, b, rfl, rfl, n _ S1 _ H1 hy st1 ((rl.stp st1 hp1).set (.int _))⟩
          | _ => exact hy.elim
        | _ => cases y <;> exact hy.elim
      | Sub =>
        refine (ps_aug (i := i) (by rw [g.N]; exact g.nd) (by rw [g.N]; exact hN) hl he ip_sub hf).run pins s σ H Z I ⟨xv, e1, r, S, _, rl, hw, fun y S1 v H1 hy st1 hp1 ry => ?_⟩
        cases xd with
        | int a =>
          cases y with
          | int b =>
            cases q1
            cases ry
            exact ⟨a, b, rfl, rfl, n _ S1 _ H1 hy st1 ((rl.stp st1 hp1).set (.int _))⟩
          | _ => exact hy.elim
        | _ => cases y <;> exact hy.elim
      | _ => rcases hop with z | z <;> cases z
end
end FL

namespace FL
open PySem PySem.Spec PyProof.Rows L2
/-- is y = [..] stored within the comprehension -/
def swL (sc : Scope) (y : Str) (py : Pos) (scope : Scope) (pos : Pos) : Bool :=
  (sc.names.lookup y == some .local) && (py.line == pos.line) && !(scope.names.any fun q => q.1 == y && (q.2 == .local || q.2 == .cell))
theorem swL_ok {elt : Expr} {gs : List Comprehension} {scope : Scope} {pos py : Pos} {y : Str} {l : Nat} {env : Env} (hk : env.scope.kind = .function) :
    swapsWith (.ListComp elt gs scope pos) (some (.Name y py)) l env = pure (swL env.scope y py scope pos) := by
  have hb : env.blockKind = .function := by
    unfold Env.blockKind
    rw [hk]
    rfl
  unfold swapsWith swL
  show pure (env.blockKind == .function && _ && _ && _) = _
  rw [hb]
  rfl
section
variable {X : Cx} {G : Ctx} {st : Sta} {R : XP} {k : Nat} (g : Gd TL E9 G st R k X)
include g
theorem ss_par2 {i j : Nat} {x y : Str} {a b : Expr} {cs : CEs} {px py pt pos : Pos} {kt k2 : Nat} {pt2 : Pos} (hi : st.N[i]? = some x) (hj : st.N[j]? = some y) (hij : i ≠ j) (hx : st.sc.names.lookup x = some .local) (hy : st.sc.names.lookup y = some .local)
    (ha : PA X [a, b] (rdA TL E9 X.K (WEs G R cs))) (hw : swN st.sc [.Name x px, .Name y py] [a, b] = some (some [x, y])) : PS X (.Assign [.Tuple [.Name x px, .Name y py] kt pt] (.Tuple [a, b] k2 pt2) pos) (rdS TL E9 X.K (WS G R (.par [i, j] cs))) := by
  refine ⟨fun pins s σ H Z I h => (ps_par g.calm (by rw [g.N]; exact g.nd) (by rw [g.N]; exact hi) (by rw [g.N]; exact hj) hij (by rw [g.sc]; exact hx) (by rw [g.sc]; exact hy) ha (swN_ok (by rw [g.sc]; exact g.kd) (by rw [g.sc]; exact hw)) sw_tup).run pins s σ H Z I ?_⟩
  obtain ⟨r, S, Z0, rl, hw, n, _⟩ := h
  refine ⟨r, S, _, rl, hw, fun ds S1 vs H1 hx st1 hp1 rx => ?_⟩
  match vs, ds, rx, hx with
  | [v, w], [d, e], .cons a1 (.cons a2 .nil), hx => exact ⟨v, w, rfl, n _ S1 _ H1 hx st1 (((rl.stp st1 hp1).set a1).set a2)⟩
  | [], [], .nil, hx => exact hx.elim
  | [_], [_], .cons _ .nil, hx => exact hx.elim
  | _ :: _ :: _ :: _, _ :: _ :: _ :: _, .cons _ (.cons _ (.cons _ _)), hx => exact hx.elim
theorem ss_par3 {i j l : Nat} {x y z : Str} {a b c : Expr} {cs : CEs} {px py pz pt pos : Pos} {kt k2 : Nat} {pt2 : Pos} (hi : st.N[i]? = some x) (hj : st.N[j]? = some y) (hl : st.N[l]? = some z) (hij : i ≠ j) (hil : i ≠ l) (hjl : j ≠ l)
    (hx : st.sc.names.lookup x = some .local) (hy : st.sc.names.lookup y = some .local) (hz : st.sc.names.lookup z = some .local)
    (ha : PA X [a, b, c] (rdA TL E9 X.K (WEs G R cs))) (hw : swN st.sc [.Name x px, .Name y py, .Name z pz] [a, b, c] = some (some [x, y, z])) : PS X (.Assign [.Tuple [.Name x px, .Name y py, .Name z pz] kt pt] (.Tuple [a, b, c] k2 pt2) pos) (rdS TL E9 X.K (WS G R (.par [i, j, l] cs))) := by
  refine ⟨fun pins s σ H Z I h => (L2.ps_par3 g.calm (by rw [g.N]; exact g.nd) (by rw [g.N]; exact hi) (by rw [g.N]; exact hj) (by rw [g.N]; exact hl) hij hil hjl (by rw [g.sc]; exact hx) (by rw [g.sc]; exact hy) (by rw [g.sc]; exact hz) ha (swN_ok (by rw [g.sc]; exact g.kd) (by rw [g.sc]; exact hw)) sw_tup).run pins s σ H Z I ?_⟩
  obtain ⟨r, S, Z0, rl, hw, n, _⟩ := h
  refine ⟨r, S, _, rl, hw, fun ds S1 vs H1 hx st1 hp1 rx => ?_⟩
  match vs, ds, rx, hx with
  | [v, w, u], [d, e, f], .cons a1 (.cons a2 (.cons a3 .nil)), hx => exact ⟨v, w, u, rfl, n _ S1 _ H1 hx st1 ((((rl.stp st1 hp1).set a1).set a2).set a3)⟩
  | [], [], .nil, hx => exact hx.elim
  | [_], [_], .cons _ .nil, hx => exact hx.elim
  | [_, _], [_, _], .cons _ (.cons _ .nil), hx => exact hx.elim
  | _ :: _ :: _ :: _ :: _, _ :: _ :: _ :: _ :: _, .cons _ (.cons _ (.cons _ (.cons _ _))), hx => exact hx.elim
theorem ss_setLc {i : Nat} {y : Str} {py : Pos} {elt tg iter : Expr} {ifs : List Expr} {scope : Scope} {own : List (Str × Nat)} {pos spos : Pos} {c : CE} {t : CT} {it : CI} {cs : CEs} (hy : st.N[i]? = some y) (hyl : st.sc.names.lookup y = some .local)
    (hsw : swL st.sc y py scope pos = true) (hi : PI X tg iter (rdI TL E9 X.K (WI G R it))) (ok : BlkOk st.N st.sc scope own)
    (hg : ∀ (s : Shared) (H : Hp) (C : Addr) (cl : List (Str × Addr)) (fp : List Addr), PG (X.blk s H scope (compEnvC scope cl C X.env) fp) tg (rdG TL E9 X.K t))
    (ht : ∀ (s : Shared) (H : Hp) (C : Addr) (cl : List (Str × Addr)) (fp : List Addr), PTs (X.blk s H scope (compEnvC scope cl C X.env) fp) ifs (rdT TL E9 X.K (WTs G noX cs)))
    (he : ∀ (s : Shared) (H : Hp) (C : Addr) (cl : List (Str × Addr)) (fp : List Addr), PE (X.blk s H scope (compEnvC scope cl C X.env) fp) elt (rdE TL E9 X.K (WE G noX c)))
    (hs : ∀ x, foldedSetIterable iter X.env x = pure x) (ho : ∀ i ∈ t.slots, i ∈ own.map (·.2)) : PS X (.Assign [.Name y py] (.ListComp elt [⟨tg, iter, ifs, 0⟩] scope pos) spos) (rdS TL E9 X.K (WS G R (.set (.nm i) (.comp (own.map (·.2)) c t it cs)))) := by
  refine ⟨fun pins s σ H Z I h => (ps_setLc (i := i) g.calm (by rw [g.N]; exact g.nd) (by rw [g.N]; exact hy) (by rw [g.sc]; exact hyl) (by rw [swL_ok (by rw [g.sc]; exact g.kd), g.sc, hsw]) hi (by rw [g.N, g.sc]; exact ok) hg ht he hs).run pins s σ H Z I ?_⟩
  obtain ⟨r, S, Z0, rl, hw, n, _⟩ := h
  rw [WS] at hw
  refine comp_rd ho ⟨r, S, _, rl, hw, fun ds S1 vs H1 p hx st1 hp1 ns np nS hv hz rp => ?_⟩
  have st2 := del_step ns st1
  have hp2 := del_hrep nS hp1
  refine n _ (S1.del p) _ H1 (by rw [del_prj nS]; exact hx) st2 ((rl.stp st2 hp2).set (.lst hv ?_ hz (rp.less del_less)))
  unfold XS.del
  rw [if_pos rfl]
theorem ss_setLcN {i : Nat} {y : Str} {py : Pos} {elt tg iter : Expr} {ifs : List Expr} {scope : Scope} {own : List (Str × Nat)} {pos spos : Pos} {c : CE} {t : CT} {it : CI} {cs : CEs} (hy : st.N[i]? = some y) (hyl : st.sc.names.lookup y = some .local)
    (hsw : swL st.sc y py scope pos = true) (hi : PI X tg iter (rdI TL E9 X.K (WI G R it))) (ok : BlkOk st.N st.sc scope own)
    (hg : ∀ (s : Shared) (H : Hp) (C : Addr) (cl : List (Str × Addr)) (fp : List Addr), PG (X.blk s H scope (compEnvC scope cl C X.env) fp) tg (rdG TL E9 X.K t))
    (ht : ∀ (s : Shared) (H : Hp) (C : Addr) (cl : List (Str × Addr)) (fp : List Addr), PTs (X.blk s H scope (compEnvC scope cl C X.env) fp) ifs (rdT TL E9 X.K (WTs G noX cs)))
    (he : ∀ (s : Shared) (H : Hp) (C : Addr) (cl : List (Str × Addr)) (fp : List Addr), PE (X.blk s H scope (compEnvC scope cl C X.env) fp) elt (rdE TL E9 X.K (WE G noX c)))
    (hs : ∀ x, foldedSetIterable iter X.env x = pure x) (ho : ∀ i ∈ t.slots, i ∈ own.map (·.2)) : PS X (.Assign [.Name y py] (.ListComp elt [⟨tg, iter, ifs, 0⟩] scope pos) spos) (rdS TL E9 X.K (WS G R (.setN i (.comp (own.map (·.2)) c t it cs)))) := by
  refine ⟨fun pins s σ H Z I h => (ps_setLc (i := i) g.calm (by rw [g.N]; exact g.nd) (by rw [g.N]; exact hy) (by rw [g.sc]; exact hyl) (by rw [swL_ok (by rw [g.sc]; exact g.kd), g.sc, hsw]) hi (by rw [g.N, g.sc]; exact ok) hg ht he hs).run pins s σ H Z I ?_⟩
  obtain ⟨r, S, Z0, rl, hw, n, _⟩ := h
  rw [WS] at hw
  refine comp_rd ho ⟨r, S, _, rl, hw, fun ds S1 vs H1 p hx st1 hp1 ns np nS hv hz rp => ?_⟩
  have st2 := lay_step (o := .lst ds) ns np st1
  have hp2 := lay_hrep nS hp1 hv hz rp
  exact n _ (S1.put p (.lst ds)) _ H1 (by rw [prj_put]; exact hx p (by unfold prj; rw [nS]; rfl)) st2 ((rl.stp st2 hp2).set (.loc p))
/-! ### loops -/
theorem ss_for {tg iter : Expr} {body : List Stmt} {t : CT} {it : CI} {cb : CSs} {pos : Pos} (hi : PI X tg iter (rdI TL E9 X.K (WI G R it))) (hg : PG X tg (rdG TL E9 X.K t)) (hb : PSs X body (rdS TL E9 X.K (WSs G R cb))) (hs : ∀ x, foldedSetIterable iter X.env x = pure x) :
    PS X (.For tg iter body [] pos) (rdS TL E9 X.K (WS G R (.for t it cb))) := by
  refine ⟨fun pins s σ H Z I h => (ps_for g.po g.calm hi hg hb hs).run pins s σ H Z I ?_⟩
  obtain ⟨r, S, Z0, rl, hw, n, rt, bk, ct⟩ := h
  refine ⟨r, S, _, rl, hw, fun ds S1 H1 J hx st1 hp1 itm => ?_⟩
  refine ⟨fun i m σ' H' => i + m = ds.length ∧ ∃ (r' : En) (S2 : XS), Step S1 H1 S2 H' ∧ Rl TL E9 X.K S2 H' σ' r' ∧ forLoop (fun r1 S2 Z1 => WSs G R cb r1 S2 Z1) t Z0 (ds.drop i) r' (prj S2),
    ⟨ds.length, by omega, r, S1, .refl _ _, rl.stp st1 hp1, hx⟩, ?_⟩
  rintro i m σ' H' ⟨hm, r', S2, st2, rl2, hc⟩
  by_cases hi : i < ds.length
  · obtain ⟨d, hd⟩ : ∃ d, ds[i]? = some d := ⟨ds[i], by simp [hi]⟩
    rw [drop_some hd] at hc
    refine .inr ⟨itm.go S2 H' i st2 hi, fun σ3 H3 => i + 1 + (m - 1) = ds.length ∧ ∃ (r' : En) (S2 : XS), Step S1 H1 S2 H3 ∧ Rl TL E9 X.K S2 H3 σ3 r' ∧ forLoop (fun r1 S2 Z1 => WSs G R cb r1 S2 Z1) t Z0 (ds.drop (i + 1)) r' (prj S2),
      fun σ3 H3 hN => ⟨m - 1, by omega, hN⟩, fun x H3 hy => ?_⟩
    obtain ⟨sm, rx⟩ := itm.yl S2 H' i x H3 d st2 rl2.hp hd hy
    have s3 := rl2.hp.sstep sm
    have st3 := st2.trans s3
    refine ⟨r', S2, d, _, rl2.stp s3 (rl2.hp.same sm), rx, hc, fun r4 σ4 h4 rl4 _ => ⟨r4, S2, _, rl4, h4, ?_, ?_, ?_, ?_⟩⟩
    · exact fun r5 S5 σ5 H5 h5 st5 rl5 => ⟨by omega, r5, S5, st3.trans st5, rl5, h5⟩
    · exact fun e S5 v H5 h5 st5 hp5 r5 => rt e S5 v H5 h5 (st1.trans (st3.trans st5)) hp5 r5
    · exact fun r5 S5 σ5 H5 h5 st5 rl5 => n r5 S5 σ5 H5 h5 (st1.trans (st3.trans st5)) rl5
    · exact fun r5 S5 σ5 H5 h5 st5 rl5 => ⟨by omega, r5, S5, st3.trans st5, rl5, h5⟩
  · have e : i = ds.length := by omega
    subst e
    rw [List.drop_length] at hc
    exact .inl ⟨itm.stop S2 H' st2, n r' S2 σ' H' hc (st1.trans st2) rl2⟩
theorem ss_whl {t : Expr} {body : List Stmt} {c : CE} {cb : CSs} {pos : Pos} (ht : PT X t (rdTT TL E9 X.K (WE G R c))) (hb : PSs X body (rdS TL E9 X.K (WSs G R cb))) : PS X (.While t body [] pos) (rdS TL E9 X.K (WS G R (.whl c cb))) := by
  refine ⟨fun pins s σ H Z I h => (ps_while g.po ht hb).run pins s σ H Z I ?_⟩
  obtain ⟨r, S, Z0, rl, hw, n, rt, bk, ct⟩ := h
  obtain ⟨J, ⟨m0, j0⟩, turn⟩ := hw
  refine ⟨fun m σ' H' => ∃ (r' : En) (S' : XS), Step S H S' H' ∧ Rl TL E9 X.K S' H' σ' r' ∧ J m r' (prj S'), ⟨m0, r, S, .refl _ _, rl, j0⟩, ?_⟩
  rintro m σ' H' ⟨r', S', st1, rl1, j1⟩
  refine ⟨r', S', _, rl1, turn m r' (prj S') j1, fun x S2 H2 hx st2 hp2 => ?_⟩
  have st12 := st1.trans st2
  split at hx
  · rename_i e
    refine ⟨true, e, iteT ⟨fun σ3 H3 => ∃ m', m' < m ∧ ∃ (r' : En) (S' : XS), Step S H S' H3 ∧ Rl TL E9 X.K S' H3 σ3 r' ∧ J m' r' (prj S'), fun _ _ z => z, r', S2, _, rl1.stp st2 hp2, hx, ?_, ?_, ?_, ?_⟩⟩
    · rintro r5 S5 σ5 H5 ⟨m', hm, h5⟩ st5 rl5
      exact ⟨m', hm, r5, S5, st12.trans st5, rl5, h5⟩
    · exact fun e S5 v H5 h5 st5 hp5 r5 => rt e S5 v H5 h5 (st12.trans st5) hp5 r5
    · exact fun r5 S5 σ5 H5 h5 st5 rl5 => n r5 S5 σ5 H5 h5 (st12.trans st5) rl5
    · rintro r5 S5 σ5 H5 ⟨m', hm, h5⟩ st5 rl5
      exact ⟨m', hm, r5, S5, st12.trans st5, rl5, h5⟩
  · rename_i e
    exact ⟨false, e, iteF (n r' S2 σ' H2 hx st12 (rl1.stp st2 hp2))⟩
  · exact hx.elim
end
end FL

namespace FL
open PySem PySem.Spec PyProof.Rows L2
open AutoSeq1 (wpAny_loadPart')
/-! ### enumerate of a tuple; zip -/
theorem en_new (q : Addr) (ys : Array Value) (m : Nat) (dq : Option Addr) (zq : Array (Option Value)) :
    Meets (Builtin.«enumerate.__new__» ⟨[.type "enumerate", .ref q], []⟩) (fun _ R s => s.heap.get? q = some { cls := .type "tuple", dict := dq, data := .seq ys m, slots := zq } ∧
      R (.ok (.ret (.ref (s.heap.push { cls := .type "tuple_iterator", data := .fields #[.ref q, .int 0 0] }).objs.size)))
        { s with heap := (s.heap.push { cls := .type "tuple_iterator", data := .fields #[.ref q, .int 0 0] }).push { cls := .type "enumerate", data := .fields #[.none, .bool false, .ref s.heap.objs.size, rawInt 0, .none, .none] } }) := by
  refine .of_wp fun prog w A R s h => ?_
  obtain ⟨hp, gg, dd, tk, os⟩ := s
  obtain ⟨hq, h⟩ := h
  have hsub := sub_enumerate
  have hT : Heap.IsTuple (Shared.heap ⟨hp, gg, dd, tk, os⟩) q ys := ⟨_, hq, rfl, m, rfl⟩
  wp_walk using wpAny_loadPart' hq
  refine wpAny_stack_any fun st => wpAny_pure ?_
  split
  · rename_i c _ _ _ _ _
    cases (c == Value.type "enumerate") <;>
      (wp_walk using wpAny_loadPart' hq, wpAny_pyIter_tuple hT
       exact ⟨_, rfl, h⟩)
  · wp_walk using wpAny_loadPart' hq, wpAny_pyIter_tuple hT
    exact ⟨_, rfl, h⟩
theorem en_call {prog : Program} {w : World} {A : Around} {E : Value → Shared → Prop} {s : Shared} {q : Addr} {ys : Array Value} {Q : Value → Shared → Prop} (hT : s.heap.IsTuple q ys)
    (h : ∀ h', IsEnum h' (s.heap.objs.size + 1) s.heap.objs.size 0 .none → h'.IsTupleIter s.heap.objs.size q 0 → (∀ b o, s.heap.get? b = some o → h'.get? b = some o) → Q (.ref (s.heap.objs.size + 1)) { s with heap := h' }) :
    wpAny (model prog w) A (call (.type "enumerate") [.ref q]) Q E s := by
  obtain ⟨⟨c, dct, dt, sl⟩, hq, hc, n, hd⟩ := hT
  obtain rfl : c = .type "tuple" := hc
  obtain rfl : dt = .seq ys n := hd
  refine callType_new F.called_enumerate (by decide) (F.typeCall_enumerate_1 _) (F.newCall_enumerate_1 _) (fun obj => F.args_object_init_2 obj _) F.entry_enumerate_new (en_new q ys n dct sl) ⟨hq, ?_⟩
  have sz : (s.heap.push { cls := .type "tuple_iterator", data := .fields #[.ref q, .int 0 0] }).objs.size = s.heap.objs.size + 1 := Heap.size_push ..
  show _ ∧ _
  rw [sz]
  have he := Heap.get?_push_size (s.heap.push { cls := .type "tuple_iterator", data := .fields #[.ref q, .int 0 0] }) (o := { cls := .type "enumerate", data := .fields #[.none, .bool false, .ref s.heap.objs.size, rawInt 0, .none, .none] }) rfl
  rw [sz] at he
  exact ⟨⟨_, he, rfl⟩, h _ he ⟨_, Heap.get?_push_of_some _ (Heap.get?_push_size _ rfl), rfl, rfl⟩ fun b o x => Heap.get?_push_of_some _ (Heap.get?_push_of_some _ x)⟩
/-- the tuple at a, each item in a new pair with its place -/
def ItE (K : PySem.W.Frag) (a : Addr) : It where
  go := fun i H => ∃ (xs : List V) (x : V), SqT K H a xs ∧ xs[i]? = some x
  yld := fun i H v H' => ∃ T x, v = .ref T ∧ H T = none ∧ H' = upd H T (.tup [.int (i : Nat), x]) ∧ ∀ xs, SqT K H a xs → xs[i]? = some x
  stop := fun i H => ∃ xs : List V, SqT K H a xs ∧ xs.length = i
theorem turn_en {P : Program} {w : World} {K : PySem.W.Frag} {elts : List Expr} {kk : Nat} {tpos : Pos} (a e it : Addr) :
    Turn P w K (.Tuple elts kk tpos) (ItE K a) [e, it] e (fun i h => (∃ old, IsEnum h e it ((i : Nat) : Int) old) ∧ h.IsTupleIter it a i ∧ e ≠ it) where
  mem := List.mem_cons_self
  obj := by
    rintro i h ⟨⟨old, he⟩, ⟨o, ho, hc, hd⟩, _⟩ b hb
    rcases List.mem_cons.mp hb with rfl | hb
    · exact ⟨_, he, fun v z => nomatch z⟩
    · rw [List.mem_singleton.mp hb]
      exact ⟨o, ho, fun v z => by rw [hd] at z; cases z⟩
  keep := by
    rintro i h h' ⟨⟨old, he⟩, hi, hne⟩ k
    exact ⟨⟨old, k e List.mem_cons_self _ he⟩, hi.at fun o z => k it (by simp) o z, hne⟩
  item := by
    intro X hP hw hK hc i pins s σ H E I hf st hg
    subst hP hw hK
    obtain ⟨⟨old, he⟩, hit, hne⟩ := st
    obtain ⟨xs, x, hq, hx⟩ := hg
    obtain ⟨its, rv, p, hz⟩ := I.tuple hq
    have hT : s.heap.IsTuple a its.toArray := p
    obtain ⟨u, hu, ru⟩ := rv.get hx
    have hel : e < s.heap.objs.size := Heap.lt_size he
    have hil : it < s.heap.objs.size := by
      obtain ⟨_, z, _⟩ := hit
      exact Heap.lt_size z
    have nea : e ≠ a := by
      rintro rfl
      obtain ⟨o, ho, hcl, _⟩ := hT
      have h1 : s.heap.get? e = some _ := he
      rw [ho] at h1
      cases h1
      exact absurd (Value.type.inj hcl) (by decide)
    have nia : a ≠ it := by
      rintro rfl
      obtain ⟨o, ho, hcl, _⟩ := hT
      obtain ⟨o', ho', hcl', _⟩ := hit
      rw [ho] at ho'
      cases ho'
      rw [hcl] at hcl'
      exact absurd (Value.type.inj hcl') (by decide)
    have dr := Draws.tuple (prog := X.prog) (w := X.w) (A := X.A.in1) (by exact I.ok.hd hc) it a nia its.toArray
    have hi : i < its.toArray.size := by
      have := (List.getElem?_eq_some_iff.mp hu).1
      simpa using this
    refine wpAny_pyNext_enum_itemD dr he ⟨hit, hT⟩ hi hne (by simp [hne, nea]) fun y h' tk hy ho st' hTp hsz hk => ?_
    have ey : y = u := by
      have h1 : its.toArray[i]? = some y := hy
      have h2 : its[i]? = some y := by simpa using h1
      rw [hu] at h2
      exact (Option.some.inj h2).symm
    subst ey
    refine ⟨_, rfl, wpAny_letOwnedTupleGo_enum (s := { s with heap := h', toks := tk + 1 }) ho fun h'' he' sb => ?_⟩
    have hT2 : h''.get? s.heap.objs.size = some { cls := .type "tuple", data := .seq #[.int i tk, y] } := (sb.2 _ (Nat.ne_of_gt hel)).trans hTp
    have new : ObjOk X.prog X.w (upd H s.heap.objs.size (.tup [.int (i : Nat), x])) h'' s.heap.objs.size (.tup [.int (i : Nat), x]) :=
      ⟨by show 2 ≤ sizeLine; decide, [.int i tk, y], .cons ⟨_, rfl⟩ (.cons ru .nil), ⟨_, hT2, rfl, _, rfl⟩⟩
    have I1 : Inv X pins σ (upd H s.heap.objs.size (.tup [.int (i : Nat), x])) { s with heap := h'', toks := tk + 1 } := by
      refine I.turnedNew (ch := [e, it]) (fun b ob hb z => ?_) hf (Nat.le_refl _) new
      have n1 : b ≠ e := fun w => hb (by simp [w])
      have n2 : b ≠ it := fun w => hb (by simp [w])
      exact (sb.2 b n1).trans (hk b ob n1 n2 z)
    refine ⟨.ref s.heap.objs.size, _, I1, rfl, ⟨_, x, rfl, I.hok.fresh (Nat.le_refl _), rfl, fun zs hy => by rw [I.tuple_inj hy hq]; exact hx⟩, ⟨⟨y, ?_⟩, st'.1.at fun o z => (sb.2 it (Ne.symm hne)).trans z, hne⟩, fun b hb => ?_⟩
    · have e1 : ((i + 1 : Nat) : Int) = (i : Int) + 1 := by omega
      rw [e1]
      exact he'
    · have hb' : b < s.heap.objs.size := by
        rcases List.mem_cons.mp hb with z | z
        · rw [z]; exact hel
        · rw [List.mem_singleton.mp z]; exact hil
      rw [upd_ne (Nat.ne_of_lt hb')]
      exact (hf b hb).1
  done := by
    intro X hP hw hK hc i pins s σ H E I hf st hg
    subst hP hw hK
    obtain ⟨⟨old, he⟩, hit, hne⟩ := st
    obtain ⟨xs, hq, hx⟩ := hg
    obtain ⟨its, rv, p, hz⟩ := I.tuple hq
    have hT : s.heap.IsTuple a its.toArray := p
    have nia : a ≠ it := by
      rintro rfl
      obtain ⟨o, ho, hcl, _⟩ := hT
      obtain ⟨o', ho', hcl', _⟩ := hit
      rw [ho] at ho'
      cases ho'
      rw [hcl] at hcl'
      exact absurd (Value.type.inj hcl') (by decide)
    have dr := Draws.tuple (prog := X.prog) (w := X.w) (A := X.A.in1) (by exact I.ok.hd hc) it a nia its.toArray
    have ei : i = its.toArray.size := by
      have := rv.length
      simp
      omega
    obtain ⟨f0, f1, f2, f3, f4, f5⟩ := hf it (by simp)
    exact wpAny_pyNext_enum_endD dr he ⟨ei ▸ hit, hT⟩ fun h' eb => ⟨rfl, I.turned (t' := s.toks) (fun b o hb z => eb b o hb z) f0 f1 f3 f4 f5⟩
  self := by
    rintro A i s Q E ⟨⟨old, he⟩, _⟩ h
    exact wpAny_pyIter_enum he h
/-- what enumerate walks -/
def EnR (K : PySem.W.Frag) (R : It → Hp → Prop) : VK := fun v H1 => ∃ a xs, [v] = [V.ref a] ∧ ((SqT K H1 a xs ∧ R (ItE K a) H1) ∨ (SqL K H1 a xs ∧ R (Ite K a) H1))
theorem pi_en {X : Cx} {e : Expr} {te : TE} {p pos tpos : Pos} {elts : List Expr} {kk : Nat} (hg : Gl X "enumerate") (hm : X.mg "enumerate" = none) (he : PE X e te) (hs : isStar e = false) :
    PI X (.Tuple elts kk tpos) (.Call (.Name "enumerate" p) [e] [] pos) (fun σ H R => te σ H (EnR X.K R)) := by
  refine ⟨fun pins s σ H R I h => ?_⟩
  have ha : PA X [e] (tCons te tNil) := pa_cons he pa_nil (starEach_cons hs)
  refine Call_ (ld_blt I hg hm boot_enumerate (PyProof.Rows.callWith_type1 (thn (ha.run pos pins s σ H (fun vs H1 => ∃ a xs, vs = [V.ref a] ∧ ((SqT X.K H1 a xs ∧ R (ItE X.K a) H1) ∨ (SqL X.K H1 a xs ∧ R (Ite X.K a) H1))) I h) fun us s1 ⟨vs, H1, I1, r1, q1⟩ => ?_) (starEach_cons hs) rfl))
  obtain ⟨a, xs, rfl, q⟩ := q1
  cases r1 with
  | cons r rr =>
    cases rr
    cases r
    have fp : ∀ b ∈ [s1.heap.objs.size + 1, s1.heap.objs.size], FpOk X pins H1 b := by
      intro b hb
      have hle : s1.heap.objs.size ≤ b := by
        rcases List.mem_cons.mp hb with z | z
        · rw [z]; exact Nat.le_add_right _ _
        · rw [List.mem_singleton.mp z]; exact Nat.le_refl _
      exact I1.fpOk hle (I1.hok.fresh hle)
    rcases q with ⟨hq, q⟩ | ⟨hq, q⟩
    · obtain ⟨its, rv, p', hz⟩ := I1.tuple hq
      refine en_call (show s1.heap.IsTuple a its.toArray from p') fun h' he' hit hk => wpAny_pyIter_enum he' ?_
      exact ⟨s1.heap.objs.size + 1, [s1.heap.objs.size + 1, s1.heap.objs.size], _, _, H1, rfl, I1.kept (t' := s1.toks) hk, turn_en a (s1.heap.objs.size + 1) s1.heap.objs.size, ⟨⟨.none, he'⟩, hit, Nat.succ_ne_self _⟩, fp, q⟩
    · obtain ⟨its, rv, p', hz⟩ := I1.list hq
      refine call_enumerate_list p'.isList fun h' he' hit _ hk => wpAny_pyIter_enum he' ?_
      exact ⟨s1.heap.objs.size + 1, [s1.heap.objs.size + 1, s1.heap.objs.size], _, _, H1, rfl, I1.kept (t' := s1.toks) hk, turn_enum a (s1.heap.objs.size + 1) s1.heap.objs.size, ⟨⟨.none, he'⟩, hit, Nat.succ_ne_self _⟩, fp, q⟩
theorem enumD_get : ∀ (ds : List D) (k i : Nat), (enumD ds k)[i]? = (ds[i]?).map fun d => D.tup [.int ((k + i : Nat) : Int), d]
  | [], k, i => by simp [enumD]
  | d :: ds, k, 0 => by simp [enumD]
  | d :: ds, k, i + 1 => by
    show (enumD ds (k + 1))[i]? = _
    rw [enumD_get ds (k + 1) i]
    have e : k + 1 + i = k + (i + 1) := by omega
    rw [e]
    rfl
theorem enumD_len : ∀ (ds : List D) (k : Nat), (enumD ds k).length = ds.length
  | [], k => rfl
  | d :: ds, k => by
    show (enumD ds (k + 1)).length + 1 = ds.length + 1
    rw [enumD_len]
theorem zipD_get : ∀ (as bs : List D) (i : Nat) (d : D), (zipD as bs)[i]? = some d → ∃ x y, as[i]? = some x ∧ bs[i]? = some y ∧ d = .tup [x, y]
  | [], bs, i, d, h => by simp [zipD] at h
  | a :: as, [], i, d, h => by simp [zipD] at h
  | a :: as, b :: bs, 0, d, h => by
    have h1 : some (D.tup [a, b]) = some d := h
    cases h1
    exact ⟨a, b, rfl, rfl, rfl⟩
  | a :: as, b :: bs, i + 1, d, h => zipD_get as bs i d h
theorem zipD_len : ∀ (as bs : List D), (zipD as bs).length = min as.length bs.length
  | [], bs => by simp [zipD]
  | a :: as, [] => by simp [zipD]
  | a :: as, b :: bs => by
    show (zipD as bs).length + 1 = min (as.length + 1) (bs.length + 1)
    rw [zipD_len]
    omega
theorem pair_rep {K : PySem.W.Frag} {S : XS} {H : Hp} {T : Addr} {v w : V} {x y : D} (hp : HRep TL K S H) (np : H T = none) (hv : Rep K S H v x) (hw : Rep K S H w y) : Same H (upd H T (.tup [v, w])) ∧ Rep K S (upd H T (.tup [v, w])) (.ref T) (.tup [x, y]) :=
  ⟨upd_laid np, Rep.newT hp np (by show 2 ≤ sizeLine; decide) (.cons hv (.cons hw .nil))⟩
theorem Itm.enT {K : PySem.W.Frag} {S : XS} {H : Hp} {a : Addr} {vs : List V} {ds : List D} (h : SqT K H a vs) (hz : vs.length ≤ sizeLine) (r : Reps K S H vs ds) : Itm TL K S H (ItE K a) (enumD ds 0) where
  go := fun S2 H2 i st hi => by
    rw [enumD_len, ← r.len] at hi
    exact ⟨vs, vs[i], SqT.stp st h, by simp [hi]⟩
  yl := fun S2 H2 i x H3 d st hp hd hy => by
    obtain ⟨T, y, rfl, np, rfl, hx⟩ := hy
    rw [enumD_get] at hd
    obtain ⟨d1, e1, rfl⟩ := Option.map_eq_some_iff.mp hd
    obtain ⟨v, e, q⟩ := r.get e1
    have e2 := hx vs (SqT.stp st h)
    rw [e] at e2
    cases e2
    have := pair_rep hp np (.int (i : Nat)) (q.stp st)
    rw [Nat.zero_add]
    exact this
  stop := fun S2 H2 st => ⟨vs, SqT.stp st h, by rw [enumD_len, r.len]⟩
  len := by rw [enumD_len, ← r.len]; exact hz
theorem Itm.enL {K : PySem.W.Frag} {S : XS} {H : Hp} {a : Addr} {vs : List V} {ds : List D} (h : SqF K S H a vs) (hz : vs.length ≤ sizeLine) (r : Reps K S H vs ds) : Itm TL K S H (Ite K a) (enumD ds 0) where
  go := fun S2 H2 i st hi => by
    rw [enumD_len, ← r.len] at hi
    exact ⟨vs, vs[i], (h.stp st).sq, by simp [hi]⟩
  yl := fun S2 H2 i x H3 d st hp hd hy => by
    obtain ⟨T, y, rfl, np, rfl, hx⟩ := hy
    rw [enumD_get] at hd
    obtain ⟨d1, e1, rfl⟩ := Option.map_eq_some_iff.mp hd
    obtain ⟨v, e, q⟩ := r.get e1
    have e2 := hx vs (h.stp st).sq
    rw [e] at e2
    cases e2
    have := pair_rep hp np (.int (i : Nat)) (q.stp st)
    rw [Nat.zero_add]
    exact this
  stop := fun S2 H2 st => ⟨vs, (h.stp st).sq, by rw [enumD_len, r.len]; exact Nat.le_refl _⟩
  len := by rw [enumD_len, ← r.len]; exact hz
theorem Itm.zT {K : PySem.W.Frag} {S : XS} {H : Hp} {a b : Addr} {vs ws : List V} {ds es : List D} (h : SqT K H a vs) (h2 : SqT K H b ws) (hz : vs.length ≤ sizeLine) (r : Reps K S H vs ds) (r2 : Reps K S H ws es) : Itm TL K S H (RZ.ItzT K a b) (zipD ds es) where
  go := fun S2 H2 i st hi => by
    rw [zipD_len, ← r.len, ← r2.len] at hi
    exact ⟨vs, ws, vs[i]'(by omega), ws[i]'(by omega), SqT.stp st h, SqT.stp st h2, by simp, by simp⟩
  yl := fun S2 H2 i x H3 d st hp hd hy => by
    obtain ⟨T, y1, y2, rfl, np, rfl, hx, hx2⟩ := hy
    obtain ⟨d1, d2, e1, e2, rfl⟩ := zipD_get _ _ _ _ hd
    obtain ⟨v, e, q⟩ := r.get e1
    obtain ⟨v2, e', q2⟩ := r2.get e2
    have z1 := hx vs (SqT.stp st h)
    have z2 := hx2 ws (SqT.stp st h2)
    rw [e] at z1
    rw [e'] at z2
    cases z1
    cases z2
    exact pair_rep hp np (q.stp st) (q2.stp st)
  stop := fun S2 H2 st => ⟨vs, ws, SqT.stp st h, SqT.stp st h2, by rw [zipD_len, ← r.len, ← r2.len]; omega⟩
  len := by rw [zipD_len, ← r.len]; omega
theorem Itm.zL {K : PySem.W.Frag} {S : XS} {H : Hp} {a b : Addr} {vs ws : List V} {ds es : List D} (h : SqF K S H a vs) (h2 : SqF K S H b ws) (hz : vs.length ≤ sizeLine) (r : Reps K S H vs ds) (r2 : Reps K S H ws es) : Itm TL K S H (Itz K a b) (zipD ds es) where
  go := fun S2 H2 i st hi => by
    rw [zipD_len, ← r.len, ← r2.len] at hi
    exact ⟨vs, ws, vs[i]'(by omega), ws[i]'(by omega), (h.stp st).sq, (h2.stp st).sq, by simp, by simp⟩
  yl := fun S2 H2 i x H3 d st hp hd hy => by
    obtain ⟨T, y1, y2, rfl, np, rfl, hx, hx2⟩ := hy
    obtain ⟨d1, d2, e1, e2, rfl⟩ := zipD_get _ _ _ _ hd
    obtain ⟨v, e, q⟩ := r.get e1
    obtain ⟨v2, e', q2⟩ := r2.get e2
    have z1 := hx vs (h.stp st).sq
    have z2 := hx2 ws (h2.stp st).sq
    rw [e] at z1
    rw [e'] at z2
    cases z1
    cases z2
    exact pair_rep hp np (q.stp st) (q2.stp st)
  stop := fun S2 H2 st => ⟨vs, ws, (h.stp st).sq, (h2.stp st).sq, by rw [zipD_len, ← r.len, ← r2.len]; omega⟩
  len := by rw [zipD_len, ← r.len]; omega
section
variable {X : Cx} {G : Ctx} {st : Sta} {R : XP} {k : Nat} (g : Gd TL E9 G st R k X)
include g
theorem si_enum {elts : List Expr} {kk : Nat} {tpos : Pos} {e : Expr} {c : CE} {p pos : Pos} (hv : st.sc.names.lookup ("enumerate" : Str) = some .globalImplicit) (he : PE X e (rdE TL E9 X.K (WE G R c))) (hn : isStar e = false) :
    PI X (.Tuple elts kk tpos) (.Call (.Name "enumerate" p) [e] [] pos) (rdI TL E9 X.K (WI G R (.enum c))) := by
  have hgl : Gl X "enumerate" := by
    show X.env.scope.names.lookup _ = _
    rw [g.sc]; exact hv
  refine ⟨fun pins s σ H R' I h => (pi_en hgl (g.blt _ (by decide +kernel)) he hn).run pins s σ H R' I ?_⟩
  obtain ⟨r, S, Q0, rl, hw, hq⟩ := h
  refine ⟨r, S, _, rl, hw, fun x S1 v H1 hx st1 hp1 rx => ?_⟩
  cases x with
  | lst ds =>
    cases rx with
    | lst a n z r0 => exact ⟨_, _, rfl, .inr ⟨.of a, hq _ S1 H1 _ hx st1 hp1 (.enL (.inl ⟨a, n⟩) z r0)⟩⟩
  | tup ds =>
    cases rx with
    | tup a z r0 => exact ⟨_, _, rfl, .inl ⟨a, hq _ S1 H1 _ hx st1 hp1 (.enT a z r0)⟩⟩
  | _ => exact hx.elim
theorem si_zip {elts : List Expr} {kk : Nat} {tpos : Pos} {e e2 : Expr} {c c2 : CE} {p pos : Pos} (hv : st.sc.names.lookup ("zip" : Str) = some .globalImplicit) (he : PE X e (rdE TL E9 X.K (WE G R c))) (he2 : PE X e2 (rdE TL E9 X.K (WE G R c2))) (hn : isStar e = false) (hn2 : isStar e2 = false) :
    PI X (.Tuple elts kk tpos) (.Call (.Name "zip" p) [e, e2] [] pos) (rdI TL E9 X.K (WI G R (.zip c c2))) := by
  have hgl : Gl X "zip" := by
    show X.env.scope.names.lookup _ = _
    rw [g.sc]; exact hv
  refine ⟨fun pins s σ H R' I h => (RZ.pi_zipA hgl (g.blt _ (by decide +kernel)) (pa_cons he (pa_cons he2 pa_nil (starEach_cons hn2)) (starEach_cons hn)) (by rw [starEach_cons hn]) (by rw [starEach_cons hn2]; rfl)).run pins s σ H R' I ?_⟩
  obtain ⟨r, S, Q0, rl, hw, hq⟩ := h
  refine ⟨r, S, _, rl, hw, fun x S1 v H1 hx st1 hp1 rx => ⟨r, S1, _, rl.stp st1 hp1, hx, fun y S2 u H2 hy st2 hp2 ry => ?_⟩⟩
  have rx2 := rx.stp st2
  cases x with
  | lst ds =>
    cases y with
    | lst es =>
      cases rx2 with
      | lst a n z r0 =>
        cases ry with
        | lst b n2 z2 r2 => exact ⟨_, _, _, _, rfl, .inl ⟨.of a, .of b, hq _ S2 H2 _ hy (st1.trans st2) hp2 (.zL (.inl ⟨a, n⟩) (.inl ⟨b, n2⟩) z r0 r2)⟩⟩
    | _ => exact hy.elim
  | tup ds =>
    cases y with
    | tup es =>
      cases rx2 with
      | tup a z r0 =>
        cases ry with
        | tup b z2 r2 => exact ⟨_, _, _, _, rfl, .inr ⟨a, b, hq _ S2 H2 _ hy (st1.trans st2) hp2 (.zT a b z r0 r2)⟩⟩
    | _ => exact hy.elim
  | _ => exact hy.elim
end
end FL

namespace FL
open PySem PySem.Spec PyProof.Rows L2
variable {TL : List (Addr × Str)} {E9 : XS × Hp}
section
variable {X : Cx} {G : Ctx} {st : Sta} {R : XP} {k : Nat}
/-! ### dict comprehensions -/
theorem dcomp_rd {σ : L2.St} {H : Hp} {Q : VK} {own : List (Str × Nat)} {kc vc : CE} {t : CT} {it : CI} {cs : CEs} (ho : ∀ i ∈ t.slots, i ∈ own.map (·.2)) (h : rdE TL E9 X.K (WE G R (.dcomp (own.map (·.2)) kc vc t it cs)) σ H Q) :
    tDc (rdI TL E9 X.K (WI G R it)) (rdG TL E9 X.K t) (rdT TL E9 X.K (WTs G noX cs)) (rdE TL E9 X.K (WE G noX kc)) (rdE TL E9 X.K (WE G noX vc)) (own.map (·.2)) σ H Q := by
  obtain ⟨r, S, Q0, rl, hw, hq⟩ := h
  refine ⟨r, S, _, rl, hw, fun ds S1 H1 J hx st1 hp1 itm => ?_⟩
  intro p np
  have n0 := fresh_back st1 rl.hp np
  have nS1 : S1 p = none := hp1.fresh np
  refine ⟨fun i m Hh => i + m = ds.length ∧ ∃ (S2 : XS) (acc : List (Key × D)) (vs : List (Key × V)), Step S1 H1 S2 Hh ∧ S2 p = some none ∧ Hh p = some (.dK vs) ∧ HRep TL X.K S2 Hh ∧ vs.length ≤ i ∧ KReps X.K S2 Hh vs acc ∧
    dcompLoop (fun r1 S2 k => WE G noX kc r1 S2 k) (fun r1 S2 k => WE G noX vc r1 S2 k) (fun r1 S2 k => WTs G noX cs r1 S2 k) t (wipeE r (own.map (·.2))) (fun acc S2 => ∀ a, S2 a = none → Q0 (.loc a) (S2.put a (.dK acc))) (ds.drop i) acc (prj S2),
    ⟨ds.length, by omega, S1.aside p, [], [], aside_step hp1 np, by unfold XS.aside; rw [if_pos rfl], upd_same, aside_hrep hp1 np, Nat.le_refl _, ⟨rfl, .nil⟩, by rw [prj_aside nS1]; exact hx⟩, ?_⟩
  rintro i m Hh ⟨hm, S2, acc, vs, st2, a2, v2, hp2, hl2, rp2, hc⟩
  by_cases hi : i < ds.length
  · obtain ⟨d, hd⟩ : ∃ d, ds[i]? = some d := ⟨ds[i], by simp [hi]⟩
    rw [drop_some hd] at hc
    refine .inr ⟨itm.go S2 Hh i st2 hi, fun H' => i + 1 + (m - 1) = ds.length ∧ ∃ (S2 : XS) (acc : List (Key × D)) (vs : List (Key × V)), Step S1 H1 S2 H' ∧ S2 p = some none ∧ H' p = some (.dK vs) ∧ HRep TL X.K S2 H' ∧ vs.length ≤ i + 1 ∧ KReps X.K S2 H' vs acc ∧
      dcompLoop (fun r1 S2 k => WE G noX kc r1 S2 k) (fun r1 S2 k => WE G noX vc r1 S2 k) (fun r1 S2 k => WTs G noX cs r1 S2 k) t (wipeE r (own.map (·.2))) (fun acc S2 => ∀ a, S2 a = none → Q0 (.loc a) (S2.put a (.dK acc))) (ds.drop (i + 1)) acc (prj S2),
      fun H' hN => ⟨m - 1, by omega, hN⟩, fun x H' hy => ?_⟩
    obtain ⟨sm, rx⟩ := itm.yl S2 Hh i x H' d st2 hp2 hd hy
    have st3 := st2.trans (hp2.sstep sm)
    have rl3 : Rl TL E9 X.K S2 H' (wipe σ (own.map (·.2))) (wipeE r (own.map (·.2))) := (rl.stp (st1.trans st3) (hp2.same sm)).wipe _
    refine ⟨_, S2, d, _, rl3, rx, hc, fun r4 σ4 h4 rl4 o4 => ⟨?_, r4, S2, _, rl4, h4, fun b S5 H5 hb st5 hp5 => ?_⟩⟩
    · rw [o4 _ ho]
      exact wipe_twice _ _
    · have a5 := (st5.asd p a2)
      have v5 : H5 p = some (.dK vs) := (a5.2 (by rw [sm p _ v2]; intro _ z; cases z)).trans (sm p _ v2)
      have kr5 : KReps X.K S5 H5 vs acc := ⟨rp2.1, (rp2.2.stp (hp2.sstep sm)).stp st5⟩
      cases b with
      | true =>
        rw [if_pos rfl] at hb
        refine iteT ⟨r4, S5, _, rl4.stp st5 hp5, hb, fun y S6 u H6 hy6 st6 hp6 ry => ⟨r4, S6, _, (rl4.stp st5 hp5).stp st6 hp6, hy6, fun z S7 v7 H7 hz7 st7 hp7 rz => ?_⟩⟩
        have a6 := st6.asd p a5.1
        have v6 : H6 p = some (.dK vs) := (a6.2 (by rw [v5]; intro _ z; cases z)).trans v5
        have a7 := st7.asd p a6.1
        have v7' : H7 p = some (.dK vs) := (a7.2 (by rw [v6]; intro _ z; cases z)).trans v6
        cases y with
        | str kk =>
          cases ry
          have kr7 : KReps X.K S7 H7 vs acc := ⟨kr5.1, (kr5.2.stp st6).stp st7⟩
          have nf : NoTF (H7 p) := by rw [v7']; exact .dK
          have kp := kr7.put (kk := Sum.inr kk) rz
          refine ⟨vs, Sum.inr kk, rfl, v7', ?_, by omega, S7, putK acc (Sum.inr kk) z, L2.putK vs (Sum.inr kk) v7, off_step nS1 np (((st3.trans st5).trans st6).trans st7), a7.1, upd_same, off_hrep a7.1 nf hp7, ?_, ⟨kp.1, Reps.off a7.1 nf kp.2⟩, hz7⟩
          · have := itm.len
            omega
          · have := L2.length_putK vs (Sum.inr kk) v7
            omega
        | _ => exact hz7.elim
      | false =>
        rw [if_neg Bool.false_ne_true] at hb
        exact iteF ⟨by omega, S5, acc, vs, st3.trans st5, a5.1, v5, hp5, by omega, kr5, hb⟩
  · have e : i = ds.length := by omega
    subst e
    rw [List.drop_length] at hc
    refine .inl ⟨itm.stop S2 Hh st2, hq (.loc p) (S2.put p (.dK acc)) _ Hh ?_ (lay_step n0.2 n0.1 (st1.trans st2)) (live_hrep a2 hp2 ⟨vs, v2, rp2⟩) (.loc p)⟩
    rw [prj_put]
    exact hc p (by unfold prj; rw [a2]; rfl)
variable (g : Gd TL E9 G st R k X)
include g
theorem se_dcomp {kx vx tg iter : Expr} {ifs : List Expr} {scope : Scope} {own : List (Str × Nat)} {pos : Pos} {kc vc : CE} {t : CT} {it : CI} {cs : CEs} (hi : PI X tg iter (rdI TL E9 X.K (WI G R it))) (ok : BlkOk st.N st.sc scope own)
    (hg : ∀ (s : Shared) (H : Hp) (C : Addr) (cl : List (Str × Addr)) (fp : List Addr), PG (X.blk s H scope (compEnvC scope cl C X.env) fp) tg (rdG TL E9 X.K t))
    (ht : ∀ (s : Shared) (H : Hp) (C : Addr) (cl : List (Str × Addr)) (fp : List Addr), PTs (X.blk s H scope (compEnvC scope cl C X.env) fp) ifs (rdT TL E9 X.K (WTs G noX cs)))
    (hk : ∀ (s : Shared) (H : Hp) (C : Addr) (cl : List (Str × Addr)) (fp : List Addr), PE (X.blk s H scope (compEnvC scope cl C X.env) fp) kx (rdE TL E9 X.K (WE G noX kc)))
    (he : ∀ (s : Shared) (H : Hp) (C : Addr) (cl : List (Str × Addr)) (fp : List Addr), PE (X.blk s H scope (compEnvC scope cl C X.env) fp) vx (rdE TL E9 X.K (WE G noX vc)))
    (hs : ∀ x, foldedSetIterable iter X.env x = pure x) (ho : ∀ i ∈ t.slots, i ∈ own.map (·.2)) : PE X (.DictComp kx vx [⟨tg, iter, ifs, 0⟩] scope pos) (rdE TL E9 X.K (WE G R (.dcomp (own.map (·.2)) kc vc t it cs))) := by
  refine ⟨fun pins s σ H Q I h => (pe_dc g.calm (by rw [g.N]; exact g.nd) hi (by rw [g.N, g.sc]; exact ok) hg ht hk he hs).run pins s σ H Q I ?_⟩
  exact dcomp_rd ho h
omit g in
theorem kget_val {K : PySem.W.Frag} {S : XS} {H : Hp} {ws : List (Key × V)} {kvs : List (Key × D)} (h : KReps K S H ws kvs) (kk : Key) : (valV ws kk).isSome = (getK kvs kk).isSome := by
  have e1 := h.has kk
  unfold valV getK
  rw [Option.isSome_map, Option.isSome_map, List.isSome_find?, List.isSome_find?]
  exact e1
omit g in
theorem inK_key {ca cb : CE} {ng : Bool} {σ : L2.St} {H : Hp} {Q1 : D → XS → V → Hp → Prop} {r : En} {S : XS} {Q0 : D → Sto → Prop} (rl : Rl TL E9 X.K S H σ r) (hw : WE G R (.inK ng ca cb) r (prj S) Q0) {Q : Bool → Hp → Prop} (hq : ∀ b S' H', Q0 (.bl b) (prj S') → Step S H S' H' → HRep TL X.K S' H' → Q b H') :
    (rdE TL E9 X.K (WE G R ca)) σ H fun y H1 => (rdE TL E9 X.K (WE G R cb)) σ H1 fun x H2 => ∃ a o, x = .ref a ∧ DGet H2 a y o ∧ Q (ng != o.isSome) H2 := by
  refine ⟨r, S, _, rl, hw, fun x S1 v H1 hx st1 hp1 rx => ⟨r, S1, _, rl.stp st1 hp1, hx, fun y S2 u H2 hy st2 hp2 ry => ?_⟩⟩
  cases x with
  | str kk =>
    cases rx
    cases y with
    | loc p =>
      cases ry
      simp only at hy
      cases ep : prj S2 p with
      | none => rw [ep] at hy; exact hy.elim
      | some ob =>
        rw [ep] at hy
        cases ob with
        | lst _ => exact hy.elim
        | dK kvs =>
          obtain ⟨ws, e1, kr⟩ := hp2.ob p _ (prj_some ep)
          refine ⟨p, valV ws (Sum.inr kk), rfl, DGet.k (k := Sum.inr kk) e1, ?_⟩
          rw [kget_val kr]
          exact hq _ S2 H2 hy (st1.trans st2) hp2
    | _ => exact hy.elim
  | _ => exact hy.elim
theorem se_inK {a b : Expr} {ca cb : CE} {pos : Pos} {ng : Bool} {op : CmpOp} (ho : op = if ng then .NotIn else .In) (ha : PE X a (rdE TL E9 X.K (WE G R ca))) (hb : PE X b (rdE TL E9 X.K (WE G R cb))) (hm : behindInMarks op b = false) : PE X (.Compare a [op] [b] pos) (rdE TL E9 X.K (WE G R (.inK ng ca cb))) := by
  refine ⟨fun pins s σ H Q I h => ?_⟩
  obtain ⟨r, S, Q0, rl, hw, hq⟩ := h
  have key := inK_key (Q1 := fun _ _ _ _ => True) (Q := fun b H' => Q (.bl b) H') rl hw fun b S' H' h0 s1 h1 => hq _ S' _ H' h0 s1 h1 (.bl _)
  cases ng with
  | false =>
    cases ho
    exact (pe_cmp (pc_din (by have := g.hu; omega) ha hb) hm).run pins s σ H Q I (by simpa [tDIn] using key)
  | true =>
    cases ho
    exact (pe_cmp (pc_dnotin (by have := g.hu; omega) ha hb) hm).run pins s σ H Q I (by simpa [tDNotIn] using key)
theorem st_inK {a b : Expr} {ca cb : CE} {pos : Pos} {ng : Bool} {op : CmpOp} (ho : op = if ng then .NotIn else .In) (ha : PE X a (rdE TL E9 X.K (WE G R ca))) (hb : PE X b (rdE TL E9 X.K (WE G R cb))) (hm : behindInMarks op b = false) : PT X (.Compare a [op] [b] pos) (rdTT TL E9 X.K (WE G R (.inK ng ca cb))) := by
  refine ⟨fun pins s σ H Q I h => ?_⟩
  obtain ⟨r, S, Q0, rl, hw, hq⟩ := h
  have key := inK_key (Q1 := fun _ _ _ _ => True) (Q := fun b H' => ∃ d, V.bl b = .bl d ∧ Q d H') rl hw fun b S' H' h0 s1 h1 => by
    obtain ⟨c, e1, q⟩ := hq _ S' H' h0 s1 h1
    cases e1
    exact ⟨_, rfl, q⟩
  cases ng with
  | false =>
    cases ho
    exact (pt_cmp (pc_din (by have := g.hu; omega) ha hb) hm).run pins s σ H Q I (by simpa [tDIn, tB] using key)
  | true =>
    cases ho
    exact (pt_cmp (pc_dnotin (by have := g.hu; omega) ha hb) hm).run pins s σ H Q I (by simpa [tDNotIn, tB] using key)
theorem se_dgetd {o a b : Expr} {co ca cb : CE} {apos pos : Pos} (ho : PE X o (rdE TL E9 X.K (WE G R co))) (ha : PE X a (rdE TL E9 X.K (WE G R ca))) (hb : PE X b (rdE TL E9 X.K (WE G R cb))) (n1 : isStar a = false) (n2 : isStar b = false) (hbase : attributeBase o "get" X.env (eval o X.env) = eval o X.env) (hp : (apos.endLine == pos.line) = true) :
    PE X (.Call (.Attribute o "get" apos) [a, b] [] pos) (rdE TL E9 X.K (WE G R (.dgetd co ca cb))) := by
  have tr : backTo pos (starEach [a, b] X.env) = [(false, eval a X.env), (false, eval b X.env)] := by rw [starEach_cons n1, starEach_cons n2]; rfl
  refine ⟨fun pins s σ H Q I h => (pe_dget2 (by have := g.hu; omega) ho ha hb ⟨hbase, by rw [tr]; rfl, hp, tr⟩).run pins s σ H Q I ?_⟩
  obtain ⟨r, S, Q0, rl, hw, hq⟩ := h
  refine ⟨r, S, _, rl, hw, fun x S1 v H1 hx st1 hp1 rx => ?_⟩
  cases x with
  | loc p =>
    cases rx
    simp only at hx
    cases ep : prj S1 p with
    | none => rw [ep] at hx; exact hx.elim
    | some ob =>
      rw [ep] at hx
      cases ob with
      | lst _ => exact hx.elim
      | dK kvs0 =>
        obtain ⟨ws0, e0, kr0⟩ := hp1.ob p _ (prj_some ep)
        refine ⟨p, rfl, .inl ⟨_, .of e0⟩, r, S1, _, rl.stp st1 hp1, hx, fun y S2 u H2 hy st2 hp2 ry => ⟨r, S2, _, (rl.stp st1 hp1).stp st2 hp2, hy, fun z S3 u3 H3 hz st3 hp3 rz => ?_⟩⟩
        cases y with
        | str kk =>
          cases ry
          simp only at hz
          cases ep3 : prj S3 p with
          | none => rw [ep3] at hz; exact hz.elim
          | some ob3 =>
            rw [ep3] at hz
            cases ob3 with
            | lst _ => exact hz.elim
            | dK kvs =>
              obtain ⟨ws, e1, kr⟩ := hp3.ob p _ (prj_some ep3)
              refine ⟨valV ws (Sum.inr kk), DGet.k (k := Sum.inr kk) e1, ?_⟩
              refine hq _ S3 _ H3 hz ((st1.trans st2).trans st3) hp3 ?_
              cases ed : getK kvs (Sum.inr kk) with
              | some d =>
                obtain ⟨w, ew, rw1⟩ := kr.get ed
                rw [ew]
                exact rw1
              | none =>
                have := kget_val kr (Sum.inr kk)
                rw [ed] at this
                cases ev : valV ws (Sum.inr kk) with
                | some _ => rw [ev] at this; cases this
                | none => exact rz
        | _ => exact hz.elim
  | _ => exact hx.elim
end
end FL

namespace FL
open PySem PySem.Spec PyProof.Rows L2
/-! ### the checker: does a core term stand for this syntax -/
def visB (sc : Scope) (x : Str) : Bool := match sc.names.lookup x with
  | some .local => true
  | some .cell => true
  | some .free => true
  | _ => false
def glB (sc : Scope) (x : Str) : Bool := match sc.names.lookup x with
  | some .globalImplicit => true
  | _ => false
def locB (st : Sta) (x : Str) : Bool := match st.sc.names.lookup x with
  | some .local => true
  | some .cell => st.fnB x
  | _ => false
def okN (x : Str) : Bool := !(x == ("__debug__" : Str)) && !(x == ("__classdict__" : Str))
def notCall : Expr → Bool
  | .Call .. => false
  | _ => true
def keyC : Str → Option Expr → Bool
  | k, some (.Constant (.str s) _ _) => decide (k = s) && decide (s.length ≤ 1000)
  | _, _ => false
def keysC : List Str → List (Option Expr) → Bool
  | [], [] => true
  | k :: ks, e :: es => keyC k e && keysC ks es
  | _, _ => false
def isF : CE → Bool
  | .lst _ => true
  | .comp .. => true
  | _ => false
def isCat : CE → Bool
  | .bin .Add _ _ => true
  | _ => false
def ownP (st : Sta) (own : List Nat) : List (Str × Nat) := own.map fun i => (st.N.getD i "", i)
def blkSt (st : Sta) (scope : Scope) : Sta := { st with sc := relS scope st.sc, fnB := fun x => scope.names.lookup x == some .cell, xr := 0, exs := [], lam := false }
mutual
def chT (st : Sta) : CT → Expr → Bool
  | .nm i, e => match e with
    | .Name x _ => decide (st.N[i]? = some x) && locB st x
    | _ => false
  | .tp ts, e => match e with
    | .Tuple es _ _ => chTs st ts es
    | _ => false
def chTs (st : Sta) : CTs → List Expr → Bool
  | .nil, es => match es with
    | [] => true
    | _ => false
  | .cons t ts, es => match es with
    | e :: r => !isStar e && chT st t e && chTs st ts r
    | [] => false
end
def notSetE : Expr → Bool
  | .Set .. => false
  | _ => true
mutual
def chE (st : Sta) : CE → Expr → Bool
  | .var i, e => match e with
    | .Name x _ => decide (st.N[i]? = some x) && visB st.sc x && okN x
    | _ => false
  | .cst c, e => match e with
    | .Constant d _ _ => decide (c = d)
    | _ => false
  | .glb i, e => match e with
    | .Name x _ => decide (st.gls[i]? = some x) && glB st.sc x && okN x
    | _ => false
  | .tup cs, e => match e with
    | .Tuple es _ _ => chEs st cs es
    | _ => false
  | .lst cs, e => match e with
    | .List es _ => chEs st cs es
    | _ => false
  | .dct ks cs, e => match e with
    | .Dict keys vals _ => keysC ks keys && chEs st cs vals && decide (cs.flat = some ks.length) && decide (ks.length = vals.length) && decide (0 < ks.length) && decide (ks.length ≤ 15) && decide ks.Nodup
    | _ => false
  | .bin op a b, e => match e with
    | .BinOp x o y _ => decide (op = o) && chE st a x && chE st b y
    | _ => false
  | .neg a, e => match e with
    | .UnaryOp .USub x _ => chE st a x
    | _ => false
  | .nt a, e => match e with
    | .UnaryOp .Not x _ => chE st a x
    | _ => false
  | .cmp op a b, e => match e with
    | .Compare x [o] [y] _ => decide (op = o) && chE st a x && chE st b y && !behindInMarks op y
    | _ => false
  | .ch o1 o2 a b c, e => match e with
    | .Compare x [p1, p2] [y, z] _ => decide (o1 = p1) && decide (o2 = p2) && chE st a x && chE st b y && chE st c z && !lastMarks [o1, o2] [y, z]
    | _ => false
  | .and cs, e => match e with
    | .BoolOp .And es _ => nst es && chEs st cs es && decide (es ≠ [] : Bool)
    | _ => false
  | .or cs, e => match e with
    | .BoolOp .Or es _ => nst es && chEs st cs es && decide (es ≠ [] : Bool)
    | _ => false
  | .ite t a b, e => match e with
    | .IfExp x y z _ => chE st t x && chE st a y && chE st b z
    | _ => false
  | .sub a i, e => match e with
    | .Subscript x y _ => chE st a x && chE st i y && !isSl y
    | _ => false
  | .dget a i, e => match e with
    | .Subscript x y _ => chE st a x && chE st i y && !isSl y
    | _ => false
  | .sl a lo hi, e => match e with
    | .Subscript x (.Slice l h none _) _ => chE st a x && chO st lo l && chO st hi h
    | _ => false
  | .rv a, e => match e with
    | .Subscript x (.Slice none none (some (.UnaryOp .USub (.Constant (.int 1) _ _) _)) _) _ => chE st a x
    | _ => false
  | .call f cs, e => match e with
    | .Call (.Name x _) es [] _ => decide (st.fns[f]? = some x) && glB st.sc x && okN x && nst es && chEs st cs es
    | _ => false
  | .callk f cs ks sh, e => match e with
    | .Call (.Name x _) es kws _ => decide (st.fns[f]? = some x) && glB st.sc x && okN x && nst es && chEs st cs es && chEs st ks (kws.map (·.value)) && nst (kws.map (·.value)) && decide (kws.map (·.arg) = (nmOf (st.shp f sh)).map some) && decide (st.shp f sh ≠ []) && decide (kws ≠ [] : Bool)
    | _ => false
  | .bi b cs, e => match e with
    | .Call (.Name x _) es [] _ => decide (x = biName b) && glB st.sc x && nst es && decide (0 < es.length) && chEs st cs es
    | _ => false
  | .isi a t, e => match e with
    | .Call (.Name x _) [y, .Name z _] [] _ => decide (x = "isinstance") && decide (z = tyB t) && glB st.sc x && glB st.sc z && !isStar y && chE st a y
    | _ => false
  | .join a b, e => match e with
    | .Call (.Attribute o m ap) [y] [] p => decide (m = "join") && notCall o && !isStar y && (ap.endLine == p.line) && chE st a o && chE st b y
    | _ => false
  | .fs cs, e => match e with
    | .JoinedStr es _ => nst es && chEs st cs es && decide (0 < es.length)
    | _ => false
  | .fv a, e => match e with
    | .FormattedValue x c none _ => decide (c = -1) && chE st a x
    | _ => false
  | .comp own c t it cs, e => match e with
    | .ListComp elt [⟨tg, iter, ifs, as⟩] scope _ => decide (as = 0) && chI st it tg iter && notSetE iter && blkC st.N st.sc scope (ownP st own) && chT (blkSt st scope) t tg && t.slots.all (fun i => own.contains i) && chE (blkSt st scope) c elt &&
        decide (ifs.length ≤ 1) && nst ifs && chEs (blkSt st scope) cs ifs
    | _ => false
  | .app a b, e => match e with
    | .Call (.Attribute o m ap) [y] [] p => decide (m = "append") && notCall o && !isStar y && (ap.endLine == p.line) && chE st a o && chE st b y
    | _ => false
  | .frz a, e => match e with
    | .Name x p => chE st a (.Name x p)
    | _ => false
  | .live a, e => (isF a || isCat a) && plainT e && chE st a e
  | .said a, e => match e with
    | .Call (.Name x _) [.Lambda ⟨[], [], none, [], [], none, []⟩ body scope _] [] _ => decide (x = "_law_said") && st.lam && glB st.sc x && LamX.lamSB st.sc scope && chE (lamSt st scope) a body
    | _ => false
  | .calld f cs sh, e => match e with
    | .Call (.Name x _) es [] _ => decide (st.fns[f]? = some x) && glB st.sc x && okN x && nst es && decide (0 < es.length) && chEs st cs es && decide (st.shp f sh ≠ []) && decide (nmOf (st.shp f sh) = [])
    | _ => false
  | .dcomp own kc vc t it cs, e => match e with
    | .DictComp kx vx [⟨tg, iter, ifs, as⟩] scope _ => decide (as = 0) && chI st it tg iter && notSetE iter && blkC st.N st.sc scope (ownP st own) && chT (blkSt st scope) t tg && t.slots.all (fun i => own.contains i) && chE (blkSt st scope) kc kx && chE (blkSt st scope) vc vx &&
        decide (ifs.length ≤ 1) && nst ifs && chEs (blkSt st scope) cs ifs
    | _ => false
  | .inK ng a b, e => match e with
    | .Compare x [o] [y] _ => decide (o = if ng then CmpOp.NotIn else CmpOp.In) && chE st a x && chE st b y && !behindInMarks o y
    | _ => false
  | .dgetd a b c, e => match e with
    | .Call (.Attribute o m ap) [x, y] [] p => decide (m = "get") && notCall o && !isStar x && !isStar y && (ap.endLine == p.line) && chE st a o && chE st b x && chE st c y
    | _ => false
  | .dctv _, _ => false
  | .comp2 .., _ => false
def chEs (st : Sta) : CEs → List Expr → Bool
  | .nil, es => match es with
    | [] => true
    | _ => false
  | .cons c cs, es => match es with
    | e :: r => !isStar e && chE st c e && chEs st cs r
    | [] => false
  | .star c cs, es => match es with
    | .Starred e _ :: r => chE st c e && chEs st cs r
    | _ => false
def chO (st : Sta) : CO → Option Expr → Bool
  | .no, e => match e with
    | none => true
    | _ => false
  | .so c, e => match e with
    | some x => chE st c x
    | none => false
def chI (st : Sta) : CI → Expr → Expr → Bool
  | .val c, _, e => chE st c e
  | .rng1 a, _, e => match e with
    | .Call (.Name x _) [y] [] _ => decide (x = "range") && glB st.sc x && !isStar y && chE st a y
    | _ => false
  | .rng2 a b, _, e => match e with
    | .Call (.Name x _) [y, z] [] _ => decide (x = "range") && glB st.sc x && !isStar y && !isStar z && chE st a y && chE st b z
    | _ => false
  | .enum c, tg, e => match tg, e with
    | .Tuple _ _ _, .Call (.Name x _) [y] [] _ => decide (x = "enumerate") && glB st.sc x && !isStar y && chE st c y
    | _, _ => false
  | .zip a b, tg, e => match tg, e with
    | .Tuple _ _ _, .Call (.Name x _) [y, z] [] _ => decide (x = "zip") && glB st.sc x && !isStar y && !isStar z && chE st a y && chE st b z
    | _, _ => false
end
def isEmptyK (k : List Keyword) : Bool := k.isEmpty
end FL

namespace FL
open PySem PySem.Spec PyProof.Rows L2
theorem visB_ok {sc : Scope} {x : Str} (h : visB sc x = true) : Vis sc x := by
  unfold visB at h
  unfold Vis
  split at h <;> first | (rename_i e; simp [e]; done) | exact absurd h Bool.false_ne_true
theorem glB_ok {sc : Scope} {x : Str} (h : glB sc x = true) : sc.names.lookup x = some .globalImplicit := by
  unfold glB at h
  split at h <;> first | (rename_i e; exact e) | exact absurd h Bool.false_ne_true
theorem locB_ok {st : Sta} {x : Str} (h : locB st x = true) : st.sc.names.lookup x = some .local ∨ (st.sc.names.lookup x = some .cell ∧ st.fnB x = true) := by
  unfold locB at h
  split at h
  · rename_i e; exact .inl e
  · rename_i e; exact .inr ⟨e, h⟩
  · exact absurd h Bool.false_ne_true
theorem okN_ok {x : Str} (h : okN x = true) : (x == ("__debug__" : Str)) = false ∧ (x == ("__classdict__" : Str)) = false := by
  unfold okN at h
  simp only [Bool.and_eq_true, Bool.not_eq_true'] at h
  exact h
theorem nst_cons {e : Expr} {es : List Expr} (h : nst (e :: es) = true) : isStar e = false ∧ nst es = true := by
  simp only [nst, List.all_cons, Bool.and_eq_true, Bool.not_eq_true'] at h
  exact h
/-- the context of a comprehension's block -/
theorem Gd.blk {G : Ctx} {st : Sta} {R : XP} {k : Nat} {X : Cx} (g : Gd TL E9 G st R k X) {scope : Scope} (hk : scope.kind = .function) (s : Shared) (H : Hp) (C : Addr) (cl : List (Str × Addr)) (fp : List Addr) :
    Gd TL E9 G (blkSt st scope) noX k (X.blk s H scope (compEnvC scope cl C X.env) fp) where
  calm := g.calm
  N := g.N
  nd := g.nd
  sc := by show relS scope X.env.scope = relS scope st.sc; rw [g.sc]
  kd := hk
  fn := fun x h => h
  room := g.room.mono (Nat.le_add_right _ _)
  gd := g.gd
  fns := fun i x h => ⟨(g.fns i x h).ex⟩
  gls := g.gls
  blt := g.blt
  tk := fun u s' ⟨_, _, _, _, _, _, _, _, _, _, _, _, _, _, _, _, ex, r, S, _, _, q⟩ => q.elim
  po := .never
  exs := fun _ _ _ h => by cases h
  sd := fun h => by cases h
section
variable {X : Cx} {G : Ctx} {st : Sta} {R : XP} {k : Nat}
theorem st_ite {t a b : Expr} {ct ca cb : CE} {pos : Pos} (ht : PT X t (rdTT TL E9 X.K (WE G R ct))) (ha : PT X a (rdTT TL E9 X.K (WE G R ca))) (hb : PT X b (rdTT TL E9 X.K (WE G R cb))) : PT X (.IfExp t a b pos) (rdTT TL E9 X.K (WE G R (.ite ct ca cb))) := by
  refine ⟨fun pins s σ H Q I h => ?_⟩
  obtain ⟨r, S, Q0, rl, hw, hq⟩ := h
  refine isTrue_IfExp (thn (ht.run pins s σ H (fun d H1 => if d = true then rdTT TL E9 X.K (WE G R ca) σ H1 Q else rdTT TL E9 X.K (WE G R cb) σ H1 Q) I ?_) fun d s1 ⟨H1, I1, q1⟩ => ?_)
  · refine ⟨r, S, _, rl, hw, fun x S1 H1 hx st1 hp1 => ?_⟩
    split at hx
    · rename_i e
      exact ⟨true, e, iteT ⟨r, S1, Q0, rl.stp st1 hp1, hx, fun d S' H' h0 s2 h2 => hq d S' H' h0 (st1.trans s2) h2⟩⟩
    · rename_i e
      exact ⟨false, e, iteF ⟨r, S1, Q0, rl.stp st1 hp1, hx, fun d S' H' h0 s2 h2 => hq d S' H' h0 (st1.trans s2) h2⟩⟩
    · exact hx.elim
  · cases d with
    | true =>
      rw [if_pos rfl] at q1 ⊢
      exact ha.run pins s1 σ H1 Q I1 q1
    | false =>
      rw [if_neg Bool.false_ne_true] at q1 ⊢
      exact hb.run pins s1 σ H1 Q I1 q1
theorem se_live {e : Expr} {c : CE} (he : PE X e (rdF TL E9 X.K (WE G R c))) : PE X e (rdE TL E9 X.K (WE G R (.live c))) := by
  refine ⟨fun pins s σ H Q I h => he.run pins s σ H Q I ?_⟩
  obtain ⟨r, S, Q0, rl, hw, hq⟩ := h
  refine ⟨r, S, _, rl, hw, fun ds S1 vs H1 p hx st1 hp1 ns np nS hv hz rp => ?_⟩
  have st2 := lay_step (o := .lst ds) ns np st1
  have hp2 := lay_hrep nS hp1 hv hz rp
  exact hq _ (S1.put p (.lst ds)) _ H1 (by rw [prj_put]; exact hx p (by unfold prj; rw [nS]; rfl)) st2 hp2 (.loc p)
/-- a + b of lists, held live -/
theorem se_cat {a b : Expr} {ca cb : CE} {pos : Pos} (ha : PE X a (rdE TL E9 X.K (WE G R ca))) (hb : PE X b (rdE TL E9 X.K (WE G R cb))) : PE X (.BinOp a .Add b pos) (rdE TL E9 X.K (WE G R (.live (.bin .Add ca cb)))) := by
  refine ⟨fun pins s σ H Q I h => (pe_op op_cat ha hb).run pins s σ H Q I ?_⟩
  obtain ⟨r, S, Q0, rl, hw, hq⟩ := h
  refine ⟨r, S, _, rl, hw, fun x S1 v H1 hx st1 hp1 rx => ⟨r, S1, _, rl.stp st1 hp1, hx, fun y S2 u H2 hy st2 hp2 ry => ?_⟩⟩
  have wx := rs_rep hp2 (rx.stp st2)
  have wy := rs_rep hp2 ry
  generalize rs (prj S2) x = dx at hy wx
  generalize rs (prj S2) y = dy at hy wy
  cases dx with
  | lst xs =>
    cases dy with
    | lst ys =>
      obtain ⟨p1, vs, rfl, h1, z1, r1⟩ := wx.lst_inv
      obtain ⟨p2, ws, rfl, h2, z2, r2⟩ := wy.lst_inv
      simp only [binD] at hy
      split at hy
      · rename_i z e
        split at e
        · rename_i hz
          cases e
          have hl : vs.length + ws.length ≤ sizeLine := by rw [r1.len, r2.len]; exact hz
          refine ⟨p1, p2, vs, ws, rfl, rfl, h1, h2, hl, fun p np => ?_⟩
          have st3 := new_step (o' := .lst (xs ++ ys)) (u := .lst (vs ++ ws)) hp2 np
          refine hq _ (S2.put p (.lst (xs ++ ys))) _ _ (by rw [prj_put]; exact hy p (by unfold prj; rw [hp2.fresh np]; rfl)) ((st1.trans st2).trans st3) (put_hrep hp2 st3 ⟨_, upd_same, by simpa using hl, (r1.app r2).stp st3⟩) (.loc p)
        · cases e
      · exact hy.elim
    | _ => exact hy.elim
  | _ => cases dy <;> first | exact hy.elim | (simp only [binD] at hy; exact hy.elim) | (simp only [binD] at hy; split at hy <;> first | exact hy.elim | (rename_i z e; split at e <;> first | (cases e; exact hy.elim) | cases e) | (rename_i e; cases e; exact hy.elim))
theorem kw_facts {env : Env} {pos : Pos} : ∀ {kws : List Keyword} {ns : List Str}, kws.map (·.arg) = ns.map some → (backToKw pos (keywordEach kws env)).all (·.1.isSome) = true ∧ (backToKw pos (keywordEach kws env)).filterMap (·.1) = ns ∧ (backToKw pos (keywordEach kws env)).any (·.1.isNone) = false
  | [], [], _ => ⟨rfl, rfl, rfl⟩
  | [], _ :: _, h => by cases h
  | ⟨a, v, p⟩ :: kws, [], h => by cases h
  | ⟨a, v, p⟩ :: kws, n :: ns, h => by
    simp only [List.map_cons, List.cons.injEq] at h
    obtain ⟨rfl, h⟩ := h
    obtain ⟨h1, h2, h3⟩ := kw_facts (env := env) (pos := pos) (kws := kws) (ns := ns) h
    refine ⟨?_, ?_, ?_⟩
    · show (true && (backToKw pos (keywordEach kws env)).all (·.1.isSome)) = true
      rw [h1]; rfl
    · show n :: (backToKw pos (keywordEach kws env)).filterMap (·.1) = n :: ns
      rw [h2]
    · show (false || (backToKw pos (keywordEach kws env)).any (·.1.isNone)) = false
      rw [h3]; rfl
theorem sk_cons {e : Expr} {kws : List Keyword} {nm : Option Str} {kpos : Pos} {c : CE} {cs : CEs} (ha : PE X e (rdE TL E9 X.K (WE G R c))) (hr : PK X kws (rdA TL E9 X.K (WEs G R cs))) : PK X (⟨nm, e, kpos⟩ :: kws) (rdA TL E9 X.K (WEs G R (.cons c cs))) := by
  refine ⟨fun pos pins s σ H Q I h => (pk_cons ha hr).run pos pins s σ H Q I ?_⟩
  obtain ⟨r, S, Q0, rl, hw, hq⟩ := h
  refine ⟨r, S, _, rl, hw, fun x S1 v H1 hx st1 hp1 rx => ⟨r, S1, _, rl.stp st1 hp1, hx, fun xs S2 vs H2 hy st2 hp2 ry => ?_⟩⟩
  exact hq _ S2 _ H2 hy (st1.trans st2) hp2 (.cons (rx.stp st2) ry)
theorem sk_nil : PK X [] (rdA TL E9 X.K (WEs G R .nil)) := by
  refine ⟨fun pos pins s σ H Q I h => pk_nil.run pos pins s σ H Q I ?_⟩
  obtain ⟨r, S, Q0, rl, hw, hq⟩ := h
  exact hq [] S [] H hw (.refl _ _) rl.hp .nil
theorem se_callk (g : Gd TL E9 G st R k X) {i sh : Nat} {x : Str} {es : List Expr} {kws : List Keyword} {cs ks : CEs} {p pos : Pos} (hf : st.fns[i]? = some x) (hv : st.sc.names.lookup x = some .globalImplicit) (hd : (x == ("__debug__" : Str)) = false)
    (ha : PA X es (rdA TL E9 X.K (WEs G R cs))) (hn : nst es = true) (hkw : PK X kws (rdA TL E9 X.K (WEs G R ks))) (hnm : kws.map (·.arg) = (nmOf (st.shp i sh)).map some) (hne : st.shp i sh ≠ []) (hc : es = [] → cs = .nil) : PE X (.Call (.Name x p) es kws pos) (rdE TL E9 X.K (WE G R (.callk i cs ks sh))) := by
  obtain ⟨fa, fd, ps, F, hm, hk, _, hkb⟩ := (g.fns i x hf).ex
  obtain ⟨gg, gV, hb, hrep⟩ := hkb sh hne
  obtain ⟨k1, k2, k3⟩ := kw_facts (env := X.env) (pos := pos) hnm
  refine ⟨fun pins s σ H Q I h => ?_⟩
  obtain ⟨r, S, Q0, rl, hw, hq⟩ := h
  refine wpAny_Call_Name_kw (ld_glob I (show X.env.scope.names.lookup x = _ by rw [g.sc]; exact hv) hm ?_ hd)
  have fin : ∀ {us ws : List Value} {vs zs : List V} {H2 : Hp} {s2 : Shared} {S2 : XS} {ds es : List D}, Inv X pins σ H2 s2 → Vals vs us → Vals zs ws → Step S H S2 H2 → HRep TL X.K S2 H2 → Reps X.K S2 H2 vs ds → Reps X.K S2 H2 zs es →
      ((G.ord i sh ds es).length = G.ar i ∧ G.fn i (G.ord i sh ds es) (prj S2) Q0 fun e S2 => R e r S2) →
      wpAny (model X.prog X.w) X.A (call (.ref fa) us ((nmOf (st.shp i sh)).zip ws)) (EP X pins σ Q) X.xe s2 := by
    intro us ws vs zs H2 s2 S2 ds es I2 rv rz st2 hp2 rp rq hw2
    have hsp := sp_of (Q := Q) (rl.stp st2 hp2) hw2.1 (hrep S2 H2 vs ds zs es rp rq) hw2.2 fun d S' v H' h0 s2 h2 r2 => hq d S' v H' h0 (st2.trans s2) h2 r2
    have rv2 := hb.rel rv rz
    have hl : (gg us ws).length = ps.length := by rw [← rv2.length]; exact F.len _ _ _ _ hsp
    exact run_fnG (args := ⟨us, (nmOf (st.shp i sh)).zip ws⟩) F (g.room.mono (Nat.le_add_right _ _)) g.gd (hb.to s2 us ws I2.kIn hl) (tk_call g I2) I2 rv2 hsp
  cases es with
  | nil =>
    refine PySem.W.callWith_KW0 (h₀ := X.base) I.ok.mod.kin hk k1 ?_ (by rw [k3]; rfl)
    cases cs with
    | nil =>
      refine thn (hkw.run pos pins s σ H (fun zs H2 => ∃ es S2, Step S H S2 H2 ∧ HRep TL X.K S2 H2 ∧ Reps X.K S2 H2 zs es ∧ (G.ord i sh [] es).length = G.ar i ∧ G.fn i (G.ord i sh [] es) (prj S2) Q0 fun e S2 => R e r S2) I
        ⟨r, S, _, rl, hw, fun es S2 zs H2 h0 st2 hp2 rq => ⟨es, S2, st2, hp2, rq, h0⟩⟩) fun ws s2 ⟨zs, H2, I2, rz, es, S2, st2, hp2, rq, h0⟩ => ⟨I2.kIn, ?_⟩
      rw [k2]
      exact fin (us := []) I2 .nil rz st2 hp2 .nil rq h0
    | cons c cs => cases hc rfl
    | star c cs => cases hc rfl
  | cons e es =>
    obtain ⟨n1, n2⟩ := nst_cons hn
    refine PySem.W.callWith_KW (h₀ := X.base) I.ok.mod.kin hk k1 (thn (ha.run pos pins s σ H (fun vs H1 => ∃ ds S1, Step S H S1 H1 ∧ HRep TL X.K S1 H1 ∧ Reps X.K S1 H1 vs ds ∧ WEs G R ks r (prj S1) (fun zs S2 => (G.ord i sh ds zs).length = G.ar i ∧ G.fn i (G.ord i sh ds zs) S2 Q0 fun e S2 => R e r S2)) I
      ⟨r, S, _, rl, hw, fun ds S1 vs H1 h0 st1 hp1 rp => ⟨ds, S1, st1, hp1, rp, h0⟩⟩) fun us s1 ⟨vs, H1, I1, rv, ds, S1, st1, hp1, rp, hw1⟩ => ?_) (by
        rw [k3, starEach_cons n1]
        show ((false || (backTo pos (starEach es X.env)).any (·.1)) || false) = false
        rw [star_any n2]; rfl) (starEach_cons n1)
    refine thn (hkw.run pos pins s1 σ H1 (fun zs H2 => ∃ es S2, Step S H S2 H2 ∧ HRep TL X.K S2 H2 ∧ Reps X.K S2 H2 vs ds ∧ Reps X.K S2 H2 zs es ∧ (G.ord i sh ds es).length = G.ar i ∧ G.fn i (G.ord i sh ds es) (prj S2) Q0 fun e S2 => R e r S2) I1
        ⟨r, S1, _, rl.stp st1 hp1, hw1, fun es S2 zs H2 h0 st2 hp2 rq => ⟨es, S2, st1.trans st2, hp2, rp.stp st2, rq, h0⟩⟩) fun ws s2 ⟨zs, H2, I2, rz, es, S2, st2, hp2, rp2, rq, h0⟩ => ⟨I2.kIn, ?_⟩
    rw [k2]
    exact fin I2 rv rz st2 hp2 rp2 rq h0
theorem se_calld (g : Gd TL E9 G st R k X) {i sh : Nat} {x : Str} {e : Expr} {es : List Expr} {cs : CEs} {p pos : Pos} (hf : st.fns[i]? = some x) (hv : st.sc.names.lookup x = some .globalImplicit) (hd : (x == ("__debug__" : Str)) = false)
    (ha : PA X (e :: es) (rdA TL E9 X.K (WEs G R cs))) (hn : nst (e :: es) = true) (hne : st.shp i sh ≠ []) (hnm : nmOf (st.shp i sh) = []) : PE X (.Call (.Name x p) (e :: es) [] pos) (rdE TL E9 X.K (WE G R (.calld i cs sh))) := by
  obtain ⟨fa, fd, ps, F, hm, hk, _, hkb⟩ := (g.fns i x hf).ex
  obtain ⟨gg, gV, hb, hrep⟩ := hkb sh hne
  refine ⟨fun pins s σ H Q I h => ?_⟩
  obtain ⟨r, S, Q0, rl, hw, hq⟩ := h
  refine wpAny_Call_Name_kw (ld_glob I (show X.env.scope.names.lookup x = _ by rw [g.sc]; exact hv) hm ?_ hd)
  obtain ⟨n1, n2⟩ := nst_cons hn
  refine PySem.W.callWith_K (h₀ := X.base) I.ok.mod.kin hk (thn (ha.run pos pins s σ H (fun vs H1 => ∃ ds S1, Step S H S1 H1 ∧ HRep TL X.K S1 H1 ∧ Reps X.K S1 H1 vs ds ∧ (G.ord i sh ds []).length = G.ar i ∧ G.fn i (G.ord i sh ds []) (prj S1) Q0 fun e S2 => R e r S2) I
    ⟨r, S, _, rl, hw, fun ds S1 vs H1 h0 st1 hp1 rp => ⟨ds, S1, st1, hp1, rp, h0⟩⟩) fun us s1 ⟨vs, H1, I1, rv, ds, S1, st1, hp1, rp, hw1⟩ => ⟨I1.kIn, ?_⟩) (starEach_cons n1) (star_any n2)
  have hsp := sp_of (Q := Q) (rl.stp st1 hp1) hw1.1 (hrep S1 H1 vs ds [] [] rp .nil) hw1.2 fun d S' v H' h0 s2 h2 r2 => hq d S' v H' h0 (st1.trans s2) h2 r2
  have rv2 := hb.rel rv .nil
  have hl : (gg us []).length = ps.length := by rw [← rv2.length]; exact F.len _ _ _ _ hsp
  have hbt := hb.to s1 us [] I1.kIn hl
  rw [hnm] at hbt
  exact run_fnG (args := ⟨us, []⟩) F (g.room.mono (Nat.le_add_right _ _)) g.gd hbt (tk_call g I1) I1 rv2 hsp
end
end FL

namespace FL
open PySem PySem.Spec PyProof.Rows L2
/-! ### the checker is right -/
structure SndE (TL : List (Addr × Str)) (E9 : XS × Hp) (G : Ctx) (R : XP) (X : Cx) (c : CE) (e : Expr) : Prop where
  pe : PE X e (rdE TL E9 X.K (WE G R c))
  pt : PT X e (rdTT TL E9 X.K (WE G R c))
  pf : isF c = true → PE X e (rdF TL E9 X.K (WE G R c))
  pc : isCat c = true → PE X e (rdE TL E9 X.K (WE G R (.live c)))
structure SndEs (TL : List (Addr × Str)) (E9 : XS × Hp) (G : Ctx) (R : XP) (X : Cx) (cs : CEs) (es : List Expr) : Prop where
  pa : PA X es (rdA TL E9 X.K (WEs G R cs))
  nil : es = [] → cs = .nil
  andE : ∀ pos, es ≠ [] → nst es = true → PE X (.BoolOp .And es pos) (rdE TL E9 X.K (WAnd G R cs)) ∧ PW X (.BoolOp .And es pos) (rdTT TL E9 X.K (WAnd G R cs))
  orE : ∀ pos, es ≠ [] → nst es = true → PE X (.BoolOp .Or es pos) (rdE TL E9 X.K (WOr G R cs)) ∧ PW X (.BoolOp .Or es pos) (rdTT TL E9 X.K (WOr G R cs))
  pj : nst es = true → PJ X es (fsTs TL E9 X.K G R cs)
  ts : nst es = true → es.length ≤ 1 → PTs X es (rdT TL E9 X.K (WTs G R cs))
  pps : ∀ pos ks keys, keysC ks keys = true → cs.flat = some ks.length → PPs X pos keys es (dctTs TL E9 X.K G R ks cs)
  pk : ∀ kws : List Keyword, nst es = true → kws.map (·.value) = es → PK X kws (rdA TL E9 X.K (WEs G R cs))
  hd : ∀ e, es = [e] → nst es = true → ∃ c, cs = .cons c .nil ∧ PE X e (rdE TL E9 X.K (WE G R c))
theorem SndE.of {G : Ctx} {R : XP} {X : Cx} {c : CE} {e : Expr} (h : PE X e (rdE TL E9 X.K (WE G R c))) (hp : plainT e = true) (hf : isF c = false) (hc : isCat c = false := by rfl) : SndE TL E9 G R X c e := ⟨h, st_plain h hp, fun z => (by rw [hf] at z; cases z), fun z => (by rw [hc] at z; cases z)⟩
theorem keysC_len : ∀ {ks : List Str} {keys : List (Option Expr)}, keysC ks keys = true → ks.length = keys.length ∧ keys.all (·.isSome) = true
  | [], [], _ => ⟨rfl, rfl⟩
  | [], _ :: _, h => absurd h Bool.false_ne_true
  | _ :: _, [], h => absurd h Bool.false_ne_true
  | k :: ks, e :: es, h => by
    simp only [keysC, Bool.and_eq_true] at h
    obtain ⟨h1, h2⟩ := keysC_len h.2
    cases e with
    | none => exact absurd h.1 Bool.false_ne_true
    | some e => exact ⟨by simp [h1], by simpa using h2⟩
theorem keyC_ok {k : Str} {e : Option Expr} (h : keyC k e = true) : ∃ j p, e = some (.Constant (.str k) j p) := by
  unfold keyC at h
  split at h
  · simp only [Bool.and_eq_true, decide_eq_true_eq] at h
    obtain ⟨rfl, _⟩ := h
    exact ⟨_, _, rfl⟩
  · exact absurd h Bool.false_ne_true
theorem notCall_att {o : Expr} {m : Str} {env : Env} (h : notCall o = true) : attributeBase o m env (eval o env) = eval o env := by
  cases o <;> first | rfl | exact absurd h Bool.false_ne_true
theorem own_map (st : Sta) (own : List Nat) : (ownP st own).map (·.2) = own := by
  unfold ownP
  rw [List.map_map]
  show own.map (fun i => i) = own
  simp
mutual
theorem chT_ok {G : Ctx} {R : XP} {k : Nat} {X : Cx} {st : Sta} (g : Gd TL E9 G st R k X) : ∀ (t : CT) (e : Expr), chT st t e = true → PG X e (rdG TL E9 X.K t)
  | .nm i, e, h => by
    cases e with
    | Name x pos =>
      simp only [chT, Bool.and_eq_true, decide_eq_true_eq] at h
      exact sg_name g h.1 (locB_ok h.2)
    | _ => exact absurd h Bool.false_ne_true
  | .tp ts, e, h => by
    cases e with
    | Tuple es j pos =>
      have q := chTs_ok g ts es h
      exact sg_tup g q.1 q.2.1 q.2.2
    | _ => exact absurd h Bool.false_ne_true
theorem chTs_ok {G : Ctx} {R : XP} {k : Nat} {X : Cx} {st : Sta} (g : Gd TL E9 G st R k X) : ∀ (ts : CTs) (es : List Expr), chTs st ts es = true → PGs X es (rdGs TL E9 X.K ts) ∧ nst es = true ∧ ts.len = es.length
  | .nil, es, h => by
    cases es with
    | nil => exact ⟨sgs_nil, rfl, rfl⟩
    | cons => exact absurd h Bool.false_ne_true
  | .cons t ts, es, h => by
    cases es with
    | nil => exact absurd h Bool.false_ne_true
    | cons e es =>
      simp only [chTs, Bool.and_eq_true, Bool.not_eq_true'] at h
      obtain ⟨⟨h1, h2⟩, h3⟩ := h
      obtain ⟨q1, q2, q3⟩ := chTs_ok g ts es h3
      exact ⟨sgs_cons (chT_ok g t e h2) q1 h1, by simp only [nst, List.all_cons, h1]; exact q2, by simp [CTs.len, q3]⟩
end
mutual
theorem sndE (G : Ctx) : ∀ (c : CE) {R : XP} {k : Nat} {X : Cx} {st : Sta} (g : Gd TL E9 G st R k X) (e : Expr), chE st c e = true → SndE TL E9 G R X c e
  | .var i, R, k, X, st, g, e, h => by
    cases e with
    | Name x pos =>
      simp only [chE, Bool.and_eq_true, decide_eq_true_eq] at h
      exact .of (se_var g h.1.1 (visB_ok h.1.2) (okN_ok h.2).1 (okN_ok h.2).2) rfl rfl
    | _ => exact absurd h Bool.false_ne_true
  | .cst c, R, k, X, st, g, e, h => by
    cases e with
    | Constant d j pos =>
      simp only [chE, decide_eq_true_eq] at h
      subst h
      exact .of (se_cst g) rfl rfl
    | _ => exact absurd h Bool.false_ne_true
  | .glb i, R, k, X, st, g, e, h => by
    cases e with
    | Name x pos =>
      simp only [chE, Bool.and_eq_true, decide_eq_true_eq] at h
      exact .of (se_glb g h.1.1 (glB_ok h.1.2) (okN_ok h.2).1) rfl rfl
    | _ => exact absurd h Bool.false_ne_true
  | .tup cs, R, k, X, st, g, e, h => by
    cases e with
    | Tuple es j pos => exact .of (se_tup g (sndEs G cs g es h).pa) rfl rfl
    | _ => exact absurd h Bool.false_ne_true
  | .lst cs, R, k, X, st, g, e, h => by
    cases e with
    | List es pos =>
      have f := sf_lst (pos := pos) g (sndEs G cs g es h).pa
      exact ⟨se_of_F f, st_plain (se_of_F f) rfl, fun _ => f, fun z => (by cases z)⟩
    | _ => exact absurd h Bool.false_ne_true
  | .dct ks cs, R, k, X, st, g, e, h => by
    cases e with
    | Dict keys vals pos =>
      simp only [chE, Bool.and_eq_true, decide_eq_true_eq] at h
      obtain ⟨⟨⟨⟨⟨⟨h1, h2⟩, h3⟩, h4⟩, h5⟩, h6⟩, h7⟩ := h
      obtain ⟨k1, k2⟩ := keysC_len h1
      exact .of (se_dct g ((sndEs G cs g vals h2).pps pos ks keys h1 h3) k2 (by omega) (fun z => by rw [z] at k1; simp at k1; rw [k1] at h5; exact absurd h5 (by decide)) (by omega) k1 h3 h7) rfl rfl
    | _ => exact absurd h Bool.false_ne_true
  | .bin op a b, R, k, X, st, g, e, h => by
    cases e with
    | BinOp x o y pos =>
      simp only [chE, Bool.and_eq_true, decide_eq_true_eq] at h
      obtain ⟨⟨rfl, h1⟩, h2⟩ := h
      have q := se_bin (pos := pos) (op := op) g (sndE G a g x h1).pe (sndE G b g y h2).pe
      refine ⟨q, st_plain q rfl, fun z => (by cases z), fun z => ?_⟩
      cases op with
      | Add => exact se_cat (sndE G a g x h1).pe (sndE G b g y h2).pe
      | _ => cases z
    | _ => exact absurd h Bool.false_ne_true
  | .neg a, R, k, X, st, g, e, h => by
    cases e with
    | UnaryOp o x pos =>
      cases o with
      | USub => exact .of (se_neg g (sndE G a g x h).pe) rfl rfl
      | _ => exact absurd h Bool.false_ne_true
    | _ => exact absurd h Bool.false_ne_true
  | .nt a, R, k, X, st, g, e, h => by
    cases e with
    | UnaryOp o x pos =>
      cases o with
      | Not =>
        have q := sndE G a g x h
        exact ⟨se_nt g q.pe, st_nt q.pt, fun z => (by cases z), fun z => (by cases z)⟩
      | _ => exact absurd h Bool.false_ne_true
    | _ => exact absurd h Bool.false_ne_true
  | .cmp op a b, R, k, X, st, g, e, h => by
    cases e with
    | Compare x os ys pos =>
      match os, ys, h with
      | [o], [y], h =>
        simp only [chE, Bool.and_eq_true, decide_eq_true_eq, Bool.not_eq_true'] at h
        obtain ⟨⟨⟨rfl, h1⟩, h2⟩, h3⟩ := h
        have qa := sndE G a g x h1
        have qb := sndE G b g y h2
        exact ⟨se_cmp g qa.pe qb.pe h3, st_cmp g qa.pe qb.pe h3, fun z => (by cases z), fun z => (by cases z)⟩
      | [], _, h => exact absurd h Bool.false_ne_true
      | _ :: _ :: _, _, h => exact absurd h Bool.false_ne_true
      | [_], [], h => exact absurd h Bool.false_ne_true
      | [_], _ :: _ :: _, h => exact absurd h Bool.false_ne_true
    | _ => exact absurd h Bool.false_ne_true
  | .ch o1 o2 a b c, R, k, X, st, g, e, h => by
    cases e with
    | Compare x os ys pos =>
      match os, ys, h with
      | [p1, p2], [y, z], h =>
        simp only [chE, Bool.and_eq_true, decide_eq_true_eq, Bool.not_eq_true'] at h
        obtain ⟨⟨⟨⟨⟨rfl, rfl⟩, h1⟩, h2⟩, h3⟩, h4⟩ := h
        have qa := sndE G a g x h1
        have qb := sndE G b g y h2
        have qc := sndE G c g z h3
        exact ⟨se_ch g qa.pe qb.pe qc.pe h4, st_ch g qa.pe qb.pe qc.pe h4, fun z => (by cases z), fun z => (by cases z)⟩
      | [], _, h => exact absurd h Bool.false_ne_true
      | [_], _, h => exact absurd h Bool.false_ne_true
      | _ :: _ :: _ :: _, _, h => exact absurd h Bool.false_ne_true
      | [_, _], [], h => exact absurd h Bool.false_ne_true
      | [_, _], [_], h => exact absurd h Bool.false_ne_true
      | [_, _], _ :: _ :: _ :: _, h => exact absurd h Bool.false_ne_true
    | _ => exact absurd h Bool.false_ne_true
  | .and cs, R, k, X, st, g, e, h => by
    cases e with
    | BoolOp o es pos =>
      cases o with
      | And =>
        simp only [chE, Bool.and_eq_true, decide_eq_true_eq] at h
        have q := (sndEs G cs g es h.1.2).andE pos h.2 h.1.1
        exact ⟨q.1, q.2.pt, fun z => (by cases z), fun z => (by cases z)⟩
      | _ => exact absurd h Bool.false_ne_true
    | _ => exact absurd h Bool.false_ne_true
  | .or cs, R, k, X, st, g, e, h => by
    cases e with
    | BoolOp o es pos =>
      cases o with
      | Or =>
        simp only [chE, Bool.and_eq_true, decide_eq_true_eq] at h
        have q := (sndEs G cs g es h.1.2).orE pos h.2 h.1.1
        exact ⟨q.1, q.2.pt, fun z => (by cases z), fun z => (by cases z)⟩
      | _ => exact absurd h Bool.false_ne_true
    | _ => exact absurd h Bool.false_ne_true
  | .ite t a b, R, k, X, st, g, e, h => by
    cases e with
    | IfExp x y z pos =>
      simp only [chE, Bool.and_eq_true] at h
      have qt := sndE G t g x h.1.1
      have qa := sndE G a g y h.1.2
      have qb := sndE G b g z h.2
      exact ⟨se_ite qt.pt qa.pe qb.pe, st_ite qt.pt qa.pt qb.pt, fun z => (by cases z), fun z => (by cases z)⟩
    | _ => exact absurd h Bool.false_ne_true
  | .sub a i, R, k, X, st, g, e, h => by
    cases e with
    | Subscript x y pos =>
      simp only [chE, Bool.and_eq_true, Bool.not_eq_true'] at h
      exact .of (se_sub g (sndE G a g x h.1.1).pe (sndE G i g y h.1.2).pe h.2) rfl rfl
    | _ => exact absurd h Bool.false_ne_true
  | .dget a i, R, k, X, st, g, e, h => by
    cases e with
    | Subscript x y pos =>
      simp only [chE, Bool.and_eq_true, Bool.not_eq_true'] at h
      exact .of (se_dget g (sndE G a g x h.1.1).pe (sndE G i g y h.1.2).pe h.2) rfl rfl
    | _ => exact absurd h Bool.false_ne_true
  | .sl a lo hi, R, k, X, st, g, e, h => by
    unfold chE at h
    split at h
    · simp only [Bool.and_eq_true] at h
      exact .of (se_sl (sndE G a g _ h.1.1).pe (sndO G lo g _ h.1.2) (sndO G hi g _ h.2)) rfl rfl
    · exact absurd h Bool.false_ne_true
  | .rv a, R, k, X, st, g, e, h => by
    unfold chE at h
    split at h
    · exact .of (se_rv (sndE G a g _ h).pe) rfl rfl
    · exact absurd h Bool.false_ne_true
  | .call f cs, R, k, X, st, g, e, h => by
    unfold chE at h
    split at h
    · rename_i x p es pos
      simp only [Bool.and_eq_true, decide_eq_true_eq] at h
      obtain ⟨⟨⟨⟨h1, h2⟩, h3⟩, h4⟩, h5⟩ := h
      have q := sndEs G cs g es h5
      cases es with
      | nil =>
        cases q.nil rfl
        exact .of (se_call0 g h1 (glB_ok h2) (okN_ok h3).1) rfl rfl
      | cons e es => exact .of (se_call g h1 (glB_ok h2) (okN_ok h3).1 q.pa h4) rfl rfl
    · exact absurd h Bool.false_ne_true
  | .callk f cs ks sh, R, k, X, st, g, e, h => by
    unfold chE at h
    split at h
    · rename_i x p es kws pos
      simp only [Bool.and_eq_true, decide_eq_true_eq] at h
      obtain ⟨⟨⟨⟨⟨⟨⟨⟨⟨h1, h2⟩, h3⟩, h4⟩, h5⟩, h6⟩, h7⟩, h8⟩, h9⟩, _⟩ := h
      have q := sndEs G cs g es h5
      exact .of (se_callk g h1 (glB_ok h2) (okN_ok h3).1 q.pa h4 ((sndEs G ks g _ h6).pk kws h7 rfl) h8 h9 q.nil) rfl rfl
    · exact absurd h Bool.false_ne_true
  | .bi b cs, R, k, X, st, g, e, h => by
    unfold chE at h
    split at h
    · rename_i x p es pos
      simp only [Bool.and_eq_true, decide_eq_true_eq] at h
      obtain ⟨⟨⟨⟨rfl, h2⟩, h3⟩, h4⟩, h5⟩ := h
      cases es with
      | nil => exact absurd h4 (Nat.lt_irrefl _)
      | cons e es => exact .of (se_bi g (glB_ok h2) (sndEs G cs g _ h5).pa h3) rfl rfl
    · exact absurd h Bool.false_ne_true
  | .isi a t, R, k, X, st, g, e, h => by
    unfold chE at h
    split at h
    · simp only [Bool.and_eq_true, decide_eq_true_eq, Bool.not_eq_true'] at h
      obtain ⟨⟨⟨⟨⟨rfl, rfl⟩, h3⟩, h4⟩, h5⟩, h6⟩ := h
      exact .of (se_isi g (glB_ok h3) (glB_ok h4) (sndE G a g _ h6).pe h5) rfl rfl
    · exact absurd h Bool.false_ne_true
  | .join a b, R, k, X, st, g, e, h => by
    unfold chE at h
    split at h
    · simp only [Bool.and_eq_true, decide_eq_true_eq, Bool.not_eq_true'] at h
      obtain ⟨⟨⟨⟨⟨rfl, h2⟩, h3⟩, h4⟩, h5⟩, h6⟩ := h
      exact .of (se_join (sndE G a g _ h5).pe (sndE G b g _ h6).pe h3 (notCall_att h2) h4) rfl rfl
    · exact absurd h Bool.false_ne_true
  | .fs cs, R, k, X, st, g, e, h => by
    cases e with
    | JoinedStr es pos =>
      simp only [chE, Bool.and_eq_true, decide_eq_true_eq] at h
      have q := sndEs G cs g es h.1.2
      match es, h, q with
      | [], h, q => exact absurd h.2 (Nat.lt_irrefl _)
      | [e], h, q =>
        obtain ⟨c, rfl, qe⟩ := q.hd e rfl h.1.1
        exact .of (se_fs1 qe) rfl rfl
      | e1 :: e2 :: es, h, q => exact .of (se_fs (q.pj h.1.1)) rfl rfl
    | _ => exact absurd h Bool.false_ne_true
  | .fv a, R, k, X, st, g, e, h => by
    unfold chE at h
    split at h
    · simp only [Bool.and_eq_true, decide_eq_true_eq] at h
      obtain ⟨rfl, h2⟩ := h
      exact .of (se_fv (sndE G a g _ h2).pe) rfl rfl
    · exact absurd h Bool.false_ne_true
  | .comp own c t it cs, R, k, X, st, g, e, h => by
    unfold chE at h
    split at h
    · rename_i elt tg iter ifs as scope pos
      simp only [Bool.and_eq_true, decide_eq_true_eq] at h
      obtain ⟨⟨⟨⟨⟨⟨⟨⟨⟨rfl, h2⟩, h3⟩, h4⟩, h5⟩, h6⟩, h7⟩, h8⟩, h9⟩, h10⟩ := h
      have bo := blkOk_by h4
      have f := sf_comp (c := c) (t := t) (it := it) (cs := cs) (pos := pos) g (sndI G it g tg iter h2) bo (fun s H C cl fp => chT_ok (g.blk bo.kind s H C cl fp) t tg h5)
        (fun s H C cl fp => (sndEs G cs (g.blk bo.kind s H C cl fp) ifs h10).ts h9 h8) (fun s H C cl fp => (sndE G c (g.blk bo.kind s H C cl fp) elt h7).pe) (fold_ok h3 _)
        (by rw [own_map]; intro i hi; have := List.all_eq_true.mp h6 i hi; simpa using this)
      rw [own_map] at f
      exact ⟨se_of_F f, st_plain (se_of_F f) rfl, fun _ => f, fun z => (by cases z)⟩
    · exact absurd h Bool.false_ne_true
  | .app a b, R, k, X, st, g, e, h => by
    unfold chE at h
    split at h
    · simp only [Bool.and_eq_true, decide_eq_true_eq, Bool.not_eq_true'] at h
      obtain ⟨⟨⟨⟨⟨rfl, h2⟩, h3⟩, h4⟩, h5⟩, h6⟩ := h
      exact .of (se_app g (sndE G a g _ h5).pe (sndE G b g _ h6).pe h3 (notCall_att h2) h4) rfl rfl
    · exact absurd h Bool.false_ne_true
  | .frz a, R, k, X, st, g, e, h => by
    cases e with
    | Name x p => exact .of (se_frz (sndE G a g _ h).pe) rfl rfl
    | _ => exact absurd h Bool.false_ne_true
  | .live a, R, k, X, st, g, e, h => by
    simp only [chE, Bool.and_eq_true] at h
    obtain ⟨⟨h1, h2⟩, h3⟩ := h
    rcases Bool.or_eq_true_iff.mp h1 with z | z
    · exact .of (se_live ((sndE G a g e h3).pf z)) h2 rfl
    · exact .of ((sndE G a g e h3).pc z) h2 rfl
  | .said a, R, k, X, st, g, e, h => by
    unfold chE at h
    split at h
    · simp only [Bool.and_eq_true, decide_eq_true_eq] at h
      obtain ⟨⟨⟨⟨rfl, h2⟩, h3⟩, h4⟩, h5⟩ := h
      exact .of (se_said g h2 (glB_ok h3) h4 rfl (fun _ _ _ _ _ => rfl) (fun g' => (sndE G a g' _ h5).pe)) rfl rfl
    · exact absurd h Bool.false_ne_true
  | .calld f cs sh, R, k, X, st, g, e, h => by
    unfold chE at h
    split at h
    · rename_i x p es pos
      simp only [Bool.and_eq_true, decide_eq_true_eq] at h
      obtain ⟨⟨⟨⟨⟨⟨⟨h1, h2⟩, h3⟩, h4⟩, h5⟩, h6⟩, h7⟩, h8⟩ := h
      cases es with
      | nil => exact absurd h5 (Nat.lt_irrefl _)
      | cons e es => exact .of (se_calld g h1 (glB_ok h2) (okN_ok h3).1 (sndEs G cs g _ h6).pa h4 h7 h8) rfl rfl
    · exact absurd h Bool.false_ne_true
  | .dcomp own kc vc t it cs, R, k, X, st, g, e, h => by
    unfold chE at h
    split at h
    · rename_i kx vx tg iter ifs as scope pos
      simp only [Bool.and_eq_true, decide_eq_true_eq] at h
      obtain ⟨⟨⟨⟨⟨⟨⟨⟨⟨⟨rfl, h2⟩, h3⟩, h4⟩, h5⟩, h6⟩, h7⟩, h7b⟩, h8⟩, h9⟩, h10⟩ := h
      have bo := blkOk_by h4
      have f := se_dcomp (kc := kc) (vc := vc) (t := t) (it := it) (cs := cs) (pos := pos) g (sndI G it g tg iter h2) bo (fun s H C cl fp => chT_ok (g.blk bo.kind s H C cl fp) t tg h5)
        (fun s H C cl fp => (sndEs G cs (g.blk bo.kind s H C cl fp) ifs h10).ts h9 h8) (fun s H C cl fp => (sndE G kc (g.blk bo.kind s H C cl fp) kx h7).pe) (fun s H C cl fp => (sndE G vc (g.blk bo.kind s H C cl fp) vx h7b).pe) (fold_ok h3 _)
        (by rw [own_map]; intro i hi; have := List.all_eq_true.mp h6 i hi; simpa using this)
      rw [own_map] at f
      exact .of f rfl rfl
    · exact absurd h Bool.false_ne_true
  | .inK ng a b, R, k, X, st, g, e, h => by
    unfold chE at h
    split at h
    · simp only [Bool.and_eq_true, decide_eq_true_eq, Bool.not_eq_true'] at h
      obtain ⟨⟨⟨h0, h1⟩, h2⟩, h3⟩ := h
      have qa := sndE G a g _ h1
      have qb := sndE G b g _ h2
      exact ⟨se_inK g h0 qa.pe qb.pe h3, st_inK g h0 qa.pe qb.pe h3, fun z => (by cases z), fun z => (by cases z)⟩
    · exact absurd h Bool.false_ne_true
  | .dgetd a b c, R, k, X, st, g, e, h => by
    unfold chE at h
    split at h
    · simp only [Bool.and_eq_true, decide_eq_true_eq, Bool.not_eq_true'] at h
      obtain ⟨⟨⟨⟨⟨⟨⟨rfl, h2⟩, h3⟩, h4⟩, h5⟩, h6⟩, h7⟩, h8⟩ := h
      exact .of (se_dgetd g (sndE G a g _ h6).pe (sndE G b g _ h7).pe (sndE G c g _ h8).pe h3 h4 (notCall_att h2) h5) rfl rfl
    · exact absurd h Bool.false_ne_true
  | .dctv _, R, k, X, st, g, e, h => absurd h Bool.false_ne_true
  | .comp2 .., R, k, X, st, g, e, h => absurd h Bool.false_ne_true
theorem sndEs (G : Ctx) : ∀ (cs : CEs) {R : XP} {k : Nat} {X : Cx} {st : Sta} (g : Gd TL E9 G st R k X) (es : List Expr), chEs st cs es = true → SndEs TL E9 G R X cs es
  | .nil, R, k, X, st, g, es, h => by
    cases es with
    | nil =>
      exact { pa := sa_nil, nil := fun _ => rfl, andE := fun _ z => absurd rfl z, orE := fun _ z => absurd rfl z, pj := fun _ => .nil,
              ts := fun _ _ => ⟨fun pins s σ H Q I h => pts_nil.run pins s σ H Q I (by
                obtain ⟨r, S, Q0, rl, hw, hq⟩ := h
                exact hq true S H hw (.refl _ _) rl.hp)⟩
              pps := fun pos ks keys h1 h2 => by
                have : ks = [] := by
                  simp only [CEs.flat, Option.some.injEq] at h2
                  exact List.eq_nil_of_length_eq_zero h2.symm
                subst this
                have := (keysC_len h1).1
                have : keys = [] := List.eq_nil_of_length_eq_zero this.symm
                subst this
                exact pps_nil
              pk := fun kws _ h1 => by
                have : kws = [] := by cases kws with | nil => rfl | cons => cases h1
                subst this
                exact sk_nil
              hd := fun e z => by cases z }
    | cons => exact absurd h Bool.false_ne_true
  | .cons c cs, R, k, X, st, g, es, h => by
    cases es with
    | nil => exact absurd h Bool.false_ne_true
    | cons e es =>
      simp only [chEs, Bool.and_eq_true, Bool.not_eq_true'] at h
      obtain ⟨⟨h1, h2⟩, h3⟩ := h
      have qe := sndE G c g e h2
      have qs := sndEs G cs g es h3
      exact { pa := sa_cons qe.pe qs.pa h1, nil := fun z => (by cases z),
              andE := fun pos _ hn => by
                have hn := (nst_cons hn).2
                cases es with
                | nil =>
                  cases qs.nil rfl
                  exact ⟨se_and1 qe.pe, st_and1 qe.pt⟩
                | cons e2 es =>
                  cases cs with
                  | nil => exact absurd h3 Bool.false_ne_true
                  | star c cs =>
                    cases e2 with
                    | Starred => simp [nst, isStar] at hn
                    | _ => exact absurd h3 Bool.false_ne_true
                  | cons c2 cs =>
                    have q := qs.andE pos (by simp) hn
                    exact ⟨se_and qe.pe q.1, st_and qe.pt q.2⟩
              orE := fun pos _ hn => by
                have hn := (nst_cons hn).2
                cases es with
                | nil =>
                  cases qs.nil rfl
                  exact ⟨se_or1 qe.pe, st_or1 qe.pt⟩
                | cons e2 es =>
                  cases cs with
                  | nil => exact absurd h3 Bool.false_ne_true
                  | star c cs =>
                    cases e2 with
                    | Starred => simp [nst, isStar] at hn
                    | _ => exact absurd h3 Bool.false_ne_true
                  | cons c2 cs =>
                    have q := qs.orE pos (by simp) hn
                    exact ⟨se_or qe.pe q.1, st_or qe.pt q.2⟩
              pj := fun hn => .cons qe.pe (qs.pj (nst_cons hn).2)
              ts := fun hn hl => by
                have : es = [] := List.eq_nil_of_length_eq_zero (by simp at hl; exact by simpa using hl)
                subst this
                cases qs.nil rfl
                refine ⟨fun pins s σ H Q I h => (pts_one qe.pt).run pins s σ H Q I ?_⟩
                obtain ⟨r, S, Q0, rl, hw, hq⟩ := h
                refine ⟨r, S, _, rl, hw, fun d S' H' h0 s2 h2 => ?_⟩
                split at h0
                · rename_i e1
                  exact ⟨true, e1, hq true S' H' h0 s2 h2⟩
                · rename_i e1
                  exact ⟨false, e1, hq false S' H' h0 s2 h2⟩
                · exact h0.elim
              pps := fun pos ks keys h1 h2 => by
                match ks, keys, h1, h2 with
                | [], [], h1, h2 =>
                  simp only [CEs.flat, Option.map_eq_some_iff] at h2
                  obtain ⟨n, _, z⟩ := h2
                  cases z
                | [], _ :: _, h1, _ => exact absurd h1 Bool.false_ne_true
                | _ :: _, [], h1, _ => exact absurd h1 Bool.false_ne_true
                | kk :: ks, key :: keys, h1, h2 =>
                  simp only [keysC, Bool.and_eq_true] at h1
                  obtain ⟨j, p, rfl⟩ := keyC_ok h1.1
                  simp only [CEs.flat, Option.map_eq_some_iff] at h2
                  obtain ⟨n, h2, z⟩ := h2
                  cases z
                  exact pps_cons pe_str qe.pe (qs.pps pos ks keys h1.2 h2)
              pk := fun kws hn h1 => by
                cases kws with
                | nil => cases h1
                | cons kw kws =>
                  obtain ⟨a, v, p⟩ := kw
                  simp only [List.map_cons, List.cons.injEq] at h1
                  obtain ⟨rfl, hm⟩ := h1
                  exact sk_cons qe.pe (qs.pk kws (nst_cons hn).2 hm)
              hd := fun e2 z _ => by
                cases z
                cases qs.nil rfl
                exact ⟨c, rfl, qe.pe⟩ }
  | .star c cs, R, k, X, st, g, es, h => by
    cases es with
    | nil => exact absurd h Bool.false_ne_true
    | cons e es =>
      cases e with
      | Starred e p =>
        simp only [chEs, Bool.and_eq_true] at h
        have ns : nst (.Starred e p :: es) = false := rfl
        exact { pa := sa_star (sndE G c g e h.1).pe (sndEs G cs g es h.2).pa, nil := fun z => (by cases z),
                andE := fun _ _ z => by rw [ns] at z; cases z
                orE := fun _ _ z => by rw [ns] at z; cases z
                pj := fun z => by rw [ns] at z; cases z
                ts := fun z => by rw [ns] at z; cases z
                pps := fun _ _ _ _ z => by cases z
                pk := fun _ z => by rw [ns] at z; cases z
                hd := fun _ _ z => by rw [ns] at z; cases z }
      | _ => exact absurd h Bool.false_ne_true
theorem sndO (G : Ctx) : ∀ (c : CO) {R : XP} {k : Nat} {X : Cx} {st : Sta} (g : Gd TL E9 G st R k X) (e : Option Expr), chO st c e = true → PO X e (rdO TL E9 X.K (WO G R c))
  | .no, R, k, X, st, g, e, h => by
    cases e with
    | none => exact so_no
    | some => exact absurd h Bool.false_ne_true
  | .so c, R, k, X, st, g, e, h => by
    cases e with
    | none => exact absurd h Bool.false_ne_true
    | some e => exact so_so (sndE G c g e h).pe
theorem sndI (G : Ctx) : ∀ (c : CI) {R : XP} {k : Nat} {X : Cx} {st : Sta} (g : Gd TL E9 G st R k X) (tg e : Expr), chI st c tg e = true → PI X tg e (rdI TL E9 X.K (WI G R c))
  | .val c, R, k, X, st, g, tg, e, h => si_val (sndE G c g e h).pe
  | .rng1 a, R, k, X, st, g, tg, e, h => by
    unfold chI at h
    split at h
    · simp only [Bool.and_eq_true, decide_eq_true_eq, Bool.not_eq_true'] at h
      obtain ⟨⟨⟨rfl, h1⟩, h2⟩, h3⟩ := h
      exact si_rng1 g (glB_ok h1) (sndE G a g _ h3).pe h2
    · exact absurd h Bool.false_ne_true
  | .rng2 a b, R, k, X, st, g, tg, e, h => by
    unfold chI at h
    split at h
    · simp only [Bool.and_eq_true, decide_eq_true_eq, Bool.not_eq_true'] at h
      obtain ⟨⟨⟨⟨⟨rfl, h1⟩, h2⟩, h3⟩, h4⟩, h5⟩ := h
      exact si_rng2 g (glB_ok h1) (sndE G a g _ h4).pe (sndE G b g _ h5).pe h2 h3
    · exact absurd h Bool.false_ne_true
  | .enum c, R, k, X, st, g, tg, e, h => by
    unfold chI at h
    split at h
    · simp only [Bool.and_eq_true, decide_eq_true_eq, Bool.not_eq_true'] at h
      obtain ⟨⟨⟨rfl, h1⟩, h2⟩, h3⟩ := h
      exact si_enum g (glB_ok h1) (sndE G c g _ h3).pe h2
    · exact absurd h Bool.false_ne_true
  | .zip a b, R, k, X, st, g, tg, e, h => by
    unfold chI at h
    split at h
    · simp only [Bool.and_eq_true, decide_eq_true_eq, Bool.not_eq_true'] at h
      obtain ⟨⟨⟨⟨⟨rfl, h1⟩, h2⟩, h3⟩, h4⟩, h5⟩ := h
      exact si_zip g (glB_ok h1) (sndE G a g _ h4).pe (sndE G b g _ h5).pe h2 h3
    · exact absurd h Bool.false_ne_true
end
end FL

namespace FL
open PySem PySem.Spec PyProof.Rows L2
/-! ### statements -/
def swOk (st : Sta) (x : Str) (p : Pos) : Expr → Bool
  | .ListComp _ _ scope q => !swL st.sc x p scope q || decide (st.sc.names.lookup x = some .local)
  | e => !isCompE e
def tupOk (st : Sta) (ts : List Expr) : Expr → Bool
  | .Tuple vs _ _ => match swN st.sc ts vs with
    | some none => true
    | _ => false
  | _ => true
def nmB (st : Sta) (i : Nat) : Expr → Bool
  | .Name x _ => decide (st.N[i]? = some x) && decide (st.sc.names.lookup x = some .local)
  | _ => false
def parOk (st : Sta) (is : List Nat) (ts vs : List Expr) : Bool :=
  match is, ts, vs with
  | [i, j], [.Name x _, .Name y _], [_, _] => decide (st.N[i]? = some x) && decide (st.sc.names.lookup x = some .local) && decide (st.N[j]? = some y) && decide (st.sc.names.lookup y = some .local) && decide (i ≠ j) && decide (swN st.sc ts vs = some (some [x, y]))
  | [i, j, l], [.Name x _, .Name y _, .Name z _], [_, _, _] => decide (st.N[i]? = some x) && decide (st.sc.names.lookup x = some .local) && decide (st.N[j]? = some y) && decide (st.sc.names.lookup y = some .local) && decide (st.N[l]? = some z) && decide (st.sc.names.lookup z = some .local) &&
      decide (i ≠ j) && decide (i ≠ l) && decide (j ≠ l) && decide (swN st.sc ts vs = some (some [x, y, z]))
  | _, _, _ => false
mutual
def chS (st : Sta) : CS → Stmt → Bool
  | .set t c, s => match t with
    | .nm i => match s with
      | .Assign [.Name x p] e _ => decide (st.N[i]? = some x) && locB st x && chE st c e && swOk st x p e
      | _ => false
    | .tp ts => match s with
      | .Assign [.Tuple es _ _] e _ => chTs st ts es && chE st c e && tupOk st es e
      | _ => false
  | .setN i c, s => match s with
    | .Assign [.Name x p] e _ => decide (st.N[i]? = some x) && locB st x && isF c && chE st c e && swOk st x p e
    | _ => false
  | .par is cs, s => match s with
    | .Assign [.Tuple ts _ _] (.Tuple vs _ _) _ => parOk st is ts vs && chEs st cs vs
    | _ => false
  | .put o k c, s => match s with
    | .Assign [.Subscript x y _] e _ => chE st o x && chE st k y && chE st c e
    | _ => false
  | .aug i op c, s => match s with
    | .AugAssign (.Name x _) o e _ => decide (op = o) && (decide (op = .Add) || decide (op = .Sub)) && decide (st.N[i]? = some x) && locB st x && chE st c e
    | _ => false
  | .ex c, s => match s with
    | .Expr e _ => chE st c e && !isCompE e
    | _ => false
  | .ret c, s => match s with
    | .Return (some e) _ => chE st c e
    | _ => false
  | .ret0, s => match s with
    | .Return none _ => true
    | _ => false
  | .ite t a b, s => match s with
    | .If x y z _ => chE st t x && chSs st a y && chSs st b z
    | _ => false
  | .for t it b, s => match s with
    | .For tg iter body [] _ => chI st it tg iter && notSetE iter && chT st t tg && chSs st b body
    | _ => false
  | .whl t b, s => match s with
    | .While x body [] _ => chE st t x && chSs st b body
    | _ => false
  | .pass, s => match s with
    | .Pass _ => true
    | _ => false
  | .brk, s => match s with
    | .Break _ => true
    | _ => false
  | .cnt, s => match s with
    | .Continue _ => true
    | _ => false
  | .nev, _ => true
  | .rse x f1 f2 cs, s => match s with
    | .Raise (some (.Call (.Name y _) [e1, e2] [] _)) none _ => decide (x = y) && decide ((x, f1, f2) ∈ st.exs) && glB st.sc y && okN y && nst [e1, e2] && chEs st cs [e1, e2]
    | _ => false
def chSs (st : Sta) : CSs → List Stmt → Bool
  | .nil, ss => match ss with
    | [] => true
    | _ => false
  | .cons c cs, ss => match ss with
    | s :: r => chS st c s && chSs st cs r
    | [] => false
end
section
variable {G : Ctx} {R : XP} {k : Nat} {X : Cx} {st : Sta}
/-- x = [.. for ..] stored within -/
theorem setC_ok (g : Gd TL E9 G st R k X) {i : Nat} {x : Str} {p pos q : Pos} {elt : Expr} {gs : List Comprehension} {scope : Scope} {c : CE} (hN : st.N[i]? = some x) (hx : st.sc.names.lookup x = some .local) (hs : swL st.sc x p scope q = true) (h : chE st c (.ListComp elt gs scope q) = true) (hf : isF c = true) :
    PS X (.Assign [.Name x p] (.ListComp elt gs scope q) pos) (rdS TL E9 X.K (WS G R (.set (.nm i) c))) ∧ PS X (.Assign [.Name x p] (.ListComp elt gs scope q) pos) (rdS TL E9 X.K (WS G R (.setN i c))) := by
  cases c with
  | comp own c t it cs =>
    unfold chE at h
    split at h
    · rename_i he
      cases he
      simp only [Bool.and_eq_true, decide_eq_true_eq] at h
      obtain ⟨⟨⟨⟨⟨⟨⟨⟨⟨rfl, h2⟩, h3⟩, h4⟩, h5⟩, h6⟩, h7⟩, h8⟩, h9⟩, h10⟩ := h
      have bo := blkOk_by h4
      have ho : ∀ i ∈ t.slots, i ∈ (ownP st own).map (·.2) := by rw [own_map]; intro i hi; have := List.all_eq_true.mp h6 i hi; simpa using this
      have f1 := ss_setLc (c := c) (t := t) (it := it) (cs := cs) (pos := q) (spos := pos) (py := p) g hN hx hs (sndI G it g _ _ h2) bo (fun s H C cl fp => chT_ok (g.blk bo.kind s H C cl fp) t _ h5)
        (fun s H C cl fp => (sndEs G cs (g.blk bo.kind s H C cl fp) _ h10).ts h9 h8) (fun s H C cl fp => (sndE G c (g.blk bo.kind s H C cl fp) _ h7).pe) (fold_ok h3 _) ho
      have f2 := ss_setLcN (c := c) (t := t) (it := it) (cs := cs) (pos := q) (spos := pos) (py := p) g hN hx hs (sndI G it g _ _ h2) bo (fun s H C cl fp => chT_ok (g.blk bo.kind s H C cl fp) t _ h5)
        (fun s H C cl fp => (sndEs G cs (g.blk bo.kind s H C cl fp) _ h10).ts h9 h8) (fun s H C cl fp => (sndE G c (g.blk bo.kind s H C cl fp) _ h7).pe) (fold_ok h3 _) ho
      rw [own_map] at f1 f2
      exact ⟨f1, f2⟩
    · exact absurd h Bool.false_ne_true
  | lst => exact absurd h Bool.false_ne_true
  | _ => exact absurd hf Bool.false_ne_true
/-- a comprehension's core term -/
theorem comp_isF {c : CE} {elt : Expr} {gs : List Comprehension} {scope : Scope} {q : Pos} (h : chE st c (.ListComp elt gs scope q) = true) : isF c = true ∨ ∃ a, c = .live a ∧ isF a = true ∧ chE st a (.ListComp elt gs scope q) = true := by
  cases c with
  | comp => exact .inl rfl
  | live a =>
    simp only [chE, Bool.and_eq_true] at h
    obtain ⟨⟨h1, h2⟩, h3⟩ := h
    rcases Bool.or_eq_true_iff.mp h1 with z | z
    · exact .inr ⟨a, rfl, z, h3⟩
    · cases a with
      | bin op x y => exact absurd h3 Bool.false_ne_true
      | _ => exact absurd z Bool.false_ne_true
  | _ => exact absurd h Bool.false_ne_true
theorem sw_of (g : Gd TL E9 G st R k X) {x : Str} {p : Pos} {e : Expr} {l : Nat} (h : swOk st x p e = true) : swapsWith e (some (.Name x p)) l X.env = pure false ∨ ∃ elt gs scope q, e = .ListComp elt gs scope q ∧ swL st.sc x p scope q = true ∧ st.sc.names.lookup x = some .local := by
  cases e with
  | ListComp elt gs scope q =>
    simp only [swOk, Bool.or_eq_true, Bool.not_eq_true', decide_eq_true_eq] at h
    cases hs : swL st.sc x p scope q with
    | false => exact .inl (by rw [swL_ok (by rw [g.sc]; exact g.kd), g.sc, hs])
    | true =>
      rw [hs] at h
      exact .inr ⟨_, _, _, _, rfl, hs, h.resolve_left (by simp)⟩
  | _ =>
    simp only [swOk, Bool.not_eq_true'] at h
    exact .inl (sw_no h)
theorem ss_live {i : Nat} {s : Stmt} {c : CE} (h : PS X s (rdS TL E9 X.K (WS G R (.setN i c)))) : PS X s (rdS TL E9 X.K (WS G R (.set (.nm i) (.live c)))) := by
  refine ⟨fun pins s σ H Z I hw => h.run pins s σ H Z I ?_⟩
  obtain ⟨r, S, Z0, rl, hw, n⟩ := hw
  refine ⟨r, S, Z0, rl, ?_, n⟩
  have e : WS G R (.set (.nm i) (.live c)) r (prj S) Z0 = WS G R (.setN i c) r (prj S) Z0 := by
    rw [WS, WS, WE]
    congr 1
  rw [← e]; exact hw
mutual
theorem sndS (g : Gd TL E9 G st R k X) : ∀ (c : CS) (s : Stmt), chS st c s = true → PS X s (rdS TL E9 X.K (WS G R c))
  | .set t c, s, h => by
    cases t with
    | nm i =>
      unfold chS at h
      simp only at h
      split at h
      · rename_i x p e pos
        simp only [Bool.and_eq_true, decide_eq_true_eq] at h
        obtain ⟨⟨⟨h1, h2⟩, h3⟩, h4⟩ := h
        rcases sw_of g (l := pos.line) h4 with z | ⟨elt, gs, scope, q, rfl, z1, z2⟩
        · exact ss_set g h1 (locB_ok h2) (sndE G c g e h3).pe z
        · rcases comp_isF h3 with hf | ⟨a, rfl, hf, ha⟩
          · exact (setC_ok g h1 z2 z1 h3 hf).1
          · exact ss_live (setC_ok g h1 z2 z1 ha hf).2
      · exact absurd h Bool.false_ne_true
    | tp ts =>
      unfold chS at h
      simp only at h
      split at h
      · rename_i es j p e pos
        simp only [Bool.and_eq_true] at h
        obtain ⟨⟨h1, h2⟩, h3⟩ := h
        refine ss_setT g (chT_ok g (.tp ts) (.Tuple es j p) h1) (sndE G c g e h2).pe ?_
        cases e with
        | Tuple vs j2 q =>
          simp only [tupOk] at h3
          split at h3
          · rename_i e1
            exact swN_ok (by rw [g.sc]; exact g.kd) (by rw [g.sc]; exact e1)
          · exact absurd h3 Bool.false_ne_true
        | _ => exact sws_tup rfl
      · exact absurd h Bool.false_ne_true
  | .setN i c, s, h => by
    unfold chS at h
    split at h
    · rename_i x p e pos
      simp only [Bool.and_eq_true, decide_eq_true_eq] at h
      obtain ⟨⟨⟨⟨h1, h2⟩, hf⟩, h3⟩, h4⟩ := h
      rcases sw_of g (l := pos.line) h4 with z | ⟨elt, gs, scope, q, rfl, z1, z2⟩
      · exact ss_setN g h1 (locB_ok h2) ((sndE G c g e h3).pf hf) z
      · exact (setC_ok g h1 z2 z1 h3 hf).2
    · exact absurd h Bool.false_ne_true
  | .par is cs, s, h => by
    unfold chS at h
    split at h
    · rename_i ts j1 p1 vs j2 p2 pos
      simp only [Bool.and_eq_true] at h
      obtain ⟨h1, h2⟩ := h
      have qa := (sndEs G cs g vs h2).pa
      unfold parOk at h1
      split at h1
      · simp only [Bool.and_eq_true, decide_eq_true_eq] at h1
        obtain ⟨⟨⟨⟨⟨a1, a2⟩, a3⟩, a4⟩, a5⟩, a6⟩ := h1
        exact ss_par2 g a1 a3 a5 a2 a4 qa a6
      · simp only [Bool.and_eq_true, decide_eq_true_eq] at h1
        obtain ⟨⟨⟨⟨⟨⟨⟨⟨⟨a1, a2⟩, a3⟩, a4⟩, a5⟩, a6⟩, a7⟩, a8⟩, a9⟩, a10⟩ := h1
        exact ss_par3 g a1 a3 a5 a7 a8 a9 a2 a4 a6 qa a10
      · exact absurd h1 Bool.false_ne_true
    · exact absurd h Bool.false_ne_true
  | .put o kk c, s, h => by
    unfold chS at h
    split at h
    · simp only [Bool.and_eq_true] at h
      exact ss_put g (sndE G o g _ h.1.1).pe (sndE G kk g _ h.1.2).pe (sndE G c g _ h.2).pe
    · exact absurd h Bool.false_ne_true
  | .aug i op c, s, h => by
    unfold chS at h
    split at h
    · simp only [Bool.and_eq_true, Bool.or_eq_true, decide_eq_true_eq] at h
      obtain ⟨⟨⟨⟨rfl, h2⟩, h3⟩, h4⟩, h5⟩ := h
      exact ss_aug g h2 h3 (locB_ok h4) (sndE G c g _ h5).pe
    · exact absurd h Bool.false_ne_true
  | .ex c, s, h => by
    unfold chS at h
    split at h
    · simp only [Bool.and_eq_true, Bool.not_eq_true'] at h
      exact ss_ex (sndE G c g _ h.1).pe h.2
    · exact absurd h Bool.false_ne_true
  | .ret c, s, h => by
    unfold chS at h
    split at h
    · exact ss_ret (sndE G c g _ h).pe
    · exact absurd h Bool.false_ne_true
  | .ret0, s, h => by
    unfold chS at h
    split at h
    · exact ss_ret0
    · exact absurd h Bool.false_ne_true
  | .ite t a b, s, h => by
    unfold chS at h
    split at h
    · simp only [Bool.and_eq_true] at h
      exact ss_ite (sndE G t g _ h.1.1).pt (sndSs g a _ h.1.2) (sndSs g b _ h.2)
    · exact absurd h Bool.false_ne_true
  | .for t it b, s, h => by
    unfold chS at h
    split at h
    · simp only [Bool.and_eq_true] at h
      exact ss_for g (sndI G it g _ _ h.1.1.1) (chT_ok g t _ h.1.2) (sndSs g b _ h.2) (fold_ok h.1.1.2 _)
    · exact absurd h Bool.false_ne_true
  | .whl t b, s, h => by
    unfold chS at h
    split at h
    · simp only [Bool.and_eq_true] at h
      exact ss_whl g (sndE G t g _ h.1).pt (sndSs g b _ h.2)
    · exact absurd h Bool.false_ne_true
  | .pass, s, h => by
    unfold chS at h
    split at h
    · exact ss_pass
    · exact absurd h Bool.false_ne_true
  | .brk, s, h => by
    unfold chS at h
    split at h
    · exact ss_brk
    · exact absurd h Bool.false_ne_true
  | .cnt, s, h => by
    unfold chS at h
    split at h
    · exact ss_cnt
    · exact absurd h Bool.false_ne_true
  | .nev, s, h => ⟨fun pins s σ H Z I hw => by
      obtain ⟨r, S, Z0, rl, hw, n⟩ := hw
      exact hw.elim⟩
  | .rse x f1 f2 cs, s, h => by
    unfold chS at h
    split at h
    · simp only [Bool.and_eq_true, decide_eq_true_eq] at h
      obtain ⟨⟨⟨⟨⟨rfl, h2⟩, h3⟩, h4⟩, h5⟩, h6⟩ := h
      exact ss_rse g h2 (glB_ok h3) (okN_ok h4).1 (sndEs G cs g _ h6).pa h5
    · exact absurd h Bool.false_ne_true
theorem sndSs (g : Gd TL E9 G st R k X) : ∀ (c : CSs) (s : List Stmt), chSs st c s = true → PSs X s (rdS TL E9 X.K (WSs G R c))
  | .nil, s, h => by
    unfold chSs at h
    split at h
    · exact ss_nil
    · exact absurd h Bool.false_ne_true
  | .cons c cs, s, h => by
    unfold chSs at h
    split at h
    · simp only [Bool.and_eq_true] at h
      exact ss_cons (sndS g c _ h.1) (sndSs g cs _ h.2)
    · exact absurd h Bool.false_ne_true
end
end
end FL

namespace FL
open PySem PySem.Spec PyProof.Rows L2
/-! ### a def by its core body -/
def startE (n : Nat) (ds : List D) : En := ds.map some ++ List.replicate (n - ds.length) none
def Le (S S' : Sto) : Prop := ∀ a o, S a = some o → S' a = some o
theorem Le.refl (S : Sto) : Le S S := fun _ _ h => h
theorem Le.trans {S S1 S2 : Sto} (a : Le S S1) (b : Le S1 S2) : Le S S2 := fun x o h => b x o (a x o h)
/-- only these are kept live -/
def cutX (T : XS) (S : Sto) : XS := fun b => match T b with
  | some none => some none
  | _ => (S b).map some
theorem cutX_prj {T : XS} {S : Sto} (h : Le S (prj T)) : prj (cutX T S) = S := by
  funext b
  unfold prj cutX
  cases e : T b with
  | none =>
    cases q : S b with
    | none => rfl
    | some o => rfl
  | some x =>
    cases x with
    | none =>
      cases q : S b with
      | none => rfl
      | some o =>
        have := prj_some (h b o q)
        rw [e] at this; cases this
    | some y =>
      cases q : S b with
      | none => rfl
      | some o => rfl
theorem cutX_sub {T : XS} {S : Sto} (h : Le S (prj T)) (b : Addr) (o : Option O) (e : cutX T S b = some o) : T b = some o := by
  unfold cutX at e
  split at e
  · rename_i q; rw [q]; exact e
  · cases q : S b with
    | none => rw [q] at e; cases e
    | some z =>
      rw [q] at e
      cases e
      exact prj_some (h b z q)
theorem cutX_asd {T : XS} {S : Sto} (b : Addr) (e : T b = some none) : cutX T S b = some none := by
  unfold cutX
  rw [e]
theorem cutX_less {T : XS} {S : Sto} (h : Le S (prj T)) (b : Addr) (e : T b = none) : cutX T S b = none := by
  cases q : cutX T S b with
  | none => rfl
  | some o => rw [cutX_sub h b o q] at e; cases e
theorem rl_start {K : PySem.W.Frag} {S : XS} {H : Hp} {N : List Str} {vs : List V} {ds : List D} (hp : HRep TL K S H) (rp : Reps K S H vs ds) : Rl TL (S, H) K S H (L2.start N vs) (startE N.length ds) := by
  have hl := rp.len
  refine ⟨by simp [L2.start, startE, hl], fun i d e => ?_, hp, .refl _ _⟩
  unfold startE at e
  unfold L2.start
  by_cases hi : i < ds.length
  · rw [List.getElem?_append_left (by simpa using hi), List.getElem?_map] at e
    cases q : ds[i]? with
    | none => rw [q] at e; cases e
    | some d' =>
      rw [q] at e
      cases e
      obtain ⟨v, e1, r1⟩ := rp.get q
      exact ⟨v, by rw [List.getElem?_append_left (by simp; omega), List.getElem?_map, e1]; rfl, r1⟩
  · rw [List.getElem?_append_right (by simpa using hi)] at e
    rw [List.getElem?_replicate] at e
    split at e <;> cases e
/-- what is known of a def that is called -/
def Fn0 (TL : List (Addr × Str)) (P : Program) (w : World) (K : PySem.W.Frag) (mg : Str → Option Value) (base : Heap) (k : Nat) (x : Str) (sp : Spec) (n : Nat) (shp : Nat → List Str) (ord : Nat → List D → List D → List D) : Prop :=
  ∃ fa fd ps, FnG P w K mg base (CX P w) k fa fd ps (liftSp TL K n sp) ∧ mg x = some (.ref fa) ∧ PySem.W.keepIn K (.ref fa) = true ∧ Binds K fd ps [] ∧
    ∀ sh, shp sh ≠ [] → ∃ g gV, KBinds K fd ps (nmOf (shp sh)) g gV ∧ ∀ S H vs ds ws es, Reps K S H vs ds → Reps K S H ws es → Reps K S H (gV vs ws) (ord sh ds es)
theorem Fn0.mono {P : Program} {w : World} {K : PySem.W.Frag} {mg : Str → Option Value} {base : Heap} {j k : Nat} {x : Str} {sp : Spec} {n : Nat} {shp : Nat → List Str} {ord : Nat → List D → List D → List D} (h : Fn0 TL P w K mg base j x sp n shp ord) (hj : j ≤ k) : Fn0 TL P w K mg base k x sp n shp ord := by
  obtain ⟨fa, fd, ps, F, r⟩ := h
  exact ⟨fa, fd, ps, F.mono hj, r⟩
def Gl0 (K : PySem.W.Frag) (mg : Str → Option Value) (x : Str) (d : D) : Prop := ∃ u v, mg x = some u ∧ RelV v u ∧ ∀ S H, Rep K S H v d
/-- the promise of a body -/
def BodyOk (G : Ctx) (core : CSs) (N : Nat) (n : Nat) (sp : Spec) : Prop := ∀ ds S Q0 R0, ds.length = n → sp ds S Q0 R0 →
  WSs G (fun e _ S' => ∃ S'', Le S'' S' ∧ R0 e S'') core (startE N ds) S { nx := fun _ S' => ∃ S'', Le S'' S' ∧ Q0 .non S'', rt := fun d S' => ∃ S'', Le S'' S' ∧ Q0 d S'' }
theorem fn_ok {P : Program} {w : World} {K : PySem.W.Frag} {mg : Str → Option Value} {base : Heap} {k : Nat} {f : Addr} {name qual : Str} {params : Arguments} {body : List Stmt} {scope : Scope} {dV kV doc pm cdv ct oc : Value} {an od : Option Addr}
    {osl : Array (Option Value)} {ps : List Str} {sp : Spec} {G : Ctx} {st : Sta} {core : CSs} (lk : K.lookup f = some ⟨oc, od, .func (PySem.W.fnOf name qual params body scope dV kV doc pm an cdv ct), osl⟩) (hcd : PySem.W.codeIn K cdv qual = true)
    (FS : FnScope st.N ps scope) (hsc : st.sc = scope) (ch : chSs st core body = true)
    (fns : ∀ i x, st.fns[i]? = some x → Fn0 TL P w K mg base k x (G.fn i) (G.ar i) (st.shp i) (G.ord i)) (gls : ∀ g x, st.gls[g]? = some x → ∃ d, G.gl g = some d ∧ Gl0 K mg x d) (blt : ∀ x ∈ bltNames, mg x = none)
    (hb : BodyOk G core st.N.length ps.length sp) (exs : ∀ x f1 f2, (x, f1, f2) ∈ st.exs → 2 ≤ st.xr ∧ Ex0 P K mg x f1 f2) (sd : st.lam = true → 2 ≤ st.xr ∧ Sd TL K mg base cdv (qual ++ ".<locals>.")) :
    FnG P w K mg base (CX P w) (k + st.xr + 1) f (PySem.W.fnOf name qual params body scope dV kV doc pm an cdv ct) ps (liftSp TL K ps.length sp) := by
  refine fnG_of lk hcd FS ?_ ?_
  · rintro vs H Q E ⟨ds, S, Q0, R0, hl, rp, _⟩
    rw [rp.len]; exact hl
  · rintro A outer s H vs Q E hr hg ⟨ds, S, Q0, R0, hl, rp, hp, hsp, hq, hx⟩
    have g : Gd TL (S, H) G st (fun e _ S' => ∃ S'', Le S'' S' ∧ R0 e S'') k (cxOf (CX P w) P w K mg base st.N qual scope f cdv A outer s H E) := {
      calm := rfl
      N := rfl
      nd := FS.nd
      sc := hsc.symm
      kd := by rw [hsc]; exact FS.kind
      fn := fun _ _ => rfl
      room := hr
      gd := hg
      fns := fun i x h => ⟨fns i x h⟩
      gls := fun g x h => by
        obtain ⟨d, e, u, v, h1, h2, h3⟩ := gls g x h
        exact ⟨d, u, v, e, h1, h2, h3⟩
      blt := blt
      tk := (takes_of (E := E) rfl rfl rfl rfl).imp fun cls d σ H' ⟨ex, r, S', rl, hx', S'', le, q⟩ => hx ex (cutX S' S'') cls d H' (by rw [cutX_prj le]; exact q) (rl.fr.forget (cutX_sub le) cutX_asd) (rl.hp.forget (cutX_sub le) cutX_asd) (hx'.less (cutX_less le))
      po := PassesOwn.leaving
      exs := exs
      sd := sd }
    refine ⟨_, sndSs g core body ch, startE st.N.length ds, S, _, rl_start hp rp, hb ds (prj S) Q0 R0 hl hsp, ?_, ?_, ?_, ?_⟩
    · rintro r' S' σ' H' ⟨S'', le, q⟩ st1 rl1
      exact hq .non (cutX S' S'') .non H' (by rw [cutX_prj le]; exact q) (st1.forget (cutX_sub le) cutX_asd) (rl1.hp.forget (cutX_sub le) cutX_asd) .non
    · rintro d S' v H' ⟨S'', le, q⟩ st1 hp1 rv
      exact hq d (cutX S' S'') v H' (by rw [cutX_prj le]; exact q) (st1.forget (cutX_sub le) cutX_asd) (hp1.forget (cutX_sub le) cutX_asd) (rv.less (cutX_less le))
    · exact fun _ _ _ _ h => h.elim
    · exact fun _ _ _ _ h => h.elim
end FL

namespace FL
open PySem PySem.Spec PyProof.Rows L2
/-! ### the law's own call -/
section
variable {P : Program} {w : World} {K : PySem.W.Frag} {mg mb : Str → Option Value} {k : Nat} {fa a : Addr} {fd : FuncData} {x : Str} {sp : Sp} {t : Shared} {vs : List Value} {ns : List Int}
/-- what the caller asks of the end of the law's call -/
def Good (t : Shared) (r : Except Value Flow) (u : Shared) : Prop := r = .ok (.ret (.bool true)) ∧ OldK t.heap u.heap ∧ u.os = t.os ∧ AllBare u.gens
/-- a def's table of code objects, as the top leaves it -/
def TbAt (h : Heap) (mg : Str → Option Value) (x : Str) : Prop := ∃ (fa : Addr) (o : Obj) (fd : FuncData) (c P : Addr), mg x = some (.ref fa) ∧ h.get? fa = some o ∧ o.data = .func fd ∧ fd.code = .ref c ∧ PySem.W.CodeHd h c P ∧ h.get? P = some { cls := .none, data := .fields #[] }
theorem end_at {H : Hp} {cs : List (Addr × Addr)} (KX : K.In t.heap) (gn : t.heap.Ns mainGlobals mg) (bn : t.heap.Ns builtinsNs mb) (bb : ∀ y : Str, y ≠ "__name__" → mb y = bootBuiltins y) (lim : t.heap.NoLimit) (g0 : t.gens = #[])
    (tb : ∀ p ∈ cs, t.heap.get? p.2 = some { cls := .none, data := .fields #[] } ∧ K.lookup p.2 = none ∧ PySem.W.CodeHd t.heap p.1 p.2) (bmn : ∃ (bm : Addr) (ob : Obj), mg "__builtins__" = some (.ref bm) ∧ bm ≠ builtinsNs ∧ t.heap.get? bm = some ob ∧ ob.cls = .type "module" ∧ ob.dict = some builtinsNs ∧ ob.data = .plain)
    (sa : t.heap.get? a = some { cls := .type "list", data := .seq vs.toArray }) (rm : Room k callerA) (F : ∀ base : Heap, (∀ p ∈ cs, LamX.TabB base mg p.1 p.2) → FnG P w K mg base (CX P w) k fa fd [x] sp) (bd : ∀ (s : Shared) (u : Value), BindsTo s fd ⟨[u], []⟩ [(x, u)])
    (hO : ∀ b, H b = none ∨ (∃ p ∈ cs, b = p.2) ∨ ∃ o xs, H b = some (.frz o (.lst xs))) (hs : sp [.ref a] H (fun v _ => v = .bl true) fun _ _ _ => False) (hok : HOk P w H t.heap) (hA : ∀ b, H b ≠ none → b = a ∨ ∃ p ∈ cs, b = p.2) (hK : H a ≠ none → K.lookup a = none) (hTb : ∀ p ∈ cs, H p.2 = some (.tbl #[])) :
    codeAny (model P w) callerA (.call (.ref fa) ⟨[.ref a], []⟩) (Good t) t := by
  have free : ∀ {b : Addr} {o : Obj}, t.heap.get? b = some o → (∀ xs n, o.data ≠ .seq xs n) → o.data ≠ .fields #[] → H b = none := by
    intro b o e d1 d2
    rcases Classical.em (H b = none) with z | z
    · exact z
    · rcases hA b z with rfl | ⟨p, hp, rfl⟩
      · rw [sa] at e
        cases e
        exact absurd rfl (d1 _ _)
      · rw [(tb p hp).1] at e
        cases e
        exact absurd rfl d2
  have ns1 : ∀ {b : Addr} {m : Str → Option Value}, t.heap.Ns b m → (hidT t.heap H).Ns b m := by
    rintro b m ⟨o, es, ep, e, d, r⟩
    exact ⟨o, es, ep, hidT_get e (free e (fun _ _ z => by rw [d] at z; cases z) (fun z => by rw [d] at z; cases z)), d, r⟩
  have kb : K.In (hidT t.heap H) := by
    intro b o e
    refine hidT_get (KX b o e) ?_
    rcases Classical.em (H b = none) with z | z
    · exact z
    · rcases hA b z with rfl | ⟨p, hp, rfl⟩
      · rw [hK z] at e
        cases e
      · rw [(tb p hp).2.1] at e
        cases e
  have md : Mod K mg (hidT t.heap H) := by
    obtain ⟨mc, h1, h2⟩ := lim
    exact ⟨kb, ns1 gn, ⟨mb, ns1 bn, bb⟩, ⟨mc, ns1 h1, h2⟩⟩
  have ev : Env0 P w K mg (hidT t.heap H) callerA [] t H := by
    refine ⟨rfl, md, fun b o e => of_hidT e, ?_, trivial, ?_, hok, .of_eq g0⟩
    · rw [hidT_size]
      exact Nat.le_refl _
    · intro b hb
      exact absurd (show b ∈ ([] : List Addr) from hb) List.not_mem_nil
  have TB : ∀ p ∈ cs, LamX.TabB (hidT t.heap H) mg p.1 p.2 := by
    intro p hp
    obtain ⟨h1, h2, o, us, file, tf, flags, tg, inF, text, tt, e1, r1, r2, r3, r4, r5, r6, r7, r8, hne⟩ := tb p hp
    refine ⟨⟨o, us, file, tf, flags, tg, inF, text, tt, hidT_get e1 (free e1 (fun _ _ z => by rw [r2] at z; cases z) (fun z => by rw [r2] at z; cases z; simp at r3)), r1, r2, r3, r4, r5, r6, r7, r8, hne⟩, ?_, fun z => ?_⟩
    · obtain ⟨bm, ob, b1, b2, b3, b4, b5, b6⟩ := bmn
      refine ⟨bm, ob, b1, b2, fun z => ?_, fun z => ?_, hidT_get b3 (free b3 (fun _ _ z => by rw [b6] at z; cases z) (fun z => by rw [b6] at z; cases z)), b4, b5, b6⟩
      · obtain ⟨o, es, ep, e, d, _⟩ := gn
        rw [z, e] at b3
        cases b3
        rw [d] at b6
        cases b6
      · rw [z, h1] at b3
        cases b3
        cases b6
    · obtain ⟨o, es, ep, e, d, _⟩ := gn
      rw [z, h1] at e
      cases e
      cases d
  have go := (F (hidT t.heap H) TB).run callerA [] t H ⟨[.ref a], []⟩ [.ref a] [.ref a] _ _ rm rfl ev (bd t (.ref a)) (.cons rfl .nil) hs
  refine codeAny_mono go fun r u h => ?_
  match r, h with
  | .error e, ⟨_, _, _, _, _, _, _, _, _, _, _, _, z⟩ => exact z.elim
  | .ok .next, h => exact False.elim h
  | .ok .brk, h => exact False.elim h
  | .ok .cont, h => exact False.elim h
  | .ok (.ret y), ⟨v, H', os, bare, un, hok', r', q⟩ =>
    have q1 : v = .bl true := q
    rw [q1] at r'
    obtain rfl : y = Value.bool true := r'
    have stay : ∀ b o, (¬ ∃ p ∈ cs, b = p.2) → t.heap.get? b = some o → u.heap.get? b = some o := by
      intro b o nb e
      rcases hO b with z | z | ⟨ob, xs, z⟩
      · exact un.keep b o e z (fun m => absurd (show b ∈ ([] : List Addr) from m) List.not_mem_nil) (by simp)
      · exact absurd z nb
      · have z2 := un.frzs b ob _ z
        have e1 := (hok b _ z).1
        rw [e] at e1
        cases e1
        exact (hok' b _ z2).1
    have tabs : ∀ p ∈ cs, ∃ more : Array Value, u.heap.get? p.2 = some { cls := .none, data := .fields more } := by
      intro p hp
      obtain ⟨more, z⟩ := un.tbls p.2 #[] (hTb p hp)
      exact ⟨_, hok' p.2 _ z⟩
    refine ⟨rfl, ⟨fun b o e => ?_, fun b o e => ?_⟩, os, bare⟩
    · rcases Classical.em (∃ p ∈ cs, b = p.2) with ⟨p, hp, rfl⟩ | nb
      · obtain ⟨more, hm⟩ := tabs p hp
        obtain ⟨h1, _, h3⟩ := tb p hp
        rw [h1] at e
        cases e
        refine .inr (.inl ⟨(h3.tab h1).isCodeTable, rfl, #[], more, rfl, ?_⟩)
        rw [Array.empty_append]
        exact hm
      · exact .inl (stay b o nb e)
    · rcases Classical.em (∃ p ∈ cs, b = p.2) with ⟨p, hp, rfl⟩ | nb
      · obtain ⟨more, hm⟩ := tabs p hp
        exact ⟨_, hm⟩
      · exact ⟨o, stay b o nb e⟩
theorem end_call {cs : List (Addr × Addr)} (KX : K.In t.heap) (gn : t.heap.Ns mainGlobals mg) (bn : t.heap.Ns builtinsNs mb) (bb : ∀ y : Str, y ≠ "__name__" → mb y = bootBuiltins y) (lim : t.heap.NoLimit) (g0 : t.gens = #[])
    (tb : ∀ p ∈ cs, t.heap.get? p.2 = some { cls := .none, data := .fields #[] } ∧ K.lookup p.2 = none ∧ PySem.W.CodeHd t.heap p.1 p.2) (bmn : ∃ (bm : Addr) (ob : Obj), mg "__builtins__" = some (.ref bm) ∧ bm ≠ builtinsNs ∧ t.heap.get? bm = some ob ∧ ob.cls = .type "module" ∧ ob.dict = some builtinsNs ∧ ob.data = .plain)
    (sa : t.heap.get? a = some { cls := .type "list", data := .seq vs.toArray }) (ia : IntsAre vs ns) (il : ns.length ≤ sizeLine) (rm : Room k callerA) (F : ∀ base : Heap, (∀ p ∈ cs, LamX.TabB base mg p.1 p.2) → FnG P w K mg base (CX P w) k fa fd [x] sp) (bd : ∀ (s : Shared) (u : Value), BindsTo s fd ⟨[u], []⟩ [(x, u)])
    (hs : ∀ H : Hp, (∀ p ∈ cs, H p.2 = some (.tbl #[])) → SqL K H a (ns.map V.int) → sp [.ref a] H (fun v _ => v = .bl true) fun _ _ _ => False) :
    codeAny (model P w) callerA (.call (.ref fa) ⟨[.ref a], []⟩) (Good t) t := by
  have rv := vals_ints ia
  have at_ : ∀ p ∈ cs, p.2 ≠ a := by
    intro p hp z
    have := (tb p hp).1
    rw [z, sa] at this
    cases this
  cases hk : K.lookup a with
  | some o =>
    have e := KX a o hk
    rw [sa] at e
    obtain rfl := Option.some.inj e
    let H1 : Hp := fun b => if (∃ p ∈ cs, b = p.2) then some (.tbl #[]) else none
    have hT1 : ∀ p ∈ cs, H1 p.2 = some (.tbl #[]) := fun p hp => if_pos ⟨p, hp, rfl⟩
    have hn : ∀ b, (¬ ∃ p ∈ cs, b = p.2) → H1 b = none := fun b z => if_neg z
    have hS : SqL K H1 a (ns.map V.int) := .inr ⟨_, vs.toArray, _, hk, rfl, rfl, rfl, by rw [List.size_toArray, ia.length]; exact il, by simpa using rv⟩
    refine end_at (H := H1) KX gn bn bb lim g0 tb bmn sa rm F bd (fun b => ?_) (hs _ hT1 hS) (fun b u z => ?_) (fun b z => ?_) (fun z => absurd (hn a fun ⟨p, hp, e⟩ => at_ p hp e.symm) z) hT1
    · rcases Classical.em (∃ p ∈ cs, b = p.2) with h | h
      · exact .inr (.inl h)
      · exact .inl (hn b h)
    · rcases Classical.em (∃ p ∈ cs, b = p.2) with ⟨p, hp, rfl⟩ | h
      · rw [hT1 p hp] at z
        cases z
        exact (tb p hp).1
      · rw [hn b h] at z
        cases z
    · rcases Classical.em (∃ p ∈ cs, b = p.2) with h | h
      · exact .inr h
      · exact absurd (hn b h) z
  | none =>
    let H1 : Hp := fun b => if b = a then some (.frz { cls := .type "list", data := .seq vs.toArray } (.lst (ns.map V.int))) else if (∃ p ∈ cs, b = p.2) then some (.tbl #[]) else none
    have ha : H1 a = some (.frz { cls := .type "list", data := .seq vs.toArray } (.lst (ns.map V.int))) := if_pos rfl
    have hT1 : ∀ p ∈ cs, H1 p.2 = some (.tbl #[]) := fun p hp => (if_neg (at_ p hp)).trans (if_pos ⟨p, hp, rfl⟩)
    have hn : ∀ b, b ≠ a → (¬ ∃ p ∈ cs, b = p.2) → H1 b = none := fun b z1 z2 => (if_neg z1).trans (if_neg z2)
    refine end_at (H := H1) KX gn bn bb lim g0 tb bmn sa rm F bd (fun b => ?_) (hs _ hT1 (.inl (.inr ⟨_, ha⟩))) (fun b u z => ?_) (fun b z => ?_) (fun _ => hk) hT1
    · rcases Classical.em (b = a) with e | e
      · exact .inr (.inr ⟨_, _, by rw [e]; exact ha⟩)
      · rcases Classical.em (∃ p ∈ cs, b = p.2) with h | h
        · exact .inr (.inl h)
        · exact .inl (hn b e h)
    · rcases Classical.em (b = a) with e | e
      · subst e
        rw [ha] at z
        cases z
        refine ⟨sa, ?_, vs, _, rv, sa⟩
        rw [List.length_map]
        exact il
      · rcases Classical.em (∃ p ∈ cs, b = p.2) with ⟨p, hp, rfl⟩ | h
        · rw [hT1 p hp] at z
          cases z
          exact (tb p hp).1
        · rw [hn b e h] at z
          cases z
    · rcases Classical.em (b = a) with e | e
      · exact .inl e
      · rcases Classical.em (∃ p ∈ cs, b = p.2) with h | h
        · exact .inr h
        · exact absurd (hn b e h) z
end
/-- what a law promises, as data -/
def spLaw : Spec := fun ds _ Q _ => ∃ ns : List Int, ds = [.lsf (ns.map D.int)] ∧ ns.length ≤ 63 ∧ (∀ z ∈ ns, Builtin.Int.intBits z ≤ 1048576) ∧ ∀ S', Q (.bl true) S'
theorem reps_ints {K : PySem.W.Frag} {S : XS} {H : Hp} : ∀ ns : List Int, Reps K S H (ns.map V.int) (ns.map D.int)
  | [] => .nil
  | n :: ns => .cons (.int n) (reps_ints ns)
/-- what is known at the law's own call -/
def LawG (l : PySem.W.OpenLaw) (w : World) (K : PySem.W.Frag) (k : Nat) (x : Str) (mg : Str → Option Value) (fa : Addr) (h : Heap) : Prop :=
  ∃ (fd : FuncData) (cs : List (Addr × Addr)) (TL : List (Addr × Str)), (∀ p ∈ cs, h.get? p.2 = some { cls := .none, data := .fields #[] } ∧ K.lookup p.2 = none ∧ PySem.W.CodeHd h p.1 p.2) ∧ (∀ p ∈ TL, ∃ c, (c, p.1) ∈ cs) ∧ (∀ (s : Shared) (u : Value), BindsTo s fd ⟨[u], []⟩ [(x, u)]) ∧
    ∀ base : Heap, (∀ p ∈ cs, LamX.TabB base mg p.1 p.2) → FnG l.prog w K mg base (CX l.prog w) k fa fd [x] (liftSp TL K 1 spLaw)
theorem walkG {l : PySem.W.OpenLaw} {k : Nat} {q : Program} {loose : List Str} {XQ : (Str → Option Value) → Heap → Prop} {YP : World → Heap → Prop} {d : DefRec} {K : Params → PySem.W.Frag} {x : Str} {lams : List Str}
    (hn : l.most = some 63) (hdf : d.params.defaults = []) (hr : Room k callerA) (hY : ∀ (w : World) (h : Heap), YP w h → (K w.params).In h) (hrec : ∀ y ∈ lams, ((recsOf q).any fun e => e.name == y) = true)
    (F : ∀ (w : World) (mg : Str → Option Value) (fa : Addr) (h : Heap), (K w.params).In h → h.Ns mainGlobals mg → mg d.name = some (.ref fa) → (∀ y ∈ lams, TbAt h mg y) → LawG l w (K w.params) k x mg fa h) :
    PySem.W.WalkO q loose XQ YP l.row.toRowW d [] (fun f vs => PySem.call f vs) := by
  refine Att.attach_callB hn hdf fun w s0 t mg mb fa o pm cd doc a vs ns G Y ho hd hcd hmg hobj hints hlen hbits hg => ?_
  have tabs : ∀ y ∈ lams, TbAt t.heap mg y := by
    intro y hy
    obtain ⟨dL, hm, hn1⟩ := List.any_eq_true.mp (hrec y hy)
    obtain ⟨a', o', fd', c', P', h1, h2, h3, h4, h5, h6⟩ := G.T.tab dL hm
    rw [beq_iff_eq.mp hn1] at h1
    exact ⟨a', o', fd', c', P', h1, h2, h3, h4, .of h5 h6, h6.2⟩
  obtain ⟨fd, cs, TL, htb, hTL, hb, hF⟩ := F w mg fa _ (hY w _ Y) G.T.g hmg tabs
  refine end_call (hY w _ Y) G.T.g G.T.b G.T.builtins G.T.nolimit hg htb G.T.bmain hobj hints (Nat.le_trans hlen (by decide)) hr hF hb fun H hT hS => ?_
  refine ⟨[.lsf (ns.map D.int)], fun _ => none, fun d _ => d = .bl true, fun _ _ => False, rfl, .cons (.lsf (show SqF (K w.params) (fun _ => none) H a (ns.map V.int) from ?_) ?_ (reps_ints ns)) .nil, .empty (fun p hp => ?_), ⟨ns, rfl, hlen, hbits, fun _ => rfl⟩, ?_, ?_⟩
  · rcases hS with (h | ⟨o, h⟩) | h
    · exact .inl ⟨h, rfl⟩
    · exact .inr (.inl ⟨o, h⟩)
    · exact .inr (.inr h)
  · rw [List.length_map]
    exact Nat.le_trans hlen (by decide)
  · obtain ⟨c, hc⟩ := hTL p hp
    exact .nil (hT _ hc)
  · rintro d S' v H' rfl _ _ rv
    cases rv
    rfl
  · exact fun _ _ _ _ _ h => h.elim
end FL

namespace FL
open PySem PySem.Spec PyProof.Rows L2
/-! ### all defs of a text, one after the other -/
/-- p values by position, then the keywords' values in the parameters' order -/
def gP {α : Type} (p : Nat) (pm : List Nat) (us ws : List α) : List α := if us.length = p ∧ ws.length = pm.length then us ++ pm.filterMap (fun i => ws[i]?) else []
theorem gP_len {α : Type} {p n : Nat} {pm : List Nat} {us ws : List α} (h : (gP p pm us ws).length = n) (hn : 0 < n) : us.length = p ∧ ws.length = pm.length := by
  unfold gP at h
  split at h
  · assumption
  · subst h
    exact absurd hn (Nat.lt_irrefl _)
theorem gP_rel {α β : Type} {R : α → β → Prop} {p : Nat} {pm : List Nat} {us ws : List α} {vs zs : List β} {T : List α → List β → Prop} (nl : T [] []) (len : ∀ {a : List α} {b : List β}, T a b → a.length = b.length) (app : ∀ {a c : List α} {b d : List β}, T a b → T c d → T (a ++ c) (b ++ d))
    (one : ∀ {x y}, R x y → T [x] [y]) (get : ∀ {a : List α} {b : List β}, T a b → ∀ i : Nat, (a[i]? = none ∧ b[i]? = none) ∨ ∃ x y, a[i]? = some x ∧ b[i]? = some y ∧ R x y) (h1 : T us vs) (h2 : T ws zs) : T (gP p pm us ws) (gP p pm vs zs) := by
  have fm : ∀ l : List Nat, T (l.filterMap (fun i => ws[i]?)) (l.filterMap (fun i => zs[i]?)) := by
    intro l
    induction l with
    | nil => exact nl
    | cons i l ih =>
      rcases get h2 i with ⟨e1, e2⟩ | ⟨x, y, e1, e2, r⟩
      · rw [List.filterMap_cons, List.filterMap_cons, e1, e2]
        exact ih
      · rw [List.filterMap_cons, List.filterMap_cons, e1, e2]
        exact app (one r) ih
  unfold gP
  rw [len h1, len h2]
  split
  · exact app h1 (fm pm)
  · exact nl
theorem gP_vals {p : Nat} {pm : List Nat} {us ws : List Value} {vs zs : List V} (h1 : Vals vs us) (h2 : Vals zs ws) : Vals (gP p pm vs zs) (gP p pm us ws) :=
  gP_rel (R := RelV) (T := Vals) .nil (fun h => h.length) (fun a b => a.append b) (fun r => .cons r .nil) (fun {a b} h i => by
    induction h generalizing i with
    | nil => exact .inl ⟨rfl, rfl⟩
    | cons r _ ih =>
      cases i with
      | zero => exact .inr ⟨_, _, rfl, rfl, r⟩
      | succ i => exact ih i) h1 h2
theorem gP_reps {K : PySem.W.Frag} {S : XS} {H : Hp} {p : Nat} {pm : List Nat} {vs ws : List V} {ds es : List D} (h1 : Reps K S H vs ds) (h2 : Reps K S H ws es) : Reps K S H (gP p pm vs ws) (gP p pm ds es) :=
  gP_rel (R := Rep K S H) (T := Reps K S H) .nil (fun h => h.len) (fun a b => a.app b) (fun r => .cons r .nil) (fun {a b} h i => by
    cases e : b[i]? with
    | none => exact .inl ⟨List.getElem?_eq_none (by rw [h.len]; exact List.getElem?_eq_none_iff.mp e), rfl⟩
    | some d =>
      obtain ⟨v, e1, r⟩ := h.get e
      exact .inr ⟨v, d, e1, rfl, r⟩) h1 h2
/-- a def as it stands behind the top -/
structure At (K : PySem.W.Frag) (mg : Str → Option Value) (x : Str) (s : Stmt) : Prop where
  ex : ∃ fa fd, Fun K x x s fa fd ∧ mg x = some (.ref fa)
theorem at_mk {K : PySem.W.Frag} {h : Heap} {mg : Str → Option Value} {x : Str} {s : Stmt} {f : Addr} {oc : Value} {od an : Option Addr} {osl : Array (Option Value)} {kV doc pm cdv ct : Value} (X : K.In h) (G : h.Ns mainGlobals mg) (a : PySem.W.nsIn K mainGlobals x = some (some (.ref f)))
    (l : K.lookup f = some ⟨oc, od, .func (PySem.W.fnOf x x (defArgs s) (defBody s) (defScope s) .none kV doc pm an cdv ct), osl⟩) (c : PySem.W.codeIn K cdv x = true) (k : PySem.W.keepIn K (.ref f) = true) : At K mg x s :=
  ⟨f, _, fun_mk l c k, PySem.W.mg_of X G a⟩
/-- how a def binds -/
structure Bnd (x : Str) (s : Stmt) (ps : List Str) (shp : Nat → List Str) (ord : Nat → List D → List D → List D) : Prop where
  pos : ∀ (kV doc pm : Value) (an : Option Addr) (cdv ct : Value) (us : List Value), us.length = ps.length → bindArgs (PySem.W.fnOf x x (defArgs s) (defBody s) (defScope s) .none kV doc pm an cdv ct) ⟨us, []⟩ = pure (ps.zip us)
  kw : ∀ sh, shp sh ≠ [] → nmOf (shp sh) = shp sh ∧ ∃ p pm, ord sh = gP p pm ∧ ∀ (kV doc q : Value) (an : Option Addr) (cdv ct : Value) (us ws : List Value), (gP p pm us ws).length = ps.length →
    bindArgs (PySem.W.fnOf x x (defArgs s) (defBody s) (defScope s) .none kV doc q an cdv ct) ⟨us, (shp sh).zip ws⟩ = pure (ps.zip (gP p pm us ws))
section
variable {P : Program} {w : World} {K : PySem.W.Frag} {mg : Str → Option Value} {base : Heap} {G : Ctx}
/-- the first j defs are known -/
def Known (TL : List (Addr × Str)) (P : Program) (w : World) (K : PySem.W.Frag) (mg : Str → Option Value) (base : Heap) (G : Ctx) (FNS : List Str) (shp : Nat → Nat → List Str) (j k : Nat) : Prop :=
  ∀ i x, (FNS.take j)[i]? = some x → Fn0 TL P w K mg base k x (G.fn i) (G.ar i) (shp i) (G.ord i)
theorem Known.zero {FNS : List Str} {shp : Nat → Nat → List Str} {k : Nat} : Known TL P w K mg base G FNS shp 0 k := fun i x h => by
  rw [List.take_zero] at h
  cases h
theorem Known.mono {FNS : List Str} {shp : Nat → Nat → List Str} {j k l : Nat} (h : Known TL P w K mg base G FNS shp j k) (hk : k ≤ l) : Known TL P w K mg base G FNS shp j l := fun i x e => (h i x e).mono hk
theorem fn_at {x : Str} {s : Stmt} {ps : List Str} {sp : Spec} {st : Sta} {core : CSs} {k : Nat} {fa : Addr} {fd : FuncData} (A : Fun K x x s fa fd) (FS : FnScope st.N ps (defScope s)) (hsc : st.sc = defScope s) (ch : chSs st core (defBody s) = true)
    (fns : ∀ i x, st.fns[i]? = some x → Fn0 TL P w K mg base k x (G.fn i) (G.ar i) (st.shp i) (G.ord i)) (gls : ∀ g x, st.gls[g]? = some x → ∃ d, G.gl g = some d ∧ Gl0 K mg x d) (blt : ∀ x ∈ bltNames, mg x = none)
    (hb : BodyOk G core st.N.length ps.length sp) (exs : ∀ x f1 f2, (x, f1, f2) ∈ st.exs → 2 ≤ st.xr ∧ Ex0 P K mg x f1 f2) (sd : st.lam = true → 2 ≤ st.xr ∧ Sd TL K mg base fd.code (x ++ ".<locals>.")) : FnG P w K mg base (CX P w) (k + st.xr + 1) fa fd ps (liftSp TL K ps.length sp) := by
  obtain ⟨oc, od, kV, doc, pm, an, cdv, ct, osl, rfl, lk, hcd⟩ := A.ex
  exact fn_ok lk hcd FS hsc ch fns gls blt hb exs sd
theorem fn0_at {x : Str} {s : Stmt} {ps : List Str} {sp : Spec} {k n : Nat} {shp : Nat → List Str} {ord : Nat → List D → List D → List D} (A : At K mg x s) (B : Bnd x s ps shp ord) (hn : ps.length = n) (F : ∀ fa fd, Fun K x x s fa fd → mg x = some (.ref fa) → FnG P w K mg base (CX P w) k fa fd ps (liftSp TL K n sp)) :
    Fn0 TL P w K mg base k x sp n shp ord := by
  obtain ⟨fa, fd, A, hm⟩ := A.ex
  refine ⟨fa, fd, ps, F fa fd A hm, hm, A.kp, A.binds B.pos, fun sh hsh => ?_⟩
  obtain ⟨en, p, pm, e, hb⟩ := B.kw sh hsh
  rw [en]
  refine ⟨gP p pm, gP p pm, ⟨fun s us ws _ hl => ?_, fun h1 h2 => gP_vals h1 h2⟩, fun S H vs ds ws es h1 h2 => ?_⟩
  · obtain ⟨oc, od, kV, doc, q, an, cdv, ct, osl, rfl, lk, hcd⟩ := A.ex
    exact .of_eq (hb kV doc q an cdv ct us ws hl)
  · rw [e]
    exact gP_reps h1 h2
/-- one def more -/
theorem Known.add {FNS : List Str} {j k : Nat} {st : Sta} {x : Str} {s : Stmt} {ps : List Str} {core : CSs} (h : Known TL P w K mg base G FNS st.shp j k) (hj : FNS[j]? = some x) (A : At K mg x s) (B : Bnd x s ps (st.shp j) (G.ord j)) (hn : ps.length = G.ar j)
    (FS : FnScope st.N ps (defScope s)) (hsc : st.sc = defScope s) (hf : st.fns = FNS.take j) (ch : chSs st core (defBody s) = true) (gls : ∀ g x, st.gls[g]? = some x → ∃ d, G.gl g = some d ∧ Gl0 K mg x d) (blt : ∀ x ∈ bltNames, mg x = none)
    (hb : BodyOk G core st.N.length (G.ar j) (G.fn j)) (exs : ∀ x f1 f2, (x, f1, f2) ∈ st.exs → 2 ≤ st.xr ∧ Ex0 P K mg x f1 f2) (sd : st.lam = true → 2 ≤ st.xr ∧ ∀ fa fd, Fun K x x s fa fd → mg x = some (.ref fa) → Sd TL K mg base fd.code (x ++ ".<locals>.")) : Known TL P w K mg base G FNS st.shp (j + 1) (k + st.xr + 1) := by
  intro i y hi
  rw [List.getElem?_take] at hi
  split at hi
  · rename_i hlt
    by_cases e : i = j
    · subst e
      rw [hj] at hi
      cases hi
      refine fn0_at A B hn fun fa fd F hmg => ?_
      have := fn_at (P := P) (w := w) (base := base) (k := k) F FS hsc ch (by rw [hf]; exact h) gls blt (by rw [hn]; exact hb) exs (fun hl => ⟨(sd hl).1, (sd hl).2 fa fd F hmg⟩)
      rw [hn] at this
      exact this
    · exact (h i y (by rw [List.getElem?_take, if_pos (by omega)]; exact hi)).mono (by omega)
  · cases hi
/-- the same defs, one with another promise -/
def Ctx.setFn (G : Ctx) (j : Nat) (sp : Spec) : Ctx := { G with fn := fun i => if i = j then sp else G.fn i }
def spNo : Spec := fun _ _ _ _ => False
def prevSp (spN : Nat → Spec) : Nat → Spec
  | 0 => spNo
  | n + 1 => spN n
/-- a def that calls itself: its promise by depth -/
theorem Known.addRec {FNS : List Str} {j k : Nat} {st : Sta} {x : Str} {s : Stmt} {ps : List Str} {core : CSs} {spN : Nat → Spec} (h : Known TL P w K mg base G FNS st.shp j k) (hj : FNS[j]? = some x) (A : At K mg x s) (B : Bnd x s ps (st.shp j) (G.ord j)) (hn : ps.length = G.ar j)
    (FS : FnScope st.N ps (defScope s)) (hsc : st.sc = defScope s) (hf : st.fns = FNS.take (j + 1)) (ch : chSs st core (defBody s) = true) (gls : ∀ g x, st.gls[g]? = some x → ∃ d, G.gl g = some d ∧ Gl0 K mg x d) (blt : ∀ x ∈ bltNames, mg x = none)
    (hb : ∀ L, BodyOk (G.setFn j (prevSp spN L)) core st.N.length (G.ar j) (spN L)) (hx : st.exs = []) (hlm : st.lam = false) (hxr : st.xr = 0) (L : Nat) (hL : G.fn j = spN L) : Known TL P w K mg base G FNS st.shp (j + 1) (k + L + 1) := by
  have kn : ∀ (m : Nat) (sp : Spec), k ≤ m → Fn0 TL P w K mg base m x sp (G.ar j) (st.shp j) (G.ord j) → ∀ i y, (FNS.take (j + 1))[i]? = some y → Fn0 TL P w K mg base m y ((G.setFn j sp).fn i) (G.ar i) (st.shp i) (G.ord i) := by
    intro m sp hm F i y hi
    rw [List.getElem?_take] at hi
    split at hi
    · rename_i hlt
      by_cases e : i = j
      · subst e
        rw [hj] at hi
        cases hi
        show Fn0 TL P w K mg base m x (if i = i then sp else G.fn i) _ _ _
        rw [if_pos rfl]
        exact F
      · show Fn0 TL P w K mg base m y (if i = j then sp else G.fn i) _ _ _
        rw [if_neg e]
        exact (h i y (by rw [List.getElem?_take, if_pos (by omega)]; exact hi)).mono hm
    · cases hi
  have all : ∀ L, Fn0 TL P w K mg base (k + L) x (prevSp spN L) (G.ar j) (st.shp j) (G.ord j) := by
    intro L
    induction L with
    | zero =>
      refine fn0_at A B hn fun fa fd F _ => ⟨fun vs H Q E z => ?_, fun A outer s H args us vs Q E _ _ _ _ _ z => ?_⟩
      · obtain ⟨_, _, _, _, _, _, _, z, _⟩ := z
        exact z.elim
      · obtain ⟨_, _, _, _, _, _, _, z, _⟩ := z
        exact z.elim
    | succ L ih =>
      refine fn0_at A B hn fun fa fd F _ => ?_
      have := fn_at (P := P) (w := w) (base := base) (k := k + L) (G := G.setFn j (prevSp spN L)) F FS hsc ch (by rw [hf]; exact kn (k + L) _ (by omega) ih) gls blt (by rw [hn]; exact hb L) (fun _ _ _ h => by rw [hx] at h; cases h) (fun h => by rw [hlm] at h; cases h)
      rw [hn, hxr] at this
      exact this
  intro i y hi
  rw [List.getElem?_take] at hi
  split at hi
  · rename_i hlt
    by_cases e : i = j
    · subst e
      rw [hj] at hi
      cases hi
      rw [hL]
      exact all (L + 1)
    · exact (h i y (by rw [List.getElem?_take, if_pos (by omega)]; exact hi)).mono (by omega)
  · cases hi
end
end FL

namespace FL
open PySem PySem.Spec PyProof.Rows L2 PySem.W
/-! ### the facts of a text with errors, put together -/
/-- what is asked of a class that is raised -/
def iniB (K : Frag) (C fI : Addr) (bm : List Value) (f1 f2 : Str) : Bool :=
  PySem.HandSPX.refsVE bm && decide (findIn K (.ref C) "__setattr__" = some (some (.builtin "object.__setattr__"))) && decide (subIn K (.ref C) (.type "BaseException") = some true) && decide (typeIn K (.ref C) = some (.type "type")) && keepIn K (.ref C) &&
  decide (typeIn K (.ref fI) = some (.type "function")) && decide (ks_superIn K C C "__init__" = some (some (.builtin "ValueError.__init__"))) && decide (subIn K (.ref C) (.type "ValueError") = some true) && decide (mroIn K C (.ref C) = some true) && decide (nsIn K cStatics "thirdparty.any" = some none) && decide (nsIn K mainGlobals "super" = some none) &&
  decide (findIn K (.ref C) f1 = some none) && decide (findIn K (.ref C) f2 = some none)
/-- the __init__ of such a class -/
def iniBody (f1 f2 : Str) (p0 p1 p2 p3 p4 p5 p6 p7 p8 p9 q7 q8 q9 r1 r2 : Pos) : List Stmt := [.Expr (.Call (.Attribute (.Call (.Name "super" p0) [] [] p1) "__init__" p2) [.Name f1 p3, .Name f2 p4] [] p5) p6, .Assign [.Attribute (.Name "self" p7) f1 p8] (.Name f1 p9) r1, .Assign [.Attribute (.Name "self" q7) f2 q8] (.Name f2 q9) r2]
def scpB (scope : Scope) (f1 f2 : Str) : Bool :=
  decide (scope.kind = .function) && !scope.isCoroutine && !scope.isGenerator && (scope.names.all fun x => !decide (x.2 = .cell)) && decide (scope.names.lookup ("super" : Str) = some .globalImplicit) && decide (scope.names.lookup ("__class__" : Str) = some .free) && decide (scope.names.lookup ("self" : Str) = some .local) && decide (scope.names.lookup f1 = some .local) && decide (scope.names.lookup f2 = some .local) &&
  !(f1 == ("__debug__" : Str)) && !(f2 == ("__debug__" : Str)) && decide (f1 ≠ "self") && decide (f2 ≠ "self") && decide (f1 ≠ f2)
theorem ex0_mk {P : Program} {K : Frag} {h : Heap} {mg : Str → Option Value} {x f1 f2 nmC qC nm q file : Str} {C N fI cda cc : Addr} {bs bm sub : List Value} {sn : List Str} {ab : Bool} {col : Option Bool} {dd od an cdd cld : Option Addr} {c0 c1 c2 c3 c5 : Option Value} {oc dV kV doc pm ct ccl cl : Value} {osl ccs csl : Array (Option Value)} {params : Arguments} {body : List Stmt} {scope : Scope} {ar : Arg} {vs : Array Value} {tf : Tok}
    {p0 p1 p2 p3 p4 p5 p6 p7 p8 p9 q7 q8 q9 r1 r2 : Pos} (X : K.In h) (G : h.Ns mainGlobals mg) (y : nsIn K mainGlobals x = some (some (.ref C))) (lC : K.lookup C = some (excClassObj nmC qC C N bs bm true sn sub ab col dd c0 c1 c2 c3 c5 "ValueError.__new__")) (iC : findIn K (.ref C) "__init__" = some (some (.ref fI)))
    (lf : K.lookup fI = some ⟨oc, od, .func (ksFn nm q params body scope dV kV doc pm an (.ref cda) ct cc), osl⟩) (hc : codeIn K (.ref cda) q = true) (lc : K.lookup cda = some ⟨ccl, cdd, .fields vs, ccs⟩) (lv : vs[2]? = some (.str file tf)) (lfile : ((P.main.file : Str) == file) = true) (lcc : K.lookup cc = some ⟨cl, cld, .cell (some (.ref C)), csl⟩)
    (hb : body = iniBody f1 f2 p0 p1 p2 p3 p4 p5 p6 p7 p8 p9 q7 q8 q9 r1 r2) (hp : (params.posonlyargs ++ params.args).head? = some ar) (har : decide (ar.arg = "self") = true) (hl : (p2.endLine == p5.line) = true) (hs : scpB scope f1 f2 = true) (hi : iniB K C fI bm f1 f2 = true) (htop : (P.main.scope.names.lookup ("super" : Str)).isSome = false)
    (hbd : Binds K (ksFn nm q params body scope dV kV doc pm an (.ref cda) ct cc) ["self", f1, f2] []) : Ex0 P K mg x f1 f2 := by
  unfold iniB at hi
  unfold scpB at hs
  simp only [Bool.and_eq_true, decide_eq_true_eq, Bool.not_eq_true', List.all_eq_true, decide_eq_false_iff_not] at hi hs
  obtain ⟨⟨⟨⟨⟨⟨⟨⟨⟨⟨⟨⟨i1, i2⟩, i3⟩, i4⟩, i5⟩, i6⟩, i7⟩, i8⟩, i9⟩, i10⟩, i11⟩, i12⟩, i13⟩ := hi
  obtain ⟨⟨⟨⟨⟨⟨⟨⟨⟨⟨⟨⟨⟨s1, s2⟩, s3⟩, s4⟩, s5⟩, s6⟩, s7⟩, s8⟩, s9⟩, s10⟩, s11⟩, s12⟩, s13⟩, s14⟩ := hs
  refine ⟨C, fI, _, ⟨⟨⟨nmC, qC, N, bs, bm, sn, sub, ab, col, dd, c0, c1, c2, c3, c5, lC, i1⟩, i2, i3, i4, i5⟩, iC, i6, i7, i8, i9, i10, i11, i12, i13, ?_⟩, mg_of X G y, y, hbd⟩
  exact ⟨oc, od, osl, nm, q, params, body, scope, dV, kV, doc, pm, an, ct, cda, cc, ar, ccl, cl, cdd, cld, ccs, csl, vs, file, tf, p0, p1, p2, p3, p4, p5, p6, p7, p8, p9, q7, q8, q9, r1, r2, rfl, lf, hc, lc, lv, lfile, lcc, hp, of_decide_eq_true har, hb, s1, s2, s3, s4, s5, s6, s7, s8, s9, htop, s10, s11, s12, s13, s14, hl⟩
/-- what is asked of a class that is told -/
def tolB (K : Frag) (CL C : Addr) (x f1 f2 : Str) (Ds : List (Str × Addr)) : Bool :=
  (clsIn K C).isSome && decide (findIn K (.ref C) "__getattribute__" = some (some (.builtin "BaseException.__getattribute__"))) && decide (findIn K (.ref C) "__getattr__" = some none) && decide (subIn K (.ref C) (.type "BaseException") = some true) && decide (findIn K (.ref C) "__class__" = some (some (.builtin "object.__class__"))) &&
  decide (specialIn K (.builtin "object.__class__") "__get__" = some (some (.builtin "getset_descriptor.__get__"))) && decide (takesIn K (.builtin "object.__class__") = some true) && decide (mroIn K C (.type "object") = some true) && hasDictIn K C && decide (exmOne K (.ref C) (.ref CL) = some true) && decide (kitOne K (.ref C) (.type "ValueError") = some true) &&
  decide (findIn K (.ref C) f1 = some none) && decide (findIn K (.ref C) f2 = some none) && (clsNames.all fun y => match Ds.lookup y with
    | some D => decide (kitOne K (.ref C) (.ref D) = some (bitOf x y))
    | none => false)
theorem tol_mk {K : Frag} {mg : Str → Option Value} {CL C : Addr} {x w f1 f2 : Str} {Ds : List (Str × Addr)} (hw : wordOf x = some (w, f1, f2)) (hD : ∀ y D, Ds.lookup y = some D → mg y = some (.ref D)) (h : tolB K CL C x f1 f2 Ds = true) : TolC K mg CL C x w f1 f2 := by
  unfold tolB at h
  simp only [Bool.and_eq_true, decide_eq_true_eq, List.all_eq_true] at h
  obtain ⟨⟨⟨⟨⟨⟨⟨⟨⟨⟨⟨⟨⟨i1, i2⟩, i3⟩, i4⟩, i5⟩, i6⟩, i7⟩, i8⟩, i9⟩, i10⟩, i11⟩, i12⟩, i13⟩, i14⟩ := h
  refine ⟨hw, ⟨i1, i2, i3, i4, i5, i6, i7, i8, i9⟩, i10, i11, fun y hy => ?_, i12, i13⟩
  have q := i14 y hy
  split at q
  · rename_i D e
    exact ⟨D, hD y D e, of_decide_eq_true q⟩
  · cases q
def refScB (sr : Scope) : Bool := decide (sr.names.lookup ("_law_error" : Str) = some .local) && decide (sr.names.lookup ("_law_families" : Str) = some .local) && decide (sr.names.lookup ("isinstance" : Str) = some .globalImplicit) && decide (sr.names.lookup ("ValueError" : Str) = some .globalImplicit) && clsNames.all fun y => decide (sr.names.lookup y = some .globalImplicit)
theorem refd_mk {K : Frag} {mg : Str → Option Value} {s : Stmt} {p1 p2 p3 p4 p5 p6 p7 p8 p9 p10 p11 p12 p13 p14 p15 p16 p17 p18 p19 p20 p21 p22 p23 p24 p25 p26 p27 p28 p29 p30 p31 p32 p33 p34 p35 p36 p37 p38 p39 p40 p41 p42 p43 p44 p45 p46 p47 p48 p49 p50 p51 p52 p53 p54 p55 p56 p57 p58 p59 p60 p61 p62 p63 p64 p65 p66 p67 p68 p69 p70 p71 p72 p73 p74 p75 p76 p77 p78 p79 p80 p81 p82 p83 p84 p85 p86 p87 p88 p89 p90 p91 p92 p93 p94 p95 p96 p97 p98 p99 p100 p101 p102 p103 p104 p105 : Pos} {j1 j2 j3 j4 j5 j6 j7 j8 j9 j10 j11 j12 j13 j14 j15 j16 j17 j18 j19 j20 : Nat} (A : At K mg "_law_refusal" s) (B : ∀ (kV doc pm : Value) (an : Option Addr) (cdv ct : Value) (us : List Value), us.length = (["_law_error"] : List Str).length → bindArgs (fnOf "_law_refusal" "_law_refusal" (defArgs s) (defBody s) (defScope s) .none kV doc pm an cdv ct) ⟨us, []⟩ = pure ((["_law_error"] : List Str).zip us))
    (hb : defBody s = refBody p1 p2 p3 p4 p5 p6 p7 p8 p9 p10 p11 p12 p13 p14 p15 p16 p17 p18 p19 p20 p21 p22 p23 p24 p25 p26 p27 p28 p29 p30 p31 p32 p33 p34 p35 p36 p37 p38 p39 p40 p41 p42 p43 p44 p45 p46 p47 p48 p49 p50 p51 p52 p53 p54 p55 p56 p57 p58 p59 p60 p61 p62 p63 p64 p65 p66 p67 p68 p69 p70 p71 p72 p73 p74 p75 p76 p77 p78 p79 p80 p81 p82 p83 p84 p85 p86 p87 p88 p89 p90 p91 p92 p93 p94 p95 p96 p97 p98 p99 p100 p101 p102 p103 p104 p105 j1 j2 j3 j4 j5 j6 j7 j8 j9 j10 j11 j12 j13 j14 j15 j16 j17 j18 j19 j20) (h1 : (p17.endLine == p22.line) = true) (h2 : (p25.endLine == p27.line) = true) (S : FnScope (["_law_error", "_law_families"] : List Str) ["_law_error"] (defScope s)) (hs : refScB (defScope s) = true) (mi : mg "isinstance" = none) (mv : mg "ValueError" = none) : ∃ fr cdr, RefD K mg fr (defScope s) cdr := by
  obtain ⟨fa, fd, F, hm⟩ := A.ex
  obtain ⟨oc, od, kV, doc, pm, an, cdv, ct, osl, rfl, lk, hcd⟩ := F.ex
  unfold refScB at hs
  simp only [Bool.and_eq_true, decide_eq_true_eq, List.all_eq_true] at hs
  obtain ⟨⟨⟨⟨s1, s2⟩, s3⟩, s4⟩, s5⟩ := hs
  refine ⟨fa, cdv, ⟨oc, od, osl, _, defBody s, _, kV, doc, pm, an, ct, lk, hcd, F.kp, hm, F.binds B, ?_, ?_, ?_⟩, S, s1, s2, s3, s4, s5, mi, mv⟩
  · rw [hb]
    exact fun X a C dd oe g => ref_paper g h1 h2
  · rw [hb]
    exact fun X a C dd oe g => ref_use g h1 h2
  · rw [hb]
    exact fun X a C dd oe g => ref_text g h1 h2
def saidScB (sg : Scope) : Bool := decide (sg.names.lookup ("_law_ask" : Str) = some .local) && decide (sg.names.lookup ("_law_error" : Str) = some .local) && decide (sg.names.lookup ("LetterError" : Str) = some .globalImplicit) && decide (sg.names.lookup ("_law_refusal" : Str) = some .globalImplicit)
theorem sd_mk {K : Frag} {h base : Heap} {mg : Str → Option Value} {TL : List (Addr × Str)} {x : Str} {s sx sr : Stmt} {fa CL : Addr} {fd : FuncData} {p1 p2 p3 p4 p5 p6 p7 p8 p9 p10 p11 p12 : Pos} {j1 j2 : Nat} (X : K.In h) (A : At K mg "_law_said" s) (B : ∀ (kV doc pm : Value) (an : Option Addr) (cdv ct : Value) (us : List Value), us.length = (["_law_ask"] : List Str).length → bindArgs (fnOf "_law_said" "_law_said" (defArgs s) (defBody s) (defScope s) .none kV doc pm an cdv ct) ⟨us, []⟩ = pure ((["_law_ask"] : List Str).zip us))
    (hb : defBody s = saidBody p1 p2 p3 p4 p5 p6 p7 p8 p9 p10 p11 p12 j1 j2) (S : FnScope (["_law_ask", "_law_error"] : List Str) ["_law_ask"] (defScope s)) (hs : saidScB (defScope s) = true) (R : ∃ fr cdr, RefD K mg fr (defScope sr) cdr) (hCL : mg "LetterError" = some (.ref CL)) (tol : ∀ x w f1 f2 C, wordOf x = some (w, f1, f2) → nsIn K mainGlobals x = some (some (.ref C)) → TolC K mg CL C x w f1 f2)
    (F : Fun K x x sx fa fd) (hm : mg x = some (.ref fa)) {c P : Addr} {fa0 : Addr} {o0 : Obj} {fd0 : FuncData} (t1 : mg x = some (.ref fa0)) (t2 : h.get? fa0 = some o0) (t3 : o0.data = .func fd0) (t4 : fd0.code = .ref c) (TB : LamX.TabB base mg c P) (hT : (P, x ++ ".<locals>." ++ "<lambda>") ∈ TL) (hu : ∀ p ∈ TL, p.1 = P → p.2 = x ++ ".<locals>." ++ "<lambda>") :
    Sd TL K mg base fd.code (x ++ ".<locals>.") := by
  obtain ⟨fs, fds, Fs, hms⟩ := A.ex
  obtain ⟨oc, od, kV, doc, pm, an, cdv, ct, osl, rfl, lk, hcd⟩ := Fs.ex
  obtain ⟨fr, cdr, D⟩ := R
  unfold saidScB at hs
  simp only [Bool.and_eq_true, decide_eq_true_eq] at hs
  obtain ⟨⟨⟨s1, s2⟩, s3⟩, s4⟩ := hs
  have hcode : fd.code = .ref c := by
    obtain ⟨_, _, _, _, _, _, _, _, _, rfl, lk2, _⟩ := F.ex
    rw [hm] at t1
    cases t1
    rw [X _ _ lk2] at t2
    cases t2
    cases t3
    exact t4
  have b := Fs.binds B
  rw [hb] at lk b
  exact ⟨fs, CL, fr, c, P, defScope sr, cdr, _, defScope s, _, kV, doc, pm, cdv, ct, oc, an, od, osl, p1, p2, p3, p4, p5, p6, p7, p8, p9, p10, p11, p12, j1, j2, hms, Fs.kp, lk, hcd, b, S, .inl s1, D, s2, s3, s4, hCL, TB, hcode, hT, hu, tol⟩
/-- a def's table at its place -/
def Tb1 (K : Frag) (h : Heap) (mg : Str → Option Value) (x : Str) (c P : Addr) : Prop := ∃ (fa : Addr) (o : Obj) (fd : FuncData), mg x = some (.ref fa) ∧ h.get? fa = some o ∧ o.data = .func fd ∧ fd.code = .ref c ∧ CodeHd h c P ∧ h.get? P = some { cls := .none, data := .fields #[] } ∧ K.lookup P = none
theorem tb1_mk {K : Frag} {h : Heap} {mg : Str → Option Value} {x : Str} {f c P : Addr} {oc ccl : Value} {od cdd : Option Addr} {osl ccs : Array (Option Value)} {fd : FuncData} {vs : Array Value} (X : K.In h) (G : h.Ns mainGlobals mg) (T : TbAt h mg x) (y : nsIn K mainGlobals x = some (some (.ref f))) (l : K.lookup f = some ⟨oc, od, .func fd, osl⟩) (hc : fd.code = .ref c) (lc : K.lookup c = some ⟨ccl, cdd, .fields vs, ccs⟩) (lv : vs[11]? = some (.ref P)) (ln : K.lookup P = none) : Tb1 K h mg x c P := by
  obtain ⟨fa, o, fd', c', P', h1, h2, h3, h4, h5, h6⟩ := T
  have e1 := mg_of X G y
  rw [h1] at e1
  cases e1
  have e2 := X _ _ l
  rw [h2] at e2
  cases e2
  cases h3
  rw [hc] at h4
  cases h4
  have h5' := h5
  obtain ⟨o, vs', file, tf, flags, tg, inF, text, tt, g1, g2, g3, g4, g5⟩ := h5'
  have e3 := X _ _ lc
  rw [g1] at e3
  cases e3
  cases g3
  rw [lv] at g4
  cases g4
  exact ⟨_, _, _, h1, X _ _ l, rfl, hc, h5, h6, ln⟩
theorem Tb1.sd {K : Frag} {h base : Heap} {mg : Str → Option Value} {TL : List (Addr × Str)} {x : Str} {s sx sr : Stmt} {CL c P : Addr} {p1 p2 p3 p4 p5 p6 p7 p8 p9 p10 p11 p12 : Pos} {j1 j2 : Nat} (T : Tb1 K h mg x c P) (X : K.In h) (A : At K mg "_law_said" s) (B : ∀ (kV doc pm : Value) (an : Option Addr) (cdv ct : Value) (us : List Value), us.length = (["_law_ask"] : List Str).length → bindArgs (fnOf "_law_said" "_law_said" (defArgs s) (defBody s) (defScope s) .none kV doc pm an cdv ct) ⟨us, []⟩ = pure ((["_law_ask"] : List Str).zip us))
    (hb : defBody s = saidBody p1 p2 p3 p4 p5 p6 p7 p8 p9 p10 p11 p12 j1 j2) (S : FnScope (["_law_ask", "_law_error"] : List Str) ["_law_ask"] (defScope s)) (hs : saidScB (defScope s) = true) (R : ∃ fr cdr, RefD K mg fr (defScope sr) cdr) (hCL : mg "LetterError" = some (.ref CL)) (tol : ∀ x w f1 f2 C, wordOf x = some (w, f1, f2) → nsIn K mainGlobals x = some (some (.ref C)) → TolC K mg CL C x w f1 f2)
    (TB : LamX.TabB base mg c P) (hu : (TL.all fun p => !(p.1 == P) || p.2 == x ++ ".<locals>." ++ "<lambda>") = true) (hT : (P, x ++ ".<locals>." ++ "<lambda>") ∈ TL) {fa : Addr} {fd : FuncData} (F : Fun K x x sx fa fd) (hm : mg x = some (.ref fa)) :
    Sd TL K mg base fd.code (x ++ ".<locals>.") := by
  obtain ⟨fa0, o0, fd0, h1, h2, h3, h4, h5, h6, h7⟩ := T
  refine sd_mk X A B hb S hs R hCL tol F hm h1 h2 h3 h4 TB hT fun p hp e => ?_
  have q := List.all_eq_true.mp hu p hp
  rw [e] at q
  simpa using q
theorem al_nil {α : Type} {p : α → Prop} : ∀ x ∈ ([] : List α), p x := fun _ h => by cases h
theorem al_cons {α : Type} {p : α → Prop} {a : α} {l : List α} (h : p a) (g : ∀ x ∈ l, p x) : ∀ x ∈ a :: l, p x := fun x hx => by
  cases hx with
  | head => exact h
  | tail _ m => exact g x m
theorem ds_mk {K : Frag} {h : Heap} {mg : Str → Option Value} (X : K.In h) (G : h.Ns mainGlobals mg) : ∀ {Ds : List (Str × Addr)}, (∀ p ∈ Ds, nsIn K mainGlobals p.1 = some (some (.ref p.2))) → ∀ y D, Ds.lookup y = some D → mg y = some (.ref D)
  | [], _, y, D, h => by cases h
  | p :: r, a, y, D, e => by
    rw [List.lookup_cons] at e
    split at e
    · rename_i h1
      cases e
      rw [beq_iff_eq.mp h1]
      exact mg_of X G (a p List.mem_cons_self)
    · exact ds_mk X G (fun q hq => a q (List.mem_cons_of_mem _ hq)) y D e
theorem tols_mk {K : Frag} {h : Heap} {mg : Str → Option Value} {CL C1 C2 C3 D1 D2 D3 D4 D7 D9 : Addr} (X : K.In h) (G : h.Ns mainGlobals mg) (y1 : nsIn K mainGlobals "InvalidPaper" = some (some (.ref C1))) (y2 : nsIn K mainGlobals "NotUsable" = some (some (.ref C2))) (y3 : nsIn K mainGlobals "InvalidText" = some (some (.ref C3)))
    (d1 : nsIn K mainGlobals "PaperError" = some (some (.ref D1))) (d2 : nsIn K mainGlobals "WebError" = some (some (.ref D2))) (d3 : nsIn K mainGlobals "LiveError" = some (some (.ref D3))) (d4 : nsIn K mainGlobals "TextError" = some (some (.ref D4))) (d7 : nsIn K mainGlobals "Missed" = some (some (.ref D7))) (d9 : nsIn K mainGlobals "InvalidRow" = some (some (.ref D9)))
    (h1 : tolB K CL C1 "InvalidPaper" "word" "at" (clsNames.zip [D1, D2, D3, D4, C1, C2, D7, C3, D9]) = true) (h2 : tolB K CL C2 "NotUsable" "word" "at" (clsNames.zip [D1, D2, D3, D4, C1, C2, D7, C3, D9]) = true) (h3 : tolB K CL C3 "InvalidText" "line" "field" (clsNames.zip [D1, D2, D3, D4, C1, C2, D7, C3, D9]) = true) :
    ∀ x w f1 f2 C, wordOf x = some (w, f1, f2) → nsIn K mainGlobals x = some (some (.ref C)) → TolC K mg CL C x w f1 f2 := by
  have hD := ds_mk X G (Ds := clsNames.zip [D1, D2, D3, D4, C1, C2, D7, C3, D9]) (al_cons d1 (al_cons d2 (al_cons d3 (al_cons d4 (al_cons y1 (al_cons y2 (al_cons d7 (al_cons y3 (al_cons d9 al_nil)))))))))
  intro x w f1 f2 C e n
  have e0 := e
  unfold wordOf at e
  split at e
  · rename_i h; subst h; cases e
    rw [y1] at n; cases n
    exact tol_mk e0 hD h1
  · split at e
    · rename_i h; subst h; cases e
      rw [y2] at n; cases n
      exact tol_mk e0 hD h2
    · split at e
      · rename_i h; subst h; cases e
        rw [y3] at n; cases n
        exact tol_mk e0 hD h3
      · cases e
end FL

namespace FL
open PySem PySem.Spec PyProof.Rows L2
/-! ### the text's own names for values -/
def valB : Value → D → Bool
  | .none, .non => true
  | .bool a, .bl b => decide (a = b)
  | .int i _, .int j => decide (i = j)
  | .str s _, .str t => decide (s = t) && decide (t.length ≤ 1000)
  | _, _ => false
def valsB : List Value → List D → Bool
  | [], [] => true
  | u :: us, d :: ds => valB u d && valsB us ds
  | _, _ => false
def tupsOf : D → List D
  | .tup ds => ds
  | _ => []
theorem val_rep {u : Value} {d : D} (h : valB u d = true) : ∃ v, RelV v u ∧ ∀ K S H, Rep K S H v d := by
  unfold valB at h
  split at h
  · exact ⟨.non, rfl, fun _ _ _ => .non⟩
  · rename_i a b
    have e : a = b := of_decide_eq_true h
    subst e
    exact ⟨.bl a, rfl, fun _ _ _ => .bl a⟩
  · rename_i i t j
    have e : i = j := of_decide_eq_true h
    subst e
    exact ⟨.int i, ⟨t, rfl⟩, fun _ _ _ => .int i⟩
  · rename_i s t z
    rw [Bool.and_eq_true, decide_eq_true_eq, decide_eq_true_eq] at h
    obtain ⟨e, hl⟩ := h
    subst e
    exact ⟨.str s, ⟨t, rfl⟩, fun _ _ _ => .str (Nat.le_trans hl (by decide))⟩
  · cases h
theorem vals_rep : ∀ {us : List Value} {ds : List D}, valsB us ds = true → ∃ vs, Vals vs us ∧ vs.length = ds.length ∧ ∀ K S H, Reps K S H vs ds
  | [], [], _ => ⟨[], .nil, rfl, fun _ _ _ => .nil⟩
  | u :: us, d :: ds, h => by
    have h1 : (valB u d && valsB us ds) = true := h
    rw [Bool.and_eq_true] at h1
    obtain ⟨v, r, q⟩ := val_rep h1.1
    obtain ⟨vs, rs, l, qs⟩ := vals_rep h1.2
    exact ⟨v :: vs, .cons r rs, by rw [List.length_cons, List.length_cons, l], fun K S H => .cons (q K S H) (qs K S H)⟩
  | [], _ :: _, h => by cases h
  | _ :: _, [], h => by cases h
theorem glo_flat {K : PySem.W.Frag} {h : Heap} {mg : Str → Option Value} {x : Str} {u : Value} {d : D} (X : K.In h) (G : h.Ns mainGlobals mg) (y : PySem.W.nsIn K mainGlobals x = some (some u)) (c : valB u d = true) : Gl0 K mg x d := by
  obtain ⟨v, r, q⟩ := val_rep c
  exact ⟨u, v, PySem.W.mg_of X G y, r, fun S H => q K S H⟩
theorem glo_tup {K : PySem.W.Frag} {h : Heap} {mg : Str → Option Value} {x : Str} {a : Addr} {od : Option Addr} {its : Array Value} {n : Nat} {sl : Array (Option Value)} {ds : List D} (X : K.In h) (G : h.Ns mainGlobals mg) (y : PySem.W.nsIn K mainGlobals x = some (some (.ref a)))
    (l : K.lookup a = some ⟨.type "tuple", od, .seq its n, sl⟩) (c : valsB its.toList ds = true) (z : decide (ds.length ≤ 1000) = true) : Gl0 K mg x (.tup ds) := by
  obtain ⟨vs, r, e, q⟩ := vals_rep c
  have hz : ds.length ≤ 1000 := of_decide_eq_true z
  have hs : ds.length ≤ sizeLine := Nat.le_trans hz (by decide)
  have hl := r.length
  refine ⟨.ref a, .ref a, PySem.W.mg_of X G y, rfl, fun S H => .tup (.inr ⟨_, its, n, l, rfl, rfl, ?_, r⟩) (by rw [e]; exact hs) (q K S H)⟩
  rw [← Array.length_toList, ← hl, e]
  exact hs
end FL

namespace FL
open PySem PySem.Spec PyProof.Rows L2
/-! ### defs with defaults -/
structure AtD (K : PySem.W.Frag) (mg : Str → Option Value) (x : Str) (s : Stmt) (dD : List D) : Prop where
  ex : ∃ (fa T : Addr) (oc : Value) (od : Option Addr) (kV doc pm : Value) (an : Option Addr) (cdv ct : Value) (osl : Array (Option Value)) (o : Obj) (its : List Value) (n : Nat) (dvs : List V),
    K.lookup fa = some ⟨oc, od, .func (PySem.W.fnOf x x (defArgs s) (defBody s) (defScope s) (.ref T) kV doc pm an cdv ct), osl⟩ ∧ PySem.W.codeIn K cdv x = true ∧ PySem.W.keepIn K (.ref fa) = true ∧ mg x = some (.ref fa) ∧
    K.lookup T = some o ∧ o.data = .seq its.toArray n ∧ Vals dvs its ∧ dvs.length = dD.length ∧ ∀ S H, Reps K S H dvs dD
theorem atd_mk {K : PySem.W.Frag} {h : Heap} {mg : Str → Option Value} {x : Str} {s : Stmt} {f T : Addr} {oc tc : Value} {od an td : Option Addr} {osl tsl : Array (Option Value)} {kV doc pm cdv ct : Value} {its : Array Value} {n : Nat} {dD : List D} (X : K.In h) (G : h.Ns mainGlobals mg) (a : PySem.W.nsIn K mainGlobals x = some (some (.ref f)))
    (l : K.lookup f = some ⟨oc, od, .func (PySem.W.fnOf x x (defArgs s) (defBody s) (defScope s) (.ref T) kV doc pm an cdv ct), osl⟩) (c : PySem.W.codeIn K cdv x = true) (k : PySem.W.keepIn K (.ref f) = true) (lt : K.lookup T = some ⟨tc, td, .seq its n, tsl⟩) (hv : valsB its.toList dD = true) : AtD K mg x s dD := by
  obtain ⟨vs, rv, hl, rp⟩ := vals_rep hv
  exact ⟨f, T, oc, od, kV, doc, pm, an, cdv, ct, osl, _, its.toList, n, vs, l, c, k, PySem.W.mg_of X G a, lt, by simp, rv, hl, fun S H => rp K S H⟩
/-- how such a def binds: all are given; or the last ones have their defaults -/
structure BndD (x : Str) (s : Stmt) (ps : List Str) (dD : List D) (shp : Nat → List Str) (ord : Nat → List D → List D → List D) : Prop where
  pos : ∀ (T : Addr) (kV doc pm : Value) (an : Option Addr) (cdv ct : Value) (us its : List Value), us.length = ps.length → its.length = dD.length →
    ∃ k, bindArgs (PySem.W.fnOf x x (defArgs s) (defBody s) (defScope s) (.ref T) kV doc pm an cdv ct) ⟨us, []⟩ = seqItems? (.ref T) >>= k ∧ k (some its.toArray) = pure (ps.zip us)
  dfl : ∀ sh, shp sh ≠ [] → nmOf (shp sh) = [] ∧ ∃ n j, (ord sh = fun us _ => if us.length = n then us ++ dD.drop j else []) ∧ 0 < ps.length ∧ n + (dD.length - j) = ps.length ∧
    ∀ (T : Addr) (kV doc pm : Value) (an : Option Addr) (cdv ct : Value) (us its : List Value), us.length = n → its.length = dD.length →
      ∃ k, bindArgs (PySem.W.fnOf x x (defArgs s) (defBody s) (defScope s) (.ref T) kV doc pm an cdv ct) ⟨us, []⟩ = seqItems? (.ref T) >>= k ∧ k (some its.toArray) = pure (ps.zip (us ++ its.drop j))
section
variable {P : Program} {w : World} {K : PySem.W.Frag} {mg : Str → Option Value} {base : Heap} {G : Ctx} {TL : List (Addr × Str)}
theorem Known.addD {FNS : List Str} {j k : Nat} {st : Sta} {x : Str} {s : Stmt} {ps : List Str} {core : CSs} {dD : List D} (h : Known TL P w K mg base G FNS st.shp j k) (hj : FNS[j]? = some x) (A : AtD K mg x s dD) (B : BndD x s ps dD (st.shp j) (G.ord j)) (hn : ps.length = G.ar j)
    (FS : FnScope st.N ps (defScope s)) (hsc : st.sc = defScope s) (hf : st.fns = FNS.take j) (ch : chSs st core (defBody s) = true) (gls : ∀ g x, st.gls[g]? = some x → ∃ d, G.gl g = some d ∧ Gl0 K mg x d) (blt : ∀ x ∈ bltNames, mg x = none)
    (hb : BodyOk G core st.N.length (G.ar j) (G.fn j)) (exs : ∀ x f1 f2, (x, f1, f2) ∈ st.exs → 2 ≤ st.xr ∧ Ex0 P K mg x f1 f2) (hlm : st.lam = false) : Known TL P w K mg base G FNS st.shp (j + 1) (k + st.xr + 1) := by
  intro i y hi
  rw [List.getElem?_take] at hi
  split at hi
  · rename_i hlt
    by_cases e : i = j
    · subst e
      rw [hj] at hi
      cases hi
      obtain ⟨fa, T, oc, od, kV, doc, pm, an, cdv, ct, osl, o, its, n, dvs, lk, hcd, hkp, hmg, lT, oT, rv, hdl, rp⟩ := A.ex
      have F := fn_ok (P := P) (w := w) (base := base) (k := k) (TL := TL) lk hcd FS hsc ch (by rw [hf]; exact h) gls blt (by rw [hn]; exact hb) exs (fun z => by rw [hlm] at z; cases z)
      rw [hn] at F
      have l1 : its.length = dD.length := by rw [← rv.length]; exact hdl
      refine ⟨fa, _, ps, F, hmg, hkp, fun s us X hl => ?_, fun sh hsh => ?_⟩
      · rw [List.append_nil] at hl ⊢
        obtain ⟨kk, e1, e2⟩ := B.pos T kV doc pm an cdv ct us its hl l1
        refine BindsTo.of_looks fun M => ?_
        rw [e1]
        exact looks_items X lT oT (.of_pure e2)
      · obtain ⟨en, n0, j0, eo, hp, hnn, hbd⟩ := B.dfl sh hsh
        rw [en]
        refine ⟨fun us _ => if us.length = n0 then us ++ its.drop j0 else [], fun vs _ => if vs.length = n0 then vs ++ dvs.drop j0 else [], ⟨fun s us ws X hl => ?_, fun {vs us zs ws} h1 h2 => ?_⟩, fun S H vs ds ws es h1 h2 => ?_⟩
        · have hl' : us.length = n0 := by
            refine Classical.byContradiction fun z => ?_
            rw [if_neg z] at hl
            rw [← hl] at hp
            exact absurd hp (Nat.lt_irrefl _)
          rw [if_pos hl']
          obtain ⟨kk, e1, e2⟩ := hbd T kV doc pm an cdv ct us its hl' l1
          refine BindsTo.of_looks fun M => ?_
          rw [show (([] : List Str).zip ws) = [] from rfl, e1]
          exact looks_items X lT oT (.of_pure e2)
        · rw [h1.length]
          split
          · exact h1.append (rv.drop j0)
          · exact .nil
        · rw [eo]
          show Reps K S H (if vs.length = n0 then vs ++ dvs.drop j0 else []) (if ds.length = n0 then ds ++ dD.drop j0 else [])
          rw [h1.len]
          split
          · exact h1.app ((rp S H).drop j0)
          · exact .nil
    · exact (h i y (by rw [List.getElem?_take, if_pos (by omega)]; exact hi)).mono (by omega)
  · cases hi
end
end FL

namespace FL
open PySem PySem.Spec PyProof.Rows L2
/-! ### rules over data -/
theorem comp_rule {te : En → Sto → (D → Sto → Prop) → Prop} {tt : En → Sto → (Bool → Sto → Prop) → Prop} {t : CT} {r : En} {Q : List D → Sto → Prop} : ∀ (ds : List D) (I : Nat → List D → Sto → Prop) (acc : List D) (S : Sto), I 0 acc S →
    (∀ i d, ds[i]? = some d → ∀ acc S, I i acc S → ∀ k : List D → Sto → Prop, (∀ acc' S', I (i + 1) acc' S' → k acc' S') → bindT t d r fun r1 => tt r1 S fun b S1 => if b = true then te r1 S1 fun y S2 => k (acc ++ [y]) S2 else k acc S1) →
    (∀ acc S, I ds.length acc S → Q acc S) → compLoop te tt t r Q ds acc S
  | [], I, acc, S, h0, _, hq => hq acc S h0
  | d :: ds, I, acc, S, h0, hs, hq => by
    refine hs 0 d rfl acc S h0 (fun acc S => compLoop te tt t r Q ds acc S) fun acc' S' h1 => ?_
    exact comp_rule ds (fun i => I (i + 1)) acc' S' h1 (fun i d e => hs (i + 1) d (by simpa using e)) hq
theorem for_rule {tb : En → Sto → Out → Prop} {t : CT} {Z : Out} : ∀ (ds : List D) (I : Nat → En → Sto → Prop) (r : En) (S : Sto), I 0 r S →
    (∀ i d, ds[i]? = some d → ∀ r S, I i r S → ∀ Z1 : Out, Z1.rt = Z.rt → Z1.bk = Z.nx → (∀ r' S', I (i + 1) r' S' → Z1.nx r' S') → (∀ r' S', I (i + 1) r' S' → Z1.ct r' S') → bindT t d r fun r1 => tb r1 S Z1) →
    (∀ r S, I ds.length r S → Z.nx r S) → forLoop tb t Z ds r S
  | [], I, r, S, h0, _, hq => hq r S h0
  | d :: ds, I, r, S, h0, hs, hq => by
    have nxt : ∀ r' S', I 1 r' S' → forLoop tb t Z ds r' S' := fun r' S' h1 => for_rule ds (fun i => I (i + 1)) r' S' h1 (fun i d e => hs (i + 1) d (by simpa using e)) hq
    exact hs 0 d rfl r S h0 _ rfl rfl nxt nxt
/-- a comprehension of a plain function -/
theorem comp_map {te : En → Sto → (D → Sto → Prop) → Prop} {tt : En → Sto → (Bool → Sto → Prop) → Prop} {t : CT} {r : En} {Q : List D → Sto → Prop} {S : Sto} (f : D → D) : ∀ (ds acc : List D),
    (∀ d ∈ ds, ∀ (acc : List D) (k : List D → Sto → Prop), k (acc ++ [f d]) S → bindT t d r fun r1 => tt r1 S fun b S1 => if b = true then te r1 S1 fun y S2 => k (acc ++ [y]) S2 else k acc S1) → Q (acc ++ ds.map f) S → compLoop te tt t r Q ds acc S
  | [], acc, _, hq => by simpa [compLoop] using hq
  | d :: ds, acc, h, hq => h d List.mem_cons_self acc (fun acc S => compLoop te tt t r Q ds acc S) (comp_map f ds (acc ++ [f d]) (fun d' hd => h d' (List.mem_cons_of_mem _ hd)) (by simpa using hq))
/-! ### the feed -/
def feedO (is : List Int) (at_ held cnt : Int) : O := .dK [(Sum.inr "cells", .lst (is.map D.int)), (Sum.inr "at", .int at_), (Sum.inr "held", .int held), (Sum.inr "count", .int cnt)]
/-- a feed with n draws left -/
def Fd (S : Sto) (a : Addr) (n : Nat) : Prop := ∃ is at_ held cnt, S a = some (feedO is at_ held cnt) ∧ is.length ≤ 63 ∧ 0 ≤ cnt ∧ cnt + n ≤ 1000000
theorem Fd.less {S : Sto} {a : Addr} {n m : Nat} (h : Fd S a n) (hm : m ≤ n) : Fd S a m := by
  obtain ⟨is, x, y, z, e, h1, h2, h3⟩ := h
  exact ⟨is, x, y, z, e, h1, h2, by omega⟩
/-- nothing but a is changed -/
def Fr (a : Addr) (S S' : Sto) : Prop := ∀ b, b ≠ a → S' b = S b
theorem Fr.refl (a : Addr) (S : Sto) : Fr a S S := fun _ _ => rfl
theorem Fr.trans {a : Addr} {S S1 S2 : Sto} (h : Fr a S S1) (g : Fr a S1 S2) : Fr a S S2 := fun b hb => (g b hb).trans (h b hb)
theorem Fr.put (a : Addr) (S : Sto) (o : O) : Fr a S (S.put a o) := fun b hb => if_neg hb
theorem put_same (S : Sto) (a : Addr) (o : O) : S.put a o a = some o := if_pos rfl
theorem put_put (S : Sto) (a : Addr) (o o' : O) : (S.put a o).put a o' = S.put a o' := by
  funext b
  unfold Sto.put
  split <;> rfl
theorem put_ne (S : Sto) {a b : Addr} (o : O) (h : b ≠ a) : S.put a o b = S b := if_neg h
/-- a draw below m -/
def spDraw : Spec := fun ds S Q _ => ∃ a m n, ds = [.loc a, .int m] ∧ 0 < m ∧ m < 1073741824 ∧ Fd S a (n + 1) ∧ ∀ d S', 0 ≤ d → d < m → Fd S' a n → Fr a S S' → Q (.int d) S'
def spStart : Spec := fun ds S Q _ => ∃ is : List Int, ds = [.lsf (is.map D.int)] ∧ is.length ≤ 63 ∧ ∀ a S', S a = none → Fd S' a 1000000 → Fr a S S' → Q (.loc a) S'
/-- one of some -/
def spAny : Spec := fun ds S Q _ => ∃ a xs n, (ds = [.loc a, .lst xs] ∨ ds = [.loc a, .tup xs]) ∧ 0 < xs.length ∧ xs.length < 1000000 ∧ Fd S a (n + 1) ∧ ∀ x S', x ∈ xs → Fd S' a n → Fr a S S' → Q x S'
end FL

namespace FL
open PySem PySem.Spec PyProof.Rows L2
/-! ### equations of the operations, one by one -/
theorem e_rs_int {S : Sto} {i : Int} : rs S (.int i) = .int i := rfl
theorem e_rs_str {S : Sto} {i : Str} : rs S (.str i) = .str i := rfl
theorem e_rs_bl {S : Sto} {i : Bool} : rs S (.bl i) = .bl i := rfl
theorem e_rs_non {S : Sto} : rs S .non = .non := rfl
theorem e_rs_tup {S : Sto} {i : List D} : rs S (.tup i) = .tup i := rfl
theorem e_rs_lst {S : Sto} {i : List D} : rs S (.lst i) = .lst i := rfl
theorem e_rs_lsf {S : Sto} {i : List D} : rs S (.lsf i) = .lsf i := rfl
theorem e_rs_loc {S : Sto} {a : Addr} {ds : List D} (h : S a = some (.lst ds)) : rs S (.loc a) = .lst ds := by
  simp only [rs, h]
theorem e_str {s : Str} (h : s.length ≤ sizeLine) : cstD (.str s) = some (.str s) := if_pos h
theorem e_cint {i : Int} : cstD (.int i) = some (.int i) := rfl
theorem e_cbl {i : Bool} : cstD (.bool i) = some (.bl i) := rfl
theorem e_cnon : cstD .none = some .non := rfl
theorem e_add {i j : Int} : binD .Add (.int i) (.int j) = some (.int (i + j)) := rfl
theorem e_sub {i j : Int} : binD .Sub (.int i) (.int j) = some (.int (i - j)) := rfl
theorem e_mul {i j : Int} (h : sz64 i = true) : binD .Mult (.int i) (.int j) = some (.int (i * j)) := if_pos h
theorem e_mod {i j : Int} (h : 0 < j) : binD .Mod (.int i) (.int j) = some (.int (i % j)) := if_pos h
theorem log_lt {n k : Nat} (h : n < 2 ^ k) (hk : 0 < k) : n.log2 < k := by
  by_cases h0 : n = 0
  · subst h0
    exact hk
  · exact (Nat.log2_lt h0).mpr h
theorem e_div {i j : Int} (h : 0 < j ∧ j < 1073741824) : binD .FloorDiv (.int i) (.int j) = some (.int (i / j)) := if_pos ⟨h.1, log_lt (show j.natAbs < 2 ^ 30 by omega) (by decide)⟩
theorem e_pow {i j : Int} (h : 0 ≤ j ∧ j ≤ 1000000 ∧ i.natAbs < 2 ^ 64) : binD .Pow (.int i) (.int j) = some (.int (i ^ j.toNat)) := if_pos h
theorem e_adds {i j : Str} (h : i.length + j.length ≤ sizeLine) : binD .Add (.str i) (.str j) = some (.str (i ++ j)) := if_pos h
theorem e_addt {i j : List D} (h : i.length + j.length ≤ sizeLine) : binD .Add (.tup i) (.tup j) = some (.tup (i ++ j)) := if_pos h
theorem e_addl {i j : List D} (h : i.length + j.length ≤ sizeLine) : binD .Add (.lst i) (.lst j) = some (.lst (i ++ j)) := if_pos h
theorem e_tbl {b : Bool} : truth (.bl b) = some b := rfl
theorem e_tnon : truth .non = some false := rfl
theorem e_tint {b : Int} : truth (.int b) = some (b != 0) := rfl
theorem e_tlst {b : List D} : truth (.lst b) = some (!b.isEmpty) := rfl
theorem e_ttup {b : List D} : truth (.tup b) = some (!b.isEmpty) := rfl
theorem e_gt {i j : Int} : cmpD .Gt (.int i) (.int j) = some (decide (j < i)) := rfl
theorem e_ge {i j : Int} : cmpD .GtE (.int i) (.int j) = some (decide (j ≤ i)) := rfl
theorem e_lt {i j : Int} : cmpD .Lt (.int i) (.int j) = some (decide (i < j)) := rfl
theorem e_le {i j : Int} : cmpD .LtE (.int i) (.int j) = some (decide (i ≤ j)) := rfl
theorem e_eqi {i j : Int} : cmpD .Eq (.int i) (.int j) = some (decide (i = j)) := rfl
theorem e_nei {i j : Int} : cmpD .NotEq (.int i) (.int j) = some (!decide (i = j)) := rfl
theorem e_eqs {i j : Str} : cmpD .Eq (.str i) (.str j) = some (decide (i = j)) := rfl
theorem e_nes {i j : Str} : cmpD .NotEq (.str i) (.str j) = some (!decide (i = j)) := rfl
theorem e_eql {x y : List D} (h : okEq (.lst x) = true ∧ okEq (.lst y) = true) : cmpD .Eq (.lst x) (.lst y) = some (eqD (.lst x) (.lst y)) := by
  simp only [cmpD, h.1, h.2, Bool.and_self, if_true]
theorem e_nel {x y : List D} (h : okEq (.lst x) = true ∧ okEq (.lst y) = true) : cmpD .NotEq (.lst x) (.lst y) = some (!eqD (.lst x) (.lst y)) := by
  simp only [cmpD, h.1, h.2, Bool.and_self, if_true]
theorem e_eqt {x y : List D} (h : okEq (.tup x) = true ∧ okEq (.tup y) = true) : cmpD .Eq (.tup x) (.tup y) = some (eqD (.tup x) (.tup y)) := by
  simp only [cmpD, h.1, h.2, Bool.and_self, if_true]
theorem e_net {x y : List D} (h : okEq (.tup x) = true ∧ okEq (.tup y) = true) : cmpD .NotEq (.tup x) (.tup y) = some (!eqD (.tup x) (.tup y)) := by
  simp only [cmpD, h.1, h.2, Bool.and_self, if_true]
theorem e_sublst {ds : List D} {i : Int} : subD (.lst ds) (.int i) = atI ds i := rfl
theorem e_subtup {ds : List D} {i : Int} : subD (.tup ds) (.int i) = atI ds i := rfl
theorem e_lenl {xs : List D} : biD .len [.lst xs] = some (.int xs.length) := rfl
theorem e_lent {xs : List D} : biD .len [.tup xs] = some (.int xs.length) := rfl
theorem e_lens {s : Str} : biD .len [.str s] = some (.int s.length) := rfl
theorem e_int1 {i : Int} : biD .int1 [.int i] = some (.int i) := rfl
theorem e_tupl {xs : List D} : biD .tuple [.lst xs] = some (.tup xs) := rfl
theorem e_tupt {xs : List D} : biD .tuple [.tup xs] = some (.tup xs) := rfl
theorem e_lstl {xs : List D} : biD .list [.lst xs] = some (.lst xs) := rfl
theorem e_lstt {xs : List D} : biD .list [.tup xs] = some (.lst xs) := rfl
theorem e_repr {d : D} (h : reprOk d = true) : biD .repr [d] = some (.str d.toP.shown) := if_pos h
theorem e_stri {i : Int} (h : i.natAbs.log2 < 1920) : biD .str [.int i] = some (.str (Str.ofString (toString i))) := if_pos h
theorem e_strs {i : Str} : biD .str [.str i] = some (.str i) := rfl
theorem e_fvs {i : Str} : fmtD (.str i) = some i := rfl
theorem e_fvi {i : Int} (h : i.natAbs.log2 < 1920) : fmtD (.int i) = some (Str.ofString (toString i)) := if_pos h
theorem e_sll {ds : List D} {l h : Option Int} : slD (.lst ds) l h = some (.lst (cutD ds l h)) := rfl
theorem e_slf {ds : List D} {l h : Option Int} : slD (.lsf ds) l h = some (.lst (cutD ds l h)) := rfl
theorem e_slt {ds : List D} {l h : Option Int} : slD (.tup ds) l h = some (.tup (cutD ds l h)) := rfl
theorem e_rvt {ds : List D} : rvD (.tup ds) = some (.tup ds.reverse) := rfl
theorem e_rvl {ds : List D} : rvD (.lst ds) = some (.lst ds.reverse) := rfl
theorem e_stl {ds : List D} : starD (.lst ds) = some ds := rfl
theorem e_stt {ds : List D} : starD (.tup ds) = some ds := rfl
theorem e_sql {ds : List D} : seqD (.lst ds) = some ds := rfl
theorem e_sqt {ds : List D} : seqD (.tup ds) = some ds := rfl
theorem e_bnm {i : Nat} {d : D} {r : En} {k : En → Prop} : bindT (.nm i) d r k = k (r.set i (some d)) := rfl
theorem e_btp {ts : CTs} {ds : List D} {r : En} {k : En → Prop} : bindT (.tp ts) (.tup ds) r k = bindTs ts ds r k := rfl
theorem e_bnil {r : En} {k : En → Prop} : bindTs .nil [] r k = k r := rfl
theorem e_bcons {t : CT} {ts : CTs} {d : D} {ds : List D} {r : En} {k : En → Prop} : bindTs (.cons t ts) (d :: ds) r k = bindT t d r fun r1 => bindTs ts ds r1 k := rfl
theorem e_san {r : En} : setAll [] [] r = some r := rfl
theorem e_sac {i : Nat} {is : List Nat} {d : D} {ds : List D} {r : En} : setAll (i :: is) (d :: ds) r = setAll is ds (r.set i (some d)) := rfl
theorem e_wnil {G : Ctx} {R : XP} {r : En} {S : Sto} {Z : Out} : WSs G R .nil r S Z = Z.nx r S := rfl
/-- a feed's parts -/
def feedK (is : List Int) (x y z : Int) : List (Key × D) := [(Sum.inr "cells", .lst (is.map D.int)), (Sum.inr "at", .int x), (Sum.inr "held", .int y), (Sum.inr "count", .int z)]
theorem feedO_eq (is : List Int) (x y z : Int) : feedO is x y z = .dK (feedK is x y z) := rfl
theorem g_cells {is : List Int} {x y z : Int} : getK (feedK is x y z) (Sum.inr "cells") = some (.lst (is.map D.int)) := rfl
theorem g_at {is : List Int} {x y z : Int} : getK (feedK is x y z) (Sum.inr "at") = some (.int x) := rfl
theorem g_held {is : List Int} {x y z : Int} : getK (feedK is x y z) (Sum.inr "held") = some (.int y) := rfl
theorem g_count {is : List Int} {x y z : Int} : getK (feedK is x y z) (Sum.inr "count") = some (.int z) := rfl
theorem p_at {is : List Int} {x y z v : Int} : putK (feedK is x y z) (Sum.inr "at") (.int v) = feedK is v y z := rfl
theorem p_held {is : List Int} {x y z v : Int} : putK (feedK is x y z) (Sum.inr "held") (.int v) = feedK is x v z := rfl
theorem p_count {is : List Int} {x y z v : Int} : putK (feedK is x y z) (Sum.inr "count") (.int v) = feedK is x y v := rfl
theorem l_feed {is : List Int} {x y z : Int} : (feedK is x y z).length < 1000000 := by
  show (4 : Nat) < 1000000
  decide
theorem l_lit (s : Str) (h : s.length ≤ 1000) : s.length ≤ sizeLine := Nat.le_trans h (by decide)
theorem c_count : cstD (.str "count") = some (.str "count") := e_str (by decide +kernel)
theorem c_at : cstD (.str "at") = some (.str "at") := e_str (by decide +kernel)
theorem c_held : cstD (.str "held") = some (.str "held") := e_str (by decide +kernel)
theorem c_cells : cstD (.str "cells") = some (.str "cells") := e_str (by decide +kernel)
end FL

namespace FL
open PySem PySem.Spec PyProof.Rows L2
/-! ### the draws of the first laws -/
theorem fin_draw {S : Sto} {a : Addr} {n : Nat} {Q : D → Sto → Prop} {m d : Int} {is : List Int} {x y z : Int} (hq : ∀ (d : Int) (S' : Sto), 0 ≤ d → d < m → Fd S' a n → Fr a S S' → Q (D.int d) S') (h : 0 ≤ d ∧ d < m) (hl : is.length ≤ 63) (hz : 0 ≤ z) (hc : z + n ≤ 1000000) :
    ∃ S'', Le S'' (S.put a (.dK (feedK is x y z))) ∧ Q (.int d) S'' :=
  ⟨_, Le.refl _, hq d _ h.1 h.2 ⟨is, x, y, z, by rw [put_same, feedO_eq], hl, hz, hc⟩ (Fr.put a S _)⟩
theorem ok_ints (is : List Int) : okEq (.lst (is.map D.int)) = true := by
  have h : ∀ l : List Int, isPs (l.map D.int) = true ∧ PyData.canLayAll0 (toPs (l.map D.int)) = true ∧ PyData.depthAll (toPs (l.map D.int)) = 0 := by
    intro l
    induction l with
    | nil => exact ⟨rfl, rfl, rfl⟩
    | cons x r ih => exact ⟨by simpa [isPs, D.isP] using ih.1, by simpa [toPs, D.toP, PyData.canLayAll0, PyData.canLay0] using ih.2.1, by simpa [toPs, D.toP, PyData.depthAll, PyData.depth] using ih.2.2⟩
  have q := h is
  simp only [okEq, D.isP, D.toP, SeqAt.shaped, PyData.canLay0, PyData.depth, q.1, q.2.1, q.2.2, Bool.and_self, Bool.true_and]
  decide
theorem ok_nil : okEq (.lst []) = true := by decide
theorem eq_nil_ints (is : List Int) : eqD (.lst (is.map D.int)) (.lst []) = is.isEmpty := by
  cases is with
  | nil => decide
  | cons x r => rfl
theorem atI_mod {α : Type} {l : List α} {k : Int} (h : 0 < l.length) : ∃ x, atI l (k % l.length) = some x ∧ x ∈ l := by
  have h1 : 0 ≤ k % (l.length : Int) := Int.emod_nonneg _ (by omega)
  have h2 : k % (l.length : Int) < l.length := Int.emod_lt_of_pos _ (by omega)
  obtain ⟨j, hj⟩ := Int.eq_ofNat_of_zero_le h1
  rw [hj] at h2 ⊢
  have hj2 : j < l.length := by omega
  exact ⟨l[j], atI_nat (by simp [hj2]), List.getElem_mem hj2⟩
theorem atI_in {α : Type} {l : List α} {k : Int} (h0 : 0 ≤ k) (h1 : k < l.length) : ∃ x, atI l k = some x ∧ x ∈ l := by
  obtain ⟨j, hj⟩ := Int.eq_ofNat_of_zero_le h0
  subst hj
  have hj2 : j < l.length := by omega
  exact ⟨l[j], atI_nat (by simp [hj2]), List.getElem_mem hj2⟩
theorem sz_of {i : Int} (h0 : 0 ≤ i) (h1 : i < 10 ^ 18) : sz64 i = true := by
  unfold sz64
  rw [decide_eq_true_eq]
  exact log_lt (show i.natAbs < 2 ^ 62 by omega) (by decide)
def drawC (c0 m1 k1 a1 k2 a2 : Int) : CSs := (.cons (.set (.nm 2) (.bin .Add (.dget (.var 0) (.cst (.str "count"))) (.cst (.int 1)))) (.cons (.put (.var 0) (.cst (.str "count")) (.var 2)) (.cons (.ite (.cmp .Gt (.dget (.var 0) (.cst (.str "held"))) (.cst (.int 0))) (.cons (.set (.nm 5) (.bin .Mod (.bi .int1 (.cons (.dget (.var 0) (.cst (.str "held"))) .nil)) (.var 1))) (.cons (.put (.var 0) (.cst (.str "held")) (.bin .FloorDiv (.dget (.var 0) (.cst (.str "held"))) (.var 1))) (.cons (.ret (.var 5)) .nil))) .nil) (.cons (.par [6, 7] (.cons (.dget (.var 0) (.cst (.str "cells"))) (.cons (.dget (.var 0) (.cst (.str "at"))) .nil))) (.cons (.put (.var 0) (.cst (.str "at")) (.bin .Add (.var 7) (.cst (.int 1)))) (.cons (.set (.nm 3) (.ite (.cmp .NotEq (.var 6) (.lst .nil)) (.sub (.var 6) (.bin .Mod (.bi .int1 (.cons (.var 7) .nil)) (.bi .len (.cons (.var 6) .nil)))) (.cst (.int c0)))) (.cons (.ite (.and (.cons (.cmp .GtE (.var 3) (.bin .Pow (.cst (.int 10)) (.cst (.int 18)))) (.cons (.cmp .Lt (.var 7) (.bi .len (.cons (.var 6) .nil))) .nil))) (.cons (.put (.var 0) (.cst (.str "held")) (.bin .FloorDiv (.var 3) (.var 1))) (.cons (.ret (.bin .Mod (.bi .int1 (.cons (.var 3) .nil)) (.var 1))) .nil)) .nil) (.cons (.set (.nm 4) (.bin .Mod (.bi .int1 (.cons (.bin .Pow (.bin .Add (.bin .Add (.bin .Mod (.bi .int1 (.cons (.var 3) .nil)) (.cst (.int m1))) (.bin .Mult (.cst (.int k1)) (.var 2))) (.cst (.int a1))) (.cst (.int 2))) .nil)) (.cst (.int 2147483629)))) (.cons (.set (.nm 4) (.bin .Mod (.bi .int1 (.cons (.bin .Pow (.bin .Add (.bin .Add (.var 4) (.bin .Mult (.bin .Mult (.cst (.int k2)) (.var 2)) (.var 2))) (.cst (.int a2))) (.cst (.int 3))) .nil)) (.cst (.int 2147483587)))) (.cons (.ret (.bin .Mod (.bi .int1 (.cons (.bin .FloorDiv (.var 4) (.cst (.int 64))) .nil)) (.var 1))) .nil))))))))))
theorem draw_ok (G : Ctx) {c0 m1 k1 a1 k2 a2 : Int} (hm1 : 0 < m1 ∧ m1 < 10 ^ 10) (hk1 : 0 ≤ k1 ∧ k1 ≤ 1000000) (ha1 : 0 ≤ a1 ∧ a1 ≤ 1000000) (hk2 : 0 ≤ k2 ∧ k2 ≤ 100000) (ha2 : 0 ≤ a2 ∧ a2 ≤ 1000000) : BodyOk G (drawC c0 m1 k1 a1 k2 a2) 8 2 spDraw := by
  intro ds S Q R0 hl hsp
  obtain ⟨a, m, n, rfl, hm, hm2, ⟨is, at_, held, cnt, hS, hl1, hc0, hc1⟩, hq⟩ := hsp
  unfold drawC
  rw [WSs]
  (try simp (disch := first | assumption | omega | decide | (constructor <;> first | assumption | omega | decide | fail) | fail) only [WS, e_wnil, WE, WEs, WAnd, WOr, WTs, WFs, WO, WI, e_rs_int, e_rs_str, e_rs_bl, e_rs_non, e_rs_tup, e_rs_lst, e_rs_lsf, e_rs_loc, e_str, e_cint, e_cbl, e_cnon, e_add, e_sub, e_mul, e_mod, e_div, e_pow, e_adds, e_addt, e_addl, e_tbl, e_tnon, e_tint, e_tlst, e_ttup, e_gt, e_ge, e_lt, e_le, e_eqi, e_nei, e_eqs, e_nes, e_eql, e_nel, e_eqt, e_net, e_sublst, e_subtup, e_lenl, e_lent, e_lens, e_int1, e_tupl, e_tupt, e_lstl, e_lstt, e_repr, e_stri, e_strs, e_fvs, e_fvi, e_sll, e_slf, e_slt, e_rvt, e_rvl, e_stl, e_stt, e_sql, e_sqt, e_bnm, e_btp, e_bnil, e_bcons, e_san, e_sac, feedO_eq, g_cells, g_at, g_held, g_count, p_at, p_held, p_count, c_count, c_at, c_held, c_cells, put_same, put_put, List.set_cons_zero, List.set_cons_succ, List.getElem?_cons_zero, List.getElem?_cons_succ, List.map_cons, List.map_nil, List.cons_append, List.nil_append, List.length_cons, List.length_nil, and_true, true_and, decide_true, decide_false, l_feed, startE, List.replicate, Nat.reduceSub, Nat.reduceAdd, List.length_map, Bool.not_true, Bool.not_false, if_true, if_false, Bool.false_eq_true, reduceIte, hS])
  rw [WSs]
  (try simp (disch := first | assumption | omega | decide | (constructor <;> first | assumption | omega | decide | fail) | fail) only [WS, e_wnil, WE, WEs, WAnd, WOr, WTs, WFs, WO, WI, e_rs_int, e_rs_str, e_rs_bl, e_rs_non, e_rs_tup, e_rs_lst, e_rs_lsf, e_rs_loc, e_str, e_cint, e_cbl, e_cnon, e_add, e_sub, e_mul, e_mod, e_div, e_pow, e_adds, e_addt, e_addl, e_tbl, e_tnon, e_tint, e_tlst, e_ttup, e_gt, e_ge, e_lt, e_le, e_eqi, e_nei, e_eqs, e_nes, e_eql, e_nel, e_eqt, e_net, e_sublst, e_subtup, e_lenl, e_lent, e_lens, e_int1, e_tupl, e_tupt, e_lstl, e_lstt, e_repr, e_stri, e_strs, e_fvs, e_fvi, e_sll, e_slf, e_slt, e_rvt, e_rvl, e_stl, e_stt, e_sql, e_sqt, e_bnm, e_btp, e_bnil, e_bcons, e_san, e_sac, feedO_eq, g_cells, g_at, g_held, g_count, p_at, p_held, p_count, c_count, c_at, c_held, c_cells, put_same, put_put, List.set_cons_zero, List.set_cons_succ, List.getElem?_cons_zero, List.getElem?_cons_succ, List.map_cons, List.map_nil, List.cons_append, List.nil_append, List.length_cons, List.length_nil, and_true, true_and, decide_true, decide_false, l_feed, startE, List.replicate, Nat.reduceSub, Nat.reduceAdd, List.length_map, Bool.not_true, Bool.not_false, if_true, if_false, Bool.false_eq_true, reduceIte, hS])
  rw [WSs]
  have md : ∀ k : Int, 0 ≤ k % m ∧ k % m < m := fun k => ⟨Int.emod_nonneg _ (by omega), Int.emod_lt_of_pos _ hm⟩
  have hcn : 0 ≤ cnt + 1 ∧ cnt + 1 + n ≤ 1000000 := by omega
  by_cases hh : 0 < held
  · (try simp (disch := first | assumption | omega | decide | (constructor <;> first | assumption | omega | decide | fail) | fail) only [WS, e_wnil, WE, WEs, WAnd, WOr, WTs, WFs, WO, WI, e_rs_int, e_rs_str, e_rs_bl, e_rs_non, e_rs_tup, e_rs_lst, e_rs_lsf, e_rs_loc, e_str, e_cint, e_cbl, e_cnon, e_add, e_sub, e_mul, e_mod, e_div, e_pow, e_adds, e_addt, e_addl, e_tbl, e_tnon, e_tint, e_tlst, e_ttup, e_gt, e_ge, e_lt, e_le, e_eqi, e_nei, e_eqs, e_nes, e_eql, e_nel, e_eqt, e_net, e_sublst, e_subtup, e_lenl, e_lent, e_lens, e_int1, e_tupl, e_tupt, e_lstl, e_lstt, e_repr, e_stri, e_strs, e_fvs, e_fvi, e_sll, e_slf, e_slt, e_rvt, e_rvl, e_stl, e_stt, e_sql, e_sqt, e_bnm, e_btp, e_bnil, e_bcons, e_san, e_sac, feedO_eq, g_cells, g_at, g_held, g_count, p_at, p_held, p_count, c_count, c_at, c_held, c_cells, put_same, put_put, List.set_cons_zero, List.set_cons_succ, List.getElem?_cons_zero, List.getElem?_cons_succ, List.map_cons, List.map_nil, List.cons_append, List.nil_append, List.length_cons, List.length_nil, and_true, true_and, decide_true, decide_false, l_feed, startE, List.replicate, Nat.reduceSub, Nat.reduceAdd, List.length_map, Bool.not_true, Bool.not_false, if_true, if_false, Bool.false_eq_true, reduceIte, hS, hh, WSs])
    exact fin_draw hq (md _) hl1 hcn.1 hcn.2
  · (try simp (disch := first | assumption | omega | decide | (constructor <;> first | assumption | omega | decide | fail) | fail) only [WS, e_wnil, WE, WEs, WAnd, WOr, WTs, WFs, WO, WI, e_rs_int, e_rs_str, e_rs_bl, e_rs_non, e_rs_tup, e_rs_lst, e_rs_lsf, e_rs_loc, e_str, e_cint, e_cbl, e_cnon, e_add, e_sub, e_mul, e_mod, e_div, e_pow, e_adds, e_addt, e_addl, e_tbl, e_tnon, e_tint, e_tlst, e_ttup, e_gt, e_ge, e_lt, e_le, e_eqi, e_nei, e_eqs, e_nes, e_eql, e_nel, e_eqt, e_net, e_sublst, e_subtup, e_lenl, e_lent, e_lens, e_int1, e_tupl, e_tupt, e_lstl, e_lstt, e_repr, e_stri, e_strs, e_fvs, e_fvi, e_sll, e_slf, e_slt, e_rvt, e_rvl, e_stl, e_stt, e_sql, e_sqt, e_bnm, e_btp, e_bnil, e_bcons, e_san, e_sac, feedO_eq, g_cells, g_at, g_held, g_count, p_at, p_held, p_count, c_count, c_at, c_held, c_cells, put_same, put_put, List.set_cons_zero, List.set_cons_succ, List.getElem?_cons_zero, List.getElem?_cons_succ, List.map_cons, List.map_nil, List.cons_append, List.nil_append, List.length_cons, List.length_nil, and_true, true_and, decide_true, decide_false, l_feed, startE, List.replicate, Nat.reduceSub, Nat.reduceAdd, List.length_map, Bool.not_true, Bool.not_false, if_true, if_false, Bool.false_eq_true, reduceIte, hS, hh])
    rw [WSs]
    (try simp (disch := first | assumption | omega | decide | (constructor <;> first | assumption | omega | decide | fail) | fail) only [WS, e_wnil, WE, WEs, WAnd, WOr, WTs, WFs, WO, WI, e_rs_int, e_rs_str, e_rs_bl, e_rs_non, e_rs_tup, e_rs_lst, e_rs_lsf, e_rs_loc, e_str, e_cint, e_cbl, e_cnon, e_add, e_sub, e_mul, e_mod, e_div, e_pow, e_adds, e_addt, e_addl, e_tbl, e_tnon, e_tint, e_tlst, e_ttup, e_gt, e_ge, e_lt, e_le, e_eqi, e_nei, e_eqs, e_nes, e_eql, e_nel, e_eqt, e_net, e_sublst, e_subtup, e_lenl, e_lent, e_lens, e_int1, e_tupl, e_tupt, e_lstl, e_lstt, e_repr, e_stri, e_strs, e_fvs, e_fvi, e_sll, e_slf, e_slt, e_rvt, e_rvl, e_stl, e_stt, e_sql, e_sqt, e_bnm, e_btp, e_bnil, e_bcons, e_san, e_sac, feedO_eq, g_cells, g_at, g_held, g_count, p_at, p_held, p_count, c_count, c_at, c_held, c_cells, put_same, put_put, List.set_cons_zero, List.set_cons_succ, List.getElem?_cons_zero, List.getElem?_cons_succ, List.map_cons, List.map_nil, List.cons_append, List.nil_append, List.length_cons, List.length_nil, and_true, true_and, decide_true, decide_false, l_feed, startE, List.replicate, Nat.reduceSub, Nat.reduceAdd, List.length_map, Bool.not_true, Bool.not_false, if_true, if_false, Bool.false_eq_true, reduceIte, hS])
    rw [WSs]
    (try simp (disch := first | assumption | omega | decide | (constructor <;> first | assumption | omega | decide | fail) | fail) only [WS, e_wnil, WE, WEs, WAnd, WOr, WTs, WFs, WO, WI, e_rs_int, e_rs_str, e_rs_bl, e_rs_non, e_rs_tup, e_rs_lst, e_rs_lsf, e_rs_loc, e_str, e_cint, e_cbl, e_cnon, e_add, e_sub, e_mul, e_mod, e_div, e_pow, e_adds, e_addt, e_addl, e_tbl, e_tnon, e_tint, e_tlst, e_ttup, e_gt, e_ge, e_lt, e_le, e_eqi, e_nei, e_eqs, e_nes, e_eql, e_nel, e_eqt, e_net, e_sublst, e_subtup, e_lenl, e_lent, e_lens, e_int1, e_tupl, e_tupt, e_lstl, e_lstt, e_repr, e_stri, e_strs, e_fvs, e_fvi, e_sll, e_slf, e_slt, e_rvt, e_rvl, e_stl, e_stt, e_sql, e_sqt, e_bnm, e_btp, e_bnil, e_bcons, e_san, e_sac, feedO_eq, g_cells, g_at, g_held, g_count, p_at, p_held, p_count, c_count, c_at, c_held, c_cells, put_same, put_put, List.set_cons_zero, List.set_cons_succ, List.getElem?_cons_zero, List.getElem?_cons_succ, List.map_cons, List.map_nil, List.cons_append, List.nil_append, List.length_cons, List.length_nil, and_true, true_and, decide_true, decide_false, l_feed, startE, List.replicate, Nat.reduceSub, Nat.reduceAdd, List.length_map, Bool.not_true, Bool.not_false, if_true, if_false, Bool.false_eq_true, reduceIte, hS])
    rw [WSs]
    have cell : ∃ c : Int, (is = [] ∧ c = c0) ∨ (is ≠ [] ∧ atI (is.map D.int) (at_ % (is.length : Int)) = some (.int c)) := by
      cases is with
      | nil => exact ⟨c0, .inl ⟨rfl, rfl⟩⟩
      | cons x r =>
        obtain ⟨y, h1, h2⟩ := atI_mod (l := (x :: r).map D.int) (k := at_) (by simp)
        rw [List.length_map] at h1
        obtain ⟨c, _, rfl⟩ := List.mem_map.mp h2
        exact ⟨c, .inr ⟨by simp, h1⟩⟩
    obtain ⟨c, hc⟩ := cell
    -- the cell that is read
    have goal : ∀ r, r = ([some (.loc a), some (.int m), some (.int (cnt + 1)), some (.int c), none, none, some (.lst (is.map D.int)), some (.int at_)] : En) → ∀ Z, (∀ d y, 0 ≤ d ∧ d < m → Z.rt (.int d) (S.put a (.dK (feedK is (at_ + 1) y (cnt + 1))))) →
        WSs G (fun e _ S' => ∃ S'', Le S'' S' ∧ R0 e S'') (.cons (.ite (.and (.cons (.cmp .GtE (.var 3) (.bin .Pow (.cst (.int 10)) (.cst (.int 18)))) (.cons (.cmp .Lt (.var 7) (.bi .len (.cons (.var 6) .nil))) .nil))) (.cons (.put (.var 0) (.cst (.str "held")) (.bin .FloorDiv (.var 3) (.var 1))) (.cons (.ret (.bin .Mod (.bi .int1 (.cons (.var 3) .nil)) (.var 1))) .nil)) .nil) (.cons (.set (.nm 4) (.bin .Mod (.bi .int1 (.cons (.bin .Pow (.bin .Add (.bin .Add (.bin .Mod (.bi .int1 (.cons (.var 3) .nil)) (.cst (.int m1))) (.bin .Mult (.cst (.int k1)) (.var 2))) (.cst (.int a1))) (.cst (.int 2))) .nil)) (.cst (.int 2147483629)))) (.cons (.set (.nm 4) (.bin .Mod (.bi .int1 (.cons (.bin .Pow (.bin .Add (.bin .Add (.var 4) (.bin .Mult (.bin .Mult (.cst (.int k2)) (.var 2)) (.var 2))) (.cst (.int a2))) (.cst (.int 3))) .nil)) (.cst (.int 2147483587)))) (.cons (.ret (.bin .Mod (.bi .int1 (.cons (.bin .FloorDiv (.var 4) (.cst (.int 64))) .nil)) (.var 1))) .nil)))) r (S.put a (.dK (feedK is (at_ + 1) held (cnt + 1)))) Z := by
      rintro r rfl Z hZ
      have late : ∀ Z : Out, (∀ d y, 0 ≤ d ∧ d < m → Z.rt (.int d) (S.put a (.dK (feedK is (at_ + 1) y (cnt + 1))))) → WSs G (fun e _ S' => ∃ S'', Le S'' S' ∧ R0 e S'') (.cons (.set (.nm 4) (.bin .Mod (.bi .int1 (.cons (.bin .Pow (.bin .Add (.bin .Add (.bin .Mod (.bi .int1 (.cons (.var 3) .nil)) (.cst (.int m1))) (.bin .Mult (.cst (.int k1)) (.var 2))) (.cst (.int a1))) (.cst (.int 2))) .nil)) (.cst (.int 2147483629)))) (.cons (.set (.nm 4) (.bin .Mod (.bi .int1 (.cons (.bin .Pow (.bin .Add (.bin .Add (.var 4) (.bin .Mult (.bin .Mult (.cst (.int k2)) (.var 2)) (.var 2))) (.cst (.int a2))) (.cst (.int 3))) .nil)) (.cst (.int 2147483587)))) (.cons (.ret (.bin .Mod (.bi .int1 (.cons (.bin .FloorDiv (.var 4) (.cst (.int 64))) .nil)) (.var 1))) .nil))) [some (.loc a), some (.int m), some (.int (cnt + 1)), some (.int c), none, none, some (.lst (is.map D.int)), some (.int at_)] (S.put a (.dK (feedK is (at_ + 1) held (cnt + 1)))) Z := by
        intro Z hZ
        have q0 : 0 ≤ c % m1 ∧ c % m1 < m1 := ⟨Int.emod_nonneg _ (by omega), Int.emod_lt_of_pos _ hm1.1⟩
        have q1 : 0 ≤ k1 * (cnt + 1) ∧ k1 * (cnt + 1) ≤ 1000000 * 1000000 := ⟨Int.mul_nonneg hk1.1 hcn.1, Int.mul_le_mul hk1.2 (by omega) hcn.1 (by omega)⟩
        have q2 : 0 ≤ k2 * (cnt + 1) ∧ k2 * (cnt + 1) ≤ 100000 * 1000000 := ⟨Int.mul_nonneg hk2.1 hcn.1, Int.mul_le_mul hk2.2 (by omega) hcn.1 (by omega)⟩
        have q3 : 0 ≤ k2 * (cnt + 1) * (cnt + 1) ∧ k2 * (cnt + 1) * (cnt + 1) ≤ 100000 * 1000000 * 1000000 := ⟨Int.mul_nonneg q2.1 hcn.1, Int.mul_le_mul q2.2 (by omega) hcn.1 (by omega)⟩
        have z1 : sz64 k1 = true := sz_of hk1.1 (by omega)
        have z2 : sz64 k2 = true := sz_of hk2.1 (by omega)
        have z3 : sz64 (k2 * (cnt + 1)) = true := sz_of q2.1 (by omega)
        have hm1' := hm1.1
        have b1 : (0 : Int) ≤ 2 ∧ (2 : Int) ≤ 1000000 ∧ (c % m1 + k1 * (cnt + 1) + a1).natAbs < 2 ^ 64 := by omega
        rw [WSs]
        (try simp (disch := first | assumption | omega | decide | (constructor <;> first | assumption | omega | decide | fail) | fail) only [WS, e_wnil, WE, WEs, WAnd, WOr, WTs, WFs, WO, WI, e_rs_int, e_rs_str, e_rs_bl, e_rs_non, e_rs_tup, e_rs_lst, e_rs_lsf, e_rs_loc, e_str, e_cint, e_cbl, e_cnon, e_add, e_sub, e_mul, e_mod, e_div, e_pow, e_adds, e_addt, e_addl, e_tbl, e_tnon, e_tint, e_tlst, e_ttup, e_gt, e_ge, e_lt, e_le, e_eqi, e_nei, e_eqs, e_nes, e_eql, e_nel, e_eqt, e_net, e_sublst, e_subtup, e_lenl, e_lent, e_lens, e_int1, e_tupl, e_tupt, e_lstl, e_lstt, e_repr, e_stri, e_strs, e_fvs, e_fvi, e_sll, e_slf, e_slt, e_rvt, e_rvl, e_stl, e_stt, e_sql, e_sqt, e_bnm, e_btp, e_bnil, e_bcons, e_san, e_sac, feedO_eq, g_cells, g_at, g_held, g_count, p_at, p_held, p_count, c_count, c_at, c_held, c_cells, put_same, put_put, List.set_cons_zero, List.set_cons_succ, List.getElem?_cons_zero, List.getElem?_cons_succ, List.map_cons, List.map_nil, List.cons_append, List.nil_append, List.length_cons, List.length_nil, and_true, true_and, decide_true, decide_false, l_feed, startE, List.replicate, Nat.reduceSub, Nat.reduceAdd, List.length_map, Bool.not_true, Bool.not_false, if_true, if_false, Bool.false_eq_true, reduceIte, z1, z2, z3, e_pow b1])
        rw [WSs]
        generalize hx : (c % m1 + k1 * (cnt + 1) + a1) ^ (2 : Int).toNat % 2147483629 = x
        have q5 : 0 ≤ x ∧ x < 2147483629 := by
          rw [← hx]
          exact ⟨Int.emod_nonneg _ (by decide), Int.emod_lt_of_pos _ (by decide)⟩
        have b2 : (0 : Int) ≤ 3 ∧ (3 : Int) ≤ 1000000 ∧ (x + k2 * (cnt + 1) * (cnt + 1) + a2).natAbs < 2 ^ 64 := by omega
        (try simp (disch := first | assumption | omega | decide | (constructor <;> first | assumption | omega | decide | fail) | fail) only [WS, e_wnil, WE, WEs, WAnd, WOr, WTs, WFs, WO, WI, e_rs_int, e_rs_str, e_rs_bl, e_rs_non, e_rs_tup, e_rs_lst, e_rs_lsf, e_rs_loc, e_str, e_cint, e_cbl, e_cnon, e_add, e_sub, e_mul, e_mod, e_div, e_pow, e_adds, e_addt, e_addl, e_tbl, e_tnon, e_tint, e_tlst, e_ttup, e_gt, e_ge, e_lt, e_le, e_eqi, e_nei, e_eqs, e_nes, e_eql, e_nel, e_eqt, e_net, e_sublst, e_subtup, e_lenl, e_lent, e_lens, e_int1, e_tupl, e_tupt, e_lstl, e_lstt, e_repr, e_stri, e_strs, e_fvs, e_fvi, e_sll, e_slf, e_slt, e_rvt, e_rvl, e_stl, e_stt, e_sql, e_sqt, e_bnm, e_btp, e_bnil, e_bcons, e_san, e_sac, feedO_eq, g_cells, g_at, g_held, g_count, p_at, p_held, p_count, c_count, c_at, c_held, c_cells, put_same, put_put, List.set_cons_zero, List.set_cons_succ, List.getElem?_cons_zero, List.getElem?_cons_succ, List.map_cons, List.map_nil, List.cons_append, List.nil_append, List.length_cons, List.length_nil, and_true, true_and, decide_true, decide_false, l_feed, startE, List.replicate, Nat.reduceSub, Nat.reduceAdd, List.length_map, Bool.not_true, Bool.not_false, if_true, if_false, Bool.false_eq_true, reduceIte, z1, z2, z3, e_pow b2])
        rw [WSs]
        (try simp (disch := first | assumption | omega | decide | (constructor <;> first | assumption | omega | decide | fail) | fail) only [WS, e_wnil, WE, WEs, WAnd, WOr, WTs, WFs, WO, WI, e_rs_int, e_rs_str, e_rs_bl, e_rs_non, e_rs_tup, e_rs_lst, e_rs_lsf, e_rs_loc, e_str, e_cint, e_cbl, e_cnon, e_add, e_sub, e_mul, e_mod, e_div, e_pow, e_adds, e_addt, e_addl, e_tbl, e_tnon, e_tint, e_tlst, e_ttup, e_gt, e_ge, e_lt, e_le, e_eqi, e_nei, e_eqs, e_nes, e_eql, e_nel, e_eqt, e_net, e_sublst, e_subtup, e_lenl, e_lent, e_lens, e_int1, e_tupl, e_tupt, e_lstl, e_lstt, e_repr, e_stri, e_strs, e_fvs, e_fvi, e_sll, e_slf, e_slt, e_rvt, e_rvl, e_stl, e_stt, e_sql, e_sqt, e_bnm, e_btp, e_bnil, e_bcons, e_san, e_sac, feedO_eq, g_cells, g_at, g_held, g_count, p_at, p_held, p_count, c_count, c_at, c_held, c_cells, put_same, put_put, List.set_cons_zero, List.set_cons_succ, List.getElem?_cons_zero, List.getElem?_cons_succ, List.map_cons, List.map_nil, List.cons_append, List.nil_append, List.length_cons, List.length_nil, and_true, true_and, decide_true, decide_false, l_feed, startE, List.replicate, Nat.reduceSub, Nat.reduceAdd, List.length_map, Bool.not_true, Bool.not_false, if_true, if_false, Bool.false_eq_true, reduceIte])
        exact hZ _ _ (md _)
      rw [WSs]
      have b0 : (0 : Int) ≤ 18 ∧ (18 : Int) ≤ 1000000 ∧ (10 : Int).natAbs < 2 ^ 64 := by decide
      (try simp (disch := first | assumption | omega | decide | (constructor <;> first | assumption | omega | decide | fail) | fail) only [WS, e_wnil, WE, WEs, WAnd, WOr, WTs, WFs, WO, WI, e_rs_int, e_rs_str, e_rs_bl, e_rs_non, e_rs_tup, e_rs_lst, e_rs_lsf, e_rs_loc, e_str, e_cint, e_cbl, e_cnon, e_add, e_sub, e_mul, e_mod, e_div, e_pow, e_adds, e_addt, e_addl, e_tbl, e_tnon, e_tint, e_tlst, e_ttup, e_gt, e_ge, e_lt, e_le, e_eqi, e_nei, e_eqs, e_nes, e_eql, e_nel, e_eqt, e_net, e_sublst, e_subtup, e_lenl, e_lent, e_lens, e_int1, e_tupl, e_tupt, e_lstl, e_lstt, e_repr, e_stri, e_strs, e_fvs, e_fvi, e_sll, e_slf, e_slt, e_rvt, e_rvl, e_stl, e_stt, e_sql, e_sqt, e_bnm, e_btp, e_bnil, e_bcons, e_san, e_sac, feedO_eq, g_cells, g_at, g_held, g_count, p_at, p_held, p_count, c_count, c_at, c_held, c_cells, put_same, put_put, List.set_cons_zero, List.set_cons_succ, List.getElem?_cons_zero, List.getElem?_cons_succ, List.map_cons, List.map_nil, List.cons_append, List.nil_append, List.length_cons, List.length_nil, and_true, true_and, decide_true, decide_false, l_feed, startE, List.replicate, Nat.reduceSub, Nat.reduceAdd, List.length_map, Bool.not_true, Bool.not_false, if_true, if_false, Bool.false_eq_true, reduceIte, e_pow b0])
      by_cases g1 : (10 : Int) ^ (18 : Int).toNat ≤ c
      · by_cases g2 : at_ < (is.length : Int)
        · (try simp (disch := first | assumption | omega | decide | (constructor <;> first | assumption | omega | decide | fail) | fail) only [WS, e_wnil, WE, WEs, WAnd, WOr, WTs, WFs, WO, WI, e_rs_int, e_rs_str, e_rs_bl, e_rs_non, e_rs_tup, e_rs_lst, e_rs_lsf, e_rs_loc, e_str, e_cint, e_cbl, e_cnon, e_add, e_sub, e_mul, e_mod, e_div, e_pow, e_adds, e_addt, e_addl, e_tbl, e_tnon, e_tint, e_tlst, e_ttup, e_gt, e_ge, e_lt, e_le, e_eqi, e_nei, e_eqs, e_nes, e_eql, e_nel, e_eqt, e_net, e_sublst, e_subtup, e_lenl, e_lent, e_lens, e_int1, e_tupl, e_tupt, e_lstl, e_lstt, e_repr, e_stri, e_strs, e_fvs, e_fvi, e_sll, e_slf, e_slt, e_rvt, e_rvl, e_stl, e_stt, e_sql, e_sqt, e_bnm, e_btp, e_bnil, e_bcons, e_san, e_sac, feedO_eq, g_cells, g_at, g_held, g_count, p_at, p_held, p_count, c_count, c_at, c_held, c_cells, put_same, put_put, List.set_cons_zero, List.set_cons_succ, List.getElem?_cons_zero, List.getElem?_cons_succ, List.map_cons, List.map_nil, List.cons_append, List.nil_append, List.length_cons, List.length_nil, and_true, true_and, decide_true, decide_false, l_feed, startE, List.replicate, Nat.reduceSub, Nat.reduceAdd, List.length_map, Bool.not_true, Bool.not_false, if_true, if_false, Bool.false_eq_true, reduceIte, g1, g2, WSs])
          exact hZ _ _ (md _)
        · (try simp (disch := first | assumption | omega | decide | (constructor <;> first | assumption | omega | decide | fail) | fail) only [WS, e_wnil, WE, WEs, WAnd, WOr, WTs, WFs, WO, WI, e_rs_int, e_rs_str, e_rs_bl, e_rs_non, e_rs_tup, e_rs_lst, e_rs_lsf, e_rs_loc, e_str, e_cint, e_cbl, e_cnon, e_add, e_sub, e_mul, e_mod, e_div, e_pow, e_adds, e_addt, e_addl, e_tbl, e_tnon, e_tint, e_tlst, e_ttup, e_gt, e_ge, e_lt, e_le, e_eqi, e_nei, e_eqs, e_nes, e_eql, e_nel, e_eqt, e_net, e_sublst, e_subtup, e_lenl, e_lent, e_lens, e_int1, e_tupl, e_tupt, e_lstl, e_lstt, e_repr, e_stri, e_strs, e_fvs, e_fvi, e_sll, e_slf, e_slt, e_rvt, e_rvl, e_stl, e_stt, e_sql, e_sqt, e_bnm, e_btp, e_bnil, e_bcons, e_san, e_sac, feedO_eq, g_cells, g_at, g_held, g_count, p_at, p_held, p_count, c_count, c_at, c_held, c_cells, put_same, put_put, List.set_cons_zero, List.set_cons_succ, List.getElem?_cons_zero, List.getElem?_cons_succ, List.map_cons, List.map_nil, List.cons_append, List.nil_append, List.length_cons, List.length_nil, and_true, true_and, decide_true, decide_false, l_feed, startE, List.replicate, Nat.reduceSub, Nat.reduceAdd, List.length_map, Bool.not_true, Bool.not_false, if_true, if_false, Bool.false_eq_true, reduceIte, g1, g2])
          exact late _ hZ
      · (try simp (disch := first | assumption | omega | decide | (constructor <;> first | assumption | omega | decide | fail) | fail) only [WS, e_wnil, WE, WEs, WAnd, WOr, WTs, WFs, WO, WI, e_rs_int, e_rs_str, e_rs_bl, e_rs_non, e_rs_tup, e_rs_lst, e_rs_lsf, e_rs_loc, e_str, e_cint, e_cbl, e_cnon, e_add, e_sub, e_mul, e_mod, e_div, e_pow, e_adds, e_addt, e_addl, e_tbl, e_tnon, e_tint, e_tlst, e_ttup, e_gt, e_ge, e_lt, e_le, e_eqi, e_nei, e_eqs, e_nes, e_eql, e_nel, e_eqt, e_net, e_sublst, e_subtup, e_lenl, e_lent, e_lens, e_int1, e_tupl, e_tupt, e_lstl, e_lstt, e_repr, e_stri, e_strs, e_fvs, e_fvi, e_sll, e_slf, e_slt, e_rvt, e_rvl, e_stl, e_stt, e_sql, e_sqt, e_bnm, e_btp, e_bnil, e_bcons, e_san, e_sac, feedO_eq, g_cells, g_at, g_held, g_count, p_at, p_held, p_count, c_count, c_at, c_held, c_cells, put_same, put_put, List.set_cons_zero, List.set_cons_succ, List.getElem?_cons_zero, List.getElem?_cons_succ, List.map_cons, List.map_nil, List.cons_append, List.nil_append, List.length_cons, List.length_nil, and_true, true_and, decide_true, decide_false, l_feed, startE, List.replicate, Nat.reduceSub, Nat.reduceAdd, List.length_map, Bool.not_true, Bool.not_false, if_true, if_false, Bool.false_eq_true, reduceIte, g1])
        exact late _ hZ
    rcases hc with ⟨rfl, rfl⟩ | ⟨hne, hat⟩
    · have h0 : eqD (.lst (([] : List Int).map D.int)) (.lst []) = true := eq_nil_ints []
      simp only [List.map_nil] at h0
      have h1 := ok_nil
      (try simp (disch := first | assumption | omega | decide | (constructor <;> first | assumption | omega | decide | fail) | fail) only [WS, e_wnil, WE, WEs, WAnd, WOr, WTs, WFs, WO, WI, e_rs_int, e_rs_str, e_rs_bl, e_rs_non, e_rs_tup, e_rs_lst, e_rs_lsf, e_rs_loc, e_str, e_cint, e_cbl, e_cnon, e_add, e_sub, e_mul, e_mod, e_div, e_pow, e_adds, e_addt, e_addl, e_tbl, e_tnon, e_tint, e_tlst, e_ttup, e_gt, e_ge, e_lt, e_le, e_eqi, e_nei, e_eqs, e_nes, e_eql, e_nel, e_eqt, e_net, e_sublst, e_subtup, e_lenl, e_lent, e_lens, e_int1, e_tupl, e_tupt, e_lstl, e_lstt, e_repr, e_stri, e_strs, e_fvs, e_fvi, e_sll, e_slf, e_slt, e_rvt, e_rvl, e_stl, e_stt, e_sql, e_sqt, e_bnm, e_btp, e_bnil, e_bcons, e_san, e_sac, feedO_eq, g_cells, g_at, g_held, g_count, p_at, p_held, p_count, c_count, c_at, c_held, c_cells, put_same, put_put, List.set_cons_zero, List.set_cons_succ, List.getElem?_cons_zero, List.getElem?_cons_succ, List.map_cons, List.map_nil, List.cons_append, List.nil_append, List.length_cons, List.length_nil, and_true, true_and, decide_true, decide_false, l_feed, startE, List.replicate, Nat.reduceSub, Nat.reduceAdd, List.length_map, Bool.not_true, Bool.not_false, if_true, if_false, Bool.false_eq_true, reduceIte, h0, h1])
      refine ⟨Nat.zero_le _, goal _ rfl _ fun d y h => ?_⟩
      exact fin_draw hq h hl1 hcn.1 hcn.2
    · have h0 : eqD (.lst (is.map D.int)) (.lst []) = false := by
        rw [eq_nil_ints]
        cases is with
        | nil => exact absurd rfl hne
        | cons => rfl
      have h1 := ok_nil
      have h2 := ok_ints is
      have hpos : (0 : Int) < (is.length : Int) := by
        cases is with
        | nil => exact absurd rfl hne
        | cons x r => simp only [List.length_cons]; omega
      (try simp (disch := first | assumption | omega | decide | (constructor <;> first | assumption | omega | decide | fail) | fail) only [WS, e_wnil, WE, WEs, WAnd, WOr, WTs, WFs, WO, WI, e_rs_int, e_rs_str, e_rs_bl, e_rs_non, e_rs_tup, e_rs_lst, e_rs_lsf, e_rs_loc, e_str, e_cint, e_cbl, e_cnon, e_add, e_sub, e_mul, e_mod, e_div, e_pow, e_adds, e_addt, e_addl, e_tbl, e_tnon, e_tint, e_tlst, e_ttup, e_gt, e_ge, e_lt, e_le, e_eqi, e_nei, e_eqs, e_nes, e_eql, e_nel, e_eqt, e_net, e_sublst, e_subtup, e_lenl, e_lent, e_lens, e_int1, e_tupl, e_tupt, e_lstl, e_lstt, e_repr, e_stri, e_strs, e_fvs, e_fvi, e_sll, e_slf, e_slt, e_rvt, e_rvl, e_stl, e_stt, e_sql, e_sqt, e_bnm, e_btp, e_bnil, e_bcons, e_san, e_sac, feedO_eq, g_cells, g_at, g_held, g_count, p_at, p_held, p_count, c_count, c_at, c_held, c_cells, put_same, put_put, List.set_cons_zero, List.set_cons_succ, List.getElem?_cons_zero, List.getElem?_cons_succ, List.map_cons, List.map_nil, List.cons_append, List.nil_append, List.length_cons, List.length_nil, and_true, true_and, decide_true, decide_false, l_feed, startE, List.replicate, Nat.reduceSub, Nat.reduceAdd, List.length_map, Bool.not_true, Bool.not_false, if_true, if_false, Bool.false_eq_true, reduceIte, h0, h1, h2, hat])
      refine ⟨Nat.zero_le _, goal _ rfl _ fun d y h => ?_⟩
      exact fin_draw hq h hl1 hcn.1 hcn.2
end FL

namespace FL
open PySem PySem.Spec PyProof.Rows L2
/-! ### drawn names and webs -/
def asc (s : Str) : Bool := s.cps.toList.all fun c => decide (c < 128)
def lowB (s : Str) : Bool := decide (s.length ≤ 8) && decide (0 < s.length) && s.cps.toList.all fun c => decide (97 ≤ c ∧ c ≤ 122)
theorem pick_rule {te : En → Sto → (D → Sto → Prop) → Prop} {tt : En → Sto → (Bool → Sto → Prop) → Prop} {t : CT} {r : En} {Q : List D → Sto → Prop} {a : Addr} : ∀ (ss : List Str) (n : Nat) (acc : List D) (S : Sto), Fd S a (n + ss.length) →
    (∀ s ∈ ss, ∀ (acc : List D) (S : Sto) (N : Nat) (k : List D → Sto → Prop), Fd S a (N + 1) → (∀ S', Fd S' a N → Fr a S S' → k (acc ++ [.str s]) S' ∧ k acc S') → bindT t (.str s) r fun r1 => tt r1 S fun b S1 => if b = true then te r1 S1 fun y S2 => k (acc ++ [y]) S2 else k acc S1) →
    (∀ (sub : List Str) S', sub.Sublist ss → Fd S' a n → Fr a S S' → Q (acc ++ sub.map D.str) S') → compLoop te tt t r Q (ss.map D.str) acc S
  | [], n, acc, S, hf, _, hq => by
    have := hq [] S (List.Sublist.refl _) (by simpa using hf) (Fr.refl a S)
    simpa [compLoop] using this
  | s :: ss, n, acc, S, hf, hs, hq => by
    refine hs s List.mem_cons_self acc S (n + ss.length) (fun acc S => compLoop te tt t r Q (ss.map D.str) acc S) (by simpa [Nat.add_assoc] using hf) fun S' hf' fr => ⟨?_, ?_⟩
    · refine pick_rule ss n (acc ++ [.str s]) S' hf' (fun s' hs' => hs s' (List.mem_cons_of_mem _ hs')) fun sub S'' h1 h2 h3 => ?_
      have := hq (s :: sub) S'' (h1.cons_cons s) h2 (fr.trans h3)
      simpa using this
    · refine pick_rule ss n acc S' hf' (fun s' hs' => hs s' (List.mem_cons_of_mem _ hs')) fun sub S'' h1 h2 h3 => ?_
      exact hq sub S'' (h1.cons s) h2 (fr.trans h3)
theorem drawn_rule {te : En → Sto → (D → Sto → Prop) → Prop} {tt : En → Sto → (Bool → Sto → Prop) → Prop} {t : CT} {r : En} {Q : List D → Sto → Prop} {a : Addr} (P : D → Prop) (c : Nat) : ∀ (ds : List D) (n : Nat) (acc : List D) (S : Sto), Fd S a (n + c * ds.length) →
    (∀ d ∈ ds, ∀ (acc : List D) (S : Sto) (N : Nat) (k : List D → Sto → Prop), Fd S a (N + c) → (∀ y S', P y → Fd S' a N → Fr a S S' → k (acc ++ [y]) S') → bindT t d r fun r1 => tt r1 S fun b S1 => if b = true then te r1 S1 fun y S2 => k (acc ++ [y]) S2 else k acc S1) →
    (∀ (ys : List D) S', ys.length = ds.length → (∀ y ∈ ys, P y) → Fd S' a n → Fr a S S' → Q (acc ++ ys) S') → compLoop te tt t r Q ds acc S
  | [], n, acc, S, hf, _, hq => by
    have := hq [] S rfl (fun _ h => by cases h) (by simpa using hf) (Fr.refl a S)
    simpa [compLoop] using this
  | d :: ds, n, acc, S, hf, hs, hq => by
    refine hs d List.mem_cons_self acc S (n + c * ds.length) (fun acc S => compLoop te tt t r Q ds acc S) (hf.less (by rw [List.length_cons, Nat.mul_succ]; omega)) fun y S' hy hf' fr => ?_
    refine drawn_rule P c ds n (acc ++ [y]) S' hf' (fun s' hs' => hs s' (List.mem_cons_of_mem _ hs')) fun ys S'' h0 h1 h2 h3 => ?_
    have := hq (y :: ys) S'' (by simp [h0]) (fun z hz => by rcases List.mem_cons.mp hz with e | e; exact e ▸ hy; exact h1 z e) h2 (fr.trans h3)
    simpa using this
/-! start -/
theorem cutD_map {α : Type} (f : α → D) (l : List α) (lo hi : Option Int) : ∃ l' : List α, cutD (l.map f) lo hi = l'.map f ∧ l'.length ≤ l.length := by
  unfold cutD
  refine ⟨_, by rw [← List.map_drop, ← List.map_take], ?_⟩
  rw [List.length_take, List.length_drop]
  omega
def startC : CSs := (.cons (.ret (.dct ["cells", "at", "held", "count"] (.cons (.sl (.var 0) .no (.so (.cst (.int 63)))) (.cons (.cst (.int 0)) (.cons (.cst (.int 0)) (.cons (.cst (.int 0)) .nil)))))) .nil)
theorem start_ok (G : Ctx) : BodyOk G startC 1 1 spStart := by
  intro ds S Q R0 hl hsp
  obtain ⟨is, rfl, h63, hq⟩ := hsp
  unfold startC
  rw [WSs]
  (try simp (disch := first | assumption | omega | decide | (constructor <;> first | assumption | omega | decide | fail) | fail) only [WS, e_wnil, WE, WEs, WAnd, WOr, WTs, WFs, WO, WI, e_rs_int, e_rs_str, e_rs_bl, e_rs_non, e_rs_tup, e_rs_lst, e_rs_lsf, e_rs_loc, e_str, e_cint, e_cbl, e_cnon, e_add, e_sub, e_mul, e_mod, e_div, e_pow, e_adds, e_addt, e_addl, e_tbl, e_tnon, e_tint, e_tlst, e_ttup, e_gt, e_ge, e_lt, e_le, e_eqi, e_nei, e_eqs, e_nes, e_eql, e_nel, e_eqt, e_net, e_sublst, e_subtup, e_lenl, e_lent, e_lens, e_int1, e_tupl, e_tupt, e_lstl, e_lstt, e_repr, e_stri, e_strs, e_fvs, e_fvi, e_sll, e_slf, e_slt, e_rvt, e_rvl, e_stl, e_stt, e_sql, e_sqt, e_bnm, e_btp, e_bnil, e_bcons, e_san, e_sac, feedO_eq, g_cells, g_at, g_held, g_count, p_at, p_held, p_count, c_count, c_at, c_held, c_cells, put_same, put_put, List.set_cons_zero, List.set_cons_succ, List.getElem?_cons_zero, List.getElem?_cons_succ, List.map_cons, List.map_nil, List.cons_append, List.nil_append, List.length_cons, List.length_nil, and_true, true_and, decide_true, decide_false, l_feed, startE, List.replicate, Nat.reduceSub, Nat.reduceAdd, List.length_map, Bool.not_true, Bool.not_false, if_true, if_false, Bool.false_eq_true, reduceIte])
  intro a ha
  obtain ⟨l', e1, e2⟩ := cutD_map D.int is none (some 63)
  rw [e1]
  refine ⟨_, Le.refl _, hq a _ ha ⟨l', 0, 0, 0, ?_, by omega, by omega, by omega⟩ (Fr.put a S _)⟩
  rw [put_same]
  rfl
/-! any -/
def anyC (fd : Nat) : CSs := (.cons (.ret (.sub (.var 1) (.call fd (.cons (.var 0) (.cons (.bi .len (.cons (.var 1) .nil)) .nil))))) .nil)
theorem any_ok (G : Ctx) {fd : Nat} (h : G.fn fd = spDraw) (ar : G.ar fd = 2) : BodyOk G (anyC fd) 2 2 spAny := by
  intro ds S Q R0 hl hsp
  obtain ⟨a, xs, n, rfl | rfl, h0, h1, hf, hq⟩ := hsp
  · unfold anyC
    rw [WSs]
    (try simp (disch := first | assumption | omega | decide | (constructor <;> first | assumption | omega | decide | fail) | fail) only [WS, e_wnil, WE, WEs, WAnd, WOr, WTs, WFs, WO, WI, e_rs_int, e_rs_str, e_rs_bl, e_rs_non, e_rs_tup, e_rs_lst, e_rs_lsf, e_rs_loc, e_str, e_cint, e_cbl, e_cnon, e_add, e_sub, e_mul, e_mod, e_div, e_pow, e_adds, e_addt, e_addl, e_tbl, e_tnon, e_tint, e_tlst, e_ttup, e_gt, e_ge, e_lt, e_le, e_eqi, e_nei, e_eqs, e_nes, e_eql, e_nel, e_eqt, e_net, e_sublst, e_subtup, e_lenl, e_lent, e_lens, e_int1, e_tupl, e_tupt, e_lstl, e_lstt, e_repr, e_stri, e_strs, e_fvs, e_fvi, e_sll, e_slf, e_slt, e_rvt, e_rvl, e_stl, e_stt, e_sql, e_sqt, e_bnm, e_btp, e_bnil, e_bcons, e_san, e_sac, feedO_eq, g_cells, g_at, g_held, g_count, p_at, p_held, p_count, c_count, c_at, c_held, c_cells, put_same, put_put, List.set_cons_zero, List.set_cons_succ, List.getElem?_cons_zero, List.getElem?_cons_succ, List.map_cons, List.map_nil, List.cons_append, List.nil_append, List.length_cons, List.length_nil, and_true, true_and, decide_true, decide_false, l_feed, startE, List.replicate, Nat.reduceSub, Nat.reduceAdd, List.length_map, Bool.not_true, Bool.not_false, if_true, if_false, Bool.false_eq_true, reduceIte, h, ar])
    refine ⟨a, xs.length, n, rfl, by omega, by omega, hf, fun d S' d0 d1 hf' fr => ?_⟩
    obtain ⟨x, e, hx⟩ := atI_in d0 d1
    (try simp (disch := first | assumption | omega | decide | (constructor <;> first | assumption | omega | decide | fail) | fail) only [WS, e_wnil, WE, WEs, WAnd, WOr, WTs, WFs, WO, WI, e_rs_int, e_rs_str, e_rs_bl, e_rs_non, e_rs_tup, e_rs_lst, e_rs_lsf, e_rs_loc, e_str, e_cint, e_cbl, e_cnon, e_add, e_sub, e_mul, e_mod, e_div, e_pow, e_adds, e_addt, e_addl, e_tbl, e_tnon, e_tint, e_tlst, e_ttup, e_gt, e_ge, e_lt, e_le, e_eqi, e_nei, e_eqs, e_nes, e_eql, e_nel, e_eqt, e_net, e_sublst, e_subtup, e_lenl, e_lent, e_lens, e_int1, e_tupl, e_tupt, e_lstl, e_lstt, e_repr, e_stri, e_strs, e_fvs, e_fvi, e_sll, e_slf, e_slt, e_rvt, e_rvl, e_stl, e_stt, e_sql, e_sqt, e_bnm, e_btp, e_bnil, e_bcons, e_san, e_sac, feedO_eq, g_cells, g_at, g_held, g_count, p_at, p_held, p_count, c_count, c_at, c_held, c_cells, put_same, put_put, List.set_cons_zero, List.set_cons_succ, List.getElem?_cons_zero, List.getElem?_cons_succ, List.map_cons, List.map_nil, List.cons_append, List.nil_append, List.length_cons, List.length_nil, and_true, true_and, decide_true, decide_false, l_feed, startE, List.replicate, Nat.reduceSub, Nat.reduceAdd, List.length_map, Bool.not_true, Bool.not_false, if_true, if_false, Bool.false_eq_true, reduceIte, e])
    exact ⟨S', Le.refl _, hq x S' hx hf' fr⟩
  · unfold anyC
    rw [WSs]
    (try simp (disch := first | assumption | omega | decide | (constructor <;> first | assumption | omega | decide | fail) | fail) only [WS, e_wnil, WE, WEs, WAnd, WOr, WTs, WFs, WO, WI, e_rs_int, e_rs_str, e_rs_bl, e_rs_non, e_rs_tup, e_rs_lst, e_rs_lsf, e_rs_loc, e_str, e_cint, e_cbl, e_cnon, e_add, e_sub, e_mul, e_mod, e_div, e_pow, e_adds, e_addt, e_addl, e_tbl, e_tnon, e_tint, e_tlst, e_ttup, e_gt, e_ge, e_lt, e_le, e_eqi, e_nei, e_eqs, e_nes, e_eql, e_nel, e_eqt, e_net, e_sublst, e_subtup, e_lenl, e_lent, e_lens, e_int1, e_tupl, e_tupt, e_lstl, e_lstt, e_repr, e_stri, e_strs, e_fvs, e_fvi, e_sll, e_slf, e_slt, e_rvt, e_rvl, e_stl, e_stt, e_sql, e_sqt, e_bnm, e_btp, e_bnil, e_bcons, e_san, e_sac, feedO_eq, g_cells, g_at, g_held, g_count, p_at, p_held, p_count, c_count, c_at, c_held, c_cells, put_same, put_put, List.set_cons_zero, List.set_cons_succ, List.getElem?_cons_zero, List.getElem?_cons_succ, List.map_cons, List.map_nil, List.cons_append, List.nil_append, List.length_cons, List.length_nil, and_true, true_and, decide_true, decide_false, l_feed, startE, List.replicate, Nat.reduceSub, Nat.reduceAdd, List.length_map, Bool.not_true, Bool.not_false, if_true, if_false, Bool.false_eq_true, reduceIte, h, ar])
    refine ⟨a, xs.length, n, rfl, by omega, by omega, hf, fun d S' d0 d1 hf' fr => ?_⟩
    obtain ⟨x, e, hx⟩ := atI_in d0 d1
    (try simp (disch := first | assumption | omega | decide | (constructor <;> first | assumption | omega | decide | fail) | fail) only [WS, e_wnil, WE, WEs, WAnd, WOr, WTs, WFs, WO, WI, e_rs_int, e_rs_str, e_rs_bl, e_rs_non, e_rs_tup, e_rs_lst, e_rs_lsf, e_rs_loc, e_str, e_cint, e_cbl, e_cnon, e_add, e_sub, e_mul, e_mod, e_div, e_pow, e_adds, e_addt, e_addl, e_tbl, e_tnon, e_tint, e_tlst, e_ttup, e_gt, e_ge, e_lt, e_le, e_eqi, e_nei, e_eqs, e_nes, e_eql, e_nel, e_eqt, e_net, e_sublst, e_subtup, e_lenl, e_lent, e_lens, e_int1, e_tupl, e_tupt, e_lstl, e_lstt, e_repr, e_stri, e_strs, e_fvs, e_fvi, e_sll, e_slf, e_slt, e_rvt, e_rvl, e_stl, e_stt, e_sql, e_sqt, e_bnm, e_btp, e_bnil, e_bcons, e_san, e_sac, feedO_eq, g_cells, g_at, g_held, g_count, p_at, p_held, p_count, c_count, c_at, c_held, c_cells, put_same, put_put, List.set_cons_zero, List.set_cons_succ, List.getElem?_cons_zero, List.getElem?_cons_succ, List.map_cons, List.map_nil, List.cons_append, List.nil_append, List.length_cons, List.length_nil, and_true, true_and, decide_true, decide_false, l_feed, startE, List.replicate, Nat.reduceSub, Nat.reduceAdd, List.length_map, Bool.not_true, Bool.not_false, if_true, if_false, Bool.false_eq_true, reduceIte, e])
    exact ⟨S', Le.refl _, hq x S' hx hf' fr⟩
/-! labels -/
def pools : List (List Str) := [["a", "b", "c", "d", "e", "f", "g"], ["ab", "a", "abc", "b", "ba", "z", "abcdefgh"], ["kind", "asker", "has", "not", "store", "on", "guard"], ["m", "zoo", "keeper", "s", "st", "zz", "note"]]
def labelsP (p f st m : Nat) : List Str := sortS ((List.range m).map fun k => (pools.getD p []).getD ((f + k * (1 + st)) % 7) "")
def spLabels : Spec := fun ds S Q _ => ∃ a m n, ds = [.loc a, .int m] ∧ 0 < m ∧ m ≤ 7 ∧ Fd S a (n + 3) ∧ ∀ p f st S', p < 4 → f < 7 → st < 6 → Fd S' a n → Fr a S S' → Q (.lst ((labelsP p f st m.toNat).map D.str)) S'
def labelsC (fa fd : Nat) : CSs := (.cons (.set (.nm 2) (.call fa (.cons (.var 0) (.cons (.lst (.cons (.lst (.cons (.cst (.str "a")) (.cons (.cst (.str "b")) (.cons (.cst (.str "c")) (.cons (.cst (.str "d")) (.cons (.cst (.str "e")) (.cons (.cst (.str "f")) (.cons (.cst (.str "g")) .nil)))))))) (.cons (.lst (.cons (.cst (.str "ab")) (.cons (.cst (.str "a")) (.cons (.cst (.str "abc")) (.cons (.cst (.str "b")) (.cons (.cst (.str "ba")) (.cons (.cst (.str "z")) (.cons (.cst (.str "abcdefgh")) .nil)))))))) (.cons (.lst (.cons (.cst (.str "kind")) (.cons (.cst (.str "asker")) (.cons (.cst (.str "has")) (.cons (.cst (.str "not")) (.cons (.cst (.str "store")) (.cons (.cst (.str "on")) (.cons (.cst (.str "guard")) .nil)))))))) (.cons (.lst (.cons (.cst (.str "m")) (.cons (.cst (.str "zoo")) (.cons (.cst (.str "keeper")) (.cons (.cst (.str "s")) (.cons (.cst (.str "st")) (.cons (.cst (.str "zz")) (.cons (.cst (.str "note")) .nil)))))))) .nil))))) .nil)))) (.cons (.set (.tp (.cons (.nm 3) (.cons (.nm 4) .nil))) (.tup (.cons (.call fd (.cons (.var 0) (.cons (.cst (.int 7)) .nil))) (.cons (.bin .Add (.cst (.int 1)) (.call fd (.cons (.var 0) (.cons (.cst (.int 6)) .nil)))) .nil)))) (.cons (.ret (.bi .sorted (.cons (.comp [5] (.sub (.var 2) (.bin .Mod (.bi .int1 (.cons (.bin .Add (.var 3) (.bin .Mult (.var 5) (.var 4))) .nil)) (.cst (.int 7)))) (.nm 5) (.rng1 (.var 1)) .nil) .nil))) .nil)))
theorem strsOf_map : ∀ ss : List Str, strsOf (ss.map D.str) = some ss
  | [] => rfl
  | s :: ss => by simp [strsOf, strsOf_map ss]
theorem e_sorted {ss : List Str} (h : ss.length < 64) : biD .sorted [.lst (ss.map D.str)] = some (.lst ((sortS ss).map D.str)) := by
  unfold biD
  simp only [List.length_map]
  rw [if_pos h, strsOf_map]
  rfl
theorem pool_len : ∀ p < 4, (pools.getD p []).length = 7 := by decide +kernel
theorem pool_get {p i : Nat} (hp : p < 4) (hi : i < 7) : ((pools.getD p []).map D.str)[i]? = some (.str ((pools.getD p []).getD i "")) := by
  have hl := pool_len p hp
  generalize pools.getD p [] = l at hl
  rw [List.getElem?_map, List.getElem?_eq_getElem (by omega), List.getD_eq_getElem?_getD, List.getElem?_eq_getElem (by omega)]
  rfl
theorem comp_pure {te : En → Sto → (D → Sto → Prop) → Prop} {tt : En → Sto → (Bool → Sto → Prop) → Prop} {t : CT} {r : En} {Q : List D → Sto → Prop} {S : Sto} {α : Type} (g : α → D) (f : α → D) (l : List α)
    (h : ∀ d ∈ l, ∀ (acc : List D) (k : List D → Sto → Prop), k (acc ++ [f d]) S → bindT t (g d) r fun r1 => tt r1 S fun b S1 => if b = true then te r1 S1 fun y S2 => k (acc ++ [y]) S2 else k acc S1) (hq : Q (l.map f) S) : compLoop te tt t r Q (l.map g) [] S := by
  have : ∀ (l : List α) (acc : List D), (∀ d ∈ l, ∀ (acc : List D) (k : List D → Sto → Prop), k (acc ++ [f d]) S → bindT t (g d) r fun r1 => tt r1 S fun b S1 => if b = true then te r1 S1 fun y S2 => k (acc ++ [y]) S2 else k acc S1) → Q (acc ++ l.map f) S → compLoop te tt t r Q (l.map g) acc S := by
    intro l
    induction l with
    | nil => intro acc _ hq; simpa [compLoop] using hq
    | cons d l ih => exact fun acc h hq => h d List.mem_cons_self acc (fun acc S => compLoop te tt t r Q (l.map g) acc S) (ih (acc ++ [f d]) (fun d' hd => h d' (List.mem_cons_of_mem _ hd)) (by simpa using hq))
  exact this l [] h (by simpa using hq)
theorem rngD_eq (m : Int) : rngD 0 m = (List.range m.toNat).map fun k => D.int (k : Nat) := by
  unfold rngD
  simp
theorem okI_small {m : Int} (h0 : 0 ≤ m) (h1 : m ≤ 1000000) : okI m ∧ m ≤ sizeLine := by
  have e : (sizeLine : Int) = 16777216 := rfl
  unfold okI
  rw [e]
  omega
theorem sz_small {n : Nat} (h : n ≤ 1000000) : n ≤ sizeLine := by
  have e : sizeLine = 16777216 := rfl
  omega
theorem labels_ok (G : Ctx) {fa fd : Nat} (ha : G.fn fa = spAny) (ara : G.ar fa = 2) (h : G.fn fd = spDraw) (ar : G.ar fd = 2) : BodyOk G (labelsC fa fd) 6 2 spLabels := by
  intro ds S Q R0 hl hsp
  obtain ⟨a, m, n, rfl, h0, h1, hf, hq⟩ := hsp
  unfold labelsC
  rw [WSs]
  (try simp (disch := first | assumption | omega | decide | (constructor <;> first | assumption | omega | decide | fail) | fail) only [WS, e_wnil, WE, WEs, WAnd, WOr, WTs, WFs, WO, WI, e_rs_int, e_rs_str, e_rs_bl, e_rs_non, e_rs_tup, e_rs_lst, e_rs_lsf, e_rs_loc, e_str, e_cint, e_cbl, e_cnon, e_add, e_sub, e_mul, e_mod, e_div, e_pow, e_adds, e_addt, e_addl, e_tbl, e_tnon, e_tint, e_tlst, e_ttup, e_gt, e_ge, e_lt, e_le, e_eqi, e_nei, e_eqs, e_nes, e_eql, e_nel, e_eqt, e_net, e_sublst, e_subtup, e_lenl, e_lent, e_lens, e_int1, e_tupl, e_tupt, e_lstl, e_lstt, e_repr, e_stri, e_strs, e_fvs, e_fvi, e_sll, e_slf, e_slt, e_rvt, e_rvl, e_stl, e_stt, e_sql, e_sqt, e_bnm, e_btp, e_bnil, e_bcons, e_san, e_sac, feedO_eq, g_cells, g_at, g_held, g_count, p_at, p_held, p_count, c_count, c_at, c_held, c_cells, put_same, put_put, List.set_cons_zero, List.set_cons_succ, List.getElem?_cons_zero, List.getElem?_cons_succ, List.map_cons, List.map_nil, List.cons_append, List.nil_append, List.length_cons, List.length_nil, and_true, true_and, decide_true, decide_false, l_feed, startE, List.replicate, Nat.reduceSub, Nat.reduceAdd, List.length_map, Bool.not_true, Bool.not_false, if_true, if_false, Bool.false_eq_true, reduceIte, h, ar, ha, ara])
  refine ⟨sz_small (by decide), sz_small (by decide), sz_small (by decide), sz_small (by decide), sz_small (by decide), a, _, n + 2, .inl rfl, by decide, by decide, hf, fun x S1 hx hf1 fr1 => ?_⟩
  obtain ⟨p, hp, rfl⟩ : ∃ p, p < 4 ∧ x = .lst ((pools.getD p []).map D.str) := by
    simp only [List.mem_cons, List.not_mem_nil, or_false] at hx
    rcases hx with rfl | rfl | rfl | rfl
    · exact ⟨0, by decide, rfl⟩
    · exact ⟨1, by decide, rfl⟩
    · exact ⟨2, by decide, rfl⟩
    · exact ⟨3, by decide, rfl⟩
  rw [WSs]
  (try simp (disch := first | assumption | omega | decide | (constructor <;> first | assumption | omega | decide | fail) | fail) only [WS, e_wnil, WE, WEs, WAnd, WOr, WTs, WFs, WO, WI, e_rs_int, e_rs_str, e_rs_bl, e_rs_non, e_rs_tup, e_rs_lst, e_rs_lsf, e_rs_loc, e_str, e_cint, e_cbl, e_cnon, e_add, e_sub, e_mul, e_mod, e_div, e_pow, e_adds, e_addt, e_addl, e_tbl, e_tnon, e_tint, e_tlst, e_ttup, e_gt, e_ge, e_lt, e_le, e_eqi, e_nei, e_eqs, e_nes, e_eql, e_nel, e_eqt, e_net, e_sublst, e_subtup, e_lenl, e_lent, e_lens, e_int1, e_tupl, e_tupt, e_lstl, e_lstt, e_repr, e_stri, e_strs, e_fvs, e_fvi, e_sll, e_slf, e_slt, e_rvt, e_rvl, e_stl, e_stt, e_sql, e_sqt, e_bnm, e_btp, e_bnil, e_bcons, e_san, e_sac, feedO_eq, g_cells, g_at, g_held, g_count, p_at, p_held, p_count, c_count, c_at, c_held, c_cells, put_same, put_put, List.set_cons_zero, List.set_cons_succ, List.getElem?_cons_zero, List.getElem?_cons_succ, List.map_cons, List.map_nil, List.cons_append, List.nil_append, List.length_cons, List.length_nil, and_true, true_and, decide_true, decide_false, l_feed, startE, List.replicate, Nat.reduceSub, Nat.reduceAdd, List.length_map, Bool.not_true, Bool.not_false, if_true, if_false, Bool.false_eq_true, reduceIte, h, ar, ha, ara])
  refine ⟨a, 7, n + 1, rfl, by decide, by decide, hf1, fun f S2 f0 f1 hf2 fr2 => ?_⟩
  (try simp (disch := first | assumption | omega | decide | (constructor <;> first | assumption | omega | decide | fail) | fail) only [WS, e_wnil, WE, WEs, WAnd, WOr, WTs, WFs, WO, WI, e_rs_int, e_rs_str, e_rs_bl, e_rs_non, e_rs_tup, e_rs_lst, e_rs_lsf, e_rs_loc, e_str, e_cint, e_cbl, e_cnon, e_add, e_sub, e_mul, e_mod, e_div, e_pow, e_adds, e_addt, e_addl, e_tbl, e_tnon, e_tint, e_tlst, e_ttup, e_gt, e_ge, e_lt, e_le, e_eqi, e_nei, e_eqs, e_nes, e_eql, e_nel, e_eqt, e_net, e_sublst, e_subtup, e_lenl, e_lent, e_lens, e_int1, e_tupl, e_tupt, e_lstl, e_lstt, e_repr, e_stri, e_strs, e_fvs, e_fvi, e_sll, e_slf, e_slt, e_rvt, e_rvl, e_stl, e_stt, e_sql, e_sqt, e_bnm, e_btp, e_bnil, e_bcons, e_san, e_sac, feedO_eq, g_cells, g_at, g_held, g_count, p_at, p_held, p_count, c_count, c_at, c_held, c_cells, put_same, put_put, List.set_cons_zero, List.set_cons_succ, List.getElem?_cons_zero, List.getElem?_cons_succ, List.map_cons, List.map_nil, List.cons_append, List.nil_append, List.length_cons, List.length_nil, and_true, true_and, decide_true, decide_false, l_feed, startE, List.replicate, Nat.reduceSub, Nat.reduceAdd, List.length_map, Bool.not_true, Bool.not_false, if_true, if_false, Bool.false_eq_true, reduceIte, h, ar, ha, ara])
  refine ⟨a, 6, n, rfl, by decide, by decide, hf2, fun g S3 g0 g1 hf3 fr3 => ?_⟩
  (try simp (disch := first | assumption | omega | decide | (constructor <;> first | assumption | omega | decide | fail) | fail) only [WS, e_wnil, WE, WEs, WAnd, WOr, WTs, WFs, WO, WI, e_rs_int, e_rs_str, e_rs_bl, e_rs_non, e_rs_tup, e_rs_lst, e_rs_lsf, e_rs_loc, e_str, e_cint, e_cbl, e_cnon, e_add, e_sub, e_mul, e_mod, e_div, e_pow, e_adds, e_addt, e_addl, e_tbl, e_tnon, e_tint, e_tlst, e_ttup, e_gt, e_ge, e_lt, e_le, e_eqi, e_nei, e_eqs, e_nes, e_eql, e_nel, e_eqt, e_net, e_sublst, e_subtup, e_lenl, e_lent, e_lens, e_int1, e_tupl, e_tupt, e_lstl, e_lstt, e_repr, e_stri, e_strs, e_fvs, e_fvi, e_sll, e_slf, e_slt, e_rvt, e_rvl, e_stl, e_stt, e_sql, e_sqt, e_bnm, e_btp, e_bnil, e_bcons, e_san, e_sac, feedO_eq, g_cells, g_at, g_held, g_count, p_at, p_held, p_count, c_count, c_at, c_held, c_cells, put_same, put_put, List.set_cons_zero, List.set_cons_succ, List.getElem?_cons_zero, List.getElem?_cons_succ, List.map_cons, List.map_nil, List.cons_append, List.nil_append, List.length_cons, List.length_nil, and_true, true_and, decide_true, decide_false, l_feed, startE, List.replicate, Nat.reduceSub, Nat.reduceAdd, List.length_map, Bool.not_true, Bool.not_false, if_true, if_false, Bool.false_eq_true, reduceIte, h, ar, ha, ara])
  refine ⟨sz_small (by decide), ?_⟩
  obtain ⟨f, rfl⟩ := Int.eq_ofNat_of_zero_le f0
  obtain ⟨g, rfl⟩ := Int.eq_ofNat_of_zero_le g0
  rw [WSs]
  have hm := okI_small (m := m) (by omega) (by omega)
  (try simp (disch := first | assumption | omega | decide | (constructor <;> first | assumption | omega | decide | fail) | fail) only [WS, e_wnil, WE, WEs, WAnd, WOr, WTs, WFs, WO, WI, e_rs_int, e_rs_str, e_rs_bl, e_rs_non, e_rs_tup, e_rs_lst, e_rs_lsf, e_rs_loc, e_str, e_cint, e_cbl, e_cnon, e_add, e_sub, e_mul, e_mod, e_div, e_pow, e_adds, e_addt, e_addl, e_tbl, e_tnon, e_tint, e_tlst, e_ttup, e_gt, e_ge, e_lt, e_le, e_eqi, e_nei, e_eqs, e_nes, e_eql, e_nel, e_eqt, e_net, e_sublst, e_subtup, e_lenl, e_lent, e_lens, e_int1, e_tupl, e_tupt, e_lstl, e_lstt, e_repr, e_stri, e_strs, e_fvs, e_fvi, e_sll, e_slf, e_slt, e_rvt, e_rvl, e_stl, e_stt, e_sql, e_sqt, e_bnm, e_btp, e_bnil, e_bcons, e_san, e_sac, feedO_eq, g_cells, g_at, g_held, g_count, p_at, p_held, p_count, c_count, c_at, c_held, c_cells, put_same, put_put, List.set_cons_zero, List.set_cons_succ, List.getElem?_cons_zero, List.getElem?_cons_succ, List.map_cons, List.map_nil, List.cons_append, List.nil_append, List.length_cons, List.length_nil, and_true, true_and, decide_true, decide_false, l_feed, startE, List.replicate, Nat.reduceSub, Nat.reduceAdd, List.length_map, Bool.not_true, Bool.not_false, if_true, if_false, Bool.false_eq_true, reduceIte, hm.1, hm.2, rngD_eq, wipeE])
  refine comp_pure (fun k : Nat => D.int (k : Nat)) (fun k => D.str ((pools.getD p []).getD ((f + k * (1 + g)) % 7) "")) _ ?_ ?_
  · intro k hk acc kk hkk
    have hk7 : k < 7 := by
      have := List.mem_range.mp hk
      omega
    have hz : sz64 (k : Int) = true := sz_of (by omega) (by omega)
    have e1 : ((f : Int) + (k : Int) * (1 + (g : Int))) % 7 = (((f + k * (1 + g)) % 7 : Nat) : Int) := by push_cast; rfl
    have e2 : atI ((pools.getD p []).map D.str) (((f + k * (1 + g)) % 7 : Nat) : Int) = some (.str ((pools.getD p []).getD ((f + k * (1 + g)) % 7) "")) := atI_nat (pool_get hp (Nat.mod_lt _ (by decide)))
    (try simp (disch := first | assumption | omega | decide | (constructor <;> first | assumption | omega | decide | fail) | fail) only [WS, e_wnil, WE, WEs, WAnd, WOr, WTs, WFs, WO, WI, e_rs_int, e_rs_str, e_rs_bl, e_rs_non, e_rs_tup, e_rs_lst, e_rs_lsf, e_rs_loc, e_str, e_cint, e_cbl, e_cnon, e_add, e_sub, e_mul, e_mod, e_div, e_pow, e_adds, e_addt, e_addl, e_tbl, e_tnon, e_tint, e_tlst, e_ttup, e_gt, e_ge, e_lt, e_le, e_eqi, e_nei, e_eqs, e_nes, e_eql, e_nel, e_eqt, e_net, e_sublst, e_subtup, e_lenl, e_lent, e_lens, e_int1, e_tupl, e_tupt, e_lstl, e_lstt, e_repr, e_stri, e_strs, e_fvs, e_fvi, e_sll, e_slf, e_slt, e_rvt, e_rvl, e_stl, e_stt, e_sql, e_sqt, e_bnm, e_btp, e_bnil, e_bcons, e_san, e_sac, feedO_eq, g_cells, g_at, g_held, g_count, p_at, p_held, p_count, c_count, c_at, c_held, c_cells, put_same, put_put, List.set_cons_zero, List.set_cons_succ, List.getElem?_cons_zero, List.getElem?_cons_succ, List.map_cons, List.map_nil, List.cons_append, List.nil_append, List.length_cons, List.length_nil, and_true, true_and, decide_true, decide_false, l_feed, startE, List.replicate, Nat.reduceSub, Nat.reduceAdd, List.length_map, Bool.not_true, Bool.not_false, if_true, if_false, Bool.false_eq_true, reduceIte, hz, e1, e2])
    exact hkk
  · have e3 : ((List.range m.toNat).map fun k => D.str ((pools.getD p []).getD ((f + k * (1 + g)) % 7) "")) = ((List.range m.toNat).map fun k => (pools.getD p []).getD ((f + k * (1 + g)) % 7) "").map D.str := by
      rw [List.map_map]
      rfl
    rw [e3]
    rw [e_sorted (by simp only [List.length_map, List.length_range]; omega)]
    exact ⟨S3, Le.refl _, hq p f g S3 hp (by omega) (by omega) hf3 ((fr1.trans fr2).trans fr3)⟩
end FL

namespace FL
open PySem PySem.Spec PyProof.Rows L2
/-! ### drawn webs -/
structure Ent where
  name : Str
  fee : Int
  has : Bool
  row : List Str
def Ent.d (e : Ent) : D := .tup [.str e.name, .int e.fee, .bl e.has, .tup (e.row.map D.str)]
def feesL : List Int := [1, 1, 1, 2, 3, 9, 10, 12, 10 ^ 59]
/-- an entry of a drawn web -/
structure Ent.In (e : Ent) (ss : List Str) (asks : Str) : Prop where
  fee : e.fee ∈ feesL
  row : e.row.Sublist ss
  has : e.has = true → e.name ≠ asks
def webD (es : List Ent) (asks : Str) : D := .tup [.tup (es.map Ent.d), .str asks]
def spPage : Spec := fun ds S Q _ => ∃ a m n, ds = [.loc a, .int m] ∧ 0 < m ∧ m ≤ 7 ∧ Fd S a (n + 100) ∧
  ∀ (p f st k : Nat) asks es S', p < 4 → f < 7 → st < 6 → 0 < k → (k : Int) ≤ m → asks ∈ labelsP p f st k → es.map Ent.name = labelsP p f st k → (∀ e ∈ es, e.In (labelsP p f st k) asks) → Fd S' a n → Fr a S S' → Q (webD es asks) S'
def pageC (fl fa fd : Nat) : CSs := (.cons (.set (.nm 2) (.call fl (.cons (.var 0) (.cons (.bin .Add (.cst (.int 1)) (.call fd (.cons (.var 0) (.cons (.var 1) .nil)))) .nil)))) (.cons (.par [4, 5] (.cons (.call fa (.cons (.var 0) (.cons (.var 2) .nil))) (.cons (.live (.lst .nil)) .nil))) (.cons (.for (.nm 3) (.val (.var 2)) (.cons (.set (.nm 6) (.and (.cons (.cmp .Eq (.call fd (.cons (.var 0) (.cons (.cst (.int 3)) .nil))) (.cst (.int 0))) (.cons (.cmp .NotEq (.var 3) (.var 4)) .nil)))) (.cons (.set (.nm 7) (.comp [8] (.var 8) (.nm 8) (.val (.var 2)) (.cons (.cmp .Eq (.call fd (.cons (.var 0) (.cons (.cst (.int 3)) .nil))) (.cst (.int 0))) .nil))) (.cons (.ex (.app (.var 5) (.tup (.cons (.var 3) (.cons (.call fa (.cons (.var 0) (.cons (.lst (.cons (.cst (.int 1)) (.cons (.cst (.int 1)) (.cons (.cst (.int 1)) (.cons (.cst (.int 2)) (.cons (.cst (.int 3)) (.cons (.cst (.int 9)) (.cons (.cst (.int 10)) (.cons (.cst (.int 12)) (.cons (.bin .Pow (.cst (.int 10)) (.cst (.int 59))) .nil)))))))))) .nil))) (.cons (.var 6) (.cons (.bi .tuple (.cons (.var 7) .nil)) .nil))))))) .nil)))) (.cons (.ret (.tup (.cons (.bi .tuple (.cons (.var 5) .nil)) (.cons (.var 4) .nil)))) .nil))))
theorem sortS_len : ∀ ss : List Str, (sortS ss).length = ss.length := by
  have ins : ∀ (x : Str) (l : List Str), (insS x l).length = l.length + 1 := by
    intro x l
    induction l with
    | nil => rfl
    | cons y r ih =>
      unfold insS
      split
      · rw [List.length_cons, ih, List.length_cons]
      · rfl
  intro ss
  induction ss with
  | nil => rfl
  | cons x r ih => rw [sortS, ins, ih, List.length_cons]
theorem labelsP_len (p f st m : Nat) : (labelsP p f st m).length = m := by
  unfold labelsP
  rw [sortS_len, List.length_map, List.length_range]
def Sto.cut (S : Sto) (b : Addr) : Sto := fun c => if c = b then none else S c
theorem cut_ne (S : Sto) {b c : Addr} (h : c ≠ b) : S.cut b c = S c := if_neg h
theorem cut_same (S : Sto) (b : Addr) : S.cut b b = none := if_pos rfl
theorem cut_le (S : Sto) (b : Addr) : Le (S.cut b) S := fun c o h => by
  rcases Classical.em (c = b) with e | e
  · rw [e, cut_same] at h
    cases h
  · rwa [cut_ne S e] at h
/-- the feed's address stays apart -/
theorem Fr.at {a b : Addr} {S S' : Sto} (h : Fr a S S') (hb : b ≠ a) : S' b = S b := h b hb
theorem page_ok (G : Ctx) {fl fa fd : Nat} (hl0 : G.fn fl = spLabels) (arl : G.ar fl = 2) (ha : G.fn fa = spAny) (ara : G.ar fa = 2) (h : G.fn fd = spDraw) (ar : G.ar fd = 2) : BodyOk G (pageC fl fa fd) 9 2 spPage := by
  intro ds S Q R0 hl hsp
  obtain ⟨a, m, n, rfl, h0, h1, hf, hq⟩ := hsp
  unfold pageC
  show WSs _ _ _ _ _ _; rw [WSs]
  (try simp (disch := first | assumption | omega | decide | (constructor <;> first | assumption | omega | decide | fail) | fail) only [WS, e_wnil, WE, WEs, WAnd, WOr, WTs, WFs, WO, WI, e_rs_int, e_rs_str, e_rs_bl, e_rs_non, e_rs_tup, e_rs_lst, e_rs_lsf, e_rs_loc, e_str, e_cint, e_cbl, e_cnon, e_add, e_sub, e_mul, e_mod, e_div, e_pow, e_adds, e_addt, e_addl, e_tbl, e_tnon, e_tint, e_tlst, e_ttup, e_gt, e_ge, e_lt, e_le, e_eqi, e_nei, e_eqs, e_nes, e_eql, e_nel, e_eqt, e_net, e_sublst, e_subtup, e_lenl, e_lent, e_lens, e_int1, e_tupl, e_tupt, e_lstl, e_lstt, e_repr, e_stri, e_strs, e_fvs, e_fvi, e_sll, e_slf, e_slt, e_rvt, e_rvl, e_stl, e_stt, e_sql, e_sqt, e_bnm, e_btp, e_bnil, e_bcons, e_san, e_sac, feedO_eq, g_cells, g_at, g_held, g_count, p_at, p_held, p_count, c_count, c_at, c_held, c_cells, put_same, put_put, List.set_cons_zero, List.set_cons_succ, List.getElem?_cons_zero, List.getElem?_cons_succ, List.map_cons, List.map_nil, List.cons_append, List.nil_append, List.length_cons, List.length_nil, and_true, true_and, decide_true, decide_false, l_feed, startE, List.replicate, Nat.reduceSub, Nat.reduceAdd, List.length_map, Bool.not_true, Bool.not_false, if_true, if_false, Bool.false_eq_true, reduceIte, h, ar, ha, ara, hl0, arl])
  refine ⟨a, m, n + 99, rfl, h0, by omega, hf, fun d S1 d0 d1 hf1 fr1 => ?_⟩
  obtain ⟨d, rfl⟩ := Int.eq_ofNat_of_zero_le d0
  (try simp (disch := first | assumption | omega | decide | (constructor <;> first | assumption | omega | decide | fail) | fail) only [WS, e_wnil, WE, WEs, WAnd, WOr, WTs, WFs, WO, WI, e_rs_int, e_rs_str, e_rs_bl, e_rs_non, e_rs_tup, e_rs_lst, e_rs_lsf, e_rs_loc, e_str, e_cint, e_cbl, e_cnon, e_add, e_sub, e_mul, e_mod, e_div, e_pow, e_adds, e_addt, e_addl, e_tbl, e_tnon, e_tint, e_tlst, e_ttup, e_gt, e_ge, e_lt, e_le, e_eqi, e_nei, e_eqs, e_nes, e_eql, e_nel, e_eqt, e_net, e_sublst, e_subtup, e_lenl, e_lent, e_lens, e_int1, e_tupl, e_tupt, e_lstl, e_lstt, e_repr, e_stri, e_strs, e_fvs, e_fvi, e_sll, e_slf, e_slt, e_rvt, e_rvl, e_stl, e_stt, e_sql, e_sqt, e_bnm, e_btp, e_bnil, e_bcons, e_san, e_sac, feedO_eq, g_cells, g_at, g_held, g_count, p_at, p_held, p_count, c_count, c_at, c_held, c_cells, put_same, put_put, List.set_cons_zero, List.set_cons_succ, List.getElem?_cons_zero, List.getElem?_cons_succ, List.map_cons, List.map_nil, List.cons_append, List.nil_append, List.length_cons, List.length_nil, and_true, true_and, decide_true, decide_false, l_feed, startE, List.replicate, Nat.reduceSub, Nat.reduceAdd, List.length_map, Bool.not_true, Bool.not_false, if_true, if_false, Bool.false_eq_true, reduceIte, h, ar, ha, ara, hl0, arl])
  refine ⟨a, 1 + d, n + 96, rfl, by omega, by omega, hf1, fun p f st S2 hp hf' hst hf2 fr2 => ?_⟩
  have ek : (1 + (d : Int)).toNat = 1 + d := by omega
  rw [ek]
  have hlen := labelsP_len p f st (1 + d)
  generalize hss : labelsP p f st (1 + d) = ss at hlen ⊢
  show WSs _ _ _ _ _ _; rw [WSs]
  (try simp (disch := first | assumption | omega | decide | (constructor <;> first | assumption | omega | decide | fail) | fail) only [WS, e_wnil, WE, WEs, WAnd, WOr, WTs, WFs, WO, WI, e_rs_int, e_rs_str, e_rs_bl, e_rs_non, e_rs_tup, e_rs_lst, e_rs_lsf, e_rs_loc, e_str, e_cint, e_cbl, e_cnon, e_add, e_sub, e_mul, e_mod, e_div, e_pow, e_adds, e_addt, e_addl, e_tbl, e_tnon, e_tint, e_tlst, e_ttup, e_gt, e_ge, e_lt, e_le, e_eqi, e_nei, e_eqs, e_nes, e_eql, e_nel, e_eqt, e_net, e_sublst, e_subtup, e_lenl, e_lent, e_lens, e_int1, e_tupl, e_tupt, e_lstl, e_lstt, e_repr, e_stri, e_strs, e_fvs, e_fvi, e_sll, e_slf, e_slt, e_rvt, e_rvl, e_stl, e_stt, e_sql, e_sqt, e_bnm, e_btp, e_bnil, e_bcons, e_san, e_sac, feedO_eq, g_cells, g_at, g_held, g_count, p_at, p_held, p_count, c_count, c_at, c_held, c_cells, put_same, put_put, List.set_cons_zero, List.set_cons_succ, List.getElem?_cons_zero, List.getElem?_cons_succ, List.map_cons, List.map_nil, List.cons_append, List.nil_append, List.length_cons, List.length_nil, and_true, true_and, decide_true, decide_false, l_feed, startE, List.replicate, Nat.reduceSub, Nat.reduceAdd, List.length_map, Bool.not_true, Bool.not_false, if_true, if_false, Bool.false_eq_true, reduceIte, h, ar, ha, ara, hl0, arl])
  refine ⟨a, _, n + 95, .inl rfl, by simp only [List.length_map]; omega, by simp only [List.length_map]; omega, hf2, fun x S3 hx hf3 fr3 => ?_⟩
  obtain ⟨asks, hasks, rfl⟩ := List.mem_map.mp hx
  (try simp (disch := first | assumption | omega | decide | (constructor <;> first | assumption | omega | decide | fail) | fail) only [WS, e_wnil, WE, WEs, WAnd, WOr, WTs, WFs, WO, WI, e_rs_int, e_rs_str, e_rs_bl, e_rs_non, e_rs_tup, e_rs_lst, e_rs_lsf, e_rs_loc, e_str, e_cint, e_cbl, e_cnon, e_add, e_sub, e_mul, e_mod, e_div, e_pow, e_adds, e_addt, e_addl, e_tbl, e_tnon, e_tint, e_tlst, e_ttup, e_gt, e_ge, e_lt, e_le, e_eqi, e_nei, e_eqs, e_nes, e_eql, e_nel, e_eqt, e_net, e_sublst, e_subtup, e_lenl, e_lent, e_lens, e_int1, e_tupl, e_tupt, e_lstl, e_lstt, e_repr, e_stri, e_strs, e_fvs, e_fvi, e_sll, e_slf, e_slt, e_rvt, e_rvl, e_stl, e_stt, e_sql, e_sqt, e_bnm, e_btp, e_bnil, e_bcons, e_san, e_sac, feedO_eq, g_cells, g_at, g_held, g_count, p_at, p_held, p_count, c_count, c_at, c_held, c_cells, put_same, put_put, List.set_cons_zero, List.set_cons_succ, List.getElem?_cons_zero, List.getElem?_cons_succ, List.map_cons, List.map_nil, List.cons_append, List.nil_append, List.length_cons, List.length_nil, and_true, true_and, decide_true, decide_false, l_feed, startE, List.replicate, Nat.reduceSub, Nat.reduceAdd, List.length_map, Bool.not_true, Bool.not_false, if_true, if_false, Bool.false_eq_true, reduceIte, h, ar, ha, ara, hl0, arl])
  refine ⟨Nat.zero_le _, fun b hb => ?_⟩
  have frS3 : Fr a S S3 := (fr1.trans fr2).trans fr3
  have hba : b ≠ a := by
    rintro rfl
    obtain ⟨is, x, y, z, e, _⟩ := hf3
    rw [e] at hb
    cases hb
  have hSb : S b = none := by rw [← frS3 b hba]; exact hb
  show WSs _ _ _ _ _ _; rw [WSs]
  (try simp (disch := first | assumption | omega | decide | (constructor <;> first | assumption | omega | decide | fail) | fail) only [WS, e_wnil, WE, WEs, WAnd, WOr, WTs, WFs, WO, WI, e_rs_int, e_rs_str, e_rs_bl, e_rs_non, e_rs_tup, e_rs_lst, e_rs_lsf, e_rs_loc, e_str, e_cint, e_cbl, e_cnon, e_add, e_sub, e_mul, e_mod, e_div, e_pow, e_adds, e_addt, e_addl, e_tbl, e_tnon, e_tint, e_tlst, e_ttup, e_gt, e_ge, e_lt, e_le, e_eqi, e_nei, e_eqs, e_nes, e_eql, e_nel, e_eqt, e_net, e_sublst, e_subtup, e_lenl, e_lent, e_lens, e_int1, e_tupl, e_tupt, e_lstl, e_lstt, e_repr, e_stri, e_strs, e_fvs, e_fvi, e_sll, e_slf, e_slt, e_rvt, e_rvl, e_stl, e_stt, e_sql, e_sqt, e_bnm, e_btp, e_bnil, e_bcons, e_san, e_sac, feedO_eq, g_cells, g_at, g_held, g_count, p_at, p_held, p_count, c_count, c_at, c_held, c_cells, put_same, put_put, List.set_cons_zero, List.set_cons_succ, List.getElem?_cons_zero, List.getElem?_cons_succ, List.map_cons, List.map_nil, List.cons_append, List.nil_append, List.length_cons, List.length_nil, and_true, true_and, decide_true, decide_false, l_feed, startE, List.replicate, Nat.reduceSub, Nat.reduceAdd, List.length_map, Bool.not_true, Bool.not_false, if_true, if_false, Bool.false_eq_true, reduceIte, h, ar, ha, ara, hl0, arl])
  refine for_rule _ (fun i r S' => ∃ (es : List Ent) (x3 x6 x7 : Option D), r = [some (.loc a), some (.int m), some (.lst (ss.map D.str)), x3, some (.str asks), some (.loc b), x6, x7, none] ∧ S' b = some (.lst (es.map Ent.d)) ∧ es.map Ent.name = ss.take i ∧ (∀ e ∈ es, e.In ss asks) ∧ Fd S' a (n + 10 * (7 - i)) ∧ ∀ c, c ≠ a → c ≠ b → S' c = S c) _ _ ?_ ?_ ?_
  · refine ⟨[], none, none, none, rfl, put_same _ _ _, by simp, fun _ h => (by cases h), ?_, fun c h1 h2 => ?_⟩
    · obtain ⟨is, x, y, z, e, q1, q2, q3⟩ := hf3
      exact ⟨is, x, y, z, by rw [put_ne _ _ (Ne.symm hba)]; exact e, q1, q2, by omega⟩
    · rw [put_ne _ _ h2, frS3 c h1]
  · rintro i d hd r S4 ⟨es, x3, x6, x7, rfl, hb4, hn4, hin4, hf4, fr4⟩ Z1 zr zb znx zct
    rw [List.getElem?_map] at hd
    obtain ⟨lab, hlab, rfl⟩ := Option.map_eq_some_iff.mp hd
    have hi : i < ss.length := (List.getElem?_eq_some_iff.mp hlab).1
    have hi7 : i < 7 := by omega
    rw [e_bnm]
    (try simp (disch := first | assumption | omega | decide | (constructor <;> first | assumption | omega | decide | fail) | fail) only [WS, e_wnil, WE, WEs, WAnd, WOr, WTs, WFs, WO, WI, e_rs_int, e_rs_str, e_rs_bl, e_rs_non, e_rs_tup, e_rs_lst, e_rs_lsf, e_rs_loc, e_str, e_cint, e_cbl, e_cnon, e_add, e_sub, e_mul, e_mod, e_div, e_pow, e_adds, e_addt, e_addl, e_tbl, e_tnon, e_tint, e_tlst, e_ttup, e_gt, e_ge, e_lt, e_le, e_eqi, e_nei, e_eqs, e_nes, e_eql, e_nel, e_eqt, e_net, e_sublst, e_subtup, e_lenl, e_lent, e_lens, e_int1, e_tupl, e_tupt, e_lstl, e_lstt, e_repr, e_stri, e_strs, e_fvs, e_fvi, e_sll, e_slf, e_slt, e_rvt, e_rvl, e_stl, e_stt, e_sql, e_sqt, e_bnm, e_btp, e_bnil, e_bcons, e_san, e_sac, feedO_eq, g_cells, g_at, g_held, g_count, p_at, p_held, p_count, c_count, c_at, c_held, c_cells, put_same, put_put, List.set_cons_zero, List.set_cons_succ, List.getElem?_cons_zero, List.getElem?_cons_succ, List.map_cons, List.map_nil, List.cons_append, List.nil_append, List.length_cons, List.length_nil, and_true, true_and, decide_true, decide_false, l_feed, startE, List.replicate, Nat.reduceSub, Nat.reduceAdd, List.length_map, Bool.not_true, Bool.not_false, if_true, if_false, Bool.false_eq_true, reduceIte])
    show WSs _ _ _ _ _ _; rw [WSs]
    (try simp (disch := first | assumption | omega | decide | (constructor <;> first | assumption | omega | decide | fail) | fail) only [WS, e_wnil, WE, WEs, WAnd, WOr, WTs, WFs, WO, WI, e_rs_int, e_rs_str, e_rs_bl, e_rs_non, e_rs_tup, e_rs_lst, e_rs_lsf, e_rs_loc, e_str, e_cint, e_cbl, e_cnon, e_add, e_sub, e_mul, e_mod, e_div, e_pow, e_adds, e_addt, e_addl, e_tbl, e_tnon, e_tint, e_tlst, e_ttup, e_gt, e_ge, e_lt, e_le, e_eqi, e_nei, e_eqs, e_nes, e_eql, e_nel, e_eqt, e_net, e_sublst, e_subtup, e_lenl, e_lent, e_lens, e_int1, e_tupl, e_tupt, e_lstl, e_lstt, e_repr, e_stri, e_strs, e_fvs, e_fvi, e_sll, e_slf, e_slt, e_rvt, e_rvl, e_stl, e_stt, e_sql, e_sqt, e_bnm, e_btp, e_bnil, e_bcons, e_san, e_sac, feedO_eq, g_cells, g_at, g_held, g_count, p_at, p_held, p_count, c_count, c_at, c_held, c_cells, put_same, put_put, List.set_cons_zero, List.set_cons_succ, List.getElem?_cons_zero, List.getElem?_cons_succ, List.map_cons, List.map_nil, List.cons_append, List.nil_append, List.length_cons, List.length_nil, and_true, true_and, decide_true, decide_false, l_feed, startE, List.replicate, Nat.reduceSub, Nat.reduceAdd, List.length_map, Bool.not_true, Bool.not_false, if_true, if_false, Bool.false_eq_true, reduceIte, h, ar, ha, ara, hl0, arl])
    refine ⟨a, 3, n + 10 * (7 - i) - 1, rfl, by decide, by decide, hf4.less (by omega), fun g S5 g0 g1 hf5 fr5 => ?_⟩
    (try simp (disch := first | assumption | omega | decide | (constructor <;> first | assumption | omega | decide | fail) | fail) only [WS, e_wnil, WE, WEs, WAnd, WOr, WTs, WFs, WO, WI, e_rs_int, e_rs_str, e_rs_bl, e_rs_non, e_rs_tup, e_rs_lst, e_rs_lsf, e_rs_loc, e_str, e_cint, e_cbl, e_cnon, e_add, e_sub, e_mul, e_mod, e_div, e_pow, e_adds, e_addt, e_addl, e_tbl, e_tnon, e_tint, e_tlst, e_ttup, e_gt, e_ge, e_lt, e_le, e_eqi, e_nei, e_eqs, e_nes, e_eql, e_nel, e_eqt, e_net, e_sublst, e_subtup, e_lenl, e_lent, e_lens, e_int1, e_tupl, e_tupt, e_lstl, e_lstt, e_repr, e_stri, e_strs, e_fvs, e_fvi, e_sll, e_slf, e_slt, e_rvt, e_rvl, e_stl, e_stt, e_sql, e_sqt, e_bnm, e_btp, e_bnil, e_bcons, e_san, e_sac, feedO_eq, g_cells, g_at, g_held, g_count, p_at, p_held, p_count, c_count, c_at, c_held, c_cells, put_same, put_put, List.set_cons_zero, List.set_cons_succ, List.getElem?_cons_zero, List.getElem?_cons_succ, List.map_cons, List.map_nil, List.cons_append, List.nil_append, List.length_cons, List.length_nil, and_true, true_and, decide_true, decide_false, l_feed, startE, List.replicate, Nat.reduceSub, Nat.reduceAdd, List.length_map, Bool.not_true, Bool.not_false, if_true, if_false, Bool.false_eq_true, reduceIte, h, ar, ha, ara, hl0, arl])
    have step : ∀ hol : Bool, (hol = true → lab ≠ asks) → WSs G (fun e x S' => ∃ S'', Le S'' S' ∧ R0 e S'') (.cons (.set (.nm 7) (.comp [8] (.var 8) (.nm 8) (.val (.var 2)) (.cons (.cmp .Eq (.call fd (.cons (.var 0) (.cons (.cst (.int 3)) .nil))) (.cst (.int 0))) .nil))) (.cons (.ex (.app (.var 5) (.tup (.cons (.var 3) (.cons (.call fa (.cons (.var 0) (.cons (.lst (.cons (.cst (.int 1)) (.cons (.cst (.int 1)) (.cons (.cst (.int 1)) (.cons (.cst (.int 2)) (.cons (.cst (.int 3)) (.cons (.cst (.int 9)) (.cons (.cst (.int 10)) (.cons (.cst (.int 12)) (.cons (.bin .Pow (.cst (.int 10)) (.cst (.int 59))) .nil)))))))))) .nil))) (.cons (.var 6) (.cons (.bi .tuple (.cons (.var 7) .nil)) .nil))))))) .nil))
        [some (.loc a), some (.int m), some (.lst (ss.map D.str)), some (.str lab), some (.str asks), some (.loc b), some (.bl hol), x7, none] S5 Z1 := by
      intro hol hhol
      show WSs _ _ _ _ _ _; rw [WSs]
      (try simp (disch := first | assumption | omega | decide | (constructor <;> first | assumption | omega | decide | fail) | fail) only [WS, e_wnil, WE, WEs, WAnd, WOr, WTs, WFs, WO, WI, e_rs_int, e_rs_str, e_rs_bl, e_rs_non, e_rs_tup, e_rs_lst, e_rs_lsf, e_rs_loc, e_str, e_cint, e_cbl, e_cnon, e_add, e_sub, e_mul, e_mod, e_div, e_pow, e_adds, e_addt, e_addl, e_tbl, e_tnon, e_tint, e_tlst, e_ttup, e_gt, e_ge, e_lt, e_le, e_eqi, e_nei, e_eqs, e_nes, e_eql, e_nel, e_eqt, e_net, e_sublst, e_subtup, e_lenl, e_lent, e_lens, e_int1, e_tupl, e_tupt, e_lstl, e_lstt, e_repr, e_stri, e_strs, e_fvs, e_fvi, e_sll, e_slf, e_slt, e_rvt, e_rvl, e_stl, e_stt, e_sql, e_sqt, e_bnm, e_btp, e_bnil, e_bcons, e_san, e_sac, feedO_eq, g_cells, g_at, g_held, g_count, p_at, p_held, p_count, c_count, c_at, c_held, c_cells, put_same, put_put, List.set_cons_zero, List.set_cons_succ, List.getElem?_cons_zero, List.getElem?_cons_succ, List.map_cons, List.map_nil, List.cons_append, List.nil_append, List.length_cons, List.length_nil, and_true, true_and, decide_true, decide_false, l_feed, startE, List.replicate, Nat.reduceSub, Nat.reduceAdd, List.length_map, Bool.not_true, Bool.not_false, if_true, if_false, Bool.false_eq_true, reduceIte, h, ar, ha, ara, hl0, arl, wipeE])
      refine pick_rule ss (n + 10 * (7 - i) - 1 - ss.length) [] S5 (hf5.less (by omega)) ?_ ?_
      · intro s hs acc S6 N k hf6 hk
        (try simp (disch := first | assumption | omega | decide | (constructor <;> first | assumption | omega | decide | fail) | fail) only [WS, e_wnil, WE, WEs, WAnd, WOr, WTs, WFs, WO, WI, e_rs_int, e_rs_str, e_rs_bl, e_rs_non, e_rs_tup, e_rs_lst, e_rs_lsf, e_rs_loc, e_str, e_cint, e_cbl, e_cnon, e_add, e_sub, e_mul, e_mod, e_div, e_pow, e_adds, e_addt, e_addl, e_tbl, e_tnon, e_tint, e_tlst, e_ttup, e_gt, e_ge, e_lt, e_le, e_eqi, e_nei, e_eqs, e_nes, e_eql, e_nel, e_eqt, e_net, e_sublst, e_subtup, e_lenl, e_lent, e_lens, e_int1, e_tupl, e_tupt, e_lstl, e_lstt, e_repr, e_stri, e_strs, e_fvs, e_fvi, e_sll, e_slf, e_slt, e_rvt, e_rvl, e_stl, e_stt, e_sql, e_sqt, e_bnm, e_btp, e_bnil, e_bcons, e_san, e_sac, feedO_eq, g_cells, g_at, g_held, g_count, p_at, p_held, p_count, c_count, c_at, c_held, c_cells, put_same, put_put, List.set_cons_zero, List.set_cons_succ, List.getElem?_cons_zero, List.getElem?_cons_succ, List.map_cons, List.map_nil, List.cons_append, List.nil_append, List.length_cons, List.length_nil, and_true, true_and, decide_true, decide_false, l_feed, startE, List.replicate, Nat.reduceSub, Nat.reduceAdd, List.length_map, Bool.not_true, Bool.not_false, if_true, if_false, Bool.false_eq_true, reduceIte, h, ar, ha, ara, hl0, arl])
        refine ⟨a, 3, N, rfl, by decide, by decide, hf6, fun g2 S7 g20 g21 hf7 fr7 => ?_⟩
        obtain ⟨k1, k2⟩ := hk S7 hf7 fr7
        by_cases hg : g2 = 0
        · (try simp (disch := first | assumption | omega | decide | (constructor <;> first | assumption | omega | decide | fail) | fail) only [WS, e_wnil, WE, WEs, WAnd, WOr, WTs, WFs, WO, WI, e_rs_int, e_rs_str, e_rs_bl, e_rs_non, e_rs_tup, e_rs_lst, e_rs_lsf, e_rs_loc, e_str, e_cint, e_cbl, e_cnon, e_add, e_sub, e_mul, e_mod, e_div, e_pow, e_adds, e_addt, e_addl, e_tbl, e_tnon, e_tint, e_tlst, e_ttup, e_gt, e_ge, e_lt, e_le, e_eqi, e_nei, e_eqs, e_nes, e_eql, e_nel, e_eqt, e_net, e_sublst, e_subtup, e_lenl, e_lent, e_lens, e_int1, e_tupl, e_tupt, e_lstl, e_lstt, e_repr, e_stri, e_strs, e_fvs, e_fvi, e_sll, e_slf, e_slt, e_rvt, e_rvl, e_stl, e_stt, e_sql, e_sqt, e_bnm, e_btp, e_bnil, e_bcons, e_san, e_sac, feedO_eq, g_cells, g_at, g_held, g_count, p_at, p_held, p_count, c_count, c_at, c_held, c_cells, put_same, put_put, List.set_cons_zero, List.set_cons_succ, List.getElem?_cons_zero, List.getElem?_cons_succ, List.map_cons, List.map_nil, List.cons_append, List.nil_append, List.length_cons, List.length_nil, and_true, true_and, decide_true, decide_false, l_feed, startE, List.replicate, Nat.reduceSub, Nat.reduceAdd, List.length_map, Bool.not_true, Bool.not_false, if_true, if_false, Bool.false_eq_true, reduceIte, h, ar, hg])
          exact k1
        · (try simp (disch := first | assumption | omega | decide | (constructor <;> first | assumption | omega | decide | fail) | fail) only [WS, e_wnil, WE, WEs, WAnd, WOr, WTs, WFs, WO, WI, e_rs_int, e_rs_str, e_rs_bl, e_rs_non, e_rs_tup, e_rs_lst, e_rs_lsf, e_rs_loc, e_str, e_cint, e_cbl, e_cnon, e_add, e_sub, e_mul, e_mod, e_div, e_pow, e_adds, e_addt, e_addl, e_tbl, e_tnon, e_tint, e_tlst, e_ttup, e_gt, e_ge, e_lt, e_le, e_eqi, e_nei, e_eqs, e_nes, e_eql, e_nel, e_eqt, e_net, e_sublst, e_subtup, e_lenl, e_lent, e_lens, e_int1, e_tupl, e_tupt, e_lstl, e_lstt, e_repr, e_stri, e_strs, e_fvs, e_fvi, e_sll, e_slf, e_slt, e_rvt, e_rvl, e_stl, e_stt, e_sql, e_sqt, e_bnm, e_btp, e_bnil, e_bcons, e_san, e_sac, feedO_eq, g_cells, g_at, g_held, g_count, p_at, p_held, p_count, c_count, c_at, c_held, c_cells, put_same, put_put, List.set_cons_zero, List.set_cons_succ, List.getElem?_cons_zero, List.getElem?_cons_succ, List.map_cons, List.map_nil, List.cons_append, List.nil_append, List.length_cons, List.length_nil, and_true, true_and, decide_true, decide_false, l_feed, startE, List.replicate, Nat.reduceSub, Nat.reduceAdd, List.length_map, Bool.not_true, Bool.not_false, if_true, if_false, Bool.false_eq_true, reduceIte, h, ar, hg])
          exact k2
      · intro sub S6 hsub hf6 fr6
        show WSs _ _ _ _ _ _; rw [WSs]
        have hb6 : S6 b = some (.lst (es.map Ent.d)) := by rw [fr6 b hba, fr5 b hba]; exact hb4
        have b0 : (0 : Int) ≤ 59 ∧ (59 : Int) ≤ 1000000 ∧ (10 : Int).natAbs < 2 ^ 64 := by decide
        (try simp (disch := first | assumption | omega | decide | (constructor <;> first | assumption | omega | decide | fail) | fail) only [WS, e_wnil, WE, WEs, WAnd, WOr, WTs, WFs, WO, WI, e_rs_int, e_rs_str, e_rs_bl, e_rs_non, e_rs_tup, e_rs_lst, e_rs_lsf, e_rs_loc, e_str, e_cint, e_cbl, e_cnon, e_add, e_sub, e_mul, e_mod, e_div, e_pow, e_adds, e_addt, e_addl, e_tbl, e_tnon, e_tint, e_tlst, e_ttup, e_gt, e_ge, e_lt, e_le, e_eqi, e_nei, e_eqs, e_nes, e_eql, e_nel, e_eqt, e_net, e_sublst, e_subtup, e_lenl, e_lent, e_lens, e_int1, e_tupl, e_tupt, e_lstl, e_lstt, e_repr, e_stri, e_strs, e_fvs, e_fvi, e_sll, e_slf, e_slt, e_rvt, e_rvl, e_stl, e_stt, e_sql, e_sqt, e_bnm, e_btp, e_bnil, e_bcons, e_san, e_sac, feedO_eq, g_cells, g_at, g_held, g_count, p_at, p_held, p_count, c_count, c_at, c_held, c_cells, put_same, put_put, List.set_cons_zero, List.set_cons_succ, List.getElem?_cons_zero, List.getElem?_cons_succ, List.map_cons, List.map_nil, List.cons_append, List.nil_append, List.length_cons, List.length_nil, and_true, true_and, decide_true, decide_false, l_feed, startE, List.replicate, Nat.reduceSub, Nat.reduceAdd, List.length_map, Bool.not_true, Bool.not_false, if_true, if_false, Bool.false_eq_true, reduceIte, h, ar, ha, ara, hl0, arl, hb6, e_pow b0])
        refine ⟨sz_small (by decide), a, _, n + 10 * (7 - i) - 1 - ss.length - 1, .inl rfl, by decide, by decide, hf6.less (by omega), fun fee S7 hfee hf7 fr7 => ?_⟩
        obtain ⟨fv, rfl, hfv⟩ : ∃ fv, fee = .int fv ∧ fv ∈ feesL := by
          simp only [List.mem_cons, List.not_mem_nil, or_false] at hfee
          rcases hfee with rfl | rfl | rfl | rfl | rfl | rfl | rfl | rfl | rfl
          all_goals exact ⟨_, rfl, by simp [feesL]⟩
        have hb7 : S7 b = some (.lst (es.map Ent.d)) := by rw [fr7 b hba]; exact hb6
        have hle : (es.map Ent.d).length < 1000000 := by
          have := congrArg List.length hn4
          rw [List.length_map, List.length_take] at this
          rw [List.length_map]
          omega
        (try simp (disch := first | assumption | omega | decide | (constructor <;> first | assumption | omega | decide | fail) | fail) only [WS, e_wnil, WE, WEs, WAnd, WOr, WTs, WFs, WO, WI, e_rs_int, e_rs_str, e_rs_bl, e_rs_non, e_rs_tup, e_rs_lst, e_rs_lsf, e_rs_loc, e_str, e_cint, e_cbl, e_cnon, e_add, e_sub, e_mul, e_mod, e_div, e_pow, e_adds, e_addt, e_addl, e_tbl, e_tnon, e_tint, e_tlst, e_ttup, e_gt, e_ge, e_lt, e_le, e_eqi, e_nei, e_eqs, e_nes, e_eql, e_nel, e_eqt, e_net, e_sublst, e_subtup, e_lenl, e_lent, e_lens, e_int1, e_tupl, e_tupt, e_lstl, e_lstt, e_repr, e_stri, e_strs, e_fvs, e_fvi, e_sll, e_slf, e_slt, e_rvt, e_rvl, e_stl, e_stt, e_sql, e_sqt, e_bnm, e_btp, e_bnil, e_bcons, e_san, e_sac, feedO_eq, g_cells, g_at, g_held, g_count, p_at, p_held, p_count, c_count, c_at, c_held, c_cells, put_same, put_put, List.set_cons_zero, List.set_cons_succ, List.getElem?_cons_zero, List.getElem?_cons_succ, List.map_cons, List.map_nil, List.cons_append, List.nil_append, List.length_cons, List.length_nil, and_true, true_and, decide_true, decide_false, l_feed, startE, List.replicate, Nat.reduceSub, Nat.reduceAdd, List.length_map, Bool.not_true, Bool.not_false, if_true, if_false, Bool.false_eq_true, reduceIte, hb7])
        have hle2 := hle
        rw [List.length_map] at hle2
        refine ⟨sz_small (by decide), hle2, ?_⟩
        refine znx _ _ ⟨es ++ [⟨lab, fv, hol, sub⟩], some (.str lab), some (.bl hol), some (.lst (sub.map D.str)), rfl, ?_, ?_, ?_, ?_, ?_⟩
        · rw [put_same]
          simp [Ent.d]
        · rw [List.map_append, hn4, List.take_add_one, hlab]
          rfl
        · intro e he
          rcases List.mem_append.mp he with q | q
          · exact hin4 e q
          · simp only [List.mem_cons, List.not_mem_nil, or_false] at q
            subst q
            exact ⟨hfv, hsub, hhol⟩
        · obtain ⟨is, x, y, z, e, q1, q2, q3⟩ := hf7
          exact ⟨is, x, y, z, by rw [put_ne _ _ (Ne.symm hba)]; exact e, q1, q2, by omega⟩
        · intro c h1 h2
          rw [put_ne _ _ h2, fr7 c h1, fr6 c h1, fr5 c h1, fr4 c h1 h2]
    by_cases hg : g = 0
    · by_cases hla : lab = asks
      · subst hla
        (try simp (disch := first | assumption | omega | decide | (constructor <;> first | assumption | omega | decide | fail) | fail) only [WS, e_wnil, WE, WEs, WAnd, WOr, WTs, WFs, WO, WI, e_rs_int, e_rs_str, e_rs_bl, e_rs_non, e_rs_tup, e_rs_lst, e_rs_lsf, e_rs_loc, e_str, e_cint, e_cbl, e_cnon, e_add, e_sub, e_mul, e_mod, e_div, e_pow, e_adds, e_addt, e_addl, e_tbl, e_tnon, e_tint, e_tlst, e_ttup, e_gt, e_ge, e_lt, e_le, e_eqi, e_nei, e_eqs, e_nes, e_eql, e_nel, e_eqt, e_net, e_sublst, e_subtup, e_lenl, e_lent, e_lens, e_int1, e_tupl, e_tupt, e_lstl, e_lstt, e_repr, e_stri, e_strs, e_fvs, e_fvi, e_sll, e_slf, e_slt, e_rvt, e_rvl, e_stl, e_stt, e_sql, e_sqt, e_bnm, e_btp, e_bnil, e_bcons, e_san, e_sac, feedO_eq, g_cells, g_at, g_held, g_count, p_at, p_held, p_count, c_count, c_at, c_held, c_cells, put_same, put_put, List.set_cons_zero, List.set_cons_succ, List.getElem?_cons_zero, List.getElem?_cons_succ, List.map_cons, List.map_nil, List.cons_append, List.nil_append, List.length_cons, List.length_nil, and_true, true_and, decide_true, decide_false, l_feed, startE, List.replicate, Nat.reduceSub, Nat.reduceAdd, List.length_map, Bool.not_true, Bool.not_false, if_true, if_false, Bool.false_eq_true, reduceIte, hg])
        exact step false (fun z => by cases z)
      · (try simp (disch := first | assumption | omega | decide | (constructor <;> first | assumption | omega | decide | fail) | fail) only [WS, e_wnil, WE, WEs, WAnd, WOr, WTs, WFs, WO, WI, e_rs_int, e_rs_str, e_rs_bl, e_rs_non, e_rs_tup, e_rs_lst, e_rs_lsf, e_rs_loc, e_str, e_cint, e_cbl, e_cnon, e_add, e_sub, e_mul, e_mod, e_div, e_pow, e_adds, e_addt, e_addl, e_tbl, e_tnon, e_tint, e_tlst, e_ttup, e_gt, e_ge, e_lt, e_le, e_eqi, e_nei, e_eqs, e_nes, e_eql, e_nel, e_eqt, e_net, e_sublst, e_subtup, e_lenl, e_lent, e_lens, e_int1, e_tupl, e_tupt, e_lstl, e_lstt, e_repr, e_stri, e_strs, e_fvs, e_fvi, e_sll, e_slf, e_slt, e_rvt, e_rvl, e_stl, e_stt, e_sql, e_sqt, e_bnm, e_btp, e_bnil, e_bcons, e_san, e_sac, feedO_eq, g_cells, g_at, g_held, g_count, p_at, p_held, p_count, c_count, c_at, c_held, c_cells, put_same, put_put, List.set_cons_zero, List.set_cons_succ, List.getElem?_cons_zero, List.getElem?_cons_succ, List.map_cons, List.map_nil, List.cons_append, List.nil_append, List.length_cons, List.length_nil, and_true, true_and, decide_true, decide_false, l_feed, startE, List.replicate, Nat.reduceSub, Nat.reduceAdd, List.length_map, Bool.not_true, Bool.not_false, if_true, if_false, Bool.false_eq_true, reduceIte, hg, hla])
        exact step true (fun _ => hla)
    · (try simp (disch := first | assumption | omega | decide | (constructor <;> first | assumption | omega | decide | fail) | fail) only [WS, e_wnil, WE, WEs, WAnd, WOr, WTs, WFs, WO, WI, e_rs_int, e_rs_str, e_rs_bl, e_rs_non, e_rs_tup, e_rs_lst, e_rs_lsf, e_rs_loc, e_str, e_cint, e_cbl, e_cnon, e_add, e_sub, e_mul, e_mod, e_div, e_pow, e_adds, e_addt, e_addl, e_tbl, e_tnon, e_tint, e_tlst, e_ttup, e_gt, e_ge, e_lt, e_le, e_eqi, e_nei, e_eqs, e_nes, e_eql, e_nel, e_eqt, e_net, e_sublst, e_subtup, e_lenl, e_lent, e_lens, e_int1, e_tupl, e_tupt, e_lstl, e_lstt, e_repr, e_stri, e_strs, e_fvs, e_fvi, e_sll, e_slf, e_slt, e_rvt, e_rvl, e_stl, e_stt, e_sql, e_sqt, e_bnm, e_btp, e_bnil, e_bcons, e_san, e_sac, feedO_eq, g_cells, g_at, g_held, g_count, p_at, p_held, p_count, c_count, c_at, c_held, c_cells, put_same, put_put, List.set_cons_zero, List.set_cons_succ, List.getElem?_cons_zero, List.getElem?_cons_succ, List.map_cons, List.map_nil, List.cons_append, List.nil_append, List.length_cons, List.length_nil, and_true, true_and, decide_true, decide_false, l_feed, startE, List.replicate, Nat.reduceSub, Nat.reduceAdd, List.length_map, Bool.not_true, Bool.not_false, if_true, if_false, Bool.false_eq_true, reduceIte, hg])
      exact step false (fun z => by cases z)
  · rintro r S4 ⟨es, x3, x6, x7, rfl, hb4, hn4, hin4, hf4, fr4⟩
    show WSs _ _ _ _ _ _; rw [WSs]
    (try simp (disch := first | assumption | omega | decide | (constructor <;> first | assumption | omega | decide | fail) | fail) only [WS, e_wnil, WE, WEs, WAnd, WOr, WTs, WFs, WO, WI, e_rs_int, e_rs_str, e_rs_bl, e_rs_non, e_rs_tup, e_rs_lst, e_rs_lsf, e_rs_loc, e_str, e_cint, e_cbl, e_cnon, e_add, e_sub, e_mul, e_mod, e_div, e_pow, e_adds, e_addt, e_addl, e_tbl, e_tnon, e_tint, e_tlst, e_ttup, e_gt, e_ge, e_lt, e_le, e_eqi, e_nei, e_eqs, e_nes, e_eql, e_nel, e_eqt, e_net, e_sublst, e_subtup, e_lenl, e_lent, e_lens, e_int1, e_tupl, e_tupt, e_lstl, e_lstt, e_repr, e_stri, e_strs, e_fvs, e_fvi, e_sll, e_slf, e_slt, e_rvt, e_rvl, e_stl, e_stt, e_sql, e_sqt, e_bnm, e_btp, e_bnil, e_bcons, e_san, e_sac, feedO_eq, g_cells, g_at, g_held, g_count, p_at, p_held, p_count, c_count, c_at, c_held, c_cells, put_same, put_put, List.set_cons_zero, List.set_cons_succ, List.getElem?_cons_zero, List.getElem?_cons_succ, List.map_cons, List.map_nil, List.cons_append, List.nil_append, List.length_cons, List.length_nil, and_true, true_and, decide_true, decide_false, l_feed, startE, List.replicate, Nat.reduceSub, Nat.reduceAdd, List.length_map, Bool.not_true, Bool.not_false, if_true, if_false, Bool.false_eq_true, reduceIte, hb4])
    refine ⟨sz_small (by decide), S4.cut b, cut_le _ _, ?_⟩
    rw [List.length_map, List.take_of_length_le (Nat.le_refl _)] at hn4
    refine hq p f st (1 + d) asks es _ hp hf' hst (by omega) (by omega) (by rw [hss]; exact hasks) (by rw [hss]; exact hn4) (by rw [hss]; exact hin4) ?_ ?_
    · obtain ⟨is, x, y, z, e, q1, q2, q3⟩ := hf4
      exact ⟨is, x, y, z, by rw [cut_ne _ (Ne.symm hba)]; exact e, q1, q2, by omega⟩
    · intro c hc
      rcases Classical.em (c = b) with e | e
      · rw [e, cut_same, hSb]
      · rw [cut_ne _ e]
        exact fr4 c hc e
end FL

namespace FL
open PySem PySem.Spec PyProof.Rows L2
/-! ### how long a repr is -/
def okC (s : Str) : Prop := ∀ c ∈ s.cps.toList, c < 1114112
theorem okC_of (s : String) : okC (Str.ofString s) := by
  intro c hc
  rw [Str.ofString_eq_toList] at hc
  simp only [List.toList_toArray, List.mem_map] at hc
  obtain ⟨ch, _, rfl⟩ := hc
  have h : ch.toNat < 1114112 := by
    have := ch.valid
    unfold UInt32.isValidChar Nat.isValidChar at this
    show ch.val.toNat < 1114112
    omega
  exact h
theorem okC_app {a b : Str} (ha : okC a) (hb : okC b) : okC (a ++ b) := by
  intro c hc
  rw [Str.cps_append, Array.toList_append, List.mem_append] at hc
  exact hc.elim (ha c) (hb c)
theorem okC_join {sep : Str} (hs : okC sep) : ∀ ts : List Str, (∀ t ∈ ts, okC t) → okC (Str.join sep ts)
  | [], _ => fun c hc => by
    simp [Str.join, Str.empty] at hc
  | [x], h => h x (by simp)
  | x :: y :: r, h => by
    show okC (x ++ sep ++ Str.join sep (y :: r))
    exact okC_app (okC_app (h x (by simp)) hs) (okC_join hs (y :: r) fun t ht => h t (List.mem_cons_of_mem _ ht))
mutual
def wt : D → Nat
  | .non => 8 | .bl _ => 8 | .int i => i.natAbs.log2 + 3 | .str s => 10 * s.length + 2
  | .tup ds => wts ds + 4 | .lst ds => wts ds + 4 | .lsf _ => 0 | .loc _ => 0
def wts : List D → Nat
  | [] => 0
  | d :: ds => wt d + 2 + wts ds
end
mutual
/-- plain data that can be shown -/
def shD : D → Prop
  | .non => True | .bl _ => True | .int i => i.natAbs.log2 < 1920 | .str s => okC s
  | .tup ds => shDs ds | .lst ds => shDs ds | .lsf _ => False | .loc _ => False
def shDs : List D → Prop
  | [] => True
  | d :: ds => shD d ∧ shDs ds
end
theorem shDs_iff : ∀ {ds : List D}, shDs ds ↔ ∀ d ∈ ds, shD d
  | [] => by simp [shDs]
  | d :: ds => by simp [shDs, shDs_iff (ds := ds)]
theorem textFrom_up : ∀ (ts : List Str) (k : Nat) (acc : Str), (textFrom k acc ts).length ≤ acc.length + piled ts
  | [], k, acc => by simp [textFrom, piled]
  | t :: r, k, acc => by
    have h := textFrom_up r (k + 1) (acc ++ (if k > 0 then ", " else "" : String) ++ t)
    rw [strLen_append, strLen_append] at h
    have e : ((if k > 0 then ", " else "" : String) : Str).length ≤ 2 := by
      by_cases hk : k > 0
      · rw [if_pos hk]; decide
      · rw [if_neg hk]; decide
    rw [piled_cons]
    show (textFrom (k + 1) _ r).length ≤ _
    omega
theorem join_up (ts : List Str) : (Str.join ", " ts).length ≤ piled ts := by
  cases ts with
  | nil => exact Nat.zero_le _
  | cons t r =>
    have := join_length_add (t :: r) (by simp)
    omega
mutual
theorem shown_up : ∀ (d : D), shD d → d.isP = true ∧ d.toP.showable = true ∧ d.toP.shown.length ≤ wt d
  | .non, _ => ⟨rfl, rfl, by show (4 : Nat) ≤ 8; decide⟩
  | .bl b, _ => ⟨rfl, rfl, by cases b <;> decide⟩
  | .int i, h => by
    have h1 : i.natAbs.log2 < 1920 := h
    refine ⟨rfl, decide_eq_true h1, ?_⟩
    show (Str.ofString (toString i)).length ≤ i.natAbs.log2 + 3
    have := int_text_length_le (a := i) (k := i.natAbs.log2 + 1) (by omega) (by omega)
    rw [PySem.ofString_length]
    omega
  | .str s, h => ⟨rfl, rfl, StrLaws.reprText_len s fun c hc => Nat.lt_trans (h c hc) (by decide)⟩
  | .tup ds, h => by
    obtain ⟨h1, h2, h3⟩ := shown_ups ds h
    refine ⟨h1, h2, ?_⟩
    show (tupleText (PyData.shownAll (toPs ds))).length ≤ wts ds + 4
    unfold tupleText
    rw [strLen_append, strLen_append]
    have := join_up (PyData.shownAll (toPs ds))
    have e : ((if (PyData.shownAll (toPs ds)).length == 1 then ",)" else ")" : String) : Str).length ≤ 2 := by
      split <;> decide
    have e1 : (("(" : String) : Str).length = 1 := rfl
    omega
  | .lst ds, h => by
    obtain ⟨h1, h2, h3⟩ := shown_ups ds h
    refine ⟨h1, h2, ?_⟩
    show (listText (PyData.shownAll (toPs ds))).length ≤ wts ds + 4
    unfold listText
    rw [strLen_append]
    have := textFrom_up (PyData.shownAll (toPs ds)) 0 "["
    have e1 : (("[" : String) : Str).length = 1 := rfl
    have e2 : (("]" : String) : Str).length = 1 := rfl
    omega
theorem shown_ups : ∀ (ds : List D), shDs ds → isPs ds = true ∧ PyData.showableAll (toPs ds) = true ∧ piled (PyData.shownAll (toPs ds)) ≤ wts ds
  | [], _ => ⟨rfl, rfl, Nat.zero_le _⟩
  | d :: ds, h => by
    obtain ⟨a1, a2, a3⟩ := shown_up d h.1
    obtain ⟨b1, b2, b3⟩ := shown_ups ds h.2
    refine ⟨by simp [isPs, a1, b1], by simp [toPs, PyData.showableAll, a2, b2], ?_⟩
    show piled (d.toP.shown :: PyData.shownAll (toPs ds)) ≤ wt d + 2 + wts ds
    rw [piled_cons]
    omega
end
theorem reprOk_of {d : D} (h : shD d) (hw : wt d ≤ 16000000) (hd : d.toP.depth ≤ 60) : reprOk d = true := by
  obtain ⟨h1, h2, h3⟩ := shown_up d h
  have e : sizeLine = 16777216 := rfl
  unfold reprOk
  simp only [h1, h2, Bool.true_and, Bool.and_eq_true, decide_eq_true_eq]
  exact ⟨by omega, hd⟩
end FL

namespace FL
open PySem PySem.Spec PyProof.Rows L2
/-! ### the texts of webs -/
theorem e_joinl {a : Str} {ss : List Str} (h : (ss.map (·.length)).sum + ss.length * a.length ≤ 16777216) : joinD (.str a) (.lst (ss.map D.str)) = some (.str (Txt.join a ss)) := by
  unfold joinD
  simp only [strsOf_map, Option.bind_some]
  rw [if_pos h]
theorem e_joint {a : Str} {ss : List Str} (h : (ss.map (·.length)).sum + ss.length * a.length ≤ 16777216) : joinD (.str a) (.tup (ss.map D.str)) = some (.str (Txt.join a ss)) := by
  unfold joinD
  simp only [strsOf_map, Option.bind_some]
  rw [if_pos h]
theorem sum_le {ss : List Str} {n : Nat} : (∀ s ∈ ss, s.length ≤ n) → (ss.map (·.length)).sum ≤ ss.length * n := by
  induction ss with
  | nil => intro _; simp
  | cons s r ih =>
    intro h
    rw [List.map_cons, List.sum_cons, List.length_cons, Nat.succ_mul]
    have := h s List.mem_cons_self
    have := ih fun t ht => h t (List.mem_cons_of_mem _ ht)
    omega
theorem join_le {a : Str} {ss : List Str} {n : Nat} (h : ∀ s ∈ ss, s.length ≤ n) : (Txt.join a ss).length ≤ ss.length * (n + a.length) := by
  have h1 := join_len a ss
  have h2 := sum_le h
  rw [Nat.mul_add]
  omega
theorem join_fits {a : Str} {ss : List Str} {n m : Nat} (h : ∀ s ∈ ss, s.length ≤ n) (hm : ss.length ≤ m) (hz : m * (n + a.length) ≤ 16777216) : (ss.map (·.length)).sum + ss.length * a.length ≤ 16777216 := by
  have h2 := sum_le h
  have h3 : ss.length * (n + a.length) ≤ m * (n + a.length) := Nat.mul_le_mul_right _ hm
  rw [Nat.mul_add] at h3
  omega
theorem okC_joinT {a : Str} (ha : okC a) {ss : List Str} (h : ∀ s ∈ ss, okC s) : okC (Txt.join a ss) := by
  show okC (Builtin.Str.glued a ss)
  rw [StrLaws.glued_eq_join]
  exact okC_join ha ss h
theorem low_len {s : Str} (h : lowB s = true) : s.length ≤ 8 := by
  unfold lowB at h
  simp only [Bool.and_eq_true, decide_eq_true_eq] at h
  exact h.1.1
theorem low_ok {s : Str} (h : lowB s = true) : okC s := by
  unfold lowB at h
  simp only [Bool.and_eq_true, List.all_eq_true, decide_eq_true_eq] at h
  intro c hc
  have := h.2 c hc
  exact Nat.lt_of_le_of_lt this.2 (by decide)
def txtI (i : Int) : Str := Str.ofString (toString i)
theorem txtI_len {i : Int} (h : i.natAbs.log2 < 200) : (txtI i).length ≤ 201 := by
  unfold txtI
  rw [PySem.ofString_length]
  exact int_text_length_le (k := 200) (by decide) h
def tblT (ss : List Str) : Str := if 0 < ss.length then Txt.join "," ss else "-"
def numT (is : List Int) : Str := Txt.join "," (is.map txtI)
def wordT (b : Bool) : Str := if b = true then "has" else "not"
def kindT (e : Ent) : Str := Str.empty ++ "kind " ++ e.name ++ " " ++ txtI e.fee ++ " " ++ wordT e.has ++ " " ++ tblT e.row
def webT (es : List Ent) (asks : Str) : Str := Txt.join "\n" (es.map kindT ++ [Str.empty ++ "asker " ++ asks])
structure Ent.Ok (e : Ent) : Prop where
  name : lowB e.name = true
  fee : e.fee.natAbs.log2 < 200
  len : e.row.length ≤ 7
  row : ∀ x ∈ e.row, lowB x = true
theorem tblT_len {ss : List Str} (h : ss.length ≤ 7) (hs : ∀ s ∈ ss, lowB s = true) : (tblT ss).length ≤ 63 := by
  unfold tblT
  split
  · have := join_le (a := ",") (n := 8) fun s m => low_len (hs s m)
    have e : (("," : String) : Str).length = 1 := rfl
    rw [e] at this
    have : ss.length * 9 ≤ 7 * 9 := Nat.mul_le_mul_right _ h
    omega
  · decide
theorem tblT_ok {ss : List Str} (hs : ∀ s ∈ ss, lowB s = true) : okC (tblT ss) := by
  unfold tblT
  split
  · exact okC_joinT (okC_of _) fun s m => low_ok (hs s m)
  · exact okC_of _
theorem word_len (b : Bool) : (wordT b).length = 3 := by cases b <;> rfl
theorem word_ok (b : Bool) : okC (wordT b) := by cases b <;> exact okC_of _
theorem kindT_len {e : Ent} (h : e.Ok) : (kindT e).length ≤ 300 := by
  have h1 := low_len h.name
  have h2 := txtI_len h.fee
  have h3 := tblT_len h.len h.row
  have h4 := word_len e.has
  unfold kindT
  simp only [strLen_append]
  have e1 : (("kind " : String) : Str).length = 5 := rfl
  have e2 : ((" " : String) : Str).length = 1 := rfl
  have e3 : Str.empty.length = 0 := rfl
  omega
theorem okC_empty : okC Str.empty := fun c hc => by simp [Str.empty] at hc
theorem kindT_ok {e : Ent} (h : e.Ok) : okC (kindT e) :=
  okC_app (okC_app (okC_app (okC_app (okC_app (okC_app (okC_app (okC_app okC_empty (okC_of _)) (low_ok h.name)) (okC_of _)) (okC_of _)) (okC_of _)) (word_ok _)) (okC_of _)) (tblT_ok h.row)
theorem askT_len {s : Str} (h : lowB s = true) : (Str.empty ++ "asker " ++ s).length ≤ 300 := by
  have h1 := low_len h
  simp only [strLen_append]
  have e1 : (("asker " : String) : Str).length = 6 := rfl
  have e3 : Str.empty.length = 0 := rfl
  omega
theorem lines_len {es : List Ent} {asks : Str} (h : ∀ e ∈ es, e.Ok) (ha : lowB asks = true) : ∀ s ∈ es.map kindT ++ [Str.empty ++ "asker " ++ asks], s.length ≤ 300 ∧ okC s := by
  intro s hs
  rcases List.mem_append.mp hs with m | m
  · obtain ⟨e, he, rfl⟩ := List.mem_map.mp m
    exact ⟨kindT_len (h e he), kindT_ok (h e he)⟩
  · rw [List.mem_singleton.mp m]
    exact ⟨askT_len ha, okC_app (okC_app okC_empty (okC_of _)) (low_ok ha)⟩
theorem webT_len {es : List Ent} {asks : Str} (hl : es.length ≤ 20) (h : ∀ e ∈ es, e.Ok) (ha : lowB asks = true) : (webT es asks).length ≤ 10000 ∧ okC (webT es asks) := by
  have q := lines_len h ha
  refine ⟨?_, okC_joinT (okC_of _) fun s m => (q s m).2⟩
  have h1 := join_le (a := "\n") (n := 300) fun s m => (q s m).1
  have e : (("\n" : String) : Str).length = 1 := rfl
  rw [e, List.length_append, List.length_map, List.length_singleton] at h1
  have : (es.length + 1) * (300 + 1) ≤ 21 * (300 + 1) := Nat.mul_le_mul_right _ (by omega)
  unfold webT
  omega
theorem numT_len {is : List Int} (hl : is.length ≤ 20) (h : ∀ i ∈ is, i.natAbs.log2 < 200) : (numT is).length ≤ 10000 ∧ okC (numT is) := by
  have q : ∀ s ∈ is.map txtI, s.length ≤ 201 ∧ okC s := by
    intro s hs
    obtain ⟨i, hi, rfl⟩ := List.mem_map.mp hs
    exact ⟨txtI_len (h i hi), okC_of _⟩
  refine ⟨?_, okC_joinT (okC_of _) fun s m => (q s m).2⟩
  have h1 := join_le (a := ",") (n := 201) fun s m => (q s m).1
  have e : (("," : String) : Str).length = 1 := rfl
  rw [e, List.length_map] at h1
  have : is.length * (201 + 1) ≤ 20 * (201 + 1) := Nat.mul_le_mul_right _ hl
  unfold numT
  omega
/-- the same line by joining -/
theorem line_eq (e : Ent) : Txt.join " " ["kind", e.name, txtI e.fee, wordT e.has, tblT e.row] = kindT e := by
  show Builtin.Str.glued _ _ = _
  rw [StrLaws.glued_eq_join]
  show ("kind" : Str) ++ " " ++ (e.name ++ " " ++ (txtI e.fee ++ " " ++ (wordT e.has ++ " " ++ tblT e.row))) = _
  unfold kindT
  have e1 : (("kind " : String) : Str) = ("kind" : Str) ++ (" " : Str) := by decide +kernel
  rw [e1]
  simp only [Str.append_assoc, Str.empty_append]
end FL

namespace FL
open PySem PySem.Spec PyProof.Rows L2
/-! ### forms of values -/
theorem i_int_non : isiD .int .non = some false := rfl
theorem i_int_bl {b : Bool} : isiD .int (.bl b) = some true := rfl
theorem i_int_int {b : Int} : isiD .int (.int b) = some true := rfl
theorem i_int_str {b : Str} : isiD .int (.str b) = some false := rfl
theorem i_int_tup {b : List D} : isiD .int (.tup b) = some false := rfl
theorem i_int_lst {b : List D} : isiD .int (.lst b) = some false := rfl
theorem i_bool_non : isiD .bool .non = some false := rfl
theorem i_bool_bl {b : Bool} : isiD .bool (.bl b) = some true := rfl
theorem i_bool_int {b : Int} : isiD .bool (.int b) = some false := rfl
theorem i_bool_str {b : Str} : isiD .bool (.str b) = some false := rfl
theorem i_bool_tup {b : List D} : isiD .bool (.tup b) = some false := rfl
theorem i_bool_lst {b : List D} : isiD .bool (.lst b) = some false := rfl
theorem i_str_non : isiD .str .non = some false := rfl
theorem i_str_bl {b : Bool} : isiD .str (.bl b) = some false := rfl
theorem i_str_int {b : Int} : isiD .str (.int b) = some false := rfl
theorem i_str_str {b : Str} : isiD .str (.str b) = some true := rfl
theorem i_str_tup {b : List D} : isiD .str (.tup b) = some false := rfl
theorem i_str_lst {b : List D} : isiD .str (.lst b) = some false := rfl
theorem i_tuple_non : isiD .tuple .non = some false := rfl
theorem i_tuple_bl {b : Bool} : isiD .tuple (.bl b) = some false := rfl
theorem i_tuple_int {b : Int} : isiD .tuple (.int b) = some false := rfl
theorem i_tuple_str {b : Str} : isiD .tuple (.str b) = some false := rfl
theorem i_tuple_tup {b : List D} : isiD .tuple (.tup b) = some true := rfl
theorem i_tuple_lst {b : List D} : isiD .tuple (.lst b) = some false := rfl
theorem i_list_non : isiD .list .non = some false := rfl
theorem i_list_bl {b : Bool} : isiD .list (.bl b) = some false := rfl
theorem i_list_int {b : Int} : isiD .list (.int b) = some false := rfl
theorem i_list_str {b : Str} : isiD .list (.str b) = some false := rfl
theorem i_list_tup {b : List D} : isiD .list (.tup b) = some false := rfl
theorem i_list_lst {b : List D} : isiD .list (.lst b) = some true := rfl
theorem t0 {α : Type} {x : α} {l : List α} : atI (x :: l) 0 = some x := atI_nat (j := 0) rfl
theorem t1 {α : Type} {x y : α} {l : List α} : atI (x :: y :: l) 1 = some y := atI_nat (j := 1) rfl
theorem t2 {α : Type} {x y z : α} {l : List α} : atI (x :: y :: z :: l) 2 = some z := atI_nat (j := 2) rfl
theorem t3 {α : Type} {x y z u : α} {l : List α} : atI (x :: y :: z :: u :: l) 3 = some u := atI_nat (j := 3) rfl
theorem rs_sh {S : Sto} {d : D} (h : shD d) : rs S d = d := by
  cases d with
  | loc a => exact h.elim
  | _ => rfl
def LET : Str := "abcdefghijklmnopqrstuvwxyz"
/-- is this sign a letter -/
def inL (c : Nat) : Bool := !(Builtin.Str.occurrences LET ⟨#[c]⟩ 0 LET.length 1).isEmpty
def nameS (s : Str) : Bool := decide (1 ≤ s.length ∧ s.length ≤ 8) && s.cps.toList.all inL
def isNam : D → Bool
  | .str s => nameS s
  | _ => false
def isInt : D → Bool
  | .int _ => true
  | _ => false
def isNum : D → Bool
  | .int i => decide (0 ≤ i)
  | _ => false
def isCnt : D → Bool
  | .int i => decide (1 ≤ i)
  | _ => false
def isBlD : D → Bool
  | .bl _ => true
  | _ => false
def tupOf (d : D) (n : Int) : Bool := match d with
  | .tup xs => decide ((xs.length : Int) = n)
  | _ => false
def ltP : D → Bool
  | .tup [.str a, .str b] => strLt a b
  | _ => false
def rise (xs : List D) : Bool := (zipD xs (xs.drop 1)).all ltP
def isTbl : D → Bool
  | .tup ds => ds.all isNam && rise ds
  | _ => false
def isKnd : D → Bool
  | .tup [n, f, h, t] => isNam n && isCnt f && isBlD h && isTbl t
  | _ => false
def isSto : D → Bool
  | .tup [n, i] => isNam n && isNum i
  | _ => false
def isLet : D → Bool
  | .tup [a, b] => isSto a && isSto b
  | _ => false
def isEvt : D → Bool
  | .tup [.str w, a, b] => decide (w = "came") && (isSto a && isSto b)
  | .tup [.str w, a] => (decide (w = "guard") && (match a with | .str g => inD (.str g) [.str "on", .str "off"] | _ => false)) || (decide (w = "note") && isNam a)
  | _ => false
theorem tup4 {d : D} (h : tupOf d 4 = true) : ∃ a b c e, d = .tup [a, b, c, e] := by
  cases d with
  | tup xs =>
    have h1 : (xs.length : Int) = 4 := of_decide_eq_true h
    match xs, h1 with
    | [a, b, c, e], _ => exact ⟨a, b, c, e, rfl⟩
    | [], h => simp only [List.length_nil] at h; omega
    | [_], h => simp only [List.length_cons, List.length_nil] at h; omega
    | [_, _], h => simp only [List.length_cons, List.length_nil] at h; omega
    | [_, _, _], h => simp only [List.length_cons, List.length_nil] at h; omega
    | _ :: _ :: _ :: _ :: _ :: r, h =>
      simp only [List.length_cons] at h
      omega
  | _ => exact absurd h Bool.false_ne_true
theorem tup2 {d : D} (h : tupOf d 2 = true) : ∃ a b, d = .tup [a, b] := by
  cases d with
  | tup xs =>
    have h1 : (xs.length : Int) = 2 := of_decide_eq_true h
    match xs, h1 with
    | [a, b], _ => exact ⟨a, b, rfl⟩
    | [], h => simp only [List.length_nil] at h; omega
    | [_], h => simp only [List.length_cons, List.length_nil] at h; omega
    | _ :: _ :: _ :: r, h =>
      simp only [List.length_cons] at h
      omega
  | _ => exact absurd h Bool.false_ne_true
theorem isKnd_not {d : D} (h : tupOf d 4 = false) : isKnd d = false := by
  unfold isKnd
  split
  · cases h
  · rfl
theorem isSto_not {d : D} (h : tupOf d 2 = false) : isSto d = false := by
  unfold isSto
  split
  · cases h
  · rfl
theorem isLet_not {d : D} (h : tupOf d 2 = false) : isLet d = false := by
  unfold isLet
  split
  · cases h
  · rfl
theorem e_all {bs : List Bool} : biD .all [.lst (bs.map D.bl)] = some (.bl (bs.all id)) := by
  have h : ∀ l : List Bool, bools (l.map D.bl) = some l := by
    intro l
    induction l with
    | nil => rfl
    | cons b r ih => simp [bools, ih]
  unfold biD
  simp only [h]
  rfl
theorem e_ltS {a b : Str} : cmpD .Lt (.str a) (.str b) = some (strLt a b) := rfl
theorem e_leS {a b : Str} : cmpD .LtE (.str a) (.str b) = some (!strLt b a) := rfl
theorem e_inS {a b : Str} : cmpD .In (.str a) (.str b) = some (!(Builtin.Str.occurrences b a 0 b.length 1).isEmpty) := rfl
theorem e_ninS {a b : Str} : cmpD .NotIn (.str a) (.str b) = some ((Builtin.Str.occurrences b a 0 b.length 1).isEmpty) := rfl
theorem e_inT {x : D} {ds : List D} (h : flatD x = true ∧ ds.all flatD = true) : cmpD .In x (.tup ds) = some (inD x ds) := by
  simp only [cmpD, h.1, h.2, Bool.and_self, if_true]
theorem e_inLs {x : D} {ds : List D} (h : flatD x = true ∧ ds.all flatD = true) : cmpD .In x (.lst ds) = some (inD x ds) := by
  simp only [cmpD, h.1, h.2, Bool.and_self, if_true]
theorem e_ninT {x : D} {ds : List D} (h : flatD x = true ∧ ds.all flatD = true) : cmpD .NotIn x (.tup ds) = some (!inD x ds) := by
  simp only [cmpD, h.1, h.2, Bool.and_self, if_true]
theorem e_ninLs {x : D} {ds : List D} (h : flatD x = true ∧ ds.all flatD = true) : cmpD .NotIn x (.lst ds) = some (!inD x ds) := by
  simp only [cmpD, h.1, h.2, Bool.and_self, if_true]
def isNon : D → Bool
  | .non => true
  | _ => false
theorem e_isN {d : D} : cmpD .Is d .non = some (isNon d) := by cases d <;> rfl
theorem e_isNN {d : D} : cmpD .IsNot d .non = some (!isNon d) := by cases d <;> rfl
theorem e_sqS {s : Str} : seqD (.str s) = some (sgnD s) := rfl
theorem sh_tup {xs : List D} (h : shD (.tup xs)) {x : D} (hx : x ∈ xs) : shD x := shDs_iff.mp h x hx
end FL

namespace FL
open PySem PySem.Spec PyProof.Rows L2
/-! ### plain items, bounded -/
def Pl (W k : Nat) (d : D) : Prop := shD d ∧ wt d ≤ W ∧ d.toP.depth ≤ k
def plD (d : D) : Prop := Pl 16000000 60 d
theorem Pl.mono {W k W' k' : Nat} {d : D} (h : Pl W k d) (h1 : W ≤ W') (h2 : k ≤ k') : Pl W' k' d := ⟨h.1, Nat.le_trans h.2.1 h1, Nat.le_trans h.2.2 h2⟩
theorem wts_mem : ∀ {xs : List D} {x : D}, x ∈ xs → wt x + 2 ≤ wts xs
  | y :: ys, x, h => by
    show wt x + 2 ≤ wt y + 2 + wts ys
    rcases List.mem_cons.mp h with rfl | h
    · omega
    · have := wts_mem (xs := ys) h
      omega
theorem dep_iff : ∀ {xs : List D} {k : Nat}, PyData.depthAll (toPs xs) ≤ k ↔ ∀ x ∈ xs, x.toP.depth ≤ k
  | [], k => by simp [toPs, PyData.depthAll]
  | y :: ys, k => by
    have ih := dep_iff (xs := ys) (k := k)
    simp only [toPs, PyData.depthAll, Nat.max_le, ih, List.mem_cons, forall_eq_or_imp]
theorem wts_app : ∀ (xs ys : List D), wts (xs ++ ys) = wts xs + wts ys
  | [], ys => by simp [wts]
  | x :: xs, ys => by
    show wt x + 2 + wts (xs ++ ys) = wt x + 2 + wts xs + wts ys
    rw [wts_app xs ys]
    omega
theorem len_wts : ∀ xs : List D, 2 * xs.length ≤ wts xs
  | [] => Nat.zero_le _
  | x :: xs => by
    show 2 * (xs.length + 1) ≤ wt x + 2 + wts xs
    have := len_wts xs
    omega
theorem dep_tup {xs : List D} : (D.tup xs).toP.depth = PyData.depthAll (toPs xs) + 1 := by
  simp [D.toP, PyData.depth]
theorem dep_lst {xs : List D} : (D.lst xs).toP.depth = PyData.depthAll (toPs xs) + 1 := by
  simp [D.toP, PyData.depth]
theorem Pl.mem {W k : Nat} {xs : List D} (h : Pl W (k + 1) (.tup xs)) {x : D} (hx : x ∈ xs) : Pl W k x := by
  obtain ⟨h1, h2, h3⟩ := h
  refine ⟨sh_tup h1 hx, ?_, ?_⟩
  · have e : wt (D.tup xs) = wts xs + 4 := by simp [wt]
    have := wts_mem hx
    omega
  · rw [dep_tup] at h3
    exact dep_iff.mp (Nat.le_of_succ_le_succ h3) x hx
theorem pl_mem {xs : List D} (h : plD (.tup xs)) {x : D} (hx : x ∈ xs) : plD x := (Pl.mem (k := 59) h hx).mono (Nat.le_refl _) (by decide)
theorem pl_len {xs : List D} (h : plD (.tup xs)) : xs.length ≤ 8000000 := by
  have h2 := h.2.1
  have e : wt (D.tup xs) = wts xs + 4 := by simp [wt]
  have := len_wts xs
  omega
mutual
theorem lay_of : ∀ (d : D), shD d → d.toP.canLay0 = true
  | .non, _ => rfl
  | .bl b, _ => rfl
  | .int i, h => rfl
  | .str s, h => by
    show (s.cps.all fun c => decide (c < 0x110000)) = true
    rw [← Array.all_toList]
    exact List.all_eq_true.mpr fun c hc => decide_eq_true (h c hc)
  | .tup ds, h => lay_ofs ds h
  | .lst ds, h => lay_ofs ds h
theorem lay_ofs : ∀ (ds : List D), shDs ds → PyData.canLayAll0 (toPs ds) = true
  | [], _ => rfl
  | d :: ds, h => by
    have a := lay_of d h.1
    have b := lay_ofs ds h.2
    simp [toPs, PyData.canLayAll0, a, b]
end
theorem okEq_of {d : D} (h : shD d) (hd : d.toP.depth ≤ 64) : okEq d = true := by
  unfold okEq SeqAt.shaped
  rw [(shown_up d h).1, lay_of d h, decide_eq_true hd]
  rfl
theorem okEq_sub {xs ys : List D} (h : plD (.tup xs)) (hy : ∀ y ∈ ys, y ∈ xs) : okEq (.lst ys) = true := by
  refine okEq_of (shDs_iff.mpr fun y m => sh_tup h.1 (hy y m)) ?_
  rw [dep_lst]
  have h3 := h.2.2
  rw [dep_tup] at h3
  have : PyData.depthAll (toPs ys) ≤ 59 := dep_iff.mpr fun y m => dep_iff.mp (Nat.le_of_succ_le_succ h3) y (hy y m)
  omega
theorem eqD_nil (ys : List D) : eqD (.lst ys) (.lst []) = ys.isEmpty := by
  cases ys with
  | nil => rfl
  | cons y ys => rfl
theorem e_eqN {ys : List D} (h : okEq (.lst ys) = true) : cmpD .Eq (.lst ys) (.lst []) = some ys.isEmpty := by
  rw [e_eql ⟨h, ok_nil⟩, eqD_nil]
theorem e_neN {ys : List D} (h : okEq (.lst ys) = true) : cmpD .NotEq (.lst ys) (.lst []) = some (!ys.isEmpty) := by
  rw [e_nel ⟨h, ok_nil⟩, eqD_nil]
theorem filter_empty {α : Type} (p : α → Bool) (l : List α) : (l.filter p).isEmpty = l.all fun x => !p x := by
  induction l with
  | nil => rfl
  | cons x l ih =>
    rw [List.filter_cons, List.all_cons]
    cases h : p x with
    | true => simp
    | false => simpa using ih
/-- a comprehension with a test -/
theorem comp_filter {te : En → Sto → (D → Sto → Prop) → Prop} {tt : En → Sto → (Bool → Sto → Prop) → Prop} {t : CT} {r : En} {Q : List D → Sto → Prop} {S : Sto} {α : Type} (g : α → D) (f : α → D) (p : α → Bool) (l : List α)
    (h : ∀ d ∈ l, ∀ (acc : List D) (k : List D → Sto → Prop), (if p d = true then k (acc ++ [f d]) S else k acc S) → bindT t (g d) r fun r1 => tt r1 S fun b S1 => if b = true then te r1 S1 fun y S2 => k (acc ++ [y]) S2 else k acc S1) (hq : Q ((l.filter p).map f) S) : compLoop te tt t r Q (l.map g) [] S := by
  have : ∀ (l : List α) (acc : List D), (∀ d ∈ l, ∀ (acc : List D) (k : List D → Sto → Prop), (if p d = true then k (acc ++ [f d]) S else k acc S) → bindT t (g d) r fun r1 => tt r1 S fun b S1 => if b = true then te r1 S1 fun y S2 => k (acc ++ [y]) S2 else k acc S1) → Q (acc ++ (l.filter p).map f) S → compLoop te tt t r Q (l.map g) acc S := by
    intro l
    induction l with
    | nil => intro acc _ hq; simpa [compLoop] using hq
    | cons d l ih =>
      intro acc h hq
      refine h d List.mem_cons_self acc (fun acc S => compLoop te tt t r Q (l.map g) acc S) ?_
      have h' := fun d' hd => h d' (List.mem_cons_of_mem _ hd)
      cases hp : p d with
      | true =>
        rw [if_pos rfl]
        exact ih _ h' (by simpa [List.filter_cons, hp] using hq)
      | false =>
        rw [if_neg Bool.false_ne_true]
        exact ih _ h' (by simpa [List.filter_cons, hp] using hq)
  exact this l [] h (by simpa using hq)
theorem comp_filt {te : En → Sto → (D → Sto → Prop) → Prop} {tt : En → Sto → (Bool → Sto → Prop) → Prop} {t : CT} {r : En} {Q : List D → Sto → Prop} {S : Sto} (f : D → D) (p : D → Bool) (l : List D)
    (h : ∀ d ∈ l, ∀ (acc : List D) (k : List D → Sto → Prop), (if p d = true then k (acc ++ [f d]) S else k acc S) → bindT t d r fun r1 => tt r1 S fun b S1 => if b = true then te r1 S1 fun y S2 => k (acc ++ [y]) S2 else k acc S1) (hq : Q ((l.filter p).map f) S) : compLoop te tt t r Q l [] S := by
  have := comp_filter (te := te) (tt := tt) (t := t) (r := r) (Q := Q) (S := S) id f p l h hq
  rwa [List.map_id] at this
theorem enum_get : ∀ (ds : List D) (k i : Nat), (enumD ds k)[i]? = (ds[i]?).map fun d => D.tup [.int ((k + i : Nat) : Int), d]
  | [], k, i => by simp [enumD]
  | d :: ds, k, 0 => by simp [enumD]
  | d :: ds, k, i + 1 => by
    have := enum_get ds (k + 1) i
    simp only [enumD, List.getElem?_cons_succ, this]
    rw [show k + 1 + i = k + (i + 1) by omega]
theorem enum_len : ∀ (ds : List D) (k : Nat), (enumD ds k).length = ds.length
  | [], k => rfl
  | d :: ds, k => by
    show (enumD ds (k + 1)).length + 1 = _
    rw [enum_len ds (k + 1)]
    rfl
/-! ### webs by form -/
def nmD : D → D
  | .tup (n :: _) => n
  | _ => .non
def nmS : D → Str
  | .tup (.str s :: _) => s
  | _ => Str.empty
def tblD : D → List D
  | .tup [_, _, _, .tup ts] => ts
  | _ => []
def hasD : D → Bool
  | .tup [_, _, .bl h, _] => h
  | _ => false
def rf : Str → List D → Bool
  | _, [] => true
  | b, k :: r => isKnd k && strLt b (nmS k) && rf (nmS k) r
def tbOk (ns : List D) (k : D) : Bool := (tblD k).all fun t => inD t ns
def tbIn (ks : List D) : Bool := ks.all (tbOk (ks.map nmD))
def askrs (ks : List D) : List D := (ks.filter fun k => !hasD k).map nmD
def webOk : D → Bool
  | .tup [.tup ks, a] => (rf Str.empty ks && tbIn ks) && (isNam a && inD a (askrs ks))
  | _ => false
/-- None just if it is right -/
def FltD (b : Bool) (d : D) : Prop := (b = true ∧ d = .non) ∨ (b = false ∧ ∃ w i, d = .tup [.str w, .int i])
theorem knd_parts {k : D} (h : isKnd k = true) : ∃ (n : Str) (f : Int) (b : Bool) (ts : List D), k = .tup [.str n, .int f, .bl b, .tup ts] ∧ nameS n = true ∧ ts.all isNam = true := by
  unfold isKnd at h
  split at h
  · rename_i n f b t
    simp only [Bool.and_eq_true] at h
    obtain ⟨⟨⟨h1, h2⟩, h3⟩, h4⟩ := h
    cases n with
    | str n =>
      cases f with
      | int f =>
        cases b with
        | bl b =>
          cases t with
          | tup ts =>
            have h5 : (ts.all isNam && rise ts) = true := h4
            rw [Bool.and_eq_true] at h5
            exact ⟨n, f, b, ts, rfl, h1, h5.1⟩
          | _ => exact absurd h4 Bool.false_ne_true
        | _ => exact absurd h3 Bool.false_ne_true
      | _ => exact absurd h2 Bool.false_ne_true
    | _ => exact absurd h1 Bool.false_ne_true
  · cases h
theorem rf_knd : ∀ {b : Str} {ks : List D}, rf b ks = true → ∀ k ∈ ks, isKnd k = true
  | b, [], _, k, h => by cases h
  | b, x :: xs, h, k, hk => by
    have h1 : (isKnd x && strLt b (nmS x) && rf (nmS x) xs) = true := h
    simp only [Bool.and_eq_true] at h1
    rcases List.mem_cons.mp hk with rfl | hk
    · exact h1.1.1
    · exact rf_knd h1.2 k hk
theorem nam_flat {d : D} (h : isNam d = true) : flatD d = true := by
  cases d with
  | str s => rfl
  | _ => exact absurd h Bool.false_ne_true
theorem names_nam {ks : List D} (h : ∀ k ∈ ks, isKnd k = true) : ∀ x ∈ ks.map nmD, isNam x = true := by
  intro x hx
  obtain ⟨k, hk, rfl⟩ := List.mem_map.mp hx
  obtain ⟨n, f, b, ts, rfl, h1, _⟩ := knd_parts (h k hk)
  exact h1
theorem all_flat {xs : List D} (h : ∀ x ∈ xs, isNam x = true) : xs.all flatD = true := List.all_eq_true.mpr fun x hx => nam_flat (h x hx)
theorem eqD_str {a b : Str} : eqD (.str a) (.str b) = true → a = b := by
  intro h
  have h1 : (a == b) = true := h
  exact eq_of_beq h1
theorem in_nam {xs : List D} {s : Str} (hx : ∀ x ∈ xs, isNam x = true) (h : inD (.str s) xs = true) : nameS s = true := by
  unfold inD at h
  obtain ⟨y, hy, e⟩ := List.any_eq_true.mp h
  have h1 := hx y hy
  cases y with
  | str t =>
    rw [← eqD_str e]
    exact h1
  | _ => exact absurd h1 Bool.false_ne_true
theorem lt_empty {s : Str} (h : nameS s = true) : strLt Str.empty s = true := by
  unfold nameS at h
  simp only [Bool.and_eq_true, decide_eq_true_eq] at h
  obtain ⟨⟨h1, _⟩, _⟩ := h
  unfold strLt
  rw [decide_eq_true_eq]
  have e : s.length = s.cps.toList.length := by simp [Str.length]
  rw [e] at h1
  cases hc : s.cps.toList with
  | nil => rw [hc] at h1; simp at h1
  | cons c l =>
    show ([] : List Nat) < c :: l
    exact List.nil_lt_cons c l
theorem rise_range : ∀ ss : List Str, rise (ss.map D.str) = (List.range (ss.length - 1)).all fun k => strLt (ss.getD k Str.empty) (ss.getD (k + 1) Str.empty)
  | [] => rfl
  | [a] => rfl
  | a :: b :: r => by
    have ih := rise_range (b :: r)
    show (strLt a b && rise ((b :: r).map D.str)) = (List.range (r.length + 1)).all _
    rw [List.range_succ_eq_map, List.all_cons, List.all_map, ih]
    rfl
theorem nams_map : ∀ {xs : List D}, xs.all isNam = true → ∃ ss : List Str, xs = ss.map D.str
  | [], _ => ⟨[], rfl⟩
  | x :: xs, h => by
    rw [List.all_cons, Bool.and_eq_true] at h
    obtain ⟨ss, e⟩ := nams_map h.2
    cases x with
    | str s => exact ⟨s :: ss, by rw [e]; rfl⟩
    | _ => exact absurd h.1 Bool.false_ne_true
/-! ### written lists -/
mutual
/-- the value of a written expression -/
def cV : CE → Option D
  | .cst c => cstD c
  | .tup es => match cVs es with
    | some ds => if ds.length ≤ sizeLine then some (.tup ds) else none
    | none => none
  | .lst es => match cVs es with
    | some ds => if ds.length ≤ sizeLine then some (.lst ds) else none
    | none => none
  | .neg e => match cV e with
    | some (.int i) => some (.int (-i))
    | _ => none
  | .bin op a b => match cV a, cV b with
    | some x, some y => binD op x y
    | _, _ => none
  | _ => none
def cVs : CEs → Option (List D)
  | .nil => some []
  | .cons e r => match cV e, cVs r with
    | some x, some xs => some (x :: xs)
    | _, _ => none
  | _ => none
end
theorem cst_rs {c : Const} {d : D} {S : Sto} (h : cstD c = some d) : rs S d = d := by
  cases c <;> simp [cstD] at h
  all_goals first | (subst h; rfl) | (obtain ⟨_, h⟩ := h; subst h; rfl)
theorem bin_rs {op : Operator} {x y d : D} {S : Sto} (h : binD op x y = some d) : rs S d = d := by
  unfold binD at h
  split at h <;> first
    | (cases h; done)
    | (cases h; rfl)
    | (split at h <;> first | (cases h; done) | (cases h; rfl))
mutual
theorem cV_rs : ∀ {e : CE} {d : D} {S : Sto}, cV e = some d → rs S d = d
  | .cst c, d, S, h => cst_rs h
  | .tup es, d, S, h => by
    unfold cV at h
    split at h
    · split at h
      · cases h; rfl
      · cases h
    · cases h
  | .lst es, d, S, h => by
    unfold cV at h
    split at h
    · split at h
      · cases h; rfl
      · cases h
    · cases h
  | .neg e, d, S, h => by
    unfold cV at h
    split at h
    · cases h; rfl
    · cases h
  | .bin op a b, d, S, h => by
    unfold cV at h
    split at h
    · exact bin_rs h
    · cases h
  | .var _, d, S, h | .glb _, d, S, h | .dct _ _, d, S, h | .nt _, d, S, h | .cmp _ _ _, d, S, h | .ch _ _ _ _ _, d, S, h | .and _, d, S, h | .or _, d, S, h | .ite _ _ _, d, S, h | .sub _ _, d, S, h | .dget _ _, d, S, h | .sl _ _ _, d, S, h | .rv _, d, S, h | .call _ _, d, S, h | .callk _ _ _ _, d, S, h | .bi _ _, d, S, h | .isi _ _, d, S, h | .join _ _, d, S, h | .fs _, d, S, h | .fv _, d, S, h | .comp _ _ _ _ _, d, S, h | .app _ _, d, S, h | .frz _, d, S, h | .live _, d, S, h => by
    unfold cV at h
    cases h
end
mutual
theorem we_c {G : Ctx} {R : XP} : ∀ {e : CE} {d : D} {r : En} {S : Sto} {Q : D → Sto → Prop}, cV e = some d → Q d S → WE G R e r S Q
  | .cst c, d, r, S, Q, h, hq => by
    have h1 : cstD c = some d := by simpa [cV] using h
    unfold WE
    rw [h1]
    exact hq
  | .tup es, d, r, S, Q, h, hq => by
    unfold cV at h
    split at h
    · rename_i ds e
      split at h
      · rename_i hl
        cases h
        unfold WE
        exact we_cs e ⟨hl, hq⟩
      · cases h
    · cases h
  | .lst es, d, r, S, Q, h, hq => by
    unfold cV at h
    split at h
    · rename_i ds e
      split at h
      · rename_i hl
        cases h
        unfold WE
        exact we_cs e ⟨hl, hq⟩
      · cases h
    · cases h
  | .neg e, d, r, S, Q, h, hq => by
    unfold cV at h
    split at h
    · rename_i i e1
      cases h
      unfold WE
      exact we_c e1 hq
    · cases h
  | .bin op a b, d, r, S, Q, h, hq => by
    unfold cV at h
    split at h
    · rename_i x y e1 e2
      unfold WE
      refine we_c e1 (we_c e2 ?_)
      rw [cV_rs e1, cV_rs e2, h]
      exact hq
    · cases h
  | .var _, d, r, S, Q, h, hq | .glb _, d, r, S, Q, h, hq | .dct _ _, d, r, S, Q, h, hq | .nt _, d, r, S, Q, h, hq | .cmp _ _ _, d, r, S, Q, h, hq | .ch _ _ _ _ _, d, r, S, Q, h, hq | .and _, d, r, S, Q, h, hq | .or _, d, r, S, Q, h, hq | .ite _ _ _, d, r, S, Q, h, hq | .sub _ _, d, r, S, Q, h, hq | .dget _ _, d, r, S, Q, h, hq | .sl _ _ _, d, r, S, Q, h, hq | .rv _, d, r, S, Q, h, hq | .call _ _, d, r, S, Q, h, hq | .callk _ _ _ _, d, r, S, Q, h, hq | .bi _ _, d, r, S, Q, h, hq | .isi _ _, d, r, S, Q, h, hq | .join _ _, d, r, S, Q, h, hq | .fs _, d, r, S, Q, h, hq | .fv _, d, r, S, Q, h, hq | .comp _ _ _ _ _, d, r, S, Q, h, hq | .app _ _, d, r, S, Q, h, hq | .frz _, d, r, S, Q, h, hq | .live _, d, r, S, Q, h, hq => by
    unfold cV at h
    cases h
theorem we_cs {G : Ctx} {R : XP} : ∀ {es : CEs} {ds : List D} {r : En} {S : Sto} {Q : List D → Sto → Prop}, cVs es = some ds → Q ds S → WEs G R es r S Q
  | .nil, ds, r, S, Q, h, hq => by
    unfold cVs at h
    cases h
    unfold WEs
    exact hq
  | .cons e es, ds, r, S, Q, h, hq => by
    unfold cVs at h
    split at h
    · rename_i x xs e1 e2
      cases h
      unfold WEs
      exact we_c e1 (we_cs e2 hq)
    · cases h
  | .star _ _, ds, r, S, Q, h, hq => by
    unfold cVs at h
    cases h
end
mutual
def shB : D → Bool
  | .non => true | .bl _ => true | .int i => decide (i.natAbs.log2 < 1920) | .str s => s.cps.toList.all fun c => decide (c < 1114112)
  | .tup ds => shBs ds | .lst ds => shBs ds | .lsf _ => false | .loc _ => false
def shBs : List D → Bool
  | [] => true
  | d :: ds => shB d && shBs ds
end
mutual
theorem sh_of : ∀ {d : D}, shB d = true → shD d
  | .non, _ => trivial
  | .bl _, _ => trivial
  | .int i, h => show i.natAbs.log2 < 1920 from of_decide_eq_true h
  | .str s, h => fun c hc => of_decide_eq_true (List.all_eq_true.mp h c hc)
  | .tup ds, h => sh_ofs (ds := ds) h
  | .lst ds, h => sh_ofs (ds := ds) h
theorem sh_ofs : ∀ {ds : List D}, shBs ds = true → shDs ds
  | [], _ => trivial
  | d :: ds, h => by
    have h1 : (shB d && shBs ds) = true := h
    rw [Bool.and_eq_true] at h1
    exact ⟨sh_of h1.1, sh_ofs h1.2⟩
end
def plB (W k : Nat) (d : D) : Bool := shB d && (decide (wt d ≤ W) && decide (d.toP.depth ≤ k))
theorem pl_of {W k : Nat} {d : D} (h : plB W k d = true) : Pl W k d := by
  unfold plB at h
  simp only [Bool.and_eq_true, decide_eq_true_eq] at h
  exact ⟨sh_of h.1, h.2⟩
/-- a written list of plain items -/
def chk (W k n : Nat) (e : CE) : Bool := match cV e with
  | some (.lst ys) => ys.all (plB W k) && decide (ys.length ≤ n ∧ 0 < ys.length)
  | _ => false
def AllP (W k : Nat) (xs : List D) (n : Nat) : Prop := (∀ x ∈ xs, Pl W k x) ∧ xs.length ≤ n ∧ 0 < xs.length
theorem chk_of {W k n : Nat} {e : CE} (h : chk W k n e = true) : ∃ ys, cV e = some (.lst ys) ∧ AllP W k ys n := by
  unfold chk at h
  split at h
  · rename_i ys e1
    rw [Bool.and_eq_true, decide_eq_true_eq] at h
    exact ⟨ys, e1, fun x hx => pl_of (List.all_eq_true.mp h.1 x hx), h.2⟩
  · cases h
theorem AllP.app {W k n m : Nat} {xs ys : List D} (h : AllP W k xs n) (g : AllP W k ys m) : AllP W k (xs ++ ys) (n + m) := by
  refine ⟨fun x hx => ?_, by rw [List.length_append]; exact ⟨Nat.add_le_add h.2.1 g.2.1, Nat.lt_of_lt_of_le h.2.2 (Nat.le_add_right _ _)⟩⟩
  rcases List.mem_append.mp hx with z | z
  · exact h.1 x z
  · exact g.1 x z
theorem set_c {G : Ctx} {R : XP} {W k n : Nat} {e : CE} {i : Nat} {ss : CSs} {r : En} {S : Sto} {Z : Out} (he : chk W k n e = true) (kk : ∀ zs, AllP W k zs n → WSs G R ss (r.set i (some (.lst zs))) S Z) : WSs G R (.cons (.set (.nm i) e) ss) r S Z := by
  obtain ⟨ys, e1, hy⟩ := chk_of he
  rw [WSs, WS]
  exact we_c e1 (kk ys hy)
theorem add_c {G : Ctx} {R : XP} {W k n m : Nat} {e : CE} {i : Nat} {r : En} {S : Sto} {Q : D → Sto → Prop} {d : D} {xs : List D} (hr : r[i]? = some (some d)) (hd : rs S d = .lst xs) (hx : AllP W k xs m) (hm : m ≤ 1000) (hn : n ≤ 1000) (he : chk W k n e = true) (kk : ∀ zs, AllP W k zs (m + n) → Q (.lst zs) S) : WE G R (.bin .Add (.var i) e) r S Q := by
  obtain ⟨ys, e1, hy⟩ := chk_of he
  simp only [WE, hr]
  refine we_c e1 ?_
  rw [hd, e_rs_lst, e_addl (sz_small (by have := hx.2.1; have := hy.2.1; omega))]
  exact kk _ (hx.app hy)
theorem set_add {G : Ctx} {R : XP} {W k n m : Nat} {e : CE} {i : Nat} {ss : CSs} {r : En} {S : Sto} {Z : Out} {d : D} {xs : List D} (hr : r[i]? = some (some d)) (hd : rs S d = .lst xs) (hx : AllP W k xs m) (hm : m ≤ 1000) (hn : n ≤ 1000) (he : chk W k n e = true) (kk : ∀ zs, AllP W k zs (m + n) → WSs G R ss (r.set i (some (.lst zs))) S Z) : WSs G R (.cons (.set (.nm i) (.bin .Add (.var i) e)) ss) r S Z := by
  rw [WSs, WS]
  exact add_c hr hd hx hm hn he kk
theorem set_live {G : Ctx} {R : XP} {W k n m : Nat} {e : CE} {i : Nat} {ss : CSs} {r : En} {S : Sto} {Z : Out} {d : D} {xs : List D} (hr : r[i]? = some (some d)) (hd : rs S d = .lst xs) (hx : AllP W k xs m) (hm : m ≤ 1000) (hn : n ≤ 1000) (he : chk W k n e = true) (kk : ∀ zs a, AllP W k zs (m + n) → S a = none → WSs G R ss (r.set i (some (.loc a))) (S.put a (.lst zs)) Z) : WSs G R (.cons (.set (.nm i) (.live (.bin .Add (.var i) e))) ss) r S Z := by
  rw [WSs, WS, WE]
  exact add_c hr hd hx hm hn he fun zs hz a ha => kk zs a hz ha
def chk1 (W k : Nat) (e : CE) : Bool := match cV e with
  | some d => plB W k d
  | _ => false
theorem app_c {G : Ctx} {R : XP} {W k m : Nat} {e : CE} {i : Nat} {ss : CSs} {r : En} {S : Sto} {Z : Out} {a : Addr} {xs : List D} (hr : r[i]? = some (some (.loc a))) (hd : S a = some (.lst xs)) (hx : AllP W k xs m) (hm : m ≤ 1000) (he : chk1 W k e = true) (kk : ∀ zs, AllP W k zs (m + 1) → WSs G R ss r (S.put a (.lst zs)) Z) : WSs G R (.cons (.ex (.app (.var i) e)) ss) r S Z := by
  unfold chk1 at he
  split at he
  · rename_i d e1
    simp only [WSs, WS, WE, hr, hd]
    refine we_c e1 ?_
    simp only [hd]
    refine ⟨by have := hx.2.1; omega, kk _ ⟨fun x h => ?_, ?_, ?_⟩⟩
    · rcases List.mem_append.mp h with z | z
      · exact hx.1 x z
      · rw [List.mem_singleton.mp z]
        exact pl_of he
    · rw [List.length_append]
      exact Nat.add_le_add_right hx.2.1 1
    · rw [List.length_append]
      exact Nat.lt_of_lt_of_le hx.2.2 (Nat.le_add_right _ _)
  · cases he
/-! ### cuts of tuples -/
theorem cut_to (xs : List D) (j : Nat) : cutD xs none (some (j : Int)) = xs.take j := by
  unfold cutD
  rw [HT.sIx_nat, HT.sIx_none, List.drop_zero, Nat.sub_zero]
  by_cases h : j ≤ xs.length
  · rw [Nat.min_eq_left h]
  · rw [Nat.min_eq_right (by omega), List.take_of_length_le (Nat.le_refl _), List.take_of_length_le (by omega)]
theorem cut_from (xs : List D) (j : Nat) : cutD xs (some (j : Int)) none = xs.drop j := by
  unfold cutD
  rw [HT.sIx_nat, HT.sIx_none]
  by_cases h : j ≤ xs.length
  · rw [Nat.min_eq_left h, List.take_of_length_le (by rw [List.length_drop]; exact Nat.le_refl _)]
  · rw [Nat.min_eq_right (by omega), List.drop_of_length_le (Nat.le_refl _), List.drop_of_length_le (by omega), List.take_nil]
theorem cut_mid (xs : List D) (j : Nat) (h : j ≤ xs.length) : cutD xs (some (j : Int)) (some ((j + 1 : Nat) : Int)) = (xs.drop j).take 1 := by
  unfold cutD
  rw [HT.sIx_nat, HT.sIx_nat, Nat.min_eq_left h]
  by_cases h2 : j + 1 ≤ xs.length
  · rw [Nat.min_eq_left h2, show j + 1 - j = 1 by omega]
  · have e : xs.drop j = [] := List.drop_of_length_le (by omega)
    rw [e]
    simp
theorem wts_drop (xs : List D) (j : Nat) : wts (xs.drop j) ≤ wts xs := by
  have h := congrArg wts (List.take_append_drop j xs)
  rw [wts_app] at h
  omega
theorem wts_take (xs : List D) (j : Nat) : wts (xs.take j) ≤ wts xs := by
  have h := congrArg wts (List.take_append_drop j xs)
  rw [wts_app] at h
  omega
theorem wts_split (xs : List D) (j : Nat) : wts (xs.take j) + wts (xs.drop j) = wts xs := by
  rw [← wts_app, List.take_append_drop]
theorem wts_rev : ∀ xs : List D, wts xs.reverse = wts xs
  | [] => rfl
  | x :: xs => by
    rw [List.reverse_cons, wts_app, wts_rev xs]
    show wts xs + (wt x + 2 + 0) = wt x + 2 + wts xs
    omega
theorem res_tup {W k : Nat} {xs zs : List D} (hp : Pl W (k + 1) (.tup xs)) (hm : ∀ z ∈ zs, z ∈ xs ∨ (shD z ∧ z.toP.depth ≤ k + 3)) (hw : wts zs ≤ 2 * wts xs + 504) : Pl (2 * W + 500) (k + 1 + 3) (.tup zs) := by
  have h2 := hp.2.1
  have e : wt (D.tup xs) = wts xs + 4 := by simp [wt]
  refine ⟨shDs_iff.mpr fun z hz => ?_, ?_, ?_⟩
  · rcases hm z hz with q | q
    · exact sh_tup hp.1 q
    · exact q.1
  · show wts zs + 4 ≤ _
    omega
  · rw [dep_tup]
    have : PyData.depthAll (toPs zs) ≤ k + 3 := dep_iff.mpr fun z hz => by
      rcases hm z hz with q | q
      · have := (hp.mem q).2.2
        omega
      · exact q.2
    omega
theorem okC_cut {s : Str} (h : okC s) (lo hi : Option Int) : okC (cutS s lo hi) := by
  intro c hc
  unfold cutS at hc
  rw [List.toList_toArray] at hc
  exact h c (List.mem_of_mem_drop (List.mem_of_mem_take hc))
theorem e_sls {s : Str} {l h : Option Int} : slD (.str s) l h = some (.str (cutS s l h)) := rfl
theorem e_intb {b : Bool} : biD .int1 [.bl b] = some (.int (if b = true then 1 else 0)) := rfl
end FL

namespace FL
open PySem PySem.Spec PyProof.Rows L2
/-! ### drawn webs can be shown -/
theorem labels_low : ∀ p < 4, ∀ f < 7, ∀ st < 6, ∀ m < 8, (labelsP p f st m).all lowB = true := by decide +kernel
theorem lab_low {p f st m : Nat} (hp : p < 4) (hf : f < 7) (hst : st < 6) (hm : m < 8) : ∀ s ∈ labelsP p f st m, lowB s = true := List.all_eq_true.mp (labels_low p hp f hf st hst m hm)
theorem fees_small : ∀ i ∈ feesL, i.natAbs.log2 < 200 := by decide +kernel
theorem sh_row : ∀ {xs : List Str}, (∀ x ∈ xs, lowB x = true) → shDs (xs.map D.str) ∧ wts (xs.map D.str) ≤ xs.length * 84 ∧ PyData.depthAll (toPs (xs.map D.str)) = 0
  | [], _ => ⟨trivial, Nat.zero_le _, rfl⟩
  | x :: xs, h => by
    obtain ⟨h1, h2, h3⟩ := sh_row (xs := xs) fun y hy => h y (List.mem_cons_of_mem _ hy)
    have g := h x List.mem_cons_self
    have g1 := low_len g
    refine ⟨⟨low_ok g, h1⟩, ?_, ?_⟩
    · show (10 * x.length + 2) + 2 + wts (xs.map D.str) ≤ (xs.length + 1) * 84
      rw [Nat.succ_mul]
      omega
    · show max 0 (PyData.depthAll (toPs (xs.map D.str))) = 0
      rw [h3]
      rfl
theorem sh_ent {e : Ent} (h : e.Ok) : shD e.d ∧ wt e.d ≤ 1000 ∧ e.d.toP.depth ≤ 2 := by
  obtain ⟨h1, h2, h3⟩ := sh_row h.row
  have g1 := low_len h.name
  have g2 := h.fee
  have g3 : e.row.length * 84 ≤ 7 * 84 := Nat.mul_le_mul_right _ h.len
  refine ⟨⟨low_ok h.name, Nat.lt_trans h.fee (by decide), trivial, h1, trivial⟩, ?_, ?_⟩
  · show ((10 * e.name.length + 2) + 2 + ((e.fee.natAbs.log2 + 3) + 2 + (8 + 2 + ((wts (e.row.map D.str) + 4) + 2 + 0)))) + 4 ≤ 1000
    omega
  · show max 0 (max 0 (max 0 (max (PyData.depthAll (toPs (e.row.map D.str)) + 1) 0))) + 1 ≤ 2
    rw [h3]
    decide
theorem sh_ents : ∀ {es : List Ent}, (∀ e ∈ es, e.Ok) → shDs (es.map Ent.d) ∧ wts (es.map Ent.d) ≤ es.length * 1002 ∧ PyData.depthAll (toPs (es.map Ent.d)) ≤ 2
  | [], _ => ⟨trivial, Nat.zero_le _, Nat.zero_le _⟩
  | e :: es, h => by
    obtain ⟨h1, h2, h3⟩ := sh_ents (es := es) fun y hy => h y (List.mem_cons_of_mem _ hy)
    obtain ⟨g1, g2, g3⟩ := sh_ent (h e List.mem_cons_self)
    refine ⟨⟨g1, h1⟩, ?_, ?_⟩
    · show wt e.d + 2 + wts (es.map Ent.d) ≤ (es.length + 1) * 1002
      rw [Nat.succ_mul]
      omega
    · show max e.d.toP.depth (PyData.depthAll (toPs (es.map Ent.d))) ≤ 2
      omega
theorem sh_web {es : List Ent} {asks : Str} (hl : es.length ≤ 20) (h : ∀ e ∈ es, e.Ok) (ha : lowB asks = true) : shD (webD es asks) ∧ wt (webD es asks) ≤ 30000 ∧ (webD es asks).toP.depth ≤ 4 := by
  obtain ⟨h1, h2, h3⟩ := sh_ents h
  have g1 := low_len ha
  have g3 : es.length * 1002 ≤ 20 * 1002 := Nat.mul_le_mul_right _ hl
  refine ⟨⟨h1, low_ok ha, trivial⟩, ?_, ?_⟩
  · show ((wts (es.map Ent.d) + 4) + 2 + ((10 * asks.length + 2) + 2 + 0)) + 4 ≤ 30000
    omega
  · show max (PyData.depthAll (toPs (es.map Ent.d)) + 1) (max 0 0) + 1 ≤ 4
    omega
theorem cut_mem {α : Type} (f : α → D) (l : List α) (lo hi : Option Int) : ∃ l' : List α, cutD (l.map f) lo hi = l'.map f ∧ l'.length ≤ l.length ∧ ∀ x ∈ l', x ∈ l := by
  unfold cutD
  refine ⟨_, by rw [← List.map_drop, ← List.map_take], ?_, fun x hx => List.mem_of_mem_drop (List.mem_of_mem_take hx)⟩
  rw [List.length_take, List.length_drop]
  omega
theorem in_ok {e : Ent} {ss : List Str} {asks : Str} (h : e.In ss asks) (hn : e.name ∈ ss) (hs : ∀ s ∈ ss, lowB s = true) (hl : ss.length ≤ 7) : e.Ok :=
  ⟨hs _ hn, fees_small _ h.fee, Nat.le_trans h.row.length_le hl, fun x hx => hs x (h.row.subset hx)⟩
theorem skip_rule {te : En → Sto → (D → Sto → Prop) → Prop} {tt : En → Sto → (Bool → Sto → Prop) → Prop} {t : CT} {r : En} {Q : List D → Sto → Prop} {S : Sto} : ∀ (ds acc : List D),
    (∀ d ∈ ds, ∀ (acc : List D) (k : List D → Sto → Prop), k acc S → bindT t d r fun r1 => tt r1 S fun b S1 => if b = true then te r1 S1 fun y S2 => k (acc ++ [y]) S2 else k acc S1) → Q acc S → compLoop te tt t r Q ds acc S
  | [], acc, _, hq => hq
  | d :: ds, acc, h, hq => h d List.mem_cons_self acc (fun acc S => compLoop te tt t r Q ds acc S) (skip_rule ds acc (fun d' hd => h d' (List.mem_cons_of_mem _ hd)) hq)
end FL

namespace FL
open PySem PySem.Spec PyProof.Rows L2
/-! ### the first fault of a web -/
def kf1 : Str → Nat → List D → Option Nat
  | _, _, [] => none
  | b, i, k :: r => if (isKnd k && strLt b (nmS k)) = true then kf1 (nmS k) (i + 1) r else some i
def tf1 (ns : List D) : Nat → List D → Option Nat
  | _, [] => none
  | i, k :: r => if tbOk ns k = true then tf1 ns (i + 1) r else some i
def kfault (ks : List D) : Option (Str × Int) := match kf1 Str.empty 0 ks with
  | some i => some ("kind", (i : Int))
  | none => match tf1 (ks.map nmD) 0 ks with
    | some i => some ("table", (i : Int))
    | none => none
def wfault : D → Option (Str × Int)
  | .tup [.tup ks, a] => match kfault ks with
    | some f => some f
    | none => if (isNam a && inD a (askrs ks)) = true then none else some ("asker", -1)
  | _ => some ("shape", -1)
def fD : Option (Str × Int) → D
  | none => .non
  | some (w, i) => .tup [.str w, .int i]
theorem fD_rs {f : Option (Str × Int)} {S : Sto} : rs S (fD f) = fD f := by
  cases f with
  | none => rfl
  | some p => rfl
theorem fD_non {f : Option (Str × Int)} : isNon (fD f) = f.isNone := by
  cases f with
  | none => rfl
  | some p => rfl
theorem kf1_knd : ∀ {b : Str} {i : Nat} {ks : List D}, kf1 b i ks = none → ∀ k ∈ ks, isKnd k = true
  | b, i, [], _, k, h => by cases h
  | b, i, x :: xs, h, k, hk => by
    unfold kf1 at h
    split at h
    · rename_i e
      rw [Bool.and_eq_true] at e
      rcases List.mem_cons.mp hk with rfl | hk
      · exact e.1
      · exact kf1_knd h k hk
    · cases h
theorem wfault_not {d : D} (h : tupOf d 2 = false) : wfault d = (some ("shape", -1) : Option (Str × Int)) := by
  unfold wfault
  split
  · cases h
  · rfl
/-- a web that is right, by parts -/
theorem wf_none {d : D} (h : wfault d = none) : ∃ ks a, d = .tup [.tup ks, a] ∧ ∀ k ∈ ks, isKnd k = true := by
  unfold wfault at h
  split at h
  · rename_i ks a
    refine ⟨ks, a, rfl, ?_⟩
    split at h
    · cases h
    · rename_i e
      unfold kfault at e
      split at e
      · cases e
      · rename_i e1
        exact kf1_knd e1
  · cases h
/-- how many names all tables have -/
def tbSum : D → Int
  | .tup [.tup ks, _] => (ks.map fun k => ((tblD k).length : Int)).sum
  | _ => 0
theorem intsOf_map : ∀ is : List Int, intsOf (is.map D.int) = some is
  | [] => rfl
  | s :: ss => by simp [intsOf, intsOf_map ss]
theorem e_sumL {is : List Int} : biD .sum [.lst (is.map D.int)] = some (.int is.sum) := by
  unfold biD
  simp only [intsOf_map]
  rfl
theorem kf1_lt : ∀ {b : Str} {i j : Nat} {ks : List D}, kf1 b i ks = some j → j < i + ks.length
  | b, i, j, [], h => by cases h
  | b, i, j, k :: r, h => by
    unfold kf1 at h
    split at h
    · have := kf1_lt h
      rw [List.length_cons]
      omega
    · cases h
      rw [List.length_cons]
      omega
theorem tf1_lt {ns : List D} : ∀ {i j : Nat} {ks : List D}, tf1 ns i ks = some j → j < i + ks.length
  | i, j, [], h => by cases h
  | i, j, k :: r, h => by
    unfold tf1 at h
    split at h
    · have := tf1_lt h
      rw [List.length_cons]
      omega
    · cases h
      rw [List.length_cons]
      omega
theorem wf_words {d : D} {w : Str} {i : Int} (hd : plD d) (h : wfault d = some (w, i)) : okC w ∧ w.length ≤ 10 ∧ i.natAbs ≤ 8000000 := by
  have key : ∀ s : String, s.length ≤ 10 → okC (Str.ofString s) ∧ (Str.ofString s).length ≤ 10 := fun s hs => ⟨okC_of s, by rw [PySem.ofString_length]; exact hs⟩
  unfold wfault at h
  split at h
  · rename_i ks a
    have hl := pl_len (pl_mem hd (x := .tup ks) (by simp))
    split at h
    · rename_i f e
      cases h
      unfold kfault at e
      split at e
      · rename_i j e1
        cases e
        have := kf1_lt e1
        exact ⟨(key "kind" (by decide)).1, (key "kind" (by decide)).2, by omega⟩
      · split at e
        · rename_i j e1
          cases e
          have := tf1_lt e1
          exact ⟨(key "table" (by decide)).1, (key "table" (by decide)).2, by omega⟩
        · cases e
    · split at h
      · cases h
      · cases h
        exact ⟨(key "asker" (by decide)).1, (key "asker" (by decide)).2, by decide⟩
  · cases h
    exact ⟨(key "shape" (by decide)).1, (key "shape" (by decide)).2, by decide⟩
end FL

namespace FL
open PySem PySem.Spec PyProof.Rows L2
/-! ### written lists over named constants -/
def noLoc : D → Bool
  | .loc _ => false
  | _ => true
theorem noLoc_rs {d : D} {S : Sto} (h : noLoc d = true) : rs S d = d := by
  cases d with
  | loc a => cases h
  | _ => rfl
mutual
def cW (r : En) : CE → Option D
  | .var i => match r[i]? with
    | some (some d) => if noLoc d = true then some d else none
    | _ => none
  | .cst c => cstD c
  | .tup es => match cWs r es with
    | some ds => if ds.length ≤ sizeLine then some (.tup ds) else none
    | none => none
  | .lst es => match cWs r es with
    | some ds => if ds.length ≤ sizeLine then some (.lst ds) else none
    | none => none
  | .neg e => match cW r e with
    | some (.int i) => some (.int (-i))
    | _ => none
  | .bin op a b => match cW r a, cW r b with
    | some x, some y => binD op x y
    | _, _ => none
  | .bi b (.cons e .nil) => match cW r e with
    | some x => if b = .list then biD .list [x] else none
    | none => none
  | _ => none
def cWs (r : En) : CEs → Option (List D)
  | .nil => some []
  | .cons e es => match cW r e, cWs r es with
    | some x, some xs => some (x :: xs)
    | _, _ => none
  | _ => none
end
theorem list_rs {x d : D} {S : Sto} (h : biD .list [x] = some d) : rs S d = d := by
  cases x with
  | lst ds => cases h; rfl
  | tup ds => cases h; rfl
  | _ => cases h
theorem cW_rs {r : En} : ∀ {e : CE} {d : D} {S : Sto}, cW r e = some d → rs S d = d
  | .var i, d, S, h => by
    unfold cW at h
    split at h
    · split at h
      · rename_i hn
        cases h
        exact noLoc_rs hn
      · cases h
    · cases h
  | .cst c, d, S, h => cst_rs (by simpa [cW] using h)
  | .tup es, d, S, h => by
    unfold cW at h
    split at h
    · split at h
      · cases h; rfl
      · cases h
    · cases h
  | .lst es, d, S, h => by
    unfold cW at h
    split at h
    · split at h
      · cases h; rfl
      · cases h
    · cases h
  | .neg e, d, S, h => by
    unfold cW at h
    split at h
    · cases h; rfl
    · cases h
  | .bin op a b, d, S, h => by
    unfold cW at h
    split at h
    · exact bin_rs h
    · cases h
  | .bi b (.cons e .nil), d, S, h => by
    unfold cW at h
    split at h
    · split at h
      · exact list_rs h
      · cases h
    · cases h
mutual
theorem we_w {G : Ctx} {R : XP} {r0 r : En} (hr : ∀ (i : Nat) (d : D), r0[i]? = some (some d) → r[i]? = some (some d)) : ∀ {e : CE} {d : D} {S : Sto} {Q : D → Sto → Prop}, cW r0 e = some d → Q d S → WE G R e r S Q
  | .var i, d, S, Q, h, hq => by
    unfold cW at h
    split at h
    · rename_i d0 e0
      split at h
      · cases h
        unfold WE
        rw [hr _ _ e0]
        exact hq
      · cases h
    · cases h
  | .cst c, d, S, Q, h, hq => by
    have h1 : cstD c = some d := by simpa [cW] using h
    unfold WE
    rw [h1]
    exact hq
  | .tup es, d, S, Q, h, hq => by
    unfold cW at h
    split at h
    · rename_i ds e
      split at h
      · rename_i hl
        cases h
        unfold WE
        exact we_ws hr e ⟨hl, hq⟩
      · cases h
    · cases h
  | .lst es, d, S, Q, h, hq => by
    unfold cW at h
    split at h
    · rename_i ds e
      split at h
      · rename_i hl
        cases h
        unfold WE
        exact we_ws hr e ⟨hl, hq⟩
      · cases h
    · cases h
  | .neg e, d, S, Q, h, hq => by
    unfold cW at h
    split at h
    · rename_i i e1
      cases h
      unfold WE
      exact we_w hr e1 hq
    · cases h
  | .bin op a b, d, S, Q, h, hq => by
    unfold cW at h
    split at h
    · rename_i x y e1 e2
      unfold WE
      refine we_w hr e1 (we_w hr e2 ?_)
      rw [cW_rs e1, cW_rs e2, h]
      exact hq
    · cases h
  | .bi b (.cons e .nil), d, S, Q, h, hq => by
    unfold cW at h
    split at h
    · rename_i x e1
      split at h
      · rename_i hb
        subst hb
        unfold WE
        refine we_ws (es := .cons e .nil) (ds := [x]) hr ?_ ?_
        · simp only [cWs, e1]
        · simp only [List.map_cons, List.map_nil, cW_rs e1, h]
          exact hq
      · cases h
    · cases h
theorem we_ws {G : Ctx} {R : XP} {r0 r : En} (hr : ∀ (i : Nat) (d : D), r0[i]? = some (some d) → r[i]? = some (some d)) : ∀ {es : CEs} {ds : List D} {S : Sto} {Q : List D → Sto → Prop}, cWs r0 es = some ds → Q ds S → WEs G R es r S Q
  | .nil, ds, S, Q, h, hq => by
    unfold cWs at h
    cases h
    unfold WEs
    exact hq
  | .cons e es, ds, S, Q, h, hq => by
    unfold cWs at h
    split at h
    · rename_i x xs e1 e2
      cases h
      unfold WEs
      exact we_w hr e1 (we_ws hr e2 hq)
    · cases h
end
def chkW (r : En) (W k n : Nat) (e : CE) : Bool := match cW r e with
  | some (.lst ys) => ys.all (plB W k) && decide (ys.length ≤ n ∧ 0 < ys.length)
  | _ => false
theorem chkW_of {r : En} {W k n : Nat} {e : CE} (h : chkW r W k n e = true) : ∃ ys, cW r e = some (.lst ys) ∧ AllP W k ys n := by
  unfold chkW at h
  split at h
  · rename_i ys e1
    rw [Bool.and_eq_true, decide_eq_true_eq] at h
    exact ⟨ys, e1, fun x hx => pl_of (List.all_eq_true.mp h.1 x hx), h.2⟩
  · cases h
theorem setW {G : Ctx} {R : XP} {r0 : En} {W k n : Nat} {e : CE} {i : Nat} {ss : CSs} {r : En} {S : Sto} {Z : Out} (hr : ∀ (i : Nat) (d : D), r0[i]? = some (some d) → r[i]? = some (some d)) (he : chkW r0 W k n e = true) (kk : ∀ zs, AllP W k zs n → WSs G R ss (r.set i (some (.lst zs))) S Z) : WSs G R (.cons (.set (.nm i) e) ss) r S Z := by
  obtain ⟨ys, e1, hy⟩ := chkW_of he
  rw [WSs, WS]
  exact we_w hr e1 (kk ys hy)
theorem addW {G : Ctx} {R : XP} {r0 : En} {W k n m : Nat} {e : CE} {i : Nat} {r : En} {S : Sto} {Q : D → Sto → Prop} {xs : List D} (hi : r[i]? = some (some (.lst xs))) (hr : ∀ (i : Nat) (d : D), r0[i]? = some (some d) → r[i]? = some (some d)) (hx : AllP W k xs m) (hm : m ≤ 1000) (hn : n ≤ 1000) (he : chkW r0 W k n e = true) (kk : ∀ zs, AllP W k zs (m + n) → Q (.lst zs) S) : WE G R (.bin .Add (.var i) e) r S Q := by
  obtain ⟨ys, e1, hy⟩ := chkW_of he
  simp only [WE, hi]
  refine we_w hr e1 ?_
  rw [e_rs_lst, e_rs_lst, e_addl (sz_small (by have := hx.2.1; have := hy.2.1; omega))]
  exact kk _ (hx.app hy)
theorem set_addW {G : Ctx} {R : XP} {r0 : En} {W k n m : Nat} {e : CE} {i : Nat} {ss : CSs} {r : En} {S : Sto} {Z : Out} {xs : List D} (hi : r[i]? = some (some (.lst xs))) (hr : ∀ (i : Nat) (d : D), r0[i]? = some (some d) → r[i]? = some (some d)) (hx : AllP W k xs m) (hm : m ≤ 1000) (hn : n ≤ 1000) (he : chkW r0 W k n e = true) (kk : ∀ zs, AllP W k zs (m + n) → WSs G R ss (r.set i (some (.lst zs))) S Z) : WSs G R (.cons (.set (.nm i) (.bin .Add (.var i) e)) ss) r S Z := by
  rw [WSs, WS]
  exact addW hi hr hx hm hn he kk
end FL

namespace FL
open PySem PySem.Spec PyProof.Rows L2
/-! ### the parts of webs: what these defs of the program promise -/
structure Wb (es : List Ent) : Prop where
  ok : ∀ e ∈ es, e.Ok
  nd : (es.map Ent.name).Nodup
  len : es.length ≤ 20
def knD (es : List Ent) : D → Bool
  | .str s => (es.map Ent.name).contains s
  | _ => false
def kbK (es : List Ent) : List (Key × D) := es.map fun e => (Sum.inr e.name, e.d)
def nuX (w : Str) (i : Int) : Exn := ⟨"NotUsable", [("at", .int i), ("word", .str w)]⟩
def spNames : Spec := fun ds S Q _ => ∃ es asks, ds = [webD es asks] ∧ Wb es ∧ Q (.tup (es.map fun e => .str e.name)) S
def spKbn : Spec := fun ds S Q _ => ∃ es asks, ds = [webD es asks] ∧ Wb es ∧ ∀ a S', S a = none → S' = S.put a (.dK (kbK es)) → Q (.loc a) S'
def spReq : Spec := fun ds S Q R => ∃ b w i, ds = [.bl b, .str w, .int i] ∧ (b = true → Q .non S) ∧ (b = false → R (nuX w i) S)
def spNam : Spec := fun ds S Q _ => ∃ d, ds = [d] ∧ shD d ∧ Q (.bl (isNam d)) S
def spNameOf : Spec := fun ds S Q _ => ∃ es asks d, ds = [webD es asks, d] ∧ Wb es ∧ shD d ∧ Q (.bl (knD es d)) S
def spReqK : Spec := fun ds S Q R => ∃ es asks d w, ds = [webD es asks, d, .str w] ∧ Wb es ∧ shD d ∧ (knD es d = true → Q .non S) ∧ (knD es d = false → R (nuX w (-1)) S)
def spPart (f : List Ent → Ent → D) : Spec := fun ds S Q R => ∃ es asks d, ds = [webD es asks, d] ∧ Wb es ∧ shD d ∧ (∀ e ∈ es, d = .str e.name → Q (f es e) S) ∧ (knD es d = false → R (nuX "kind" (-1)) S)
def spSilent : Spec := fun ds S Q _ => ∃ es asks e, ds = [webD es asks, .str e.name] ∧ Wb es ∧ e ∈ es ∧ Q (.bl e.has) S
def sendD (es : List Ent) (e : Ent) : D := .tup ((es.filter fun x => x.row.contains e.name).map fun x => .str x.name)
/-! plain facts -/
theorem e_rs_put {S : Sto} {a : Addr} {ds : List D} : rs (S.put a (.lst ds)) (.loc a) = .lst ds := e_rs_loc (put_same _ _ _)
theorem put_le {S : Sto} {a : Addr} {o : O} (h : S a = none) : Le S (S.put a o) := fun b x hb => by
  by_cases e : b = a
  · subst e
    rw [h] at hb
    cases hb
  · rw [put_ne _ _ e, hb]
theorem kb_put {done : List Ent} {n : Str} {d : D} (h : n ∉ done.map Ent.name) : putK (kbK done) (Sum.inr n) d = kbK done ++ [(Sum.inr n, d)] := by
  unfold putK
  rw [if_neg]
  intro z
  obtain ⟨p, hp, e⟩ := List.any_eq_true.mp z
  obtain ⟨x, hx, rfl⟩ := List.mem_map.mp hp
  have e2 : (Sum.inr x.name : Key) = Sum.inr n := of_decide_eq_true e
  cases e2
  exact h (List.mem_map.mpr ⟨x, hx, rfl⟩)
theorem kb_rule {tk tv : En → Sto → (D → Sto → Prop) → Prop} {tt : En → Sto → (Bool → Sto → Prop) → Prop} {t : CT} {r : En} {Q : List (Key × D) → Sto → Prop} {S : Sto} : ∀ (es done : List Ent), ((done ++ es).map Ent.name).Nodup →
    (∀ e ∈ es, ∀ (acc : List (Key × D)) (k : List (Key × D) → Sto → Prop), k (putK acc (Sum.inr e.name) e.d) S → bindT t e.d r fun r1 => tt r1 S fun b S1 => if b = true then tk r1 S1 fun y S2 => tv r1 S2 fun z S3 => match y with
        | .str kk => k (putK acc (Sum.inr kk) z) S3
        | _ => False
      else k acc S1) → Q (kbK (done ++ es)) S → dcompLoop tk tv tt t r Q (es.map Ent.d) (kbK done) S
  | [], done, _, _, hq => by
    rw [List.append_nil] at hq
    exact hq
  | e :: es, done, nd, h, hq => by
    rw [List.map_cons, dcompLoop]
    refine h e List.mem_cons_self (kbK done) (fun acc S => dcompLoop tk tv tt t r Q (es.map Ent.d) acc S) ?_
    have hn : e.name ∉ done.map Ent.name := fun z => by
      rw [List.map_append, List.map_cons, List.nodup_append] at nd
      exact nd.2.2 _ z _ List.mem_cons_self rfl
    rw [kb_put hn]
    have e1 : kbK done ++ [(Sum.inr e.name, e.d)] = kbK (done ++ [e]) := by unfold kbK; rw [List.map_append]; rfl
    rw [e1]
    exact kb_rule es (done ++ [e]) (by rw [List.append_assoc]; exact nd) (fun x hx => h x (List.mem_cons_of_mem _ hx)) (by rw [List.append_assoc]; exact hq)
theorem kb_get {es : List Ent} (nd : (es.map Ent.name).Nodup) {e : Ent} (he : e ∈ es) : getK (kbK es) (Sum.inr e.name) = some e.d := by
  unfold getK kbK
  induction es with
  | nil => cases he
  | cons x r ih =>
    rw [List.map_cons, List.find?_cons]
    rw [List.map_cons, List.nodup_cons] at nd
    by_cases hx : x.name = e.name
    · have e1 : decide ((Sum.inr x.name : Key) = Sum.inr e.name) = true := by rw [hx]; simp
      rw [e1]
      cases he with
      | head => rfl
      | tail _ m => exact absurd (List.mem_map.mpr ⟨e, m, hx.symm⟩) nd.1
    · have e1 : decide ((Sum.inr x.name : Key) = Sum.inr e.name) = false := decide_eq_false fun z => hx (Sum.inr.inj z)
      rw [e1]
      cases he with
      | head => exact absurd rfl hx
      | tail _ m => exact ih nd.2 m
theorem kb_has {es : List Ent} {s : Str} : (getK (kbK es) (Sum.inr s)).isSome = (es.map Ent.name).contains s := by
  unfold getK kbK
  rw [Option.isSome_map, List.isSome_find?, List.any_map, List.contains_eq_any_beq, List.any_map]
  congr 1
  funext x
  show decide ((Sum.inr x.name : Key) = Sum.inr s) = (s == x.name)
  by_cases h : x.name = s
  · rw [h]; simp
  · rw [decide_eq_false fun z => h (Sum.inr.inj z)]
    symm
    exact beq_eq_false_iff_ne.mpr fun z => h z.symm
theorem kn_of {es : List Ent} {d : D} (h : knD es d = true) : ∃ e ∈ es, d = .str e.name := by
  unfold knD at h
  split at h
  · rename_i s
    obtain ⟨e, he, rfl⟩ := List.mem_map.mp (List.contains_iff_mem.mp h)
    exact ⟨e, he, rfl⟩
  · cases h
theorem kn_mem {es : List Ent} {e : Ent} (h : e ∈ es) : knD es (.str e.name) = true := List.contains_iff_mem.mpr (List.mem_map.mpr ⟨e, h, rfl⟩)
theorem inL_low : ∀ c < 123, 97 ≤ c → inL c = true := by decide +kernel
theorem Wb.eq {es : List Ent} (hw : Wb es) {e x : Ent} (he : e ∈ es) (hx : x ∈ es) (h1 : e.name = x.name) : x = e := by
  have g1 := kb_get hw.nd he
  have g2 := kb_get hw.nd hx
  rw [← h1, g1] at g2
  have g3 : e.d = x.d := Option.some.inj g2
  cases e with
  | mk a b c r =>
    cases x with
    | mk a' b' c' r' =>
      simp only [Ent.d, D.tup.injEq, List.cons.injEq, D.str.injEq, D.int.injEq, D.bl.injEq, and_true] at g3
      obtain ⟨q1, q2, q3, q4⟩ := g3
      have q5 : r = r' := (List.map_inj_right (fun _ _ z => by cases z; rfl)).mp q4
      rw [q1, q2, q3, q5]
theorem frz_le {S S' : Sto} {b : Addr} {o : O} (h : Le S S') (hb : S' b = none) : Le S (fun c => if c = b then none else S'.put b o c) := fun c x hc => by
  have hc' := h c x hc
  by_cases e : c = b
  · subst e
    rw [hb] at hc'
    cases hc'
  · show (if c = b then none else S'.put b o c) = some x
    rw [if_neg e, put_ne _ _ e, hc']
theorem low_nameS {s : Str} (h : lowB s = true) : nameS s = true := by
  unfold lowB at h
  simp only [Bool.and_eq_true, List.all_eq_true, decide_eq_true_eq] at h
  unfold nameS
  simp only [Bool.and_eq_true, List.all_eq_true, decide_eq_true_eq]
  exact ⟨⟨h.1.2, h.1.1⟩, fun c hc => inL_low c (Nat.lt_succ_of_le (h.2 c hc).2) (h.2 c hc).1⟩
theorem kn_nam {es : List Ent} (hw : Wb es) {d : D} (h : isNam d = false) : knD es d = false := by
  cases hk : knD es d with
  | false => rfl
  | true =>
    obtain ⟨e, he, rfl⟩ := kn_of hk
    have : nameS e.name = true := low_nameS (hw.ok e he).name
    rw [show isNam (.str e.name) = nameS e.name from rfl, this] at h
    cases h
theorem in_row {s : Str} {row : List Str} : inD (.str s) (row.map D.str) = row.contains s := by
  unfold inD
  rw [List.any_map, List.contains_eq_any_beq]
  congr 1
  funext x
  show eqD (.str x) (.str s) = (s == x)
  have : eqD (.str x) (.str s) = decide (x = s) := rfl
  rw [this]
  by_cases h : x = s
  · rw [h]; simp
  · rw [decide_eq_false h]
    symm
    exact beq_eq_false_iff_ne.mpr fun z => h z.symm
theorem row_flat {row : List Str} : (row.map D.str).all flatD = true := by
  rw [List.all_map, List.all_eq_true]
  exact fun _ _ => rfl
theorem ent_at0 {e : Ent} : atI ([.str e.name, .int e.fee, .bl e.has, .tup (e.row.map D.str)] : List D) 0 = some (.str e.name) := rfl
theorem ent_rsd {S : Sto} {e : Ent} : rs S e.d = .tup [.str e.name, .int e.fee, .bl e.has, .tup (e.row.map D.str)] := rfl
theorem ents_len {es : List Ent} (h : Wb es) : (es.map Ent.d).length ≤ 20 := by rw [List.length_map]; exact h.len
theorem web_rs {S : Sto} {es : List Ent} {asks : Str} : rs S (webD es asks) = .tup [.tup (es.map Ent.d), .str asks] := rfl
theorem pl_str {s : Str} (h : lowB s = true) : Pl 100 0 (.str s) := ⟨low_ok h, by have := low_len h; show 10 * s.length + 2 ≤ 100; omega, Nat.le_refl _⟩
theorem pl_tp {W k : Nat} {xs : List D} (h : ∀ x ∈ xs, Pl W k x) : Pl ((W + 2) * xs.length + 4) (k + 1) (.tup xs) := by
  refine ⟨shDs_iff.mpr fun x hx => (h x hx).1, ?_, ?_⟩
  · have : ∀ ys : List D, (∀ y ∈ ys, Pl W k y) → wts ys ≤ (W + 2) * ys.length := by
      intro ys
      induction ys with
      | nil => intro _; exact Nat.zero_le _
      | cons y ys ih =>
        intro h
        have h1 := ih fun z hz => h z (List.mem_cons_of_mem _ hz)
        have h2 := (h y List.mem_cons_self).2.1
        show wt y + 2 + wts ys ≤ (W + 2) * (ys.length + 1)
        rw [Nat.mul_succ]
        omega
    have := this xs h
    show wts xs + 4 ≤ _
    omega
  · rw [dep_tup]
    exact Nat.succ_le_succ (dep_iff.mpr fun x hx => (h x hx).2.2)
theorem pl_ls {W k : Nat} {xs : List D} (h : ∀ x ∈ xs, Pl W k x) : Pl ((W + 2) * xs.length + 4) (k + 1) (.lst xs) := by
  refine ⟨shDs_iff.mpr fun x hx => (h x hx).1, ?_, ?_⟩
  · have : ∀ ys : List D, (∀ y ∈ ys, Pl W k y) → wts ys ≤ (W + 2) * ys.length := by
      intro ys
      induction ys with
      | nil => intro _; exact Nat.zero_le _
      | cons y ys ih =>
        intro h
        have h1 := ih fun z hz => h z (List.mem_cons_of_mem _ hz)
        have h2 := (h y List.mem_cons_self).2.1
        show wt y + 2 + wts ys ≤ (W + 2) * (ys.length + 1)
        rw [Nat.mul_succ]
        omega
    have := this xs h
    show wts xs + 4 ≤ _
    omega
  · rw [dep_lst]
    exact Nat.succ_le_succ (dep_iff.mpr fun x hx => (h x hx).2.2)
theorem pl_cons {W k : Nat} {x : D} {xs : List D} (hx : Pl W k x) (h : ∀ y ∈ xs, Pl W k y) : ∀ y ∈ x :: xs, Pl W k y := fun y hy => by
  rcases List.mem_cons.mp hy with rfl | q
  · exact hx
  · exact h y q
theorem pl_nil {W k : Nat} : ∀ y ∈ ([] : List D), Pl W k y := fun _ h => by cases h
theorem ent_rs {e : Ent} {S : Sto} : rs S e.d = e.d := rfl
theorem ent_3 {e : Ent} : subD e.d (.int 3) = some (.tup (e.row.map D.str)) := rfl
theorem sh_entP {e : Ent} (h : e.Ok) : Pl 30000 4 e.d := ⟨(sh_ent h).1, Nat.le_trans (sh_ent h).2.1 (by decide), Nat.le_trans (sh_ent h).2.2 (by decide)⟩
theorem rpk {W k : Nat} {d : D} (h : Pl W k d) (h1 : W ≤ 16000000) (h2 : k ≤ 60) : reprOk d = true := reprOk_of h.1 (Nat.le_trans h.2.1 h1) (Nat.le_trans h.2.2 h2)
theorem pl_bl {b : Bool} : Pl 100 0 (.bl b) := ⟨trivial, (by show 8 ≤ 100; decide), Nat.le_refl _⟩
theorem pl_int {i : Int} (h : i.natAbs.log2 < 200) : Pl 300 0 (.int i) := ⟨(by show i.natAbs.log2 < 1920; omega), (by show i.natAbs.log2 + 3 ≤ 300; omega), Nat.le_refl _⟩
theorem pl_strs {xs : List Str} (h : ∀ s ∈ xs, lowB s = true) : ∀ x ∈ xs.map D.str, Pl 100 0 x := fun x hx => by
  obtain ⟨s, hs, rfl⟩ := List.mem_map.mp hx
  exact pl_str (h s hs)
theorem pl_row {e : Ent} (h : e.Ok) : Pl 1000 1 (.tup (e.row.map D.str)) := by
  refine (pl_tp (pl_strs h.row)).mono ?_ (Nat.le_refl _)
  rw [List.length_map]
  have := Nat.mul_le_mul_left 102 h.len
  omega
theorem slen_app (a b : Str) : (a ++ b).length = a.length + b.length := by
  show (a.cps ++ b.cps).size = _
  rw [Array.size_append]
  rfl
/-! what is known of the labels -/
def oddS : List Str := ["", "nobody", "A", "a b", "abcdefghi"]
def labB (ss : List Str) : Bool := decide ss.Nodup && (oddS.all fun s => !ss.contains s) && ss.all fun a => !ss.contains (a ++ "q")
theorem labels_B : ∀ p < 4, ∀ f < 7, ∀ st < 6, ∀ m < 8, labB (labelsP p f st m) = true := by decide +kernel
/-- a drawn web -/
structure Pg (es : List Ent) (asks : Str) : Prop where
  wb : Wb es
  low : lowB asks = true
  ne : 0 < es.length
  ask : asks ∈ es.map Ent.name
  odd : ∀ s ∈ oddS, knD es (.str s) = false
  oddq : knD es (.str (asks ++ "q")) = false
  rows : ∀ e ∈ es, ∀ s ∈ e.row, s ∈ es.map Ent.name
  has : ∀ e ∈ es, e.has = true → e.name ≠ asks
theorem pg_of {p f st k : Nat} {asks : Str} {es : List Ent} (hp : p < 4) (hf : f < 7) (hst : st < 6) (h0 : 0 < k) (h5 : k < 8) (ha : asks ∈ labelsP p f st k) (hn : es.map Ent.name = labelsP p f st k) (hin : ∀ e ∈ es, e.In (labelsP p f st k) asks) : Pg es asks := by
  have hlow := lab_low hp hf hst h5
  have hlen := labelsP_len p f st k
  have hb := labels_B p hp f hf st hst k h5
  unfold labB at hb
  simp only [Bool.and_eq_true, decide_eq_true_eq, List.all_eq_true, Bool.not_eq_true'] at hb
  have hel : es.length = k := by
    have := congrArg List.length hn
    rw [List.length_map, hlen] at this
    omega
  refine ⟨⟨fun e he => in_ok (hin e he) (by rw [← hn]; exact List.mem_map.mpr ⟨e, he, rfl⟩) hlow (by omega), by rw [hn]; exact hb.1.1, by omega⟩, hlow _ ha, by omega, by rw [hn]; exact ha, fun s hs => ?_, ?_, fun e he s hs => ?_, fun e he => (hin e he).has⟩
  · show (es.map Ent.name).contains s = false
    rw [hn]
    exact hb.1.2 s hs
  · show (es.map Ent.name).contains (asks ++ "q") = false
    rw [hn]
    exact hb.2 asks ha
  · rw [hn]
    exact (hin e he).row.subset hs
/-! the defs -/
def namesC : CSs := (.cons (.ret (.bi .tuple (.cons (.comp [1] (.sub (.var 1) (.cst (.int 0))) (.nm 1) (.val (.sub (.var 0) (.cst (.int 0)))) .nil) .nil))) .nil)
def kbnC : CSs := (.cons (.ret (.dcomp [1] (.sub (.var 1) (.cst (.int 0))) (.var 1) (.nm 1) (.val (.sub (.var 0) (.cst (.int 0)))) .nil)) .nil)
def reqC : CSs := (.cons (.ite (.nt (.var 0)) (.cons (.rse "NotUsable" "word" "at" (.cons (.var 1) (.cons (.var 2) .nil))) .nil) .nil) .nil)
def nameOfC (fn fk : Nat) : CSs := (.cons (.ret (.and (.cons (.call fn (.cons (.var 1) .nil)) (.cons (.inK false (.var 1) (.call fk (.cons (.var 0) .nil))) .nil)))) .nil)
def reqKC (fr fo sh : Nat) : CSs := (.cons (.ex (.calld fr (.cons (.call fo (.cons (.var 0) (.cons (.var 1) .nil))) (.cons (.var 2) .nil)) sh)) .nil)
def partC (fr fk sh : Nat) (i : Int) : CSs := (.cons (.ex (.calld fr (.cons (.var 0) (.cons (.var 1) .nil)) sh)) (.cons (.ret (.sub (.dget (.call fk (.cons (.var 0) .nil)) (.var 1)) (.cst (.int i)))) .nil))
def silentC (fk : Nat) : CSs := (.cons (.ret (.sub (.dget (.call fk (.cons (.var 0) .nil)) (.var 1)) (.cst (.int 2)))) .nil)
def hasC (fr fs sh : Nat) : CSs := (.cons (.ex (.calld fr (.cons (.var 0) (.cons (.var 1) .nil)) sh)) (.cons (.ret (.call fs (.cons (.var 0) (.cons (.var 1) .nil)))) .nil))
def sendC (fr sh : Nat) : CSs := (.cons (.ex (.calld fr (.cons (.var 0) (.cons (.var 1) .nil)) sh)) (.cons (.ret (.bi .tuple (.cons (.comp [2, 3, 4, 5] (.var 2) (.tp (.cons (.nm 2) (.cons (.nm 3) (.cons (.nm 4) (.cons (.nm 5) .nil))))) (.val (.sub (.var 0) (.cst (.int 0)))) (.cons (.cmp .In (.var 1) (.var 5)) .nil)) .nil))) .nil))
theorem names_ok (G : Ctx) : BodyOk G namesC 2 1 spNames := by
  intro ds S Q R0 hl hsp
  obtain ⟨es, asks, rfl, hw, hq⟩ := hsp
  have ew : webD es asks = .tup [.tup (es.map Ent.d), .str asks] := rfl
  rw [ew]
  unfold namesC
  show WSs _ _ _ _ _ _; rw [WSs]
  (try simp (disch := first | assumption | omega | decide | (constructor <;> first | assumption | omega | decide | fail) | fail) only [WS, e_wnil, WE, WEs, WAnd, WOr, WTs, WFs, WO, WI, e_rs_int, e_rs_str, e_rs_bl, e_rs_non, e_rs_tup, e_rs_lst, e_rs_lsf, e_rs_loc, e_str, e_cint, e_cbl, e_cnon, e_add, e_sub, e_mul, e_mod, e_div, e_pow, e_adds, e_addt, e_addl, e_tbl, e_tnon, e_tint, e_tlst, e_ttup, e_gt, e_ge, e_lt, e_le, e_eqi, e_nei, e_eqs, e_nes, e_eql, e_nel, e_eqt, e_net, e_sublst, e_subtup, e_lenl, e_lent, e_lens, e_int1, e_tupl, e_tupt, e_lstl, e_lstt, e_repr, e_stri, e_strs, e_fvs, e_fvi, e_sll, e_slf, e_slt, e_rvt, e_rvl, e_stl, e_stt, e_sql, e_sqt, e_bnm, e_btp, e_bnil, e_bcons, e_san, e_sac, feedO_eq, g_cells, g_at, g_held, g_count, p_at, p_held, p_count, c_count, c_at, c_held, c_cells, put_same, put_put, List.set_cons_zero, List.set_cons_succ, List.getElem?_cons_zero, List.getElem?_cons_succ, List.map_cons, List.map_nil, List.cons_append, List.nil_append, List.length_cons, List.length_nil, and_true, true_and, decide_true, decide_false, l_feed, startE, List.replicate, Nat.reduceSub, Nat.reduceAdd, List.length_map, Bool.not_true, Bool.not_false, if_true, if_false, Bool.false_eq_true, reduceIte, i_int_non, i_int_bl, i_int_int, i_int_str, i_int_tup, i_int_lst, i_bool_non, i_bool_bl, i_bool_int, i_bool_str, i_bool_tup, i_bool_lst, i_str_non, i_str_bl, i_str_int, i_str_str, i_str_tup, i_str_lst, i_tuple_non, i_tuple_bl, i_tuple_int, i_tuple_str, i_tuple_tup, i_tuple_lst, i_list_non, i_list_bl, i_list_int, i_list_str, i_list_tup, i_list_lst, t0, t1, t2, t3, Int.cast_ofNat_Int, Int.natCast_one, Int.natCast_zero, Int.reduceEq, Int.reduceLT, Int.reduceLE, e_ltS, e_leS, e_inS, e_ninS, e_isN, e_isNN, e_sqS, rs_sh, wipeE])
  refine comp_pure Ent.d (fun e => .str e.name) es ?_ ?_
  · intro e he acc k hk
    (try simp (disch := first | assumption | omega | decide | (constructor <;> first | assumption | omega | decide | fail) | fail) only [WS, e_wnil, WE, WEs, WAnd, WOr, WTs, WFs, WO, WI, e_rs_int, e_rs_str, e_rs_bl, e_rs_non, e_rs_tup, e_rs_lst, e_rs_lsf, e_rs_loc, e_str, e_cint, e_cbl, e_cnon, e_add, e_sub, e_mul, e_mod, e_div, e_pow, e_adds, e_addt, e_addl, e_tbl, e_tnon, e_tint, e_tlst, e_ttup, e_gt, e_ge, e_lt, e_le, e_eqi, e_nei, e_eqs, e_nes, e_eql, e_nel, e_eqt, e_net, e_sublst, e_subtup, e_lenl, e_lent, e_lens, e_int1, e_tupl, e_tupt, e_lstl, e_lstt, e_repr, e_stri, e_strs, e_fvs, e_fvi, e_sll, e_slf, e_slt, e_rvt, e_rvl, e_stl, e_stt, e_sql, e_sqt, e_bnm, e_btp, e_bnil, e_bcons, e_san, e_sac, feedO_eq, g_cells, g_at, g_held, g_count, p_at, p_held, p_count, c_count, c_at, c_held, c_cells, put_same, put_put, List.set_cons_zero, List.set_cons_succ, List.getElem?_cons_zero, List.getElem?_cons_succ, List.map_cons, List.map_nil, List.cons_append, List.nil_append, List.length_cons, List.length_nil, and_true, true_and, decide_true, decide_false, l_feed, startE, List.replicate, Nat.reduceSub, Nat.reduceAdd, List.length_map, Bool.not_true, Bool.not_false, if_true, if_false, Bool.false_eq_true, reduceIte, i_int_non, i_int_bl, i_int_int, i_int_str, i_int_tup, i_int_lst, i_bool_non, i_bool_bl, i_bool_int, i_bool_str, i_bool_tup, i_bool_lst, i_str_non, i_str_bl, i_str_int, i_str_str, i_str_tup, i_str_lst, i_tuple_non, i_tuple_bl, i_tuple_int, i_tuple_str, i_tuple_tup, i_tuple_lst, i_list_non, i_list_bl, i_list_int, i_list_str, i_list_tup, i_list_lst, t0, t1, t2, t3, Int.cast_ofNat_Int, Int.natCast_one, Int.natCast_zero, Int.reduceEq, Int.reduceLT, Int.reduceLE, e_ltS, e_leS, e_inS, e_ninS, e_isN, e_isNN, e_sqS, rs_sh, ent_rsd, ent_at0])
    exact hk
  · have hz : (es.map fun e => D.str e.name).length ≤ sizeLine := sz_small (by rw [List.length_map]; have := hw.len; omega)
    (try simp (disch := first | assumption | omega | decide | (constructor <;> first | assumption | omega | decide | fail) | fail) only [WS, e_wnil, WE, WEs, WAnd, WOr, WTs, WFs, WO, WI, e_rs_int, e_rs_str, e_rs_bl, e_rs_non, e_rs_tup, e_rs_lst, e_rs_lsf, e_rs_loc, e_str, e_cint, e_cbl, e_cnon, e_add, e_sub, e_mul, e_mod, e_div, e_pow, e_adds, e_addt, e_addl, e_tbl, e_tnon, e_tint, e_tlst, e_ttup, e_gt, e_ge, e_lt, e_le, e_eqi, e_nei, e_eqs, e_nes, e_eql, e_nel, e_eqt, e_net, e_sublst, e_subtup, e_lenl, e_lent, e_lens, e_int1, e_tupl, e_tupt, e_lstl, e_lstt, e_repr, e_stri, e_strs, e_fvs, e_fvi, e_sll, e_slf, e_slt, e_rvt, e_rvl, e_stl, e_stt, e_sql, e_sqt, e_bnm, e_btp, e_bnil, e_bcons, e_san, e_sac, feedO_eq, g_cells, g_at, g_held, g_count, p_at, p_held, p_count, c_count, c_at, c_held, c_cells, put_same, put_put, List.set_cons_zero, List.set_cons_succ, List.getElem?_cons_zero, List.getElem?_cons_succ, List.map_cons, List.map_nil, List.cons_append, List.nil_append, List.length_cons, List.length_nil, and_true, true_and, decide_true, decide_false, l_feed, startE, List.replicate, Nat.reduceSub, Nat.reduceAdd, List.length_map, Bool.not_true, Bool.not_false, if_true, if_false, Bool.false_eq_true, reduceIte, i_int_non, i_int_bl, i_int_int, i_int_str, i_int_tup, i_int_lst, i_bool_non, i_bool_bl, i_bool_int, i_bool_str, i_bool_tup, i_bool_lst, i_str_non, i_str_bl, i_str_int, i_str_str, i_str_tup, i_str_lst, i_tuple_non, i_tuple_bl, i_tuple_int, i_tuple_str, i_tuple_tup, i_tuple_lst, i_list_non, i_list_bl, i_list_int, i_list_str, i_list_tup, i_list_lst, t0, t1, t2, t3, Int.cast_ofNat_Int, Int.natCast_one, Int.natCast_zero, Int.reduceEq, Int.reduceLT, Int.reduceLE, e_ltS, e_leS, e_inS, e_ninS, e_isN, e_isNN, e_sqS, rs_sh, hz])
    exact ⟨S, Le.refl _, hq⟩
theorem kbn_ok (G : Ctx) : BodyOk G kbnC 2 1 spKbn := by
  intro ds S Q R0 hl hsp
  obtain ⟨es, asks, rfl, hw, hq⟩ := hsp
  have ew : webD es asks = .tup [.tup (es.map Ent.d), .str asks] := rfl
  rw [ew]
  unfold kbnC
  show WSs _ _ _ _ _ _; rw [WSs]
  (try simp (disch := first | assumption | omega | decide | (constructor <;> first | assumption | omega | decide | fail) | fail) only [WS, e_wnil, WE, WEs, WAnd, WOr, WTs, WFs, WO, WI, e_rs_int, e_rs_str, e_rs_bl, e_rs_non, e_rs_tup, e_rs_lst, e_rs_lsf, e_rs_loc, e_str, e_cint, e_cbl, e_cnon, e_add, e_sub, e_mul, e_mod, e_div, e_pow, e_adds, e_addt, e_addl, e_tbl, e_tnon, e_tint, e_tlst, e_ttup, e_gt, e_ge, e_lt, e_le, e_eqi, e_nei, e_eqs, e_nes, e_eql, e_nel, e_eqt, e_net, e_sublst, e_subtup, e_lenl, e_lent, e_lens, e_int1, e_tupl, e_tupt, e_lstl, e_lstt, e_repr, e_stri, e_strs, e_fvs, e_fvi, e_sll, e_slf, e_slt, e_rvt, e_rvl, e_stl, e_stt, e_sql, e_sqt, e_bnm, e_btp, e_bnil, e_bcons, e_san, e_sac, feedO_eq, g_cells, g_at, g_held, g_count, p_at, p_held, p_count, c_count, c_at, c_held, c_cells, put_same, put_put, List.set_cons_zero, List.set_cons_succ, List.getElem?_cons_zero, List.getElem?_cons_succ, List.map_cons, List.map_nil, List.cons_append, List.nil_append, List.length_cons, List.length_nil, and_true, true_and, decide_true, decide_false, l_feed, startE, List.replicate, Nat.reduceSub, Nat.reduceAdd, List.length_map, Bool.not_true, Bool.not_false, if_true, if_false, Bool.false_eq_true, reduceIte, i_int_non, i_int_bl, i_int_int, i_int_str, i_int_tup, i_int_lst, i_bool_non, i_bool_bl, i_bool_int, i_bool_str, i_bool_tup, i_bool_lst, i_str_non, i_str_bl, i_str_int, i_str_str, i_str_tup, i_str_lst, i_tuple_non, i_tuple_bl, i_tuple_int, i_tuple_str, i_tuple_tup, i_tuple_lst, i_list_non, i_list_bl, i_list_int, i_list_str, i_list_tup, i_list_lst, t0, t1, t2, t3, Int.cast_ofNat_Int, Int.natCast_one, Int.natCast_zero, Int.reduceEq, Int.reduceLT, Int.reduceLE, e_ltS, e_leS, e_inS, e_ninS, e_isN, e_isNN, e_sqS, rs_sh, wipeE])
  refine kb_rule es [] hw.nd ?_ ?_
  · intro e he acc k hk
    (try simp (disch := first | assumption | omega | decide | (constructor <;> first | assumption | omega | decide | fail) | fail) only [WS, e_wnil, WE, WEs, WAnd, WOr, WTs, WFs, WO, WI, e_rs_int, e_rs_str, e_rs_bl, e_rs_non, e_rs_tup, e_rs_lst, e_rs_lsf, e_rs_loc, e_str, e_cint, e_cbl, e_cnon, e_add, e_sub, e_mul, e_mod, e_div, e_pow, e_adds, e_addt, e_addl, e_tbl, e_tnon, e_tint, e_tlst, e_ttup, e_gt, e_ge, e_lt, e_le, e_eqi, e_nei, e_eqs, e_nes, e_eql, e_nel, e_eqt, e_net, e_sublst, e_subtup, e_lenl, e_lent, e_lens, e_int1, e_tupl, e_tupt, e_lstl, e_lstt, e_repr, e_stri, e_strs, e_fvs, e_fvi, e_sll, e_slf, e_slt, e_rvt, e_rvl, e_stl, e_stt, e_sql, e_sqt, e_bnm, e_btp, e_bnil, e_bcons, e_san, e_sac, feedO_eq, g_cells, g_at, g_held, g_count, p_at, p_held, p_count, c_count, c_at, c_held, c_cells, put_same, put_put, List.set_cons_zero, List.set_cons_succ, List.getElem?_cons_zero, List.getElem?_cons_succ, List.map_cons, List.map_nil, List.cons_append, List.nil_append, List.length_cons, List.length_nil, and_true, true_and, decide_true, decide_false, l_feed, startE, List.replicate, Nat.reduceSub, Nat.reduceAdd, List.length_map, Bool.not_true, Bool.not_false, if_true, if_false, Bool.false_eq_true, reduceIte, i_int_non, i_int_bl, i_int_int, i_int_str, i_int_tup, i_int_lst, i_bool_non, i_bool_bl, i_bool_int, i_bool_str, i_bool_tup, i_bool_lst, i_str_non, i_str_bl, i_str_int, i_str_str, i_str_tup, i_str_lst, i_tuple_non, i_tuple_bl, i_tuple_int, i_tuple_str, i_tuple_tup, i_tuple_lst, i_list_non, i_list_bl, i_list_int, i_list_str, i_list_tup, i_list_lst, t0, t1, t2, t3, Int.cast_ofNat_Int, Int.natCast_one, Int.natCast_zero, Int.reduceEq, Int.reduceLT, Int.reduceLE, e_ltS, e_leS, e_inS, e_ninS, e_isN, e_isNN, e_sqS, rs_sh, ent_rsd, ent_at0])
    exact hk
  · intro a ha
    exact ⟨_, Le.refl _, hq a _ ha rfl⟩
theorem req_ok (G : Ctx) : BodyOk G reqC 3 3 spReq := by
  intro ds S Q R0 hl hsp
  obtain ⟨b, w, i, rfl, h1, h2⟩ := hsp
  unfold reqC
  show WSs _ _ _ _ _ _; rw [WSs]
  cases b with
  | true =>
    (try simp (disch := first | assumption | omega | decide | (constructor <;> first | assumption | omega | decide | fail) | fail) only [WS, e_wnil, WE, WEs, WAnd, WOr, WTs, WFs, WO, WI, e_rs_int, e_rs_str, e_rs_bl, e_rs_non, e_rs_tup, e_rs_lst, e_rs_lsf, e_rs_loc, e_str, e_cint, e_cbl, e_cnon, e_add, e_sub, e_mul, e_mod, e_div, e_pow, e_adds, e_addt, e_addl, e_tbl, e_tnon, e_tint, e_tlst, e_ttup, e_gt, e_ge, e_lt, e_le, e_eqi, e_nei, e_eqs, e_nes, e_eql, e_nel, e_eqt, e_net, e_sublst, e_subtup, e_lenl, e_lent, e_lens, e_int1, e_tupl, e_tupt, e_lstl, e_lstt, e_repr, e_stri, e_strs, e_fvs, e_fvi, e_sll, e_slf, e_slt, e_rvt, e_rvl, e_stl, e_stt, e_sql, e_sqt, e_bnm, e_btp, e_bnil, e_bcons, e_san, e_sac, feedO_eq, g_cells, g_at, g_held, g_count, p_at, p_held, p_count, c_count, c_at, c_held, c_cells, put_same, put_put, List.set_cons_zero, List.set_cons_succ, List.getElem?_cons_zero, List.getElem?_cons_succ, List.map_cons, List.map_nil, List.cons_append, List.nil_append, List.length_cons, List.length_nil, and_true, true_and, decide_true, decide_false, l_feed, startE, List.replicate, Nat.reduceSub, Nat.reduceAdd, List.length_map, Bool.not_true, Bool.not_false, if_true, if_false, Bool.false_eq_true, reduceIte, i_int_non, i_int_bl, i_int_int, i_int_str, i_int_tup, i_int_lst, i_bool_non, i_bool_bl, i_bool_int, i_bool_str, i_bool_tup, i_bool_lst, i_str_non, i_str_bl, i_str_int, i_str_str, i_str_tup, i_str_lst, i_tuple_non, i_tuple_bl, i_tuple_int, i_tuple_str, i_tuple_tup, i_tuple_lst, i_list_non, i_list_bl, i_list_int, i_list_str, i_list_tup, i_list_lst, t0, t1, t2, t3, Int.cast_ofNat_Int, Int.natCast_one, Int.natCast_zero, Int.reduceEq, Int.reduceLT, Int.reduceLE, e_ltS, e_leS, e_inS, e_ninS, e_isN, e_isNN, e_sqS, rs_sh, WSs])
    exact ⟨S, Le.refl _, h1 rfl⟩
  | false =>
    (try simp (disch := first | assumption | omega | decide | (constructor <;> first | assumption | omega | decide | fail) | fail) only [WS, e_wnil, WE, WEs, WAnd, WOr, WTs, WFs, WO, WI, e_rs_int, e_rs_str, e_rs_bl, e_rs_non, e_rs_tup, e_rs_lst, e_rs_lsf, e_rs_loc, e_str, e_cint, e_cbl, e_cnon, e_add, e_sub, e_mul, e_mod, e_div, e_pow, e_adds, e_addt, e_addl, e_tbl, e_tnon, e_tint, e_tlst, e_ttup, e_gt, e_ge, e_lt, e_le, e_eqi, e_nei, e_eqs, e_nes, e_eql, e_nel, e_eqt, e_net, e_sublst, e_subtup, e_lenl, e_lent, e_lens, e_int1, e_tupl, e_tupt, e_lstl, e_lstt, e_repr, e_stri, e_strs, e_fvs, e_fvi, e_sll, e_slf, e_slt, e_rvt, e_rvl, e_stl, e_stt, e_sql, e_sqt, e_bnm, e_btp, e_bnil, e_bcons, e_san, e_sac, feedO_eq, g_cells, g_at, g_held, g_count, p_at, p_held, p_count, c_count, c_at, c_held, c_cells, put_same, put_put, List.set_cons_zero, List.set_cons_succ, List.getElem?_cons_zero, List.getElem?_cons_succ, List.map_cons, List.map_nil, List.cons_append, List.nil_append, List.length_cons, List.length_nil, and_true, true_and, decide_true, decide_false, l_feed, startE, List.replicate, Nat.reduceSub, Nat.reduceAdd, List.length_map, Bool.not_true, Bool.not_false, if_true, if_false, Bool.false_eq_true, reduceIte, i_int_non, i_int_bl, i_int_int, i_int_str, i_int_tup, i_int_lst, i_bool_non, i_bool_bl, i_bool_int, i_bool_str, i_bool_tup, i_bool_lst, i_str_non, i_str_bl, i_str_int, i_str_str, i_str_tup, i_str_lst, i_tuple_non, i_tuple_bl, i_tuple_int, i_tuple_str, i_tuple_tup, i_tuple_lst, i_list_non, i_list_bl, i_list_int, i_list_str, i_list_tup, i_list_lst, t0, t1, t2, t3, Int.cast_ofNat_Int, Int.natCast_one, Int.natCast_zero, Int.reduceEq, Int.reduceLT, Int.reduceLE, e_ltS, e_leS, e_inS, e_ninS, e_isN, e_isNN, e_sqS, rs_sh, WSs])
    exact ⟨S, Le.refl _, h2 rfl⟩
theorem nameOf_ok (G : Ctx) {fn fk : Nat} (h1 : G.fn fn = spNam) (a1 : G.ar fn = 1) (h2 : G.fn fk = spKbn) (a2 : G.ar fk = 1) : BodyOk G (nameOfC fn fk) 2 2 spNameOf := by
  intro ds S Q R0 hl hsp
  obtain ⟨es, asks, d, rfl, hw, hd, hq⟩ := hsp
  unfold nameOfC
  show WSs _ _ _ _ _ _; rw [WSs]
  (try simp (disch := first | assumption | omega | decide | (constructor <;> first | assumption | omega | decide | fail) | fail) only [WS, e_wnil, WE, WEs, WAnd, WOr, WTs, WFs, WO, WI, e_rs_int, e_rs_str, e_rs_bl, e_rs_non, e_rs_tup, e_rs_lst, e_rs_lsf, e_rs_loc, e_str, e_cint, e_cbl, e_cnon, e_add, e_sub, e_mul, e_mod, e_div, e_pow, e_adds, e_addt, e_addl, e_tbl, e_tnon, e_tint, e_tlst, e_ttup, e_gt, e_ge, e_lt, e_le, e_eqi, e_nei, e_eqs, e_nes, e_eql, e_nel, e_eqt, e_net, e_sublst, e_subtup, e_lenl, e_lent, e_lens, e_int1, e_tupl, e_tupt, e_lstl, e_lstt, e_repr, e_stri, e_strs, e_fvs, e_fvi, e_sll, e_slf, e_slt, e_rvt, e_rvl, e_stl, e_stt, e_sql, e_sqt, e_bnm, e_btp, e_bnil, e_bcons, e_san, e_sac, feedO_eq, g_cells, g_at, g_held, g_count, p_at, p_held, p_count, c_count, c_at, c_held, c_cells, put_same, put_put, List.set_cons_zero, List.set_cons_succ, List.getElem?_cons_zero, List.getElem?_cons_succ, List.map_cons, List.map_nil, List.cons_append, List.nil_append, List.length_cons, List.length_nil, and_true, true_and, decide_true, decide_false, l_feed, startE, List.replicate, Nat.reduceSub, Nat.reduceAdd, List.length_map, Bool.not_true, Bool.not_false, if_true, if_false, Bool.false_eq_true, reduceIte, i_int_non, i_int_bl, i_int_int, i_int_str, i_int_tup, i_int_lst, i_bool_non, i_bool_bl, i_bool_int, i_bool_str, i_bool_tup, i_bool_lst, i_str_non, i_str_bl, i_str_int, i_str_str, i_str_tup, i_str_lst, i_tuple_non, i_tuple_bl, i_tuple_int, i_tuple_str, i_tuple_tup, i_tuple_lst, i_list_non, i_list_bl, i_list_int, i_list_str, i_list_tup, i_list_lst, t0, t1, t2, t3, Int.cast_ofNat_Int, Int.natCast_one, Int.natCast_zero, Int.reduceEq, Int.reduceLT, Int.reduceLE, e_ltS, e_leS, e_inS, e_ninS, e_isN, e_isNN, e_sqS, rs_sh, h1, a1, h2, a2])
  refine ⟨d, rfl, hd, ?_⟩
  cases hn : isNam d with
  | false =>
    (try simp (disch := first | assumption | omega | decide | (constructor <;> first | assumption | omega | decide | fail) | fail) only [WS, e_wnil, WE, WEs, WAnd, WOr, WTs, WFs, WO, WI, e_rs_int, e_rs_str, e_rs_bl, e_rs_non, e_rs_tup, e_rs_lst, e_rs_lsf, e_rs_loc, e_str, e_cint, e_cbl, e_cnon, e_add, e_sub, e_mul, e_mod, e_div, e_pow, e_adds, e_addt, e_addl, e_tbl, e_tnon, e_tint, e_tlst, e_ttup, e_gt, e_ge, e_lt, e_le, e_eqi, e_nei, e_eqs, e_nes, e_eql, e_nel, e_eqt, e_net, e_sublst, e_subtup, e_lenl, e_lent, e_lens, e_int1, e_tupl, e_tupt, e_lstl, e_lstt, e_repr, e_stri, e_strs, e_fvs, e_fvi, e_sll, e_slf, e_slt, e_rvt, e_rvl, e_stl, e_stt, e_sql, e_sqt, e_bnm, e_btp, e_bnil, e_bcons, e_san, e_sac, feedO_eq, g_cells, g_at, g_held, g_count, p_at, p_held, p_count, c_count, c_at, c_held, c_cells, put_same, put_put, List.set_cons_zero, List.set_cons_succ, List.getElem?_cons_zero, List.getElem?_cons_succ, List.map_cons, List.map_nil, List.cons_append, List.nil_append, List.length_cons, List.length_nil, and_true, true_and, decide_true, decide_false, l_feed, startE, List.replicate, Nat.reduceSub, Nat.reduceAdd, List.length_map, Bool.not_true, Bool.not_false, if_true, if_false, Bool.false_eq_true, reduceIte, i_int_non, i_int_bl, i_int_int, i_int_str, i_int_tup, i_int_lst, i_bool_non, i_bool_bl, i_bool_int, i_bool_str, i_bool_tup, i_bool_lst, i_str_non, i_str_bl, i_str_int, i_str_str, i_str_tup, i_str_lst, i_tuple_non, i_tuple_bl, i_tuple_int, i_tuple_str, i_tuple_tup, i_tuple_lst, i_list_non, i_list_bl, i_list_int, i_list_str, i_list_tup, i_list_lst, t0, t1, t2, t3, Int.cast_ofNat_Int, Int.natCast_one, Int.natCast_zero, Int.reduceEq, Int.reduceLT, Int.reduceLE, e_ltS, e_leS, e_inS, e_ninS, e_isN, e_isNN, e_sqS, rs_sh])
    rw [kn_nam hw hn] at hq
    exact ⟨S, Le.refl _, hq⟩
  | true =>
    obtain ⟨s, rfl⟩ : ∃ s, d = .str s := by
      cases d with
      | str s => exact ⟨s, rfl⟩
      | _ => cases hn
    (try simp (disch := first | assumption | omega | decide | (constructor <;> first | assumption | omega | decide | fail) | fail) only [WS, e_wnil, WE, WEs, WAnd, WOr, WTs, WFs, WO, WI, e_rs_int, e_rs_str, e_rs_bl, e_rs_non, e_rs_tup, e_rs_lst, e_rs_lsf, e_rs_loc, e_str, e_cint, e_cbl, e_cnon, e_add, e_sub, e_mul, e_mod, e_div, e_pow, e_adds, e_addt, e_addl, e_tbl, e_tnon, e_tint, e_tlst, e_ttup, e_gt, e_ge, e_lt, e_le, e_eqi, e_nei, e_eqs, e_nes, e_eql, e_nel, e_eqt, e_net, e_sublst, e_subtup, e_lenl, e_lent, e_lens, e_int1, e_tupl, e_tupt, e_lstl, e_lstt, e_repr, e_stri, e_strs, e_fvs, e_fvi, e_sll, e_slf, e_slt, e_rvt, e_rvl, e_stl, e_stt, e_sql, e_sqt, e_bnm, e_btp, e_bnil, e_bcons, e_san, e_sac, feedO_eq, g_cells, g_at, g_held, g_count, p_at, p_held, p_count, c_count, c_at, c_held, c_cells, put_same, put_put, List.set_cons_zero, List.set_cons_succ, List.getElem?_cons_zero, List.getElem?_cons_succ, List.map_cons, List.map_nil, List.cons_append, List.nil_append, List.length_cons, List.length_nil, and_true, true_and, decide_true, decide_false, l_feed, startE, List.replicate, Nat.reduceSub, Nat.reduceAdd, List.length_map, Bool.not_true, Bool.not_false, if_true, if_false, Bool.false_eq_true, reduceIte, i_int_non, i_int_bl, i_int_int, i_int_str, i_int_tup, i_int_lst, i_bool_non, i_bool_bl, i_bool_int, i_bool_str, i_bool_tup, i_bool_lst, i_str_non, i_str_bl, i_str_int, i_str_str, i_str_tup, i_str_lst, i_tuple_non, i_tuple_bl, i_tuple_int, i_tuple_str, i_tuple_tup, i_tuple_lst, i_list_non, i_list_bl, i_list_int, i_list_str, i_list_tup, i_list_lst, t0, t1, t2, t3, Int.cast_ofNat_Int, Int.natCast_one, Int.natCast_zero, Int.reduceEq, Int.reduceLT, Int.reduceLE, e_ltS, e_leS, e_inS, e_ninS, e_isN, e_isNN, e_sqS, rs_sh, h1, a1, h2, a2])
    refine ⟨es, asks, rfl, hw, fun a S' ha hS => ?_⟩
    subst hS
    (try simp (disch := first | assumption | omega | decide | (constructor <;> first | assumption | omega | decide | fail) | fail) only [WS, e_wnil, WE, WEs, WAnd, WOr, WTs, WFs, WO, WI, e_rs_int, e_rs_str, e_rs_bl, e_rs_non, e_rs_tup, e_rs_lst, e_rs_lsf, e_rs_loc, e_str, e_cint, e_cbl, e_cnon, e_add, e_sub, e_mul, e_mod, e_div, e_pow, e_adds, e_addt, e_addl, e_tbl, e_tnon, e_tint, e_tlst, e_ttup, e_gt, e_ge, e_lt, e_le, e_eqi, e_nei, e_eqs, e_nes, e_eql, e_nel, e_eqt, e_net, e_sublst, e_subtup, e_lenl, e_lent, e_lens, e_int1, e_tupl, e_tupt, e_lstl, e_lstt, e_repr, e_stri, e_strs, e_fvs, e_fvi, e_sll, e_slf, e_slt, e_rvt, e_rvl, e_stl, e_stt, e_sql, e_sqt, e_bnm, e_btp, e_bnil, e_bcons, e_san, e_sac, feedO_eq, g_cells, g_at, g_held, g_count, p_at, p_held, p_count, c_count, c_at, c_held, c_cells, put_same, put_put, List.set_cons_zero, List.set_cons_succ, List.getElem?_cons_zero, List.getElem?_cons_succ, List.map_cons, List.map_nil, List.cons_append, List.nil_append, List.length_cons, List.length_nil, and_true, true_and, decide_true, decide_false, l_feed, startE, List.replicate, Nat.reduceSub, Nat.reduceAdd, List.length_map, Bool.not_true, Bool.not_false, if_true, if_false, Bool.false_eq_true, reduceIte, i_int_non, i_int_bl, i_int_int, i_int_str, i_int_tup, i_int_lst, i_bool_non, i_bool_bl, i_bool_int, i_bool_str, i_bool_tup, i_bool_lst, i_str_non, i_str_bl, i_str_int, i_str_str, i_str_tup, i_str_lst, i_tuple_non, i_tuple_bl, i_tuple_int, i_tuple_str, i_tuple_tup, i_tuple_lst, i_list_non, i_list_bl, i_list_int, i_list_str, i_list_tup, i_list_lst, t0, t1, t2, t3, Int.cast_ofNat_Int, Int.natCast_one, Int.natCast_zero, Int.reduceEq, Int.reduceLT, Int.reduceLE, e_ltS, e_leS, e_inS, e_ninS, e_isN, e_isNN, e_sqS, rs_sh, kb_has])
    refine ⟨S, put_le ha, ?_⟩
    have e : (false != (es.map Ent.name).contains s) = knD es (.str s) := by
      show (false != _) = (es.map Ent.name).contains s
      cases (es.map Ent.name).contains s <;> rfl
    rw [e]
    exact hq
theorem reqK_ok (G : Ctx) {fr fo sh : Nat} (h1 : G.fn fr = spReq) (a1 : G.ar fr = 3) (o1 : ∀ x y, G.ord fr sh [x, y] [] = [x, y, .int (-1)]) (h2 : G.fn fo = spNameOf) (a2 : G.ar fo = 2) : BodyOk G (reqKC fr fo sh) 3 3 spReqK := by
  intro ds S Q R0 hl hsp
  obtain ⟨es, asks, d, w, rfl, hw, hd, q1, q2⟩ := hsp
  unfold reqKC
  show WSs _ _ _ _ _ _; rw [WSs]
  (try simp (disch := first | assumption | omega | decide | (constructor <;> first | assumption | omega | decide | fail) | fail) only [WS, e_wnil, WE, WEs, WAnd, WOr, WTs, WFs, WO, WI, e_rs_int, e_rs_str, e_rs_bl, e_rs_non, e_rs_tup, e_rs_lst, e_rs_lsf, e_rs_loc, e_str, e_cint, e_cbl, e_cnon, e_add, e_sub, e_mul, e_mod, e_div, e_pow, e_adds, e_addt, e_addl, e_tbl, e_tnon, e_tint, e_tlst, e_ttup, e_gt, e_ge, e_lt, e_le, e_eqi, e_nei, e_eqs, e_nes, e_eql, e_nel, e_eqt, e_net, e_sublst, e_subtup, e_lenl, e_lent, e_lens, e_int1, e_tupl, e_tupt, e_lstl, e_lstt, e_repr, e_stri, e_strs, e_fvs, e_fvi, e_sll, e_slf, e_slt, e_rvt, e_rvl, e_stl, e_stt, e_sql, e_sqt, e_bnm, e_btp, e_bnil, e_bcons, e_san, e_sac, feedO_eq, g_cells, g_at, g_held, g_count, p_at, p_held, p_count, c_count, c_at, c_held, c_cells, put_same, put_put, List.set_cons_zero, List.set_cons_succ, List.getElem?_cons_zero, List.getElem?_cons_succ, List.map_cons, List.map_nil, List.cons_append, List.nil_append, List.length_cons, List.length_nil, and_true, true_and, decide_true, decide_false, l_feed, startE, List.replicate, Nat.reduceSub, Nat.reduceAdd, List.length_map, Bool.not_true, Bool.not_false, if_true, if_false, Bool.false_eq_true, reduceIte, i_int_non, i_int_bl, i_int_int, i_int_str, i_int_tup, i_int_lst, i_bool_non, i_bool_bl, i_bool_int, i_bool_str, i_bool_tup, i_bool_lst, i_str_non, i_str_bl, i_str_int, i_str_str, i_str_tup, i_str_lst, i_tuple_non, i_tuple_bl, i_tuple_int, i_tuple_str, i_tuple_tup, i_tuple_lst, i_list_non, i_list_bl, i_list_int, i_list_str, i_list_tup, i_list_lst, t0, t1, t2, t3, Int.cast_ofNat_Int, Int.natCast_one, Int.natCast_zero, Int.reduceEq, Int.reduceLT, Int.reduceLE, e_ltS, e_leS, e_inS, e_ninS, e_isN, e_isNN, e_sqS, rs_sh, h1, a1, h2, a2, o1])
  refine ⟨es, asks, d, rfl, hw, hd, ?_⟩
  (try simp (disch := first | assumption | omega | decide | (constructor <;> first | assumption | omega | decide | fail) | fail) only [WS, e_wnil, WE, WEs, WAnd, WOr, WTs, WFs, WO, WI, e_rs_int, e_rs_str, e_rs_bl, e_rs_non, e_rs_tup, e_rs_lst, e_rs_lsf, e_rs_loc, e_str, e_cint, e_cbl, e_cnon, e_add, e_sub, e_mul, e_mod, e_div, e_pow, e_adds, e_addt, e_addl, e_tbl, e_tnon, e_tint, e_tlst, e_ttup, e_gt, e_ge, e_lt, e_le, e_eqi, e_nei, e_eqs, e_nes, e_eql, e_nel, e_eqt, e_net, e_sublst, e_subtup, e_lenl, e_lent, e_lens, e_int1, e_tupl, e_tupt, e_lstl, e_lstt, e_repr, e_stri, e_strs, e_fvs, e_fvi, e_sll, e_slf, e_slt, e_rvt, e_rvl, e_stl, e_stt, e_sql, e_sqt, e_bnm, e_btp, e_bnil, e_bcons, e_san, e_sac, feedO_eq, g_cells, g_at, g_held, g_count, p_at, p_held, p_count, c_count, c_at, c_held, c_cells, put_same, put_put, List.set_cons_zero, List.set_cons_succ, List.getElem?_cons_zero, List.getElem?_cons_succ, List.map_cons, List.map_nil, List.cons_append, List.nil_append, List.length_cons, List.length_nil, and_true, true_and, decide_true, decide_false, l_feed, startE, List.replicate, Nat.reduceSub, Nat.reduceAdd, List.length_map, Bool.not_true, Bool.not_false, if_true, if_false, Bool.false_eq_true, reduceIte, i_int_non, i_int_bl, i_int_int, i_int_str, i_int_tup, i_int_lst, i_bool_non, i_bool_bl, i_bool_int, i_bool_str, i_bool_tup, i_bool_lst, i_str_non, i_str_bl, i_str_int, i_str_str, i_str_tup, i_str_lst, i_tuple_non, i_tuple_bl, i_tuple_int, i_tuple_str, i_tuple_tup, i_tuple_lst, i_list_non, i_list_bl, i_list_int, i_list_str, i_list_tup, i_list_lst, t0, t1, t2, t3, Int.cast_ofNat_Int, Int.natCast_one, Int.natCast_zero, Int.reduceEq, Int.reduceLT, Int.reduceLE, e_ltS, e_leS, e_inS, e_ninS, e_isN, e_isNN, e_sqS, rs_sh, h1, a1, h2, a2, o1])
  refine ⟨_, _, _, rfl, fun h => ?_, fun h => ⟨S, Le.refl _, q2 h⟩⟩
  exact ⟨S, Le.refl _, q1 h⟩
theorem part_ok (G : Ctx) {fr fk sh : Nat} {i : Int} {f : Ent → D} (hi : ∀ (S : Sto) (e : Ent), subD (rs S e.d) (.int i) = some (f e)) (h1 : G.fn fr = spReqK) (a1 : G.ar fr = 3) (o1 : ∀ x y, G.ord fr sh [x, y] [] = [x, y, .str "kind"]) (h2 : G.fn fk = spKbn) (a2 : G.ar fk = 1) : BodyOk G (partC fr fk sh i) 2 2 (spPart fun _ e => f e) := by
  intro ds S Q R0 hl hsp
  obtain ⟨es, asks, d, rfl, hw, hd, q1, q2⟩ := hsp
  unfold partC
  show WSs _ _ _ _ _ _; rw [WSs]
  (try simp (disch := first | assumption | omega | decide | (constructor <;> first | assumption | omega | decide | fail) | fail) only [WS, e_wnil, WE, WEs, WAnd, WOr, WTs, WFs, WO, WI, e_rs_int, e_rs_str, e_rs_bl, e_rs_non, e_rs_tup, e_rs_lst, e_rs_lsf, e_rs_loc, e_str, e_cint, e_cbl, e_cnon, e_add, e_sub, e_mul, e_mod, e_div, e_pow, e_adds, e_addt, e_addl, e_tbl, e_tnon, e_tint, e_tlst, e_ttup, e_gt, e_ge, e_lt, e_le, e_eqi, e_nei, e_eqs, e_nes, e_eql, e_nel, e_eqt, e_net, e_sublst, e_subtup, e_lenl, e_lent, e_lens, e_int1, e_tupl, e_tupt, e_lstl, e_lstt, e_repr, e_stri, e_strs, e_fvs, e_fvi, e_sll, e_slf, e_slt, e_rvt, e_rvl, e_stl, e_stt, e_sql, e_sqt, e_bnm, e_btp, e_bnil, e_bcons, e_san, e_sac, feedO_eq, g_cells, g_at, g_held, g_count, p_at, p_held, p_count, c_count, c_at, c_held, c_cells, put_same, put_put, List.set_cons_zero, List.set_cons_succ, List.getElem?_cons_zero, List.getElem?_cons_succ, List.map_cons, List.map_nil, List.cons_append, List.nil_append, List.length_cons, List.length_nil, and_true, true_and, decide_true, decide_false, l_feed, startE, List.replicate, Nat.reduceSub, Nat.reduceAdd, List.length_map, Bool.not_true, Bool.not_false, if_true, if_false, Bool.false_eq_true, reduceIte, i_int_non, i_int_bl, i_int_int, i_int_str, i_int_tup, i_int_lst, i_bool_non, i_bool_bl, i_bool_int, i_bool_str, i_bool_tup, i_bool_lst, i_str_non, i_str_bl, i_str_int, i_str_str, i_str_tup, i_str_lst, i_tuple_non, i_tuple_bl, i_tuple_int, i_tuple_str, i_tuple_tup, i_tuple_lst, i_list_non, i_list_bl, i_list_int, i_list_str, i_list_tup, i_list_lst, t0, t1, t2, t3, Int.cast_ofNat_Int, Int.natCast_one, Int.natCast_zero, Int.reduceEq, Int.reduceLT, Int.reduceLE, e_ltS, e_leS, e_inS, e_ninS, e_isN, e_isNN, e_sqS, rs_sh, h1, a1, h2, a2, o1])
  refine ⟨es, asks, d, _, rfl, hw, hd, fun h => ?_, fun h => ⟨S, Le.refl _, q2 h⟩⟩
  obtain ⟨e, he, rfl⟩ := kn_of h
  show WSs _ _ _ _ _ _; rw [WSs]
  (try simp (disch := first | assumption | omega | decide | (constructor <;> first | assumption | omega | decide | fail) | fail) only [WS, e_wnil, WE, WEs, WAnd, WOr, WTs, WFs, WO, WI, e_rs_int, e_rs_str, e_rs_bl, e_rs_non, e_rs_tup, e_rs_lst, e_rs_lsf, e_rs_loc, e_str, e_cint, e_cbl, e_cnon, e_add, e_sub, e_mul, e_mod, e_div, e_pow, e_adds, e_addt, e_addl, e_tbl, e_tnon, e_tint, e_tlst, e_ttup, e_gt, e_ge, e_lt, e_le, e_eqi, e_nei, e_eqs, e_nes, e_eql, e_nel, e_eqt, e_net, e_sublst, e_subtup, e_lenl, e_lent, e_lens, e_int1, e_tupl, e_tupt, e_lstl, e_lstt, e_repr, e_stri, e_strs, e_fvs, e_fvi, e_sll, e_slf, e_slt, e_rvt, e_rvl, e_stl, e_stt, e_sql, e_sqt, e_bnm, e_btp, e_bnil, e_bcons, e_san, e_sac, feedO_eq, g_cells, g_at, g_held, g_count, p_at, p_held, p_count, c_count, c_at, c_held, c_cells, put_same, put_put, List.set_cons_zero, List.set_cons_succ, List.getElem?_cons_zero, List.getElem?_cons_succ, List.map_cons, List.map_nil, List.cons_append, List.nil_append, List.length_cons, List.length_nil, and_true, true_and, decide_true, decide_false, l_feed, startE, List.replicate, Nat.reduceSub, Nat.reduceAdd, List.length_map, Bool.not_true, Bool.not_false, if_true, if_false, Bool.false_eq_true, reduceIte, i_int_non, i_int_bl, i_int_int, i_int_str, i_int_tup, i_int_lst, i_bool_non, i_bool_bl, i_bool_int, i_bool_str, i_bool_tup, i_bool_lst, i_str_non, i_str_bl, i_str_int, i_str_str, i_str_tup, i_str_lst, i_tuple_non, i_tuple_bl, i_tuple_int, i_tuple_str, i_tuple_tup, i_tuple_lst, i_list_non, i_list_bl, i_list_int, i_list_str, i_list_tup, i_list_lst, t0, t1, t2, t3, Int.cast_ofNat_Int, Int.natCast_one, Int.natCast_zero, Int.reduceEq, Int.reduceLT, Int.reduceLE, e_ltS, e_leS, e_inS, e_ninS, e_isN, e_isNN, e_sqS, rs_sh, h1, a1, h2, a2, o1])
  refine ⟨es, asks, rfl, hw, fun a S' ha hS => ?_⟩
  subst hS
  have hg := kb_get hw.nd he
  (try simp (disch := first | assumption | omega | decide | (constructor <;> first | assumption | omega | decide | fail) | fail) only [WS, e_wnil, WE, WEs, WAnd, WOr, WTs, WFs, WO, WI, e_rs_int, e_rs_str, e_rs_bl, e_rs_non, e_rs_tup, e_rs_lst, e_rs_lsf, e_rs_loc, e_str, e_cint, e_cbl, e_cnon, e_add, e_sub, e_mul, e_mod, e_div, e_pow, e_adds, e_addt, e_addl, e_tbl, e_tnon, e_tint, e_tlst, e_ttup, e_gt, e_ge, e_lt, e_le, e_eqi, e_nei, e_eqs, e_nes, e_eql, e_nel, e_eqt, e_net, e_sublst, e_subtup, e_lenl, e_lent, e_lens, e_int1, e_tupl, e_tupt, e_lstl, e_lstt, e_repr, e_stri, e_strs, e_fvs, e_fvi, e_sll, e_slf, e_slt, e_rvt, e_rvl, e_stl, e_stt, e_sql, e_sqt, e_bnm, e_btp, e_bnil, e_bcons, e_san, e_sac, feedO_eq, g_cells, g_at, g_held, g_count, p_at, p_held, p_count, c_count, c_at, c_held, c_cells, put_same, put_put, List.set_cons_zero, List.set_cons_succ, List.getElem?_cons_zero, List.getElem?_cons_succ, List.map_cons, List.map_nil, List.cons_append, List.nil_append, List.length_cons, List.length_nil, and_true, true_and, decide_true, decide_false, l_feed, startE, List.replicate, Nat.reduceSub, Nat.reduceAdd, List.length_map, Bool.not_true, Bool.not_false, if_true, if_false, Bool.false_eq_true, reduceIte, i_int_non, i_int_bl, i_int_int, i_int_str, i_int_tup, i_int_lst, i_bool_non, i_bool_bl, i_bool_int, i_bool_str, i_bool_tup, i_bool_lst, i_str_non, i_str_bl, i_str_int, i_str_str, i_str_tup, i_str_lst, i_tuple_non, i_tuple_bl, i_tuple_int, i_tuple_str, i_tuple_tup, i_tuple_lst, i_list_non, i_list_bl, i_list_int, i_list_str, i_list_tup, i_list_lst, t0, t1, t2, t3, Int.cast_ofNat_Int, Int.natCast_one, Int.natCast_zero, Int.reduceEq, Int.reduceLT, Int.reduceLE, e_ltS, e_leS, e_inS, e_ninS, e_isN, e_isNN, e_sqS, rs_sh, hg, hi])
  exact ⟨S, put_le ha, q1 e he rfl⟩
theorem silent_ok (G : Ctx) {fk : Nat} (h2 : G.fn fk = spKbn) (a2 : G.ar fk = 1) : BodyOk G (silentC fk) 2 2 spSilent := by
  intro ds S Q R0 hl hsp
  obtain ⟨es, asks, e, rfl, hw, he, q1⟩ := hsp
  unfold silentC
  show WSs _ _ _ _ _ _; rw [WSs]
  (try simp (disch := first | assumption | omega | decide | (constructor <;> first | assumption | omega | decide | fail) | fail) only [WS, e_wnil, WE, WEs, WAnd, WOr, WTs, WFs, WO, WI, e_rs_int, e_rs_str, e_rs_bl, e_rs_non, e_rs_tup, e_rs_lst, e_rs_lsf, e_rs_loc, e_str, e_cint, e_cbl, e_cnon, e_add, e_sub, e_mul, e_mod, e_div, e_pow, e_adds, e_addt, e_addl, e_tbl, e_tnon, e_tint, e_tlst, e_ttup, e_gt, e_ge, e_lt, e_le, e_eqi, e_nei, e_eqs, e_nes, e_eql, e_nel, e_eqt, e_net, e_sublst, e_subtup, e_lenl, e_lent, e_lens, e_int1, e_tupl, e_tupt, e_lstl, e_lstt, e_repr, e_stri, e_strs, e_fvs, e_fvi, e_sll, e_slf, e_slt, e_rvt, e_rvl, e_stl, e_stt, e_sql, e_sqt, e_bnm, e_btp, e_bnil, e_bcons, e_san, e_sac, feedO_eq, g_cells, g_at, g_held, g_count, p_at, p_held, p_count, c_count, c_at, c_held, c_cells, put_same, put_put, List.set_cons_zero, List.set_cons_succ, List.getElem?_cons_zero, List.getElem?_cons_succ, List.map_cons, List.map_nil, List.cons_append, List.nil_append, List.length_cons, List.length_nil, and_true, true_and, decide_true, decide_false, l_feed, startE, List.replicate, Nat.reduceSub, Nat.reduceAdd, List.length_map, Bool.not_true, Bool.not_false, if_true, if_false, Bool.false_eq_true, reduceIte, i_int_non, i_int_bl, i_int_int, i_int_str, i_int_tup, i_int_lst, i_bool_non, i_bool_bl, i_bool_int, i_bool_str, i_bool_tup, i_bool_lst, i_str_non, i_str_bl, i_str_int, i_str_str, i_str_tup, i_str_lst, i_tuple_non, i_tuple_bl, i_tuple_int, i_tuple_str, i_tuple_tup, i_tuple_lst, i_list_non, i_list_bl, i_list_int, i_list_str, i_list_tup, i_list_lst, t0, t1, t2, t3, Int.cast_ofNat_Int, Int.natCast_one, Int.natCast_zero, Int.reduceEq, Int.reduceLT, Int.reduceLE, e_ltS, e_leS, e_inS, e_ninS, e_isN, e_isNN, e_sqS, rs_sh, h2, a2])
  refine ⟨es, asks, rfl, hw, fun a S' ha hS => ?_⟩
  subst hS
  have hg := kb_get hw.nd he
  have h3 : ∀ (S : Sto) (e : Ent), subD (rs S e.d) (.int 2) = some (.bl e.has) := fun _ _ => rfl
  (try simp (disch := first | assumption | omega | decide | (constructor <;> first | assumption | omega | decide | fail) | fail) only [WS, e_wnil, WE, WEs, WAnd, WOr, WTs, WFs, WO, WI, e_rs_int, e_rs_str, e_rs_bl, e_rs_non, e_rs_tup, e_rs_lst, e_rs_lsf, e_rs_loc, e_str, e_cint, e_cbl, e_cnon, e_add, e_sub, e_mul, e_mod, e_div, e_pow, e_adds, e_addt, e_addl, e_tbl, e_tnon, e_tint, e_tlst, e_ttup, e_gt, e_ge, e_lt, e_le, e_eqi, e_nei, e_eqs, e_nes, e_eql, e_nel, e_eqt, e_net, e_sublst, e_subtup, e_lenl, e_lent, e_lens, e_int1, e_tupl, e_tupt, e_lstl, e_lstt, e_repr, e_stri, e_strs, e_fvs, e_fvi, e_sll, e_slf, e_slt, e_rvt, e_rvl, e_stl, e_stt, e_sql, e_sqt, e_bnm, e_btp, e_bnil, e_bcons, e_san, e_sac, feedO_eq, g_cells, g_at, g_held, g_count, p_at, p_held, p_count, c_count, c_at, c_held, c_cells, put_same, put_put, List.set_cons_zero, List.set_cons_succ, List.getElem?_cons_zero, List.getElem?_cons_succ, List.map_cons, List.map_nil, List.cons_append, List.nil_append, List.length_cons, List.length_nil, and_true, true_and, decide_true, decide_false, l_feed, startE, List.replicate, Nat.reduceSub, Nat.reduceAdd, List.length_map, Bool.not_true, Bool.not_false, if_true, if_false, Bool.false_eq_true, reduceIte, i_int_non, i_int_bl, i_int_int, i_int_str, i_int_tup, i_int_lst, i_bool_non, i_bool_bl, i_bool_int, i_bool_str, i_bool_tup, i_bool_lst, i_str_non, i_str_bl, i_str_int, i_str_str, i_str_tup, i_str_lst, i_tuple_non, i_tuple_bl, i_tuple_int, i_tuple_str, i_tuple_tup, i_tuple_lst, i_list_non, i_list_bl, i_list_int, i_list_str, i_list_tup, i_list_lst, t0, t1, t2, t3, Int.cast_ofNat_Int, Int.natCast_one, Int.natCast_zero, Int.reduceEq, Int.reduceLT, Int.reduceLE, e_ltS, e_leS, e_inS, e_ninS, e_isN, e_isNN, e_sqS, rs_sh, hg, h3])
  exact ⟨S, put_le ha, q1⟩
theorem has_ok (G : Ctx) {fr fs sh : Nat} (h1 : G.fn fr = spReqK) (a1 : G.ar fr = 3) (o1 : ∀ x y, G.ord fr sh [x, y] [] = [x, y, .str "kind"]) (h2 : G.fn fs = spSilent) (a2 : G.ar fs = 2) : BodyOk G (hasC fr fs sh) 2 2 (spPart fun _ e => .bl e.has) := by
  intro ds S Q R0 hl hsp
  obtain ⟨es, asks, d, rfl, hw, hd, q1, q2⟩ := hsp
  unfold hasC
  show WSs _ _ _ _ _ _; rw [WSs]
  (try simp (disch := first | assumption | omega | decide | (constructor <;> first | assumption | omega | decide | fail) | fail) only [WS, e_wnil, WE, WEs, WAnd, WOr, WTs, WFs, WO, WI, e_rs_int, e_rs_str, e_rs_bl, e_rs_non, e_rs_tup, e_rs_lst, e_rs_lsf, e_rs_loc, e_str, e_cint, e_cbl, e_cnon, e_add, e_sub, e_mul, e_mod, e_div, e_pow, e_adds, e_addt, e_addl, e_tbl, e_tnon, e_tint, e_tlst, e_ttup, e_gt, e_ge, e_lt, e_le, e_eqi, e_nei, e_eqs, e_nes, e_eql, e_nel, e_eqt, e_net, e_sublst, e_subtup, e_lenl, e_lent, e_lens, e_int1, e_tupl, e_tupt, e_lstl, e_lstt, e_repr, e_stri, e_strs, e_fvs, e_fvi, e_sll, e_slf, e_slt, e_rvt, e_rvl, e_stl, e_stt, e_sql, e_sqt, e_bnm, e_btp, e_bnil, e_bcons, e_san, e_sac, feedO_eq, g_cells, g_at, g_held, g_count, p_at, p_held, p_count, c_count, c_at, c_held, c_cells, put_same, put_put, List.set_cons_zero, List.set_cons_succ, List.getElem?_cons_zero, List.getElem?_cons_succ, List.map_cons, List.map_nil, List.cons_append, List.nil_append, List.length_cons, List.length_nil, and_true, true_and, decide_true, decide_false, l_feed, startE, List.replicate, Nat.reduceSub, Nat.reduceAdd, List.length_map, Bool.not_true, Bool.not_false, if_true, if_false, Bool.false_eq_true, reduceIte, i_int_non, i_int_bl, i_int_int, i_int_str, i_int_tup, i_int_lst, i_bool_non, i_bool_bl, i_bool_int, i_bool_str, i_bool_tup, i_bool_lst, i_str_non, i_str_bl, i_str_int, i_str_str, i_str_tup, i_str_lst, i_tuple_non, i_tuple_bl, i_tuple_int, i_tuple_str, i_tuple_tup, i_tuple_lst, i_list_non, i_list_bl, i_list_int, i_list_str, i_list_tup, i_list_lst, t0, t1, t2, t3, Int.cast_ofNat_Int, Int.natCast_one, Int.natCast_zero, Int.reduceEq, Int.reduceLT, Int.reduceLE, e_ltS, e_leS, e_inS, e_ninS, e_isN, e_isNN, e_sqS, rs_sh, h1, a1, h2, a2, o1])
  refine ⟨es, asks, d, _, rfl, hw, hd, fun h => ?_, fun h => ⟨S, Le.refl _, q2 h⟩⟩
  obtain ⟨e, he, rfl⟩ := kn_of h
  show WSs _ _ _ _ _ _; rw [WSs]
  (try simp (disch := first | assumption | omega | decide | (constructor <;> first | assumption | omega | decide | fail) | fail) only [WS, e_wnil, WE, WEs, WAnd, WOr, WTs, WFs, WO, WI, e_rs_int, e_rs_str, e_rs_bl, e_rs_non, e_rs_tup, e_rs_lst, e_rs_lsf, e_rs_loc, e_str, e_cint, e_cbl, e_cnon, e_add, e_sub, e_mul, e_mod, e_div, e_pow, e_adds, e_addt, e_addl, e_tbl, e_tnon, e_tint, e_tlst, e_ttup, e_gt, e_ge, e_lt, e_le, e_eqi, e_nei, e_eqs, e_nes, e_eql, e_nel, e_eqt, e_net, e_sublst, e_subtup, e_lenl, e_lent, e_lens, e_int1, e_tupl, e_tupt, e_lstl, e_lstt, e_repr, e_stri, e_strs, e_fvs, e_fvi, e_sll, e_slf, e_slt, e_rvt, e_rvl, e_stl, e_stt, e_sql, e_sqt, e_bnm, e_btp, e_bnil, e_bcons, e_san, e_sac, feedO_eq, g_cells, g_at, g_held, g_count, p_at, p_held, p_count, c_count, c_at, c_held, c_cells, put_same, put_put, List.set_cons_zero, List.set_cons_succ, List.getElem?_cons_zero, List.getElem?_cons_succ, List.map_cons, List.map_nil, List.cons_append, List.nil_append, List.length_cons, List.length_nil, and_true, true_and, decide_true, decide_false, l_feed, startE, List.replicate, Nat.reduceSub, Nat.reduceAdd, List.length_map, Bool.not_true, Bool.not_false, if_true, if_false, Bool.false_eq_true, reduceIte, i_int_non, i_int_bl, i_int_int, i_int_str, i_int_tup, i_int_lst, i_bool_non, i_bool_bl, i_bool_int, i_bool_str, i_bool_tup, i_bool_lst, i_str_non, i_str_bl, i_str_int, i_str_str, i_str_tup, i_str_lst, i_tuple_non, i_tuple_bl, i_tuple_int, i_tuple_str, i_tuple_tup, i_tuple_lst, i_list_non, i_list_bl, i_list_int, i_list_str, i_list_tup, i_list_lst, t0, t1, t2, t3, Int.cast_ofNat_Int, Int.natCast_one, Int.natCast_zero, Int.reduceEq, Int.reduceLT, Int.reduceLE, e_ltS, e_leS, e_inS, e_ninS, e_isN, e_isNN, e_sqS, rs_sh, h1, a1, h2, a2, o1])
  exact ⟨es, asks, e, rfl, hw, he, S, Le.refl _, q1 e he rfl⟩
theorem send_ok (G : Ctx) {fr sh : Nat} (h1 : G.fn fr = spReqK) (a1 : G.ar fr = 3) (o1 : ∀ x y, G.ord fr sh [x, y] [] = [x, y, .str "kind"]) : BodyOk G (sendC fr sh) 6 2 (spPart sendD) := by
  intro ds S Q R0 hl hsp
  obtain ⟨es, asks, d, rfl, hw, hd, q1, q2⟩ := hsp
  unfold sendC
  show WSs _ _ _ _ _ _; rw [WSs]
  (try simp (disch := first | assumption | omega | decide | (constructor <;> first | assumption | omega | decide | fail) | fail) only [WS, e_wnil, WE, WEs, WAnd, WOr, WTs, WFs, WO, WI, e_rs_int, e_rs_str, e_rs_bl, e_rs_non, e_rs_tup, e_rs_lst, e_rs_lsf, e_rs_loc, e_str, e_cint, e_cbl, e_cnon, e_add, e_sub, e_mul, e_mod, e_div, e_pow, e_adds, e_addt, e_addl, e_tbl, e_tnon, e_tint, e_tlst, e_ttup, e_gt, e_ge, e_lt, e_le, e_eqi, e_nei, e_eqs, e_nes, e_eql, e_nel, e_eqt, e_net, e_sublst, e_subtup, e_lenl, e_lent, e_lens, e_int1, e_tupl, e_tupt, e_lstl, e_lstt, e_repr, e_stri, e_strs, e_fvs, e_fvi, e_sll, e_slf, e_slt, e_rvt, e_rvl, e_stl, e_stt, e_sql, e_sqt, e_bnm, e_btp, e_bnil, e_bcons, e_san, e_sac, feedO_eq, g_cells, g_at, g_held, g_count, p_at, p_held, p_count, c_count, c_at, c_held, c_cells, put_same, put_put, List.set_cons_zero, List.set_cons_succ, List.getElem?_cons_zero, List.getElem?_cons_succ, List.map_cons, List.map_nil, List.cons_append, List.nil_append, List.length_cons, List.length_nil, and_true, true_and, decide_true, decide_false, l_feed, startE, List.replicate, Nat.reduceSub, Nat.reduceAdd, List.length_map, Bool.not_true, Bool.not_false, if_true, if_false, Bool.false_eq_true, reduceIte, i_int_non, i_int_bl, i_int_int, i_int_str, i_int_tup, i_int_lst, i_bool_non, i_bool_bl, i_bool_int, i_bool_str, i_bool_tup, i_bool_lst, i_str_non, i_str_bl, i_str_int, i_str_str, i_str_tup, i_str_lst, i_tuple_non, i_tuple_bl, i_tuple_int, i_tuple_str, i_tuple_tup, i_tuple_lst, i_list_non, i_list_bl, i_list_int, i_list_str, i_list_tup, i_list_lst, t0, t1, t2, t3, Int.cast_ofNat_Int, Int.natCast_one, Int.natCast_zero, Int.reduceEq, Int.reduceLT, Int.reduceLE, e_ltS, e_leS, e_inS, e_ninS, e_isN, e_isNN, e_sqS, rs_sh, h1, a1, o1])
  refine ⟨es, asks, d, _, rfl, hw, hd, fun h => ?_, fun h => ⟨S, Le.refl _, q2 h⟩⟩
  obtain ⟨e, he, rfl⟩ := kn_of h
  have ew : webD es asks = .tup [.tup (es.map Ent.d), .str asks] := rfl
  rw [ew]
  show WSs _ _ _ _ _ _; rw [WSs]
  (try simp (disch := first | assumption | omega | decide | (constructor <;> first | assumption | omega | decide | fail) | fail) only [WS, e_wnil, WE, WEs, WAnd, WOr, WTs, WFs, WO, WI, e_rs_int, e_rs_str, e_rs_bl, e_rs_non, e_rs_tup, e_rs_lst, e_rs_lsf, e_rs_loc, e_str, e_cint, e_cbl, e_cnon, e_add, e_sub, e_mul, e_mod, e_div, e_pow, e_adds, e_addt, e_addl, e_tbl, e_tnon, e_tint, e_tlst, e_ttup, e_gt, e_ge, e_lt, e_le, e_eqi, e_nei, e_eqs, e_nes, e_eql, e_nel, e_eqt, e_net, e_sublst, e_subtup, e_lenl, e_lent, e_lens, e_int1, e_tupl, e_tupt, e_lstl, e_lstt, e_repr, e_stri, e_strs, e_fvs, e_fvi, e_sll, e_slf, e_slt, e_rvt, e_rvl, e_stl, e_stt, e_sql, e_sqt, e_bnm, e_btp, e_bnil, e_bcons, e_san, e_sac, feedO_eq, g_cells, g_at, g_held, g_count, p_at, p_held, p_count, c_count, c_at, c_held, c_cells, put_same, put_put, List.set_cons_zero, List.set_cons_succ, List.getElem?_cons_zero, List.getElem?_cons_succ, List.map_cons, List.map_nil, List.cons_append, List.nil_append, List.length_cons, List.length_nil, and_true, true_and, decide_true, decide_false, l_feed, startE, List.replicate, Nat.reduceSub, Nat.reduceAdd, List.length_map, Bool.not_true, Bool.not_false, if_true, if_false, Bool.false_eq_true, reduceIte, i_int_non, i_int_bl, i_int_int, i_int_str, i_int_tup, i_int_lst, i_bool_non, i_bool_bl, i_bool_int, i_bool_str, i_bool_tup, i_bool_lst, i_str_non, i_str_bl, i_str_int, i_str_str, i_str_tup, i_str_lst, i_tuple_non, i_tuple_bl, i_tuple_int, i_tuple_str, i_tuple_tup, i_tuple_lst, i_list_non, i_list_bl, i_list_int, i_list_str, i_list_tup, i_list_lst, t0, t1, t2, t3, Int.cast_ofNat_Int, Int.natCast_one, Int.natCast_zero, Int.reduceEq, Int.reduceLT, Int.reduceLE, e_ltS, e_leS, e_inS, e_ninS, e_isN, e_isNN, e_sqS, rs_sh, wipeE])
  refine comp_filter Ent.d (fun e => .str e.name) (fun x => x.row.contains e.name) es ?_ ?_
  · intro x hx acc k hk
    have e1 : x.d = .tup [.str x.name, .int x.fee, .bl x.has, .tup (x.row.map D.str)] := rfl
    have e2 : cmpD .In (.str e.name) (.tup (x.row.map D.str)) = some (x.row.contains e.name) := by rw [e_inT ⟨rfl, row_flat⟩, in_row]
    rw [e1]
    (try simp (disch := first | assumption | omega | decide | (constructor <;> first | assumption | omega | decide | fail) | fail) only [WS, e_wnil, WE, WEs, WAnd, WOr, WTs, WFs, WO, WI, e_rs_int, e_rs_str, e_rs_bl, e_rs_non, e_rs_tup, e_rs_lst, e_rs_lsf, e_rs_loc, e_str, e_cint, e_cbl, e_cnon, e_add, e_sub, e_mul, e_mod, e_div, e_pow, e_adds, e_addt, e_addl, e_tbl, e_tnon, e_tint, e_tlst, e_ttup, e_gt, e_ge, e_lt, e_le, e_eqi, e_nei, e_eqs, e_nes, e_eql, e_nel, e_eqt, e_net, e_sublst, e_subtup, e_lenl, e_lent, e_lens, e_int1, e_tupl, e_tupt, e_lstl, e_lstt, e_repr, e_stri, e_strs, e_fvs, e_fvi, e_sll, e_slf, e_slt, e_rvt, e_rvl, e_stl, e_stt, e_sql, e_sqt, e_bnm, e_btp, e_bnil, e_bcons, e_san, e_sac, feedO_eq, g_cells, g_at, g_held, g_count, p_at, p_held, p_count, c_count, c_at, c_held, c_cells, put_same, put_put, List.set_cons_zero, List.set_cons_succ, List.getElem?_cons_zero, List.getElem?_cons_succ, List.map_cons, List.map_nil, List.cons_append, List.nil_append, List.length_cons, List.length_nil, and_true, true_and, decide_true, decide_false, l_feed, startE, List.replicate, Nat.reduceSub, Nat.reduceAdd, List.length_map, Bool.not_true, Bool.not_false, if_true, if_false, Bool.false_eq_true, reduceIte, i_int_non, i_int_bl, i_int_int, i_int_str, i_int_tup, i_int_lst, i_bool_non, i_bool_bl, i_bool_int, i_bool_str, i_bool_tup, i_bool_lst, i_str_non, i_str_bl, i_str_int, i_str_str, i_str_tup, i_str_lst, i_tuple_non, i_tuple_bl, i_tuple_int, i_tuple_str, i_tuple_tup, i_tuple_lst, i_list_non, i_list_bl, i_list_int, i_list_str, i_list_tup, i_list_lst, t0, t1, t2, t3, Int.cast_ofNat_Int, Int.natCast_one, Int.natCast_zero, Int.reduceEq, Int.reduceLT, Int.reduceLE, e_ltS, e_leS, e_inS, e_ninS, e_isN, e_isNN, e_sqS, rs_sh, e2])
    cases hc : x.row.contains e.name with
    | true =>
      rw [hc] at hk
      (try simp (disch := first | assumption | omega | decide | (constructor <;> first | assumption | omega | decide | fail) | fail) only [WS, e_wnil, WE, WEs, WAnd, WOr, WTs, WFs, WO, WI, e_rs_int, e_rs_str, e_rs_bl, e_rs_non, e_rs_tup, e_rs_lst, e_rs_lsf, e_rs_loc, e_str, e_cint, e_cbl, e_cnon, e_add, e_sub, e_mul, e_mod, e_div, e_pow, e_adds, e_addt, e_addl, e_tbl, e_tnon, e_tint, e_tlst, e_ttup, e_gt, e_ge, e_lt, e_le, e_eqi, e_nei, e_eqs, e_nes, e_eql, e_nel, e_eqt, e_net, e_sublst, e_subtup, e_lenl, e_lent, e_lens, e_int1, e_tupl, e_tupt, e_lstl, e_lstt, e_repr, e_stri, e_strs, e_fvs, e_fvi, e_sll, e_slf, e_slt, e_rvt, e_rvl, e_stl, e_stt, e_sql, e_sqt, e_bnm, e_btp, e_bnil, e_bcons, e_san, e_sac, feedO_eq, g_cells, g_at, g_held, g_count, p_at, p_held, p_count, c_count, c_at, c_held, c_cells, put_same, put_put, List.set_cons_zero, List.set_cons_succ, List.getElem?_cons_zero, List.getElem?_cons_succ, List.map_cons, List.map_nil, List.cons_append, List.nil_append, List.length_cons, List.length_nil, and_true, true_and, decide_true, decide_false, l_feed, startE, List.replicate, Nat.reduceSub, Nat.reduceAdd, List.length_map, Bool.not_true, Bool.not_false, if_true, if_false, Bool.false_eq_true, reduceIte, i_int_non, i_int_bl, i_int_int, i_int_str, i_int_tup, i_int_lst, i_bool_non, i_bool_bl, i_bool_int, i_bool_str, i_bool_tup, i_bool_lst, i_str_non, i_str_bl, i_str_int, i_str_str, i_str_tup, i_str_lst, i_tuple_non, i_tuple_bl, i_tuple_int, i_tuple_str, i_tuple_tup, i_tuple_lst, i_list_non, i_list_bl, i_list_int, i_list_str, i_list_tup, i_list_lst, t0, t1, t2, t3, Int.cast_ofNat_Int, Int.natCast_one, Int.natCast_zero, Int.reduceEq, Int.reduceLT, Int.reduceLE, e_ltS, e_leS, e_inS, e_ninS, e_isN, e_isNN, e_sqS, rs_sh])
      exact hk
    | false =>
      rw [hc] at hk
      (try simp (disch := first | assumption | omega | decide | (constructor <;> first | assumption | omega | decide | fail) | fail) only [WS, e_wnil, WE, WEs, WAnd, WOr, WTs, WFs, WO, WI, e_rs_int, e_rs_str, e_rs_bl, e_rs_non, e_rs_tup, e_rs_lst, e_rs_lsf, e_rs_loc, e_str, e_cint, e_cbl, e_cnon, e_add, e_sub, e_mul, e_mod, e_div, e_pow, e_adds, e_addt, e_addl, e_tbl, e_tnon, e_tint, e_tlst, e_ttup, e_gt, e_ge, e_lt, e_le, e_eqi, e_nei, e_eqs, e_nes, e_eql, e_nel, e_eqt, e_net, e_sublst, e_subtup, e_lenl, e_lent, e_lens, e_int1, e_tupl, e_tupt, e_lstl, e_lstt, e_repr, e_stri, e_strs, e_fvs, e_fvi, e_sll, e_slf, e_slt, e_rvt, e_rvl, e_stl, e_stt, e_sql, e_sqt, e_bnm, e_btp, e_bnil, e_bcons, e_san, e_sac, feedO_eq, g_cells, g_at, g_held, g_count, p_at, p_held, p_count, c_count, c_at, c_held, c_cells, put_same, put_put, List.set_cons_zero, List.set_cons_succ, List.getElem?_cons_zero, List.getElem?_cons_succ, List.map_cons, List.map_nil, List.cons_append, List.nil_append, List.length_cons, List.length_nil, and_true, true_and, decide_true, decide_false, l_feed, startE, List.replicate, Nat.reduceSub, Nat.reduceAdd, List.length_map, Bool.not_true, Bool.not_false, if_true, if_false, Bool.false_eq_true, reduceIte, i_int_non, i_int_bl, i_int_int, i_int_str, i_int_tup, i_int_lst, i_bool_non, i_bool_bl, i_bool_int, i_bool_str, i_bool_tup, i_bool_lst, i_str_non, i_str_bl, i_str_int, i_str_str, i_str_tup, i_str_lst, i_tuple_non, i_tuple_bl, i_tuple_int, i_tuple_str, i_tuple_tup, i_tuple_lst, i_list_non, i_list_bl, i_list_int, i_list_str, i_list_tup, i_list_lst, t0, t1, t2, t3, Int.cast_ofNat_Int, Int.natCast_one, Int.natCast_zero, Int.reduceEq, Int.reduceLT, Int.reduceLE, e_ltS, e_leS, e_inS, e_ninS, e_isN, e_isNN, e_sqS, rs_sh])
      exact hk
  · have hz : ((es.filter fun x => x.row.contains e.name).map fun x => D.str x.name).length ≤ sizeLine := sz_small (by rw [List.length_map]; have := List.length_filter_le (fun x => x.row.contains e.name) es; have := hw.len; omega)
    (try simp (disch := first | assumption | omega | decide | (constructor <;> first | assumption | omega | decide | fail) | fail) only [WS, e_wnil, WE, WEs, WAnd, WOr, WTs, WFs, WO, WI, e_rs_int, e_rs_str, e_rs_bl, e_rs_non, e_rs_tup, e_rs_lst, e_rs_lsf, e_rs_loc, e_str, e_cint, e_cbl, e_cnon, e_add, e_sub, e_mul, e_mod, e_div, e_pow, e_adds, e_addt, e_addl, e_tbl, e_tnon, e_tint, e_tlst, e_ttup, e_gt, e_ge, e_lt, e_le, e_eqi, e_nei, e_eqs, e_nes, e_eql, e_nel, e_eqt, e_net, e_sublst, e_subtup, e_lenl, e_lent, e_lens, e_int1, e_tupl, e_tupt, e_lstl, e_lstt, e_repr, e_stri, e_strs, e_fvs, e_fvi, e_sll, e_slf, e_slt, e_rvt, e_rvl, e_stl, e_stt, e_sql, e_sqt, e_bnm, e_btp, e_bnil, e_bcons, e_san, e_sac, feedO_eq, g_cells, g_at, g_held, g_count, p_at, p_held, p_count, c_count, c_at, c_held, c_cells, put_same, put_put, List.set_cons_zero, List.set_cons_succ, List.getElem?_cons_zero, List.getElem?_cons_succ, List.map_cons, List.map_nil, List.cons_append, List.nil_append, List.length_cons, List.length_nil, and_true, true_and, decide_true, decide_false, l_feed, startE, List.replicate, Nat.reduceSub, Nat.reduceAdd, List.length_map, Bool.not_true, Bool.not_false, if_true, if_false, Bool.false_eq_true, reduceIte, i_int_non, i_int_bl, i_int_int, i_int_str, i_int_tup, i_int_lst, i_bool_non, i_bool_bl, i_bool_int, i_bool_str, i_bool_tup, i_bool_lst, i_str_non, i_str_bl, i_str_int, i_str_str, i_str_tup, i_str_lst, i_tuple_non, i_tuple_bl, i_tuple_int, i_tuple_str, i_tuple_tup, i_tuple_lst, i_list_non, i_list_bl, i_list_int, i_list_str, i_list_tup, i_list_lst, t0, t1, t2, t3, Int.cast_ofNat_Int, Int.natCast_one, Int.natCast_zero, Int.reduceEq, Int.reduceLT, Int.reduceLE, e_ltS, e_leS, e_inS, e_ninS, e_isN, e_isNN, e_sqS, rs_sh, hz])
    exact ⟨S, Le.refl _, q1 e he rfl⟩
end FL

namespace FL.K03
open PySem PySem.Spec PyProof.Rows L2
/-! the text, by places -/
def topS (i : Nat) : Stmt := PySem.Challenge.pw_firstletter_k03_parts_of_webs.main.body.getD i (.Pass ⟨0, 0, 0, 0⟩)
def FNS : List Str := ["names_of", "kinds_by_name", "require_usable", "is_name", "is_name_of", "require_kind", "fee_of", "is_silent", "has_of", "table_of", "senders_to", "_law_start", "_law_draw", "_law_any", "_law_labels", "_law_page", "_law_odds", "_law_are_told", "_law_use", "_law_are_refused", "law"]
def AR : Nat → Nat := fun i => match i with
  | 0 => 1
  | 1 => 1
  | 2 => 3
  | 3 => 1
  | 4 => 2
  | 5 => 3
  | 6 => 2
  | 7 => 2
  | 8 => 2
  | 9 => 2
  | 10 => 2
  | 11 => 1
  | 12 => 2
  | 13 => 2
  | 14 => 2
  | 15 => 2
  | 16 => 0
  | 17 => 1
  | 18 => 1
  | 19 => 2
  | 20 => 1
  | _ => 0
def SHP : Nat → Nat → List Str := fun i => match i with
  | 0 => fun sh => match sh with
    | 0 => ["web"]
    | _ => []
  | 2 => fun sh => match sh with
    | 0 => ["*"]
    | _ => []
  | 5 => fun sh => match sh with
    | 0 => ["*"]
    | _ => []
  | 6 => fun sh => match sh with
    | 0 => ["kind", "web"]
    | _ => []
  | 8 => fun sh => match sh with
    | 0 => ["kind", "web"]
    | _ => []
  | 9 => fun sh => match sh with
    | 0 => ["kind", "web"]
    | _ => []
  | 10 => fun sh => match sh with
    | 0 => ["kind", "web"]
    | _ => []
  | _ => fun _ => []
def dfl_require_usable : List D := [.int (-1)]
def dfl_require_kind : List D := [.str "kind"]
def ORD : Nat → Nat → List D → List D → List D := fun i => match i with
  | 0 => fun sh => match sh with
    | 0 => gP 0 [0]
    | _ => fun _ _ => []
  | 2 => fun sh => match sh with
    | 0 => fun us _ => if us.length = 2 then us ++ (dfl_require_usable.drop 0) else []
    | _ => fun _ _ => []
  | 5 => fun sh => match sh with
    | 0 => fun us _ => if us.length = 2 then us ++ (dfl_require_kind.drop 0) else []
    | _ => fun _ _ => []
  | 6 => fun sh => match sh with
    | 0 => gP 0 [1, 0]
    | _ => fun _ _ => []
  | 8 => fun sh => match sh with
    | 0 => gP 0 [1, 0]
    | _ => fun _ _ => []
  | 9 => fun sh => match sh with
    | 0 => gP 0 [1, 0]
    | _ => fun _ _ => []
  | 10 => fun sh => match sh with
    | 0 => gP 0 [1, 0]
    | _ => fun _ _ => []
  | _ => fun _ _ _ => []
def GLS : List Str := ["LETTERS", "LONGEST_NAME"]
def st_names_of : Sta := ⟨["web", "kind"], defScope (topS 21), fun _ => true, FNS.take 0, GLS, SHP, 0, [], false⟩
def core_names_of : CSs := (.cons (.ret (.bi .tuple (.cons (.comp [1] (.sub (.var 1) (.cst (.int 0))) (.nm 1) (.val (.sub (.var 0) (.cst (.int 0)))) .nil) .nil))) .nil)
theorem sc_names_of : FnScope st_names_of.N ["web"] (defScope (topS 21)) := ⟨rfl, rfl, rfl, by decide +kernel, rfl, by decide +kernel, by decide +kernel⟩
theorem ch_names_of : chSs st_names_of core_names_of (defBody (topS 21)) = true := by decide +kernel
theorem bd_names_of : Bnd "names_of" (topS 21) ["web"] (SHP 0) (ORD 0) := ⟨fun _ _ _ _ _ _ us hl => match us, hl with | [_], _ => rfl, fun sh h => match sh, h with
  | 0, _ => ⟨rfl, 0, [0], rfl, fun _ _ _ _ _ _ us ws hl => match us, ws, gP_len hl (by decide) with | [], [_], _ => rfl⟩
  | _ + 1, h => absurd rfl h⟩
def st_kinds_by_name : Sta := ⟨["web", "kind"], defScope (topS 17), fun _ => true, FNS.take 1, GLS, SHP, 0, [], false⟩
def core_kinds_by_name : CSs := (.cons (.ret (.dcomp [1] (.sub (.var 1) (.cst (.int 0))) (.var 1) (.nm 1) (.val (.sub (.var 0) (.cst (.int 0)))) .nil)) .nil)
theorem sc_kinds_by_name : FnScope st_kinds_by_name.N ["web"] (defScope (topS 17)) := ⟨rfl, rfl, rfl, by decide +kernel, rfl, by decide +kernel, by decide +kernel⟩
theorem ch_kinds_by_name : chSs st_kinds_by_name core_kinds_by_name (defBody (topS 17)) = true := by decide +kernel
theorem bd_kinds_by_name : Bnd "kinds_by_name" (topS 17) ["web"] (SHP 1) (ORD 1) := ⟨fun _ _ _ _ _ _ us hl => match us, hl with | [_], _ => rfl, fun _ h => absurd rfl h⟩
def st_require_usable : Sta := ⟨["is_usable", "word", "at"], defScope (topS 16), fun _ => true, FNS.take 2, GLS, SHP, 2, [("NotUsable", "word", "at")], false⟩
def core_require_usable : CSs := (.cons (.ite (.nt (.var 0)) (.cons (.rse "NotUsable" "word" "at" (.cons (.var 1) (.cons (.var 2) .nil))) .nil) .nil) .nil)
theorem sc_require_usable : FnScope st_require_usable.N ["is_usable", "word", "at"] (defScope (topS 16)) := ⟨rfl, rfl, rfl, by decide +kernel, rfl, by decide +kernel, by decide +kernel⟩
theorem ch_require_usable : chSs st_require_usable core_require_usable (defBody (topS 16)) = true := by decide +kernel
theorem bd_require_usable : BndD "require_usable" (topS 16) ["is_usable", "word", "at"] dfl_require_usable (SHP 2) (ORD 2) := ⟨fun _ _ _ _ _ _ _ us its hl hd => match us, its, hl, hd with | [_, _, _], [_], _, _ => ⟨_, rfl, rfl⟩, fun sh h => match sh, h with
  | 0, _ => ⟨rfl, 2, 0, rfl, by decide, rfl, fun _ _ _ _ _ _ _ us its hl hd => match us, its, hl, hd with | [_, _], [_], _, _ => ⟨_, rfl, rfl⟩⟩
  | _ + 1, h => absurd rfl h⟩
def st_is_name : Sta := ⟨["thing", "sign"], defScope (topS 14), fun _ => true, FNS.take 3, GLS, SHP, 0, [], false⟩
def core_is_name : CSs := (.cons (.ite (.or (.cons (.nt (.isi (.var 0) .str)) (.cons (.nt (.ch .LtE .LtE (.cst (.int 1)) (.bi .len (.cons (.var 0) .nil)) (.glb 1))) .nil))) (.cons (.ret (.cst (.bool false))) .nil) .nil) (.cons (.ret (.bi .all (.cons (.comp [1] (.cmp .In (.var 1) (.glb 0)) (.nm 1) (.val (.var 0)) .nil) .nil))) .nil))
theorem sc_is_name : FnScope st_is_name.N ["thing"] (defScope (topS 14)) := ⟨rfl, rfl, rfl, by decide +kernel, rfl, by decide +kernel, by decide +kernel⟩
theorem ch_is_name : chSs st_is_name core_is_name (defBody (topS 14)) = true := by decide +kernel
theorem bd_is_name : Bnd "is_name" (topS 14) ["thing"] (SHP 3) (ORD 3) := ⟨fun _ _ _ _ _ _ us hl => match us, hl with | [_], _ => rfl, fun _ h => absurd rfl h⟩
def st_is_name_of : Sta := ⟨["web", "thing"], defScope (topS 18), fun _ => true, FNS.take 4, GLS, SHP, 0, [], false⟩
def core_is_name_of : CSs := (.cons (.ret (.and (.cons (.call 3 (.cons (.var 1) .nil)) (.cons (.inK false (.var 1) (.call 1 (.cons (.var 0) .nil))) .nil)))) .nil)
theorem sc_is_name_of : FnScope st_is_name_of.N ["web", "thing"] (defScope (topS 18)) := ⟨rfl, rfl, rfl, by decide +kernel, rfl, by decide +kernel, by decide +kernel⟩
theorem ch_is_name_of : chSs st_is_name_of core_is_name_of (defBody (topS 18)) = true := by decide +kernel
theorem bd_is_name_of : Bnd "is_name_of" (topS 18) ["web", "thing"] (SHP 4) (ORD 4) := ⟨fun _ _ _ _ _ _ us hl => match us, hl with | [_, _], _ => rfl, fun _ h => absurd rfl h⟩
def st_require_kind : Sta := ⟨["web", "kind", "word"], defScope (topS 19), fun _ => true, FNS.take 5, GLS, SHP, 0, [], false⟩
def core_require_kind : CSs := (.cons (.ex (.calld 2 (.cons (.call 4 (.cons (.var 0) (.cons (.var 1) .nil))) (.cons (.var 2) .nil)) 0)) .nil)
theorem sc_require_kind : FnScope st_require_kind.N ["web", "kind", "word"] (defScope (topS 19)) := ⟨rfl, rfl, rfl, by decide +kernel, rfl, by decide +kernel, by decide +kernel⟩
theorem ch_require_kind : chSs st_require_kind core_require_kind (defBody (topS 19)) = true := by decide +kernel
theorem bd_require_kind : BndD "require_kind" (topS 19) ["web", "kind", "word"] dfl_require_kind (SHP 5) (ORD 5) := ⟨fun _ _ _ _ _ _ _ us its hl hd => match us, its, hl, hd with | [_, _, _], [_], _, _ => ⟨_, rfl, rfl⟩, fun sh h => match sh, h with
  | 0, _ => ⟨rfl, 2, 0, rfl, by decide, rfl, fun _ _ _ _ _ _ _ us its hl hd => match us, its, hl, hd with | [_, _], [_], _, _ => ⟨_, rfl, rfl⟩⟩
  | _ + 1, h => absurd rfl h⟩
def st_fee_of : Sta := ⟨["web", "kind"], defScope (topS 22), fun _ => true, FNS.take 6, GLS, SHP, 0, [], false⟩
def core_fee_of : CSs := (.cons (.ex (.calld 5 (.cons (.var 0) (.cons (.var 1) .nil)) 0)) (.cons (.ret (.sub (.dget (.call 1 (.cons (.var 0) .nil)) (.var 1)) (.cst (.int 1)))) .nil))
theorem sc_fee_of : FnScope st_fee_of.N ["web", "kind"] (defScope (topS 22)) := ⟨rfl, rfl, rfl, by decide +kernel, rfl, by decide +kernel, by decide +kernel⟩
theorem ch_fee_of : chSs st_fee_of core_fee_of (defBody (topS 22)) = true := by decide +kernel
theorem bd_fee_of : Bnd "fee_of" (topS 22) ["web", "kind"] (SHP 6) (ORD 6) := ⟨fun _ _ _ _ _ _ us hl => match us, hl with | [_, _], _ => rfl, fun sh h => match sh, h with
  | 0, _ => ⟨rfl, 0, [1, 0], rfl, fun _ _ _ _ _ _ us ws hl => match us, ws, gP_len hl (by decide) with | [], [_, _], _ => rfl⟩
  | _ + 1, h => absurd rfl h⟩
def st_is_silent : Sta := ⟨["web", "kind"], defScope (topS 20), fun _ => true, FNS.take 7, GLS, SHP, 0, [], false⟩
def core_is_silent : CSs := (.cons (.ret (.sub (.dget (.call 1 (.cons (.var 0) .nil)) (.var 1)) (.cst (.int 2)))) .nil)
theorem sc_is_silent : FnScope st_is_silent.N ["web", "kind"] (defScope (topS 20)) := ⟨rfl, rfl, rfl, by decide +kernel, rfl, by decide +kernel, by decide +kernel⟩
theorem ch_is_silent : chSs st_is_silent core_is_silent (defBody (topS 20)) = true := by decide +kernel
theorem bd_is_silent : Bnd "is_silent" (topS 20) ["web", "kind"] (SHP 7) (ORD 7) := ⟨fun _ _ _ _ _ _ us hl => match us, hl with | [_, _], _ => rfl, fun _ h => absurd rfl h⟩
def st_has_of : Sta := ⟨["web", "kind"], defScope (topS 23), fun _ => true, FNS.take 8, GLS, SHP, 0, [], false⟩
def core_has_of : CSs := (.cons (.ex (.calld 5 (.cons (.var 0) (.cons (.var 1) .nil)) 0)) (.cons (.ret (.call 7 (.cons (.var 0) (.cons (.var 1) .nil)))) .nil))
theorem sc_has_of : FnScope st_has_of.N ["web", "kind"] (defScope (topS 23)) := ⟨rfl, rfl, rfl, by decide +kernel, rfl, by decide +kernel, by decide +kernel⟩
theorem ch_has_of : chSs st_has_of core_has_of (defBody (topS 23)) = true := by decide +kernel
theorem bd_has_of : Bnd "has_of" (topS 23) ["web", "kind"] (SHP 8) (ORD 8) := ⟨fun _ _ _ _ _ _ us hl => match us, hl with | [_, _], _ => rfl, fun sh h => match sh, h with
  | 0, _ => ⟨rfl, 0, [1, 0], rfl, fun _ _ _ _ _ _ us ws hl => match us, ws, gP_len hl (by decide) with | [], [_, _], _ => rfl⟩
  | _ + 1, h => absurd rfl h⟩
def st_table_of : Sta := ⟨["web", "kind"], defScope (topS 24), fun _ => true, FNS.take 9, GLS, SHP, 0, [], false⟩
def core_table_of : CSs := (.cons (.ex (.calld 5 (.cons (.var 0) (.cons (.var 1) .nil)) 0)) (.cons (.ret (.sub (.dget (.call 1 (.cons (.var 0) .nil)) (.var 1)) (.cst (.int 3)))) .nil))
theorem sc_table_of : FnScope st_table_of.N ["web", "kind"] (defScope (topS 24)) := ⟨rfl, rfl, rfl, by decide +kernel, rfl, by decide +kernel, by decide +kernel⟩
theorem ch_table_of : chSs st_table_of core_table_of (defBody (topS 24)) = true := by decide +kernel
theorem bd_table_of : Bnd "table_of" (topS 24) ["web", "kind"] (SHP 9) (ORD 9) := ⟨fun _ _ _ _ _ _ us hl => match us, hl with | [_, _], _ => rfl, fun sh h => match sh, h with
  | 0, _ => ⟨rfl, 0, [1, 0], rfl, fun _ _ _ _ _ _ us ws hl => match us, ws, gP_len hl (by decide) with | [], [_, _], _ => rfl⟩
  | _ + 1, h => absurd rfl h⟩
def st_senders_to : Sta := ⟨["web", "kind", "name", "fee", "has", "table"], defScope (topS 25), fun _ => true, FNS.take 10, GLS, SHP, 0, [], false⟩
def core_senders_to : CSs := (.cons (.ex (.calld 5 (.cons (.var 0) (.cons (.var 1) .nil)) 0)) (.cons (.ret (.bi .tuple (.cons (.comp [2, 3, 4, 5] (.var 2) (.tp (.cons (.nm 2) (.cons (.nm 3) (.cons (.nm 4) (.cons (.nm 5) .nil))))) (.val (.sub (.var 0) (.cst (.int 0)))) (.cons (.cmp .In (.var 1) (.var 5)) .nil)) .nil))) .nil))
theorem sc_senders_to : FnScope st_senders_to.N ["web", "kind"] (defScope (topS 25)) := ⟨rfl, rfl, rfl, by decide +kernel, rfl, by decide +kernel, by decide +kernel⟩
theorem ch_senders_to : chSs st_senders_to core_senders_to (defBody (topS 25)) = true := by decide +kernel
theorem bd_senders_to : Bnd "senders_to" (topS 25) ["web", "kind"] (SHP 10) (ORD 10) := ⟨fun _ _ _ _ _ _ us hl => match us, hl with | [_, _], _ => rfl, fun sh h => match sh, h with
  | 0, _ => ⟨rfl, 0, [1, 0], rfl, fun _ _ _ _ _ _ us ws hl => match us, ws, gP_len hl (by decide) with | [], [_, _], _ => rfl⟩
  | _ + 1, h => absurd rfl h⟩
def st__law_start : Sta := ⟨["_law_script"], defScope (topS 27), fun _ => true, FNS.take 11, GLS, SHP, 0, [], false⟩
def core__law_start : CSs := (.cons (.ret (.dct ["cells", "at", "held", "count"] (.cons (.sl (.var 0) .no (.so (.cst (.int 63)))) (.cons (.cst (.int 0)) (.cons (.cst (.int 0)) (.cons (.cst (.int 0)) .nil)))))) .nil)
theorem sc__law_start : FnScope st__law_start.N ["_law_script"] (defScope (topS 27)) := ⟨rfl, rfl, rfl, by decide +kernel, rfl, by decide +kernel, by decide +kernel⟩
theorem ch__law_start : chSs st__law_start core__law_start (defBody (topS 27)) = true := by decide +kernel
theorem bd__law_start : Bnd "_law_start" (topS 27) ["_law_script"] (SHP 11) (ORD 11) := ⟨fun _ _ _ _ _ _ us hl => match us, hl with | [_], _ => rfl, fun _ h => absurd rfl h⟩
def st__law_draw : Sta := ⟨["_law_feed", "_law_many", "_law_count", "_law_cell", "_law_mixed", "_law_digit", "_law_cells", "_law_at"], defScope (topS 28), fun _ => true, FNS.take 12, GLS, SHP, 0, [], false⟩
def core__law_draw : CSs := (.cons (.set (.nm 2) (.bin .Add (.dget (.var 0) (.cst (.str "count"))) (.cst (.int 1)))) (.cons (.put (.var 0) (.cst (.str "count")) (.var 2)) (.cons (.ite (.cmp .Gt (.dget (.var 0) (.cst (.str "held"))) (.cst (.int 0))) (.cons (.set (.nm 5) (.bin .Mod (.bi .int1 (.cons (.dget (.var 0) (.cst (.str "held"))) .nil)) (.var 1))) (.cons (.put (.var 0) (.cst (.str "held")) (.bin .FloorDiv (.dget (.var 0) (.cst (.str "held"))) (.var 1))) (.cons (.ret (.var 5)) .nil))) .nil) (.cons (.par [6, 7] (.cons (.dget (.var 0) (.cst (.str "cells"))) (.cons (.dget (.var 0) (.cst (.str "at"))) .nil))) (.cons (.put (.var 0) (.cst (.str "at")) (.bin .Add (.var 7) (.cst (.int 1)))) (.cons (.set (.nm 3) (.ite (.cmp .NotEq (.var 6) (.lst .nil)) (.sub (.var 6) (.bin .Mod (.bi .int1 (.cons (.var 7) .nil)) (.bi .len (.cons (.var 6) .nil)))) (.cst (.int 359)))) (.cons (.ite (.and (.cons (.cmp .GtE (.var 3) (.bin .Pow (.cst (.int 10)) (.cst (.int 18)))) (.cons (.cmp .Lt (.var 7) (.bi .len (.cons (.var 6) .nil))) .nil))) (.cons (.put (.var 0) (.cst (.str "held")) (.bin .FloorDiv (.var 3) (.var 1))) (.cons (.ret (.bin .Mod (.bi .int1 (.cons (.var 3) .nil)) (.var 1))) .nil)) .nil) (.cons (.set (.nm 4) (.bin .Mod (.bi .int1 (.cons (.bin .Pow (.bin .Add (.bin .Add (.bin .Mod (.bi .int1 (.cons (.var 3) .nil)) (.cst (.int 1000000087))) (.bin .Mult (.cst (.int 40031)) (.var 2))) (.cst (.int 1021))) (.cst (.int 2))) .nil)) (.cst (.int 2147483629)))) (.cons (.set (.nm 4) (.bin .Mod (.bi .int1 (.cons (.bin .Pow (.bin .Add (.bin .Add (.var 4) (.bin .Mult (.bin .Mult (.cst (.int 7019)) (.var 2)) (.var 2))) (.cst (.int 227))) (.cst (.int 3))) .nil)) (.cst (.int 2147483587)))) (.cons (.ret (.bin .Mod (.bi .int1 (.cons (.bin .FloorDiv (.var 4) (.cst (.int 64))) .nil)) (.var 1))) .nil))))))))))
theorem sc__law_draw : FnScope st__law_draw.N ["_law_feed", "_law_many"] (defScope (topS 28)) := ⟨rfl, rfl, rfl, by decide +kernel, rfl, by decide +kernel, by decide +kernel⟩
theorem ch__law_draw : chSs st__law_draw core__law_draw (defBody (topS 28)) = true := by decide +kernel
theorem bd__law_draw : Bnd "_law_draw" (topS 28) ["_law_feed", "_law_many"] (SHP 12) (ORD 12) := ⟨fun _ _ _ _ _ _ us hl => match us, hl with | [_, _], _ => rfl, fun _ h => absurd rfl h⟩
def st__law_any : Sta := ⟨["_law_feed", "_law_some"], defScope (topS 29), fun _ => true, FNS.take 13, GLS, SHP, 0, [], false⟩
def core__law_any : CSs := (.cons (.ret (.sub (.var 1) (.call 12 (.cons (.var 0) (.cons (.bi .len (.cons (.var 1) .nil)) .nil))))) .nil)
theorem sc__law_any : FnScope st__law_any.N ["_law_feed", "_law_some"] (defScope (topS 29)) := ⟨rfl, rfl, rfl, by decide +kernel, rfl, by decide +kernel, by decide +kernel⟩
theorem ch__law_any : chSs st__law_any core__law_any (defBody (topS 29)) = true := by decide +kernel
theorem bd__law_any : Bnd "_law_any" (topS 29) ["_law_feed", "_law_some"] (SHP 13) (ORD 13) := ⟨fun _ _ _ _ _ _ us hl => match us, hl with | [_, _], _ => rfl, fun _ h => absurd rfl h⟩
def st__law_labels : Sta := ⟨["_law_feed", "_law_many", "_law_pool", "_law_first", "_law_stride", "_law_k"], defScope (topS 30), fun _ => true, FNS.take 14, GLS, SHP, 0, [], false⟩
def core__law_labels : CSs := (.cons (.set (.nm 2) (.call 13 (.cons (.var 0) (.cons (.lst (.cons (.lst (.cons (.cst (.str "a")) (.cons (.cst (.str "b")) (.cons (.cst (.str "c")) (.cons (.cst (.str "d")) (.cons (.cst (.str "e")) (.cons (.cst (.str "f")) (.cons (.cst (.str "g")) .nil)))))))) (.cons (.lst (.cons (.cst (.str "ab")) (.cons (.cst (.str "a")) (.cons (.cst (.str "abc")) (.cons (.cst (.str "b")) (.cons (.cst (.str "ba")) (.cons (.cst (.str "z")) (.cons (.cst (.str "abcdefgh")) .nil)))))))) (.cons (.lst (.cons (.cst (.str "kind")) (.cons (.cst (.str "asker")) (.cons (.cst (.str "has")) (.cons (.cst (.str "not")) (.cons (.cst (.str "store")) (.cons (.cst (.str "on")) (.cons (.cst (.str "guard")) .nil)))))))) (.cons (.lst (.cons (.cst (.str "m")) (.cons (.cst (.str "zoo")) (.cons (.cst (.str "keeper")) (.cons (.cst (.str "s")) (.cons (.cst (.str "st")) (.cons (.cst (.str "zz")) (.cons (.cst (.str "note")) .nil)))))))) .nil))))) .nil)))) (.cons (.set (.tp (.cons (.nm 3) (.cons (.nm 4) .nil))) (.tup (.cons (.call 12 (.cons (.var 0) (.cons (.cst (.int 7)) .nil))) (.cons (.bin .Add (.cst (.int 1)) (.call 12 (.cons (.var 0) (.cons (.cst (.int 6)) .nil)))) .nil)))) (.cons (.ret (.bi .sorted (.cons (.comp [5] (.sub (.var 2) (.bin .Mod (.bi .int1 (.cons (.bin .Add (.var 3) (.bin .Mult (.var 5) (.var 4))) .nil)) (.cst (.int 7)))) (.nm 5) (.rng1 (.var 1)) .nil) .nil))) .nil)))
theorem sc__law_labels : FnScope st__law_labels.N ["_law_feed", "_law_many"] (defScope (topS 30)) := ⟨rfl, rfl, rfl, by decide +kernel, rfl, by decide +kernel, by decide +kernel⟩
theorem ch__law_labels : chSs st__law_labels core__law_labels (defBody (topS 30)) = true := by decide +kernel
theorem bd__law_labels : Bnd "_law_labels" (topS 30) ["_law_feed", "_law_many"] (SHP 14) (ORD 14) := ⟨fun _ _ _ _ _ _ us hl => match us, hl with | [_, _], _ => rfl, fun _ h => absurd rfl h⟩
def st__law_page : Sta := ⟨["_law_feed", "_law_most", "_law_labels_here", "_law_label", "_law_asks", "_law_entries", "_law_holds", "_law_row", "_law_mate"], defScope (topS 31), fun _ => true, FNS.take 15, GLS, SHP, 0, [], false⟩
def core__law_page : CSs := (.cons (.set (.nm 2) (.call 14 (.cons (.var 0) (.cons (.bin .Add (.cst (.int 1)) (.call 12 (.cons (.var 0) (.cons (.var 1) .nil)))) .nil)))) (.cons (.par [4, 5] (.cons (.call 13 (.cons (.var 0) (.cons (.var 2) .nil))) (.cons (.live (.lst .nil)) .nil))) (.cons (.for (.nm 3) (.val (.var 2)) (.cons (.set (.nm 6) (.and (.cons (.cmp .Eq (.call 12 (.cons (.var 0) (.cons (.cst (.int 3)) .nil))) (.cst (.int 0))) (.cons (.cmp .NotEq (.var 3) (.var 4)) .nil)))) (.cons (.set (.nm 7) (.comp [8] (.var 8) (.nm 8) (.val (.var 2)) (.cons (.cmp .Eq (.call 12 (.cons (.var 0) (.cons (.cst (.int 3)) .nil))) (.cst (.int 0))) .nil))) (.cons (.ex (.app (.var 5) (.tup (.cons (.var 3) (.cons (.call 13 (.cons (.var 0) (.cons (.lst (.cons (.cst (.int 1)) (.cons (.cst (.int 1)) (.cons (.cst (.int 1)) (.cons (.cst (.int 2)) (.cons (.cst (.int 3)) (.cons (.cst (.int 9)) (.cons (.cst (.int 10)) (.cons (.cst (.int 12)) (.cons (.bin .Pow (.cst (.int 10)) (.cst (.int 59))) .nil)))))))))) .nil))) (.cons (.var 6) (.cons (.bi .tuple (.cons (.var 7) .nil)) .nil))))))) .nil)))) (.cons (.ret (.tup (.cons (.bi .tuple (.cons (.var 5) .nil)) (.cons (.var 4) .nil)))) .nil))))
theorem sc__law_page : FnScope st__law_page.N ["_law_feed", "_law_most"] (defScope (topS 31)) := ⟨rfl, rfl, rfl, by decide +kernel, rfl, by decide +kernel, by decide +kernel⟩
theorem ch__law_page : chSs st__law_page core__law_page (defBody (topS 31)) = true := by decide +kernel
theorem bd__law_page : Bnd "_law_page" (topS 31) ["_law_feed", "_law_most"] (SHP 15) (ORD 15) := ⟨fun _ _ _ _ _ _ us hl => match us, hl with | [_, _], _ => rfl, fun _ h => absurd rfl h⟩
def st__law_odds : Sta := ⟨[], defScope (topS 35), fun _ => true, FNS.take 16, GLS, SHP, 0, [], false⟩
def core__law_odds : CSs := (.cons (.ret (.lst (.cons (.cst .none) (.cons (.cst (.bool true)) (.cons (.cst (.int 0)) (.cons (.cst (.str "")) (.cons (.cst (.str "nobody")) (.cons (.cst (.str "A")) (.cons (.cst (.str "a b")) (.cons (.cst (.str "abcdefghi")) (.cons (.tup .nil) (.cons (.tup (.cons (.cst (.str "a")) .nil)) (.cons (.lst (.cons (.cst (.str "a")) .nil)) (.cons (.tup (.cons (.cst (.str "a")) (.cons (.cst (.int 1)) (.cons (.cst (.bool false)) (.cons (.tup .nil) .nil))))) (.cons (.bin .Pow (.cst (.int 10)) (.cst (.int 59))) .nil))))))))))))))) .nil)
theorem sc__law_odds : FnScope st__law_odds.N [] (defScope (topS 35)) := ⟨rfl, rfl, rfl, by decide +kernel, rfl, by decide +kernel, by decide +kernel⟩
theorem ch__law_odds : chSs st__law_odds core__law_odds (defBody (topS 35)) = true := by decide +kernel
theorem bd__law_odds : Bnd "_law_odds" (topS 35) [] (SHP 16) (ORD 16) := ⟨fun _ _ _ _ _ _ us hl => match us, hl with | [], _ => rfl, fun _ h => absurd rfl h⟩
def st__law_are_told : Sta := ⟨["_law_page_here", "_law_label", "_law_cost", "_law_holds", "_law_row", "_law_told", "_law_late", "_law_due", "_law_entry"], defScope (topS 36), fun _ => true, FNS.take 17, GLS, SHP, 0, [], false⟩
def core__law_are_told : CSs := (.cons (.ite (.cmp .NotEq (.bi .repr (.cons (.call 0 (.cons (.var 0) .nil)) .nil)) (.bi .repr (.cons (.bi .tuple (.cons (.comp [8] (.sub (.var 8) (.cst (.int 0))) (.nm 8) (.val (.sub (.var 0) (.cst (.int 0)))) .nil) .nil)) .nil))) (.cons (.ret (.cst (.bool false))) .nil) .nil) (.cons (.for (.tp (.cons (.nm 1) (.cons (.nm 2) (.cons (.nm 3) (.cons (.nm 4) .nil))))) (.val (.sub (.var 0) (.cst (.int 0)))) (.cons (.set (.nm 5) (.lst (.cons (.call 6 (.cons (.var 0) (.cons (.var 1) .nil))) (.cons (.call 8 (.cons (.var 0) (.cons (.var 1) .nil))) (.cons (.call 9 (.cons (.var 0) (.cons (.var 1) .nil))) (.cons (.call 10 (.cons (.var 0) (.cons (.var 1) .nil))) .nil)))))) (.cons (.setN 6 (.lst (.cons (.callk 6 .nil (.cons (.var 1) (.cons (.var 0) .nil)) 0) (.cons (.callk 8 .nil (.cons (.var 1) (.cons (.var 0) .nil)) 0) (.cons (.callk 9 .nil (.cons (.var 1) (.cons (.var 0) .nil)) 0) .nil))))) (.cons (.ex (.app (.var 6) (.callk 10 .nil (.cons (.var 1) (.cons (.var 0) .nil)) 0))) (.cons (.set (.nm 7) (.lst (.cons (.var 2) (.cons (.var 3) (.cons (.var 4) (.cons (.bi .tuple (.cons (.comp [8] (.sub (.var 8) (.cst (.int 0))) (.nm 8) (.val (.sub (.var 0) (.cst (.int 0)))) (.cons (.cmp .In (.var 1) (.sub (.var 8) (.cst (.int 3)))) .nil)) .nil)) .nil)))))) (.cons (.ite (.cmp .NotEq (.bi .repr (.cons (.lst (.cons (.var 5) (.cons (.frz (.var 6)) .nil))) .nil)) (.bi .repr (.cons (.lst (.cons (.var 7) (.cons (.var 7) .nil))) .nil))) (.cons (.ret (.cst (.bool false))) .nil) .nil) .nil)))))) (.cons (.ret (.cst (.bool true))) .nil)))
theorem sc__law_are_told : FnScope st__law_are_told.N ["_law_page_here"] (defScope (topS 36)) := ⟨rfl, rfl, rfl, by decide +kernel, rfl, by decide +kernel, by decide +kernel⟩
theorem ch__law_are_told : chSs st__law_are_told core__law_are_told (defBody (topS 36)) = true := by decide +kernel
theorem bd__law_are_told : Bnd "_law_are_told" (topS 36) ["_law_page_here"] (SHP 17) (ORD 17) := ⟨fun _ _ _ _ _ _ us hl => match us, hl with | [_], _ => rfl, fun _ h => absurd rfl h⟩
def st__law_use : Sta := ⟨["_law_word"], defScope (topS 34), fun _ => true, FNS.take 18, GLS, SHP, 0, [], false⟩
def core__law_use : CSs := (.cons (.ret (.tup (.cons (.cst (.str "no")) (.cons (.cst (.str "use")) (.cons (.var 0) (.cons (.neg (.cst (.int 1))) .nil)))))) .nil)
theorem sc__law_use : FnScope st__law_use.N ["_law_word"] (defScope (topS 34)) := ⟨rfl, rfl, rfl, by decide +kernel, rfl, by decide +kernel, by decide +kernel⟩
theorem ch__law_use : chSs st__law_use core__law_use (defBody (topS 34)) = true := by decide +kernel
theorem bd__law_use : Bnd "_law_use" (topS 34) ["_law_word"] (SHP 18) (ORD 18) := ⟨fun _ _ _ _ _ _ us hl => match us, hl with | [_], _ => rfl, fun _ h => absurd rfl h⟩
def st__law_are_refused : Sta := ⟨["_law_page_here", "_law_odd", "_law_told"], defScope (topS 37), fun _ => true, FNS.take 19, GLS, SHP, 2, [], true⟩
def core__law_are_refused : CSs := (.cons (.setN 2 (.lst (.cons (.said (.call 6 (.cons (.var 0) (.cons (.var 1) .nil)))) .nil))) (.cons (.ex (.app (.var 2) (.said (.call 8 (.cons (.var 0) (.cons (.var 1) .nil)))))) (.cons (.ex (.app (.var 2) (.said (.call 9 (.cons (.var 0) (.cons (.var 1) .nil)))))) (.cons (.ex (.app (.var 2) (.said (.call 10 (.cons (.var 0) (.cons (.var 1) .nil)))))) (.cons (.ret (.cmp .Eq (.bi .repr (.cons (.var 2) .nil)) (.bi .repr (.cons (.bin .Mult (.lst (.cons (.call 18 (.cons (.cst (.str "kind")) .nil)) .nil)) (.cst (.int 4))) .nil)))) .nil)))))
theorem sc__law_are_refused : FnScope st__law_are_refused.N ["_law_page_here", "_law_odd"] (defScope (topS 37)) := ⟨rfl, rfl, rfl, by decide +kernel, rfl, by decide +kernel, by decide +kernel⟩
theorem ch__law_are_refused : chSs st__law_are_refused core__law_are_refused (defBody (topS 37)) = true := by decide +kernel
theorem bd__law_are_refused : Bnd "_law_are_refused" (topS 37) ["_law_page_here", "_law_odd"] (SHP 19) (ORD 19) := ⟨fun _ _ _ _ _ _ us hl => match us, hl with | [_, _], _ => rfl, fun _ h => absurd rfl h⟩
def st_law : Sta := ⟨["_law_script", "_law_feed", "_law_lap", "_law_lone", "_law_told", "_law_page_here", "_law_kept", "_law_odds_here", "_law_odd"], defScope (topS 38), fun _ => true, FNS.take 20, GLS, SHP, 0, [], false⟩
def core_law : CSs := (.cons (.set (.nm 1) (.call 11 (.cons (.var 0) .nil))) (.cons (.for (.nm 2) (.rng1 (.cst (.int 3))) (.cons (.set (.nm 5) (.call 15 (.cons (.var 1) (.cons (.cst (.int 5)) .nil)))) (.cons (.set (.nm 6) (.bi .repr (.cons (.var 5) .nil))) (.cons (.set (.nm 7) (.bin .Add (.call 16 .nil) (.lst (.cons (.sub (.sub (.var 5) (.cst (.int 0))) (.cst (.int 0))) (.cons (.sub (.sub (.sub (.var 5) (.cst (.int 0))) (.cst (.int 0))) (.cst (.int 3))) (.cons (.bin .Add (.sub (.var 5) (.cst (.int 1))) (.cst (.str "q"))) (.cons (.tup (.cons (.sub (.var 5) (.cst (.int 1))) .nil)) (.cons (.lst (.cons (.sub (.var 5) (.cst (.int 1))) .nil)) .nil)))))))) (.cons (.ite (.or (.cons (.nt (.call 17 (.cons (.var 5) .nil))) (.cons (.cmp .NotEq (.comp [8] (.var 8) (.nm 8) (.val (.var 7)) (.cons (.nt (.call 19 (.cons (.var 5) (.cons (.var 8) .nil)))) .nil)) (.lst .nil)) .nil))) (.cons (.ret (.cst (.bool false))) .nil) .nil) (.cons (.ite (.or (.cons (.cmp .NotEq (.bi .repr (.cons (.callk 0 .nil (.cons (.var 5) .nil) 0) .nil)) (.bi .repr (.cons (.call 0 (.cons (.var 5) .nil)) .nil))) (.cons (.cmp .NotEq (.bi .repr (.cons (.var 5) .nil)) (.var 6)) .nil))) (.cons (.ret (.cst (.bool false))) .nil) .nil) .nil)))))) (.cons (.set (.nm 3) (.tup (.cons (.tup (.cons (.tup (.cons (.cst (.str "b")) (.cons (.cst (.int 3)) (.cons (.cst (.bool false)) (.cons (.tup (.cons (.cst (.str "b")) .nil)) .nil))))) .nil)) (.cons (.cst (.str "b")) .nil)))) (.cons (.set (.nm 4) (.lst (.cons (.call 0 (.cons (.var 3) .nil)) (.cons (.call 6 (.cons (.var 3) (.cons (.cst (.str "b")) .nil))) (.cons (.call 8 (.cons (.var 3) (.cons (.cst (.str "b")) .nil))) (.cons (.call 9 (.cons (.var 3) (.cons (.cst (.str "b")) .nil))) (.cons (.call 10 (.cons (.var 3) (.cons (.cst (.str "b")) .nil))) .nil))))))) (.cons (.ret (.cmp .Eq (.bi .repr (.cons (.var 4) .nil)) (.bi .repr (.cons (.lst (.cons (.tup (.cons (.cst (.str "b")) .nil)) (.cons (.cst (.int 3)) (.cons (.cst (.bool false)) (.cons (.tup (.cons (.cst (.str "b")) .nil)) (.cons (.tup (.cons (.cst (.str "b")) .nil)) .nil)))))) .nil)))) .nil)))))
theorem sc_law : FnScope st_law.N ["_law_script"] (defScope (topS 38)) := ⟨rfl, rfl, rfl, by decide +kernel, rfl, by decide +kernel, by decide +kernel⟩
theorem ch_law : chSs st_law core_law (defBody (topS 38)) = true := by decide +kernel
theorem bd_law : Bnd "law" (topS 38) ["_law_script"] (SHP 20) (ORD 20) := ⟨fun _ _ _ _ _ _ us hl => match us, hl with | [_], _ => rfl, fun _ h => absurd rfl h⟩
theorem sc__law_said : FnScope (["_law_ask", "_law_error"] : List Str) ["_law_ask"] (defScope (topS 33)) := ⟨rfl, rfl, rfl, by decide +kernel, rfl, by decide +kernel, by decide +kernel⟩
theorem bp__law_said : ∀ (kV doc pm : Value) (an : Option Addr) (cdv ct : Value) (us : List Value), us.length = (["_law_ask"] : List Str).length → bindArgs (PySem.W.fnOf "_law_said" "_law_said" (defArgs (topS 33)) (defBody (topS 33)) (defScope (topS 33)) .none kV doc pm an cdv ct) ⟨us, []⟩ = pure ((["_law_ask"] : List Str).zip us) := fun _ _ _ _ _ _ us hl => match us, hl with | [_], _ => rfl
theorem sc__law_refusal : FnScope (["_law_error", "_law_families"] : List Str) ["_law_error"] (defScope (topS 32)) := ⟨rfl, rfl, rfl, by decide +kernel, rfl, by decide +kernel, by decide +kernel⟩
theorem bp__law_refusal : ∀ (kV doc pm : Value) (an : Option Addr) (cdv ct : Value) (us : List Value), us.length = (["_law_error"] : List Str).length → bindArgs (PySem.W.fnOf "_law_refusal" "_law_refusal" (defArgs (topS 32)) (defBody (topS 32)) (defScope (topS 32)) .none kV doc pm an cdv ct) ⟨us, []⟩ = pure ((["_law_error"] : List Str).zip us) := fun _ _ _ _ _ _ us hl => match us, hl with | [_], _ => rfl
theorem rsc : refScB (defScope (topS 32)) = true := by decide +kernel
theorem ssc : saidScB (defScope (topS 33)) = true := by decide +kernel
end FL.K03

namespace FL.K03
open PySem PySem.Spec PyProof.Rows L2
def sp1 (f : D → Bool) : Spec := fun ds S Q _ => ∃ d, ds = [d] ∧ shD d ∧ Q (.bl (f d)) S
def useD (w : Str) : D := .tup [.str "no", .str "use", .str w, .int (-1)]
def oddsD : List D := [.non, .bl true, .int 0, .str "", .str "nobody", .str "A", .str "a b", .str "abcdefghi", .tup [], .tup [.str "a"], .lst [.str "a"], .tup [.str "a", .int 1, .bl false, .tup []], .int (10 ^ 59)]
def sp_names_of : Spec := spNames
def sp_kinds_by_name : Spec := spKbn
def sp_require_usable : Spec := spReq
def sp_is_name : Spec := sp1 isNam
def sp_is_name_of : Spec := spNameOf
def sp_require_kind : Spec := spReqK
def sp_fee_of : Spec := spPart fun _ e => .int e.fee
def sp_is_silent : Spec := spSilent
def sp_has_of : Spec := spPart fun _ e => .bl e.has
def sp_table_of : Spec := spPart fun _ e => .tup (e.row.map D.str)
def sp_senders_to : Spec := spPart sendD
def sp__law_start : Spec := spStart
def sp__law_draw : Spec := spDraw
def sp__law_any : Spec := spAny
def sp__law_labels : Spec := spLabels
def sp__law_page : Spec := spPage
def sp__law_odds : Spec := fun ds S Q _ => ds = [] ∧ Q (.lst oddsD) S
def sp__law_are_told : Spec := fun ds S Q _ => ∃ es asks, ds = [webD es asks] ∧ Wb es ∧ Q (.bl true) S
def sp__law_use : Spec := fun ds S Q _ => ∃ w, ds = [.str w] ∧ Q (useD w) S
def sp__law_are_refused : Spec := fun ds S Q _ => ∃ es asks d, ds = [webD es asks, d] ∧ Wb es ∧ shD d ∧ knD es d = false ∧ Q (.bl true) S
def sp_law : Spec := spLaw
def gl_LETTERS : D := .str LET
def gl_LONGEST_NAME : D := .int 8
def FN : Nat → Spec := fun i => match i with
  | 0 => sp_names_of
  | 1 => sp_kinds_by_name
  | 2 => sp_require_usable
  | 3 => sp_is_name
  | 4 => sp_is_name_of
  | 5 => sp_require_kind
  | 6 => sp_fee_of
  | 7 => sp_is_silent
  | 8 => sp_has_of
  | 9 => sp_table_of
  | 10 => sp_senders_to
  | 11 => sp__law_start
  | 12 => sp__law_draw
  | 13 => sp__law_any
  | 14 => sp__law_labels
  | 15 => sp__law_page
  | 16 => sp__law_odds
  | 17 => sp__law_are_told
  | 18 => sp__law_use
  | 19 => sp__law_are_refused
  | 20 => sp_law
  | _ => fun _ _ _ _ => False
def GL : Nat → Option D := fun i => match i with
  | 0 => some gl_LETTERS
  | 1 => some gl_LONGEST_NAME
  | _ => none
def G : Ctx := ⟨FN, GL, AR, ORD⟩
theorem f_names_of : G.fn 0 = sp_names_of := rfl
theorem r_names_of : G.ar 0 = 1 := rfl
theorem o_names_of {x : D} : G.ord 0 0 [] [x] = [x] := rfl
theorem f_kinds_by_name : G.fn 1 = sp_kinds_by_name := rfl
theorem r_kinds_by_name : G.ar 1 = 1 := rfl
theorem f_require_usable : G.fn 2 = sp_require_usable := rfl
theorem r_require_usable : G.ar 2 = 3 := rfl
theorem o_require_usable {x0 x1 : D} : G.ord 2 0 [x0, x1] [] = [x0, x1, .int (-1)] := rfl
theorem f_is_name : G.fn 3 = sp_is_name := rfl
theorem r_is_name : G.ar 3 = 1 := rfl
theorem f_is_name_of : G.fn 4 = sp_is_name_of := rfl
theorem r_is_name_of : G.ar 4 = 2 := rfl
theorem f_require_kind : G.fn 5 = sp_require_kind := rfl
theorem r_require_kind : G.ar 5 = 3 := rfl
theorem o_require_kind {x0 x1 : D} : G.ord 5 0 [x0, x1] [] = [x0, x1, .str "kind"] := rfl
theorem f_fee_of : G.fn 6 = sp_fee_of := rfl
theorem r_fee_of : G.ar 6 = 2 := rfl
theorem o_fee_of {w0 w1 : D} : G.ord 6 0 [] [w0, w1] = [w1, w0] := rfl
theorem f_is_silent : G.fn 7 = sp_is_silent := rfl
theorem r_is_silent : G.ar 7 = 2 := rfl
theorem f_has_of : G.fn 8 = sp_has_of := rfl
theorem r_has_of : G.ar 8 = 2 := rfl
theorem o_has_of {w0 w1 : D} : G.ord 8 0 [] [w0, w1] = [w1, w0] := rfl
theorem f_table_of : G.fn 9 = sp_table_of := rfl
theorem r_table_of : G.ar 9 = 2 := rfl
theorem o_table_of {w0 w1 : D} : G.ord 9 0 [] [w0, w1] = [w1, w0] := rfl
theorem f_senders_to : G.fn 10 = sp_senders_to := rfl
theorem r_senders_to : G.ar 10 = 2 := rfl
theorem o_senders_to {w0 w1 : D} : G.ord 10 0 [] [w0, w1] = [w1, w0] := rfl
theorem f__law_start : G.fn 11 = sp__law_start := rfl
theorem r__law_start : G.ar 11 = 1 := rfl
theorem f__law_draw : G.fn 12 = sp__law_draw := rfl
theorem r__law_draw : G.ar 12 = 2 := rfl
theorem f__law_any : G.fn 13 = sp__law_any := rfl
theorem r__law_any : G.ar 13 = 2 := rfl
theorem f__law_labels : G.fn 14 = sp__law_labels := rfl
theorem r__law_labels : G.ar 14 = 2 := rfl
theorem f__law_page : G.fn 15 = sp__law_page := rfl
theorem r__law_page : G.ar 15 = 2 := rfl
theorem f__law_odds : G.fn 16 = sp__law_odds := rfl
theorem r__law_odds : G.ar 16 = 0 := rfl
theorem f__law_are_told : G.fn 17 = sp__law_are_told := rfl
theorem r__law_are_told : G.ar 17 = 1 := rfl
theorem f__law_use : G.fn 18 = sp__law_use := rfl
theorem r__law_use : G.ar 18 = 1 := rfl
theorem f__law_are_refused : G.fn 19 = sp__law_are_refused := rfl
theorem r__law_are_refused : G.ar 19 = 2 := rfl
theorem f_law : G.fn 20 = sp_law := rfl
theorem r_law : G.ar 20 = 1 := rfl
theorem g0 : G.gl 0 = some (.str LET) := rfl
theorem g1 : G.gl 1 = some (.int 8) := rfl
theorem body_is_name : BodyOk G core_is_name 2 1 sp_is_name := by
  intro ds S Q R0 hl hsp
  obtain ⟨d, rfl, hd, hq⟩ := hsp
  unfold core_is_name
  show WSs _ _ _ _ _ _; rw [WSs]
  cases d with
  | loc a => exact hd.elim
  | lsf a => exact hd.elim
  | str s =>
    have e1 : isNam (.str s) = (decide (1 ≤ s.length ∧ s.length ≤ 8) && s.cps.toList.all inL) := rfl
    by_cases h1 : (1 : Int) ≤ (s.length : Int)
    · by_cases h8 : (s.length : Int) ≤ 8
      · (try simp (disch := first | assumption | omega | decide | (constructor <;> first | assumption | omega | decide | fail) | fail) only [WS, e_wnil, WE, WEs, WAnd, WOr, WTs, WFs, WO, WI, e_rs_int, e_rs_str, e_rs_bl, e_rs_non, e_rs_tup, e_rs_lst, e_rs_lsf, e_rs_loc, e_str, e_cint, e_cbl, e_cnon, e_add, e_sub, e_mul, e_mod, e_div, e_pow, e_adds, e_addt, e_addl, e_tbl, e_tnon, e_tint, e_tlst, e_ttup, e_gt, e_ge, e_lt, e_le, e_eqi, e_nei, e_eqs, e_nes, e_eql, e_nel, e_eqt, e_net, e_sublst, e_subtup, e_lenl, e_lent, e_lens, e_int1, e_tupl, e_tupt, e_lstl, e_lstt, e_repr, e_stri, e_strs, e_fvs, e_fvi, e_sll, e_slf, e_slt, e_rvt, e_rvl, e_stl, e_stt, e_sql, e_sqt, e_bnm, e_btp, e_bnil, e_bcons, e_san, e_sac, feedO_eq, g_cells, g_at, g_held, g_count, p_at, p_held, p_count, c_count, c_at, c_held, c_cells, put_same, put_put, List.set_cons_zero, List.set_cons_succ, List.getElem?_cons_zero, List.getElem?_cons_succ, List.map_cons, List.map_nil, List.cons_append, List.nil_append, List.length_cons, List.length_nil, and_true, true_and, decide_true, decide_false, l_feed, startE, List.replicate, Nat.reduceSub, Nat.reduceAdd, List.length_map, Bool.not_true, Bool.not_false, if_true, if_false, Bool.false_eq_true, reduceIte, i_int_non, i_int_bl, i_int_int, i_int_str, i_int_tup, i_int_lst, i_bool_non, i_bool_bl, i_bool_int, i_bool_str, i_bool_tup, i_bool_lst, i_str_non, i_str_bl, i_str_int, i_str_str, i_str_tup, i_str_lst, i_tuple_non, i_tuple_bl, i_tuple_int, i_tuple_str, i_tuple_tup, i_tuple_lst, i_list_non, i_list_bl, i_list_int, i_list_str, i_list_tup, i_list_lst, t0, t1, t2, t3, Int.cast_ofNat_Int, Int.natCast_one, Int.natCast_zero, Int.reduceEq, Int.reduceLT, Int.reduceLE, e_ltS, e_leS, e_inS, e_ninS, e_isN, e_isNN, e_sqS, rs_sh, g1, h1, h8])
        show WSs _ _ _ _ _ _; rw [WSs]
        (try simp (disch := first | assumption | omega | decide | (constructor <;> first | assumption | omega | decide | fail) | fail) only [WS, e_wnil, WE, WEs, WAnd, WOr, WTs, WFs, WO, WI, e_rs_int, e_rs_str, e_rs_bl, e_rs_non, e_rs_tup, e_rs_lst, e_rs_lsf, e_rs_loc, e_str, e_cint, e_cbl, e_cnon, e_add, e_sub, e_mul, e_mod, e_div, e_pow, e_adds, e_addt, e_addl, e_tbl, e_tnon, e_tint, e_tlst, e_ttup, e_gt, e_ge, e_lt, e_le, e_eqi, e_nei, e_eqs, e_nes, e_eql, e_nel, e_eqt, e_net, e_sublst, e_subtup, e_lenl, e_lent, e_lens, e_int1, e_tupl, e_tupt, e_lstl, e_lstt, e_repr, e_stri, e_strs, e_fvs, e_fvi, e_sll, e_slf, e_slt, e_rvt, e_rvl, e_stl, e_stt, e_sql, e_sqt, e_bnm, e_btp, e_bnil, e_bcons, e_san, e_sac, feedO_eq, g_cells, g_at, g_held, g_count, p_at, p_held, p_count, c_count, c_at, c_held, c_cells, put_same, put_put, List.set_cons_zero, List.set_cons_succ, List.getElem?_cons_zero, List.getElem?_cons_succ, List.map_cons, List.map_nil, List.cons_append, List.nil_append, List.length_cons, List.length_nil, and_true, true_and, decide_true, decide_false, l_feed, startE, List.replicate, Nat.reduceSub, Nat.reduceAdd, List.length_map, Bool.not_true, Bool.not_false, if_true, if_false, Bool.false_eq_true, reduceIte, i_int_non, i_int_bl, i_int_int, i_int_str, i_int_tup, i_int_lst, i_bool_non, i_bool_bl, i_bool_int, i_bool_str, i_bool_tup, i_bool_lst, i_str_non, i_str_bl, i_str_int, i_str_str, i_str_tup, i_str_lst, i_tuple_non, i_tuple_bl, i_tuple_int, i_tuple_str, i_tuple_tup, i_tuple_lst, i_list_non, i_list_bl, i_list_int, i_list_str, i_list_tup, i_list_lst, t0, t1, t2, t3, Int.cast_ofNat_Int, Int.natCast_one, Int.natCast_zero, Int.reduceEq, Int.reduceLT, Int.reduceLE, e_ltS, e_leS, e_inS, e_ninS, e_isN, e_isNN, e_sqS, rs_sh, g0, wipeE])
        unfold sgnD
        refine comp_pure _ (fun c => D.bl (inL c)) _ ?_ ?_
        · intro c hc acc k hk
          (try simp (disch := first | assumption | omega | decide | (constructor <;> first | assumption | omega | decide | fail) | fail) only [WS, e_wnil, WE, WEs, WAnd, WOr, WTs, WFs, WO, WI, e_rs_int, e_rs_str, e_rs_bl, e_rs_non, e_rs_tup, e_rs_lst, e_rs_lsf, e_rs_loc, e_str, e_cint, e_cbl, e_cnon, e_add, e_sub, e_mul, e_mod, e_div, e_pow, e_adds, e_addt, e_addl, e_tbl, e_tnon, e_tint, e_tlst, e_ttup, e_gt, e_ge, e_lt, e_le, e_eqi, e_nei, e_eqs, e_nes, e_eql, e_nel, e_eqt, e_net, e_sublst, e_subtup, e_lenl, e_lent, e_lens, e_int1, e_tupl, e_tupt, e_lstl, e_lstt, e_repr, e_stri, e_strs, e_fvs, e_fvi, e_sll, e_slf, e_slt, e_rvt, e_rvl, e_stl, e_stt, e_sql, e_sqt, e_bnm, e_btp, e_bnil, e_bcons, e_san, e_sac, feedO_eq, g_cells, g_at, g_held, g_count, p_at, p_held, p_count, c_count, c_at, c_held, c_cells, put_same, put_put, List.set_cons_zero, List.set_cons_succ, List.getElem?_cons_zero, List.getElem?_cons_succ, List.map_cons, List.map_nil, List.cons_append, List.nil_append, List.length_cons, List.length_nil, and_true, true_and, decide_true, decide_false, l_feed, startE, List.replicate, Nat.reduceSub, Nat.reduceAdd, List.length_map, Bool.not_true, Bool.not_false, if_true, if_false, Bool.false_eq_true, reduceIte, i_int_non, i_int_bl, i_int_int, i_int_str, i_int_tup, i_int_lst, i_bool_non, i_bool_bl, i_bool_int, i_bool_str, i_bool_tup, i_bool_lst, i_str_non, i_str_bl, i_str_int, i_str_str, i_str_tup, i_str_lst, i_tuple_non, i_tuple_bl, i_tuple_int, i_tuple_str, i_tuple_tup, i_tuple_lst, i_list_non, i_list_bl, i_list_int, i_list_str, i_list_tup, i_list_lst, t0, t1, t2, t3, Int.cast_ofNat_Int, Int.natCast_one, Int.natCast_zero, Int.reduceEq, Int.reduceLT, Int.reduceLE, e_ltS, e_leS, e_inS, e_ninS, e_isN, e_isNN, e_sqS, rs_sh, g0])
          exact hk
        · have e2 : s.cps.toList.map (fun c => D.bl (inL c)) = (s.cps.toList.map inL).map D.bl := by
            rw [List.map_map]
            rfl
          rw [e2, e_all]
          have h3 : (1 ≤ s.length ∧ s.length ≤ 8) := by omega
          rw [e1, decide_eq_true h3, Bool.true_and] at hq
          have e3 : (s.cps.toList.map inL).all id = s.cps.toList.all inL := by
            rw [List.all_map]
            rfl
          rw [← e3] at hq
          exact ⟨S, Le.refl _, hq⟩
      · have h3 : ¬ (1 ≤ s.length ∧ s.length ≤ 8) := by omega
        rw [e1, decide_eq_false h3, Bool.false_and] at hq
        (try simp (disch := first | assumption | omega | decide | (constructor <;> first | assumption | omega | decide | fail) | fail) only [WS, e_wnil, WE, WEs, WAnd, WOr, WTs, WFs, WO, WI, e_rs_int, e_rs_str, e_rs_bl, e_rs_non, e_rs_tup, e_rs_lst, e_rs_lsf, e_rs_loc, e_str, e_cint, e_cbl, e_cnon, e_add, e_sub, e_mul, e_mod, e_div, e_pow, e_adds, e_addt, e_addl, e_tbl, e_tnon, e_tint, e_tlst, e_ttup, e_gt, e_ge, e_lt, e_le, e_eqi, e_nei, e_eqs, e_nes, e_eql, e_nel, e_eqt, e_net, e_sublst, e_subtup, e_lenl, e_lent, e_lens, e_int1, e_tupl, e_tupt, e_lstl, e_lstt, e_repr, e_stri, e_strs, e_fvs, e_fvi, e_sll, e_slf, e_slt, e_rvt, e_rvl, e_stl, e_stt, e_sql, e_sqt, e_bnm, e_btp, e_bnil, e_bcons, e_san, e_sac, feedO_eq, g_cells, g_at, g_held, g_count, p_at, p_held, p_count, c_count, c_at, c_held, c_cells, put_same, put_put, List.set_cons_zero, List.set_cons_succ, List.getElem?_cons_zero, List.getElem?_cons_succ, List.map_cons, List.map_nil, List.cons_append, List.nil_append, List.length_cons, List.length_nil, and_true, true_and, decide_true, decide_false, l_feed, startE, List.replicate, Nat.reduceSub, Nat.reduceAdd, List.length_map, Bool.not_true, Bool.not_false, if_true, if_false, Bool.false_eq_true, reduceIte, i_int_non, i_int_bl, i_int_int, i_int_str, i_int_tup, i_int_lst, i_bool_non, i_bool_bl, i_bool_int, i_bool_str, i_bool_tup, i_bool_lst, i_str_non, i_str_bl, i_str_int, i_str_str, i_str_tup, i_str_lst, i_tuple_non, i_tuple_bl, i_tuple_int, i_tuple_str, i_tuple_tup, i_tuple_lst, i_list_non, i_list_bl, i_list_int, i_list_str, i_list_tup, i_list_lst, t0, t1, t2, t3, Int.cast_ofNat_Int, Int.natCast_one, Int.natCast_zero, Int.reduceEq, Int.reduceLT, Int.reduceLE, e_ltS, e_leS, e_inS, e_ninS, e_isN, e_isNN, e_sqS, rs_sh, g1, h1, h8, WSs])
        exact ⟨S, Le.refl _, hq⟩
    · have h3 : ¬ (1 ≤ s.length ∧ s.length ≤ 8) := by omega
      rw [e1, decide_eq_false h3, Bool.false_and] at hq
      (try simp (disch := first | assumption | omega | decide | (constructor <;> first | assumption | omega | decide | fail) | fail) only [WS, e_wnil, WE, WEs, WAnd, WOr, WTs, WFs, WO, WI, e_rs_int, e_rs_str, e_rs_bl, e_rs_non, e_rs_tup, e_rs_lst, e_rs_lsf, e_rs_loc, e_str, e_cint, e_cbl, e_cnon, e_add, e_sub, e_mul, e_mod, e_div, e_pow, e_adds, e_addt, e_addl, e_tbl, e_tnon, e_tint, e_tlst, e_ttup, e_gt, e_ge, e_lt, e_le, e_eqi, e_nei, e_eqs, e_nes, e_eql, e_nel, e_eqt, e_net, e_sublst, e_subtup, e_lenl, e_lent, e_lens, e_int1, e_tupl, e_tupt, e_lstl, e_lstt, e_repr, e_stri, e_strs, e_fvs, e_fvi, e_sll, e_slf, e_slt, e_rvt, e_rvl, e_stl, e_stt, e_sql, e_sqt, e_bnm, e_btp, e_bnil, e_bcons, e_san, e_sac, feedO_eq, g_cells, g_at, g_held, g_count, p_at, p_held, p_count, c_count, c_at, c_held, c_cells, put_same, put_put, List.set_cons_zero, List.set_cons_succ, List.getElem?_cons_zero, List.getElem?_cons_succ, List.map_cons, List.map_nil, List.cons_append, List.nil_append, List.length_cons, List.length_nil, and_true, true_and, decide_true, decide_false, l_feed, startE, List.replicate, Nat.reduceSub, Nat.reduceAdd, List.length_map, Bool.not_true, Bool.not_false, if_true, if_false, Bool.false_eq_true, reduceIte, i_int_non, i_int_bl, i_int_int, i_int_str, i_int_tup, i_int_lst, i_bool_non, i_bool_bl, i_bool_int, i_bool_str, i_bool_tup, i_bool_lst, i_str_non, i_str_bl, i_str_int, i_str_str, i_str_tup, i_str_lst, i_tuple_non, i_tuple_bl, i_tuple_int, i_tuple_str, i_tuple_tup, i_tuple_lst, i_list_non, i_list_bl, i_list_int, i_list_str, i_list_tup, i_list_lst, t0, t1, t2, t3, Int.cast_ofNat_Int, Int.natCast_one, Int.natCast_zero, Int.reduceEq, Int.reduceLT, Int.reduceLE, e_ltS, e_leS, e_inS, e_ninS, e_isN, e_isNN, e_sqS, rs_sh, g1, h1, WSs])
      exact ⟨S, Le.refl _, hq⟩
  | _ =>
    (try simp (disch := first | assumption | omega | decide | (constructor <;> first | assumption | omega | decide | fail) | fail) only [WS, e_wnil, WE, WEs, WAnd, WOr, WTs, WFs, WO, WI, e_rs_int, e_rs_str, e_rs_bl, e_rs_non, e_rs_tup, e_rs_lst, e_rs_lsf, e_rs_loc, e_str, e_cint, e_cbl, e_cnon, e_add, e_sub, e_mul, e_mod, e_div, e_pow, e_adds, e_addt, e_addl, e_tbl, e_tnon, e_tint, e_tlst, e_ttup, e_gt, e_ge, e_lt, e_le, e_eqi, e_nei, e_eqs, e_nes, e_eql, e_nel, e_eqt, e_net, e_sublst, e_subtup, e_lenl, e_lent, e_lens, e_int1, e_tupl, e_tupt, e_lstl, e_lstt, e_repr, e_stri, e_strs, e_fvs, e_fvi, e_sll, e_slf, e_slt, e_rvt, e_rvl, e_stl, e_stt, e_sql, e_sqt, e_bnm, e_btp, e_bnil, e_bcons, e_san, e_sac, feedO_eq, g_cells, g_at, g_held, g_count, p_at, p_held, p_count, c_count, c_at, c_held, c_cells, put_same, put_put, List.set_cons_zero, List.set_cons_succ, List.getElem?_cons_zero, List.getElem?_cons_succ, List.map_cons, List.map_nil, List.cons_append, List.nil_append, List.length_cons, List.length_nil, and_true, true_and, decide_true, decide_false, l_feed, startE, List.replicate, Nat.reduceSub, Nat.reduceAdd, List.length_map, Bool.not_true, Bool.not_false, if_true, if_false, Bool.false_eq_true, reduceIte, i_int_non, i_int_bl, i_int_int, i_int_str, i_int_tup, i_int_lst, i_bool_non, i_bool_bl, i_bool_int, i_bool_str, i_bool_tup, i_bool_lst, i_str_non, i_str_bl, i_str_int, i_str_str, i_str_tup, i_str_lst, i_tuple_non, i_tuple_bl, i_tuple_int, i_tuple_str, i_tuple_tup, i_tuple_lst, i_list_non, i_list_bl, i_list_int, i_list_str, i_list_tup, i_list_lst, t0, t1, t2, t3, Int.cast_ofNat_Int, Int.natCast_one, Int.natCast_zero, Int.reduceEq, Int.reduceLT, Int.reduceLE, e_ltS, e_leS, e_inS, e_ninS, e_isN, e_isNN, e_sqS, rs_sh, WSs])
    exact ⟨S, Le.refl _, hq⟩
theorem body_names_of : BodyOk G core_names_of st_names_of.N.length 1 sp_names_of := names_ok G
theorem body_kinds_by_name : BodyOk G core_kinds_by_name st_kinds_by_name.N.length 1 sp_kinds_by_name := kbn_ok G
theorem body_require_usable : BodyOk G core_require_usable st_require_usable.N.length 3 sp_require_usable := req_ok G
theorem body_is_name_of : BodyOk G core_is_name_of st_is_name_of.N.length 2 sp_is_name_of := nameOf_ok G (fn := 3) (fk := 1) rfl rfl rfl rfl
theorem body_require_kind : BodyOk G core_require_kind st_require_kind.N.length 3 sp_require_kind := reqK_ok G (fr := 2) (fo := 4) (sh := 0) rfl rfl (fun _ _ => rfl) rfl rfl
theorem body_fee_of : BodyOk G core_fee_of st_fee_of.N.length 2 sp_fee_of := part_ok G (fr := 5) (fk := 1) (sh := 0) (i := 1) (fun _ _ => rfl) rfl rfl (fun _ _ => rfl) rfl rfl
theorem body_table_of : BodyOk G core_table_of st_table_of.N.length 2 sp_table_of := part_ok G (fr := 5) (fk := 1) (sh := 0) (i := 3) (fun _ _ => rfl) rfl rfl (fun _ _ => rfl) rfl rfl
theorem body_is_silent : BodyOk G core_is_silent st_is_silent.N.length 2 sp_is_silent := silent_ok G (fk := 1) rfl rfl
theorem body_has_of : BodyOk G core_has_of st_has_of.N.length 2 sp_has_of := has_ok G (fr := 5) (fs := 7) (sh := 0) rfl rfl (fun _ _ => rfl) rfl rfl
theorem body_senders_to : BodyOk G core_senders_to st_senders_to.N.length 2 sp_senders_to := send_ok G (fr := 5) (sh := 0) rfl rfl (fun _ _ => rfl)
theorem body__law_draw : BodyOk G core__law_draw st__law_draw.N.length 2 (FN 12) := draw_ok G (c0 := 359) (m1 := 1000000087) (k1 := 40031) (a1 := 1021) (k2 := 7019) (a2 := 227) (by decide) (by decide) (by decide) (by decide) (by decide)
theorem body__law_start : BodyOk G core__law_start st__law_start.N.length 1 (FN 11) := start_ok G
theorem body__law_any : BodyOk G core__law_any st__law_any.N.length 2 (FN 13) := any_ok G (fd := 12) rfl rfl
theorem body__law_labels : BodyOk G core__law_labels st__law_labels.N.length 2 (FN 14) := labels_ok G (fa := 13) (fd := 12) rfl rfl rfl rfl
theorem body__law_page : BodyOk G core__law_page st__law_page.N.length 2 (FN 15) := page_ok G (fl := 14) (fa := 13) (fd := 12) rfl rfl rfl rfl rfl rfl
theorem body__law_use : BodyOk G core__law_use st__law_use.N.length 1 sp__law_use := by
  intro ds S Q R0 hl hsp
  obtain ⟨w, rfl, hq⟩ := hsp
  unfold core__law_use
  have c1 : cstD (.str "no") = some (.str "no") := e_str (by decide +kernel)
  have c2 : cstD (.str "use") = some (.str "use") := e_str (by decide +kernel)
  show WSs _ _ _ _ _ _; rw [WSs]
  (try simp (disch := first | assumption | omega | decide | (constructor <;> first | assumption | omega | decide | fail) | fail) only [WS, e_wnil, WE, WEs, WAnd, WOr, WTs, WFs, WO, WI, e_rs_int, e_rs_str, e_rs_bl, e_rs_non, e_rs_tup, e_rs_lst, e_rs_lsf, e_rs_loc, e_str, e_cint, e_cbl, e_cnon, e_add, e_sub, e_mul, e_mod, e_div, e_pow, e_adds, e_addt, e_addl, e_tbl, e_tnon, e_tint, e_tlst, e_ttup, e_gt, e_ge, e_lt, e_le, e_eqi, e_nei, e_eqs, e_nes, e_eql, e_nel, e_eqt, e_net, e_sublst, e_subtup, e_lenl, e_lent, e_lens, e_int1, e_tupl, e_tupt, e_lstl, e_lstt, e_repr, e_stri, e_strs, e_fvs, e_fvi, e_sll, e_slf, e_slt, e_rvt, e_rvl, e_stl, e_stt, e_sql, e_sqt, e_bnm, e_btp, e_bnil, e_bcons, e_san, e_sac, feedO_eq, g_cells, g_at, g_held, g_count, p_at, p_held, p_count, c_count, c_at, c_held, c_cells, put_same, put_put, List.set_cons_zero, List.set_cons_succ, List.getElem?_cons_zero, List.getElem?_cons_succ, List.map_cons, List.map_nil, List.cons_append, List.nil_append, List.length_cons, List.length_nil, and_true, true_and, decide_true, decide_false, l_feed, startE, List.replicate, Nat.reduceSub, Nat.reduceAdd, List.length_map, Bool.not_true, Bool.not_false, if_true, if_false, Bool.false_eq_true, reduceIte, i_int_non, i_int_bl, i_int_int, i_int_str, i_int_tup, i_int_lst, i_bool_non, i_bool_bl, i_bool_int, i_bool_str, i_bool_tup, i_bool_lst, i_str_non, i_str_bl, i_str_int, i_str_str, i_str_tup, i_str_lst, i_tuple_non, i_tuple_bl, i_tuple_int, i_tuple_str, i_tuple_tup, i_tuple_lst, i_list_non, i_list_bl, i_list_int, i_list_str, i_list_tup, i_list_lst, t0, t1, t2, t3, Int.cast_ofNat_Int, Int.natCast_one, Int.natCast_zero, Int.reduceEq, Int.reduceLT, Int.reduceLE, e_ltS, e_leS, e_inS, e_ninS, e_isN, e_isNN, e_sqS, rs_sh, c1, c2])
  exact ⟨sz_small (by decide), S, Le.refl _, hq⟩
theorem body__law_odds : BodyOk G core__law_odds st__law_odds.N.length 0 sp__law_odds := by
  intro ds S Q R0 hl hsp
  obtain ⟨rfl, hq⟩ := hsp
  unfold core__law_odds
  rw [WSs, WS]
  have e : cV (.lst (.cons (.cst .none) (.cons (.cst (.bool true)) (.cons (.cst (.int 0)) (.cons (.cst (.str "")) (.cons (.cst (.str "nobody")) (.cons (.cst (.str "A")) (.cons (.cst (.str "a b")) (.cons (.cst (.str "abcdefghi")) (.cons (.tup .nil) (.cons (.tup (.cons (.cst (.str "a")) .nil)) (.cons (.lst (.cons (.cst (.str "a")) .nil)) (.cons (.tup (.cons (.cst (.str "a")) (.cons (.cst (.int 1)) (.cons (.cst (.bool false)) (.cons (.tup .nil) .nil))))) (.cons (.bin .Pow (.cst (.int 10)) (.cst (.int 59))) .nil)))))))))))))) = some (.lst oddsD) := by rfl
  exact we_c e ⟨S, Le.refl _, hq⟩
end FL.K03

namespace FL.K03
open PySem PySem.Spec PyProof.Rows L2
theorem ref_nu (w : Str) (i : Int) : refD (nuX w i) = some (.tup [.str "no", .str "use", .str w, .int i]) := by
  simp only [refD, nuX]
  rfl
theorem four (u : D) : binD .Mult (.lst [u]) (.int 4) = some (.lst [u, u, u, u]) := rfl
theorem pl_use : Pl 1000 2 (useD "kind") := pl_of (by decide +kernel)
theorem body__law_are_refused : BodyOk G core__law_are_refused st__law_are_refused.N.length 2 sp__law_are_refused := by
  intro ds S Q R0 hl hsp
  obtain ⟨es, asks, d, rfl, hw, hd, hk, hq⟩ := hsp
  show WSs _ _ _ (startE 3 _) _ _
  unfold core__law_are_refused
  have er := ref_nu "kind" (-1)
  have no : ∀ e ∈ es, d = .str e.name → False := fun e he h => by
    rw [h, kn_mem he] at hk
    cases hk
  show WSs _ _ _ _ _ _; rw [WSs]
  (try simp (disch := first | assumption | omega | decide | (constructor <;> first | assumption | omega | decide | fail) | fail) only [WS, e_wnil, WE, WEs, WAnd, WOr, WTs, WFs, WO, WI, e_rs_int, e_rs_str, e_rs_bl, e_rs_non, e_rs_tup, e_rs_lst, e_rs_lsf, e_rs_loc, e_str, e_cint, e_cbl, e_cnon, e_add, e_sub, e_mul, e_mod, e_div, e_pow, e_adds, e_addt, e_addl, e_tbl, e_tnon, e_tint, e_tlst, e_ttup, e_gt, e_ge, e_lt, e_le, e_eqi, e_nei, e_eqs, e_nes, e_eql, e_nel, e_eqt, e_net, e_sublst, e_subtup, e_lenl, e_lent, e_lens, e_int1, e_tupl, e_tupt, e_lstl, e_lstt, e_repr, e_stri, e_strs, e_fvs, e_fvi, e_sll, e_slf, e_slt, e_rvt, e_rvl, e_stl, e_stt, e_sql, e_sqt, e_bnm, e_btp, e_bnil, e_bcons, e_san, e_sac, feedO_eq, g_cells, g_at, g_held, g_count, p_at, p_held, p_count, c_count, c_at, c_held, c_cells, put_same, put_put, List.set_cons_zero, List.set_cons_succ, List.getElem?_cons_zero, List.getElem?_cons_succ, List.map_cons, List.map_nil, List.cons_append, List.nil_append, List.length_cons, List.length_nil, and_true, true_and, decide_true, decide_false, l_feed, startE, List.replicate, Nat.reduceSub, Nat.reduceAdd, List.length_map, Bool.not_true, Bool.not_false, if_true, if_false, Bool.false_eq_true, reduceIte, i_int_non, i_int_bl, i_int_int, i_int_str, i_int_tup, i_int_lst, i_bool_non, i_bool_bl, i_bool_int, i_bool_str, i_bool_tup, i_bool_lst, i_str_non, i_str_bl, i_str_int, i_str_str, i_str_tup, i_str_lst, i_tuple_non, i_tuple_bl, i_tuple_int, i_tuple_str, i_tuple_tup, i_tuple_lst, i_list_non, i_list_bl, i_list_int, i_list_str, i_list_tup, i_list_lst, t0, t1, t2, t3, Int.cast_ofNat_Int, Int.natCast_one, Int.natCast_zero, Int.reduceEq, Int.reduceLT, Int.reduceLE, e_ltS, e_leS, e_inS, e_ninS, e_isN, e_isNN, e_sqS, rs_sh, f_fee_of, r_fee_of])
  refine ⟨es, asks, d, rfl, hw, hd, fun e he h => (no e he h).elim, fun _ => ?_⟩
  (try simp (disch := first | assumption | omega | decide | (constructor <;> first | assumption | omega | decide | fail) | fail) only [WS, e_wnil, WE, WEs, WAnd, WOr, WTs, WFs, WO, WI, e_rs_int, e_rs_str, e_rs_bl, e_rs_non, e_rs_tup, e_rs_lst, e_rs_lsf, e_rs_loc, e_str, e_cint, e_cbl, e_cnon, e_add, e_sub, e_mul, e_mod, e_div, e_pow, e_adds, e_addt, e_addl, e_tbl, e_tnon, e_tint, e_tlst, e_ttup, e_gt, e_ge, e_lt, e_le, e_eqi, e_nei, e_eqs, e_nes, e_eql, e_nel, e_eqt, e_net, e_sublst, e_subtup, e_lenl, e_lent, e_lens, e_int1, e_tupl, e_tupt, e_lstl, e_lstt, e_repr, e_stri, e_strs, e_fvs, e_fvi, e_sll, e_slf, e_slt, e_rvt, e_rvl, e_stl, e_stt, e_sql, e_sqt, e_bnm, e_btp, e_bnil, e_bcons, e_san, e_sac, feedO_eq, g_cells, g_at, g_held, g_count, p_at, p_held, p_count, c_count, c_at, c_held, c_cells, put_same, put_put, List.set_cons_zero, List.set_cons_succ, List.getElem?_cons_zero, List.getElem?_cons_succ, List.map_cons, List.map_nil, List.cons_append, List.nil_append, List.length_cons, List.length_nil, and_true, true_and, decide_true, decide_false, l_feed, startE, List.replicate, Nat.reduceSub, Nat.reduceAdd, List.length_map, Bool.not_true, Bool.not_false, if_true, if_false, Bool.false_eq_true, reduceIte, i_int_non, i_int_bl, i_int_int, i_int_str, i_int_tup, i_int_lst, i_bool_non, i_bool_bl, i_bool_int, i_bool_str, i_bool_tup, i_bool_lst, i_str_non, i_str_bl, i_str_int, i_str_str, i_str_tup, i_str_lst, i_tuple_non, i_tuple_bl, i_tuple_int, i_tuple_str, i_tuple_tup, i_tuple_lst, i_list_non, i_list_bl, i_list_int, i_list_str, i_list_tup, i_list_lst, t0, t1, t2, t3, Int.cast_ofNat_Int, Int.natCast_one, Int.natCast_zero, Int.reduceEq, Int.reduceLT, Int.reduceLE, e_ltS, e_leS, e_inS, e_ninS, e_isN, e_isNN, e_sqS, rs_sh, er])
  refine ⟨sz_small (by decide), fun a ha => ?_⟩
  show WSs _ _ _ _ _ _; rw [WSs]
  (try simp (disch := first | assumption | omega | decide | (constructor <;> first | assumption | omega | decide | fail) | fail) only [WS, e_wnil, WE, WEs, WAnd, WOr, WTs, WFs, WO, WI, e_rs_int, e_rs_str, e_rs_bl, e_rs_non, e_rs_tup, e_rs_lst, e_rs_lsf, e_rs_loc, e_str, e_cint, e_cbl, e_cnon, e_add, e_sub, e_mul, e_mod, e_div, e_pow, e_adds, e_addt, e_addl, e_tbl, e_tnon, e_tint, e_tlst, e_ttup, e_gt, e_ge, e_lt, e_le, e_eqi, e_nei, e_eqs, e_nes, e_eql, e_nel, e_eqt, e_net, e_sublst, e_subtup, e_lenl, e_lent, e_lens, e_int1, e_tupl, e_tupt, e_lstl, e_lstt, e_repr, e_stri, e_strs, e_fvs, e_fvi, e_sll, e_slf, e_slt, e_rvt, e_rvl, e_stl, e_stt, e_sql, e_sqt, e_bnm, e_btp, e_bnil, e_bcons, e_san, e_sac, feedO_eq, g_cells, g_at, g_held, g_count, p_at, p_held, p_count, c_count, c_at, c_held, c_cells, put_same, put_put, List.set_cons_zero, List.set_cons_succ, List.getElem?_cons_zero, List.getElem?_cons_succ, List.map_cons, List.map_nil, List.cons_append, List.nil_append, List.length_cons, List.length_nil, and_true, true_and, decide_true, decide_false, l_feed, startE, List.replicate, Nat.reduceSub, Nat.reduceAdd, List.length_map, Bool.not_true, Bool.not_false, if_true, if_false, Bool.false_eq_true, reduceIte, i_int_non, i_int_bl, i_int_int, i_int_str, i_int_tup, i_int_lst, i_bool_non, i_bool_bl, i_bool_int, i_bool_str, i_bool_tup, i_bool_lst, i_str_non, i_str_bl, i_str_int, i_str_str, i_str_tup, i_str_lst, i_tuple_non, i_tuple_bl, i_tuple_int, i_tuple_str, i_tuple_tup, i_tuple_lst, i_list_non, i_list_bl, i_list_int, i_list_str, i_list_tup, i_list_lst, t0, t1, t2, t3, Int.cast_ofNat_Int, Int.natCast_one, Int.natCast_zero, Int.reduceEq, Int.reduceLT, Int.reduceLE, e_ltS, e_leS, e_inS, e_ninS, e_isN, e_isNN, e_sqS, rs_sh, f_has_of, r_has_of])
  refine ⟨es, asks, d, rfl, hw, hd, fun e he h => (no e he h).elim, fun _ => ?_⟩
  (try simp (disch := first | assumption | omega | decide | (constructor <;> first | assumption | omega | decide | fail) | fail) only [WS, e_wnil, WE, WEs, WAnd, WOr, WTs, WFs, WO, WI, e_rs_int, e_rs_str, e_rs_bl, e_rs_non, e_rs_tup, e_rs_lst, e_rs_lsf, e_rs_loc, e_str, e_cint, e_cbl, e_cnon, e_add, e_sub, e_mul, e_mod, e_div, e_pow, e_adds, e_addt, e_addl, e_tbl, e_tnon, e_tint, e_tlst, e_ttup, e_gt, e_ge, e_lt, e_le, e_eqi, e_nei, e_eqs, e_nes, e_eql, e_nel, e_eqt, e_net, e_sublst, e_subtup, e_lenl, e_lent, e_lens, e_int1, e_tupl, e_tupt, e_lstl, e_lstt, e_repr, e_stri, e_strs, e_fvs, e_fvi, e_sll, e_slf, e_slt, e_rvt, e_rvl, e_stl, e_stt, e_sql, e_sqt, e_bnm, e_btp, e_bnil, e_bcons, e_san, e_sac, feedO_eq, g_cells, g_at, g_held, g_count, p_at, p_held, p_count, c_count, c_at, c_held, c_cells, put_same, put_put, List.set_cons_zero, List.set_cons_succ, List.getElem?_cons_zero, List.getElem?_cons_succ, List.map_cons, List.map_nil, List.cons_append, List.nil_append, List.length_cons, List.length_nil, and_true, true_and, decide_true, decide_false, l_feed, startE, List.replicate, Nat.reduceSub, Nat.reduceAdd, List.length_map, Bool.not_true, Bool.not_false, if_true, if_false, Bool.false_eq_true, reduceIte, i_int_non, i_int_bl, i_int_int, i_int_str, i_int_tup, i_int_lst, i_bool_non, i_bool_bl, i_bool_int, i_bool_str, i_bool_tup, i_bool_lst, i_str_non, i_str_bl, i_str_int, i_str_str, i_str_tup, i_str_lst, i_tuple_non, i_tuple_bl, i_tuple_int, i_tuple_str, i_tuple_tup, i_tuple_lst, i_list_non, i_list_bl, i_list_int, i_list_str, i_list_tup, i_list_lst, t0, t1, t2, t3, Int.cast_ofNat_Int, Int.natCast_one, Int.natCast_zero, Int.reduceEq, Int.reduceLT, Int.reduceLE, e_ltS, e_leS, e_inS, e_ninS, e_isN, e_isNN, e_sqS, rs_sh, er])
  refine ⟨by decide, ?_⟩
  show WSs _ _ _ _ _ _; rw [WSs]
  (try simp (disch := first | assumption | omega | decide | (constructor <;> first | assumption | omega | decide | fail) | fail) only [WS, e_wnil, WE, WEs, WAnd, WOr, WTs, WFs, WO, WI, e_rs_int, e_rs_str, e_rs_bl, e_rs_non, e_rs_tup, e_rs_lst, e_rs_lsf, e_rs_loc, e_str, e_cint, e_cbl, e_cnon, e_add, e_sub, e_mul, e_mod, e_div, e_pow, e_adds, e_addt, e_addl, e_tbl, e_tnon, e_tint, e_tlst, e_ttup, e_gt, e_ge, e_lt, e_le, e_eqi, e_nei, e_eqs, e_nes, e_eql, e_nel, e_eqt, e_net, e_sublst, e_subtup, e_lenl, e_lent, e_lens, e_int1, e_tupl, e_tupt, e_lstl, e_lstt, e_repr, e_stri, e_strs, e_fvs, e_fvi, e_sll, e_slf, e_slt, e_rvt, e_rvl, e_stl, e_stt, e_sql, e_sqt, e_bnm, e_btp, e_bnil, e_bcons, e_san, e_sac, feedO_eq, g_cells, g_at, g_held, g_count, p_at, p_held, p_count, c_count, c_at, c_held, c_cells, put_same, put_put, List.set_cons_zero, List.set_cons_succ, List.getElem?_cons_zero, List.getElem?_cons_succ, List.map_cons, List.map_nil, List.cons_append, List.nil_append, List.length_cons, List.length_nil, and_true, true_and, decide_true, decide_false, l_feed, startE, List.replicate, Nat.reduceSub, Nat.reduceAdd, List.length_map, Bool.not_true, Bool.not_false, if_true, if_false, Bool.false_eq_true, reduceIte, i_int_non, i_int_bl, i_int_int, i_int_str, i_int_tup, i_int_lst, i_bool_non, i_bool_bl, i_bool_int, i_bool_str, i_bool_tup, i_bool_lst, i_str_non, i_str_bl, i_str_int, i_str_str, i_str_tup, i_str_lst, i_tuple_non, i_tuple_bl, i_tuple_int, i_tuple_str, i_tuple_tup, i_tuple_lst, i_list_non, i_list_bl, i_list_int, i_list_str, i_list_tup, i_list_lst, t0, t1, t2, t3, Int.cast_ofNat_Int, Int.natCast_one, Int.natCast_zero, Int.reduceEq, Int.reduceLT, Int.reduceLE, e_ltS, e_leS, e_inS, e_ninS, e_isN, e_isNN, e_sqS, rs_sh, f_table_of, r_table_of])
  refine ⟨es, asks, d, rfl, hw, hd, fun e he h => (no e he h).elim, fun _ => ?_⟩
  (try simp (disch := first | assumption | omega | decide | (constructor <;> first | assumption | omega | decide | fail) | fail) only [WS, e_wnil, WE, WEs, WAnd, WOr, WTs, WFs, WO, WI, e_rs_int, e_rs_str, e_rs_bl, e_rs_non, e_rs_tup, e_rs_lst, e_rs_lsf, e_rs_loc, e_str, e_cint, e_cbl, e_cnon, e_add, e_sub, e_mul, e_mod, e_div, e_pow, e_adds, e_addt, e_addl, e_tbl, e_tnon, e_tint, e_tlst, e_ttup, e_gt, e_ge, e_lt, e_le, e_eqi, e_nei, e_eqs, e_nes, e_eql, e_nel, e_eqt, e_net, e_sublst, e_subtup, e_lenl, e_lent, e_lens, e_int1, e_tupl, e_tupt, e_lstl, e_lstt, e_repr, e_stri, e_strs, e_fvs, e_fvi, e_sll, e_slf, e_slt, e_rvt, e_rvl, e_stl, e_stt, e_sql, e_sqt, e_bnm, e_btp, e_bnil, e_bcons, e_san, e_sac, feedO_eq, g_cells, g_at, g_held, g_count, p_at, p_held, p_count, c_count, c_at, c_held, c_cells, put_same, put_put, List.set_cons_zero, List.set_cons_succ, List.getElem?_cons_zero, List.getElem?_cons_succ, List.map_cons, List.map_nil, List.cons_append, List.nil_append, List.length_cons, List.length_nil, and_true, true_and, decide_true, decide_false, l_feed, startE, List.replicate, Nat.reduceSub, Nat.reduceAdd, List.length_map, Bool.not_true, Bool.not_false, if_true, if_false, Bool.false_eq_true, reduceIte, i_int_non, i_int_bl, i_int_int, i_int_str, i_int_tup, i_int_lst, i_bool_non, i_bool_bl, i_bool_int, i_bool_str, i_bool_tup, i_bool_lst, i_str_non, i_str_bl, i_str_int, i_str_str, i_str_tup, i_str_lst, i_tuple_non, i_tuple_bl, i_tuple_int, i_tuple_str, i_tuple_tup, i_tuple_lst, i_list_non, i_list_bl, i_list_int, i_list_str, i_list_tup, i_list_lst, t0, t1, t2, t3, Int.cast_ofNat_Int, Int.natCast_one, Int.natCast_zero, Int.reduceEq, Int.reduceLT, Int.reduceLE, e_ltS, e_leS, e_inS, e_ninS, e_isN, e_isNN, e_sqS, rs_sh, er])
  refine ⟨by decide, ?_⟩
  show WSs _ _ _ _ _ _; rw [WSs]
  (try simp (disch := first | assumption | omega | decide | (constructor <;> first | assumption | omega | decide | fail) | fail) only [WS, e_wnil, WE, WEs, WAnd, WOr, WTs, WFs, WO, WI, e_rs_int, e_rs_str, e_rs_bl, e_rs_non, e_rs_tup, e_rs_lst, e_rs_lsf, e_rs_loc, e_str, e_cint, e_cbl, e_cnon, e_add, e_sub, e_mul, e_mod, e_div, e_pow, e_adds, e_addt, e_addl, e_tbl, e_tnon, e_tint, e_tlst, e_ttup, e_gt, e_ge, e_lt, e_le, e_eqi, e_nei, e_eqs, e_nes, e_eql, e_nel, e_eqt, e_net, e_sublst, e_subtup, e_lenl, e_lent, e_lens, e_int1, e_tupl, e_tupt, e_lstl, e_lstt, e_repr, e_stri, e_strs, e_fvs, e_fvi, e_sll, e_slf, e_slt, e_rvt, e_rvl, e_stl, e_stt, e_sql, e_sqt, e_bnm, e_btp, e_bnil, e_bcons, e_san, e_sac, feedO_eq, g_cells, g_at, g_held, g_count, p_at, p_held, p_count, c_count, c_at, c_held, c_cells, put_same, put_put, List.set_cons_zero, List.set_cons_succ, List.getElem?_cons_zero, List.getElem?_cons_succ, List.map_cons, List.map_nil, List.cons_append, List.nil_append, List.length_cons, List.length_nil, and_true, true_and, decide_true, decide_false, l_feed, startE, List.replicate, Nat.reduceSub, Nat.reduceAdd, List.length_map, Bool.not_true, Bool.not_false, if_true, if_false, Bool.false_eq_true, reduceIte, i_int_non, i_int_bl, i_int_int, i_int_str, i_int_tup, i_int_lst, i_bool_non, i_bool_bl, i_bool_int, i_bool_str, i_bool_tup, i_bool_lst, i_str_non, i_str_bl, i_str_int, i_str_str, i_str_tup, i_str_lst, i_tuple_non, i_tuple_bl, i_tuple_int, i_tuple_str, i_tuple_tup, i_tuple_lst, i_list_non, i_list_bl, i_list_int, i_list_str, i_list_tup, i_list_lst, t0, t1, t2, t3, Int.cast_ofNat_Int, Int.natCast_one, Int.natCast_zero, Int.reduceEq, Int.reduceLT, Int.reduceLE, e_ltS, e_leS, e_inS, e_ninS, e_isN, e_isNN, e_sqS, rs_sh, f_senders_to, r_senders_to])
  refine ⟨es, asks, d, rfl, hw, hd, fun e he h => (no e he h).elim, fun _ => ?_⟩
  (try simp (disch := first | assumption | omega | decide | (constructor <;> first | assumption | omega | decide | fail) | fail) only [WS, e_wnil, WE, WEs, WAnd, WOr, WTs, WFs, WO, WI, e_rs_int, e_rs_str, e_rs_bl, e_rs_non, e_rs_tup, e_rs_lst, e_rs_lsf, e_rs_loc, e_str, e_cint, e_cbl, e_cnon, e_add, e_sub, e_mul, e_mod, e_div, e_pow, e_adds, e_addt, e_addl, e_tbl, e_tnon, e_tint, e_tlst, e_ttup, e_gt, e_ge, e_lt, e_le, e_eqi, e_nei, e_eqs, e_nes, e_eql, e_nel, e_eqt, e_net, e_sublst, e_subtup, e_lenl, e_lent, e_lens, e_int1, e_tupl, e_tupt, e_lstl, e_lstt, e_repr, e_stri, e_strs, e_fvs, e_fvi, e_sll, e_slf, e_slt, e_rvt, e_rvl, e_stl, e_stt, e_sql, e_sqt, e_bnm, e_btp, e_bnil, e_bcons, e_san, e_sac, feedO_eq, g_cells, g_at, g_held, g_count, p_at, p_held, p_count, c_count, c_at, c_held, c_cells, put_same, put_put, List.set_cons_zero, List.set_cons_succ, List.getElem?_cons_zero, List.getElem?_cons_succ, List.map_cons, List.map_nil, List.cons_append, List.nil_append, List.length_cons, List.length_nil, and_true, true_and, decide_true, decide_false, l_feed, startE, List.replicate, Nat.reduceSub, Nat.reduceAdd, List.length_map, Bool.not_true, Bool.not_false, if_true, if_false, Bool.false_eq_true, reduceIte, i_int_non, i_int_bl, i_int_int, i_int_str, i_int_tup, i_int_lst, i_bool_non, i_bool_bl, i_bool_int, i_bool_str, i_bool_tup, i_bool_lst, i_str_non, i_str_bl, i_str_int, i_str_str, i_str_tup, i_str_lst, i_tuple_non, i_tuple_bl, i_tuple_int, i_tuple_str, i_tuple_tup, i_tuple_lst, i_list_non, i_list_bl, i_list_int, i_list_str, i_list_tup, i_list_lst, t0, t1, t2, t3, Int.cast_ofNat_Int, Int.natCast_one, Int.natCast_zero, Int.reduceEq, Int.reduceLT, Int.reduceLE, e_ltS, e_leS, e_inS, e_ninS, e_isN, e_isNN, e_sqS, rs_sh, er])
  refine ⟨by decide, ?_⟩
  have ck : cstD (.str "kind") = some (.str "kind") := e_str (by decide +kernel)
  have hP : Pl 16000000 60 (.lst [useD "kind", useD "kind", useD "kind", useD "kind"]) := pl_of (by decide +kernel)
  have e1 := e_repr (rpk hP (by decide) (by decide))
  unfold useD at e1
  show WSs _ _ _ _ _ _; rw [WSs]
  (try simp (disch := first | assumption | omega | decide | (constructor <;> first | assumption | omega | decide | fail) | fail) only [WS, e_wnil, WE, WEs, WAnd, WOr, WTs, WFs, WO, WI, e_rs_int, e_rs_str, e_rs_bl, e_rs_non, e_rs_tup, e_rs_lst, e_rs_lsf, e_rs_loc, e_str, e_cint, e_cbl, e_cnon, e_add, e_sub, e_mul, e_mod, e_div, e_pow, e_adds, e_addt, e_addl, e_tbl, e_tnon, e_tint, e_tlst, e_ttup, e_gt, e_ge, e_lt, e_le, e_eqi, e_nei, e_eqs, e_nes, e_eql, e_nel, e_eqt, e_net, e_sublst, e_subtup, e_lenl, e_lent, e_lens, e_int1, e_tupl, e_tupt, e_lstl, e_lstt, e_repr, e_stri, e_strs, e_fvs, e_fvi, e_sll, e_slf, e_slt, e_rvt, e_rvl, e_stl, e_stt, e_sql, e_sqt, e_bnm, e_btp, e_bnil, e_bcons, e_san, e_sac, feedO_eq, g_cells, g_at, g_held, g_count, p_at, p_held, p_count, c_count, c_at, c_held, c_cells, put_same, put_put, List.set_cons_zero, List.set_cons_succ, List.getElem?_cons_zero, List.getElem?_cons_succ, List.map_cons, List.map_nil, List.cons_append, List.nil_append, List.length_cons, List.length_nil, and_true, true_and, decide_true, decide_false, l_feed, startE, List.replicate, Nat.reduceSub, Nat.reduceAdd, List.length_map, Bool.not_true, Bool.not_false, if_true, if_false, Bool.false_eq_true, reduceIte, i_int_non, i_int_bl, i_int_int, i_int_str, i_int_tup, i_int_lst, i_bool_non, i_bool_bl, i_bool_int, i_bool_str, i_bool_tup, i_bool_lst, i_str_non, i_str_bl, i_str_int, i_str_str, i_str_tup, i_str_lst, i_tuple_non, i_tuple_bl, i_tuple_int, i_tuple_str, i_tuple_tup, i_tuple_lst, i_list_non, i_list_bl, i_list_int, i_list_str, i_list_tup, i_list_lst, t0, t1, t2, t3, Int.cast_ofNat_Int, Int.natCast_one, Int.natCast_zero, Int.reduceEq, Int.reduceLT, Int.reduceLE, e_ltS, e_leS, e_inS, e_ninS, e_isN, e_isNN, e_sqS, rs_sh, f__law_use, r__law_use, ck, e_rs_put, e1])
  refine ⟨"kind", rfl, ?_⟩
  (try simp (disch := first | assumption | omega | decide | (constructor <;> first | assumption | omega | decide | fail) | fail) only [WS, e_wnil, WE, WEs, WAnd, WOr, WTs, WFs, WO, WI, e_rs_int, e_rs_str, e_rs_bl, e_rs_non, e_rs_tup, e_rs_lst, e_rs_lsf, e_rs_loc, e_str, e_cint, e_cbl, e_cnon, e_add, e_sub, e_mul, e_mod, e_div, e_pow, e_adds, e_addt, e_addl, e_tbl, e_tnon, e_tint, e_tlst, e_ttup, e_gt, e_ge, e_lt, e_le, e_eqi, e_nei, e_eqs, e_nes, e_eql, e_nel, e_eqt, e_net, e_sublst, e_subtup, e_lenl, e_lent, e_lens, e_int1, e_tupl, e_tupt, e_lstl, e_lstt, e_repr, e_stri, e_strs, e_fvs, e_fvi, e_sll, e_slf, e_slt, e_rvt, e_rvl, e_stl, e_stt, e_sql, e_sqt, e_bnm, e_btp, e_bnil, e_bcons, e_san, e_sac, feedO_eq, g_cells, g_at, g_held, g_count, p_at, p_held, p_count, c_count, c_at, c_held, c_cells, put_same, put_put, List.set_cons_zero, List.set_cons_succ, List.getElem?_cons_zero, List.getElem?_cons_succ, List.map_cons, List.map_nil, List.cons_append, List.nil_append, List.length_cons, List.length_nil, and_true, true_and, decide_true, decide_false, l_feed, startE, List.replicate, Nat.reduceSub, Nat.reduceAdd, List.length_map, Bool.not_true, Bool.not_false, if_true, if_false, Bool.false_eq_true, reduceIte, i_int_non, i_int_bl, i_int_int, i_int_str, i_int_tup, i_int_lst, i_bool_non, i_bool_bl, i_bool_int, i_bool_str, i_bool_tup, i_bool_lst, i_str_non, i_str_bl, i_str_int, i_str_str, i_str_tup, i_str_lst, i_tuple_non, i_tuple_bl, i_tuple_int, i_tuple_str, i_tuple_tup, i_tuple_lst, i_list_non, i_list_bl, i_list_int, i_list_str, i_list_tup, i_list_lst, t0, t1, t2, t3, Int.cast_ofNat_Int, Int.natCast_one, Int.natCast_zero, Int.reduceEq, Int.reduceLT, Int.reduceLE, e_ltS, e_leS, e_inS, e_ninS, e_isN, e_isNN, e_sqS, rs_sh, four, useD])
  refine ⟨sz_small (by decide), ?_⟩
  (try simp (disch := first | assumption | omega | decide | (constructor <;> first | assumption | omega | decide | fail) | fail) only [WS, e_wnil, WE, WEs, WAnd, WOr, WTs, WFs, WO, WI, e_rs_int, e_rs_str, e_rs_bl, e_rs_non, e_rs_tup, e_rs_lst, e_rs_lsf, e_rs_loc, e_str, e_cint, e_cbl, e_cnon, e_add, e_sub, e_mul, e_mod, e_div, e_pow, e_adds, e_addt, e_addl, e_tbl, e_tnon, e_tint, e_tlst, e_ttup, e_gt, e_ge, e_lt, e_le, e_eqi, e_nei, e_eqs, e_nes, e_eql, e_nel, e_eqt, e_net, e_sublst, e_subtup, e_lenl, e_lent, e_lens, e_int1, e_tupl, e_tupt, e_lstl, e_lstt, e_repr, e_stri, e_strs, e_fvs, e_fvi, e_sll, e_slf, e_slt, e_rvt, e_rvl, e_stl, e_stt, e_sql, e_sqt, e_bnm, e_btp, e_bnil, e_bcons, e_san, e_sac, feedO_eq, g_cells, g_at, g_held, g_count, p_at, p_held, p_count, c_count, c_at, c_held, c_cells, put_same, put_put, List.set_cons_zero, List.set_cons_succ, List.getElem?_cons_zero, List.getElem?_cons_succ, List.map_cons, List.map_nil, List.cons_append, List.nil_append, List.length_cons, List.length_nil, and_true, true_and, decide_true, decide_false, l_feed, startE, List.replicate, Nat.reduceSub, Nat.reduceAdd, List.length_map, Bool.not_true, Bool.not_false, if_true, if_false, Bool.false_eq_true, reduceIte, i_int_non, i_int_bl, i_int_int, i_int_str, i_int_tup, i_int_lst, i_bool_non, i_bool_bl, i_bool_int, i_bool_str, i_bool_tup, i_bool_lst, i_str_non, i_str_bl, i_str_int, i_str_str, i_str_tup, i_str_lst, i_tuple_non, i_tuple_bl, i_tuple_int, i_tuple_str, i_tuple_tup, i_tuple_lst, i_list_non, i_list_bl, i_list_int, i_list_str, i_list_tup, i_list_lst, t0, t1, t2, t3, Int.cast_ofNat_Int, Int.natCast_one, Int.natCast_zero, Int.reduceEq, Int.reduceLT, Int.reduceLE, e_ltS, e_leS, e_inS, e_ninS, e_isN, e_isNN, e_sqS, rs_sh, four, e1])
  exact ⟨S, put_le ha, hq⟩
theorem told_pl {es : List Ent} (hw : Wb es) {e : Ent} (he : e ∈ es) : Pl 10000 3 (.lst [.int e.fee, .bl e.has, .tup (e.row.map D.str), sendD es e]) := by
  have h := hw.ok e he
  have p4 : Pl 2200 1 (sendD es e) := by
    refine (pl_tp (W := 100) (k := 0) fun x hx => ?_).mono ?_ (Nat.le_refl _)
    · obtain ⟨y, hy, rfl⟩ := List.mem_map.mp hx
      exact pl_str (hw.ok y (List.mem_filter.mp hy).1).name
    · rw [List.length_map]
      have := List.length_filter_le (fun x : Ent => x.row.contains e.name) es
      have := hw.len
      have := Nat.mul_le_mul_left 102 (show (es.filter fun x => x.row.contains e.name).length ≤ 20 by omega)
      omega
  exact (pl_ls (pl_cons ((pl_int h.fee).mono (show 300 ≤ 2200 by decide) (show 0 ≤ 1 by decide)) (pl_cons (pl_bl.mono (by decide) (by decide)) (pl_cons ((pl_row h).mono (by decide) (Nat.le_refl _)) (pl_cons p4 pl_nil))))).mono (show (2200 + 2) * 4 + 4 ≤ 10000 by decide) (by decide)
theorem names_pl {es : List Ent} (hw : Wb es) : Pl 3000 1 (.tup (es.map fun e => .str e.name)) := by
  refine (pl_tp (W := 100) (k := 0) fun x hx => ?_).mono ?_ (Nat.le_refl _)
  · obtain ⟨y, hy, rfl⟩ := List.mem_map.mp hx
    exact pl_str (hw.ok y hy).name
  · rw [List.length_map]
    have := Nat.mul_le_mul_left 102 hw.len
    omega
theorem body__law_are_told : BodyOk G core__law_are_told st__law_are_told.N.length 1 sp__law_are_told := by
  intro ds S Q R0 hl hsp
  obtain ⟨es, asks, rfl, hw, hq⟩ := hsp
  have ew : webD es asks = .tup [.tup (es.map Ent.d), .str asks] := rfl
  show WSs _ _ _ (startE 9 _) _ _
  unfold core__law_are_told
  have e0 := e_repr (rpk (names_pl hw) (by decide) (by decide))
  have hz0 : (es.map fun e => D.str e.name).length ≤ sizeLine := sz_small (by rw [List.length_map]; have := hw.len; omega)
  show WSs _ _ _ _ _ _; rw [WSs]
  (try simp (disch := first | assumption | omega | decide | (constructor <;> first | assumption | omega | decide | fail) | fail) only [WS, e_wnil, WE, WEs, WAnd, WOr, WTs, WFs, WO, WI, e_rs_int, e_rs_str, e_rs_bl, e_rs_non, e_rs_tup, e_rs_lst, e_rs_lsf, e_rs_loc, e_str, e_cint, e_cbl, e_cnon, e_add, e_sub, e_mul, e_mod, e_div, e_pow, e_adds, e_addt, e_addl, e_tbl, e_tnon, e_tint, e_tlst, e_ttup, e_gt, e_ge, e_lt, e_le, e_eqi, e_nei, e_eqs, e_nes, e_eql, e_nel, e_eqt, e_net, e_sublst, e_subtup, e_lenl, e_lent, e_lens, e_int1, e_tupl, e_tupt, e_lstl, e_lstt, e_repr, e_stri, e_strs, e_fvs, e_fvi, e_sll, e_slf, e_slt, e_rvt, e_rvl, e_stl, e_stt, e_sql, e_sqt, e_bnm, e_btp, e_bnil, e_bcons, e_san, e_sac, feedO_eq, g_cells, g_at, g_held, g_count, p_at, p_held, p_count, c_count, c_at, c_held, c_cells, put_same, put_put, List.set_cons_zero, List.set_cons_succ, List.getElem?_cons_zero, List.getElem?_cons_succ, List.map_cons, List.map_nil, List.cons_append, List.nil_append, List.length_cons, List.length_nil, and_true, true_and, decide_true, decide_false, l_feed, startE, List.replicate, Nat.reduceSub, Nat.reduceAdd, List.length_map, Bool.not_true, Bool.not_false, if_true, if_false, Bool.false_eq_true, reduceIte, i_int_non, i_int_bl, i_int_int, i_int_str, i_int_tup, i_int_lst, i_bool_non, i_bool_bl, i_bool_int, i_bool_str, i_bool_tup, i_bool_lst, i_str_non, i_str_bl, i_str_int, i_str_str, i_str_tup, i_str_lst, i_tuple_non, i_tuple_bl, i_tuple_int, i_tuple_str, i_tuple_tup, i_tuple_lst, i_list_non, i_list_bl, i_list_int, i_list_str, i_list_tup, i_list_lst, t0, t1, t2, t3, Int.cast_ofNat_Int, Int.natCast_one, Int.natCast_zero, Int.reduceEq, Int.reduceLT, Int.reduceLE, e_ltS, e_leS, e_inS, e_ninS, e_isN, e_isNN, e_sqS, rs_sh, f_names_of, r_names_of])
  refine ⟨es, asks, rfl, hw, ?_⟩
  (try simp (disch := first | assumption | omega | decide | (constructor <;> first | assumption | omega | decide | fail) | fail) only [WS, e_wnil, WE, WEs, WAnd, WOr, WTs, WFs, WO, WI, e_rs_int, e_rs_str, e_rs_bl, e_rs_non, e_rs_tup, e_rs_lst, e_rs_lsf, e_rs_loc, e_str, e_cint, e_cbl, e_cnon, e_add, e_sub, e_mul, e_mod, e_div, e_pow, e_adds, e_addt, e_addl, e_tbl, e_tnon, e_tint, e_tlst, e_ttup, e_gt, e_ge, e_lt, e_le, e_eqi, e_nei, e_eqs, e_nes, e_eql, e_nel, e_eqt, e_net, e_sublst, e_subtup, e_lenl, e_lent, e_lens, e_int1, e_tupl, e_tupt, e_lstl, e_lstt, e_repr, e_stri, e_strs, e_fvs, e_fvi, e_sll, e_slf, e_slt, e_rvt, e_rvl, e_stl, e_stt, e_sql, e_sqt, e_bnm, e_btp, e_bnil, e_bcons, e_san, e_sac, feedO_eq, g_cells, g_at, g_held, g_count, p_at, p_held, p_count, c_count, c_at, c_held, c_cells, put_same, put_put, List.set_cons_zero, List.set_cons_succ, List.getElem?_cons_zero, List.getElem?_cons_succ, List.map_cons, List.map_nil, List.cons_append, List.nil_append, List.length_cons, List.length_nil, and_true, true_and, decide_true, decide_false, l_feed, startE, List.replicate, Nat.reduceSub, Nat.reduceAdd, List.length_map, Bool.not_true, Bool.not_false, if_true, if_false, Bool.false_eq_true, reduceIte, i_int_non, i_int_bl, i_int_int, i_int_str, i_int_tup, i_int_lst, i_bool_non, i_bool_bl, i_bool_int, i_bool_str, i_bool_tup, i_bool_lst, i_str_non, i_str_bl, i_str_int, i_str_str, i_str_tup, i_str_lst, i_tuple_non, i_tuple_bl, i_tuple_int, i_tuple_str, i_tuple_tup, i_tuple_lst, i_list_non, i_list_bl, i_list_int, i_list_str, i_list_tup, i_list_lst, t0, t1, t2, t3, Int.cast_ofNat_Int, Int.natCast_one, Int.natCast_zero, Int.reduceEq, Int.reduceLT, Int.reduceLE, e_ltS, e_leS, e_inS, e_ninS, e_isN, e_isNN, e_sqS, rs_sh, web_rs, wipeE, e0])
  refine comp_pure Ent.d (fun e => .str e.name) es ?_ ?_
  · intro e he acc k hk
    (try simp (disch := first | assumption | omega | decide | (constructor <;> first | assumption | omega | decide | fail) | fail) only [WS, e_wnil, WE, WEs, WAnd, WOr, WTs, WFs, WO, WI, e_rs_int, e_rs_str, e_rs_bl, e_rs_non, e_rs_tup, e_rs_lst, e_rs_lsf, e_rs_loc, e_str, e_cint, e_cbl, e_cnon, e_add, e_sub, e_mul, e_mod, e_div, e_pow, e_adds, e_addt, e_addl, e_tbl, e_tnon, e_tint, e_tlst, e_ttup, e_gt, e_ge, e_lt, e_le, e_eqi, e_nei, e_eqs, e_nes, e_eql, e_nel, e_eqt, e_net, e_sublst, e_subtup, e_lenl, e_lent, e_lens, e_int1, e_tupl, e_tupt, e_lstl, e_lstt, e_repr, e_stri, e_strs, e_fvs, e_fvi, e_sll, e_slf, e_slt, e_rvt, e_rvl, e_stl, e_stt, e_sql, e_sqt, e_bnm, e_btp, e_bnil, e_bcons, e_san, e_sac, feedO_eq, g_cells, g_at, g_held, g_count, p_at, p_held, p_count, c_count, c_at, c_held, c_cells, put_same, put_put, List.set_cons_zero, List.set_cons_succ, List.getElem?_cons_zero, List.getElem?_cons_succ, List.map_cons, List.map_nil, List.cons_append, List.nil_append, List.length_cons, List.length_nil, and_true, true_and, decide_true, decide_false, l_feed, startE, List.replicate, Nat.reduceSub, Nat.reduceAdd, List.length_map, Bool.not_true, Bool.not_false, if_true, if_false, Bool.false_eq_true, reduceIte, i_int_non, i_int_bl, i_int_int, i_int_str, i_int_tup, i_int_lst, i_bool_non, i_bool_bl, i_bool_int, i_bool_str, i_bool_tup, i_bool_lst, i_str_non, i_str_bl, i_str_int, i_str_str, i_str_tup, i_str_lst, i_tuple_non, i_tuple_bl, i_tuple_int, i_tuple_str, i_tuple_tup, i_tuple_lst, i_list_non, i_list_bl, i_list_int, i_list_str, i_list_tup, i_list_lst, t0, t1, t2, t3, Int.cast_ofNat_Int, Int.natCast_one, Int.natCast_zero, Int.reduceEq, Int.reduceLT, Int.reduceLE, e_ltS, e_leS, e_inS, e_ninS, e_isN, e_isNN, e_sqS, rs_sh, ent_rsd, ent_at0])
    exact hk
  (try simp (disch := first | assumption | omega | decide | (constructor <;> first | assumption | omega | decide | fail) | fail) only [WS, e_wnil, WE, WEs, WAnd, WOr, WTs, WFs, WO, WI, e_rs_int, e_rs_str, e_rs_bl, e_rs_non, e_rs_tup, e_rs_lst, e_rs_lsf, e_rs_loc, e_str, e_cint, e_cbl, e_cnon, e_add, e_sub, e_mul, e_mod, e_div, e_pow, e_adds, e_addt, e_addl, e_tbl, e_tnon, e_tint, e_tlst, e_ttup, e_gt, e_ge, e_lt, e_le, e_eqi, e_nei, e_eqs, e_nes, e_eql, e_nel, e_eqt, e_net, e_sublst, e_subtup, e_lenl, e_lent, e_lens, e_int1, e_tupl, e_tupt, e_lstl, e_lstt, e_repr, e_stri, e_strs, e_fvs, e_fvi, e_sll, e_slf, e_slt, e_rvt, e_rvl, e_stl, e_stt, e_sql, e_sqt, e_bnm, e_btp, e_bnil, e_bcons, e_san, e_sac, feedO_eq, g_cells, g_at, g_held, g_count, p_at, p_held, p_count, c_count, c_at, c_held, c_cells, put_same, put_put, List.set_cons_zero, List.set_cons_succ, List.getElem?_cons_zero, List.getElem?_cons_succ, List.map_cons, List.map_nil, List.cons_append, List.nil_append, List.length_cons, List.length_nil, and_true, true_and, decide_true, decide_false, l_feed, startE, List.replicate, Nat.reduceSub, Nat.reduceAdd, List.length_map, Bool.not_true, Bool.not_false, if_true, if_false, Bool.false_eq_true, reduceIte, i_int_non, i_int_bl, i_int_int, i_int_str, i_int_tup, i_int_lst, i_bool_non, i_bool_bl, i_bool_int, i_bool_str, i_bool_tup, i_bool_lst, i_str_non, i_str_bl, i_str_int, i_str_str, i_str_tup, i_str_lst, i_tuple_non, i_tuple_bl, i_tuple_int, i_tuple_str, i_tuple_tup, i_tuple_lst, i_list_non, i_list_bl, i_list_int, i_list_str, i_list_tup, i_list_lst, t0, t1, t2, t3, Int.cast_ofNat_Int, Int.natCast_one, Int.natCast_zero, Int.reduceEq, Int.reduceLT, Int.reduceLE, e_ltS, e_leS, e_inS, e_ninS, e_isN, e_isNN, e_sqS, rs_sh, hz0, e0])
  show WSs _ _ _ _ _ _; rw [WSs]
  (try simp (disch := first | assumption | omega | decide | (constructor <;> first | assumption | omega | decide | fail) | fail) only [WS, e_wnil, WE, WEs, WAnd, WOr, WTs, WFs, WO, WI, e_rs_int, e_rs_str, e_rs_bl, e_rs_non, e_rs_tup, e_rs_lst, e_rs_lsf, e_rs_loc, e_str, e_cint, e_cbl, e_cnon, e_add, e_sub, e_mul, e_mod, e_div, e_pow, e_adds, e_addt, e_addl, e_tbl, e_tnon, e_tint, e_tlst, e_ttup, e_gt, e_ge, e_lt, e_le, e_eqi, e_nei, e_eqs, e_nes, e_eql, e_nel, e_eqt, e_net, e_sublst, e_subtup, e_lenl, e_lent, e_lens, e_int1, e_tupl, e_tupt, e_lstl, e_lstt, e_repr, e_stri, e_strs, e_fvs, e_fvi, e_sll, e_slf, e_slt, e_rvt, e_rvl, e_stl, e_stt, e_sql, e_sqt, e_bnm, e_btp, e_bnil, e_bcons, e_san, e_sac, feedO_eq, g_cells, g_at, g_held, g_count, p_at, p_held, p_count, c_count, c_at, c_held, c_cells, put_same, put_put, List.set_cons_zero, List.set_cons_succ, List.getElem?_cons_zero, List.getElem?_cons_succ, List.map_cons, List.map_nil, List.cons_append, List.nil_append, List.length_cons, List.length_nil, and_true, true_and, decide_true, decide_false, l_feed, startE, List.replicate, Nat.reduceSub, Nat.reduceAdd, List.length_map, Bool.not_true, Bool.not_false, if_true, if_false, Bool.false_eq_true, reduceIte, i_int_non, i_int_bl, i_int_int, i_int_str, i_int_tup, i_int_lst, i_bool_non, i_bool_bl, i_bool_int, i_bool_str, i_bool_tup, i_bool_lst, i_str_non, i_str_bl, i_str_int, i_str_str, i_str_tup, i_str_lst, i_tuple_non, i_tuple_bl, i_tuple_int, i_tuple_str, i_tuple_tup, i_tuple_lst, i_list_non, i_list_bl, i_list_int, i_list_str, i_list_tup, i_list_lst, t0, t1, t2, t3, Int.cast_ofNat_Int, Int.natCast_one, Int.natCast_zero, Int.reduceEq, Int.reduceLT, Int.reduceLE, e_ltS, e_leS, e_inS, e_ninS, e_isN, e_isNN, e_sqS, rs_sh, web_rs])
  refine for_rule _ (fun i r S' => ∃ (x1 x2 x3 x4 x5 x6 x7 : Option D), r = [some (webD es asks), x1, x2, x3, x4, x5, x6, x7, none] ∧ Le S S') _ _ ?_ ?_ ?_
  · exact ⟨_, _, _, _, _, _, _, rfl, Le.refl _⟩
  · rintro i d hd r S' ⟨x1, x2, x3, x4, x5, x6, x7, rfl, hle⟩ Z1 zr zb znx zct
    obtain ⟨e, he, rfl⟩ := List.mem_map.mp (List.mem_of_getElem? hd)
    have ee : e.d = .tup [.str e.name, .int e.fee, .bl e.has, .tup (e.row.map D.str)] := rfl
    rw [ee]
    (try simp (disch := first | assumption | omega | decide | (constructor <;> first | assumption | omega | decide | fail) | fail) only [WS, e_wnil, WE, WEs, WAnd, WOr, WTs, WFs, WO, WI, e_rs_int, e_rs_str, e_rs_bl, e_rs_non, e_rs_tup, e_rs_lst, e_rs_lsf, e_rs_loc, e_str, e_cint, e_cbl, e_cnon, e_add, e_sub, e_mul, e_mod, e_div, e_pow, e_adds, e_addt, e_addl, e_tbl, e_tnon, e_tint, e_tlst, e_ttup, e_gt, e_ge, e_lt, e_le, e_eqi, e_nei, e_eqs, e_nes, e_eql, e_nel, e_eqt, e_net, e_sublst, e_subtup, e_lenl, e_lent, e_lens, e_int1, e_tupl, e_tupt, e_lstl, e_lstt, e_repr, e_stri, e_strs, e_fvs, e_fvi, e_sll, e_slf, e_slt, e_rvt, e_rvl, e_stl, e_stt, e_sql, e_sqt, e_bnm, e_btp, e_bnil, e_bcons, e_san, e_sac, feedO_eq, g_cells, g_at, g_held, g_count, p_at, p_held, p_count, c_count, c_at, c_held, c_cells, put_same, put_put, List.set_cons_zero, List.set_cons_succ, List.getElem?_cons_zero, List.getElem?_cons_succ, List.map_cons, List.map_nil, List.cons_append, List.nil_append, List.length_cons, List.length_nil, and_true, true_and, decide_true, decide_false, l_feed, startE, List.replicate, Nat.reduceSub, Nat.reduceAdd, List.length_map, Bool.not_true, Bool.not_false, if_true, if_false, Bool.false_eq_true, reduceIte, i_int_non, i_int_bl, i_int_int, i_int_str, i_int_tup, i_int_lst, i_bool_non, i_bool_bl, i_bool_int, i_bool_str, i_bool_tup, i_bool_lst, i_str_non, i_str_bl, i_str_int, i_str_str, i_str_tup, i_str_lst, i_tuple_non, i_tuple_bl, i_tuple_int, i_tuple_str, i_tuple_tup, i_tuple_lst, i_list_non, i_list_bl, i_list_int, i_list_str, i_list_tup, i_list_lst, t0, t1, t2, t3, Int.cast_ofNat_Int, Int.natCast_one, Int.natCast_zero, Int.reduceEq, Int.reduceLT, Int.reduceLE, e_ltS, e_leS, e_inS, e_ninS, e_isN, e_isNN, e_sqS, rs_sh])
    have wk : ∀ x ∈ es, D.str e.name = .str x.name → x = e := fun x hx h => hw.eq he hx (D.str.inj h)
    have sn : shD (.str e.name) := low_ok (hw.ok e he).name
    have kf : knD es (.str e.name) = false → False := fun h => by rw [kn_mem he] at h; cases h
    show WSs _ _ _ _ _ _; rw [WSs]
    (try simp (disch := first | assumption | omega | decide | (constructor <;> first | assumption | omega | decide | fail) | fail) only [WS, e_wnil, WE, WEs, WAnd, WOr, WTs, WFs, WO, WI, e_rs_int, e_rs_str, e_rs_bl, e_rs_non, e_rs_tup, e_rs_lst, e_rs_lsf, e_rs_loc, e_str, e_cint, e_cbl, e_cnon, e_add, e_sub, e_mul, e_mod, e_div, e_pow, e_adds, e_addt, e_addl, e_tbl, e_tnon, e_tint, e_tlst, e_ttup, e_gt, e_ge, e_lt, e_le, e_eqi, e_nei, e_eqs, e_nes, e_eql, e_nel, e_eqt, e_net, e_sublst, e_subtup, e_lenl, e_lent, e_lens, e_int1, e_tupl, e_tupt, e_lstl, e_lstt, e_repr, e_stri, e_strs, e_fvs, e_fvi, e_sll, e_slf, e_slt, e_rvt, e_rvl, e_stl, e_stt, e_sql, e_sqt, e_bnm, e_btp, e_bnil, e_bcons, e_san, e_sac, feedO_eq, g_cells, g_at, g_held, g_count, p_at, p_held, p_count, c_count, c_at, c_held, c_cells, put_same, put_put, List.set_cons_zero, List.set_cons_succ, List.getElem?_cons_zero, List.getElem?_cons_succ, List.map_cons, List.map_nil, List.cons_append, List.nil_append, List.length_cons, List.length_nil, and_true, true_and, decide_true, decide_false, l_feed, startE, List.replicate, Nat.reduceSub, Nat.reduceAdd, List.length_map, Bool.not_true, Bool.not_false, if_true, if_false, Bool.false_eq_true, reduceIte, i_int_non, i_int_bl, i_int_int, i_int_str, i_int_tup, i_int_lst, i_bool_non, i_bool_bl, i_bool_int, i_bool_str, i_bool_tup, i_bool_lst, i_str_non, i_str_bl, i_str_int, i_str_str, i_str_tup, i_str_lst, i_tuple_non, i_tuple_bl, i_tuple_int, i_tuple_str, i_tuple_tup, i_tuple_lst, i_list_non, i_list_bl, i_list_int, i_list_str, i_list_tup, i_list_lst, t0, t1, t2, t3, Int.cast_ofNat_Int, Int.natCast_one, Int.natCast_zero, Int.reduceEq, Int.reduceLT, Int.reduceLE, e_ltS, e_leS, e_inS, e_ninS, e_isN, e_isNN, e_sqS, rs_sh, f_fee_of, r_fee_of])
    refine ⟨es, asks, _, rfl, hw, sn, fun x hx h => ?_, fun h => (kf h).elim⟩
    rw [wk x hx h]
    (try simp (disch := first | assumption | omega | decide | (constructor <;> first | assumption | omega | decide | fail) | fail) only [WS, e_wnil, WE, WEs, WAnd, WOr, WTs, WFs, WO, WI, e_rs_int, e_rs_str, e_rs_bl, e_rs_non, e_rs_tup, e_rs_lst, e_rs_lsf, e_rs_loc, e_str, e_cint, e_cbl, e_cnon, e_add, e_sub, e_mul, e_mod, e_div, e_pow, e_adds, e_addt, e_addl, e_tbl, e_tnon, e_tint, e_tlst, e_ttup, e_gt, e_ge, e_lt, e_le, e_eqi, e_nei, e_eqs, e_nes, e_eql, e_nel, e_eqt, e_net, e_sublst, e_subtup, e_lenl, e_lent, e_lens, e_int1, e_tupl, e_tupt, e_lstl, e_lstt, e_repr, e_stri, e_strs, e_fvs, e_fvi, e_sll, e_slf, e_slt, e_rvt, e_rvl, e_stl, e_stt, e_sql, e_sqt, e_bnm, e_btp, e_bnil, e_bcons, e_san, e_sac, feedO_eq, g_cells, g_at, g_held, g_count, p_at, p_held, p_count, c_count, c_at, c_held, c_cells, put_same, put_put, List.set_cons_zero, List.set_cons_succ, List.getElem?_cons_zero, List.getElem?_cons_succ, List.map_cons, List.map_nil, List.cons_append, List.nil_append, List.length_cons, List.length_nil, and_true, true_and, decide_true, decide_false, l_feed, startE, List.replicate, Nat.reduceSub, Nat.reduceAdd, List.length_map, Bool.not_true, Bool.not_false, if_true, if_false, Bool.false_eq_true, reduceIte, i_int_non, i_int_bl, i_int_int, i_int_str, i_int_tup, i_int_lst, i_bool_non, i_bool_bl, i_bool_int, i_bool_str, i_bool_tup, i_bool_lst, i_str_non, i_str_bl, i_str_int, i_str_str, i_str_tup, i_str_lst, i_tuple_non, i_tuple_bl, i_tuple_int, i_tuple_str, i_tuple_tup, i_tuple_lst, i_list_non, i_list_bl, i_list_int, i_list_str, i_list_tup, i_list_lst, t0, t1, t2, t3, Int.cast_ofNat_Int, Int.natCast_one, Int.natCast_zero, Int.reduceEq, Int.reduceLT, Int.reduceLE, e_ltS, e_leS, e_inS, e_ninS, e_isN, e_isNN, e_sqS, rs_sh, f_has_of, r_has_of])
    refine ⟨es, asks, _, rfl, hw, sn, fun x hx h => ?_, fun h => (kf h).elim⟩
    rw [wk x hx h]
    (try simp (disch := first | assumption | omega | decide | (constructor <;> first | assumption | omega | decide | fail) | fail) only [WS, e_wnil, WE, WEs, WAnd, WOr, WTs, WFs, WO, WI, e_rs_int, e_rs_str, e_rs_bl, e_rs_non, e_rs_tup, e_rs_lst, e_rs_lsf, e_rs_loc, e_str, e_cint, e_cbl, e_cnon, e_add, e_sub, e_mul, e_mod, e_div, e_pow, e_adds, e_addt, e_addl, e_tbl, e_tnon, e_tint, e_tlst, e_ttup, e_gt, e_ge, e_lt, e_le, e_eqi, e_nei, e_eqs, e_nes, e_eql, e_nel, e_eqt, e_net, e_sublst, e_subtup, e_lenl, e_lent, e_lens, e_int1, e_tupl, e_tupt, e_lstl, e_lstt, e_repr, e_stri, e_strs, e_fvs, e_fvi, e_sll, e_slf, e_slt, e_rvt, e_rvl, e_stl, e_stt, e_sql, e_sqt, e_bnm, e_btp, e_bnil, e_bcons, e_san, e_sac, feedO_eq, g_cells, g_at, g_held, g_count, p_at, p_held, p_count, c_count, c_at, c_held, c_cells, put_same, put_put, List.set_cons_zero, List.set_cons_succ, List.getElem?_cons_zero, List.getElem?_cons_succ, List.map_cons, List.map_nil, List.cons_append, List.nil_append, List.length_cons, List.length_nil, and_true, true_and, decide_true, decide_false, l_feed, startE, List.replicate, Nat.reduceSub, Nat.reduceAdd, List.length_map, Bool.not_true, Bool.not_false, if_true, if_false, Bool.false_eq_true, reduceIte, i_int_non, i_int_bl, i_int_int, i_int_str, i_int_tup, i_int_lst, i_bool_non, i_bool_bl, i_bool_int, i_bool_str, i_bool_tup, i_bool_lst, i_str_non, i_str_bl, i_str_int, i_str_str, i_str_tup, i_str_lst, i_tuple_non, i_tuple_bl, i_tuple_int, i_tuple_str, i_tuple_tup, i_tuple_lst, i_list_non, i_list_bl, i_list_int, i_list_str, i_list_tup, i_list_lst, t0, t1, t2, t3, Int.cast_ofNat_Int, Int.natCast_one, Int.natCast_zero, Int.reduceEq, Int.reduceLT, Int.reduceLE, e_ltS, e_leS, e_inS, e_ninS, e_isN, e_isNN, e_sqS, rs_sh, f_table_of, r_table_of])
    refine ⟨es, asks, _, rfl, hw, sn, fun x hx h => ?_, fun h => (kf h).elim⟩
    rw [wk x hx h]
    (try simp (disch := first | assumption | omega | decide | (constructor <;> first | assumption | omega | decide | fail) | fail) only [WS, e_wnil, WE, WEs, WAnd, WOr, WTs, WFs, WO, WI, e_rs_int, e_rs_str, e_rs_bl, e_rs_non, e_rs_tup, e_rs_lst, e_rs_lsf, e_rs_loc, e_str, e_cint, e_cbl, e_cnon, e_add, e_sub, e_mul, e_mod, e_div, e_pow, e_adds, e_addt, e_addl, e_tbl, e_tnon, e_tint, e_tlst, e_ttup, e_gt, e_ge, e_lt, e_le, e_eqi, e_nei, e_eqs, e_nes, e_eql, e_nel, e_eqt, e_net, e_sublst, e_subtup, e_lenl, e_lent, e_lens, e_int1, e_tupl, e_tupt, e_lstl, e_lstt, e_repr, e_stri, e_strs, e_fvs, e_fvi, e_sll, e_slf, e_slt, e_rvt, e_rvl, e_stl, e_stt, e_sql, e_sqt, e_bnm, e_btp, e_bnil, e_bcons, e_san, e_sac, feedO_eq, g_cells, g_at, g_held, g_count, p_at, p_held, p_count, c_count, c_at, c_held, c_cells, put_same, put_put, List.set_cons_zero, List.set_cons_succ, List.getElem?_cons_zero, List.getElem?_cons_succ, List.map_cons, List.map_nil, List.cons_append, List.nil_append, List.length_cons, List.length_nil, and_true, true_and, decide_true, decide_false, l_feed, startE, List.replicate, Nat.reduceSub, Nat.reduceAdd, List.length_map, Bool.not_true, Bool.not_false, if_true, if_false, Bool.false_eq_true, reduceIte, i_int_non, i_int_bl, i_int_int, i_int_str, i_int_tup, i_int_lst, i_bool_non, i_bool_bl, i_bool_int, i_bool_str, i_bool_tup, i_bool_lst, i_str_non, i_str_bl, i_str_int, i_str_str, i_str_tup, i_str_lst, i_tuple_non, i_tuple_bl, i_tuple_int, i_tuple_str, i_tuple_tup, i_tuple_lst, i_list_non, i_list_bl, i_list_int, i_list_str, i_list_tup, i_list_lst, t0, t1, t2, t3, Int.cast_ofNat_Int, Int.natCast_one, Int.natCast_zero, Int.reduceEq, Int.reduceLT, Int.reduceLE, e_ltS, e_leS, e_inS, e_ninS, e_isN, e_isNN, e_sqS, rs_sh, f_senders_to, r_senders_to])
    refine ⟨es, asks, _, rfl, hw, sn, fun x hx h => ?_, fun h => (kf h).elim⟩
    rw [wk x hx h]
    refine ⟨sz_small (by decide), ?_⟩
    show WSs _ _ _ _ _ _; rw [WSs]
    (try simp (disch := first | assumption | omega | decide | (constructor <;> first | assumption | omega | decide | fail) | fail) only [WS, e_wnil, WE, WEs, WAnd, WOr, WTs, WFs, WO, WI, e_rs_int, e_rs_str, e_rs_bl, e_rs_non, e_rs_tup, e_rs_lst, e_rs_lsf, e_rs_loc, e_str, e_cint, e_cbl, e_cnon, e_add, e_sub, e_mul, e_mod, e_div, e_pow, e_adds, e_addt, e_addl, e_tbl, e_tnon, e_tint, e_tlst, e_ttup, e_gt, e_ge, e_lt, e_le, e_eqi, e_nei, e_eqs, e_nes, e_eql, e_nel, e_eqt, e_net, e_sublst, e_subtup, e_lenl, e_lent, e_lens, e_int1, e_tupl, e_tupt, e_lstl, e_lstt, e_repr, e_stri, e_strs, e_fvs, e_fvi, e_sll, e_slf, e_slt, e_rvt, e_rvl, e_stl, e_stt, e_sql, e_sqt, e_bnm, e_btp, e_bnil, e_bcons, e_san, e_sac, feedO_eq, g_cells, g_at, g_held, g_count, p_at, p_held, p_count, c_count, c_at, c_held, c_cells, put_same, put_put, List.set_cons_zero, List.set_cons_succ, List.getElem?_cons_zero, List.getElem?_cons_succ, List.map_cons, List.map_nil, List.cons_append, List.nil_append, List.length_cons, List.length_nil, and_true, true_and, decide_true, decide_false, l_feed, startE, List.replicate, Nat.reduceSub, Nat.reduceAdd, List.length_map, Bool.not_true, Bool.not_false, if_true, if_false, Bool.false_eq_true, reduceIte, i_int_non, i_int_bl, i_int_int, i_int_str, i_int_tup, i_int_lst, i_bool_non, i_bool_bl, i_bool_int, i_bool_str, i_bool_tup, i_bool_lst, i_str_non, i_str_bl, i_str_int, i_str_str, i_str_tup, i_str_lst, i_tuple_non, i_tuple_bl, i_tuple_int, i_tuple_str, i_tuple_tup, i_tuple_lst, i_list_non, i_list_bl, i_list_int, i_list_str, i_list_tup, i_list_lst, t0, t1, t2, t3, Int.cast_ofNat_Int, Int.natCast_one, Int.natCast_zero, Int.reduceEq, Int.reduceLT, Int.reduceLE, e_ltS, e_leS, e_inS, e_ninS, e_isN, e_isNN, e_sqS, rs_sh, f_fee_of, r_fee_of, o_fee_of])
    refine ⟨es, asks, _, rfl, hw, sn, fun x hx h => ?_, fun h => (kf h).elim⟩
    rw [wk x hx h]
    (try simp (disch := first | assumption | omega | decide | (constructor <;> first | assumption | omega | decide | fail) | fail) only [WS, e_wnil, WE, WEs, WAnd, WOr, WTs, WFs, WO, WI, e_rs_int, e_rs_str, e_rs_bl, e_rs_non, e_rs_tup, e_rs_lst, e_rs_lsf, e_rs_loc, e_str, e_cint, e_cbl, e_cnon, e_add, e_sub, e_mul, e_mod, e_div, e_pow, e_adds, e_addt, e_addl, e_tbl, e_tnon, e_tint, e_tlst, e_ttup, e_gt, e_ge, e_lt, e_le, e_eqi, e_nei, e_eqs, e_nes, e_eql, e_nel, e_eqt, e_net, e_sublst, e_subtup, e_lenl, e_lent, e_lens, e_int1, e_tupl, e_tupt, e_lstl, e_lstt, e_repr, e_stri, e_strs, e_fvs, e_fvi, e_sll, e_slf, e_slt, e_rvt, e_rvl, e_stl, e_stt, e_sql, e_sqt, e_bnm, e_btp, e_bnil, e_bcons, e_san, e_sac, feedO_eq, g_cells, g_at, g_held, g_count, p_at, p_held, p_count, c_count, c_at, c_held, c_cells, put_same, put_put, List.set_cons_zero, List.set_cons_succ, List.getElem?_cons_zero, List.getElem?_cons_succ, List.map_cons, List.map_nil, List.cons_append, List.nil_append, List.length_cons, List.length_nil, and_true, true_and, decide_true, decide_false, l_feed, startE, List.replicate, Nat.reduceSub, Nat.reduceAdd, List.length_map, Bool.not_true, Bool.not_false, if_true, if_false, Bool.false_eq_true, reduceIte, i_int_non, i_int_bl, i_int_int, i_int_str, i_int_tup, i_int_lst, i_bool_non, i_bool_bl, i_bool_int, i_bool_str, i_bool_tup, i_bool_lst, i_str_non, i_str_bl, i_str_int, i_str_str, i_str_tup, i_str_lst, i_tuple_non, i_tuple_bl, i_tuple_int, i_tuple_str, i_tuple_tup, i_tuple_lst, i_list_non, i_list_bl, i_list_int, i_list_str, i_list_tup, i_list_lst, t0, t1, t2, t3, Int.cast_ofNat_Int, Int.natCast_one, Int.natCast_zero, Int.reduceEq, Int.reduceLT, Int.reduceLE, e_ltS, e_leS, e_inS, e_ninS, e_isN, e_isNN, e_sqS, rs_sh, f_has_of, r_has_of, o_has_of])
    refine ⟨es, asks, _, rfl, hw, sn, fun x hx h => ?_, fun h => (kf h).elim⟩
    rw [wk x hx h]
    (try simp (disch := first | assumption | omega | decide | (constructor <;> first | assumption | omega | decide | fail) | fail) only [WS, e_wnil, WE, WEs, WAnd, WOr, WTs, WFs, WO, WI, e_rs_int, e_rs_str, e_rs_bl, e_rs_non, e_rs_tup, e_rs_lst, e_rs_lsf, e_rs_loc, e_str, e_cint, e_cbl, e_cnon, e_add, e_sub, e_mul, e_mod, e_div, e_pow, e_adds, e_addt, e_addl, e_tbl, e_tnon, e_tint, e_tlst, e_ttup, e_gt, e_ge, e_lt, e_le, e_eqi, e_nei, e_eqs, e_nes, e_eql, e_nel, e_eqt, e_net, e_sublst, e_subtup, e_lenl, e_lent, e_lens, e_int1, e_tupl, e_tupt, e_lstl, e_lstt, e_repr, e_stri, e_strs, e_fvs, e_fvi, e_sll, e_slf, e_slt, e_rvt, e_rvl, e_stl, e_stt, e_sql, e_sqt, e_bnm, e_btp, e_bnil, e_bcons, e_san, e_sac, feedO_eq, g_cells, g_at, g_held, g_count, p_at, p_held, p_count, c_count, c_at, c_held, c_cells, put_same, put_put, List.set_cons_zero, List.set_cons_succ, List.getElem?_cons_zero, List.getElem?_cons_succ, List.map_cons, List.map_nil, List.cons_append, List.nil_append, List.length_cons, List.length_nil, and_true, true_and, decide_true, decide_false, l_feed, startE, List.replicate, Nat.reduceSub, Nat.reduceAdd, List.length_map, Bool.not_true, Bool.not_false, if_true, if_false, Bool.false_eq_true, reduceIte, i_int_non, i_int_bl, i_int_int, i_int_str, i_int_tup, i_int_lst, i_bool_non, i_bool_bl, i_bool_int, i_bool_str, i_bool_tup, i_bool_lst, i_str_non, i_str_bl, i_str_int, i_str_str, i_str_tup, i_str_lst, i_tuple_non, i_tuple_bl, i_tuple_int, i_tuple_str, i_tuple_tup, i_tuple_lst, i_list_non, i_list_bl, i_list_int, i_list_str, i_list_tup, i_list_lst, t0, t1, t2, t3, Int.cast_ofNat_Int, Int.natCast_one, Int.natCast_zero, Int.reduceEq, Int.reduceLT, Int.reduceLE, e_ltS, e_leS, e_inS, e_ninS, e_isN, e_isNN, e_sqS, rs_sh, f_table_of, r_table_of, o_table_of])
    refine ⟨es, asks, _, rfl, hw, sn, fun x hx h => ?_, fun h => (kf h).elim⟩
    rw [wk x hx h]
    refine ⟨sz_small (by decide), fun b hb => ?_⟩
    show WSs _ _ _ _ _ _; rw [WSs]
    (try simp (disch := first | assumption | omega | decide | (constructor <;> first | assumption | omega | decide | fail) | fail) only [WS, e_wnil, WE, WEs, WAnd, WOr, WTs, WFs, WO, WI, e_rs_int, e_rs_str, e_rs_bl, e_rs_non, e_rs_tup, e_rs_lst, e_rs_lsf, e_rs_loc, e_str, e_cint, e_cbl, e_cnon, e_add, e_sub, e_mul, e_mod, e_div, e_pow, e_adds, e_addt, e_addl, e_tbl, e_tnon, e_tint, e_tlst, e_ttup, e_gt, e_ge, e_lt, e_le, e_eqi, e_nei, e_eqs, e_nes, e_eql, e_nel, e_eqt, e_net, e_sublst, e_subtup, e_lenl, e_lent, e_lens, e_int1, e_tupl, e_tupt, e_lstl, e_lstt, e_repr, e_stri, e_strs, e_fvs, e_fvi, e_sll, e_slf, e_slt, e_rvt, e_rvl, e_stl, e_stt, e_sql, e_sqt, e_bnm, e_btp, e_bnil, e_bcons, e_san, e_sac, feedO_eq, g_cells, g_at, g_held, g_count, p_at, p_held, p_count, c_count, c_at, c_held, c_cells, put_same, put_put, List.set_cons_zero, List.set_cons_succ, List.getElem?_cons_zero, List.getElem?_cons_succ, List.map_cons, List.map_nil, List.cons_append, List.nil_append, List.length_cons, List.length_nil, and_true, true_and, decide_true, decide_false, l_feed, startE, List.replicate, Nat.reduceSub, Nat.reduceAdd, List.length_map, Bool.not_true, Bool.not_false, if_true, if_false, Bool.false_eq_true, reduceIte, i_int_non, i_int_bl, i_int_int, i_int_str, i_int_tup, i_int_lst, i_bool_non, i_bool_bl, i_bool_int, i_bool_str, i_bool_tup, i_bool_lst, i_str_non, i_str_bl, i_str_int, i_str_str, i_str_tup, i_str_lst, i_tuple_non, i_tuple_bl, i_tuple_int, i_tuple_str, i_tuple_tup, i_tuple_lst, i_list_non, i_list_bl, i_list_int, i_list_str, i_list_tup, i_list_lst, t0, t1, t2, t3, Int.cast_ofNat_Int, Int.natCast_one, Int.natCast_zero, Int.reduceEq, Int.reduceLT, Int.reduceLE, e_ltS, e_leS, e_inS, e_ninS, e_isN, e_isNN, e_sqS, rs_sh, f_senders_to, r_senders_to, o_senders_to])
    refine ⟨es, asks, _, rfl, hw, sn, fun x hx h => ?_, fun h => (kf h).elim⟩
    rw [wk x hx h]
    (try simp (disch := first | assumption | omega | decide | (constructor <;> first | assumption | omega | decide | fail) | fail) only [WS, e_wnil, WE, WEs, WAnd, WOr, WTs, WFs, WO, WI, e_rs_int, e_rs_str, e_rs_bl, e_rs_non, e_rs_tup, e_rs_lst, e_rs_lsf, e_rs_loc, e_str, e_cint, e_cbl, e_cnon, e_add, e_sub, e_mul, e_mod, e_div, e_pow, e_adds, e_addt, e_addl, e_tbl, e_tnon, e_tint, e_tlst, e_ttup, e_gt, e_ge, e_lt, e_le, e_eqi, e_nei, e_eqs, e_nes, e_eql, e_nel, e_eqt, e_net, e_sublst, e_subtup, e_lenl, e_lent, e_lens, e_int1, e_tupl, e_tupt, e_lstl, e_lstt, e_repr, e_stri, e_strs, e_fvs, e_fvi, e_sll, e_slf, e_slt, e_rvt, e_rvl, e_stl, e_stt, e_sql, e_sqt, e_bnm, e_btp, e_bnil, e_bcons, e_san, e_sac, feedO_eq, g_cells, g_at, g_held, g_count, p_at, p_held, p_count, c_count, c_at, c_held, c_cells, put_same, put_put, List.set_cons_zero, List.set_cons_succ, List.getElem?_cons_zero, List.getElem?_cons_succ, List.map_cons, List.map_nil, List.cons_append, List.nil_append, List.length_cons, List.length_nil, and_true, true_and, decide_true, decide_false, l_feed, startE, List.replicate, Nat.reduceSub, Nat.reduceAdd, List.length_map, Bool.not_true, Bool.not_false, if_true, if_false, Bool.false_eq_true, reduceIte, i_int_non, i_int_bl, i_int_int, i_int_str, i_int_tup, i_int_lst, i_bool_non, i_bool_bl, i_bool_int, i_bool_str, i_bool_tup, i_bool_lst, i_str_non, i_str_bl, i_str_int, i_str_str, i_str_tup, i_str_lst, i_tuple_non, i_tuple_bl, i_tuple_int, i_tuple_str, i_tuple_tup, i_tuple_lst, i_list_non, i_list_bl, i_list_int, i_list_str, i_list_tup, i_list_lst, t0, t1, t2, t3, Int.cast_ofNat_Int, Int.natCast_one, Int.natCast_zero, Int.reduceEq, Int.reduceLT, Int.reduceLE, e_ltS, e_leS, e_inS, e_ninS, e_isN, e_isNN, e_sqS, rs_sh])
    refine ⟨by decide, ?_⟩
    show WSs _ _ _ _ _ _; rw [WSs]
    (try simp (disch := first | assumption | omega | decide | (constructor <;> first | assumption | omega | decide | fail) | fail) only [WS, e_wnil, WE, WEs, WAnd, WOr, WTs, WFs, WO, WI, e_rs_int, e_rs_str, e_rs_bl, e_rs_non, e_rs_tup, e_rs_lst, e_rs_lsf, e_rs_loc, e_str, e_cint, e_cbl, e_cnon, e_add, e_sub, e_mul, e_mod, e_div, e_pow, e_adds, e_addt, e_addl, e_tbl, e_tnon, e_tint, e_tlst, e_ttup, e_gt, e_ge, e_lt, e_le, e_eqi, e_nei, e_eqs, e_nes, e_eql, e_nel, e_eqt, e_net, e_sublst, e_subtup, e_lenl, e_lent, e_lens, e_int1, e_tupl, e_tupt, e_lstl, e_lstt, e_repr, e_stri, e_strs, e_fvs, e_fvi, e_sll, e_slf, e_slt, e_rvt, e_rvl, e_stl, e_stt, e_sql, e_sqt, e_bnm, e_btp, e_bnil, e_bcons, e_san, e_sac, feedO_eq, g_cells, g_at, g_held, g_count, p_at, p_held, p_count, c_count, c_at, c_held, c_cells, put_same, put_put, List.set_cons_zero, List.set_cons_succ, List.getElem?_cons_zero, List.getElem?_cons_succ, List.map_cons, List.map_nil, List.cons_append, List.nil_append, List.length_cons, List.length_nil, and_true, true_and, decide_true, decide_false, l_feed, startE, List.replicate, Nat.reduceSub, Nat.reduceAdd, List.length_map, Bool.not_true, Bool.not_false, if_true, if_false, Bool.false_eq_true, reduceIte, i_int_non, i_int_bl, i_int_int, i_int_str, i_int_tup, i_int_lst, i_bool_non, i_bool_bl, i_bool_int, i_bool_str, i_bool_tup, i_bool_lst, i_str_non, i_str_bl, i_str_int, i_str_str, i_str_tup, i_str_lst, i_tuple_non, i_tuple_bl, i_tuple_int, i_tuple_str, i_tuple_tup, i_tuple_lst, i_list_non, i_list_bl, i_list_int, i_list_str, i_list_tup, i_list_lst, t0, t1, t2, t3, Int.cast_ofNat_Int, Int.natCast_one, Int.natCast_zero, Int.reduceEq, Int.reduceLT, Int.reduceLE, e_ltS, e_leS, e_inS, e_ninS, e_isN, e_isNN, e_sqS, rs_sh, web_rs, wipeE])
    refine comp_filter Ent.d (fun e => .str e.name) (fun x => x.row.contains e.name) es ?_ ?_
    · intro x hx acc k hk
      have e2 : cmpD .In (.str e.name) (.tup (x.row.map D.str)) = some (x.row.contains e.name) := by rw [e_inT ⟨rfl, row_flat⟩, in_row]
      (try simp (disch := first | assumption | omega | decide | (constructor <;> first | assumption | omega | decide | fail) | fail) only [WS, e_wnil, WE, WEs, WAnd, WOr, WTs, WFs, WO, WI, e_rs_int, e_rs_str, e_rs_bl, e_rs_non, e_rs_tup, e_rs_lst, e_rs_lsf, e_rs_loc, e_str, e_cint, e_cbl, e_cnon, e_add, e_sub, e_mul, e_mod, e_div, e_pow, e_adds, e_addt, e_addl, e_tbl, e_tnon, e_tint, e_tlst, e_ttup, e_gt, e_ge, e_lt, e_le, e_eqi, e_nei, e_eqs, e_nes, e_eql, e_nel, e_eqt, e_net, e_sublst, e_subtup, e_lenl, e_lent, e_lens, e_int1, e_tupl, e_tupt, e_lstl, e_lstt, e_repr, e_stri, e_strs, e_fvs, e_fvi, e_sll, e_slf, e_slt, e_rvt, e_rvl, e_stl, e_stt, e_sql, e_sqt, e_bnm, e_btp, e_bnil, e_bcons, e_san, e_sac, feedO_eq, g_cells, g_at, g_held, g_count, p_at, p_held, p_count, c_count, c_at, c_held, c_cells, put_same, put_put, List.set_cons_zero, List.set_cons_succ, List.getElem?_cons_zero, List.getElem?_cons_succ, List.map_cons, List.map_nil, List.cons_append, List.nil_append, List.length_cons, List.length_nil, and_true, true_and, decide_true, decide_false, l_feed, startE, List.replicate, Nat.reduceSub, Nat.reduceAdd, List.length_map, Bool.not_true, Bool.not_false, if_true, if_false, Bool.false_eq_true, reduceIte, i_int_non, i_int_bl, i_int_int, i_int_str, i_int_tup, i_int_lst, i_bool_non, i_bool_bl, i_bool_int, i_bool_str, i_bool_tup, i_bool_lst, i_str_non, i_str_bl, i_str_int, i_str_str, i_str_tup, i_str_lst, i_tuple_non, i_tuple_bl, i_tuple_int, i_tuple_str, i_tuple_tup, i_tuple_lst, i_list_non, i_list_bl, i_list_int, i_list_str, i_list_tup, i_list_lst, t0, t1, t2, t3, Int.cast_ofNat_Int, Int.natCast_one, Int.natCast_zero, Int.reduceEq, Int.reduceLT, Int.reduceLE, e_ltS, e_leS, e_inS, e_ninS, e_isN, e_isNN, e_sqS, rs_sh, ent_rsd, ent_at0, e2])
      cases hc : x.row.contains e.name with
      | true =>
        rw [hc] at hk
        (try simp (disch := first | assumption | omega | decide | (constructor <;> first | assumption | omega | decide | fail) | fail) only [WS, e_wnil, WE, WEs, WAnd, WOr, WTs, WFs, WO, WI, e_rs_int, e_rs_str, e_rs_bl, e_rs_non, e_rs_tup, e_rs_lst, e_rs_lsf, e_rs_loc, e_str, e_cint, e_cbl, e_cnon, e_add, e_sub, e_mul, e_mod, e_div, e_pow, e_adds, e_addt, e_addl, e_tbl, e_tnon, e_tint, e_tlst, e_ttup, e_gt, e_ge, e_lt, e_le, e_eqi, e_nei, e_eqs, e_nes, e_eql, e_nel, e_eqt, e_net, e_sublst, e_subtup, e_lenl, e_lent, e_lens, e_int1, e_tupl, e_tupt, e_lstl, e_lstt, e_repr, e_stri, e_strs, e_fvs, e_fvi, e_sll, e_slf, e_slt, e_rvt, e_rvl, e_stl, e_stt, e_sql, e_sqt, e_bnm, e_btp, e_bnil, e_bcons, e_san, e_sac, feedO_eq, g_cells, g_at, g_held, g_count, p_at, p_held, p_count, c_count, c_at, c_held, c_cells, put_same, put_put, List.set_cons_zero, List.set_cons_succ, List.getElem?_cons_zero, List.getElem?_cons_succ, List.map_cons, List.map_nil, List.cons_append, List.nil_append, List.length_cons, List.length_nil, and_true, true_and, decide_true, decide_false, l_feed, startE, List.replicate, Nat.reduceSub, Nat.reduceAdd, List.length_map, Bool.not_true, Bool.not_false, if_true, if_false, Bool.false_eq_true, reduceIte, i_int_non, i_int_bl, i_int_int, i_int_str, i_int_tup, i_int_lst, i_bool_non, i_bool_bl, i_bool_int, i_bool_str, i_bool_tup, i_bool_lst, i_str_non, i_str_bl, i_str_int, i_str_str, i_str_tup, i_str_lst, i_tuple_non, i_tuple_bl, i_tuple_int, i_tuple_str, i_tuple_tup, i_tuple_lst, i_list_non, i_list_bl, i_list_int, i_list_str, i_list_tup, i_list_lst, t0, t1, t2, t3, Int.cast_ofNat_Int, Int.natCast_one, Int.natCast_zero, Int.reduceEq, Int.reduceLT, Int.reduceLE, e_ltS, e_leS, e_inS, e_ninS, e_isN, e_isNN, e_sqS, rs_sh, ent_rsd, ent_at0])
        exact hk
      | false =>
        rw [hc] at hk
        (try simp (disch := first | assumption | omega | decide | (constructor <;> first | assumption | omega | decide | fail) | fail) only [WS, e_wnil, WE, WEs, WAnd, WOr, WTs, WFs, WO, WI, e_rs_int, e_rs_str, e_rs_bl, e_rs_non, e_rs_tup, e_rs_lst, e_rs_lsf, e_rs_loc, e_str, e_cint, e_cbl, e_cnon, e_add, e_sub, e_mul, e_mod, e_div, e_pow, e_adds, e_addt, e_addl, e_tbl, e_tnon, e_tint, e_tlst, e_ttup, e_gt, e_ge, e_lt, e_le, e_eqi, e_nei, e_eqs, e_nes, e_eql, e_nel, e_eqt, e_net, e_sublst, e_subtup, e_lenl, e_lent, e_lens, e_int1, e_tupl, e_tupt, e_lstl, e_lstt, e_repr, e_stri, e_strs, e_fvs, e_fvi, e_sll, e_slf, e_slt, e_rvt, e_rvl, e_stl, e_stt, e_sql, e_sqt, e_bnm, e_btp, e_bnil, e_bcons, e_san, e_sac, feedO_eq, g_cells, g_at, g_held, g_count, p_at, p_held, p_count, c_count, c_at, c_held, c_cells, put_same, put_put, List.set_cons_zero, List.set_cons_succ, List.getElem?_cons_zero, List.getElem?_cons_succ, List.map_cons, List.map_nil, List.cons_append, List.nil_append, List.length_cons, List.length_nil, and_true, true_and, decide_true, decide_false, l_feed, startE, List.replicate, Nat.reduceSub, Nat.reduceAdd, List.length_map, Bool.not_true, Bool.not_false, if_true, if_false, Bool.false_eq_true, reduceIte, i_int_non, i_int_bl, i_int_int, i_int_str, i_int_tup, i_int_lst, i_bool_non, i_bool_bl, i_bool_int, i_bool_str, i_bool_tup, i_bool_lst, i_str_non, i_str_bl, i_str_int, i_str_str, i_str_tup, i_str_lst, i_tuple_non, i_tuple_bl, i_tuple_int, i_tuple_str, i_tuple_tup, i_tuple_lst, i_list_non, i_list_bl, i_list_int, i_list_str, i_list_tup, i_list_lst, t0, t1, t2, t3, Int.cast_ofNat_Int, Int.natCast_one, Int.natCast_zero, Int.reduceEq, Int.reduceLT, Int.reduceLE, e_ltS, e_leS, e_inS, e_ninS, e_isN, e_isNN, e_sqS, rs_sh])
        exact hk
    · have hz : ((es.filter fun x => x.row.contains e.name).map fun x => D.str x.name).length ≤ sizeLine := sz_small (by rw [List.length_map]; have := List.length_filter_le (fun x => x.row.contains e.name) es; have := hw.len; omega)
      have hP := told_pl hw he
      have hPP : Pl 50000 4 (.lst [.lst [.int e.fee, .bl e.has, .tup (e.row.map D.str), sendD es e], .lst [.int e.fee, .bl e.has, .tup (e.row.map D.str), sendD es e]]) := (pl_ls (pl_cons hP (pl_cons hP pl_nil))).mono (show (10000 + 2) * 2 + 4 ≤ 50000 by decide) (by decide)
      have e3 := e_repr (rpk hPP (by decide) (by decide))
      unfold sendD at e3
      (try simp (disch := first | assumption | omega | decide | (constructor <;> first | assumption | omega | decide | fail) | fail) only [WS, e_wnil, WE, WEs, WAnd, WOr, WTs, WFs, WO, WI, e_rs_int, e_rs_str, e_rs_bl, e_rs_non, e_rs_tup, e_rs_lst, e_rs_lsf, e_rs_loc, e_str, e_cint, e_cbl, e_cnon, e_add, e_sub, e_mul, e_mod, e_div, e_pow, e_adds, e_addt, e_addl, e_tbl, e_tnon, e_tint, e_tlst, e_ttup, e_gt, e_ge, e_lt, e_le, e_eqi, e_nei, e_eqs, e_nes, e_eql, e_nel, e_eqt, e_net, e_sublst, e_subtup, e_lenl, e_lent, e_lens, e_int1, e_tupl, e_tupt, e_lstl, e_lstt, e_repr, e_stri, e_strs, e_fvs, e_fvi, e_sll, e_slf, e_slt, e_rvt, e_rvl, e_stl, e_stt, e_sql, e_sqt, e_bnm, e_btp, e_bnil, e_bcons, e_san, e_sac, feedO_eq, g_cells, g_at, g_held, g_count, p_at, p_held, p_count, c_count, c_at, c_held, c_cells, put_same, put_put, List.set_cons_zero, List.set_cons_succ, List.getElem?_cons_zero, List.getElem?_cons_succ, List.map_cons, List.map_nil, List.cons_append, List.nil_append, List.length_cons, List.length_nil, and_true, true_and, decide_true, decide_false, l_feed, startE, List.replicate, Nat.reduceSub, Nat.reduceAdd, List.length_map, Bool.not_true, Bool.not_false, if_true, if_false, Bool.false_eq_true, reduceIte, i_int_non, i_int_bl, i_int_int, i_int_str, i_int_tup, i_int_lst, i_bool_non, i_bool_bl, i_bool_int, i_bool_str, i_bool_tup, i_bool_lst, i_str_non, i_str_bl, i_str_int, i_str_str, i_str_tup, i_str_lst, i_tuple_non, i_tuple_bl, i_tuple_int, i_tuple_str, i_tuple_tup, i_tuple_lst, i_list_non, i_list_bl, i_list_int, i_list_str, i_list_tup, i_list_lst, t0, t1, t2, t3, Int.cast_ofNat_Int, Int.natCast_one, Int.natCast_zero, Int.reduceEq, Int.reduceLT, Int.reduceLE, e_ltS, e_leS, e_inS, e_ninS, e_isN, e_isNN, e_sqS, rs_sh, hz])
      refine ⟨sz_small (by decide), ?_⟩
      show WSs _ _ _ _ _ _; rw [WSs]
      (try simp (disch := first | assumption | omega | decide | (constructor <;> first | assumption | omega | decide | fail) | fail) only [WS, e_wnil, WE, WEs, WAnd, WOr, WTs, WFs, WO, WI, e_rs_int, e_rs_str, e_rs_bl, e_rs_non, e_rs_tup, e_rs_lst, e_rs_lsf, e_rs_loc, e_str, e_cint, e_cbl, e_cnon, e_add, e_sub, e_mul, e_mod, e_div, e_pow, e_adds, e_addt, e_addl, e_tbl, e_tnon, e_tint, e_tlst, e_ttup, e_gt, e_ge, e_lt, e_le, e_eqi, e_nei, e_eqs, e_nes, e_eql, e_nel, e_eqt, e_net, e_sublst, e_subtup, e_lenl, e_lent, e_lens, e_int1, e_tupl, e_tupt, e_lstl, e_lstt, e_repr, e_stri, e_strs, e_fvs, e_fvi, e_sll, e_slf, e_slt, e_rvt, e_rvl, e_stl, e_stt, e_sql, e_sqt, e_bnm, e_btp, e_bnil, e_bcons, e_san, e_sac, feedO_eq, g_cells, g_at, g_held, g_count, p_at, p_held, p_count, c_count, c_at, c_held, c_cells, put_same, put_put, List.set_cons_zero, List.set_cons_succ, List.getElem?_cons_zero, List.getElem?_cons_succ, List.map_cons, List.map_nil, List.cons_append, List.nil_append, List.length_cons, List.length_nil, and_true, true_and, decide_true, decide_false, l_feed, startE, List.replicate, Nat.reduceSub, Nat.reduceAdd, List.length_map, Bool.not_true, Bool.not_false, if_true, if_false, Bool.false_eq_true, reduceIte, i_int_non, i_int_bl, i_int_int, i_int_str, i_int_tup, i_int_lst, i_bool_non, i_bool_bl, i_bool_int, i_bool_str, i_bool_tup, i_bool_lst, i_str_non, i_str_bl, i_str_int, i_str_str, i_str_tup, i_str_lst, i_tuple_non, i_tuple_bl, i_tuple_int, i_tuple_str, i_tuple_tup, i_tuple_lst, i_list_non, i_list_bl, i_list_int, i_list_str, i_list_tup, i_list_lst, t0, t1, t2, t3, Int.cast_ofNat_Int, Int.natCast_one, Int.natCast_zero, Int.reduceEq, Int.reduceLT, Int.reduceLE, e_ltS, e_leS, e_inS, e_ninS, e_isN, e_isNN, e_sqS, rs_sh, e3, sendD])
      exact ⟨sz_small (by decide), sz_small (by decide), znx _ _ ⟨_, _, _, _, _, _, _, rfl, frz_le hle hb⟩⟩
  · rintro r S2 ⟨x1, x2, x3, x4, x5, x6, x7, rfl, hle⟩
    show WSs _ _ _ _ _ _; rw [WSs]
    (try simp (disch := first | assumption | omega | decide | (constructor <;> first | assumption | omega | decide | fail) | fail) only [WS, e_wnil, WE, WEs, WAnd, WOr, WTs, WFs, WO, WI, e_rs_int, e_rs_str, e_rs_bl, e_rs_non, e_rs_tup, e_rs_lst, e_rs_lsf, e_rs_loc, e_str, e_cint, e_cbl, e_cnon, e_add, e_sub, e_mul, e_mod, e_div, e_pow, e_adds, e_addt, e_addl, e_tbl, e_tnon, e_tint, e_tlst, e_ttup, e_gt, e_ge, e_lt, e_le, e_eqi, e_nei, e_eqs, e_nes, e_eql, e_nel, e_eqt, e_net, e_sublst, e_subtup, e_lenl, e_lent, e_lens, e_int1, e_tupl, e_tupt, e_lstl, e_lstt, e_repr, e_stri, e_strs, e_fvs, e_fvi, e_sll, e_slf, e_slt, e_rvt, e_rvl, e_stl, e_stt, e_sql, e_sqt, e_bnm, e_btp, e_bnil, e_bcons, e_san, e_sac, feedO_eq, g_cells, g_at, g_held, g_count, p_at, p_held, p_count, c_count, c_at, c_held, c_cells, put_same, put_put, List.set_cons_zero, List.set_cons_succ, List.getElem?_cons_zero, List.getElem?_cons_succ, List.map_cons, List.map_nil, List.cons_append, List.nil_append, List.length_cons, List.length_nil, and_true, true_and, decide_true, decide_false, l_feed, startE, List.replicate, Nat.reduceSub, Nat.reduceAdd, List.length_map, Bool.not_true, Bool.not_false, if_true, if_false, Bool.false_eq_true, reduceIte, i_int_non, i_int_bl, i_int_int, i_int_str, i_int_tup, i_int_lst, i_bool_non, i_bool_bl, i_bool_int, i_bool_str, i_bool_tup, i_bool_lst, i_str_non, i_str_bl, i_str_int, i_str_str, i_str_tup, i_str_lst, i_tuple_non, i_tuple_bl, i_tuple_int, i_tuple_str, i_tuple_tup, i_tuple_lst, i_list_non, i_list_bl, i_list_int, i_list_str, i_list_tup, i_list_lst, t0, t1, t2, t3, Int.cast_ofNat_Int, Int.natCast_one, Int.natCast_zero, Int.reduceEq, Int.reduceLT, Int.reduceLE, e_ltS, e_leS, e_inS, e_ninS, e_isN, e_isNN, e_sqS, rs_sh])
    exact ⟨S, hle, hq⟩
def loneE : Ent := ⟨"b", 3, false, ["b"]⟩
theorem lone_wb : Wb [loneE] := ⟨fun e he => by rw [List.mem_singleton.mp he]; exact ⟨by decide +kernel, by decide +kernel, by decide, fun x hx => by rw [List.mem_singleton.mp hx]; decide +kernel⟩, by decide +kernel, by decide⟩
theorem lone_rep : reprOk (.lst [.tup [.str "b"], .int 3, .bl false, .tup [.str "b"], .tup [.str "b"]]) = true := rpk (W := 1000) (k := 10) (pl_of (by decide +kernel)) (by decide) (by decide)
theorem lone_w : (.tup [.tup [.tup [.str "b", .int 3, .bl false, .tup [.str "b"]]], .str "b"] : D) = webD [loneE] "b" := rfl
theorem lone_s : sendD [loneE] loneE = .tup [.str "b"] := by
  unfold sendD
  have h : (["b"] : List Str).contains ("b" : Str) = true := by decide +kernel
  have : ([loneE].filter fun x => x.row.contains loneE.name) = [loneE] := by
    rw [List.filter_cons_of_pos]
    · rfl
    · exact h
  rw [this]
  rfl
theorem odds_sh : ∀ d ∈ oddsD, Pl 1000 5 d := fun d hd => by
  have h : oddsD.all (plB 1000 5) = true := by decide +kernel
  exact pl_of (List.all_eq_true.mp h d hd)
theorem odds_kn {es : List Ent} {asks : Str} (h : Pg es asks) : ∀ d ∈ oddsD, knD es d = false := fun d hd => by
  have k : oddsD.all (fun d => match d with | .str s => oddS.contains s | _ => true) = true := by decide +kernel
  have := List.all_eq_true.mp k d hd
  cases d with
  | str s => exact h.odd s (List.contains_iff_mem.mp this)
  | _ => rfl
theorem body_law : BodyOk G core_law st_law.N.length 1 spLaw := by
  intro ds S Q R0 hl hsp
  obtain ⟨is, rfl, h63, hbits, hq⟩ := hsp
  show WSs _ _ _ (startE 9 _) _ _
  unfold core_law
  show WSs _ _ _ _ _ _; rw [WSs]
  (try simp (disch := first | assumption | omega | decide | (constructor <;> first | assumption | omega | decide | fail) | fail) only [WS, e_wnil, WE, WEs, WAnd, WOr, WTs, WFs, WO, WI, e_rs_int, e_rs_str, e_rs_bl, e_rs_non, e_rs_tup, e_rs_lst, e_rs_lsf, e_rs_loc, e_str, e_cint, e_cbl, e_cnon, e_add, e_sub, e_mul, e_mod, e_div, e_pow, e_adds, e_addt, e_addl, e_tbl, e_tnon, e_tint, e_tlst, e_ttup, e_gt, e_ge, e_lt, e_le, e_eqi, e_nei, e_eqs, e_nes, e_eql, e_nel, e_eqt, e_net, e_sublst, e_subtup, e_lenl, e_lent, e_lens, e_int1, e_tupl, e_tupt, e_lstl, e_lstt, e_repr, e_stri, e_strs, e_fvs, e_fvi, e_sll, e_slf, e_slt, e_rvt, e_rvl, e_stl, e_stt, e_sql, e_sqt, e_bnm, e_btp, e_bnil, e_bcons, e_san, e_sac, feedO_eq, g_cells, g_at, g_held, g_count, p_at, p_held, p_count, c_count, c_at, c_held, c_cells, put_same, put_put, List.set_cons_zero, List.set_cons_succ, List.getElem?_cons_zero, List.getElem?_cons_succ, List.map_cons, List.map_nil, List.cons_append, List.nil_append, List.length_cons, List.length_nil, and_true, true_and, decide_true, decide_false, l_feed, startE, List.replicate, Nat.reduceSub, Nat.reduceAdd, List.length_map, Bool.not_true, Bool.not_false, if_true, if_false, Bool.false_eq_true, reduceIte, i_int_non, i_int_bl, i_int_int, i_int_str, i_int_tup, i_int_lst, i_bool_non, i_bool_bl, i_bool_int, i_bool_str, i_bool_tup, i_bool_lst, i_str_non, i_str_bl, i_str_int, i_str_str, i_str_tup, i_str_lst, i_tuple_non, i_tuple_bl, i_tuple_int, i_tuple_str, i_tuple_tup, i_tuple_lst, i_list_non, i_list_bl, i_list_int, i_list_str, i_list_tup, i_list_lst, t0, t1, t2, t3, Int.cast_ofNat_Int, Int.natCast_one, Int.natCast_zero, Int.reduceEq, Int.reduceLT, Int.reduceLE, e_ltS, e_leS, e_inS, e_ninS, e_isN, e_isNN, e_sqS, rs_sh, f__law_start, r__law_start])
  refine ⟨is, rfl, h63, fun a S1 ha hf1 fr1 => ?_⟩
  show WSs _ _ _ _ _ _; rw [WSs]
  have hm := okI_small (m := 3) (by decide) (by decide)
  (try simp (disch := first | assumption | omega | decide | (constructor <;> first | assumption | omega | decide | fail) | fail) only [WS, e_wnil, WE, WEs, WAnd, WOr, WTs, WFs, WO, WI, e_rs_int, e_rs_str, e_rs_bl, e_rs_non, e_rs_tup, e_rs_lst, e_rs_lsf, e_rs_loc, e_str, e_cint, e_cbl, e_cnon, e_add, e_sub, e_mul, e_mod, e_div, e_pow, e_adds, e_addt, e_addl, e_tbl, e_tnon, e_tint, e_tlst, e_ttup, e_gt, e_ge, e_lt, e_le, e_eqi, e_nei, e_eqs, e_nes, e_eql, e_nel, e_eqt, e_net, e_sublst, e_subtup, e_lenl, e_lent, e_lens, e_int1, e_tupl, e_tupt, e_lstl, e_lstt, e_repr, e_stri, e_strs, e_fvs, e_fvi, e_sll, e_slf, e_slt, e_rvt, e_rvl, e_stl, e_stt, e_sql, e_sqt, e_bnm, e_btp, e_bnil, e_bcons, e_san, e_sac, feedO_eq, g_cells, g_at, g_held, g_count, p_at, p_held, p_count, c_count, c_at, c_held, c_cells, put_same, put_put, List.set_cons_zero, List.set_cons_succ, List.getElem?_cons_zero, List.getElem?_cons_succ, List.map_cons, List.map_nil, List.cons_append, List.nil_append, List.length_cons, List.length_nil, and_true, true_and, decide_true, decide_false, l_feed, startE, List.replicate, Nat.reduceSub, Nat.reduceAdd, List.length_map, Bool.not_true, Bool.not_false, if_true, if_false, Bool.false_eq_true, reduceIte, i_int_non, i_int_bl, i_int_int, i_int_str, i_int_tup, i_int_lst, i_bool_non, i_bool_bl, i_bool_int, i_bool_str, i_bool_tup, i_bool_lst, i_str_non, i_str_bl, i_str_int, i_str_str, i_str_tup, i_str_lst, i_tuple_non, i_tuple_bl, i_tuple_int, i_tuple_str, i_tuple_tup, i_tuple_lst, i_list_non, i_list_bl, i_list_int, i_list_str, i_list_tup, i_list_lst, t0, t1, t2, t3, Int.cast_ofNat_Int, Int.natCast_one, Int.natCast_zero, Int.reduceEq, Int.reduceLT, Int.reduceLE, e_ltS, e_leS, e_inS, e_ninS, e_isN, e_isNN, e_sqS, rs_sh, hm.1, hm.2])
  refine for_rule _ (fun i r S' => ∃ (x2 x5 x6 x7 : Option D), r = [some (.lsf (is.map D.int)), some (.loc a), x2, none, none, x5, x6, x7, none] ∧ Fd S' a (100 * (3 - i))) _ _ ?_ ?_ ?_
  · exact ⟨_, _, _, _, rfl, hf1.less (by decide)⟩
  · rintro i d hd r S' ⟨x2, x5, x6, x7, rfl, hf2⟩ Z1 zr zb znx zct
    have hi : i < 3 := by
      have := (List.getElem?_eq_some_iff.mp hd).1
      rw [rngD_eq, List.length_map, List.length_range] at this
      exact this
    rw [e_bnm]
    (try simp (disch := first | assumption | omega | decide | (constructor <;> first | assumption | omega | decide | fail) | fail) only [WS, e_wnil, WE, WEs, WAnd, WOr, WTs, WFs, WO, WI, e_rs_int, e_rs_str, e_rs_bl, e_rs_non, e_rs_tup, e_rs_lst, e_rs_lsf, e_rs_loc, e_str, e_cint, e_cbl, e_cnon, e_add, e_sub, e_mul, e_mod, e_div, e_pow, e_adds, e_addt, e_addl, e_tbl, e_tnon, e_tint, e_tlst, e_ttup, e_gt, e_ge, e_lt, e_le, e_eqi, e_nei, e_eqs, e_nes, e_eql, e_nel, e_eqt, e_net, e_sublst, e_subtup, e_lenl, e_lent, e_lens, e_int1, e_tupl, e_tupt, e_lstl, e_lstt, e_repr, e_stri, e_strs, e_fvs, e_fvi, e_sll, e_slf, e_slt, e_rvt, e_rvl, e_stl, e_stt, e_sql, e_sqt, e_bnm, e_btp, e_bnil, e_bcons, e_san, e_sac, feedO_eq, g_cells, g_at, g_held, g_count, p_at, p_held, p_count, c_count, c_at, c_held, c_cells, put_same, put_put, List.set_cons_zero, List.set_cons_succ, List.getElem?_cons_zero, List.getElem?_cons_succ, List.map_cons, List.map_nil, List.cons_append, List.nil_append, List.length_cons, List.length_nil, and_true, true_and, decide_true, decide_false, l_feed, startE, List.replicate, Nat.reduceSub, Nat.reduceAdd, List.length_map, Bool.not_true, Bool.not_false, if_true, if_false, Bool.false_eq_true, reduceIte, i_int_non, i_int_bl, i_int_int, i_int_str, i_int_tup, i_int_lst, i_bool_non, i_bool_bl, i_bool_int, i_bool_str, i_bool_tup, i_bool_lst, i_str_non, i_str_bl, i_str_int, i_str_str, i_str_tup, i_str_lst, i_tuple_non, i_tuple_bl, i_tuple_int, i_tuple_str, i_tuple_tup, i_tuple_lst, i_list_non, i_list_bl, i_list_int, i_list_str, i_list_tup, i_list_lst, t0, t1, t2, t3, Int.cast_ofNat_Int, Int.natCast_one, Int.natCast_zero, Int.reduceEq, Int.reduceLT, Int.reduceLE, e_ltS, e_leS, e_inS, e_ninS, e_isN, e_isNN, e_sqS, rs_sh])
    show WSs _ _ _ _ _ _; rw [WSs]
    (try simp (disch := first | assumption | omega | decide | (constructor <;> first | assumption | omega | decide | fail) | fail) only [WS, e_wnil, WE, WEs, WAnd, WOr, WTs, WFs, WO, WI, e_rs_int, e_rs_str, e_rs_bl, e_rs_non, e_rs_tup, e_rs_lst, e_rs_lsf, e_rs_loc, e_str, e_cint, e_cbl, e_cnon, e_add, e_sub, e_mul, e_mod, e_div, e_pow, e_adds, e_addt, e_addl, e_tbl, e_tnon, e_tint, e_tlst, e_ttup, e_gt, e_ge, e_lt, e_le, e_eqi, e_nei, e_eqs, e_nes, e_eql, e_nel, e_eqt, e_net, e_sublst, e_subtup, e_lenl, e_lent, e_lens, e_int1, e_tupl, e_tupt, e_lstl, e_lstt, e_repr, e_stri, e_strs, e_fvs, e_fvi, e_sll, e_slf, e_slt, e_rvt, e_rvl, e_stl, e_stt, e_sql, e_sqt, e_bnm, e_btp, e_bnil, e_bcons, e_san, e_sac, feedO_eq, g_cells, g_at, g_held, g_count, p_at, p_held, p_count, c_count, c_at, c_held, c_cells, put_same, put_put, List.set_cons_zero, List.set_cons_succ, List.getElem?_cons_zero, List.getElem?_cons_succ, List.map_cons, List.map_nil, List.cons_append, List.nil_append, List.length_cons, List.length_nil, and_true, true_and, decide_true, decide_false, l_feed, startE, List.replicate, Nat.reduceSub, Nat.reduceAdd, List.length_map, Bool.not_true, Bool.not_false, if_true, if_false, Bool.false_eq_true, reduceIte, i_int_non, i_int_bl, i_int_int, i_int_str, i_int_tup, i_int_lst, i_bool_non, i_bool_bl, i_bool_int, i_bool_str, i_bool_tup, i_bool_lst, i_str_non, i_str_bl, i_str_int, i_str_str, i_str_tup, i_str_lst, i_tuple_non, i_tuple_bl, i_tuple_int, i_tuple_str, i_tuple_tup, i_tuple_lst, i_list_non, i_list_bl, i_list_int, i_list_str, i_list_tup, i_list_lst, t0, t1, t2, t3, Int.cast_ofNat_Int, Int.natCast_one, Int.natCast_zero, Int.reduceEq, Int.reduceLT, Int.reduceLE, e_ltS, e_leS, e_inS, e_ninS, e_isN, e_isNN, e_sqS, rs_sh, f__law_page, r__law_page])
    refine ⟨a, 5, 100 * (3 - (i + 1)), rfl, by decide, by decide, hf2.less (by omega), fun p f st k asks es S2 hp hf' hst hk0 hk5 hasks hnames hin hf3 fr3 => ?_⟩
    have pg := pg_of hp hf' hst hk0 (by omega) hasks hnames hin
    have hw := pg.wb
    clear hin hnames hasks
    have pw : Pl 30000 4 (webD es asks) := sh_web hw.len hw.ok pg.low
    have ew := e_repr (rpk pw (by decide) (by decide))
    have en := e_repr (rpk (names_pl hw) (by decide) (by decide))
    obtain ⟨e0, es', hes⟩ : ∃ e0 es', es = e0 :: es' := by
      cases es with
      | nil => exact absurd pg.ne (Nat.lt_irrefl _)
      | cons e0 es' => exact ⟨e0, es', rfl⟩
    have h00 : atI (es.map Ent.d) 0 = some e0.d := by rw [hes]; exact t0
    have he0 : e0 ∈ es := by rw [hes]; exact List.mem_cons_self
    show WSs _ _ _ _ _ _; rw [WSs]
    have wrs : ∀ S : Sto, rs S (webD es asks) = webD es asks := fun _ => rfl
    (try simp (disch := first | assumption | omega | decide | (constructor <;> first | assumption | omega | decide | fail) | fail) only [WS, e_wnil, WE, WEs, WAnd, WOr, WTs, WFs, WO, WI, e_rs_int, e_rs_str, e_rs_bl, e_rs_non, e_rs_tup, e_rs_lst, e_rs_lsf, e_rs_loc, e_str, e_cint, e_cbl, e_cnon, e_add, e_sub, e_mul, e_mod, e_div, e_pow, e_adds, e_addt, e_addl, e_tbl, e_tnon, e_tint, e_tlst, e_ttup, e_gt, e_ge, e_lt, e_le, e_eqi, e_nei, e_eqs, e_nes, e_eql, e_nel, e_eqt, e_net, e_sublst, e_subtup, e_lenl, e_lent, e_lens, e_int1, e_tupl, e_tupt, e_lstl, e_lstt, e_repr, e_stri, e_strs, e_fvs, e_fvi, e_sll, e_slf, e_slt, e_rvt, e_rvl, e_stl, e_stt, e_sql, e_sqt, e_bnm, e_btp, e_bnil, e_bcons, e_san, e_sac, feedO_eq, g_cells, g_at, g_held, g_count, p_at, p_held, p_count, c_count, c_at, c_held, c_cells, put_same, put_put, List.set_cons_zero, List.set_cons_succ, List.getElem?_cons_zero, List.getElem?_cons_succ, List.map_cons, List.map_nil, List.cons_append, List.nil_append, List.length_cons, List.length_nil, and_true, true_and, decide_true, decide_false, l_feed, startE, List.replicate, Nat.reduceSub, Nat.reduceAdd, List.length_map, Bool.not_true, Bool.not_false, if_true, if_false, Bool.false_eq_true, reduceIte, i_int_non, i_int_bl, i_int_int, i_int_str, i_int_tup, i_int_lst, i_bool_non, i_bool_bl, i_bool_int, i_bool_str, i_bool_tup, i_bool_lst, i_str_non, i_str_bl, i_str_int, i_str_str, i_str_tup, i_str_lst, i_tuple_non, i_tuple_bl, i_tuple_int, i_tuple_str, i_tuple_tup, i_tuple_lst, i_list_non, i_list_bl, i_list_int, i_list_str, i_list_tup, i_list_lst, t0, t1, t2, t3, Int.cast_ofNat_Int, Int.natCast_one, Int.natCast_zero, Int.reduceEq, Int.reduceLT, Int.reduceLE, e_ltS, e_leS, e_inS, e_ninS, e_isN, e_isNN, e_sqS, rs_sh, wrs, ew])
    show WSs _ _ _ _ _ _; rw [WSs]
    have cq : cstD (.str "q") = some (.str "q") := e_str (by decide +kernel)
    have hal := low_len pg.low
    have q1 : binD .Add (.str asks) (.str "q") = some (.str (asks ++ "q")) := e_adds (sz_small (by have e2 : (("q" : String) : Str).length = 1 := rfl; omega))
    (try simp (disch := first | assumption | omega | decide | (constructor <;> first | assumption | omega | decide | fail) | fail) only [WS, e_wnil, WE, WEs, WAnd, WOr, WTs, WFs, WO, WI, e_rs_int, e_rs_str, e_rs_bl, e_rs_non, e_rs_tup, e_rs_lst, e_rs_lsf, e_rs_loc, e_str, e_cint, e_cbl, e_cnon, e_add, e_sub, e_mul, e_mod, e_div, e_pow, e_adds, e_addt, e_addl, e_tbl, e_tnon, e_tint, e_tlst, e_ttup, e_gt, e_ge, e_lt, e_le, e_eqi, e_nei, e_eqs, e_nes, e_eql, e_nel, e_eqt, e_net, e_sublst, e_subtup, e_lenl, e_lent, e_lens, e_int1, e_tupl, e_tupt, e_lstl, e_lstt, e_repr, e_stri, e_strs, e_fvs, e_fvi, e_sll, e_slf, e_slt, e_rvt, e_rvl, e_stl, e_stt, e_sql, e_sqt, e_bnm, e_btp, e_bnil, e_bcons, e_san, e_sac, feedO_eq, g_cells, g_at, g_held, g_count, p_at, p_held, p_count, c_count, c_at, c_held, c_cells, put_same, put_put, List.set_cons_zero, List.set_cons_succ, List.getElem?_cons_zero, List.getElem?_cons_succ, List.map_cons, List.map_nil, List.cons_append, List.nil_append, List.length_cons, List.length_nil, and_true, true_and, decide_true, decide_false, l_feed, startE, List.replicate, Nat.reduceSub, Nat.reduceAdd, List.length_map, Bool.not_true, Bool.not_false, if_true, if_false, Bool.false_eq_true, reduceIte, i_int_non, i_int_bl, i_int_int, i_int_str, i_int_tup, i_int_lst, i_bool_non, i_bool_bl, i_bool_int, i_bool_str, i_bool_tup, i_bool_lst, i_str_non, i_str_bl, i_str_int, i_str_str, i_str_tup, i_str_lst, i_tuple_non, i_tuple_bl, i_tuple_int, i_tuple_str, i_tuple_tup, i_tuple_lst, i_list_non, i_list_bl, i_list_int, i_list_str, i_list_tup, i_list_lst, t0, t1, t2, t3, Int.cast_ofNat_Int, Int.natCast_one, Int.natCast_zero, Int.reduceEq, Int.reduceLT, Int.reduceLE, e_ltS, e_leS, e_inS, e_ninS, e_isN, e_isNN, e_sqS, rs_sh, f__law_odds, r__law_odds])
    refine ⟨rfl, ?_⟩
    have r3 : subD (rs S2 e0.d) (.int 3) = some (.tup (e0.row.map D.str)) := rfl
    have wsub0 : subD (webD es asks) (.int 0) = some (.tup (es.map Ent.d)) := rfl
    have wsub1 : subD (webD es asks) (.int 1) = some (.str asks) := rfl
    (try simp (disch := first | assumption | omega | decide | (constructor <;> first | assumption | omega | decide | fail) | fail) only [WS, e_wnil, WE, WEs, WAnd, WOr, WTs, WFs, WO, WI, e_rs_int, e_rs_str, e_rs_bl, e_rs_non, e_rs_tup, e_rs_lst, e_rs_lsf, e_rs_loc, e_str, e_cint, e_cbl, e_cnon, e_add, e_sub, e_mul, e_mod, e_div, e_pow, e_adds, e_addt, e_addl, e_tbl, e_tnon, e_tint, e_tlst, e_ttup, e_gt, e_ge, e_lt, e_le, e_eqi, e_nei, e_eqs, e_nes, e_eql, e_nel, e_eqt, e_net, e_sublst, e_subtup, e_lenl, e_lent, e_lens, e_int1, e_tupl, e_tupt, e_lstl, e_lstt, e_repr, e_stri, e_strs, e_fvs, e_fvi, e_sll, e_slf, e_slt, e_rvt, e_rvl, e_stl, e_stt, e_sql, e_sqt, e_bnm, e_btp, e_bnil, e_bcons, e_san, e_sac, feedO_eq, g_cells, g_at, g_held, g_count, p_at, p_held, p_count, c_count, c_at, c_held, c_cells, put_same, put_put, List.set_cons_zero, List.set_cons_succ, List.getElem?_cons_zero, List.getElem?_cons_succ, List.map_cons, List.map_nil, List.cons_append, List.nil_append, List.length_cons, List.length_nil, and_true, true_and, decide_true, decide_false, l_feed, startE, List.replicate, Nat.reduceSub, Nat.reduceAdd, List.length_map, Bool.not_true, Bool.not_false, if_true, if_false, Bool.false_eq_true, reduceIte, i_int_non, i_int_bl, i_int_int, i_int_str, i_int_tup, i_int_lst, i_bool_non, i_bool_bl, i_bool_int, i_bool_str, i_bool_tup, i_bool_lst, i_str_non, i_str_bl, i_str_int, i_str_str, i_str_tup, i_str_lst, i_tuple_non, i_tuple_bl, i_tuple_int, i_tuple_str, i_tuple_tup, i_tuple_lst, i_list_non, i_list_bl, i_list_int, i_list_str, i_list_tup, i_list_lst, t0, t1, t2, t3, Int.cast_ofNat_Int, Int.natCast_one, Int.natCast_zero, Int.reduceEq, Int.reduceLT, Int.reduceLE, e_ltS, e_leS, e_inS, e_ninS, e_isN, e_isNN, e_sqS, rs_sh, wrs, wsub0, wsub1, h00, r3, cq, q1])
    refine ⟨sz_small (by decide), sz_small (by decide), sz_small (by decide), ?_⟩
    have qa : binD .Add (.lst oddsD) (.lst [e0.d, .tup (e0.row.map D.str), .str (asks ++ "q"), .tup [.str asks], .lst [.str asks]]) = some (.lst (oddsD ++ [e0.d, .tup (e0.row.map D.str), .str (asks ++ "q"), .tup [.str asks], .lst [.str asks]])) := e_addl (sz_small (show 13 + 5 ≤ 1000000 by decide))
    rw [qa]
    have hall : ∀ d ∈ oddsD ++ [e0.d, .tup (e0.row.map D.str), .str (asks ++ "q"), .tup [.str asks], .lst [.str asks]], shD d ∧ knD es d = false := by
      intro d hd
      rcases List.mem_append.mp hd with h | h
      · exact ⟨(odds_sh d h).1, odds_kn pg d h⟩
      · simp only [List.mem_cons, List.not_mem_nil, or_false] at h
        have la := low_ok pg.low
        rcases h with rfl | rfl | rfl | rfl | rfl
        · exact ⟨(sh_ent (hw.ok _ he0)).1, rfl⟩
        · exact ⟨(pl_row (hw.ok _ he0)).1, rfl⟩
        · exact ⟨okC_app la (okC_of _), pg.oddq⟩
        · exact ⟨⟨la, trivial⟩, rfl⟩
        · exact ⟨⟨la, trivial⟩, rfl⟩
    generalize oddsD ++ [e0.d, .tup (e0.row.map D.str), .str (asks ++ "q"), .tup [.str asks], .lst [.str asks]] = items at hall
    have een := e_neN ok_nil
    show WSs _ _ _ _ _ _
    rw [WSs]
    (try simp (disch := first | assumption | omega | decide | (constructor <;> first | assumption | omega | decide | fail) | fail) only [WS, e_wnil, WE, WEs, WAnd, WOr, WTs, WFs, WO, WI, e_rs_int, e_rs_str, e_rs_bl, e_rs_non, e_rs_tup, e_rs_lst, e_rs_lsf, e_rs_loc, e_str, e_cint, e_cbl, e_cnon, e_add, e_sub, e_mul, e_mod, e_div, e_pow, e_adds, e_addt, e_addl, e_tbl, e_tnon, e_tint, e_tlst, e_ttup, e_gt, e_ge, e_lt, e_le, e_eqi, e_nei, e_eqs, e_nes, e_eql, e_nel, e_eqt, e_net, e_sublst, e_subtup, e_lenl, e_lent, e_lens, e_int1, e_tupl, e_tupt, e_lstl, e_lstt, e_repr, e_stri, e_strs, e_fvs, e_fvi, e_sll, e_slf, e_slt, e_rvt, e_rvl, e_stl, e_stt, e_sql, e_sqt, e_bnm, e_btp, e_bnil, e_bcons, e_san, e_sac, feedO_eq, g_cells, g_at, g_held, g_count, p_at, p_held, p_count, c_count, c_at, c_held, c_cells, put_same, put_put, List.set_cons_zero, List.set_cons_succ, List.getElem?_cons_zero, List.getElem?_cons_succ, List.map_cons, List.map_nil, List.cons_append, List.nil_append, List.length_cons, List.length_nil, and_true, true_and, decide_true, decide_false, l_feed, startE, List.replicate, Nat.reduceSub, Nat.reduceAdd, List.length_map, Bool.not_true, Bool.not_false, if_true, if_false, Bool.false_eq_true, reduceIte, i_int_non, i_int_bl, i_int_int, i_int_str, i_int_tup, i_int_lst, i_bool_non, i_bool_bl, i_bool_int, i_bool_str, i_bool_tup, i_bool_lst, i_str_non, i_str_bl, i_str_int, i_str_str, i_str_tup, i_str_lst, i_tuple_non, i_tuple_bl, i_tuple_int, i_tuple_str, i_tuple_tup, i_tuple_lst, i_list_non, i_list_bl, i_list_int, i_list_str, i_list_tup, i_list_lst, t0, t1, t2, t3, Int.cast_ofNat_Int, Int.natCast_one, Int.natCast_zero, Int.reduceEq, Int.reduceLT, Int.reduceLE, e_ltS, e_leS, e_inS, e_ninS, e_isN, e_isNN, e_sqS, rs_sh, f__law_are_told, r__law_are_told])
    refine ⟨es, asks, rfl, hw, ?_⟩
    (try simp (disch := first | assumption | omega | decide | (constructor <;> first | assumption | omega | decide | fail) | fail) only [WS, e_wnil, WE, WEs, WAnd, WOr, WTs, WFs, WO, WI, e_rs_int, e_rs_str, e_rs_bl, e_rs_non, e_rs_tup, e_rs_lst, e_rs_lsf, e_rs_loc, e_str, e_cint, e_cbl, e_cnon, e_add, e_sub, e_mul, e_mod, e_div, e_pow, e_adds, e_addt, e_addl, e_tbl, e_tnon, e_tint, e_tlst, e_ttup, e_gt, e_ge, e_lt, e_le, e_eqi, e_nei, e_eqs, e_nes, e_eql, e_nel, e_eqt, e_net, e_sublst, e_subtup, e_lenl, e_lent, e_lens, e_int1, e_tupl, e_tupt, e_lstl, e_lstt, e_repr, e_stri, e_strs, e_fvs, e_fvi, e_sll, e_slf, e_slt, e_rvt, e_rvl, e_stl, e_stt, e_sql, e_sqt, e_bnm, e_btp, e_bnil, e_bcons, e_san, e_sac, feedO_eq, g_cells, g_at, g_held, g_count, p_at, p_held, p_count, c_count, c_at, c_held, c_cells, put_same, put_put, List.set_cons_zero, List.set_cons_succ, List.getElem?_cons_zero, List.getElem?_cons_succ, List.map_cons, List.map_nil, List.cons_append, List.nil_append, List.length_cons, List.length_nil, and_true, true_and, decide_true, decide_false, l_feed, startE, List.replicate, Nat.reduceSub, Nat.reduceAdd, List.length_map, Bool.not_true, Bool.not_false, if_true, if_false, Bool.false_eq_true, reduceIte, i_int_non, i_int_bl, i_int_int, i_int_str, i_int_tup, i_int_lst, i_bool_non, i_bool_bl, i_bool_int, i_bool_str, i_bool_tup, i_bool_lst, i_str_non, i_str_bl, i_str_int, i_str_str, i_str_tup, i_str_lst, i_tuple_non, i_tuple_bl, i_tuple_int, i_tuple_str, i_tuple_tup, i_tuple_lst, i_list_non, i_list_bl, i_list_int, i_list_str, i_list_tup, i_list_lst, t0, t1, t2, t3, Int.cast_ofNat_Int, Int.natCast_one, Int.natCast_zero, Int.reduceEq, Int.reduceLT, Int.reduceLE, e_ltS, e_leS, e_inS, e_ninS, e_isN, e_isNN, e_sqS, rs_sh, wipeE])
    refine skip_rule items [] ?_ ?_
    · intro d hd acc k hk
      (try simp (disch := first | assumption | omega | decide | (constructor <;> first | assumption | omega | decide | fail) | fail) only [WS, e_wnil, WE, WEs, WAnd, WOr, WTs, WFs, WO, WI, e_rs_int, e_rs_str, e_rs_bl, e_rs_non, e_rs_tup, e_rs_lst, e_rs_lsf, e_rs_loc, e_str, e_cint, e_cbl, e_cnon, e_add, e_sub, e_mul, e_mod, e_div, e_pow, e_adds, e_addt, e_addl, e_tbl, e_tnon, e_tint, e_tlst, e_ttup, e_gt, e_ge, e_lt, e_le, e_eqi, e_nei, e_eqs, e_nes, e_eql, e_nel, e_eqt, e_net, e_sublst, e_subtup, e_lenl, e_lent, e_lens, e_int1, e_tupl, e_tupt, e_lstl, e_lstt, e_repr, e_stri, e_strs, e_fvs, e_fvi, e_sll, e_slf, e_slt, e_rvt, e_rvl, e_stl, e_stt, e_sql, e_sqt, e_bnm, e_btp, e_bnil, e_bcons, e_san, e_sac, feedO_eq, g_cells, g_at, g_held, g_count, p_at, p_held, p_count, c_count, c_at, c_held, c_cells, put_same, put_put, List.set_cons_zero, List.set_cons_succ, List.getElem?_cons_zero, List.getElem?_cons_succ, List.map_cons, List.map_nil, List.cons_append, List.nil_append, List.length_cons, List.length_nil, and_true, true_and, decide_true, decide_false, l_feed, startE, List.replicate, Nat.reduceSub, Nat.reduceAdd, List.length_map, Bool.not_true, Bool.not_false, if_true, if_false, Bool.false_eq_true, reduceIte, i_int_non, i_int_bl, i_int_int, i_int_str, i_int_tup, i_int_lst, i_bool_non, i_bool_bl, i_bool_int, i_bool_str, i_bool_tup, i_bool_lst, i_str_non, i_str_bl, i_str_int, i_str_str, i_str_tup, i_str_lst, i_tuple_non, i_tuple_bl, i_tuple_int, i_tuple_str, i_tuple_tup, i_tuple_lst, i_list_non, i_list_bl, i_list_int, i_list_str, i_list_tup, i_list_lst, t0, t1, t2, t3, Int.cast_ofNat_Int, Int.natCast_one, Int.natCast_zero, Int.reduceEq, Int.reduceLT, Int.reduceLE, e_ltS, e_leS, e_inS, e_ninS, e_isN, e_isNN, e_sqS, rs_sh, f__law_are_refused, r__law_are_refused])
      refine ⟨es, asks, d, rfl, hw, (hall d hd).1, (hall d hd).2, ?_⟩
      (try simp (disch := first | assumption | omega | decide | (constructor <;> first | assumption | omega | decide | fail) | fail) only [WS, e_wnil, WE, WEs, WAnd, WOr, WTs, WFs, WO, WI, e_rs_int, e_rs_str, e_rs_bl, e_rs_non, e_rs_tup, e_rs_lst, e_rs_lsf, e_rs_loc, e_str, e_cint, e_cbl, e_cnon, e_add, e_sub, e_mul, e_mod, e_div, e_pow, e_adds, e_addt, e_addl, e_tbl, e_tnon, e_tint, e_tlst, e_ttup, e_gt, e_ge, e_lt, e_le, e_eqi, e_nei, e_eqs, e_nes, e_eql, e_nel, e_eqt, e_net, e_sublst, e_subtup, e_lenl, e_lent, e_lens, e_int1, e_tupl, e_tupt, e_lstl, e_lstt, e_repr, e_stri, e_strs, e_fvs, e_fvi, e_sll, e_slf, e_slt, e_rvt, e_rvl, e_stl, e_stt, e_sql, e_sqt, e_bnm, e_btp, e_bnil, e_bcons, e_san, e_sac, feedO_eq, g_cells, g_at, g_held, g_count, p_at, p_held, p_count, c_count, c_at, c_held, c_cells, put_same, put_put, List.set_cons_zero, List.set_cons_succ, List.getElem?_cons_zero, List.getElem?_cons_succ, List.map_cons, List.map_nil, List.cons_append, List.nil_append, List.length_cons, List.length_nil, and_true, true_and, decide_true, decide_false, l_feed, startE, List.replicate, Nat.reduceSub, Nat.reduceAdd, List.length_map, Bool.not_true, Bool.not_false, if_true, if_false, Bool.false_eq_true, reduceIte, i_int_non, i_int_bl, i_int_int, i_int_str, i_int_tup, i_int_lst, i_bool_non, i_bool_bl, i_bool_int, i_bool_str, i_bool_tup, i_bool_lst, i_str_non, i_str_bl, i_str_int, i_str_str, i_str_tup, i_str_lst, i_tuple_non, i_tuple_bl, i_tuple_int, i_tuple_str, i_tuple_tup, i_tuple_lst, i_list_non, i_list_bl, i_list_int, i_list_str, i_list_tup, i_list_lst, t0, t1, t2, t3, Int.cast_ofNat_Int, Int.natCast_one, Int.natCast_zero, Int.reduceEq, Int.reduceLT, Int.reduceLE, e_ltS, e_leS, e_inS, e_ninS, e_isN, e_isNN, e_sqS, rs_sh])
      exact hk
    (try simp (disch := first | assumption | omega | decide | (constructor <;> first | assumption | omega | decide | fail) | fail) only [WS, e_wnil, WE, WEs, WAnd, WOr, WTs, WFs, WO, WI, e_rs_int, e_rs_str, e_rs_bl, e_rs_non, e_rs_tup, e_rs_lst, e_rs_lsf, e_rs_loc, e_str, e_cint, e_cbl, e_cnon, e_add, e_sub, e_mul, e_mod, e_div, e_pow, e_adds, e_addt, e_addl, e_tbl, e_tnon, e_tint, e_tlst, e_ttup, e_gt, e_ge, e_lt, e_le, e_eqi, e_nei, e_eqs, e_nes, e_eql, e_nel, e_eqt, e_net, e_sublst, e_subtup, e_lenl, e_lent, e_lens, e_int1, e_tupl, e_tupt, e_lstl, e_lstt, e_repr, e_stri, e_strs, e_fvs, e_fvi, e_sll, e_slf, e_slt, e_rvt, e_rvl, e_stl, e_stt, e_sql, e_sqt, e_bnm, e_btp, e_bnil, e_bcons, e_san, e_sac, feedO_eq, g_cells, g_at, g_held, g_count, p_at, p_held, p_count, c_count, c_at, c_held, c_cells, put_same, put_put, List.set_cons_zero, List.set_cons_succ, List.getElem?_cons_zero, List.getElem?_cons_succ, List.map_cons, List.map_nil, List.cons_append, List.nil_append, List.length_cons, List.length_nil, and_true, true_and, decide_true, decide_false, l_feed, startE, List.replicate, Nat.reduceSub, Nat.reduceAdd, List.length_map, Bool.not_true, Bool.not_false, if_true, if_false, Bool.false_eq_true, reduceIte, i_int_non, i_int_bl, i_int_int, i_int_str, i_int_tup, i_int_lst, i_bool_non, i_bool_bl, i_bool_int, i_bool_str, i_bool_tup, i_bool_lst, i_str_non, i_str_bl, i_str_int, i_str_str, i_str_tup, i_str_lst, i_tuple_non, i_tuple_bl, i_tuple_int, i_tuple_str, i_tuple_tup, i_tuple_lst, i_list_non, i_list_bl, i_list_int, i_list_str, i_list_tup, i_list_lst, t0, t1, t2, t3, Int.cast_ofNat_Int, Int.natCast_one, Int.natCast_zero, Int.reduceEq, Int.reduceLT, Int.reduceLE, e_ltS, e_leS, e_inS, e_ninS, e_isN, e_isNN, e_sqS, rs_sh, een, List.isEmpty_nil])
    refine ⟨sz_small (by decide), ?_⟩
    show WSs _ _ _ _ _ _; rw [WSs]
    (try simp (disch := first | assumption | omega | decide | (constructor <;> first | assumption | omega | decide | fail) | fail) only [WS, e_wnil, WE, WEs, WAnd, WOr, WTs, WFs, WO, WI, e_rs_int, e_rs_str, e_rs_bl, e_rs_non, e_rs_tup, e_rs_lst, e_rs_lsf, e_rs_loc, e_str, e_cint, e_cbl, e_cnon, e_add, e_sub, e_mul, e_mod, e_div, e_pow, e_adds, e_addt, e_addl, e_tbl, e_tnon, e_tint, e_tlst, e_ttup, e_gt, e_ge, e_lt, e_le, e_eqi, e_nei, e_eqs, e_nes, e_eql, e_nel, e_eqt, e_net, e_sublst, e_subtup, e_lenl, e_lent, e_lens, e_int1, e_tupl, e_tupt, e_lstl, e_lstt, e_repr, e_stri, e_strs, e_fvs, e_fvi, e_sll, e_slf, e_slt, e_rvt, e_rvl, e_stl, e_stt, e_sql, e_sqt, e_bnm, e_btp, e_bnil, e_bcons, e_san, e_sac, feedO_eq, g_cells, g_at, g_held, g_count, p_at, p_held, p_count, c_count, c_at, c_held, c_cells, put_same, put_put, List.set_cons_zero, List.set_cons_succ, List.getElem?_cons_zero, List.getElem?_cons_succ, List.map_cons, List.map_nil, List.cons_append, List.nil_append, List.length_cons, List.length_nil, and_true, true_and, decide_true, decide_false, l_feed, startE, List.replicate, Nat.reduceSub, Nat.reduceAdd, List.length_map, Bool.not_true, Bool.not_false, if_true, if_false, Bool.false_eq_true, reduceIte, i_int_non, i_int_bl, i_int_int, i_int_str, i_int_tup, i_int_lst, i_bool_non, i_bool_bl, i_bool_int, i_bool_str, i_bool_tup, i_bool_lst, i_str_non, i_str_bl, i_str_int, i_str_str, i_str_tup, i_str_lst, i_tuple_non, i_tuple_bl, i_tuple_int, i_tuple_str, i_tuple_tup, i_tuple_lst, i_list_non, i_list_bl, i_list_int, i_list_str, i_list_tup, i_list_lst, t0, t1, t2, t3, Int.cast_ofNat_Int, Int.natCast_one, Int.natCast_zero, Int.reduceEq, Int.reduceLT, Int.reduceLE, e_ltS, e_leS, e_inS, e_ninS, e_isN, e_isNN, e_sqS, rs_sh, f_names_of, r_names_of, o_names_of])
    refine ⟨es, asks, rfl, hw, ?_⟩
    (try simp (disch := first | assumption | omega | decide | (constructor <;> first | assumption | omega | decide | fail) | fail) only [WS, e_wnil, WE, WEs, WAnd, WOr, WTs, WFs, WO, WI, e_rs_int, e_rs_str, e_rs_bl, e_rs_non, e_rs_tup, e_rs_lst, e_rs_lsf, e_rs_loc, e_str, e_cint, e_cbl, e_cnon, e_add, e_sub, e_mul, e_mod, e_div, e_pow, e_adds, e_addt, e_addl, e_tbl, e_tnon, e_tint, e_tlst, e_ttup, e_gt, e_ge, e_lt, e_le, e_eqi, e_nei, e_eqs, e_nes, e_eql, e_nel, e_eqt, e_net, e_sublst, e_subtup, e_lenl, e_lent, e_lens, e_int1, e_tupl, e_tupt, e_lstl, e_lstt, e_repr, e_stri, e_strs, e_fvs, e_fvi, e_sll, e_slf, e_slt, e_rvt, e_rvl, e_stl, e_stt, e_sql, e_sqt, e_bnm, e_btp, e_bnil, e_bcons, e_san, e_sac, feedO_eq, g_cells, g_at, g_held, g_count, p_at, p_held, p_count, c_count, c_at, c_held, c_cells, put_same, put_put, List.set_cons_zero, List.set_cons_succ, List.getElem?_cons_zero, List.getElem?_cons_succ, List.map_cons, List.map_nil, List.cons_append, List.nil_append, List.length_cons, List.length_nil, and_true, true_and, decide_true, decide_false, l_feed, startE, List.replicate, Nat.reduceSub, Nat.reduceAdd, List.length_map, Bool.not_true, Bool.not_false, if_true, if_false, Bool.false_eq_true, reduceIte, i_int_non, i_int_bl, i_int_int, i_int_str, i_int_tup, i_int_lst, i_bool_non, i_bool_bl, i_bool_int, i_bool_str, i_bool_tup, i_bool_lst, i_str_non, i_str_bl, i_str_int, i_str_str, i_str_tup, i_str_lst, i_tuple_non, i_tuple_bl, i_tuple_int, i_tuple_str, i_tuple_tup, i_tuple_lst, i_list_non, i_list_bl, i_list_int, i_list_str, i_list_tup, i_list_lst, t0, t1, t2, t3, Int.cast_ofNat_Int, Int.natCast_one, Int.natCast_zero, Int.reduceEq, Int.reduceLT, Int.reduceLE, e_ltS, e_leS, e_inS, e_ninS, e_isN, e_isNN, e_sqS, rs_sh, f_names_of, r_names_of, en])
    refine ⟨es, asks, rfl, hw, ?_⟩
    (try simp (disch := first | assumption | omega | decide | (constructor <;> first | assumption | omega | decide | fail) | fail) only [WS, e_wnil, WE, WEs, WAnd, WOr, WTs, WFs, WO, WI, e_rs_int, e_rs_str, e_rs_bl, e_rs_non, e_rs_tup, e_rs_lst, e_rs_lsf, e_rs_loc, e_str, e_cint, e_cbl, e_cnon, e_add, e_sub, e_mul, e_mod, e_div, e_pow, e_adds, e_addt, e_addl, e_tbl, e_tnon, e_tint, e_tlst, e_ttup, e_gt, e_ge, e_lt, e_le, e_eqi, e_nei, e_eqs, e_nes, e_eql, e_nel, e_eqt, e_net, e_sublst, e_subtup, e_lenl, e_lent, e_lens, e_int1, e_tupl, e_tupt, e_lstl, e_lstt, e_repr, e_stri, e_strs, e_fvs, e_fvi, e_sll, e_slf, e_slt, e_rvt, e_rvl, e_stl, e_stt, e_sql, e_sqt, e_bnm, e_btp, e_bnil, e_bcons, e_san, e_sac, feedO_eq, g_cells, g_at, g_held, g_count, p_at, p_held, p_count, c_count, c_at, c_held, c_cells, put_same, put_put, List.set_cons_zero, List.set_cons_succ, List.getElem?_cons_zero, List.getElem?_cons_succ, List.map_cons, List.map_nil, List.cons_append, List.nil_append, List.length_cons, List.length_nil, and_true, true_and, decide_true, decide_false, l_feed, startE, List.replicate, Nat.reduceSub, Nat.reduceAdd, List.length_map, Bool.not_true, Bool.not_false, if_true, if_false, Bool.false_eq_true, reduceIte, i_int_non, i_int_bl, i_int_int, i_int_str, i_int_tup, i_int_lst, i_bool_non, i_bool_bl, i_bool_int, i_bool_str, i_bool_tup, i_bool_lst, i_str_non, i_str_bl, i_str_int, i_str_str, i_str_tup, i_str_lst, i_tuple_non, i_tuple_bl, i_tuple_int, i_tuple_str, i_tuple_tup, i_tuple_lst, i_list_non, i_list_bl, i_list_int, i_list_str, i_list_tup, i_list_lst, t0, t1, t2, t3, Int.cast_ofNat_Int, Int.natCast_one, Int.natCast_zero, Int.reduceEq, Int.reduceLT, Int.reduceLE, e_ltS, e_leS, e_inS, e_ninS, e_isN, e_isNN, e_sqS, rs_sh, en, wrs, ew, WSs])
    exact znx _ _ ⟨_, _, _, _, rfl, hf3⟩
  · rintro r S4 ⟨x2, x5, x6, x7, rfl, hf2⟩
    have cb : cstD (.str "b") = some (.str "b") := e_str (by decide +kernel)
    have e4 := e_repr lone_rep
    have hm1 : loneE ∈ [loneE] := List.mem_singleton.mpr rfl
    have kf : knD [loneE] (.str "b") = false → False := fun h => by rw [show D.str "b" = .str loneE.name from rfl, kn_mem hm1] at h; cases h
    have sb : shD (.str "b") := okC_of _
    show WSs _ _ _ _ _ _; rw [WSs]
    (try simp (disch := first | assumption | omega | decide | (constructor <;> first | assumption | omega | decide | fail) | fail) only [WS, e_wnil, WE, WEs, WAnd, WOr, WTs, WFs, WO, WI, e_rs_int, e_rs_str, e_rs_bl, e_rs_non, e_rs_tup, e_rs_lst, e_rs_lsf, e_rs_loc, e_str, e_cint, e_cbl, e_cnon, e_add, e_sub, e_mul, e_mod, e_div, e_pow, e_adds, e_addt, e_addl, e_tbl, e_tnon, e_tint, e_tlst, e_ttup, e_gt, e_ge, e_lt, e_le, e_eqi, e_nei, e_eqs, e_nes, e_eql, e_nel, e_eqt, e_net, e_sublst, e_subtup, e_lenl, e_lent, e_lens, e_int1, e_tupl, e_tupt, e_lstl, e_lstt, e_repr, e_stri, e_strs, e_fvs, e_fvi, e_sll, e_slf, e_slt, e_rvt, e_rvl, e_stl, e_stt, e_sql, e_sqt, e_bnm, e_btp, e_bnil, e_bcons, e_san, e_sac, feedO_eq, g_cells, g_at, g_held, g_count, p_at, p_held, p_count, c_count, c_at, c_held, c_cells, put_same, put_put, List.set_cons_zero, List.set_cons_succ, List.getElem?_cons_zero, List.getElem?_cons_succ, List.map_cons, List.map_nil, List.cons_append, List.nil_append, List.length_cons, List.length_nil, and_true, true_and, decide_true, decide_false, l_feed, startE, List.replicate, Nat.reduceSub, Nat.reduceAdd, List.length_map, Bool.not_true, Bool.not_false, if_true, if_false, Bool.false_eq_true, reduceIte, i_int_non, i_int_bl, i_int_int, i_int_str, i_int_tup, i_int_lst, i_bool_non, i_bool_bl, i_bool_int, i_bool_str, i_bool_tup, i_bool_lst, i_str_non, i_str_bl, i_str_int, i_str_str, i_str_tup, i_str_lst, i_tuple_non, i_tuple_bl, i_tuple_int, i_tuple_str, i_tuple_tup, i_tuple_lst, i_list_non, i_list_bl, i_list_int, i_list_str, i_list_tup, i_list_lst, t0, t1, t2, t3, Int.cast_ofNat_Int, Int.natCast_one, Int.natCast_zero, Int.reduceEq, Int.reduceLT, Int.reduceLE, e_ltS, e_leS, e_inS, e_ninS, e_isN, e_isNN, e_sqS, rs_sh, cb])
    refine ⟨sz_small (by decide), sz_small (by decide), sz_small (by decide), sz_small (by decide), ?_⟩
    rw [lone_w]
    show WSs _ _ _ _ _ _; rw [WSs]
    (try simp (disch := first | assumption | omega | decide | (constructor <;> first | assumption | omega | decide | fail) | fail) only [WS, e_wnil, WE, WEs, WAnd, WOr, WTs, WFs, WO, WI, e_rs_int, e_rs_str, e_rs_bl, e_rs_non, e_rs_tup, e_rs_lst, e_rs_lsf, e_rs_loc, e_str, e_cint, e_cbl, e_cnon, e_add, e_sub, e_mul, e_mod, e_div, e_pow, e_adds, e_addt, e_addl, e_tbl, e_tnon, e_tint, e_tlst, e_ttup, e_gt, e_ge, e_lt, e_le, e_eqi, e_nei, e_eqs, e_nes, e_eql, e_nel, e_eqt, e_net, e_sublst, e_subtup, e_lenl, e_lent, e_lens, e_int1, e_tupl, e_tupt, e_lstl, e_lstt, e_repr, e_stri, e_strs, e_fvs, e_fvi, e_sll, e_slf, e_slt, e_rvt, e_rvl, e_stl, e_stt, e_sql, e_sqt, e_bnm, e_btp, e_bnil, e_bcons, e_san, e_sac, feedO_eq, g_cells, g_at, g_held, g_count, p_at, p_held, p_count, c_count, c_at, c_held, c_cells, put_same, put_put, List.set_cons_zero, List.set_cons_succ, List.getElem?_cons_zero, List.getElem?_cons_succ, List.map_cons, List.map_nil, List.cons_append, List.nil_append, List.length_cons, List.length_nil, and_true, true_and, decide_true, decide_false, l_feed, startE, List.replicate, Nat.reduceSub, Nat.reduceAdd, List.length_map, Bool.not_true, Bool.not_false, if_true, if_false, Bool.false_eq_true, reduceIte, i_int_non, i_int_bl, i_int_int, i_int_str, i_int_tup, i_int_lst, i_bool_non, i_bool_bl, i_bool_int, i_bool_str, i_bool_tup, i_bool_lst, i_str_non, i_str_bl, i_str_int, i_str_str, i_str_tup, i_str_lst, i_tuple_non, i_tuple_bl, i_tuple_int, i_tuple_str, i_tuple_tup, i_tuple_lst, i_list_non, i_list_bl, i_list_int, i_list_str, i_list_tup, i_list_lst, t0, t1, t2, t3, Int.cast_ofNat_Int, Int.natCast_one, Int.natCast_zero, Int.reduceEq, Int.reduceLT, Int.reduceLE, e_ltS, e_leS, e_inS, e_ninS, e_isN, e_isNN, e_sqS, rs_sh, cb, f_names_of, r_names_of])
    refine ⟨[loneE], "b", rfl, lone_wb, ?_⟩
    (try simp (disch := first | assumption | omega | decide | (constructor <;> first | assumption | omega | decide | fail) | fail) only [WS, e_wnil, WE, WEs, WAnd, WOr, WTs, WFs, WO, WI, e_rs_int, e_rs_str, e_rs_bl, e_rs_non, e_rs_tup, e_rs_lst, e_rs_lsf, e_rs_loc, e_str, e_cint, e_cbl, e_cnon, e_add, e_sub, e_mul, e_mod, e_div, e_pow, e_adds, e_addt, e_addl, e_tbl, e_tnon, e_tint, e_tlst, e_ttup, e_gt, e_ge, e_lt, e_le, e_eqi, e_nei, e_eqs, e_nes, e_eql, e_nel, e_eqt, e_net, e_sublst, e_subtup, e_lenl, e_lent, e_lens, e_int1, e_tupl, e_tupt, e_lstl, e_lstt, e_repr, e_stri, e_strs, e_fvs, e_fvi, e_sll, e_slf, e_slt, e_rvt, e_rvl, e_stl, e_stt, e_sql, e_sqt, e_bnm, e_btp, e_bnil, e_bcons, e_san, e_sac, feedO_eq, g_cells, g_at, g_held, g_count, p_at, p_held, p_count, c_count, c_at, c_held, c_cells, put_same, put_put, List.set_cons_zero, List.set_cons_succ, List.getElem?_cons_zero, List.getElem?_cons_succ, List.map_cons, List.map_nil, List.cons_append, List.nil_append, List.length_cons, List.length_nil, and_true, true_and, decide_true, decide_false, l_feed, startE, List.replicate, Nat.reduceSub, Nat.reduceAdd, List.length_map, Bool.not_true, Bool.not_false, if_true, if_false, Bool.false_eq_true, reduceIte, i_int_non, i_int_bl, i_int_int, i_int_str, i_int_tup, i_int_lst, i_bool_non, i_bool_bl, i_bool_int, i_bool_str, i_bool_tup, i_bool_lst, i_str_non, i_str_bl, i_str_int, i_str_str, i_str_tup, i_str_lst, i_tuple_non, i_tuple_bl, i_tuple_int, i_tuple_str, i_tuple_tup, i_tuple_lst, i_list_non, i_list_bl, i_list_int, i_list_str, i_list_tup, i_list_lst, t0, t1, t2, t3, Int.cast_ofNat_Int, Int.natCast_one, Int.natCast_zero, Int.reduceEq, Int.reduceLT, Int.reduceLE, e_ltS, e_leS, e_inS, e_ninS, e_isN, e_isNN, e_sqS, rs_sh, cb, f_fee_of, r_fee_of])
    refine ⟨[loneE], "b", _, rfl, lone_wb, sb, fun x hx h => ?_, fun h => (kf h).elim⟩
    rw [List.mem_singleton.mp hx]
    (try simp (disch := first | assumption | omega | decide | (constructor <;> first | assumption | omega | decide | fail) | fail) only [WS, e_wnil, WE, WEs, WAnd, WOr, WTs, WFs, WO, WI, e_rs_int, e_rs_str, e_rs_bl, e_rs_non, e_rs_tup, e_rs_lst, e_rs_lsf, e_rs_loc, e_str, e_cint, e_cbl, e_cnon, e_add, e_sub, e_mul, e_mod, e_div, e_pow, e_adds, e_addt, e_addl, e_tbl, e_tnon, e_tint, e_tlst, e_ttup, e_gt, e_ge, e_lt, e_le, e_eqi, e_nei, e_eqs, e_nes, e_eql, e_nel, e_eqt, e_net, e_sublst, e_subtup, e_lenl, e_lent, e_lens, e_int1, e_tupl, e_tupt, e_lstl, e_lstt, e_repr, e_stri, e_strs, e_fvs, e_fvi, e_sll, e_slf, e_slt, e_rvt, e_rvl, e_stl, e_stt, e_sql, e_sqt, e_bnm, e_btp, e_bnil, e_bcons, e_san, e_sac, feedO_eq, g_cells, g_at, g_held, g_count, p_at, p_held, p_count, c_count, c_at, c_held, c_cells, put_same, put_put, List.set_cons_zero, List.set_cons_succ, List.getElem?_cons_zero, List.getElem?_cons_succ, List.map_cons, List.map_nil, List.cons_append, List.nil_append, List.length_cons, List.length_nil, and_true, true_and, decide_true, decide_false, l_feed, startE, List.replicate, Nat.reduceSub, Nat.reduceAdd, List.length_map, Bool.not_true, Bool.not_false, if_true, if_false, Bool.false_eq_true, reduceIte, i_int_non, i_int_bl, i_int_int, i_int_str, i_int_tup, i_int_lst, i_bool_non, i_bool_bl, i_bool_int, i_bool_str, i_bool_tup, i_bool_lst, i_str_non, i_str_bl, i_str_int, i_str_str, i_str_tup, i_str_lst, i_tuple_non, i_tuple_bl, i_tuple_int, i_tuple_str, i_tuple_tup, i_tuple_lst, i_list_non, i_list_bl, i_list_int, i_list_str, i_list_tup, i_list_lst, t0, t1, t2, t3, Int.cast_ofNat_Int, Int.natCast_one, Int.natCast_zero, Int.reduceEq, Int.reduceLT, Int.reduceLE, e_ltS, e_leS, e_inS, e_ninS, e_isN, e_isNN, e_sqS, rs_sh, cb, f_has_of, r_has_of])
    refine ⟨[loneE], "b", _, rfl, lone_wb, sb, fun x hx h => ?_, fun h => (kf h).elim⟩
    rw [List.mem_singleton.mp hx]
    (try simp (disch := first | assumption | omega | decide | (constructor <;> first | assumption | omega | decide | fail) | fail) only [WS, e_wnil, WE, WEs, WAnd, WOr, WTs, WFs, WO, WI, e_rs_int, e_rs_str, e_rs_bl, e_rs_non, e_rs_tup, e_rs_lst, e_rs_lsf, e_rs_loc, e_str, e_cint, e_cbl, e_cnon, e_add, e_sub, e_mul, e_mod, e_div, e_pow, e_adds, e_addt, e_addl, e_tbl, e_tnon, e_tint, e_tlst, e_ttup, e_gt, e_ge, e_lt, e_le, e_eqi, e_nei, e_eqs, e_nes, e_eql, e_nel, e_eqt, e_net, e_sublst, e_subtup, e_lenl, e_lent, e_lens, e_int1, e_tupl, e_tupt, e_lstl, e_lstt, e_repr, e_stri, e_strs, e_fvs, e_fvi, e_sll, e_slf, e_slt, e_rvt, e_rvl, e_stl, e_stt, e_sql, e_sqt, e_bnm, e_btp, e_bnil, e_bcons, e_san, e_sac, feedO_eq, g_cells, g_at, g_held, g_count, p_at, p_held, p_count, c_count, c_at, c_held, c_cells, put_same, put_put, List.set_cons_zero, List.set_cons_succ, List.getElem?_cons_zero, List.getElem?_cons_succ, List.map_cons, List.map_nil, List.cons_append, List.nil_append, List.length_cons, List.length_nil, and_true, true_and, decide_true, decide_false, l_feed, startE, List.replicate, Nat.reduceSub, Nat.reduceAdd, List.length_map, Bool.not_true, Bool.not_false, if_true, if_false, Bool.false_eq_true, reduceIte, i_int_non, i_int_bl, i_int_int, i_int_str, i_int_tup, i_int_lst, i_bool_non, i_bool_bl, i_bool_int, i_bool_str, i_bool_tup, i_bool_lst, i_str_non, i_str_bl, i_str_int, i_str_str, i_str_tup, i_str_lst, i_tuple_non, i_tuple_bl, i_tuple_int, i_tuple_str, i_tuple_tup, i_tuple_lst, i_list_non, i_list_bl, i_list_int, i_list_str, i_list_tup, i_list_lst, t0, t1, t2, t3, Int.cast_ofNat_Int, Int.natCast_one, Int.natCast_zero, Int.reduceEq, Int.reduceLT, Int.reduceLE, e_ltS, e_leS, e_inS, e_ninS, e_isN, e_isNN, e_sqS, rs_sh, cb, f_table_of, r_table_of])
    refine ⟨[loneE], "b", _, rfl, lone_wb, sb, fun x hx h => ?_, fun h => (kf h).elim⟩
    rw [List.mem_singleton.mp hx]
    (try simp (disch := first | assumption | omega | decide | (constructor <;> first | assumption | omega | decide | fail) | fail) only [WS, e_wnil, WE, WEs, WAnd, WOr, WTs, WFs, WO, WI, e_rs_int, e_rs_str, e_rs_bl, e_rs_non, e_rs_tup, e_rs_lst, e_rs_lsf, e_rs_loc, e_str, e_cint, e_cbl, e_cnon, e_add, e_sub, e_mul, e_mod, e_div, e_pow, e_adds, e_addt, e_addl, e_tbl, e_tnon, e_tint, e_tlst, e_ttup, e_gt, e_ge, e_lt, e_le, e_eqi, e_nei, e_eqs, e_nes, e_eql, e_nel, e_eqt, e_net, e_sublst, e_subtup, e_lenl, e_lent, e_lens, e_int1, e_tupl, e_tupt, e_lstl, e_lstt, e_repr, e_stri, e_strs, e_fvs, e_fvi, e_sll, e_slf, e_slt, e_rvt, e_rvl, e_stl, e_stt, e_sql, e_sqt, e_bnm, e_btp, e_bnil, e_bcons, e_san, e_sac, feedO_eq, g_cells, g_at, g_held, g_count, p_at, p_held, p_count, c_count, c_at, c_held, c_cells, put_same, put_put, List.set_cons_zero, List.set_cons_succ, List.getElem?_cons_zero, List.getElem?_cons_succ, List.map_cons, List.map_nil, List.cons_append, List.nil_append, List.length_cons, List.length_nil, and_true, true_and, decide_true, decide_false, l_feed, startE, List.replicate, Nat.reduceSub, Nat.reduceAdd, List.length_map, Bool.not_true, Bool.not_false, if_true, if_false, Bool.false_eq_true, reduceIte, i_int_non, i_int_bl, i_int_int, i_int_str, i_int_tup, i_int_lst, i_bool_non, i_bool_bl, i_bool_int, i_bool_str, i_bool_tup, i_bool_lst, i_str_non, i_str_bl, i_str_int, i_str_str, i_str_tup, i_str_lst, i_tuple_non, i_tuple_bl, i_tuple_int, i_tuple_str, i_tuple_tup, i_tuple_lst, i_list_non, i_list_bl, i_list_int, i_list_str, i_list_tup, i_list_lst, t0, t1, t2, t3, Int.cast_ofNat_Int, Int.natCast_one, Int.natCast_zero, Int.reduceEq, Int.reduceLT, Int.reduceLE, e_ltS, e_leS, e_inS, e_ninS, e_isN, e_isNN, e_sqS, rs_sh, cb, f_senders_to, r_senders_to])
    refine ⟨[loneE], "b", _, rfl, lone_wb, sb, fun x hx h => ?_, fun h => (kf h).elim⟩
    rw [List.mem_singleton.mp hx, lone_s]
    refine ⟨sz_small (by decide), ?_⟩
    have l1 : ([loneE].map fun e => D.str e.name) = [.str "b"] := rfl
    have l2 : loneE.row.map D.str = [.str "b"] := rfl
    have l3 : loneE.fee = 3 := rfl
    have l4 : loneE.has = false := rfl
    show WSs _ _ _ _ _ _; rw [WSs]
    have l5 : loneE.name = "b" := rfl
    (try simp (disch := first | assumption | omega | decide | (constructor <;> first | assumption | omega | decide | fail) | fail) only [WS, e_wnil, WE, WEs, WAnd, WOr, WTs, WFs, WO, WI, e_rs_int, e_rs_str, e_rs_bl, e_rs_non, e_rs_tup, e_rs_lst, e_rs_lsf, e_rs_loc, e_str, e_cint, e_cbl, e_cnon, e_add, e_sub, e_mul, e_mod, e_div, e_pow, e_adds, e_addt, e_addl, e_tbl, e_tnon, e_tint, e_tlst, e_ttup, e_gt, e_ge, e_lt, e_le, e_eqi, e_nei, e_eqs, e_nes, e_eql, e_nel, e_eqt, e_net, e_sublst, e_subtup, e_lenl, e_lent, e_lens, e_int1, e_tupl, e_tupt, e_lstl, e_lstt, e_repr, e_stri, e_strs, e_fvs, e_fvi, e_sll, e_slf, e_slt, e_rvt, e_rvl, e_stl, e_stt, e_sql, e_sqt, e_bnm, e_btp, e_bnil, e_bcons, e_san, e_sac, feedO_eq, g_cells, g_at, g_held, g_count, p_at, p_held, p_count, c_count, c_at, c_held, c_cells, put_same, put_put, List.set_cons_zero, List.set_cons_succ, List.getElem?_cons_zero, List.getElem?_cons_succ, List.map_cons, List.map_nil, List.cons_append, List.nil_append, List.length_cons, List.length_nil, and_true, true_and, decide_true, decide_false, l_feed, startE, List.replicate, Nat.reduceSub, Nat.reduceAdd, List.length_map, Bool.not_true, Bool.not_false, if_true, if_false, Bool.false_eq_true, reduceIte, i_int_non, i_int_bl, i_int_int, i_int_str, i_int_tup, i_int_lst, i_bool_non, i_bool_bl, i_bool_int, i_bool_str, i_bool_tup, i_bool_lst, i_str_non, i_str_bl, i_str_int, i_str_str, i_str_tup, i_str_lst, i_tuple_non, i_tuple_bl, i_tuple_int, i_tuple_str, i_tuple_tup, i_tuple_lst, i_list_non, i_list_bl, i_list_int, i_list_str, i_list_tup, i_list_lst, t0, t1, t2, t3, Int.cast_ofNat_Int, Int.natCast_one, Int.natCast_zero, Int.reduceEq, Int.reduceLT, Int.reduceLE, e_ltS, e_leS, e_inS, e_ninS, e_isN, e_isNN, e_sqS, rs_sh, cb, l1, l2, l3, l4, l5, e4])
    exact ⟨sz_small (by decide), sz_small (by decide), sz_small (by decide), sz_small (by decide), S4, Le.refl _, hq _⟩
end FL.K03

namespace FL.K03
open PySem PySem.Spec PyProof.Rows L2
section
variable {P : Program} {w : World} {K : PySem.W.Frag} {mg : Str → Option Value} {base : Heap}
theorem all_known (a0 : At K mg "names_of" (topS 21)) (a1 : At K mg "kinds_by_name" (topS 17)) (a2 : AtD K mg "require_usable" (topS 16) dfl_require_usable) (a3 : At K mg "is_name" (topS 14)) (a4 : At K mg "is_name_of" (topS 18)) (a5 : AtD K mg "require_kind" (topS 19) dfl_require_kind) (a6 : At K mg "fee_of" (topS 22)) (a7 : At K mg "is_silent" (topS 20)) (a8 : At K mg "has_of" (topS 23)) (a9 : At K mg "table_of" (topS 24)) (a10 : At K mg "senders_to" (topS 25)) (a11 : At K mg "_law_start" (topS 27)) (a12 : At K mg "_law_draw" (topS 28)) (a13 : At K mg "_law_any" (topS 29)) (a14 : At K mg "_law_labels" (topS 30)) (a15 : At K mg "_law_page" (topS 31)) (a16 : At K mg "_law_odds" (topS 35)) (a17 : At K mg "_law_are_told" (topS 36)) (a18 : At K mg "_law_use" (topS 34)) (a19 : At K mg "_law_are_refused" (topS 37)) (a20 : At K mg "law" (topS 38)) (gls : ∀ g x, GLS[g]? = some x → ∃ d, GL g = some d ∧ Gl0 K mg x d) (blt : ∀ x ∈ bltNames, mg x = none) (xNotUsable : Ex0 P K mg "NotUsable" "word" "at") (sd_law_are_refused : ∀ fa fd, Fun K "_law_are_refused" "_law_are_refused" (topS 37) fa fd → mg "_law_are_refused" = some (.ref fa) → Sd TL K mg base fd.code (("_law_are_refused" : Str) ++ ".<locals>.")) : Known TL P w K mg base G FNS SHP 20 24 := by
  have h0 : Known TL P w K mg base G FNS SHP 0 0 := Known.zero
  have h1 : Known TL P w K mg base G FNS SHP 1 1 := Known.add (st := st_names_of) (core := core_names_of) h0 rfl a0 bd_names_of rfl sc_names_of rfl rfl ch_names_of gls blt body_names_of (by intro _ _ _ h; cases h) (by intro h; cases h)
  have h2 : Known TL P w K mg base G FNS SHP 2 2 := Known.add (st := st_kinds_by_name) (core := core_kinds_by_name) h1 rfl a1 bd_kinds_by_name rfl sc_kinds_by_name rfl rfl ch_kinds_by_name gls blt body_kinds_by_name (by intro _ _ _ h; cases h) (by intro h; cases h)
  have h3 : Known TL P w K mg base G FNS SHP 3 5 := Known.addD (st := st_require_usable) (core := core_require_usable) h2 rfl a2 bd_require_usable rfl sc_require_usable rfl rfl ch_require_usable gls blt body_require_usable (by intro _ _ _ h; cases h with | head => exact ⟨by decide, xNotUsable⟩ | tail _ h => cases h) rfl
  have h4 : Known TL P w K mg base G FNS SHP 4 6 := Known.add (st := st_is_name) (core := core_is_name) h3 rfl a3 bd_is_name rfl sc_is_name rfl rfl ch_is_name gls blt body_is_name (by intro _ _ _ h; cases h) (by intro h; cases h)
  have h5 : Known TL P w K mg base G FNS SHP 5 7 := Known.add (st := st_is_name_of) (core := core_is_name_of) h4 rfl a4 bd_is_name_of rfl sc_is_name_of rfl rfl ch_is_name_of gls blt body_is_name_of (by intro _ _ _ h; cases h) (by intro h; cases h)
  have h6 : Known TL P w K mg base G FNS SHP 6 8 := Known.addD (st := st_require_kind) (core := core_require_kind) h5 rfl a5 bd_require_kind rfl sc_require_kind rfl rfl ch_require_kind gls blt body_require_kind (by intro _ _ _ h; cases h) rfl
  have h7 : Known TL P w K mg base G FNS SHP 7 9 := Known.add (st := st_fee_of) (core := core_fee_of) h6 rfl a6 bd_fee_of rfl sc_fee_of rfl rfl ch_fee_of gls blt body_fee_of (by intro _ _ _ h; cases h) (by intro h; cases h)
  have h8 : Known TL P w K mg base G FNS SHP 8 10 := Known.add (st := st_is_silent) (core := core_is_silent) h7 rfl a7 bd_is_silent rfl sc_is_silent rfl rfl ch_is_silent gls blt body_is_silent (by intro _ _ _ h; cases h) (by intro h; cases h)
  have h9 : Known TL P w K mg base G FNS SHP 9 11 := Known.add (st := st_has_of) (core := core_has_of) h8 rfl a8 bd_has_of rfl sc_has_of rfl rfl ch_has_of gls blt body_has_of (by intro _ _ _ h; cases h) (by intro h; cases h)
  have h10 : Known TL P w K mg base G FNS SHP 10 12 := Known.add (st := st_table_of) (core := core_table_of) h9 rfl a9 bd_table_of rfl sc_table_of rfl rfl ch_table_of gls blt body_table_of (by intro _ _ _ h; cases h) (by intro h; cases h)
  have h11 : Known TL P w K mg base G FNS SHP 11 13 := Known.add (st := st_senders_to) (core := core_senders_to) h10 rfl a10 bd_senders_to rfl sc_senders_to rfl rfl ch_senders_to gls blt body_senders_to (by intro _ _ _ h; cases h) (by intro h; cases h)
  have h12 : Known TL P w K mg base G FNS SHP 12 14 := Known.add (st := st__law_start) (core := core__law_start) h11 rfl a11 bd__law_start rfl sc__law_start rfl rfl ch__law_start gls blt body__law_start (by intro _ _ _ h; cases h) (by intro h; cases h)
  have h13 : Known TL P w K mg base G FNS SHP 13 15 := Known.add (st := st__law_draw) (core := core__law_draw) h12 rfl a12 bd__law_draw rfl sc__law_draw rfl rfl ch__law_draw gls blt body__law_draw (by intro _ _ _ h; cases h) (by intro h; cases h)
  have h14 : Known TL P w K mg base G FNS SHP 14 16 := Known.add (st := st__law_any) (core := core__law_any) h13 rfl a13 bd__law_any rfl sc__law_any rfl rfl ch__law_any gls blt body__law_any (by intro _ _ _ h; cases h) (by intro h; cases h)
  have h15 : Known TL P w K mg base G FNS SHP 15 17 := Known.add (st := st__law_labels) (core := core__law_labels) h14 rfl a14 bd__law_labels rfl sc__law_labels rfl rfl ch__law_labels gls blt body__law_labels (by intro _ _ _ h; cases h) (by intro h; cases h)
  have h16 : Known TL P w K mg base G FNS SHP 16 18 := Known.add (st := st__law_page) (core := core__law_page) h15 rfl a15 bd__law_page rfl sc__law_page rfl rfl ch__law_page gls blt body__law_page (by intro _ _ _ h; cases h) (by intro h; cases h)
  have h17 : Known TL P w K mg base G FNS SHP 17 19 := Known.add (st := st__law_odds) (core := core__law_odds) h16 rfl a16 bd__law_odds rfl sc__law_odds rfl rfl ch__law_odds gls blt body__law_odds (by intro _ _ _ h; cases h) (by intro h; cases h)
  have h18 : Known TL P w K mg base G FNS SHP 18 20 := Known.add (st := st__law_are_told) (core := core__law_are_told) h17 rfl a17 bd__law_are_told rfl sc__law_are_told rfl rfl ch__law_are_told gls blt body__law_are_told (by intro _ _ _ h; cases h) (by intro h; cases h)
  have h19 : Known TL P w K mg base G FNS SHP 19 21 := Known.add (st := st__law_use) (core := core__law_use) h18 rfl a18 bd__law_use rfl sc__law_use rfl rfl ch__law_use gls blt body__law_use (by intro _ _ _ h; cases h) (by intro h; cases h)
  have h20 : Known TL P w K mg base G FNS SHP 20 24 := Known.add (st := st__law_are_refused) (core := core__law_are_refused) h19 rfl a19 bd__law_are_refused rfl sc__law_are_refused rfl rfl ch__law_are_refused gls blt body__law_are_refused (by intro _ _ _ h; cases h) (fun _ => ⟨by decide, sd_law_are_refused⟩)
  exact h20
end
theorem all_mk {l : PySem.W.OpenLaw} {w : World} {K : PySem.W.Frag} {h : Heap} {mg : Str → Option Value} {fa : Addr} (X : K.In h) (G0 : h.Ns mainGlobals mg) (hfa : mg "law" = some (.ref fa)) (tbs : ∀ y ∈ (["_law_are_refused"] : List Str), TbAt h mg y)
    {f0 : Addr} {d0 n0 : Option Addr} {s0 : Array (Option Value)} {o0 k0 c0 p0 e0 t0 : Value} (y0 : PySem.W.nsIn K mainGlobals "names_of" = some (some (.ref f0))) (l0 : K.lookup f0 = some ⟨o0, d0, .func (PySem.W.fnOf "names_of" "names_of" (defArgs (topS 21)) (defBody (topS 21)) (defScope (topS 21)) .none k0 c0 p0 n0 e0 t0), s0⟩) (u0 : PySem.W.codeIn K e0 "names_of" = true) (v0 : PySem.W.keepIn K (.ref f0) = true)
    {f1 : Addr} {d1 n1 : Option Addr} {s1 : Array (Option Value)} {o1 k1 c1 p1 e1 t1 : Value} (y1 : PySem.W.nsIn K mainGlobals "kinds_by_name" = some (some (.ref f1))) (l1 : K.lookup f1 = some ⟨o1, d1, .func (PySem.W.fnOf "kinds_by_name" "kinds_by_name" (defArgs (topS 17)) (defBody (topS 17)) (defScope (topS 17)) .none k1 c1 p1 n1 e1 t1), s1⟩) (u1 : PySem.W.codeIn K e1 "kinds_by_name" = true) (v1 : PySem.W.keepIn K (.ref f1) = true)
    {f2 T2 : Addr} {d2 n2 td2 : Option Addr} {s2 ts2 : Array (Option Value)} {o2 k2 c2 p2 e2 t2 tc2 : Value} {ti2 : Array Value} {tn2 : Nat} (y2 : PySem.W.nsIn K mainGlobals "require_usable" = some (some (.ref f2))) (l2 : K.lookup f2 = some ⟨o2, d2, .func (PySem.W.fnOf "require_usable" "require_usable" (defArgs (topS 16)) (defBody (topS 16)) (defScope (topS 16)) (.ref T2) k2 c2 p2 n2 e2 t2), s2⟩) (u2 : PySem.W.codeIn K e2 "require_usable" = true) (v2 : PySem.W.keepIn K (.ref f2) = true) (lt2 : K.lookup T2 = some ⟨tc2, td2, .seq ti2 tn2, ts2⟩) (hv2 : valsB ti2.toList dfl_require_usable = true)
    {f3 : Addr} {d3 n3 : Option Addr} {s3 : Array (Option Value)} {o3 k3 c3 p3 e3 t3 : Value} (y3 : PySem.W.nsIn K mainGlobals "is_name" = some (some (.ref f3))) (l3 : K.lookup f3 = some ⟨o3, d3, .func (PySem.W.fnOf "is_name" "is_name" (defArgs (topS 14)) (defBody (topS 14)) (defScope (topS 14)) .none k3 c3 p3 n3 e3 t3), s3⟩) (u3 : PySem.W.codeIn K e3 "is_name" = true) (v3 : PySem.W.keepIn K (.ref f3) = true)
    {f4 : Addr} {d4 n4 : Option Addr} {s4 : Array (Option Value)} {o4 k4 c4 p4 e4 t4 : Value} (y4 : PySem.W.nsIn K mainGlobals "is_name_of" = some (some (.ref f4))) (l4 : K.lookup f4 = some ⟨o4, d4, .func (PySem.W.fnOf "is_name_of" "is_name_of" (defArgs (topS 18)) (defBody (topS 18)) (defScope (topS 18)) .none k4 c4 p4 n4 e4 t4), s4⟩) (u4 : PySem.W.codeIn K e4 "is_name_of" = true) (v4 : PySem.W.keepIn K (.ref f4) = true)
    {f5 T5 : Addr} {d5 n5 td5 : Option Addr} {s5 ts5 : Array (Option Value)} {o5 k5 c5 p5 e5 t5 tc5 : Value} {ti5 : Array Value} {tn5 : Nat} (y5 : PySem.W.nsIn K mainGlobals "require_kind" = some (some (.ref f5))) (l5 : K.lookup f5 = some ⟨o5, d5, .func (PySem.W.fnOf "require_kind" "require_kind" (defArgs (topS 19)) (defBody (topS 19)) (defScope (topS 19)) (.ref T5) k5 c5 p5 n5 e5 t5), s5⟩) (u5 : PySem.W.codeIn K e5 "require_kind" = true) (v5 : PySem.W.keepIn K (.ref f5) = true) (lt5 : K.lookup T5 = some ⟨tc5, td5, .seq ti5 tn5, ts5⟩) (hv5 : valsB ti5.toList dfl_require_kind = true)
    {f6 : Addr} {d6 n6 : Option Addr} {s6 : Array (Option Value)} {o6 k6 c6 p6 e6 t6 : Value} (y6 : PySem.W.nsIn K mainGlobals "fee_of" = some (some (.ref f6))) (l6 : K.lookup f6 = some ⟨o6, d6, .func (PySem.W.fnOf "fee_of" "fee_of" (defArgs (topS 22)) (defBody (topS 22)) (defScope (topS 22)) .none k6 c6 p6 n6 e6 t6), s6⟩) (u6 : PySem.W.codeIn K e6 "fee_of" = true) (v6 : PySem.W.keepIn K (.ref f6) = true)
    {f7 : Addr} {d7 n7 : Option Addr} {s7 : Array (Option Value)} {o7 k7 c7 p7 e7 t7 : Value} (y7 : PySem.W.nsIn K mainGlobals "is_silent" = some (some (.ref f7))) (l7 : K.lookup f7 = some ⟨o7, d7, .func (PySem.W.fnOf "is_silent" "is_silent" (defArgs (topS 20)) (defBody (topS 20)) (defScope (topS 20)) .none k7 c7 p7 n7 e7 t7), s7⟩) (u7 : PySem.W.codeIn K e7 "is_silent" = true) (v7 : PySem.W.keepIn K (.ref f7) = true)
    {f8 : Addr} {d8 n8 : Option Addr} {s8 : Array (Option Value)} {o8 k8 c8 p8 e8 t8 : Value} (y8 : PySem.W.nsIn K mainGlobals "has_of" = some (some (.ref f8))) (l8 : K.lookup f8 = some ⟨o8, d8, .func (PySem.W.fnOf "has_of" "has_of" (defArgs (topS 23)) (defBody (topS 23)) (defScope (topS 23)) .none k8 c8 p8 n8 e8 t8), s8⟩) (u8 : PySem.W.codeIn K e8 "has_of" = true) (v8 : PySem.W.keepIn K (.ref f8) = true)
    {f9 : Addr} {d9 n9 : Option Addr} {s9 : Array (Option Value)} {o9 k9 c9 p9 e9 t9 : Value} (y9 : PySem.W.nsIn K mainGlobals "table_of" = some (some (.ref f9))) (l9 : K.lookup f9 = some ⟨o9, d9, .func (PySem.W.fnOf "table_of" "table_of" (defArgs (topS 24)) (defBody (topS 24)) (defScope (topS 24)) .none k9 c9 p9 n9 e9 t9), s9⟩) (u9 : PySem.W.codeIn K e9 "table_of" = true) (v9 : PySem.W.keepIn K (.ref f9) = true)
    {f10 : Addr} {d10 n10 : Option Addr} {s10 : Array (Option Value)} {o10 k10 c10 p10 e10 t10 : Value} (y10 : PySem.W.nsIn K mainGlobals "senders_to" = some (some (.ref f10))) (l10 : K.lookup f10 = some ⟨o10, d10, .func (PySem.W.fnOf "senders_to" "senders_to" (defArgs (topS 25)) (defBody (topS 25)) (defScope (topS 25)) .none k10 c10 p10 n10 e10 t10), s10⟩) (u10 : PySem.W.codeIn K e10 "senders_to" = true) (v10 : PySem.W.keepIn K (.ref f10) = true)
    {f11 : Addr} {d11 n11 : Option Addr} {s11 : Array (Option Value)} {o11 k11 c11 p11 e11 t11 : Value} (y11 : PySem.W.nsIn K mainGlobals "_law_start" = some (some (.ref f11))) (l11 : K.lookup f11 = some ⟨o11, d11, .func (PySem.W.fnOf "_law_start" "_law_start" (defArgs (topS 27)) (defBody (topS 27)) (defScope (topS 27)) .none k11 c11 p11 n11 e11 t11), s11⟩) (u11 : PySem.W.codeIn K e11 "_law_start" = true) (v11 : PySem.W.keepIn K (.ref f11) = true)
    {f12 : Addr} {d12 n12 : Option Addr} {s12 : Array (Option Value)} {o12 k12 c12 p12 e12 t12 : Value} (y12 : PySem.W.nsIn K mainGlobals "_law_draw" = some (some (.ref f12))) (l12 : K.lookup f12 = some ⟨o12, d12, .func (PySem.W.fnOf "_law_draw" "_law_draw" (defArgs (topS 28)) (defBody (topS 28)) (defScope (topS 28)) .none k12 c12 p12 n12 e12 t12), s12⟩) (u12 : PySem.W.codeIn K e12 "_law_draw" = true) (v12 : PySem.W.keepIn K (.ref f12) = true)
    {f13 : Addr} {d13 n13 : Option Addr} {s13 : Array (Option Value)} {o13 k13 c13 p13 e13 t13 : Value} (y13 : PySem.W.nsIn K mainGlobals "_law_any" = some (some (.ref f13))) (l13 : K.lookup f13 = some ⟨o13, d13, .func (PySem.W.fnOf "_law_any" "_law_any" (defArgs (topS 29)) (defBody (topS 29)) (defScope (topS 29)) .none k13 c13 p13 n13 e13 t13), s13⟩) (u13 : PySem.W.codeIn K e13 "_law_any" = true) (v13 : PySem.W.keepIn K (.ref f13) = true)
    {f14 : Addr} {d14 n14 : Option Addr} {s14 : Array (Option Value)} {o14 k14 c14 p14 e14 t14 : Value} (y14 : PySem.W.nsIn K mainGlobals "_law_labels" = some (some (.ref f14))) (l14 : K.lookup f14 = some ⟨o14, d14, .func (PySem.W.fnOf "_law_labels" "_law_labels" (defArgs (topS 30)) (defBody (topS 30)) (defScope (topS 30)) .none k14 c14 p14 n14 e14 t14), s14⟩) (u14 : PySem.W.codeIn K e14 "_law_labels" = true) (v14 : PySem.W.keepIn K (.ref f14) = true)
    {f15 : Addr} {d15 n15 : Option Addr} {s15 : Array (Option Value)} {o15 k15 c15 p15 e15 t15 : Value} (y15 : PySem.W.nsIn K mainGlobals "_law_page" = some (some (.ref f15))) (l15 : K.lookup f15 = some ⟨o15, d15, .func (PySem.W.fnOf "_law_page" "_law_page" (defArgs (topS 31)) (defBody (topS 31)) (defScope (topS 31)) .none k15 c15 p15 n15 e15 t15), s15⟩) (u15 : PySem.W.codeIn K e15 "_law_page" = true) (v15 : PySem.W.keepIn K (.ref f15) = true)
    {f16 : Addr} {d16 n16 : Option Addr} {s16 : Array (Option Value)} {o16 k16 c16 p16 e16 t16 : Value} (y16 : PySem.W.nsIn K mainGlobals "_law_odds" = some (some (.ref f16))) (l16 : K.lookup f16 = some ⟨o16, d16, .func (PySem.W.fnOf "_law_odds" "_law_odds" (defArgs (topS 35)) (defBody (topS 35)) (defScope (topS 35)) .none k16 c16 p16 n16 e16 t16), s16⟩) (u16 : PySem.W.codeIn K e16 "_law_odds" = true) (v16 : PySem.W.keepIn K (.ref f16) = true)
    {f17 : Addr} {d17 n17 : Option Addr} {s17 : Array (Option Value)} {o17 k17 c17 p17 e17 t17 : Value} (y17 : PySem.W.nsIn K mainGlobals "_law_are_told" = some (some (.ref f17))) (l17 : K.lookup f17 = some ⟨o17, d17, .func (PySem.W.fnOf "_law_are_told" "_law_are_told" (defArgs (topS 36)) (defBody (topS 36)) (defScope (topS 36)) .none k17 c17 p17 n17 e17 t17), s17⟩) (u17 : PySem.W.codeIn K e17 "_law_are_told" = true) (v17 : PySem.W.keepIn K (.ref f17) = true)
    {f18 : Addr} {d18 n18 : Option Addr} {s18 : Array (Option Value)} {o18 k18 c18 p18 e18 t18 : Value} (y18 : PySem.W.nsIn K mainGlobals "_law_use" = some (some (.ref f18))) (l18 : K.lookup f18 = some ⟨o18, d18, .func (PySem.W.fnOf "_law_use" "_law_use" (defArgs (topS 34)) (defBody (topS 34)) (defScope (topS 34)) .none k18 c18 p18 n18 e18 t18), s18⟩) (u18 : PySem.W.codeIn K e18 "_law_use" = true) (v18 : PySem.W.keepIn K (.ref f18) = true)
    {f19 : Addr} {d19 n19 : Option Addr} {s19 : Array (Option Value)} {o19 k19 c19 p19 e19 t19 : Value} (y19 : PySem.W.nsIn K mainGlobals "_law_are_refused" = some (some (.ref f19))) (l19 : K.lookup f19 = some ⟨o19, d19, .func (PySem.W.fnOf "_law_are_refused" "_law_are_refused" (defArgs (topS 37)) (defBody (topS 37)) (defScope (topS 37)) .none k19 c19 p19 n19 e19 t19), s19⟩) (u19 : PySem.W.codeIn K e19 "_law_are_refused" = true) (v19 : PySem.W.keepIn K (.ref f19) = true)
    {f20 : Addr} {d20 n20 : Option Addr} {s20 : Array (Option Value)} {o20 k20 c20 p20 e20 t20 : Value} (y20 : PySem.W.nsIn K mainGlobals "law" = some (some (.ref f20))) (l20 : K.lookup f20 = some ⟨o20, d20, .func (PySem.W.fnOf "law" "law" (defArgs (topS 38)) (defBody (topS 38)) (defScope (topS 38)) .none k20 c20 p20 n20 e20 t20), s20⟩) (u20 : PySem.W.codeIn K e20 "law" = true) (v20 : PySem.W.keepIn K (.ref f20) = true)
    (z0 : PySem.W.nsIn K mainGlobals "len" = some none)
    (z1 : PySem.W.nsIn K mainGlobals "int" = some none)
    (z2 : PySem.W.nsIn K mainGlobals "sorted" = some none)
    (z3 : PySem.W.nsIn K mainGlobals "tuple" = some none)
    (z4 : PySem.W.nsIn K mainGlobals "list" = some none)
    (z5 : PySem.W.nsIn K mainGlobals "repr" = some none)
    (z6 : PySem.W.nsIn K mainGlobals "str" = some none)
    (z7 : PySem.W.nsIn K mainGlobals "all" = some none)
    (z8 : PySem.W.nsIn K mainGlobals "any" = some none)
    (z9 : PySem.W.nsIn K mainGlobals "sum" = some none)
    (z10 : PySem.W.nsIn K mainGlobals "isinstance" = some none)
    (z11 : PySem.W.nsIn K mainGlobals "range" = some none)
    (z12 : PySem.W.nsIn K mainGlobals "enumerate" = some none)
    (z13 : PySem.W.nsIn K mainGlobals "zip" = some none)
    (z14 : PySem.W.nsIn K mainGlobals "bool" = some none)
    (z15 : PySem.W.nsIn K mainGlobals "set" = some none)
    (z16 : PySem.W.nsIn K mainGlobals "dict" = some none)
    (z17 : PySem.W.nsIn K mainGlobals "min" = some none)
    (z18 : PySem.W.nsIn K mainGlobals "max" = some none)
    (z19 : PySem.W.nsIn K mainGlobals "iter" = some none)
    {gu0 : Value} (gy0 : PySem.W.nsIn K mainGlobals "LETTERS" = some (some gu0)) (gc0 : valB gu0 gl_LETTERS = true)
    {gu1 : Value} (gy1 : PySem.W.nsIn K mainGlobals "LONGEST_NAME" = some (some gu1)) (gc1 : valB gu1 gl_LONGEST_NAME = true)
    (xNotUsable : Ex0 l.prog K mg "NotUsable" "word" "at")
    {frr : Addr} {drr nrr : Option Addr} {srr : Array (Option Value)} {orr krr crr prr err trr : Value} (yrr : PySem.W.nsIn K mainGlobals "_law_refusal" = some (some (.ref frr))) (lrr : K.lookup frr = some ⟨orr, drr, .func (PySem.W.fnOf "_law_refusal" "_law_refusal" (defArgs (topS 32)) (defBody (topS 32)) (defScope (topS 32)) .none krr crr prr nrr err trr), srr⟩) (urr : PySem.W.codeIn K err "_law_refusal" = true) (vrr : PySem.W.keepIn K (.ref frr) = true)
    {fss : Addr} {dss nss : Option Addr} {sss : Array (Option Value)} {oss kss css pss ess tss : Value} (yss : PySem.W.nsIn K mainGlobals "_law_said" = some (some (.ref fss))) (lss : K.lookup fss = some ⟨oss, dss, .func (PySem.W.fnOf "_law_said" "_law_said" (defArgs (topS 33)) (defBody (topS 33)) (defScope (topS 33)) .none kss css pss nss ess tss), sss⟩) (uss : PySem.W.codeIn K ess "_law_said" = true) (vss : PySem.W.keepIn K (.ref fss) = true)
    (zi : PySem.W.nsIn K mainGlobals "ValueError" = some none) {CL : Addr} (yl : PySem.W.nsIn K mainGlobals "LetterError" = some (some (.ref CL)))
    (tol : ∀ x w f1 f2 C, wordOf x = some (w, f1, f2) → PySem.W.nsIn K mainGlobals x = some (some (.ref C)) → TolC K mg CL C x w f1 f2)
    {P_law_are_refused C_law_are_refused : Addr}
    (tb_law_are_refused : TbAt h mg "_law_are_refused" → Tb1 K h mg "_law_are_refused" C_law_are_refused P_law_are_refused)
    (hu_law_are_refused : (([(P_law_are_refused, ("_law_are_refused" : Str) ++ ".<locals>." ++ "<lambda>")] : List (Addr × Str)).all fun p => !(p.1 == P_law_are_refused) || p.2 == ("_law_are_refused" : Str) ++ ".<locals>." ++ "<lambda>") = true)
    : LawG l w K 25 "_law_script" mg fa h := by
  have e := hfa.symm.trans (PySem.W.mg_of X G0 y20)
  cases e
  have blt : ∀ x ∈ bltNames, mg x = none := by
    intro x hx
    simp only [bltNames, List.mem_cons, List.not_mem_nil, or_false] at hx
    rcases hx with rfl | rfl | rfl | rfl | rfl | rfl | rfl | rfl | rfl | rfl | rfl | rfl | rfl | rfl | rfl | rfl | rfl | rfl | rfl | rfl
    · exact PySem.W.mg_none_of X G0 z0
    · exact PySem.W.mg_none_of X G0 z1
    · exact PySem.W.mg_none_of X G0 z2
    · exact PySem.W.mg_none_of X G0 z3
    · exact PySem.W.mg_none_of X G0 z4
    · exact PySem.W.mg_none_of X G0 z5
    · exact PySem.W.mg_none_of X G0 z6
    · exact PySem.W.mg_none_of X G0 z7
    · exact PySem.W.mg_none_of X G0 z8
    · exact PySem.W.mg_none_of X G0 z9
    · exact PySem.W.mg_none_of X G0 z10
    · exact PySem.W.mg_none_of X G0 z11
    · exact PySem.W.mg_none_of X G0 z12
    · exact PySem.W.mg_none_of X G0 z13
    · exact PySem.W.mg_none_of X G0 z14
    · exact PySem.W.mg_none_of X G0 z15
    · exact PySem.W.mg_none_of X G0 z16
    · exact PySem.W.mg_none_of X G0 z17
    · exact PySem.W.mg_none_of X G0 z18
    · exact PySem.W.mg_none_of X G0 z19
  have gls : ∀ g x, GLS[g]? = some x → ∃ d, GL g = some d ∧ Gl0 K mg x d := fun g x h => by
    match g, h with
    | 0, h => (cases h; exact ⟨_, rfl, glo_flat X G0 gy0 gc0⟩)
    | 1, h => (cases h; exact ⟨_, rfl, glo_flat X G0 gy1 gc1⟩)
    | _ + 2, h => exact absurd h (by simp [GLS])
  have R := refd_mk (at_mk X G0 yrr lrr urr vrr) bp__law_refusal rfl rfl rfl sc__law_refusal rsc (PySem.W.mg_none_of X G0 z10) (PySem.W.mg_none_of X G0 zi)
  have T_law_are_refused := tb_law_are_refused (tbs _ (by simp))
  refine ⟨PySem.W.fnOf "law" "law" (defArgs (topS 38)) (defBody (topS 38)) (defScope (topS 38)) .none k20 c20 p20 n20 e20 t20, [(C_law_are_refused, P_law_are_refused)], [(P_law_are_refused, ("_law_are_refused" : Str) ++ ".<locals>." ++ "<lambda>")], (al_cons (by obtain ⟨_, _, _, _, _, _, _, h5, h6, h7⟩ := T_law_are_refused; exact ⟨h6, h7, h5⟩) al_nil), (al_cons ⟨C_law_are_refused, by simp⟩ al_nil), fun s v => .of_eq rfl, fun base hB => ?_⟩
  have sd_law_are_refused : ∀ fa fd, Fun K "_law_are_refused" "_law_are_refused" (topS 37) fa fd → mg "_law_are_refused" = some (.ref fa) → Sd [(P_law_are_refused, ("_law_are_refused" : Str) ++ ".<locals>." ++ "<lambda>")] K mg base fd.code (("_law_are_refused" : Str) ++ ".<locals>.") := fun fa fd F hm => T_law_are_refused.sd X (at_mk X G0 yss lss uss vss) bp__law_said rfl sc__law_said ssc R (PySem.W.mg_of X G0 yl) tol (hB (C_law_are_refused, P_law_are_refused) (by simp)) hu_law_are_refused (by simp) F hm
  exact fn_at (k := 24) (fun_mk l20 u20 v20) sc_law rfl ch_law (all_known (at_mk X G0 y0 l0 u0 v0) (at_mk X G0 y1 l1 u1 v1) (atd_mk X G0 y2 l2 u2 v2 lt2 hv2) (at_mk X G0 y3 l3 u3 v3) (at_mk X G0 y4 l4 u4 v4) (atd_mk X G0 y5 l5 u5 v5 lt5 hv5) (at_mk X G0 y6 l6 u6 v6) (at_mk X G0 y7 l7 u7 v7) (at_mk X G0 y8 l8 u8 v8) (at_mk X G0 y9 l9 u9 v9) (at_mk X G0 y10 l10 u10 v10) (at_mk X G0 y11 l11 u11 v11) (at_mk X G0 y12 l12 u12 v12) (at_mk X G0 y13 l13 u13 v13) (at_mk X G0 y14 l14 u14 v14) (at_mk X G0 y15 l15 u15 v15) (at_mk X G0 y16 l16 u16 v16) (at_mk X G0 y17 l17 u17 v17) (at_mk X G0 y18 l18 u18 v18) (at_mk X G0 y19 l19 u19 v19) (at_mk X G0 y20 l20 u20 v20) gls blt xNotUsable sd_law_are_refused) gls blt body_law (by intro _ _ _ h; cases h) (by intro h; cases h)
end FL.K03
open PySem PySem.W PyProof.Rows PySem.Spec
set_option maxHeartbeats 0 in
theorem PySem.Challenge.cw_firstletter_k03_parts_of_webs_holds : PySem.Challenge.rw_firstletter_k03_parts_of_webs.Holds := by
  w_on; o_law; k_head; (case hw => w_witness2)
  k_fill
  refine FL.walkG (l := PySem.Challenge.rw_firstletter_k03_parts_of_webs) (k := 25) (x := "_law_script") (lams := ["_law_are_refused"]) rfl rfl ⟨rfl, by decide, by decide⟩ (fun w h Y => PySem.W.km_in_of Y) (by decide +kernel) ?F
  case F =>
    intro w mg fa h KX G hmg htb
    refine' FL.K03.all_mk KX G hmg htb ?y0 ?l0 ?u0 ?v0 ?y1 ?l1 ?u1 ?v1 ?y2 ?l2 ?u2 ?v2 ?lt2 ?hv2 ?y3 ?l3 ?u3 ?v3 ?y4 ?l4 ?u4 ?v4 ?y5 ?l5 ?u5 ?v5 ?lt5 ?hv5 ?y6 ?l6 ?u6 ?v6 ?y7 ?l7 ?u7 ?v7 ?y8 ?l8 ?u8 ?v8 ?y9 ?l9 ?u9 ?v9 ?y10 ?l10 ?u10 ?v10 ?y11 ?l11 ?u11 ?v11 ?y12 ?l12 ?u12 ?v12 ?y13 ?l13 ?u13 ?v13 ?y14 ?l14 ?u14 ?v14 ?y15 ?l15 ?u15 ?v15 ?y16 ?l16 ?u16 ?v16 ?y17 ?l17 ?u17 ?v17 ?y18 ?l18 ?u18 ?v18 ?y19 ?l19 ?u19 ?v19 ?y20 ?l20 ?u20 ?v20 ?z0 ?z1 ?z2 ?z3 ?z4 ?z5 ?z6 ?z7 ?z8 ?z9 ?z10 ?z11 ?z12 ?z13 ?z14 ?z15 ?z16 ?z17 ?z18 ?z19 ?gy0 ?gc0 ?gy1 ?gc1 (FL.ex0_mk KX G ?yNotUsable ?lCNotUsable ?iCNotUsable ?lfNotUsable ?hcNotUsable ?lcNotUsable ?lvNotUsable ?lfileNotUsable ?lccNotUsable ?hbNotUsable ?hpNotUsable ?harNotUsable ?hlNotUsable ?hsNotUsable ?hiNotUsable ?htopNotUsable ?hbdNotUsable) ?yrr ?lrr ?urr ?vrr ?yss ?lss ?uss ?vss ?zi ?yl (FL.tols_mk KX G ?ty1 ?ty2 ?ty3 ?td1 ?td2 ?td3 ?td4 ?td7 ?td9 ?th1 ?th2 ?th3) (fun T => FL.tb1_mk KX G T ?y2_law_are_refused ?l2_law_are_refused ?hc2_law_are_refused ?lc2_law_are_refused ?lv2_law_are_refused ?ln2_law_are_refused) ?hu_law_are_refused
    (case y0 => k_is)
    (case l0 => k_is)
    (case u0 => k_is)
    (case v0 => k_is)
    (case y1 => k_is)
    (case l1 => k_is)
    (case u1 => k_is)
    (case v1 => k_is)
    (case y2 => k_is)
    (case l2 => k_is)
    (case u2 => k_is)
    (case v2 => k_is)
    (case lt2 => k_is)
    (case hv2 => decide +kernel)
    (case y3 => k_is)
    (case l3 => k_is)
    (case u3 => k_is)
    (case v3 => k_is)
    (case y4 => k_is)
    (case l4 => k_is)
    (case u4 => k_is)
    (case v4 => k_is)
    (case y5 => k_is)
    (case l5 => k_is)
    (case u5 => k_is)
    (case v5 => k_is)
    (case lt5 => k_is)
    (case hv5 => decide +kernel)
    (case y6 => k_is)
    (case l6 => k_is)
    (case u6 => k_is)
    (case v6 => k_is)
    (case y7 => k_is)
    (case l7 => k_is)
    (case u7 => k_is)
    (case v7 => k_is)
    (case y8 => k_is)
    (case l8 => k_is)
    (case u8 => k_is)
    (case v8 => k_is)
    (case y9 => k_is)
    (case l9 => k_is)
    (case u9 => k_is)
    (case v9 => k_is)
    (case y10 => k_is)
    (case l10 => k_is)
    (case u10 => k_is)
    (case v10 => k_is)
    (case y11 => k_is)
    (case l11 => k_is)
    (case u11 => k_is)
    (case v11 => k_is)
    (case y12 => k_is)
    (case l12 => k_is)
    (case u12 => k_is)
    (case v12 => k_is)
    (case y13 => k_is)
    (case l13 => k_is)
    (case u13 => k_is)
    (case v13 => k_is)
    (case y14 => k_is)
    (case l14 => k_is)
    (case u14 => k_is)
    (case v14 => k_is)
    (case y15 => k_is)
    (case l15 => k_is)
    (case u15 => k_is)
    (case v15 => k_is)
    (case y16 => k_is)
    (case l16 => k_is)
    (case u16 => k_is)
    (case v16 => k_is)
    (case y17 => k_is)
    (case l17 => k_is)
    (case u17 => k_is)
    (case v17 => k_is)
    (case y18 => k_is)
    (case l18 => k_is)
    (case u18 => k_is)
    (case v18 => k_is)
    (case y19 => k_is)
    (case l19 => k_is)
    (case u19 => k_is)
    (case v19 => k_is)
    (case y20 => k_is)
    (case l20 => k_is)
    (case u20 => k_is)
    (case v20 => k_is)
    (case z0 => k_is)
    (case z1 => k_is)
    (case z2 => k_is)
    (case z3 => k_is)
    (case z4 => k_is)
    (case z5 => k_is)
    (case z6 => k_is)
    (case z7 => k_is)
    (case z8 => k_is)
    (case z9 => k_is)
    (case z10 => k_is)
    (case z11 => k_is)
    (case z12 => k_is)
    (case z13 => k_is)
    (case z14 => k_is)
    (case z15 => k_is)
    (case z16 => k_is)
    (case z17 => k_is)
    (case z18 => k_is)
    (case z19 => k_is)
    (case gy0 => k_is)
    (case gc0 => decide +kernel)
    (case gy1 => k_is)
    (case gc1 => decide +kernel)
    (case yNotUsable => k_is)
    (case lCNotUsable => k_is)
    (case iCNotUsable => k_is)
    (case lfNotUsable => k_is)
    (case hcNotUsable => k_is)
    (case lcNotUsable => k_is)
    (case lvNotUsable => rfl)
    (case lfileNotUsable => decide +kernel)
    (case lccNotUsable => k_is)
    (case hbNotUsable => rfl)
    (case hpNotUsable => rfl)
    (case harNotUsable => decide +kernel)
    (case hlNotUsable => rfl)
    (case hsNotUsable => decide +kernel)
    (case hiNotUsable => kernel_rfl)
    (case htopNotUsable => kernel_rfl)
    (case hbdNotUsable => exact L2.Binds.all fun us hl => match us, hl with | [_, _, _], _ => rfl)
    (case yrr => k_is)
    (case lrr => k_is)
    (case urr => k_is)
    (case vrr => k_is)
    (case yss => k_is)
    (case lss => k_is)
    (case uss => k_is)
    (case vss => k_is)
    (case zi => k_is)
    (case yl => k_is)
    (case ty1 => k_is)
    (case ty2 => k_is)
    (case ty3 => k_is)
    (case td1 => k_is)
    (case td2 => k_is)
    (case td3 => k_is)
    (case td4 => k_is)
    (case td7 => k_is)
    (case td9 => k_is)
    (case th1 => kernel_rfl)
    (case th2 => kernel_rfl)
    (case th3 => kernel_rfl)
    (case y2_law_are_refused => k_is)
    (case l2_law_are_refused => k_is)
    (case hc2_law_are_refused => rfl)
    (case lc2_law_are_refused => k_is)
    (case lv2_law_are_refused => rfl)
    (case ln2_law_are_refused => kernel_rfl)
    (case hu_law_are_refused => decide +kernel)
