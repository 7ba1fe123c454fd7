import PyProof.Rows.All
import Wide.All
import OpenK.AllK
import Wide.FinOn
import HandS.ForMost
import HandS.TupAny
import HandS.Deep
import HandS.IsInst
import HandS.ForExc
import HandS.Style
import HandS.HeadWalk
import HandS.Walk
import HandS.Zip
import KE.GoesEnum
import HandS.Comp
import HandS.Small
import HandS.Strs
import HandS.SetBool
import HandS.SetKeys
import PyProof.AssignAttr
import HandS.DictComp
import HandS.Defaults
import HandS.HeadHook1
import HandS.HeadHook2
import HandS.HeadEnd
import HandS.Head0
import HandS.Head1
import HandS.Head2
import KE.KStateDown
import HandS.Ends
import HandS.Words
import PySem.Challenge.RW_ledelsewhere_k99_resume_anywhere
set_option linter.all false
set_option maxRecDepth 100000
/-! DL1: plain data D, stores of changing objects O, a small language (E, S), its interpreter. -/
namespace DL

inductive D where
  | non | bl (b : Bool) | int (i : Int) | str (s : List Nat) | tup (xs : List D) | ref (n : Nat)
  deriving Inhabited

inductive O where
  | lst (xs : List D) | ro (xs : List D) | dic (kvs : List (D × D)) | ins (c : Nat) (fs : List (Nat × D))

abbrev Sto := List O
abbrev Ev := List (Option D)
abbrev big : Nat := 16777216

/-- an operand: a value, or the items of a list that nobody else holds -/
inductive TV where
  | d (d : D) | l (xs : List D)

inductive R (α : Type) where
  | ok (a : α) (S : Sto) | exc (c : Nat) (fs : List D) (S : Sto) | stuck
def R.bind {α β : Type} : R α → (α → Sto → R β) → R β
  | .ok a S, k => k a S
  | .exc c fs S, _ => .exc c fs S
  | .stuck, _ => .stuck

/-! ### data -/
mutual
def eqv : D → D → Bool
  | .non, .non => true
  | .bl a, .bl b => a == b
  | .bl a, .int j => decide ((if a then 1 else 0) = j)
  | .int i, .bl b => decide (i = (if b then 1 else 0))
  | .int i, .int j => decide (i = j)
  | .str s, .str t => decide (s = t)
  | .tup xs, .tup ys => eqvs xs ys
  | _, _ => false
def eqvs : List D → List D → Bool
  | [], [] => true
  | x :: xs, y :: ys => eqv x y && eqvs xs ys
  | _, _ => false
end
mutual
/-- the very same -/
def same : D → D → Bool
  | .non, .non => true
  | .bl a, .bl b => a == b
  | .int i, .int j => decide (i = j)
  | .str s, .str t => decide (s = t)
  | .tup xs, .tup ys => sames xs ys
  | .ref a, .ref b => a == b
  | _, _ => false
def sames : List D → List D → Bool
  | [], [] => true
  | x :: xs, y :: ys => same x y && sames xs ys
  | _, _ => false
end
/-- data that may be compared at any depth (n: the depth allowed) -/
def okD : Nat → D → Bool
  | _, .non => true
  | _, .bl _ => true
  | _, .int _ => true
  | _, .str s => s.all fun c => Nat.blt c 128
  | n + 1, .tup xs => xs.all (okD n)
  | _, _ => false
/-- no tuple, no object -/
def flatD : D → Bool
  | .tup _ => false
  | .ref _ => false
  | _ => true

/-! ### the language -/
inductive Op2 where
  | add | sub | mul | fdiv | mod | pow | bor | band | bxor | eq | ne | lt | le | gt | ge | isin | notin | iss | isnot
inductive Ty where
  | int | bool | str | tuple | list | dict | cls (c : Nat)
inductive Bf where
  | len | int | bool | str | list | tuple | all | any | setlen | sorted
inductive Mt where
  | append | extend | pop | index | join | split | clear | get
inductive Tg where
  | nm (i : Nat) | tp (is : List Nat)

mutual
inductive E where
  | var (i : Nat)
  | con (d : D)
  | glo (g : Nat)
  | tup (es : Es)
  | new (a : A)
  | op2 (o : Op2) (a b : A)
  | neg (a : E)
  | nt (a : E)
  | and (a b : E)
  | or (a b : E)
  | ite (c : C) (a b : E)
  | chain (o o' : Op2) (a b c : E)
  | isN (n : Bool) (a : E)
  | isB (n b : Bool) (a : E)
  | isi (a : E) (t : Ty)
  | attr (a : E) (f : Nat)
  | item (a : A) (i : E)
  | slc (a : A) (lo hi : Oe)
  | bf (f : Bf) (a : A)
  | mnx (mx : Bool) (a b : E)
  | call (f : Nat) (es : Es)
  | meth (a : E) (m : Nat) (es : Es)
  | make (c : Nat) (es : Es)
  | callS (f : Nat) (es : Es) (g : List (Nat ⊕ D))
  | makeS (c : Nat) (es : Es) (g : List (Nat ⊕ D))
  | mt (m : Mt) (a : E) (b : A)
  | mt0 (m : Mt) (a : E)
  | dnew
  | dcomp (it : It) (t : Tg) (k v : E)
inductive Es where
  | nil | cons (e : E) (es : Es)
inductive Oe where
  | no | yes (e : E)
inductive Oc where
  | no | yes (c : C)
inductive C where
  | t (e : E) | not (c : C) | and (c d : C) | or (c d : C) | ite (c a b : C)
inductive A where
  | e (e : E) | lst (es : Es) | lc (it : It) (t : Tg) (c : Oc) (e : E) | lc2 (it : It) (t : Tg) (c : Oc) (it2 : It) (t2 : Tg) (c2 : Oc) (e : E)
  | sc (it : It) (t : Tg) (e : E)
inductive It where
  | a (a : A) | rng (lo hi : E) | rng3 (lo hi st : E) | enum (a : A) | zip (a b : A)
end

mutual
inductive S where
  | set (t : Tg) (e : E)
  | par (is : List Nat) (es : Es)
  | atr (o : E) (f : Nat) (e : E)
  | mix (ts : List (Nat ⊕ (Nat × Nat))) (e : E)
  | itm (o i e : E)
  | aug (i : Nat) (o : Op2) (e : E)
  | auga (o : E) (f : Nat) (op : Op2) (e : E)
  | ex (e : E)
  | ret (e : E)
  | retN
  | ife (c : C) (a b : Ss)
  | for (t : Tg) (it : It) (b : Ss)
  | whl (c : C) (b : Ss)
  | raise (c : Nat) (es : Es)
  | pass
  | brk
  | cont
  | no
inductive Ss where
  | nil | cons (s : S) (ss : Ss)
end

structure Fn where
  np : Nat
  nl : Nat
  kw : Bool
  body : Ss
structure Cls where
  flds : List Nat
  meths : List (Nat × Nat)
structure Tb where
  fns : List Fn
  cls : List Cls
  glo : List D

/-- names 0 .. 14 of every names' table -/
abbrev iInit : Nat := 0
abbrev iEq : Nat := 1
abbrev iLen : Nat := 2
abbrev iIn : Nat := 3
abbrev iGet : Nat := 4
abbrev iSet : Nat := 5
abbrev iIadd : Nat := 6
abbrev iOr : Nat := 7
abbrev iAnd : Nat := 8
abbrev iSub : Nat := 9
abbrev iXor : Nat := 10
abbrev iBool : Nat := 11

/-! ### operations on values -/
def lku {α : Type} : List (Nat × α) → Nat → Option α
  | [], _ => none
  | (k, v) :: r, n => if Nat.beq n k then some v else lku r n
def putF {α : Type} (f : Nat) (v : α) : List (Nat × α) → List (Nat × α)
  | [] => [(f, v)]
  | (k, x) :: r => if Nat.beq f k then (k, v) :: r else (k, x) :: putF f v r
def mth (T : Tb) (c m : Nat) : Option Nat := match T.cls[c]? with
  | some cd => lku cd.meths m
  | none => none

def fldOk (T : Tb) (c f : Nat) : Bool := match T.cls[c]? with
  | some cd => cd.flds.contains f
  | none => false

/-- the items of a list or a tuple -/
def its (S : Sto) : TV → Option (List D)
  | .l xs => some xs
  | .d (.tup xs) => some xs
  | .d (.ref n) => (match S[n]? with
    | some (.lst xs) => some xs
    | some (.ro xs) => some xs
    | _ => none)
  | _ => none
/-- the items of a list that may be changed -/
def lsts (S : Sto) : TV → Option (List D)
  | .l xs => some xs
  | .d (.ref n) => (match S[n]? with
    | some (.lst xs) => some xs
    | _ => none)
  | _ => none
def isTup : TV → Bool
  | .d (.tup _) => true
  | _ => false
def truth (S : Sto) : D → Option Bool
  | .non => some false
  | .bl b => some b
  | .int i => some (!decide (i = 0))
  | .str s => if s.length ≤ big then some (!s.isEmpty) else none
  | .tup xs => some (!xs.isEmpty)
  | .ref n => (match S[n]? with
    | some (.lst xs) => some (!xs.isEmpty)
    | _ => none)
/-- == -/
def eqT (S : Sto) : TV → TV → Option Bool
  | .d x, .d y => if flatD x && flatD y then some (eqv x y) else if okD 20 x && okD 20 y then some (eqv x y) else
      match lsts S (.d x), lsts S (.d y) with
      | some xs, some ys => if xs.all (okD 20) && ys.all (okD 20) then some (eqvs xs ys) else none
      | _, _ => none
  | x, y => match lsts S x, lsts S y with
    | some xs, some ys => if xs.all (okD 20) && ys.all (okD 20) then some (eqvs xs ys) else none
    | _, _ => none
/-- in: a list of anything comparable, a tuple of flat things, one sign in a text, a key of a dict -/
def dlk (kvs : List (D × D)) (d : D) : Option D := (kvs.find? fun kv => eqv kv.1 d).map (·.2)
def dput (k v : D) (kvs : List (D × D)) : List (D × D) :=
  if (kvs.any fun kv => eqv kv.1 k) = true then kvs.map (fun kv => if eqv kv.1 k = true then (kv.1, v) else kv) else kvs ++ [(k, v)]
def keyD : D → Bool
  | .int _ => true
  | .str _ => true
  | _ => false
def inT (S : Sto) (x : TV) (y : TV) : Option Bool := match x with
  | .l _ => none
  | .d x => match y with
    | .d (.str t) => (match x with
      | .str [c] => some (t.contains c)
      | _ => none)
    | .d (.tup ys) => if flatD x && ys.all flatD then some (ys.any fun z => eqv z x) else none
    | y => match lsts S y with
      | some ys => if flatD x && ys.all flatD then some (ys.any fun z => eqv z x) else if okD 20 x && ys.all (okD 20) then some (ys.any fun z => eqv z x) else none
      | none => none
def okB (o : Option Bool) (S : Sto) : R D := match o with
  | some b => .ok (.bl b) S
  | none => .stuck
def nokB (o : Option Bool) (S : Sto) : R D := match o with
  | some b => .ok (.bl (!b)) S
  | none => .stuck
def mulOk (i j : Int) : Bool := (decide (-18446744073709551616 < i) && decide (i < 18446744073709551616)) || (decide (-18446744073709551616 < j) && decide (j < 18446744073709551616))
def gd {α : Type} (b : Bool) (r : R α) : R α := match b with
  | true => r
  | false => .stuck
def int2 (a b : TV) (k : Int → Int → R D) : R D := match a, b with
  | .d (.int i), .d (.int j) => k i j
  | _, _ => .stuck
def bl2 (a b : TV) (k : Bool → Bool → R D) : R D := match a, b with
  | .d (.bl i), .d (.bl j) => k i j
  | _, _ => .stuck
def addT (S : Sto) (a b : TV) : R D := match a, b with
  | .d (.int i), .d (.int j) => .ok (.int (i + j)) S
  | .d (.str s), .d (.str t) => gd (Nat.ble (s.length + t.length) big) (.ok (.str (s ++ t)) S)
  | .d (.tup xs), .d (.tup ys) => gd (Nat.ble (xs.length + ys.length) big) (.ok (.tup (xs ++ ys)) S)
  | a, b => match lsts S a, lsts S b with
    | some xs, some ys => gd (Nat.ble (xs.length + ys.length) big) (.ok (.ref S.length) (S ++ [.lst (xs ++ ys)]))
    | _, _ => .stuck
abbrev Orc := Nat → List D → Sto → R D
/-- the class of an instance -/
def insC (S : Sto) : TV → Option Nat
  | .d (.ref n) => (match S[n]? with
    | some (.ins c _) => some c
    | _ => none)
  | _ => none
def tvD : TV → D
  | .d d => d
  | .l _ => .non
/-- the def behind a method of an instance -/
def mthT (T : Tb) (S : Sto) (x : D) (m : Nat) : Option Nat := match x with
  | .ref n => (match S[n]? with
    | some (.ins c fs) => (match lku fs m with
      | none => mth T c m
      | some _ => none)
    | _ => none)
  | _ => none
/-- an operator by the left one's own method -/
def own (T : Tb) (cl : Orc) (S : Sto) (m : Nat) (a b : TV) : R D := match insC S a, b with
  | some c, .d y => (match mth T c m with
    | some f => cl f [tvD a, y] S
    | none => .stuck)
  | _, _ => .stuck
def op2 (T : Tb) (cl : Orc) (o : Op2) (a b : TV) (S : Sto) : R D := match o with
  | .add => addT S a b
  | .sub => int2 a b fun i j => .ok (.int (i - j)) S
  | .mul => int2 a b fun i j => gd (mulOk i j) (.ok (.int (i * j)) S)
  | .fdiv => int2 a b fun i j => gd (decide (0 < j) && decide (j < 1073741824)) (.ok (.int (i / j)) S)
  | .mod => int2 a b fun i j => gd (decide (0 < j)) (.ok (.int (i % j)) S)
  | .pow => int2 a b fun i j => gd (decide (0 ≤ j) && decide (j ≤ 1000) && (decide (0 ≤ i) && decide (i < 1000))) (.ok (.int (i ^ j.toNat)) S)
  | .eq => okB (eqT S a b) S
  | .ne => nokB (eqT S a b) S
  | .lt => int2 a b fun i j => .ok (.bl (decide (i < j))) S
  | .le => int2 a b fun i j => .ok (.bl (decide (i ≤ j))) S
  | .gt => int2 a b fun i j => .ok (.bl (decide (j < i))) S
  | .ge => int2 a b fun i j => .ok (.bl (decide (j ≤ i))) S
  | .isin => okB (inT S a b) S
  | .notin => nokB (inT S a b) S
  | .iss => bl2 a b fun i j => .ok (.bl (decide (i = j))) S
  | .isnot => bl2 a b fun i j => .ok (.bl (!decide (i = j))) S
  | _ => .stuck
def tyT (T : Tb) (S : Sto) (t : Ty) : D → Option Bool
  | .non => some false
  | .bl _ => some (match t with | .bool => true | .int => true | _ => false)
  | .int _ => some (match t with | .int => true | _ => false)
  | .str _ => some (match t with | .str => true | _ => false)
  | .tup _ => some (match t with | .tuple => true | _ => false)
  | .ref n => match S[n]? with
    | some (.lst _) => some (match t with | .list => true | _ => false)
    | some (.dic _) => some (match t with | .dict => true | _ => false)
    | some (.ins c _) => (match T.cls[c]? with
      | some _ => some (match t with | .cls c' => Nat.beq c c' | _ => false)
      | none => none)
    | _ => none
def attrT (T : Tb) (S : Sto) (f : Nat) : D → R D
  | .ref n => (match S[n]? with
    | some (.ins c fs) => (match fldOk T c f, lku fs f with
      | true, some v => .ok v S
      | _, _ => .stuck)
    | _ => .stuck)
  | _ => .stuck
def optR {α : Type} (o : Option α) (S : Sto) : R α := match o with
  | some a => .ok a S
  | none => .stuck
def ixD (xs : List D) (i : D) (S : Sto) : R D := match i with
  | .int i => optR (L2.atI xs i) S
  | _ => .stuck
def ixDic (a : TV) (i : D) (S : Sto) : R D := match a with
  | .d (.ref n) => (match S[n]? with
    | some (.dic kvs) => gd (keyD i) (optR (dlk kvs i) S)
    | _ => .stuck)
  | _ => .stuck
def itemG (a : TV) (i : D) (S : Sto) : R D := match its S a with
  | some xs => ixD xs i S
  | none => ixDic a i S
def itemT (T : Tb) (cl : Orc) (a : TV) (i : D) (S : Sto) : R D := match a with
  | .d (.str s) => (match i with
    | .int i => gd (Nat.ble s.length big) (optR ((L2.atI s i).map fun c => .str [c]) S)
    | _ => .stuck)
  | a => itemG a i S
def cutL {α : Type} (xs : List α) (lo hi : Option Int) : List α := (xs.drop (HT.sIx xs.length 0 lo)).take (HT.sIx xs.length xs.length hi - HT.sIx xs.length 0 lo)
def slcT (a : TV) (lo hi : Option Int) (S : Sto) : R D := match a with
  | .d (.str s) => gd (Nat.ble s.length big) (.ok (.str (cutL s lo hi)) S)
  | .d (.tup xs) => .ok (.tup (cutL xs lo hi)) S
  | a => match its S a with
    | some xs => .ok (.ref S.length) (S ++ [.lst (cutL xs lo hi)])
    | none => .stuck
def blsD : List D → Option (List Bool)
  | [] => some []
  | .bl b :: r => (blsD r).map (b :: ·)
  | _ => none
def strsD : List D → Option (List (List Nat))
  | [] => some []
  | .str s :: r => (strsD r).map (s :: ·)
  | _ => none
/-- how many of them are not in seen, each counted once -/
def cntL : List (List Nat) → List (List Nat) → Nat
  | _, [] => 0
  | seen, x :: r => if seen.contains x then cntL seen r else cntL (x :: seen) r + 1
def setOk : TV → Bool
  | .l _ => true
  | .d (.tup _) => true
  | _ => false
def bfT (T : Tb) (cl : Orc) (f : Bf) (a : TV) (S : Sto) : R D := match f with
  | .len => (match a with
    | .d (.str s) => gd (Nat.ble s.length big) (.ok (.int s.length) S)
    | a => match its S a with
      | some xs => .ok (.int xs.length) S
      | none => .stuck)
  | .int => (match a with
    | .d (.int i) => .ok (.int i) S
    | .d (.bl b) => .ok (.int (if b then 1 else 0)) S
    | _ => .stuck)
  | .bool => (match a with
    | .d (.int i) => .ok (.bl (!decide (i = 0))) S
    | .d (.bl b) => .ok (.bl b) S
    | _ => .stuck)
  | .str => (match a with
    | .d (.int i) => gd (decide (0 ≤ i) && decide (i < 10)) (.ok (.str [48 + i.toNat]) S)
    | _ => .stuck)
  | .list => (match its S a with
    | some xs => .ok (.ref S.length) (S ++ [.lst xs])
    | none => .stuck)
  | .tuple => (match its S a with
    | some xs => .ok (.tup xs) S
    | none => .stuck)
  | .all => (match isTup a, (its S a).bind blsD with
    | false, some bs => .ok (.bl (bs.all id)) S
    | _, _ => .stuck)
  | .any => (match isTup a, (its S a).bind blsD with
    | false, some bs => .ok (.bl (bs.any id)) S
    | _, _ => .stuck)
  | .setlen => (match (its S a).bind strsD with
    | some ss => gd (setOk a && Nat.ble ss.length 1000) (.ok (.int (cntL [] ss)) S)
    | none => .stuck)
  | .sorted => .stuck
def ixOf (xs : List D) (d : D) : Option Nat := xs.findIdx? fun z => eqv z d
def joinL (sep : List Nat) : List (List Nat) → List Nat
  | [] => []
  | [x] => x
  | x :: y :: r => x ++ sep ++ joinL sep (y :: r)
def splitL (c : Nat) : List Nat → List (List Nat)
  | [] => [[]]
  | x :: r => if Nat.beq x c then [] :: splitL c r else (match splitL c r with
    | [] => [[x]]
    | w :: ws => (x :: w) :: ws)
/-- the receiver is of the method's kind -/
def rcv (S : Sto) (m : Mt) (a : D) : Bool := match m, a with
  | .join, .str _ => true
  | .split, .str _ => true
  | .append, .ref n => (lsts S (.d (.ref n))).isSome
  | .extend, .ref n => (lsts S (.d (.ref n))).isSome
  | .pop, .ref n => (lsts S (.d (.ref n))).isSome
  | .clear, .ref n => (lsts S (.d (.ref n))).isSome
  | .index, .ref n => (lsts S (.d (.ref n))).isSome
  | _, _ => false
def mtT (m : Mt) (a : D) (b : TV) (S : Sto) : R D := match m, a with
  | .append, .ref n => (match S[n]?, b with
    | some (.lst xs), .d y => gd (Nat.blt xs.length big) (.ok .non (S.set n (.lst (xs ++ [y]))))
    | _, _ => .stuck)
  | .extend, .ref n => (match S[n]?, lsts S b with
    | some (.lst xs), some ys => gd (Nat.ble (xs.length + ys.length) big) (.ok .non (S.set n (.lst (xs ++ ys))))
    | _, _ => .stuck)
  | .index, .ref n => (match S[n]?, b with
    | some (.lst xs), .d y => gd (okD 20 y && xs.all (okD 20)) (optR ((ixOf xs y).map fun j => .int j) S)
    | _, _ => .stuck)
  | .join, .str sep => (match (lsts S b).bind strsD with
    | some ss => gd (Nat.ble (joinL sep ss).length big && Nat.ble ss.length 100000) (.ok (.str (joinL sep ss)) S)
    | none => .stuck)
  | .split, .str s => (match b with
    | .d (.str [c]) => gd (Nat.ble s.length 100000) (.ok (.ref S.length) (S ++ [.lst ((splitL c s).map .str)]))
    | _ => .stuck)
  | _, _ => .stuck
def mt0T (m : Mt) (a : D) (S : Sto) : R D := match m, a with
  | .pop, .ref n => (match S[n]? with
    | some (.lst xs) => (match xs[xs.length - 1]? with
      | some y => .ok y (S.set n (.lst xs.dropLast))
      | none => .stuck)
    | _ => .stuck)
  | .clear, .ref n => (match S[n]? with
    | some (.lst _) => .ok .non (S.set n (.lst []))
    | _ => .stuck)
  | _, _ => .stuck

/-- the arguments in the parameters' order: the i-th that was written, or a default -/
def pick {α : Type} (z : α) (f : D → α) (xs : List α) : Nat ⊕ D → α
  | .inl i => xs.getD i z
  | .inr d => f d
/-! ### targets, turns -/
def setAll : List Nat → List D → Ev → Option Ev
  | [], [], Γ => some Γ
  | i :: is, d :: ds, Γ => setAll is ds (Γ.set i (some d))
  | _, _, _ => none
def asg (t : Tg) (d : D) (Γ : Ev) : Option Ev := match t with
  | .nm i => some (Γ.set i (some d))
  | .tp is => (match d with
    | .tup ds => setAll is ds Γ
    | _ => none)
def slots : Tg → List Nat
  | .nm i => [i]
  | .tp is => is
/-- the slots is forgotten -/
def clr (Γ : Ev) : List Nat → Ev
  | [] => Γ
  | i :: is => (clr Γ is).set i none
/-- what a loop walks: the items, and what must stand as it is meanwhile -/
structure Wk where
  xs : List D
  ks : List (Nat × List D)
def stays (S : Sto) : List (Nat × List D) → Bool
  | [] => true
  | (n, xs) :: r => (match S[n]? with
    | some (.lst ys) => sames ys xs
    | some (.ro ys) => sames ys xs
    | _ => false) && stays S r
def wkA (S : Sto) (a : TV) : Option Wk := match a with
  | .l xs => some ⟨xs, []⟩
  | .d (.tup xs) => some ⟨xs, []⟩
  | .d (.str s) => if s.length ≤ big then some ⟨s.map fun c => .str [c], []⟩ else none
  | .d (.ref n) => (match S[n]? with
    | some (.lst xs) => some ⟨xs, [(n, xs)]⟩
    | some (.ro xs) => some ⟨xs, [(n, xs)]⟩
    | _ => none)
  | _ => none
def rngL (lo : Int) : Nat → List D
  | 0 => []
  | n + 1 => .int lo :: rngL (lo + 1) n
def rngC (lo st : Int) : Nat → List D
  | 0 => []
  | n + 1 => .int lo :: rngC (lo + st) st n
def smallI (i : Int) : Bool := decide (-4611686018427387904 ≤ i) && decide (i < 4611686018427387904)
def enumL (i : Int) : List D → List D
  | [] => []
  | x :: r => .tup [.int i, x] :: enumL (i + 1) r
def zipL : List D → List D → List D
  | x :: xs, y :: ys => .tup [x, y] :: zipL xs ys
  | _, _ => []
def rngT (x y : D) (S : Sto) : R Wk := match x, y with
  | .int i, .int j => gd (smallI i && smallI j) (.ok ⟨rngL i (j - i).toNat, []⟩ S)
  | _, _ => .stuck
def rng3T (x y z : D) (S : Sto) : R Wk := match x, y, z with
  | .int i, .int j, .int 2 => gd (smallI i && smallI j) (.ok ⟨rngC i 2 ((j - i + 1) / 2).toNat, []⟩ S)
  | _, _, _ => .stuck
def enumT (x : TV) (S : Sto) : R Wk := match its S x, wkA S x with
  | some _, some w => .ok ⟨enumL 0 w.xs, w.ks⟩ S
  | _, _ => .stuck
def zipT (x y : TV) (S : Sto) : R Wk := gd (isTup x == isTup y) (match its S x, its S y, wkA S x, wkA S y with
  | some _, some _, some w, some w' => .ok ⟨zipL w.xs w'.xs, w.ks ++ w'.ks⟩ S
  | _, _, _, _ => .stuck)
/-- one clause of a comprehension -/
def compL (ks : List (Nat × List D)) (t : Tg) (f : Ev → Sto → R (List D)) (Γ : Ev) : List D → Sto → R (List D)
  | [], S => gd (stays S ks) (.ok [] S)
  | x :: xs, S => gd (stays S ks) (match asg t x Γ with
    | some Γ' => (match f Γ' S with
      | .ok ys S' => (match compL ks t f Γ xs S' with
        | .ok zs S'' => gd (Nat.ble (ys.length + zs.length) big) (.ok (ys ++ zs) S'')
        | _ => .stuck)
      | _ => .stuck)
    | none => .stuck)
def dcompL (ks : List (Nat × List D)) (t : Tg) (fk fv : Ev → Sto → R D) (Γ : Ev) : List D → List (D × D) → Sto → R (List (D × D))
  | [], kvs, S => gd (stays S ks) (.ok kvs S)
  | x :: xs, kvs, S => gd (stays S ks) (match asg t x Γ with
    | some Γ' => (match fk Γ' S with
      | .ok k S' => (match fv Γ' S' with
        | .ok v S'' => gd (keyD k && Nat.blt kvs.length 1000) (dcompL ks t fk fv Γ xs (dput k v kvs) S'')
        | _ => .stuck)
      | _ => .stuck)
    | none => .stuck)

/-! ### expressions -/
section
variable (T : Tb) (cl : Orc)
mutual
def ev : E → Ev → Sto → R D
  | .var i, Γ, S => (match Γ[i]? with
    | some (some d) => .ok d S
    | _ => .stuck)
  | .con d, _, S => .ok d S
  | .glo g, _, S => optR T.glo[g]? S
  | .tup es, Γ, S => (evs es Γ S).bind fun ds S => .ok (.tup ds) S
  | .new a, Γ, S => (evA a Γ S).bind fun v S => (match v with
    | .l xs => .ok (.ref S.length) (S ++ [.lst xs])
    | _ => .stuck)
  | .op2 o a b, Γ, S => (evA a Γ S).bind fun x S => (evA b Γ S).bind fun y S => op2 T cl o x y S
  | .neg a, Γ, S => (ev a Γ S).bind fun d S => (match d with
    | .int i => .ok (.int (-i)) S
    | _ => .stuck)
  | .nt a, Γ, S => (ev a Γ S).bind fun d S => (match d with
    | .bl b => .ok (.bl (!b)) S
    | _ => .stuck)
  | .and a b, Γ, S => (ev a Γ S).bind fun d S => (match d with
    | .bl true => ev b Γ S
    | .bl false => .ok (.bl false) S
    | _ => .stuck)
  | .or a b, Γ, S => (ev a Γ S).bind fun d S => (match d with
    | .bl true => .ok (.bl true) S
    | .bl false => ev b Γ S
    | _ => .stuck)
  | .ite c a b, Γ, S => (tst c Γ S).bind fun k S => (match k with
    | true => ev a Γ S
    | false => ev b Γ S)
  | .chain o o' a b c, Γ, S => (ev a Γ S).bind fun x S => (ev b Γ S).bind fun y S => (op2 T cl o (.d x) (.d y) S).bind fun k S => (match k with
    | .bl true => (ev c Γ S).bind fun z S => op2 T cl o' (.d y) (.d z) S
    | .bl false => .ok (.bl false) S
    | _ => .stuck)
  | .isN n a, Γ, S => (ev a Γ S).bind fun d S => .ok (.bl (match d with
    | .non => !n
    | _ => n)) S
  | .isB n b a, Γ, S => (ev a Γ S).bind fun d S => (match d with
    | .bl c => .ok (.bl (if n then !(c == b) else c == b)) S
    | _ => .stuck)
  | .isi a t, Γ, S => (ev a Γ S).bind fun d S => okB (tyT T S t d) S
  | .attr a f, Γ, S => (ev a Γ S).bind fun d S => attrT T S f d
  | .item a i, Γ, S => (evA a Γ S).bind fun x S => (ev i Γ S).bind fun y S => itemT T cl x y S
  | .slc a lo hi, Γ, S => (evA a Γ S).bind fun x S => (evO lo Γ S).bind fun l S => (evO hi Γ S).bind fun h S => slcT x l h S
  | .bf f a, Γ, S => (evA a Γ S).bind fun x S => bfT T cl f x S
  | .mnx mx a b, Γ, S => (ev a Γ S).bind fun x S => (ev b Γ S).bind fun y S => (match x, y with
    | .int i, .int j => .ok (.int (if mx then (if j > i then j else i) else (if j < i then j else i))) S
    | _, _ => .stuck)
  | .call f es, Γ, S => (evs es Γ S).bind fun ds S => cl f ds S
  | .meth a m es, Γ, S => (ev a Γ S).bind fun x S => (match mthT T S x m with
    | some f => (evs es Γ S).bind fun ds S => cl f (x :: ds) S
    | none => .stuck)
  | .make c es, Γ, S => (evs es Γ S).bind fun ds S => (match mth T c iInit with
    | some f => (cl f (.ref S.length :: ds) (S ++ [.ins c []])).bind fun d S' => (match d with
      | .non => .ok (.ref S.length) S'
      | _ => .stuck)
    | none => .stuck)
  | .callS f es g, Γ, S => (evs es Γ S).bind fun ds S => cl f (g.map (pick .non id ds)) S
  | .makeS c es g, Γ, S => (evs es Γ S).bind fun ds S => (match mth T c iInit with
    | some f => (cl f (.ref S.length :: g.map (pick .non id ds)) (S ++ [.ins c []])).bind fun d S' => (match d with
      | .non => .ok (.ref S.length) S'
      | _ => .stuck)
    | none => .stuck)
  | .mt m a b, Γ, S => (ev a Γ S).bind fun x S => gd (rcv S m x) ((evA b Γ S).bind fun y S => mtT m x y S)
  | .mt0 m a, Γ, S => (ev a Γ S).bind fun x S => gd (rcv S m x) (mt0T m x S)
  | .dnew, _, S => .ok (.ref S.length) (S ++ [.dic []])
  | .dcomp it t k v, Γ, S => (evI it Γ S).bind fun w S => (dcompL w.ks t (ev k) (ev v) Γ w.xs [] S).bind fun kvs S => .ok (.ref S.length) (S ++ [.dic kvs])
def evs : Es → Ev → Sto → R (List D)
  | .nil, _, S => .ok [] S
  | .cons e es, Γ, S => (ev e Γ S).bind fun d S => (evs es Γ S).bind fun ds S => .ok (d :: ds) S
def evO : Oe → Ev → Sto → R (Option Int)
  | .no, _, S => .ok none S
  | .yes e, Γ, S => (ev e Γ S).bind fun d S => (match d with
    | .int i => .ok (some i) S
    | _ => .stuck)
def tst : C → Ev → Sto → R Bool
  | .t e, Γ, S => (ev e Γ S).bind fun d S => optR (truth S d) S
  | .not c, Γ, S => (tst c Γ S).bind fun b S => .ok (!b) S
  | .and c d, Γ, S => (tst c Γ S).bind fun b S => (match b with
    | true => tst d Γ S
    | false => .ok false S)
  | .or c d, Γ, S => (tst c Γ S).bind fun b S => (match b with
    | true => .ok true S
    | false => tst d Γ S)
  | .ite c a b, Γ, S => (tst c Γ S).bind fun k S => (match k with
    | true => tst a Γ S
    | false => tst b Γ S)
def tstO : Oc → Ev → Sto → R Bool
  | .no, _, S => .ok true S
  | .yes c, Γ, S => tst c Γ S
def evA : A → Ev → Sto → R TV
  | .e e, Γ, S => (ev e Γ S).bind fun d S => .ok (.d d) S
  | .lst es, Γ, S => (evs es Γ S).bind fun ds S => .ok (.l ds) S
  | .lc it t c e, Γ, S => (evI it Γ S).bind fun w S => (compL w.ks t (fun Γ S => (tstO c Γ S).bind fun b S => (match b with
    | true => (ev e Γ S).bind fun d S => .ok [d] S
    | false => .ok [] S)) Γ w.xs S).bind fun ds S => .ok (.l ds) S
  | .lc2 it t c it2 t2 c2 e, Γ, S => (evI it Γ S).bind fun w S => (compL w.ks t (fun Γ S => (tstO c Γ S).bind fun b S => (match b with
    | true => (evI it2 Γ S).bind fun w2 S => compL w2.ks t2 (fun Γ S => (tstO c2 Γ S).bind fun b S => (match b with
      | true => (ev e Γ S).bind fun d S => .ok [d] S
      | false => .ok [] S)) Γ w2.xs S
    | false => .ok [] S)) (clr Γ (slots t2)) w.xs S).bind fun ds S => .ok (.l ds) S
  | .sc it t e, Γ, S => (evI it Γ S).bind fun w S => (compL w.ks t (fun Γ S => (ev e Γ S).bind fun d S => .ok [d] S) Γ w.xs S).bind fun ds S => .ok (.l ds) S
def evI : It → Ev → Sto → R Wk
  | .a a, Γ, S => (evA a Γ S).bind fun x S => optR (wkA S x) S
  | .rng lo hi, Γ, S => (ev lo Γ S).bind fun x S => (ev hi Γ S).bind fun y S => rngT x y S
  | .rng3 lo hi st, Γ, S => (ev lo Γ S).bind fun x S => (ev hi Γ S).bind fun y S => (ev st Γ S).bind fun z S => rng3T x y z S
  | .enum a, Γ, S => (evA a Γ S).bind fun x S => enumT x S
  | .zip a b, Γ, S => (evA a Γ S).bind fun x S => (evA b Γ S).bind fun y S => zipT x y S
end

/-! ### statements -/
inductive F where
  | nx (Γ : Ev) | rt (d : D) | bk (Γ : Ev) | ct (Γ : Ev)
inductive RS where
  | ok (f : F) (S : Sto) | exc (c : Nat) (fs : List D) (Γ : Ev) (S : Sto) | stuck
def RS.of {α : Type} (r : R α) (Γ : Ev) (k : α → Sto → RS) : RS := match r with
  | .ok a S => k a S
  | .exc c fs S => .exc c fs Γ S
  | .stuck => .stuck
def RS.nx (r : RS) (k : Ev → Sto → RS) : RS := match r with
  | .ok (.nx Γ) S => k Γ S
  | r => r
def RS.opt (o : Option Ev) (S : Sto) : RS := match o with
  | some Γ => .ok (.nx Γ) S
  | none => .stuck
def forL (ks : List (Nat × List D)) (t : Tg) (body : Ev → Sto → RS) : List D → Ev → Sto → RS
  | [], Γ, S => (match stays S ks with
    | true => .ok (.nx Γ) S
    | false => .stuck)
  | x :: xs, Γ, S => (match stays S ks with
    | true => (match asg t x Γ with
      | some Γ' => (match body Γ' S with
        | .ok (.nx Γ2) S2 => forL ks t body xs Γ2 S2
        | .ok (.ct Γ2) S2 => forL ks t body xs Γ2 S2
        | .ok (.bk Γ2) S2 => .ok (.nx Γ2) S2
        | r => r)
      | none => .stuck)
    | false => .stuck)
def whlL (c : Ev → Sto → R Bool) (body : Ev → Sto → RS) : Nat → Ev → Sto → RS
  | 0, _, _ => .stuck
  | n + 1, Γ, S => RS.of (c Γ S) Γ fun b S => (match b with
    | false => .ok (.nx Γ) S
    | true => (match body Γ S with
      | .ok (.nx Γ2) S2 => whlL c body n Γ2 S2
      | .ok (.ct Γ2) S2 => whlL c body n Γ2 S2
      | .ok (.bk Γ2) S2 => .ok (.nx Γ2) S2
      | r => r))
def setAttr (T : Tb) (S : Sto) (o : D) (f : Nat) (v : D) : Option Sto := match o with
  | .ref n => (match S[n]? with
    | some (.ins c fs) => if fs.length < 900 && fldOk T c f then some (S.set n (.ins c (putF f v fs))) else none
    | _ => none)
  | _ => none
def setItem (S : Sto) (o i v : D) : Option Sto := match o with
  | .ref n => (match S[n]? with
    | some (.lst xs) => (match i with
      | .int k => (L2.ixN xs.length k).map fun j => S.set n (.lst (xs.set j v))
      | _ => none)
    | some (.dic kvs) => if keyD i && Nat.blt kvs.length 1000000 then some (S.set n (.dic (dput i v kvs))) else none
    | _ => none)
  | _ => none
/-- several targets: names, attributes of names -/
def mixL (T : Tb) : List (Nat ⊕ (Nat × Nat)) → List D → Ev → Sto → RS
  | [], [], Γ, S => .ok (.nx Γ) S
  | .inl i :: ts, d :: ds, Γ, S => mixL T ts ds (Γ.set i (some d)) S
  | .inr (o, f) :: ts, d :: ds, Γ, S => (match Γ[o]? with
    | some (some x) => (match setAttr T S x f d with
      | some S' => mixL T ts ds Γ S'
      | none => .stuck)
    | _ => .stuck)
  | _, _, _, _ => .stuck
def oSto (o : Option Sto) (Γ : Ev) : RS := match o with
  | some S => .ok (.nx Γ) S
  | none => .stuck
def sameCls (S S2 : Sto) (x : D) : Bool := match x with
  | .ref n => (match S[n]?, S2[n]? with
    | some (.ins c _), some (.ins c2 _) => Nat.beq c c2
    | _, _ => false)
  | _ => false
def augT (o : Op2) (x y : D) (S : Sto) : R D := match o, x, y with
  | .add, .int i, .int j => .ok (.int (i + j)) S
  | .sub, .int i, .int j => .ok (.int (i - j)) S
  | _, _, _ => .stuck
/-- the turns a while may take -/
abbrev most : Nat := 1000000000
mutual
def exec : S → Ev → Sto → RS
  | .set t e, Γ, S => RS.of (ev T cl e Γ S) Γ fun d S => RS.opt (asg t d Γ) S
  | .par is es, Γ, S => RS.of (evs T cl es Γ S) Γ fun ds S => RS.opt (setAll is ds Γ) S
  | .atr o f e, Γ, S => RS.of (ev T cl e Γ S) Γ fun v S => RS.of (ev T cl o Γ S) Γ fun x S => oSto (setAttr T S x f v) Γ
  | .mix ts e, Γ, S => RS.of (ev T cl e Γ S) Γ fun v S => (match v with
    | .tup ds => mixL T ts ds Γ S
    | _ => .stuck)
  | .itm o i e, Γ, S => RS.of (ev T cl e Γ S) Γ fun v S => RS.of (ev T cl o Γ S) Γ fun x S => RS.of (ev T cl i Γ S) Γ fun y S => oSto (setItem S x y v) Γ
  | .aug i o e, Γ, S => (match Γ[i]? with
    | some (some x) => RS.of (ev T cl e Γ S) Γ fun y S => RS.of (augT o x y S) Γ fun z S => .ok (.nx (Γ.set i (some z))) S
    | _ => .stuck)
  | .auga o f op e, Γ, S => RS.of (ev T cl o Γ S) Γ fun x S => RS.of (attrT T S f x) Γ fun v S => RS.of (ev T cl e Γ S) Γ fun y S2 => RS.of (gd (sameCls S S2 x) (augT op v y S2)) Γ fun z S => oSto (setAttr T S x f z) Γ
  | .ex e, Γ, S => RS.of (ev T cl e Γ S) Γ fun _ S => .ok (.nx Γ) S
  | .ret e, Γ, S => RS.of (ev T cl e Γ S) Γ fun d S => .ok (.rt d) S
  | .retN, _, S => .ok (.rt .non) S
  | .ife c a b, Γ, S => RS.of (tst T cl c Γ S) Γ fun k S => (match k with
    | true => execs a Γ S
    | false => execs b Γ S)
  | .for t it b, Γ, S => RS.of (evI T cl it Γ S) Γ fun w S => forL w.ks t (execs b) w.xs Γ S
  | .whl c b, Γ, S => whlL (tst T cl c) (execs b) most Γ S
  | .raise c es, Γ, S => RS.of (evs T cl es Γ S) Γ fun ds S => .exc c ds Γ S
  | .pass, Γ, S => .ok (.nx Γ) S
  | .brk, Γ, S => .ok (.bk Γ) S
  | .cont, Γ, S => .ok (.ct Γ) S
  | .no, _, _ => .stuck
def execs : Ss → Ev → Sto → RS
  | .nil, Γ, S => .ok (.nx Γ) S
  | .cons s ss, Γ, S => RS.nx (exec s Γ S) fun Γ S => execs ss Γ S
end
/-- a def's body -/
def runF (fn : Fn) (ds : List D) (S : Sto) : R D := match execs T cl fn.body (ds.map some ++ List.replicate (fn.nl - ds.length) none) S with
  | .ok (.nx _) S => .ok .non S
  | .ok (.rt d) S => .ok d S
  | .exc c fs _ S => .exc c fs S
  | _ => .stuck
end
/-- a call, n levels deep at most -/
def callT (T : Tb) : Nat → Orc
  | 0, _, _, _ => .stuck
  | n + 1, f, ds, S => match T.fns[f]? with
    | some fn => (match Nat.beq ds.length fn.np with
      | true => runF T (callT T n) fn ds S
      | false => .stuck)
    | none => .stuck
end DL

set_option linter.all false
set_option maxRecDepth 100000
set_option maxHeartbeats 2000000
set_option autoImplicit false
/-! DL2: what the data stand for in the abstract heap; how it grows. -/
namespace DL
open PySem PySem.Spec PyProof.Rows L2

abbrev sOf (s : List Nat) : Str := ⟨s.toArray⟩
theorem sOf_inj {s t : List Nat} : sOf s = sOf t ↔ s = t := ⟨fun h => by injection h with h; simpa using congrArg Array.toList h, fun h => by rw [h]⟩
theorem sOf_len (s : List Nat) : (sOf s).length = s.length := by simp [Str.length]
theorem big_eq : big = sizeLine := by rw [sizeLine_eq]
/-- addresses and names -/
structure Nm where
  ca : Nat → Addr
  fa : Nat → Addr
  nn : Nat
  nm : Nat → Str
  xa : Nat → Addr
  xf : Nat → List Str

section
variable (K : PySem.W.Frag) (ρ : List Addr) (H : Hp)
mutual
inductive Rep : V → D → Prop
  | non : Rep .non .non
  | bl (b : Bool) : Rep (.bl b) (.bl b)
  | int (i : Int) : Rep (.int i) (.int i)
  | str (s : List Nat) : Rep (.str (sOf s)) (.str s)
  | tup {a : Addr} {vs : List V} {ds : List D} : SqT K H a vs → Reps vs ds → Rep (.ref a) (.tup ds)
  | ref {n : Nat} {a : Addr} : ρ[n]? = some a → Rep (.ref a) (.ref n)
inductive Reps : List V → List D → Prop
  | nil : Reps [] []
  | cons {v : V} {d : D} {vs : List V} {ds : List D} : Rep v d → Reps vs ds → Reps (v :: vs) (d :: ds)
end
/-- the fields of an instance -/
inductive Fs (N : Nm) : List (Str × V) → List (Nat × D) → Prop
  | nil : Fs N [] []
  | cons {f : Nat} {v : V} {d : D} {vs : List (Str × V)} {ds : List (Nat × D)} : f < N.nn → Rep K ρ H v d → Fs N vs ds → Fs N ((N.nm f, v) :: vs) ((f, d) :: ds)
def kD : Key → D
  | .inl i => .int i
  | .inr x => .str x.cps.toList
inductive Kvs : List (Key × V) → List (D × D) → Prop
  | nil : Kvs [] []
  | cons {k : Key} {v : V} {d : D} {vs : List (Key × V)} {ds : List (D × D)} : Rep K ρ H v d → Kvs vs ds → Kvs ((k, v) :: vs) ((kD k, d) :: ds)
def RepO (N : Nm) (a : Addr) : O → Prop
  | .lst xs => ∃ vs, H a = some (.lst vs) ∧ Reps K ρ H vs xs
  | .ro xs => ∃ o vs, H a = some (.frz o (.lst vs)) ∧ Reps K ρ H vs xs
  | .dic kvs => ∃ vs, H a = some (.dK vs) ∧ Kvs K ρ H vs kvs
  | .ins c fs => ∃ dx vs, H a = some (.ins (N.ca c) dx vs) ∧ H dx = some (.own a) ∧ Fs K ρ H N vs fs
structure MS (N : Nm) (S : Sto) : Prop where
  len : ρ.length = S.length
  nd : ρ.Nodup
  ob : ∀ (n : Nat) (a : Addr) (o : O), ρ[n]? = some a → S[n]? = some o → RepO K ρ H N a o
/-- a tuple is no object of the store -/
def TV.Rp (H0 : Hp) (v : V) : TV → Prop
  | .d x => Rep K ρ H v x
  | .l xs => ∃ a vs, v = .ref a ∧ H a = some (.lst vs) ∧ Reps K ρ H vs xs ∧ a ∉ ρ ∧ H0 a = none
def RelE (Γ : Ev) (σ : L2.St) : Prop := Γ.length = σ.length ∧ ∀ (i : Nat) (d : D), Γ[i]? = some (some d) → ∃ v, σ[i]? = some (some v) ∧ Rep K ρ H v d
end

/-- how the heap grows: ρ' names further objects; what is no object of the store stays -/
structure Ext (K : PySem.W.Frag) (ρ ρ' : List Addr) (H H' : Hp) : Prop where
  pre : ∀ (n : Nat) (a : Addr), ρ[n]? = some a → ρ'[n]? = some a
  new : ∀ a, a ∈ ρ' → a ∈ ρ ∨ H a = none
  keep : ∀ a o, H a = some o → a ∉ ρ → H' a = some o
  sq : ∀ a xs, SqT K H a xs → SqT K H' a xs
  alive : ∀ a o, H a = some o → ∃ o', H' a = some o'

section
variable {K : PySem.W.Frag} {ρ ρ' ρ'' : List Addr} {H H' H'' : Hp} {N : Nm}
theorem Ext.refl : Ext K ρ ρ H H := ⟨fun _ _ h => h, fun _ h => .inl h, fun _ _ h _ => h, fun _ _ h => h, fun _ o h => ⟨o, h⟩⟩
theorem Ext.trans (a : Ext K ρ ρ' H H') (b : Ext K ρ' ρ'' H' H'') : Ext K ρ ρ'' H H'' where
  pre := fun n x h => b.pre n x (a.pre n x h)
  new := fun x h => by
    rcases b.new x h with h | h
    · exact a.new x h
    · by_cases hx : x ∈ ρ
      · exact .inl hx
      · right
        cases e : H x with
        | none => rfl
        | some o => rw [a.keep x o e hx] at h; cases h
  keep := fun x o h hx => b.keep x o (a.keep x o h hx) fun q => by
    rcases a.new x q with q | q
    · exact hx q
    · rw [h] at q; cases q
  sq := fun x xs h => b.sq x xs (a.sq x xs h)
  alive := fun x o h => by
    obtain ⟨o1, h1⟩ := a.alive x o h
    exact b.alive x o1 h1
theorem Ext.noneH (e : Ext K ρ ρ' H H') {x : Addr} (h : H' x = none) : H x = none := by
  cases q : H x with
  | none => rfl
  | some o =>
    obtain ⟨o', h'⟩ := e.alive x o q
    rw [h] at h'; cases h'

mutual
theorem Rep.mg (pre : ∀ (n : Nat) (a : Addr), ρ[n]? = some a → ρ'[n]? = some a) (sq : ∀ a xs, SqT K H a xs → SqT K H' a xs) : ∀ {v : V} {d : D}, Rep K ρ H v d → Rep K ρ' H' v d
  | _, _, .non => .non
  | _, _, .bl b => .bl b
  | _, _, .int i => .int i
  | _, _, .str s => .str s
  | _, _, .tup q r => .tup (sq _ _ q) (Reps.mg pre sq r)
  | _, _, .ref h => .ref (pre _ _ h)
theorem Reps.mg (pre : ∀ (n : Nat) (a : Addr), ρ[n]? = some a → ρ'[n]? = some a) (sq : ∀ a xs, SqT K H a xs → SqT K H' a xs) : ∀ {vs : List V} {ds : List D}, Reps K ρ H vs ds → Reps K ρ' H' vs ds
  | _, _, .nil => .nil
  | _, _, .cons a b => .cons (Rep.mg pre sq a) (Reps.mg pre sq b)
end
theorem Rep.mono (e : Ext K ρ ρ' H H') {v : V} {d : D} (h : Rep K ρ H v d) : Rep K ρ' H' v d := h.mg e.pre e.sq
theorem Reps.mono (e : Ext K ρ ρ' H H') {vs : List V} {ds : List D} (h : Reps K ρ H vs ds) : Reps K ρ' H' vs ds := h.mg e.pre e.sq
theorem Fs.mg (pre : ∀ (n : Nat) (a : Addr), ρ[n]? = some a → ρ'[n]? = some a) (sq : ∀ a xs, SqT K H a xs → SqT K H' a xs) : ∀ {vs : List (Str × V)} {ds : List (Nat × D)}, Fs K ρ H N vs ds → Fs K ρ' H' N vs ds
  | _, _, .nil => .nil
  | _, _, .cons l a b => .cons l (a.mg pre sq) (Fs.mg pre sq b)
theorem Kvs.mg (pre : ∀ (n : Nat) (a : Addr), ρ[n]? = some a → ρ'[n]? = some a) (sq : ∀ a xs, SqT K H a xs → SqT K H' a xs) : ∀ {vs : List (Key × V)} {ds : List (D × D)}, Kvs K ρ H vs ds → Kvs K ρ' H' vs ds
  | _, _, .nil => .nil
  | _, _, .cons a b => .cons (a.mg pre sq) (Kvs.mg pre sq b)
theorem Fs.mono (e : Ext K ρ ρ' H H') : ∀ {vs : List (Str × V)} {ds : List (Nat × D)}, Fs K ρ H N vs ds → Fs K ρ' H' N vs ds
  | _, _, .nil => .nil
  | _, _, .cons l a b => .cons l (a.mono e) (Fs.mono e b)
theorem Fs.look (inj : ∀ f g, f < N.nn → g < N.nn → N.nm f = N.nm g → f = g) {f : Nat} (hf : f < N.nn) : ∀ {vs : List (Str × V)} {ds : List (Nat × D)}, Fs K ρ H N vs ds →
    match lku ds f with
    | some d => ∃ v, vs.lookup (N.nm f) = some v ∧ Rep K ρ H v d
    | none => vs.lookup (N.nm f) = none
  | _, _, .nil => rfl
  | _, _, .cons (f := g) (v := v) (d := d) (vs := vs) (ds := ds) l a b => by
    have ih := Fs.look inj hf b
    unfold lku
    by_cases e : f = g
    · subst e
      simp only [Nat.beq_refl, if_true]
      exact ⟨v, by simp [List.lookup], a⟩
    · have e1 : Nat.beq f g = false := by
        cases q : Nat.beq f g with
        | false => rfl
        | true => exact absurd (Nat.eq_of_beq_eq_true q) e
      have e2 : (N.nm f == N.nm g) = false := by
        rw [beq_eq_false_iff_ne]
        exact fun z => e (inj f g hf l z)
      rw [e1]
      simp only [List.lookup, e2, Bool.false_eq_true, if_false]
      exact ih
theorem Fs.put (inj : ∀ f g, f < N.nn → g < N.nn → N.nm f = N.nm g → f = g) {f : Nat} (hf : f < N.nn) {w : V} {x : D} (r : Rep K ρ H w x) : ∀ {vs : List (Str × V)} {ds : List (Nat × D)}, Fs K ρ H N vs ds → Fs K ρ H N (L2.putF (N.nm f) w vs) (putF f x ds)
  | _, _, .nil => .cons hf r .nil
  | _, _, .cons (f := g) l a b => by
    have ih := Fs.put inj hf r b
    unfold L2.putF putF
    by_cases e : f = g
    · subst e
      simp only [Nat.beq_refl, if_true]
      exact .cons l r b
    · have e1 : Nat.beq f g = false := by
        cases q : Nat.beq f g with
        | false => rfl
        | true => exact absurd (Nat.eq_of_beq_eq_true q) e
      have e2 : ¬ N.nm g = N.nm f := fun z => e (inj f g hf l z.symm)
      rw [e1, if_neg e2]
      exact .cons l a ih
theorem Fs.length : ∀ {vs : List (Str × V)} {ds : List (Nat × D)}, Fs K ρ H N vs ds → vs.length = ds.length
  | _, _, .nil => rfl
  | _, _, .cons _ _ b => congrArg Nat.succ (Fs.length b)
theorem Kvs.mono (e : Ext K ρ ρ' H H') : ∀ {vs : List (Key × V)} {ds : List (D × D)}, Kvs K ρ H vs ds → Kvs K ρ' H' vs ds
  | _, _, .nil => .nil
  | _, _, .cons a b => .cons (a.mono e) (Kvs.mono e b)
theorem RelE.mono {Γ : Ev} {σ : L2.St} (h : RelE K ρ H Γ σ) (e : Ext K ρ ρ' H H') : RelE K ρ' H' Γ σ := ⟨h.1, fun i d q => by
  obtain ⟨v, h1, h2⟩ := h.2 i d q
  exact ⟨v, h1, h2.mono e⟩⟩
theorem Reps.length : ∀ {vs : List V} {ds : List D}, Reps K ρ H vs ds → vs.length = ds.length
  | _, _, .nil => rfl
  | _, _, .cons _ b => congrArg Nat.succ (Reps.length b)
theorem Reps.get : ∀ {vs : List V} {ds : List D} {i : Nat} {d : D}, Reps K ρ H vs ds → ds[i]? = some d → ∃ v, vs[i]? = some v ∧ Rep K ρ H v d
  | _, _, _, _, .nil, h => by simp at h
  | _, _, 0, _, .cons a _, h => by simp at h; subst h; exact ⟨_, rfl, a⟩
  | _, _, i + 1, _, .cons _ b, h => by
    obtain ⟨v, h1, h2⟩ := Reps.get b (i := i) (by simpa using h)
    exact ⟨v, by simpa using h1, h2⟩
theorem Reps.getV : ∀ {vs : List V} {ds : List D} {i : Nat} {v : V}, Reps K ρ H vs ds → vs[i]? = some v → ∃ d, ds[i]? = some d ∧ Rep K ρ H v d
  | _, _, _, _, .nil, h => by simp at h
  | _, _, 0, _, .cons a _, h => by simp at h; subst h; exact ⟨_, rfl, a⟩
  | _, _, i + 1, _, .cons _ b, h => by
    obtain ⟨v, h1, h2⟩ := Reps.getV b (i := i) (by simpa using h)
    exact ⟨v, by simpa using h1, h2⟩
theorem Reps.append : ∀ {vs ws : List V} {ds es : List D}, Reps K ρ H vs ds → Reps K ρ H ws es → Reps K ρ H (vs ++ ws) (ds ++ es)
  | _, _, _, _, .nil, h => h
  | _, _, _, _, .cons a b, h => .cons a (Reps.append b h)
theorem Reps.set {v : V} {d : D} (r : Rep K ρ H v d) : ∀ {vs : List V} {ds : List D} (i : Nat), Reps K ρ H vs ds → Reps K ρ H (vs.set i v) (ds.set i d)
  | _, _, _, .nil => .nil
  | _, _, 0, .cons _ t => .cons r t
  | _, _, i + 1, .cons q t => .cons q (Reps.set r i t)
theorem Reps.take : ∀ {vs : List V} {ds : List D} (n : Nat), Reps K ρ H vs ds → Reps K ρ H (vs.take n) (ds.take n)
  | _, _, 0, _ => .nil
  | _, _, _ + 1, .nil => .nil
  | _, _, n + 1, .cons r t => .cons r (Reps.take n t)
theorem Reps.drop : ∀ {vs : List V} {ds : List D} (n : Nat), Reps K ρ H vs ds → Reps K ρ H (vs.drop n) (ds.drop n)
  | _, _, 0, r => r
  | _, _, _ + 1, .nil => .nil
  | _, _, n + 1, .cons _ t => Reps.drop n t
theorem Reps.dropLast {vs : List V} {ds : List D} (h : Reps K ρ H vs ds) : Reps K ρ H vs.dropLast ds.dropLast := by
  rw [List.dropLast_eq_take, List.dropLast_eq_take, ← h.length]
  exact h.take _
theorem Reps.nil_iff {vs : List V} {ds : List D} (r : Reps K ρ H vs ds) : vs = [] ↔ ds = [] := by cases r <;> simp
theorem Reps.isEmpty {vs : List V} {ds : List D} (r : Reps K ρ H vs ds) : vs.isEmpty = ds.isEmpty := by cases r <;> rfl

/-- an object of the store is no tuple -/
theorem RepO.notup {a : Addr} {o : O} (h : RepO K ρ H N a o) : ∃ ho, H a = some ho ∧ ∀ xs, ho ≠ .tup xs ∧ (∀ ob, ho ≠ .frz ob (.tup xs)) ∧ ∀ y, ho ≠ .own y := by
  cases o with
  | lst xs => obtain ⟨vs, e, _⟩ := h; exact ⟨_, e, fun _ => ⟨(nomatch ·), fun _ => (nomatch ·), fun _ => (nomatch ·)⟩⟩
  | ro xs => obtain ⟨o, vs, e, _⟩ := h; exact ⟨_, e, fun _ => ⟨(nomatch ·), ⟨fun _ q => (by injection q with _ q; nomatch q), fun _ => (nomatch ·)⟩⟩⟩
  | dic xs => obtain ⟨vs, e, _⟩ := h; exact ⟨_, e, fun _ => ⟨(nomatch ·), fun _ => (nomatch ·), fun _ => (nomatch ·)⟩⟩
  | ins c fs => obtain ⟨dx, vs, e, _⟩ := h; exact ⟨_, e, fun _ => ⟨(nomatch ·), fun _ => (nomatch ·), fun _ => (nomatch ·)⟩⟩
theorem MS.at {S : Sto} (m : MS K ρ H N S) {n : Nat} {o : O} (h : S[n]? = some o) : ∃ a, ρ[n]? = some a ∧ RepO K ρ H N a o := by
  have hn : n < S.length := (List.getElem?_eq_some_iff.mp h).1
  have hr : n < ρ.length := by rw [m.len]; exact hn
  exact ⟨ρ[n], by simp [hr], m.ob n _ o (by simp [hr]) h⟩
theorem MS.mem {S : Sto} (m : MS K ρ H N S) {a : Addr} (h : a ∈ ρ) : ∃ (n : Nat) (o : O), ρ[n]? = some a ∧ S[n]? = some o ∧ RepO K ρ H N a o := by
  obtain ⟨n, hn, e⟩ := List.mem_iff_getElem.mp h
  have hs : n < S.length := by rw [← m.len]; exact hn
  exact ⟨n, S[n], by simp [hn, e], by simp [hs], m.ob n a _ (by simp [hn, e]) (by simp [hs])⟩
theorem MS.someH {S : Sto} (m : MS K ρ H N S) {a : Addr} (h : a ∈ ρ) : ∃ ho, H a = some ho ∧ ∀ xs, ho ≠ .tup xs ∧ (∀ ob, ho ≠ .frz ob (.tup xs)) ∧ ∀ y, ho ≠ .own y := by
  obtain ⟨_, _, _, _, r⟩ := m.mem h
  exact r.notup
theorem MS.fresh {S : Sto} (m : MS K ρ H N S) {p : Addr} (h : H p = none) : p ∉ ρ := fun q => by
  obtain ⟨ho, e, _⟩ := m.someH q
  rw [h] at e; cases e

/-- something new that is no object of the store -/
theorem Ext.tmp {p : Addr} {o : HO} (h : H p = none) : Ext K ρ ρ H (upd H p o) where
  pre := fun _ _ h => h
  new := fun _ h => .inl h
  keep := fun a o' e _ => by rw [upd_ne (ne_of_none e h)]; exact e
  sq := fun a xs q => by
    rcases q with q | q
    · left
      rcases q with q | ⟨ob, q⟩
      · exact .inl (by rw [upd_ne (ne_of_none q h)]; exact q)
      · exact .inr ⟨ob, by rw [upd_ne (ne_of_none q h)]; exact q⟩
    · exact .inr q
  alive := fun a o' e => ⟨o', by rw [upd_ne (ne_of_none e h)]; exact e⟩
/-- a new object of the store -/
theorem Ext.push {p : Addr} {o : HO} (h : H p = none) : Ext K ρ (ρ ++ [p]) H (upd H p o) where
  pre := fun n a e => by rw [List.getElem?_append_left (List.getElem?_eq_some_iff.mp e).1]; exact e
  new := fun a q => by
    rcases List.mem_append.mp q with q | q
    · exact .inl q
    · right; rw [List.mem_singleton.mp q]; exact h
  keep := (Ext.tmp (K := K) (ρ := ρ) (o := o) h).keep
  sq := (Ext.tmp (K := K) (ρ := ρ) (o := o) h).sq
  alive := (Ext.tmp (K := K) (ρ := ρ) (o := o) h).alive
/-- an object of the store changed -/
theorem Ext.wr {S : Sto} (m : MS K ρ H N S) {a : Addr} {o : HO} (h : a ∈ ρ) : Ext K ρ ρ H (upd H a o) where
  pre := fun _ _ h => h
  new := fun _ h => .inl h
  keep := fun b o' e hb => by rw [upd_ne (fun (z : b = a) => hb (z ▸ h))]; exact e
  sq := fun b xs q => by
    obtain ⟨ho, e, hn⟩ := m.someH h
    rcases q with q | q
    · left
      rcases q with q | ⟨ob, q⟩
      · exact .inl (by rw [upd_ne (fun z => by subst z; rw [e] at q; exact (hn xs).1 (Option.some.inj q))]; exact q)
      · exact .inr ⟨ob, by rw [upd_ne (fun z => by subst z; rw [e] at q; exact (hn xs).2.1 ob (Option.some.inj q))]; exact q⟩
    · exact .inr q
  alive := fun b o' e => by
    by_cases hb : b = a
    · subst hb; exact ⟨o, upd_same⟩
    · exact ⟨o', by rw [upd_ne hb]; exact e⟩
/-- an object carried over -/
theorem RepO.mono {a : Addr} {o : O} (h : RepO K ρ H N a o) (e : Ext K ρ ρ' H H') (ha : H' a = H a) (hx : ∀ x, H x = some (.own a) → H' x = some (.own a)) : RepO K ρ' H' N a o := by
  cases o with
  | lst xs => obtain ⟨vs, q, r⟩ := h; exact ⟨vs, ha.trans q, r.mono e⟩
  | ro xs => obtain ⟨ob, vs, q, r⟩ := h; exact ⟨ob, vs, ha.trans q, r.mono e⟩
  | dic xs => obtain ⟨vs, q, r⟩ := h; exact ⟨vs, ha.trans q, r.mono e⟩
  | ins c fs => obtain ⟨dx, vs, q, d, r⟩ := h; exact ⟨dx, vs, ha.trans q, hx dx d, r.mono e⟩
theorem MS.tmp {S : Sto} (m : MS K ρ H N S) {p : Addr} {o : HO} (h : H p = none) : MS K ρ (upd H p o) N S where
  len := m.len
  nd := m.nd
  ob := fun n a ob h1 h2 => by
    have r := m.ob n a ob h1 h2
    obtain ⟨ho, e, _⟩ := r.notup
    exact r.mono (Ext.tmp h) (upd_ne (ne_of_none e h)) fun x q => by rw [upd_ne (ne_of_none q h)]; exact q
theorem MS.push {S : Sto} (m : MS K ρ H N S) {p : Addr} {o : HO} {ob : O} (h : H p = none) (r : RepO K (ρ ++ [p]) (upd H p o) N p ob) : MS K (ρ ++ [p]) (upd H p o) N (S ++ [ob]) where
  len := by simp [m.len]
  nd := by
    rw [List.nodup_append]
    exact ⟨m.nd, by simp, fun a ha b hb => by rw [List.mem_singleton.mp hb]; exact fun z => m.fresh h (z ▸ ha)⟩
  ob := fun n a ob' h1 h2 => by
    by_cases hn : n < ρ.length
    · rw [List.getElem?_append_left hn] at h1
      rw [List.getElem?_append_left (by rw [← m.len]; exact hn)] at h2
      have r := m.ob n a ob' h1 h2
      obtain ⟨ho, e, _⟩ := r.notup
      exact r.mono (Ext.push h) (upd_ne (ne_of_none e h)) fun x q => by rw [upd_ne (ne_of_none q h)]; exact q
    · rw [List.getElem?_append_right (by omega)] at h1
      rw [List.getElem?_append_right (by rw [← m.len]; omega)] at h2
      rw [← m.len] at h2
      cases k : n - ρ.length with
      | zero =>
        rw [k] at h1 h2
        simp at h1 h2
        subst h1 h2
        exact r
      | succ j => rw [k] at h1; simp at h1
theorem MS.set {S : Sto} (m : MS K ρ H N S) {n : Nat} {a : Addr} {o : HO} {ob : O} (h : ρ[n]? = some a) (r : RepO K ρ (upd H a o) N a ob) : MS K ρ (upd H a o) N (S.set n ob) where
  len := by simp [m.len]
  nd := m.nd
  ob := fun k b ob' h1 h2 => by
    by_cases hk : k = n
    · subst hk
      rw [h] at h1; cases h1
      have hl : k < S.length := by rw [← m.len]; exact (List.getElem?_eq_some_iff.mp h).1
      rw [List.getElem?_set_self hl] at h2
      cases h2
      exact r
    · rw [List.getElem?_set_ne (Ne.symm hk)] at h2
      have r' := m.ob k b ob' h1 h2
      have hne : b ≠ a := fun z => hk (by
        obtain ⟨l1, e1⟩ := List.getElem?_eq_some_iff.mp h1
        obtain ⟨l2, e2⟩ := List.getElem?_eq_some_iff.mp h
        exact (List.getElem_inj m.nd).mp (e1.trans (z.trans e2.symm)))
      obtain ⟨hoa, ea, hna⟩ := m.someH (List.mem_of_getElem? h)
      exact r'.mono (Ext.wr m (List.mem_of_getElem? h)) (upd_ne hne) fun x q => by
        rw [upd_ne (fun z => by subst z; rw [ea] at q; exact (hna []).2.2 b (Option.some.inj q))]; exact q
/-- an object that nobody holds becomes one of the store -/
theorem MS.adopt {S : Sto} (m : MS K ρ H N S) {a : Addr} {o : O} (h : a ∉ ρ) (r : RepO K (ρ ++ [a]) H N a o) : MS K (ρ ++ [a]) H N (S ++ [o]) where
  len := by simp [m.len]
  nd := by
    rw [List.nodup_append]
    exact ⟨m.nd, by simp, fun b hb c hc => by rw [List.mem_singleton.mp hc]; exact fun (z : b = a) => h (z ▸ hb)⟩
  ob := fun n b ob h1 h2 => by
    have pre : ∀ (n : Nat) (b : Addr), ρ[n]? = some b → (ρ ++ [a])[n]? = some b := fun n b e => by rw [List.getElem?_append_left (List.getElem?_eq_some_iff.mp e).1]; exact e
    by_cases hn : n < ρ.length
    · rw [List.getElem?_append_left hn] at h1
      rw [List.getElem?_append_left (by rw [← m.len]; exact hn)] at h2
      have r := m.ob n b ob h1 h2
      cases ob with
      | lst xs => obtain ⟨vs, q, r⟩ := r; exact ⟨vs, q, r.mg pre fun _ _ z => z⟩
      | ro xs => obtain ⟨ob, vs, q, r⟩ := r; exact ⟨ob, vs, q, r.mg pre fun _ _ z => z⟩
      | dic xs => obtain ⟨vs, q, r⟩ := r; exact ⟨vs, q, r.mg pre fun _ _ z => z⟩
      | ins c fs => obtain ⟨dx, vs, q, d, r⟩ := r; exact ⟨dx, vs, q, d, r.mg pre fun _ _ z => z⟩
    · rw [List.getElem?_append_right (by omega)] at h1
      rw [List.getElem?_append_right (by rw [← m.len]; omega)] at h2
      rw [← m.len] at h2
      cases k : n - ρ.length with
      | zero =>
        rw [k] at h1 h2
        simp at h1 h2
        subst h1 h2
        exact r
      | succ j => rw [k] at h1; simp at h1
theorem Ext.adopt {H0 : Hp} {ρ0 : List Addr} (e : Ext K ρ0 ρ H0 H) {a : Addr} (h : H0 a = none) : Ext K ρ0 (ρ ++ [a]) H0 H where
  pre := fun n b q => by
    have := e.pre n b q
    rw [List.getElem?_append_left (List.getElem?_eq_some_iff.mp this).1]; exact this
  new := fun b q => by
    rcases List.mem_append.mp q with q | q
    · exact e.new b q
    · right; rw [List.mem_singleton.mp q]; exact h
  keep := e.keep
  sq := e.sq
  alive := e.alive
theorem MS.lookup {S : Sto} (m : MS K ρ H N S) {n : Nat} {a : Addr} (h : ρ[n]? = some a) : ∃ o, S[n]? = some o ∧ RepO K ρ H N a o := by
  have hn : n < S.length := by rw [← m.len]; exact (List.getElem?_eq_some_iff.mp h).1
  exact ⟨S[n], by simp [hn], m.ob n a _ h (by simp [hn])⟩
theorem TV.Rp.mono {H0 : Hp} {v : V} {x : TV} (h : TV.Rp K ρ H H0 v x) (e : Ext K ρ ρ' H H') : TV.Rp K ρ' H' H0 v x := by
  cases x with
  | d d => exact Rep.mono e h
  | l xs =>
    obtain ⟨a, vs, rfl, h1, h2, h3, h4⟩ := h
    refine ⟨a, vs, rfl, e.keep a _ h1 h3, h2.mono e, fun q => ?_, h4⟩
    rcases e.new a q with q | q
    · exact h3 q
    · rw [h1] at q; cases q
/-- the items of a list, a tuple, as the layer reads them -/
theorem its_sq {S : Sto} (m : MS K ρ H N S) {H0 : Hp} {v : V} {x : TV} {xs : List D} (h : TV.Rp K ρ H H0 v x) (e : its S x = some xs) :
    ∃ a vs, v = .ref a ∧ Reps K ρ H vs xs ∧ ((isTup x = false ∧ SqL K H a vs) ∨ (isTup x = true ∧ SqT K H a vs)) := by
  cases x with
  | l ys =>
    obtain ⟨a, vs, rfl, h1, h2, _, _⟩ := h
    cases e
    exact ⟨a, vs, rfl, h2, .inl ⟨rfl, SqL.of h1⟩⟩
  | d d =>
    cases d with
    | tup ys =>
      cases e
      cases h with
      | tup q r => exact ⟨_, _, rfl, r, .inr ⟨rfl, q⟩⟩
    | ref n =>
      cases h with
      | ref hn =>
        obtain ⟨o, ho, r⟩ := m.lookup hn
        simp only [its, ho] at e
        cases o with
        | lst ys =>
          cases e
          obtain ⟨vs, h1, h2⟩ := r
          exact ⟨_, vs, rfl, h2, .inl ⟨rfl, SqL.of h1⟩⟩
        | ro ys =>
          cases e
          obtain ⟨ob, vs, h1, h2⟩ := r
          exact ⟨_, vs, rfl, h2, .inl ⟨rfl, .inl (.inr ⟨ob, h1⟩)⟩⟩
        | dic _ => cases e
        | ins _ _ => cases e
    | _ => cases e
theorem lsts_at {S : Sto} (m : MS K ρ H N S) {H0 : Hp} {v : V} {x : TV} {xs : List D} (h : TV.Rp K ρ H H0 v x) (e : lsts S x = some xs) : ∃ a vs, v = .ref a ∧ H a = some (.lst vs) ∧ Reps K ρ H vs xs := by
  cases x with
  | l ys =>
    obtain ⟨a, vs, rfl, h1, h2, _, _⟩ := h
    cases e
    exact ⟨a, vs, rfl, h1, h2⟩
  | d d =>
    cases d with
    | ref n =>
      cases h with
      | ref hn =>
        obtain ⟨o, ho, r⟩ := m.lookup hn
        simp only [lsts, ho] at e
        cases o with
        | lst ys =>
          cases e
          obtain ⟨vs, h1, h2⟩ := r
          exact ⟨_, vs, rfl, h1, h2⟩
        | _ => cases e
    | _ => cases e
end
end DL

set_option linter.all false
set_option maxRecDepth 100000
set_option maxHeartbeats 2000000
set_option autoImplicit false
/-! DL3: what a run of the interpreter asks of what follows; the operators on values. -/
namespace DL
open PySem PySem.Spec PyProof.Rows L2

abbrev PRel (α β : Type) := Hp → List Addr → Hp → β → α → Prop
section
variable (K : PySem.W.Frag) (N : Nm) (W : WX)
abbrev pD : PRel D V := fun _ ρ H v d => Rep K ρ H v d
abbrev pDs : PRel (List D) (List V) := fun _ ρ H v d => Reps K ρ H v d
abbrev pT : PRel TV V := fun H0 ρ H v x => TV.Rp K ρ H H0 v x
abbrev pQ (α : Type) : PRel α α := fun _ _ _ b a => b = a
/-- an exception: its class, its own dict -/
def RepX (ρ : List Addr) (H : Hp) (cls : Value) (dd : Option Addr) (c : Nat) (fs : List D) : Prop :=
  cls = .ref (N.xa c) ∧ fs.length = (N.xf c).length ∧ (fs ≠ [] → ∃ d vs, dd = some d ∧ d ∉ ρ ∧ H d = some (.xd vs) ∧ ∀ (i : Nat) (x : D), fs[i]? = some x → ∃ f v, (N.xf c)[i]? = some f ∧ vs.lookup f = some v ∧ Rep K ρ H v x)
def Pst {α β : Type} (P : PRel α β) (r : R α) (ρ : List Addr) (H : Hp) (σ : L2.St) (Q : β → Hp → Prop) : Prop := match r with
  | .ok a S => ∀ b H' ρ', Ext K ρ ρ' H H' → MS K ρ' H' N S → P H ρ' H' b a → Q b H'
  | .exc c fs S => ∀ cls dd H' ρ', Ext K ρ ρ' H H' → MS K ρ' H' N S → RepX K N ρ' H' cls dd c fs → W cls dd σ H'
  | .stuck => False
def tG {α β : Type} (P : PRel α β) (m : Ev → Sto → R α) : L2.St → Hp → (β → Hp → Prop) → Prop := fun σ H Q =>
  ∃ ρ Γ S, RelE K ρ H Γ σ ∧ MS K ρ H N S ∧ Pst K N W P (m Γ S) ρ H σ Q
end
/-- a relation that asks less of an elder start -/
def PM {α β : Type} (P : PRel α β) : Prop := ∀ (H H1 : Hp) (ρ : List Addr) (H' : Hp) (b : β) (a : α), (∀ x, H1 x = none → H x = none) → P H1 ρ H' b a → P H ρ H' b a
section
variable {K : PySem.W.Frag} {N : Nm} {W : WX}
theorem pmD : PM (pD K) := fun _ _ _ _ _ _ _ h => h
theorem pmDs : PM (pDs K) := fun _ _ _ _ _ _ _ h => h
theorem pmQ {α : Type} : PM (pQ α) := fun _ _ _ _ _ _ _ h => h
theorem pmT : PM (pT K) := fun H H1 ρ H' b a hn h => by
  cases a with
  | d x => exact h
  | l xs =>
    obtain ⟨a, vs, e, h1, h2, h3, h4⟩ := h
    exact ⟨a, vs, e, h1, h2, h3, hn a h4⟩
variable {α β : Type} {P : PRel α β} {ρ ρ1 : List Addr} {H H1 : Hp} {σ : L2.St} {Q : β → Hp → Prop}
theorem Pst.mono (hP : PM P) {r : R α} (h : Pst K N W P r ρ H σ Q) (e : Ext K ρ ρ1 H H1) : Pst K N W P r ρ1 H1 σ Q := by
  cases r with
  | ok a S => exact fun b H' ρ' e' ms p => h b H' ρ' (e.trans e') ms (hP _ _ _ _ _ _ (fun x q => e.noneH q) p)
  | exc c fs S => exact fun cls dd H' ρ' e' ms x => h cls dd H' ρ' (e.trans e') ms x
  | stuck => exact h
theorem Pst.imp {Q' : β → Hp → Prop} {r : R α} (h : Pst K N W P r ρ H σ Q) (i : ∀ b H', Q b H' → Q' b H') : Pst K N W P r ρ H σ Q' := by
  cases r with
  | ok a S => exact fun b H' ρ' e' ms p => i _ _ (h b H' ρ' e' ms p)
  | exc c fs S => exact h
  | stuck => exact h
/-- one step: m first, then the rest -/
theorem step {α' β' : Type} {P' : PRel α' β'} {m : Ev → Sto → R α'} {k : α' → Sto → R α} {Γ : Ev} {S : Sto} {Q' : β' → Hp → Prop} (hP : PM P) (rel : RelE K ρ H Γ σ) (ms : MS K ρ H N S)
    (h : Pst K N W P ((m Γ S).bind k) ρ H σ Q)
    (c : ∀ a S1 b H1 ρ1, m Γ S = .ok a S1 → Ext K ρ ρ1 H H1 → MS K ρ1 H1 N S1 → RelE K ρ1 H1 Γ σ → P' H ρ1 H1 b a → Pst K N W P (k a S1) ρ1 H1 σ Q → Q' b H1) : tG K N W P' m σ H Q' := by
  refine ⟨ρ, Γ, S, rel, ms, ?_⟩
  cases e : m Γ S with
  | ok a S1 =>
    rw [e] at h
    exact fun b H1 ρ1 e1 ms1 p => c a S1 b H1 ρ1 e e1 ms1 (rel.mono e1) p (Pst.mono hP h e1)
  | exc x fs S1 =>
    rw [e] at h
    exact h
  | stuck =>
    rw [e] at h
    exact h.elim
theorem Pst.now {a : α} {S : Sto} (h : Pst K N W P (.ok a S) ρ H σ Q) (ms : MS K ρ H N S) {b : β} (p : P H ρ H b a) : Q b H := h b H ρ .refl ms p
end
/-- weaker readings -/
theorem peImp {X : Cx} {e : Expr} {t t' : TE} (h : PE X e t) (i : ∀ σ H Q, t' σ H Q → t σ H Q) : PE X e t' := ⟨fun pins s σ H Q I q => h.run pins s σ H Q I (i σ H Q q)⟩
theorem ptImp {X : Cx} {e : Expr} {t t' : TT} (h : PT X e t) (i : ∀ σ H Q, t' σ H Q → t σ H Q) : PT X e t' := ⟨fun pins s σ H Q I q => h.run pins s σ H Q I (i σ H Q q)⟩
theorem paImp {X : Cx} {es : List Expr} {t t' : TA} (h : PA X es t) (i : ∀ σ H Q, t' σ H Q → t σ H Q) : PA X es t' := ⟨fun pos pins s σ H Q I q => h.run pos pins s σ H Q I (i σ H Q q)⟩
theorem poImp {X : Cx} {e : Option Expr} {t t' : TO} (h : PO X e t) (i : ∀ σ H Q, t' σ H Q → t σ H Q) : PO X e t' := ⟨fun pins s σ H Q I q => h.run pins s σ H Q I (i σ H Q q)⟩
/-- the rule may hang on where one stands -/
theorem peAt {X : Cx} {e : Expr} {t' : TE} (h : ∀ σ H Q, t' σ H Q → ∃ t, PE X e t ∧ t σ H Q) : PE X e t' := ⟨fun pins s σ H Q I q => by
  obtain ⟨t, p, q⟩ := h σ H Q q
  exact p.run pins s σ H Q I q⟩
theorem ptAt {X : Cx} {e : Expr} {t' : TT} (h : ∀ σ H Q, t' σ H Q → ∃ t, PT X e t ∧ t σ H Q) : PT X e t' := ⟨fun pins s σ H Q I q => by
  obtain ⟨t, p, q⟩ := h σ H Q q
  exact p.run pins s σ H Q I q⟩

/-! ### data as the library's data -/
mutual
def toP : D → PyData
  | .non => .none
  | .bl b => .bool b
  | .int i => .int i
  | .str s => .str (sOf s)
  | .tup xs => .tuple (toPs xs)
  | .ref _ => .none
def toPs : List D → List PyData
  | [] => []
  | x :: xs => toP x :: toPs xs
end
theorem strOk_of {s : List Nat} (h : (s.all fun c => Nat.blt c 128) = true) : PyData.strOk (sOf s) = true := by
  unfold PyData.strOk
  rw [Array.all_eq_true_iff_forall_mem]
  intro c hc
  have h1 := List.all_eq_true.mp h c (by simpa using hc)
  have h2 : c < 128 := Nat.le_of_ble_eq_true h1
  exact decide_eq_true (by omega)
theorem okD_tup {n : Nat} {xs : List D} (h : okD n (.tup xs) = true) : ∃ m, n = m + 1 ∧ xs.all (okD m) = true := by
  cases n with
  | zero => cases h
  | succ m => exact ⟨m, rfl, h⟩
section
variable {K : PySem.W.Frag} {ρ : List Addr} {H : Hp}
mutual
theorem toP_lay : ∀ (d : D) (n : Nat), okD n d = true → (toP d).canLay0 = true ∧ (toP d).depth ≤ n
  | .non, _, _ => ⟨rfl, Nat.zero_le _⟩
  | .bl _, _, _ => ⟨rfl, Nat.zero_le _⟩
  | .int _, _, _ => ⟨rfl, Nat.zero_le _⟩
  | .str s, n, h => ⟨strOk_of (by cases n <;> exact h), Nat.zero_le _⟩
  | .tup xs, n, h => by
    obtain ⟨m, rfl, hx⟩ := okD_tup h
    obtain ⟨h1, h2⟩ := toPs_lay xs m hx
    exact ⟨h1, Nat.succ_le_succ h2⟩
  | .ref _, n, h => by cases n <;> cases h
theorem toPs_lay : ∀ (xs : List D) (n : Nat), xs.all (okD n) = true → PyData.canLayAll0 (toPs xs) = true ∧ PyData.depthAll (toPs xs) ≤ n
  | [], _, _ => ⟨rfl, Nat.zero_le _⟩
  | x :: xs, n, h => by
    simp only [List.all_cons, Bool.and_eq_true] at h
    obtain ⟨a1, a2⟩ := toP_lay x n h.1
    obtain ⟨b1, b2⟩ := toPs_lay xs n h.2
    refine ⟨?_, ?_⟩
    · show ((toP x).canLay0 && PyData.canLayAll0 (toPs xs)) = true
      rw [a1, b1]; rfl
    · show max (toP x).depth (PyData.depthAll (toPs xs)) ≤ n
      exact Nat.max_le.mpr ⟨a2, b2⟩
end
theorem toP_shaped {d : D} (h : okD 20 d = true) : SeqAt.shaped (toP d) = true := by
  obtain ⟨h1, h2⟩ := toP_lay d 20 h
  unfold SeqAt.shaped
  rw [h1, decide_eq_true (by omega : (toP d).depth ≤ 64)]; rfl
theorem toPs_shaped {xs : List D} (h : xs.all (okD 20) = true) : SeqAt.shaped (.list (toPs xs)) = true := by
  obtain ⟨h1, h2⟩ := toPs_lay xs 20 h
  unfold SeqAt.shaped
  have e1 : (PyData.list (toPs xs)).canLay0 = true := h1
  have e2 : (PyData.list (toPs xs)).depth ≤ 64 := by
    show PyData.depthAll (toPs xs) + 1 ≤ 64
    omega
  rw [e1, decide_eq_true e2]; rfl
mutual
theorem Rep.dp : ∀ {v : V} {d : D} {n : Nat}, Rep K ρ H v d → okD n d = true → Dp K H v (toP d)
  | _, _, _, .non, _ => .non
  | _, _, _, .bl b, _ => .bl b
  | _, _, _, .int i, _ => .int i
  | _, _, _, .str s, _ => .str _
  | _, _, _, .tup q r, h => by
    obtain ⟨m, rfl, hx⟩ := okD_tup h
    exact .tup q (Reps.dp r hx)
  | _, _, n, .ref _, h => by cases n <;> cases h
theorem Reps.dp : ∀ {vs : List V} {ds : List D} {n : Nat}, Reps K ρ H vs ds → ds.all (okD n) = true → DpAll K H vs (toPs ds)
  | _, _, _, .nil, _ => .nil
  | _, _, _, .cons a b, h => by
    simp only [List.all_cons, Bool.and_eq_true] at h
    exact .cons (Rep.dp a h.1) (Reps.dp b h.2)
end
theorem beq_sOf (s t : List Nat) : ((sOf s) == (sOf t)) = decide (s = t) := by
  rw [Bool.eq_iff_iff]
  simp [sOf_inj]
mutual
theorem eqv_toP : ∀ (a b : D) (n m : Nat), okD n a = true → okD m b = true → PyData.eqv (toP a) (toP b) = eqv a b
  | .non, b, n, m, _, hb => by cases b <;> first | rfl | (cases m <;> cases hb)
  | .bl x, b, n, m, _, hb => by
    cases b with
    | int j => simp only [toP, PyData.eqv, eqv, Bool.beq_eq_decide_eq]
    | ref _ => cases m <;> cases hb
    | _ => rfl
  | .int i, b, n, m, _, hb => by
    cases b with
    | int j => simp only [toP, PyData.eqv, eqv, Bool.beq_eq_decide_eq]
    | bl j => simp only [toP, PyData.eqv, eqv, Bool.beq_eq_decide_eq]
    | ref _ => cases m <;> cases hb
    | _ => rfl
  | .str s, b, n, m, _, hb => by
    cases b with
    | str t => exact beq_sOf s t
    | ref _ => cases m <;> cases hb
    | _ => rfl
  | .tup xs, b, n, m, ha, hb => by
    cases b with
    | tup ys =>
      obtain ⟨n', rfl, hx⟩ := okD_tup ha
      obtain ⟨m', rfl, hy⟩ := okD_tup hb
      exact eqvs_toP xs ys n' m' hx hy
    | ref _ => cases m <;> cases hb
    | _ => rfl
  | .ref _, _, n, _, ha, _ => by cases n <;> cases ha
theorem eqvs_toP : ∀ (a b : List D) (n m : Nat), a.all (okD n) = true → b.all (okD m) = true → PyData.eqvAll (toPs a) (toPs b) = eqvs a b
  | [], [], _, _, _, _ => rfl
  | [], _ :: _, _, _, _, _ => rfl
  | _ :: _, [], _, _, _, _ => rfl
  | x :: xs, y :: ys, n, m, ha, hb => by
    simp only [List.all_cons, Bool.and_eq_true] at ha hb
    show (PyData.eqv (toP x) (toP y) && PyData.eqvAll (toPs xs) (toPs ys)) = (eqv x y && eqvs xs ys)
    rw [eqv_toP x y n m ha.1 hb.1, eqvs_toP xs ys n m ha.2 hb.2]
end
theorem any_toPs (d : D) (hd : okD 20 d = true) : ∀ xs : List D, xs.all (okD 20) = true → ((toPs xs).any fun z => PyData.eqv z (toP d)) = xs.any fun z => eqv z d
  | [], _ => rfl
  | x :: xs, h => by
    simp only [List.all_cons, Bool.and_eq_true] at h
    show (PyData.eqv (toP x) (toP d) || (toPs xs).any fun z => PyData.eqv z (toP d)) = (eqv x d || xs.any fun z => eqv z d)
    rw [eqv_toP x d 20 20 h.1 hd, any_toPs d hd xs h.2]
theorem flatV_of {v : V} {d : D} (h : Rep K ρ H v d) (f : flatD d = true) : flatV v = true := by
  cases h <;> first | rfl | cases f
theorem flatVs_of : ∀ {vs : List V} {ds : List D}, Reps K ρ H vs ds → ds.all flatD = true → vs.all flatV = true
  | _, _, .nil, _ => rfl
  | _, _, .cons a b, h => by
    simp only [List.all_cons, Bool.and_eq_true] at h
    simp only [List.all_cons, Bool.and_eq_true]
    exact ⟨flatV_of a h.1, flatVs_of b h.2⟩
theorem eqV_of {v w : V} {a b : D} (ha : Rep K ρ H v a) (hb : Rep K ρ H w b) (fa : flatD a = true) (fb : flatD b = true) : eqV v w = eqv a b := by
  cases ha <;> cases hb <;> first | cases fa | cases fb | rfl | skip
  all_goals simp [eqV, eqv, sOf_inj, Bool.beq_eq_decide_eq]
theorem inV_of {v : V} {d : D} (h : Rep K ρ H v d) (f : flatD d = true) : ∀ {vs : List V} {ds : List D}, Reps K ρ H vs ds → ds.all flatD = true → inV v vs = ds.any fun z => eqv z d
  | _, _, .nil, _ => rfl
  | _, _, .cons a b, g => by
    simp only [List.all_cons, Bool.and_eq_true] at g
    have e := inV_of h f b g.2
    unfold inV at e ⊢
    simp only [List.any_cons]
    rw [e, eqV_of a h g.1 f]
end
end DL

set_option linter.all false
set_option maxRecDepth 100000
set_option maxHeartbeats 2000000
set_option autoImplicit false
/-! DL4: the operators on values. -/
namespace DL
open PySem PySem.Spec PyProof.Rows L2

def bop : Op2 → Value → Value → Sem Value
  | .add => binaryOp .Add
  | .sub => binaryOp .Sub
  | .mul => binaryOp .Mult
  | .fdiv => binaryOp .FloorDiv
  | .mod => binaryOp .Mod
  | .pow => binaryOp .Pow
  | .bor => binaryOp .BitOr
  | .band => binaryOp .BitAnd
  | .bxor => binaryOp .BitXor
  | .eq => compareOp .Eq
  | .ne => compareOp .NotEq
  | .lt => compareOp .Lt
  | .le => compareOp .LtE
  | .gt => compareOp .Gt
  | .ge => compareOp .GtE
  | .isin => compareOp .In
  | .notin => compareOp .NotIn
  | .iss => compareOp .Is
  | .isnot => compareOp .IsNot
theorem gd_ok {α : Type} {b : Bool} {r : R α} (h : gd b r ≠ .stuck) : b = true := by
  cases b with
  | true => rfl
  | false => exact absurd rfl h
section
variable (X : Cx) (N : Nm) (W : WX)
/-- f does what the interpreter says (r0) of x and y -/
def OpOk (f : Value → Value → Sem Value) (x y : TV) (S : Sto) (r0 : R D) : Prop := r0 = .stuck ∨ ∃ r : R2, OpR X f r ∧
  ∀ ρ H σ Q v w H0 H1, MS X.K ρ H N S → TV.Rp X.K ρ H H0 v x → TV.Rp X.K ρ H H1 w y → Pst X.K N W (pD X.K) r0 ρ H σ Q → r v w H Q
end
section
variable {X : Cx} {N : Nm} {W : WX}
theorem OpOk.gd {f : Value → Value → Sem Value} {x y : TV} {S : Sto} {b : Bool} {r0 : R D} (h : b = true → OpOk X N W f x y S r0) : OpOk X N W f x y S (gd b r0) := by
  cases b with
  | true => exact h rfl
  | false => exact .inl rfl
theorem opInt {f : Value → Value → Sem Value} {x y : TV} {S : Sto} {k : Int → Int → R D} (h : ∀ i j, x = .d (.int i) → y = .d (.int j) → OpOk X N W f x y S (k i j)) : OpOk X N W f x y S (int2 x y k) := by
  cases x with
  | l _ => exact .inl rfl
  | d x => cases y with
    | l _ => cases x <;> exact .inl rfl
    | d y => cases x <;> cases y <;> first | exact .inl rfl | exact h _ _ rfl rfl
theorem opBl {f : Value → Value → Sem Value} {x y : TV} {S : Sto} {g : Bool → Bool → Bool} (h : OpR X f fun x y H Q => ∃ a b : Bool, x = .bl a ∧ y = .bl b ∧ Q (.bl (g a b)) H) : OpOk X N W f x y S (bl2 x y fun i j => .ok (.bl (g i j)) S) := by
  cases x with
  | l _ => exact .inl rfl
  | d x => cases y with
    | l _ => cases x <;> exact .inl rfl
    | d y =>
      cases x <;> cases y <;> first | exact .inl rfl | skip
      rename_i i j
      exact .inr ⟨_, h, fun ρ H σ Q v w H0 H1 ms rv rw p => by
        cases rv; cases rw
        exact ⟨i, j, rfl, rfl, p.now ms (.bl _)⟩⟩
theorem opI0 {f : Value → Value → Sem Value} {i j : Int} {S : Sto} {g : Int → Int → V} {d : D} (h : OpR X f (rI0 g)) (e : ∀ ρ H, Rep X.K ρ H (g i j) d) : OpOk X N W f (.d (.int i)) (.d (.int j)) S (.ok d S) :=
  .inr ⟨_, h, fun ρ H σ Q v w H0 H1 ms rv rw p => by
    cases rv; cases rw
    exact ⟨i, j, rfl, rfl, p.now ms (e ρ H)⟩⟩
theorem opI {f : Value → Value → Sem Value} {i j : Int} {S : Sto} {C : Int → Int → Prop} {g : Int → Int → V} {d : D} (h : OpR X f (rI C g)) (c : C i j) (e : ∀ ρ H, Rep X.K ρ H (g i j) d) : OpOk X N W f (.d (.int i)) (.d (.int j)) S (.ok d S) :=
  .inr ⟨_, h, fun ρ H σ Q v w H0 H1 ms rv rw p => by
    cases rv; cases rw
    exact ⟨i, j, rfl, rfl, c, p.now ms (e ρ H)⟩⟩
theorem sOf_append (s t : List Nat) : sOf s ++ sOf t = sOf (s ++ t) := by
  show (⟨s.toArray ++ t.toArray⟩ : Str) = ⟨(s ++ t).toArray⟩
  simp
theorem le_big {n : Nat} (h : Nat.ble n big = true) : n ≤ sizeLine := by
  rw [← big_eq]; exact Nat.le_of_ble_eq_true h
theorem add_ok (x y : TV) (S : Sto) : OpOk X N W (binaryOp .Add) x y S (addT S x y) := by
  have lists : ∀ {x y : TV} {xs ys : List D}, lsts S x = some xs → lsts S y = some ys → OpOk X N W (binaryOp .Add) x y S (gd (Nat.ble (xs.length + ys.length) big) (.ok (.ref S.length) (S ++ [.lst (xs ++ ys)]))) := fun {x y xs ys} h1 h2 => .gd fun hb => .inr ⟨_, op_cat, fun ρ H σ Q v w H0 H1 ms rv rw p => by
    obtain ⟨a, vs, rfl, ha, ra⟩ := lsts_at ms rv h1
    obtain ⟨b, ws, rfl, hb', rb⟩ := lsts_at ms rw h2
    refine ⟨a, b, vs, ws, rfl, rfl, ha, hb', by rw [ra.length, rb.length]; exact le_big hb, fun q hq => ?_⟩
    have e : Ext X.K ρ (ρ ++ [q]) H (upd H q (.lst (vs ++ ws))) := Ext.push hq
    refine p (.ref q) _ (ρ ++ [q]) e (ms.push hq ⟨_, upd_same, (ra.append rb).mono e⟩) (.ref ?_)
    rw [← ms.len]; simp⟩
  have other : ∀ (x y : TV), OpOk X N W (binaryOp .Add) x y S (match lsts S x, lsts S y with
      | some xs, some ys => gd (Nat.ble (xs.length + ys.length) big) (.ok (.ref S.length) (S ++ [.lst (xs ++ ys)]))
      | _, _ => .stuck) := fun x y => by
    cases h1 : lsts S x with
    | none => exact .inl rfl
    | some xs => cases h2 : lsts S y with
      | none => exact .inl rfl
      | some ys => exact lists h1 h2
  unfold addT
  split
  · exact opI0 op_add fun _ _ => .int _
  · rename_i s t
    refine .gd fun hb => .inr ⟨_, op_add_str, fun ρ H σ Q v w H0 H1 ms rv rw p => ?_⟩
    cases rv; cases rw
    refine ⟨_, _, rfl, rfl, by rw [sOf_len, sOf_len]; exact le_big hb, ?_⟩
    rw [sOf_append]
    exact p.now ms (.str _)
  · rename_i xs ys
    refine .gd fun hb => .inr ⟨_, op_catA, fun ρ H σ Q v w H0 H1 ms rv rw p => ?_⟩
    cases rv with
    | @tup a vs _ qa ra =>
      cases rw with
      | @tup b ws _ qb rb =>
        refine ⟨a, b, vs, ws, rfl, rfl, qa, qb, by rw [ra.length, rb.length]; exact le_big hb, fun e => ?_, fun _ e => ?_, fun _ _ q hq => ?_⟩
        · have e2 := ra.nil_iff.mp e
          subst e2
          exact p.now ms (.tup qb rb)
        · have e2 := rb.nil_iff.mp e
          subst e2
          rw [List.append_nil] at p
          exact p.now ms (.tup qa ra)
        · exact p (.ref q) _ ρ (Ext.tmp hq) (ms.tmp hq) (.tup (SqT.of upd_same) ((ra.append rb).mono (Ext.tmp hq)))
  · exact other _ _
theorem CMul_of {i j : Int} (h : mulOk i j = true) : CMul i j := by
  unfold mulOk at h
  simp only [Bool.or_eq_true, Bool.and_eq_true, decide_eq_true_eq] at h
  unfold CMul
  rcases h with h | h
  · exact .inl (by omega)
  · exact .inr (by omega)
/-- == -/
theorem eq_flat {x y : D} {S : Sto} (fx : flatD x = true) (fy : flatD y = true) (hu : X.A.units + 64 < cLine) :
    (∃ r : R2, OpR X (compareOp .Eq) r ∧ ∀ (ρ : List Addr) (H : Hp) (Q : VK) (v w : V), Rep X.K ρ H v x → Rep X.K ρ H w y → Q (.bl (eqv x y)) H → r v w H Q) ∧
    (∃ r : R2, OpR X (compareOp .NotEq) r ∧ ∀ (ρ : List Addr) (H : Hp) (Q : VK) (v w : V), Rep X.K ρ H v x → Rep X.K ρ H w y → Q (.bl (!eqv x y)) H → r v w H Q) := by
  by_cases hs : (match x, y with | .int _, .bl _ => true | .bl _, .int _ => true | _, _ => false) = true
  · refine ⟨⟨_, op_eqD hu, fun ρ H Q v w rv rw q => ?_⟩, ⟨_, op_neD hu, fun ρ H Q v w rv rw q => ?_⟩⟩
    all_goals
      cases x <;> cases y <;> first | (cases hs; done) | skip
      all_goals
        cases rv; cases rw
        first
          | exact ⟨_, _, .int _, .bl _, rfl, rfl, by simpa [PyData.eqv, eqv, Bool.beq_eq_decide_eq] using q⟩
          | exact ⟨_, _, .bl _, .int _, rfl, rfl, by simpa [PyData.eqv, eqv, Bool.beq_eq_decide_eq] using q⟩
  · refine ⟨⟨_, op_eq, fun ρ H Q v w rv rw q => ?_⟩, ⟨_, op_ne, fun ρ H Q v w rv rw q => ?_⟩⟩
    all_goals
      cases x <;> cases y <;> first | (exact absurd rfl hs) | (cases fx; done) | (cases fy; done) | skip
      all_goals
        cases rv; cases rw
        refine ⟨rfl, ?_⟩
        simpa [eqv, sOf_inj, Bool.beq_eq_decide_eq] using q
theorem eqT_ok (hu : X.A.units + 64 < cLine) (x y : TV) (S : Sto) (b : Bool) (h : eqT S x y = some b) :
    (∃ r : R2, OpR X (compareOp .Eq) r ∧ ∀ (ρ : List Addr) (H : Hp) (Q : VK) (v w : V) (H0 H1 : Hp), MS X.K ρ H N S → TV.Rp X.K ρ H H0 v x → TV.Rp X.K ρ H H1 w y → Q (.bl b) H → r v w H Q) ∧
    (∃ r : R2, OpR X (compareOp .NotEq) r ∧ ∀ (ρ : List Addr) (H : Hp) (Q : VK) (v w : V) (H0 H1 : Hp), MS X.K ρ H N S → TV.Rp X.K ρ H H0 v x → TV.Rp X.K ρ H H1 w y → Q (.bl (!b)) H → r v w H Q) := by
  have lists : ∀ {x y : TV} {xs ys : List D}, lsts S x = some xs → lsts S y = some ys → (if xs.all (okD 20) && ys.all (okD 20) then some (eqvs xs ys) else none) = some b →
      (∃ r : R2, OpR X (compareOp .Eq) r ∧ ∀ (ρ : List Addr) (H : Hp) (Q : VK) (v w : V) (H0 H1 : Hp), MS X.K ρ H N S → TV.Rp X.K ρ H H0 v x → TV.Rp X.K ρ H H1 w y → Q (.bl b) H → r v w H Q) ∧
      (∃ r : R2, OpR X (compareOp .NotEq) r ∧ ∀ (ρ : List Addr) (H : Hp) (Q : VK) (v w : V) (H0 H1 : Hp), MS X.K ρ H N S → TV.Rp X.K ρ H H0 v x → TV.Rp X.K ρ H H1 w y → Q (.bl (!b)) H → r v w H Q) := fun {x y xs ys} h1 h2 h => by
    split at h
    · rename_i ho
      rw [Bool.and_eq_true] at ho
      cases h
      refine ⟨⟨_, op_eqD hu, fun ρ H Q v w H0 H1 ms rv rw q => ?_⟩, ⟨_, op_neD hu, fun ρ H Q v w H0 H1 ms rv rw q => ?_⟩⟩
      all_goals
        obtain ⟨a, vs, rfl, ha, ra⟩ := lsts_at ms rv h1
        obtain ⟨c, ws, rfl, hc, rc⟩ := lsts_at ms rw h2
        refine ⟨_, _, .lst (SqL.of ha) (ra.dp ho.1), .lst (SqL.of hc) (rc.dp ho.2), toPs_shaped ho.1, toPs_shaped ho.2, ?_⟩
        show Q (.bl _) H
        first
          | (rw [show PyData.eqv (.list (toPs xs)) (.list (toPs ys)) = eqvs xs ys from eqvs_toP xs ys 20 20 ho.1 ho.2]; exact q)
    · cases h
  have lists2 : ∀ {x y : TV}, (match lsts S x, lsts S y with
      | some xs, some ys => if xs.all (okD 20) && ys.all (okD 20) then some (eqvs xs ys) else none
      | _, _ => none) = some b →
      (∃ r : R2, OpR X (compareOp .Eq) r ∧ ∀ (ρ : List Addr) (H : Hp) (Q : VK) (v w : V) (H0 H1 : Hp), MS X.K ρ H N S → TV.Rp X.K ρ H H0 v x → TV.Rp X.K ρ H H1 w y → Q (.bl b) H → r v w H Q) ∧
      (∃ r : R2, OpR X (compareOp .NotEq) r ∧ ∀ (ρ : List Addr) (H : Hp) (Q : VK) (v w : V) (H0 H1 : Hp), MS X.K ρ H N S → TV.Rp X.K ρ H H0 v x → TV.Rp X.K ρ H H1 w y → Q (.bl (!b)) H → r v w H Q) := fun {x y} h => by
    cases h1 : lsts S x with
    | none => rw [h1] at h; cases h
    | some xs => cases h2 : lsts S y with
      | none => rw [h1, h2] at h; cases h
      | some ys => rw [h1, h2] at h; exact lists h1 h2 h
  unfold eqT at h
  split at h
  · rename_i x y
    split at h
    · rename_i hf
      rw [Bool.and_eq_true] at hf
      cases h
      obtain ⟨⟨r, h1, h2⟩, ⟨r', h3, h4⟩⟩ := eq_flat (X := X) (S := S) hf.1 hf.2 hu
      exact ⟨⟨r, h1, fun ρ H Q v w _ _ _ rv rw q => h2 ρ H Q v w rv rw q⟩, ⟨r', h3, fun ρ H Q v w _ _ _ rv rw q => h4 ρ H Q v w rv rw q⟩⟩
    · split at h
      · rename_i ho
        rw [Bool.and_eq_true] at ho
        cases h
        refine ⟨⟨_, op_eqD hu, fun ρ H Q v w H0 H1 ms rv rw q => ?_⟩, ⟨_, op_neD hu, fun ρ H Q v w H0 H1 ms rv rw q => ?_⟩⟩
        all_goals
          refine ⟨_, _, Rep.dp rv ho.1, Rep.dp rw ho.2, toP_shaped ho.1, toP_shaped ho.2, ?_⟩
          rw [eqv_toP x y 20 20 ho.1 ho.2]
          exact q
      · exact lists2 h
  · exact lists2 h
/-- in -/
theorem inT_ok (hu : X.A.units + 65 < cLine) (x y : TV) (S : Sto) (b : Bool) (h : inT S x y = some b) :
    (∃ r : R2, OpR X (compareOp .In) r ∧ ∀ (ρ : List Addr) (H : Hp) (Q : VK) (v w : V) (H0 H1 : Hp), MS X.K ρ H N S → TV.Rp X.K ρ H H0 v x → TV.Rp X.K ρ H H1 w y → Q (.bl b) H → r v w H Q) ∧
    (∃ r : R2, OpR X (compareOp .NotIn) r ∧ ∀ (ρ : List Addr) (H : Hp) (Q : VK) (v w : V) (H0 H1 : Hp), MS X.K ρ H N S → TV.Rp X.K ρ H H0 v x → TV.Rp X.K ρ H H1 w y → Q (.bl (!b)) H → r v w H Q) := by
  cases x with
  | l _ => cases h
  | d x =>
    have lists : ∀ {y : TV} {ys : List D}, lsts S y = some ys → (if flatD x && ys.all flatD then some (ys.any fun z => eqv z x) else if okD 20 x && ys.all (okD 20) then some (ys.any fun z => eqv z x) else none) = some b →
        (∃ r : R2, OpR X (compareOp .In) r ∧ ∀ (ρ : List Addr) (H : Hp) (Q : VK) (v w : V) (H0 H1 : Hp), MS X.K ρ H N S → TV.Rp X.K ρ H H0 v (.d x) → TV.Rp X.K ρ H H1 w y → Q (.bl b) H → r v w H Q) ∧
        (∃ r : R2, OpR X (compareOp .NotIn) r ∧ ∀ (ρ : List Addr) (H : Hp) (Q : VK) (v w : V) (H0 H1 : Hp), MS X.K ρ H N S → TV.Rp X.K ρ H H0 v (.d x) → TV.Rp X.K ρ H H1 w y → Q (.bl (!b)) H → r v w H Q) := fun {y ys} h1 h => by
      split at h
      · rename_i hf
        rw [Bool.and_eq_true] at hf
        cases h
        refine ⟨⟨_, op_in_seq, fun ρ H Q v w H0 H1 ms rv rw q => ?_⟩, ⟨_, op_notIn_seq, fun ρ H Q v w H0 H1 ms rv rw q => ?_⟩⟩
        all_goals
          obtain ⟨c, ws, rfl, hc, rc⟩ := lsts_at ms rw h1
          refine ⟨c, ws, rfl, .inl (SqL.of hc), flatV_of rv hf.1, flatVs_of rc hf.2, ?_⟩
          rw [inV_of rv hf.1 rc hf.2]
          exact q
      · split at h
        · rename_i ho
          rw [Bool.and_eq_true] at ho
          cases h
          refine ⟨⟨_, op_inD hu, fun ρ H Q v w H0 H1 ms rv rw q => ?_⟩, ⟨_, op_notInD hu, fun ρ H Q v w H0 H1 ms rv rw q => ?_⟩⟩
          all_goals
            obtain ⟨c, ws, rfl, hc, rc⟩ := lsts_at ms rw h1
            refine ⟨_, _, Rep.dp rv ho.1, .lst (SqL.of hc) (rc.dp ho.2), toP_shaped ho.1, toPs_shaped ho.2, ?_⟩
            rw [any_toPs x ho.1 ys ho.2]
            exact q
        · cases h
    unfold inT at h
    simp only at h
    split at h
    · rename_i t
      split at h
      · rename_i c
        cases h
        refine ⟨⟨_, op_in_sign, fun ρ H Q v w H0 H1 ms rv rw q => ?_⟩, ⟨_, op_notIn_sign, fun ρ H Q v w H0 H1 ms rv rw q => ?_⟩⟩
        all_goals
          cases rv; cases rw
          refine ⟨c, sOf t, rfl, rfl, ?_⟩
          have e : decide (c ∈ (sOf t).cps.toList) = t.contains c := by
            rw [Bool.eq_iff_iff]; simp
          rw [e]
          exact q
      · cases h
    · rename_i ys
      split at h
      · rename_i hf
        rw [Bool.and_eq_true] at hf
        cases h
        refine ⟨⟨_, op_in_seq, fun ρ H Q v w H0 H1 ms rv rw q => ?_⟩, ⟨_, op_notIn_seq, fun ρ H Q v w H0 H1 ms rv rw q => ?_⟩⟩
        all_goals
          cases rw with
          | @tup a ws _ qa ra =>
            refine ⟨a, ws, rfl, .inr qa, flatV_of rv hf.1, flatVs_of ra hf.2, ?_⟩
            rw [inV_of rv hf.1 ra hf.2]
            exact q
      · cases h
    · rename_i y h1 h2
      split at h
      · rename_i ys hy
        exact lists hy h
      · cases h
theorem okB_ok {x y : TV} {S : Sto} {o : Option Bool} {f : Value → Value → Sem Value} (h : ∀ b, o = some b → ∃ r : R2, OpR X f r ∧ ∀ (ρ : List Addr) (H : Hp) (Q : VK) (v w : V) (H0 H1 : Hp), MS X.K ρ H N S → TV.Rp X.K ρ H H0 v x → TV.Rp X.K ρ H H1 w y → Q (.bl b) H → r v w H Q) : OpOk X N W f x y S (okB o S) := by
  cases o with
  | none => exact .inl rfl
  | some b =>
    obtain ⟨r, h1, h2⟩ := h b rfl
    exact .inr ⟨r, h1, fun ρ H σ Q v w H0 H1 ms rv rw p => h2 ρ H Q v w H0 H1 ms rv rw (p.now ms (.bl b))⟩
theorem nokB_ok {x y : TV} {S : Sto} {o : Option Bool} {f : Value → Value → Sem Value} (h : ∀ b, o = some b → ∃ r : R2, OpR X f r ∧ ∀ (ρ : List Addr) (H : Hp) (Q : VK) (v w : V) (H0 H1 : Hp), MS X.K ρ H N S → TV.Rp X.K ρ H H0 v x → TV.Rp X.K ρ H H1 w y → Q (.bl (!b)) H → r v w H Q) : OpOk X N W f x y S (nokB o S) := by
  cases o with
  | none => exact .inl rfl
  | some b =>
    obtain ⟨r, h1, h2⟩ := h b rfl
    exact .inr ⟨r, h1, fun ρ H σ Q v w H0 H1 ms rv rw p => h2 ρ H Q v w H0 H1 ms rv rw (p.now ms (.bl (!b)))⟩
theorem op2_ok {k : Nat} {T : Tb} {cl : Orc} (hr : Room k X.A) (o : Op2) (x y : TV) (S : Sto) : OpOk X N W (bop o) x y S (op2 T cl o x y S) := by
  have hu : X.A.units + 64 < cLine := hr.units
  have hu5 : X.A.units + 65 < cLine := by have := hr.un; omega
  cases o with
  | add => exact add_ok x y S
  | sub => exact opInt fun i j e1 e2 => by subst e1 e2; exact opI0 op_sub fun _ _ => .int _
  | mul => exact opInt fun i j e1 e2 => by subst e1 e2; exact .gd fun h => opI op_mul (CMul_of h) fun _ _ => .int _
  | fdiv =>
      refine opInt fun i j e1 e2 => ?_
      subst e1 e2
      refine .gd fun h => ?_
      simp only [Bool.and_eq_true, decide_eq_true_eq] at h
      exact opI op_fdiv ⟨h.1, h.2⟩ fun _ _ => .int _
  | mod =>
      refine opInt fun i j e1 e2 => ?_
      subst e1 e2
      refine .gd fun h => ?_
      simp only [decide_eq_true_eq] at h
      exact opI op_mod h fun _ _ => .int _
  | pow =>
      refine opInt fun i j e1 e2 => ?_
      subst e1 e2
      refine .gd fun h => ?_
      simp only [Bool.and_eq_true, decide_eq_true_eq] at h
      exact opI op_pow ⟨h.1.1, by omega, by omega⟩ fun _ _ => .int _
  | eq => exact okB_ok fun b h => (eqT_ok hu x y S b h).1
  | ne => exact nokB_ok fun b h => (eqT_ok hu x y S b h).2
  | lt => exact opInt fun i j e1 e2 => by subst e1 e2; exact opI0 op_lt fun _ _ => .bl _
  | le => exact opInt fun i j e1 e2 => by subst e1 e2; exact opI0 op_le fun _ _ => .bl _
  | gt => exact opInt fun i j e1 e2 => by subst e1 e2; exact opI0 op_gt fun _ _ => .bl _
  | ge => exact opInt fun i j e1 e2 => by subst e1 e2; exact opI0 op_ge fun _ _ => .bl _
  | isin => exact okB_ok fun b h => (inT_ok hu5 x y S b h).1
  | notin => exact nokB_ok fun b h => (inT_ok hu5 x y S b h).2
  | iss => exact opBl (g := fun i j => decide (i = j)) op_isBl
  | isnot => exact opBl (g := fun i j => !decide (i = j)) op_notBl
  | bor => exact .inl rfl
  | band => exact .inl rfl
  | bxor => exact .inl rfl
end
end DL

set_option linter.all false
set_option maxRecDepth 100000
set_option maxHeartbeats 2000000
set_option autoImplicit false
/-! DL5: where one stands; names, constants, displays, operators. -/
namespace DL
open PySem PySem.Spec PyProof.Rows L2

structure CC where
  shp : List (Nat × Nat × List Str × List (Nat ⊕ D))
  nms : List Str
  fns : List (Str × Nat)
  cls : List (Str × Nat)
  glo : List (Str × Nat)
  exc : List (Str × Nat)
def bltns : List Str := ["len", "int", "bool", "str", "list", "tuple", "all", "any", "set", "isinstance", "range", "enumerate", "zip", "min", "max", "sorted", "dict"]
def tyNames : List String := ["NoneType", "bool", "int", "str", "tuple", "list", "dict"]
structure ClsOk (K : PySem.W.Frag) (C : Addr) : Prop where
  cl : L2.Cls K C
  ha : PySem.W.findIn K (.ref C) "__class__" = some (some (.builtin "object.__class__"))
  hn : PySem.W.specialIn K (.builtin "object.__class__") "__get__" = some (some (.builtin "getset_descriptor.__get__"))
  ht : PySem.W.takesIn K (.builtin "object.__class__") = some true
  hm : PySem.W.mroIn K C (.type "object") = some true
structure KOk (cc : CC) (T : Tb) (N : Nm) (K : PySem.W.Frag) (mg : Str → Option Value) : Prop where
  inj : ∀ f g, f < N.nn → g < N.nn → N.nm f = N.nm g → f = g
  nms : ∀ (f : Nat) (x : Str), cc.nms[f]? = some x → f < N.nn ∧ N.nm f = x
  free : ∀ x ∈ bltns, mg x = none
  fn : ∀ x f, cc.fns.lookup x = some f → mg x = some (.ref (N.fa f)) ∧ PySem.W.keepIn K (.ref (N.fa f)) = true
  cln : ∀ x c, cc.cls.lookup x = some c → mg x = some (.ref (N.ca c)) ∧ ∃ cd, T.cls[c]? = some cd
  glo : ∀ x g, cc.glo.lookup x = some g → ∃ u v d, mg x = some u ∧ RelV v u ∧ T.glo[g]? = some d ∧ ∀ ρ H, Rep K ρ H v d
  cls : ∀ (c : Nat) (cd : Cls), T.cls[c]? = some cd → ClsOk K (N.ca c)
  fld : ∀ (c : Nat) (cd : Cls) (f : Nat), T.cls[c]? = some cd → f ∈ cd.flds → NoAttr K (N.ca c) (N.nm f)
  meth : ∀ (c : Nat) (cd : Cls) (m f : Nat), T.cls[c]? = some cd → lku cd.meths m = some f → Meth K (N.ca c) (N.nm m) (N.fa f)
  mkr : ∀ (c : Nat) (cd : Cls) (f : Nat), T.cls[c]? = some cd → lku cd.meths iInit = some f → Mk K (N.ca c) (N.fa f)
  isiC : ∀ (c c' : Nat) (cd cd' : Cls), T.cls[c]? = some cd → T.cls[c']? = some cd' → PySem.W.kitOne K (.ref (N.ca c)) (.ref (N.ca c')) = some (Nat.beq c c')
  isiT : ∀ (c : Nat) (cd : Cls) (t : String), T.cls[c]? = some cd → t ∈ tyNames → PySem.W.kitOne K (.ref (N.ca c)) (.type t) = some false
  isiO : ∀ (c : Nat) (cd : Cls) (t : String), T.cls[c]? = some cd → t ∈ tyNames → PySem.W.kitOne K (.type t) (.ref (N.ca c)) = some false
/-- what a def promises -/
def spD (N : Nm) (K : PySem.W.Frag) (cl : Orc) (f np : Nat) : Sp := fun vs H Q E => vs.length = np ∧ ∃ ρ ds S, Reps K ρ H vs ds ∧ MS K ρ H N S ∧ Pst K N (fun c d _ H' => E c d H') (pD K) (cl f ds S) ρ H [] Q
/-- n positional arguments and keywords ks are bound so -/
def SB (K : PySem.W.Frag) (fd : FuncData) (ps : List Str) (fst : Nat) (n : Nat) (ks : List Str) (g : List (Nat ⊕ D)) : Prop :=
  g.length + fst = ps.length ∧ (∀ i, Sum.inl i ∈ g → i < n + ks.length) ∧ ∃ (dv : D → V) (du : D → Value), (∀ d, Sum.inr d ∈ g → RelV (dv d) (du d) ∧ ∀ ρ H, Rep K ρ H (dv d) d) ∧
    ∀ (s : Shared) (fs us ws : List Value), K.In s.heap → fs.length = fst → us.length = n → ws.length = ks.length → BindsTo s fd ⟨fs ++ us, ks.zip ws⟩ (ps.zip (fs ++ g.map (pick .none du (us ++ ws))))
structure Cok (cc : CC) (T : Tb) (cl : Orc) (N : Nm) (W : WX) (k : Nat) (X : Cx) : Prop where
  calm : X.calm = true
  nd : X.N.Nodup
  rm1 : Room (k + 1) X.A
  ko : KOk cc T N X.K X.mg
  tk : Takes X W
  hcl : ∀ f ds S, cl f ds S ≠ .stuck → ∃ fn, T.fns[f]? = some fn ∧ ds.length = fn.np
  mok : ∀ (c : Nat) (cd : Cls) (m f : Nat), T.cls[c]? = some cd → lku cd.meths m = some f → ∃ fn, T.fns[f]? = some fn ∧ (m ≠ iInit → fn.kw = false)
  fns : ∀ (f : Nat) (fn : Fn), T.fns[f]? = some fn → ∃ fd ps, ps.length = fn.np ∧ FnOk X.prog X.w X.K X.mg X.base (L2.CX X.prog X.w) k (N.fa f) fd ps (spD N X.K cl f fn.np) ∧ (fn.kw = false → Binds X.K fd ps []) ∧
    (∀ n ks g, (f, n, ks, g) ∈ cc.shp → SB X.K fd ps (fn.np - g.length) n ks g)

section
variable {cc : CC} {T : Tb} {cl : Orc} {N : Nm} {W : WX} {k : Nat} {X : Cx}
theorem Cok.rm (C : Cok cc T cl N W k X) : Room k X.A := C.rm1.mono (Nat.le_succ k)
abbrev SE (N : Nm) (W : WX) (X : Cx) (e : Expr) (m : Ev → Sto → R D) : Prop := PE X e (tG X.K N W (pD X.K) m)
abbrev SA (N : Nm) (W : WX) (X : Cx) (e : Expr) (m : Ev → Sto → R TV) : Prop := PE X e (tG X.K N W (pT X.K) m)
abbrev SC (N : Nm) (W : WX) (X : Cx) (e : Expr) (m : Ev → Sto → R Bool) : Prop := PT X e (tG X.K N W (pQ Bool) m)
abbrev SEs (N : Nm) (W : WX) (X : Cx) (es : List Expr) (m : Ev → Sto → R (List D)) : Prop := PA X es (tG X.K N W (pDs X.K) m)
abbrev SO (N : Nm) (W : WX) (X : Cx) (e : Option Expr) (m : Ev → Sto → R (Option Int)) : Prop := PO X e (tG X.K N W (pQ (Option Int)) m)

/-! ### names, constants -/
theorem se_var {i : Nat} {x : Str} {pos : Pos} (hN : X.N[i]? = some x) (hv : Vis X.env.scope x) (hd : (x == ("__debug__" : Str)) = false) (hc : (x == ("__classdict__" : Str)) = false) : SE N W X (.Name x pos) (ev T cl (.var i)) :=
  peImp (pe_var hN hv hd hc) fun σ H Q h => by
    obtain ⟨ρ, Γ, S, rel, ms, p⟩ := h
    unfold ev at p
    cases e : Γ[i]? with
    | none => rw [e] at p; exact p.elim
    | some o =>
      rw [e] at p
      cases o with
      | none => exact p.elim
      | some d =>
        obtain ⟨v, h1, h2⟩ := rel.2 i d e
        exact ⟨v, h1, p.now ms h2⟩
/-- a constant's data -/
def cD : Const → Option D
  | .none => some .non
  | .bool b => some (.bl b)
  | .int i => some (.int i)
  | .str x => some (.str x.cps.toList)
  | _ => none
theorem sOf_self (x : Str) : sOf x.cps.toList = x := by cases x; rfl
theorem se_con {c : Const} {d : D} {j : Nat} {pos : Pos} (h : cD c = some d) : SE N W X (.Constant c j pos) (ev T cl (.con d)) := by
  have fin : ∀ {t : TE} {v : V}, PE X (.Constant c j pos) t → (∀ σ H Q, Q v H → t σ H Q) → (∀ ρ H, Rep X.K ρ H v d) → SE N W X (.Constant c j pos) (ev T cl (.con d)) := fun {t v} hp ht r => peImp hp fun σ H Q h => by
    obtain ⟨ρ, Γ, S, rel, ms, p⟩ := h
    exact ht σ H Q (Pst.now (P := pD X.K) (by unfold ev at p; exact p) ms (r ρ H))
  cases c with
  | none => cases h; exact fin pe_non (fun _ _ _ q => q) fun _ _ => .non
  | bool b => cases h; exact fin pe_bl (fun _ _ _ q => q) fun _ _ => .bl b
  | int i => cases h; exact fin pe_int (fun _ _ _ q => q) fun _ _ => .int i
  | str x =>
    cases h
    refine fin (v := .str x) pe_str (fun _ _ _ q => q) fun ρ H => ?_
    have e := Rep.str (K := X.K) (ρ := ρ) (H := H) x.cps.toList
    rw [sOf_self] at e
    exact e
  | _ => cases h
theorem se_glo (C : Cok cc T cl N W k X) {g : Nat} {x : Str} {pos : Pos} (hg : Gl X x) (hx : cc.glo.lookup x = some g) (hd : (x == ("__debug__" : Str)) = false) : SE N W X (.Name x pos) (ev T cl (.glo g)) := by
  obtain ⟨u, v, d, h1, h2, h3, h4⟩ := C.ko.glo x g hx
  refine peImp (pe_glob hg h1 h2 hd) fun σ H Q h => ?_
  obtain ⟨ρ, Γ, S, rel, ms, p⟩ := h
  unfold ev at p
  rw [h3] at p
  exact Pst.now (P := pD X.K) p ms (h4 ρ H)

/-! ### argument lists, displays -/
def isStar : Expr → Bool
  | .Starred .. => true
  | _ => false
theorem starEach_cons {e : Expr} {es : List Expr} {env : Env} (h : isStar e = false) : starEach (e :: es) env = (false, eval e env) :: starEach es env := by
  cases e <;> first | rfl | cases h
theorem star_any {env : Env} {pos : Pos} : ∀ {es : List Expr}, es.all (fun e => !isStar e) = true → (backTo pos (starEach es env)).any (·.1) = false
  | [], _ => rfl
  | e :: es, h => by
    simp only [List.all_cons, Bool.and_eq_true, Bool.not_eq_true'] at h
    rw [starEach_cons h.1]
    show (false || (backTo pos (starEach es env)).any (·.1)) = false
    rw [star_any h.2]; rfl
theorem ses_nil : SEs N W X [] (evs T cl .nil) := paImp pa_nil fun σ H Q h => by
  obtain ⟨ρ, Γ, S, rel, ms, p⟩ := h
  unfold evs at p
  exact Pst.now (P := pDs X.K) p ms .nil
theorem ses_cons {e : Expr} {es : List Expr} {ir : E} {irs : Es} (h1 : SE N W X e (ev T cl ir)) (h2 : SEs N W X es (evs T cl irs)) (hs : isStar e = false) : SEs N W X (e :: es) (evs T cl (.cons ir irs)) :=
  paImp (pa_cons h1 h2 (starEach_cons hs)) fun σ H Q h => by
    obtain ⟨ρ, Γ, S, rel, ms, p⟩ := h
    unfold evs at p
    refine step pmDs rel ms p fun d S1 v H1 ρ1 _ e1 ms1 rel1 r1 p1 => step pmDs rel1 ms1 p1 fun ds S2 vs H2 ρ2 _ e2 ms2 rel2 r2 p2 => ?_
    exact Pst.now (P := pDs X.K) p2 ms2 (.cons (r1.mono e2) r2)
theorem se_tup {es : List Expr} {irs : Es} {x1 : Nat} {pos : Pos} (h : SEs N W X es (evs T cl irs)) (hl : es.length ≤ 1000) (hn : ∀ Γ S ds S', evs T cl irs Γ S = .ok ds S' → ds.length = es.length) : SE N W X (.Tuple es x1 pos) (ev T cl (.tup irs)) :=
  peImp (pe_tup h) fun σ H Q hq => by
    obtain ⟨ρ, Γ, S, rel, ms, p⟩ := hq
    unfold ev at p
    refine step pmD rel ms p fun ds S1 vs H1 ρ1 e0 e1 ms1 rel1 r1 p1 => ⟨?_, fun q hq => ?_⟩
    · rw [r1.length, hn _ _ _ _ e0, sizeLine_eq]; omega
    · exact p1 _ _ ρ1 (Ext.tmp hq) (ms1.tmp hq) (.tup (SqT.of upd_same) (r1.mono (Ext.tmp hq)))
theorem sa_lst {es : List Expr} {irs : Es} {pos : Pos} (h : SEs N W X es (evs T cl irs)) (hl : es.length ≤ 1000) (hn : ∀ Γ S ds S', evs T cl irs Γ S = .ok ds S' → ds.length = es.length) : SA N W X (.List es pos) (evA T cl (.lst irs)) :=
  peImp (pe_lst h) fun σ H Q hq => by
    obtain ⟨ρ, Γ, S, rel, ms, p⟩ := hq
    unfold evA at p
    refine step pmT rel ms p fun ds S1 vs H1 ρ1 e0 e1 ms1 rel1 r1 p1 => ⟨?_, fun q hq => ?_⟩
    · rw [r1.length, hn _ _ _ _ e0, sizeLine_eq]; omega
    · exact p1 _ _ ρ1 (Ext.tmp hq) (ms1.tmp hq) ⟨q, vs, rfl, upd_same, r1.mono (Ext.tmp hq), ms1.fresh hq, hq⟩
theorem sa_e {e : Expr} {ir : E} (h : SE N W X e (ev T cl ir)) : SA N W X e (evA T cl (.e ir)) := peImp h fun σ H Q hq => by
  obtain ⟨ρ, Γ, S, rel, ms, p⟩ := hq
  unfold evA at p
  exact step pmT rel ms p fun d S1 v H1 ρ1 _ e1 ms1 rel1 r1 p1 => p1.now ms1 r1
theorem se_new {e : Expr} {ir : A} (h : SA N W X e (evA T cl ir)) : SE N W X e (ev T cl (.new ir)) := peImp h fun σ H Q hq => by
  obtain ⟨ρ, Γ, S, rel, ms, p⟩ := hq
  unfold ev at p
  refine ⟨ρ, Γ, S, rel, ms, ?_⟩
  cases e0 : evA T cl ir Γ S with
  | stuck => rw [e0] at p; exact p.elim
  | exc c fs S1 => rw [e0] at p; exact p
  | ok x S1 =>
    rw [e0] at p
    intro v H1 ρ1 e1 ms1 r1
    cases x with
    | d _ => exact (show False from p).elim
    | l xs =>
      obtain ⟨a, vs, rfl, h1, h2, h3, h4⟩ := r1
      have p' : Pst X.K N W (pD X.K) (.ok (.ref S1.length) (S1 ++ [.lst xs])) ρ H σ Q := p
      have pre : ∀ (n : Nat) (b : Addr), ρ1[n]? = some b → (ρ1 ++ [a])[n]? = some b := fun n b e => by rw [List.getElem?_append_left (List.getElem?_eq_some_iff.mp e).1]; exact e
      refine p' (.ref a) H1 (ρ1 ++ [a]) (e1.adopt h4) (ms1.adopt h3 ⟨vs, h1, h2.mg pre fun _ _ z => z⟩) (.ref ?_)
      rw [← ms1.len]; simp

/-! ### operators -/
theorem opR_no {f : Value → Value → Sem Value} : OpR X f (fun _ _ _ _ => False) := fun _ _ _ _ _ _ _ _ _ _ _ _ h => h.elim
theorem two {f : Value → Value → Sem Value} {ma mb : Ev → Sto → R TV} {g : TV → TV → Sto → R D} {ρ : List Addr} {Γ : Ev} {S : Sto} {H : Hp} {σ : L2.St} {Q : VK} (rel : RelE X.K ρ H Γ σ) (ms : MS X.K ρ H N S)
    (p : Pst X.K N W (pD X.K) ((ma Γ S).bind fun x S => (mb Γ S).bind fun y S => g x y S) ρ H σ Q) (hg : ∀ x y S, OpOk X N W f x y S (g x y S)) :
    ∃ r, OpR X f r ∧ tOp r (tG X.K N W (pT X.K) ma) (tG X.K N W (pT X.K) mb) σ H Q := by
  have key : ∃ r, OpR X f r ∧ ∀ x S1 y S2, ma Γ S = .ok x S1 → mb Γ S1 = .ok y S2 → g x y S2 = .stuck ∨ ∀ ρ H σ Q v w H0 H1, MS X.K ρ H N S2 → TV.Rp X.K ρ H H0 v x → TV.Rp X.K ρ H H1 w y → Pst X.K N W (pD X.K) (g x y S2) ρ H σ Q → r v w H Q := by
    cases e1 : ma Γ S with
    | ok x S1 =>
      cases e2 : mb Γ S1 with
      | ok y S2 =>
        rcases hg x y S2 with h | ⟨r, h1, h2⟩
        · refine ⟨_, opR_no, fun x' S1' y' S2' q1 q2 => ?_⟩
          cases q1; rw [e2] at q2; cases q2
          exact .inl h
        · refine ⟨r, h1, fun x' S1' y' S2' q1 q2 => ?_⟩
          cases q1; rw [e2] at q2; cases q2
          exact .inr h2
      | _ =>
        refine ⟨_, opR_no, fun x' S1' y' S2' q1 q2 => ?_⟩
        cases q1; rw [e2] at q2; cases q2
    | _ => exact ⟨_, opR_no, fun x' S1' y' S2' q1 => nomatch q1⟩
  obtain ⟨r, hr, hq⟩ := key
  refine ⟨r, hr, step pmD rel ms p fun x S1 v H1 ρ1 q1 e1 ms1 rel1 r1 p1 => step pmD rel1 ms1 p1 fun y S2 w H2 ρ2 q2 e2 ms2 rel2 r2 p2 => ?_⟩
  rcases hq x S1 y S2 q1 q2 with h | h
  · rw [h] at p2; exact p2.elim
  · exact h ρ2 H2 σ Q v w H H1 ms2 (r1.mono e2) r2 p2
theorem se_bin (C : Cok cc T cl N W k X) {a b : Expr} {ia ib : A} {o : Op2} {op : Operator} {pos : Pos} (ha : SA N W X a (evA T cl ia)) (hb : SA N W X b (evA T cl ib)) (ho : bop o = binaryOp op) : SE N W X (.BinOp a op b pos) (ev T cl (.op2 o ia ib)) :=
  peAt fun σ H Q h => by
    obtain ⟨ρ, Γ, S, rel, ms, p⟩ := h
    unfold ev at p
    obtain ⟨r, h1, h2⟩ := two (f := binaryOp op) rel ms p fun x y S => by rw [← ho]; exact op2_ok C.rm o x y S
    exact ⟨_, pe_op h1 ha hb, h2⟩
theorem se_cmp (C : Cok cc T cl N W k X) {a b : Expr} {ia ib : A} {o : Op2} {op : CmpOp} {pos : Pos} (ha : SA N W X a (evA T cl ia)) (hb : SA N W X b (evA T cl ib)) (ho : bop o = compareOp op) (hm : behindInMarks op b = false) : SE N W X (.Compare a [op] [b] pos) (ev T cl (.op2 o ia ib)) :=
  peAt fun σ H Q h => by
    obtain ⟨ρ, Γ, S, rel, ms, p⟩ := h
    unfold ev at p
    obtain ⟨r, h1, h2⟩ := two (f := compareOp op) rel ms p fun x y S => by rw [← ho]; exact op2_ok C.rm o x y S
    exact ⟨_, pe_cmpR h1 ha hb hm, h2⟩
/-- a test of a value that is surely a bool -/
theorem tstP {m : Ev → Sto → R D} {ρ : List Addr} {Γ : Ev} {S : Sto} {H : Hp} {σ : L2.St} {Q : Bool → Hp → Prop} (hb : ∀ d S', m Γ S = .ok d S' → ∃ b, d = .bl b)
    (p : Pst X.K N W (pQ Bool) ((m Γ S).bind fun d S => optR (truth S d) S) ρ H σ Q) : Pst X.K N W (pD X.K) (m Γ S) ρ H σ (fun x H' => ∃ c, x = .bl c ∧ Q c H') := by
  cases e : m Γ S with
  | stuck => rw [e] at p; exact p
  | exc c fs S' => rw [e] at p; exact p
  | ok d S' =>
    rw [e] at p
    obtain ⟨b, rfl⟩ := hb d S' e
    intro v H' ρ' e1 ms1 r
    cases r
    exact ⟨b, rfl, p b H' ρ' e1 ms1 rfl⟩
def isCmp : Op2 → Bool
  | .eq | .ne | .lt | .le | .gt | .ge | .isin | .notin | .iss | .isnot => true
  | _ => false
theorem op2_bl {o : Op2} (h : isCmp o = true) {x y : TV} {S S' : Sto} {d : D} (e : op2 T cl o x y S = .ok d S') : ∃ b, d = .bl b := by
  have i2 : ∀ {f : Int → Int → Bool}, int2 x y (fun i j => .ok (.bl (f i j)) S) = .ok d S' → ∃ b, d = .bl b := fun {f} e => by
    unfold int2 at e
    split at e
    · cases e; exact ⟨_, rfl⟩
    · cases e
  have b2 : ∀ {f : Bool → Bool → Bool}, bl2 x y (fun i j => .ok (.bl (f i j)) S) = .ok d S' → ∃ b, d = .bl b := fun {f} e => by
    unfold bl2 at e
    split at e
    · cases e; exact ⟨_, rfl⟩
    · cases e
  have o1 : ∀ {o : Option Bool}, okB o S = .ok d S' → ∃ b, d = .bl b := fun {o} e => by
    cases o with
    | none => cases e
    | some b => cases e; exact ⟨_, rfl⟩
  have o2 : ∀ {o : Option Bool}, nokB o S = .ok d S' → ∃ b, d = .bl b := fun {o} e => by
    cases o with
    | none => cases e
    | some b => cases e; exact ⟨_, rfl⟩
  cases o with
  | eq => exact o1 e
  | ne => exact o2 e
  | lt => exact i2 e
  | le => exact i2 e
  | gt => exact i2 e
  | ge => exact i2 e
  | isin => exact o1 e
  | notin => exact o2 e
  | iss => exact b2 e
  | isnot => exact b2 e
  | _ => cases h
theorem bind_ok {α β : Type} {r : R α} {f : α → Sto → R β} {b : β} {S : Sto} (h : r.bind f = .ok b S) : ∃ a S1, r = .ok a S1 ∧ f a S1 = .ok b S := by
  cases r with
  | ok a S1 => exact ⟨a, S1, rfl, h⟩
  | exc _ _ _ => cases h
  | stuck => cases h
theorem sc_cmp (C : Cok cc T cl N W k X) {a b : Expr} {ia ib : A} {o : Op2} {op : CmpOp} {pos : Pos} (ha : SA N W X a (evA T cl ia)) (hb : SA N W X b (evA T cl ib)) (ho : bop o = compareOp op) (hm : behindInMarks op b = false) (hc : isCmp o = true) : SC N W X (.Compare a [op] [b] pos) (tst T cl (.t (.op2 o ia ib))) :=
  ptAt fun σ H Q h => by
    obtain ⟨ρ, Γ, S, rel, ms, p⟩ := h
    unfold tst at p
    have p' := tstP (m := ev T cl (.op2 o ia ib)) (fun d S' e => by
      unfold ev at e
      obtain ⟨x, S1, _, e⟩ := bind_ok e
      obtain ⟨y, S2, _, e⟩ := bind_ok e
      exact op2_bl hc e) p
    unfold ev at p'
    obtain ⟨r, h1, h2⟩ := two (f := compareOp op) rel ms p' fun x y S => by rw [← ho]; exact op2_ok C.rm o x y S
    exact ⟨_, pt_cmpR h1 ha hb hm, h2⟩
/-! ### truth -/
theorem truth_ok {ρ : List Addr} {H : Hp} {S : Sto} (ms : MS X.K ρ H N S) {v : V} {d : D} {b : Bool} (r : Rep X.K ρ H v d) (e : truth S d = some b) : TruV X.K v H b := by
  cases r with
  | non => cases e; rfl
  | bl c => cases e; rfl
  | int i =>
    cases e
    show _ = (i != 0)
    rw [bne, Bool.beq_eq_decide_eq]
  | str s =>
    simp only [truth] at e
    split at e
    · rename_i hl
      cases e
      refine ⟨by rw [sOf_len, ← big_eq]; exact hl, ?_⟩
      rw [sOf_len]
      cases s with
      | nil => rfl
      | cons c t =>
        show true = _
        rw [List.length_cons]
        symm
        rw [bne_iff_ne]
        omega
    · cases e
  | @tup a vs ds q r' =>
    cases e
    exact .inr (.inl ⟨vs, q, by rw [r'.isEmpty]⟩)
  | @ref n a hn =>
    obtain ⟨o, ho, ro⟩ := ms.lookup hn
    simp only [truth, ho] at e
    cases o with
    | lst xs =>
      cases e
      obtain ⟨vs, h1, h2⟩ := ro
      exact .inl ⟨vs, SqL.of h1, by rw [h2.isEmpty]⟩
    | _ => cases e
/-- expressions whose test is plain -/
def plainT : Expr → Bool
  | .UnaryOp .Not _ _ => false
  | .BoolOp .. => false
  | .IfExp .. => false
  | .Compare .. => false
  | _ => true
theorem isTrue_plain' {e : Expr} (h : plainT e = true) (env : Env) (whole : Sem Value) : isTrue e env whole = (do let v ← whole; standAt e.pos; holding [v] (truthy v)) := by
  cases e with
  | UnaryOp op x p => cases op <;> first | rfl | cases h
  | BoolOp _ _ _ => cases h
  | IfExp _ _ _ _ => cases h
  | Compare _ _ _ _ => cases h
  | _ => rfl
theorem sc_val {e : Expr} {ir : E} (h : SE N W X e (ev T cl ir)) (hp : plainT e = true) : SC N W X e (tst T cl (.t ir)) :=
  ptImp (pt_truth h (isTrue_plain' hp X.env)) fun σ H Q hq => by
    obtain ⟨ρ, Γ, S, rel, ms, p⟩ := hq
    unfold tst at p
    refine step pmQ rel ms p fun d S1 v H1 ρ1 _ e1 ms1 rel1 r1 p1 => ?_
    cases et : truth S1 d with
    | none => rw [et] at p1; exact p1.elim
    | some b =>
      rw [et] at p1
      exact ⟨b, truth_ok ms1 r1 et, p1.now ms1 rfl⟩
/-! ### and, or, not -/
theorem se_one {a : Expr} {op : BoolOp} {pos : Pos} {m : Ev → Sto → R D} (h : SE N W X a m) : SE N W X (.BoolOp op [a] pos) m := pe_one h
theorem se_and {a b : Expr} {rest : List Expr} {pos : Pos} {ia ib : E} (ha : SE N W X a (ev T cl ia)) (hb : SE N W X (.BoolOp .And (b :: rest) pos) (ev T cl ib)) : SE N W X (.BoolOp .And (a :: b :: rest) pos) (ev T cl (.and ia ib)) :=
  peImp (pe_and ha hb) fun σ H Q h => by
    obtain ⟨ρ, Γ, S, rel, ms, p⟩ := h
    unfold ev at p
    refine step pmD rel ms p fun d S1 v H1 ρ1 _ e1 ms1 rel1 r1 p1 => ?_
    cases r1 with
    | bl c =>
      cases c with
      | true => exact ⟨true, rfl, ρ1, Γ, S1, rel1, ms1, p1⟩
      | false => exact ⟨false, rfl, Pst.now (P := pD X.K) p1 ms1 (.bl false)⟩
    | _ => exact (show False from p1).elim
theorem se_or {a b : Expr} {rest : List Expr} {pos : Pos} {ia ib : E} (ha : SE N W X a (ev T cl ia)) (hb : SE N W X (.BoolOp .Or (b :: rest) pos) (ev T cl ib)) : SE N W X (.BoolOp .Or (a :: b :: rest) pos) (ev T cl (.or ia ib)) :=
  peImp (pe_or ha hb) fun σ H Q h => by
    obtain ⟨ρ, Γ, S, rel, ms, p⟩ := h
    unfold ev at p
    refine step pmD rel ms p fun d S1 v H1 ρ1 _ e1 ms1 rel1 r1 p1 => ?_
    cases r1 with
    | bl c =>
      cases c with
      | false => exact ⟨false, rfl, ρ1, Γ, S1, rel1, ms1, p1⟩
      | true => exact ⟨true, rfl, Pst.now (P := pD X.K) p1 ms1 (.bl true)⟩
    | _ => exact (show False from p1).elim
theorem se_nt {a : Expr} {pos : Pos} {ia : E} (ha : SE N W X a (ev T cl ia)) : SE N W X (.UnaryOp .Not a pos) (ev T cl (.nt ia)) :=
  peImp (pe_not ha) fun σ H Q h => by
    obtain ⟨ρ, Γ, S, rel, ms, p⟩ := h
    unfold ev at p
    refine step pmD rel ms p fun d S1 v H1 ρ1 _ e1 ms1 rel1 r1 p1 => ?_
    cases r1 with
    | bl c => exact ⟨c, rfl, Pst.now (P := pD X.K) p1 ms1 (.bl _)⟩
    | _ => exact (show False from p1).elim
theorem se_neg {a : Expr} {pos : Pos} {ia : E} (ha : SE N W X a (ev T cl ia)) : SE N W X (.UnaryOp .USub a pos) (ev T cl (.neg ia)) :=
  peImp (pe_un un_neg ha) fun σ H Q h => by
    obtain ⟨ρ, Γ, S, rel, ms, p⟩ := h
    unfold ev at p
    refine step pmD rel ms p fun d S1 v H1 ρ1 _ e1 ms1 rel1 r1 p1 => ?_
    cases r1 with
    | int i => exact ⟨i, rfl, Pst.now (P := pD X.K) p1 ms1 (.int _)⟩
    | _ => exact (show False from p1).elim
abbrev SW (N : Nm) (W : WX) (X : Cx) (e : Expr) (m : Ev → Sto → R Bool) : Prop := PW X e (tG X.K N W (pQ Bool) m)
theorem pwImp {e : Expr} {t t' : TT} (h : PW X e t) (i : ∀ σ H Q, t' σ H Q → t σ H Q) : PW X e t' := ⟨fun wh pins s σ H Q I q => h.run wh pins s σ H Q I (i σ H Q q)⟩
theorem sw_and1 {a : Expr} {pos : Pos} {m : Ev → Sto → R Bool} (h : SC N W X a m) : SW N W X (.BoolOp .And [a] pos) m := pw_and1 h
theorem sw_or1 {a : Expr} {pos : Pos} {m : Ev → Sto → R Bool} (h : SC N W X a m) : SW N W X (.BoolOp .Or [a] pos) m := pw_or1 h
theorem sw_and {a b : Expr} {rest : List Expr} {pos : Pos} {ca cb : DL.C} (ha : SC N W X a (tst T cl ca)) (hb : SW N W X (.BoolOp .And (b :: rest) pos) (tst T cl cb)) : SW N W X (.BoolOp .And (a :: b :: rest) pos) (tst T cl (.and ca cb)) :=
  pwImp (pw_and ha hb) fun σ H Q h => by
    obtain ⟨ρ, Γ, S, rel, ms, p⟩ := h
    unfold tst at p
    refine step pmQ rel ms p fun d S1 v H1 ρ1 _ e1 ms1 rel1 r1 p1 => ?_
    cases r1
    cases d with
    | true => exact ⟨ρ1, Γ, S1, rel1, ms1, p1⟩
    | false => exact Pst.now (P := pQ Bool) p1 ms1 rfl
theorem sw_or {a b : Expr} {rest : List Expr} {pos : Pos} {ca cb : DL.C} (ha : SC N W X a (tst T cl ca)) (hb : SW N W X (.BoolOp .Or (b :: rest) pos) (tst T cl cb)) : SW N W X (.BoolOp .Or (a :: b :: rest) pos) (tst T cl (.or ca cb)) :=
  pwImp (pw_or ha hb) fun σ H Q h => by
    obtain ⟨ρ, Γ, S, rel, ms, p⟩ := h
    unfold tst at p
    refine step pmQ rel ms p fun d S1 v H1 ρ1 _ e1 ms1 rel1 r1 p1 => ?_
    cases r1
    cases d with
    | false => exact ⟨ρ1, Γ, S1, rel1, ms1, p1⟩
    | true => exact Pst.now (P := pQ Bool) p1 ms1 rfl
theorem sc_not {a : Expr} {pos : Pos} {ca : DL.C} (ha : SC N W X a (tst T cl ca)) : SC N W X (.UnaryOp .Not a pos) (tst T cl (.not ca)) :=
  ptImp (pt_not ha) fun σ H Q h => by
    obtain ⟨ρ, Γ, S, rel, ms, p⟩ := h
    unfold tst at p
    refine step pmQ rel ms p fun d S1 v H1 ρ1 _ e1 ms1 rel1 r1 p1 => ?_
    cases r1
    exact Pst.now (P := pQ Bool) p1 ms1 rfl
theorem se_ite {t a b : Expr} {pos : Pos} {ct : DL.C} {ia ib : E} (ht : SC N W X t (tst T cl ct)) (ha : SE N W X a (ev T cl ia)) (hb : SE N W X b (ev T cl ib)) : SE N W X (.IfExp t a b pos) (ev T cl (.ite ct ia ib)) :=
  peImp (pe_ifExp ht ha hb) fun σ H Q h => by
    obtain ⟨ρ, Γ, S, rel, ms, p⟩ := h
    unfold ev at p
    refine step pmD rel ms p fun d S1 v H1 ρ1 _ e1 ms1 rel1 r1 p1 => ?_
    cases r1
    cases d with
    | true => exact ⟨ρ1, Γ, S1, rel1, ms1, p1⟩
    | false => exact ⟨ρ1, Γ, S1, rel1, ms1, p1⟩
/-! ### is None, is True; chains -/
theorem repNon {ρ : List Addr} {H : Hp} {v : V} {d : D} (r : Rep X.K ρ H v d) : decide (v = .non) = (match d with | .non => true | _ => false) := by
  cases r <;> simp
theorem se_isN {a : Expr} {pos pos' : Pos} {j : Nat} {ia : E} (n : Bool) (ha : SE N W X a (ev T cl ia)) : SE N W X (.Compare a [if n then .IsNot else .Is] [.Constant .none j pos'] pos) (ev T cl (.isN n ia)) := by
  cases n with
  | false =>
    refine peImp (pe_cmp (pc_isN ha)) fun σ H Q h => ?_
    obtain ⟨ρ, Γ, S, rel, ms, p⟩ := h
    unfold ev at p
    refine step pmD rel ms p fun d S1 v H1 ρ1 _ e1 ms1 rel1 r1 p1 => ?_
    rw [repNon r1]
    refine Pst.now (P := pD X.K) p1 ms1 ?_
    cases d <;> exact .bl _
  | true =>
    refine peImp (pe_cmp (pc_notN ha)) fun σ H Q h => ?_
    obtain ⟨ρ, Γ, S, rel, ms, p⟩ := h
    unfold ev at p
    refine step pmD rel ms p fun d S1 v H1 ρ1 _ e1 ms1 rel1 r1 p1 => ?_
    rw [repNon r1]
    refine Pst.now (P := pD X.K) p1 ms1 ?_
    cases d <;> exact .bl _
theorem sc_isN {a : Expr} {pos pos' : Pos} {j : Nat} {ia : E} (n : Bool) (ha : SE N W X a (ev T cl ia)) : SC N W X (.Compare a [if n then .IsNot else .Is] [.Constant .none j pos'] pos) (tst T cl (.t (.isN n ia))) := by
  have key : ∀ σ H Q, tG X.K N W (pQ Bool) (tst T cl (.t (.isN n ia))) σ H Q → tG X.K N W (pD X.K) (ev T cl (.isN n ia)) σ H (fun x H' => ∃ c, x = .bl c ∧ Q c H') := fun σ H Q h => by
    obtain ⟨ρ, Γ, S, rel, ms, p⟩ := h
    unfold tst at p
    exact ⟨ρ, Γ, S, rel, ms, tstP (fun d S' e => by
      unfold ev at e
      obtain ⟨x, S1, _, e⟩ := bind_ok e
      cases e; exact ⟨_, rfl⟩) p⟩
  cases n with
  | false =>
    refine ptImp (pt_cmp (pc_isN ha)) fun σ H Q h => ?_
    obtain ⟨ρ, Γ, S, rel, ms, p⟩ := key σ H Q h
    unfold ev at p
    refine step pmD rel ms p fun d S1 v H1 ρ1 _ e1 ms1 rel1 r1 p1 => ?_
    rw [repNon r1]
    refine Pst.now (P := pD X.K) p1 ms1 ?_
    cases d <;> exact .bl _
  | true =>
    refine ptImp (pt_cmp (pc_notN ha)) fun σ H Q h => ?_
    obtain ⟨ρ, Γ, S, rel, ms, p⟩ := key σ H Q h
    unfold ev at p
    refine step pmD rel ms p fun d S1 v H1 ρ1 _ e1 ms1 rel1 r1 p1 => ?_
    rw [repNon r1]
    refine Pst.now (P := pD X.K) p1 ms1 ?_
    cases d <;> exact .bl _
/-- the order of ints -/
def cmpI : Op2 → Option (CmpOp × (Int → Int → Bool))
  | .lt => some (.Lt, fun i j => decide (i < j))
  | .le => some (.LtE, fun i j => decide (i ≤ j))
  | .gt => some (.Gt, fun i j => decide (j < i))
  | .ge => some (.GtE, fun i j => decide (j ≤ i))
  | _ => none
theorem cmpI_ok {o : Op2} {op : CmpOp} {f : Int → Int → Bool} (h : cmpI o = some (op, f)) : OpR X (compareOp op) (rI0 fun i j => .bl (f i j)) ∧ ∀ x y S, op2 T cl o x y S = int2 x y fun i j => .ok (.bl (f i j)) S := by
  cases o <;> first | (cases h; done) | skip
  all_goals cases h
  · exact ⟨op_lt, fun _ _ _ => rfl⟩
  · exact ⟨op_le, fun _ _ _ => rfl⟩
  · exact ⟨op_gt, fun _ _ _ => rfl⟩
  · exact ⟨op_ge, fun _ _ _ => rfl⟩
theorem int2_p {ρ : List Addr} {H : Hp} {σ : L2.St} {Q : VK} {x y : D} {S : Sto} {f : Int → Int → Bool} {v w : V} (ms : MS X.K ρ H N S) (rv : Rep X.K ρ H v x) (rw : Rep X.K ρ H w y)
    (p : Pst X.K N W (pD X.K) (int2 (.d x) (.d y) fun i j => .ok (.bl (f i j)) S) ρ H σ Q) : rI0 (fun i j => .bl (f i j)) v w H Q := by
  cases rv with
  | int i =>
    cases rw with
    | int j => exact ⟨i, j, rfl, rfl, p.now ms (.bl _)⟩
    | _ => exact (show False from p).elim
  | _ => cases rw <;> exact (show False from p).elim
theorem chain_t {a b c : Expr} {ia ib ic : E} {o o' : Op2} {op op' : CmpOp} {f f' : Int → Int → Bool} (h : cmpI o = some (op, f)) (h' : cmpI o' = some (op', f')) {σ : L2.St} {H : Hp} {Q : VK}
    (hq : tG X.K N W (pD X.K) (ev T cl (.chain o o' ia ib ic)) σ H Q) : tChain (rI0 fun i j => .bl (f i j)) (rI0 fun i j => .bl (f' i j)) (tG X.K N W (pD X.K) (ev T cl ia)) (tG X.K N W (pD X.K) (ev T cl ib)) (tG X.K N W (pD X.K) (ev T cl ic)) σ H Q := by
  obtain ⟨ρ, Γ, S, rel, ms, p⟩ := hq
  unfold ev at p
  refine step pmD rel ms p fun x S1 v H1 ρ1 _ e1 ms1 rel1 r1 p1 => step pmD rel1 ms1 p1 fun y S2 w H2 ρ2 _ e2 ms2 rel2 r2 p2 => ?_
  rw [(cmpI_ok (X := X) h).2] at p2
  have r1' := r1.mono e2
  cases r1' with
  | int i =>
    cases r2 with
    | int j =>
      refine ⟨i, j, rfl, rfl, _, rfl, ?_⟩
      have p3 : Pst X.K N W (pD X.K) (match f i j with
        | true => (ev T cl ic Γ S2).bind fun z S => op2 T cl o' (.d (.int j)) (.d z) S
        | false => .ok (.bl false) S2) ρ2 H2 σ Q := by
        cases e : f i j with
        | true =>
          have p2' : Pst X.K N W (pD X.K) ((R.ok (D.bl (f i j)) S2).bind fun k S => (match k with
            | .bl true => (ev T cl ic Γ S).bind fun z S => op2 T cl o' (.d (.int j)) (.d z) S
            | .bl false => .ok (.bl false) S
            | _ => .stuck)) ρ2 H2 σ Q := p2
          rw [e] at p2'
          exact p2'
        | false =>
          have p2' : Pst X.K N W (pD X.K) ((R.ok (D.bl (f i j)) S2).bind fun k S => (match k with
            | .bl true => (ev T cl ic Γ S).bind fun z S => op2 T cl o' (.d (.int j)) (.d z) S
            | .bl false => .ok (.bl false) S
            | _ => .stuck)) ρ2 H2 σ Q := p2
          rw [e] at p2'
          exact p2'
      cases e : f i j with
      | true =>
        rw [e] at p3
        rw [if_pos rfl]
        refine step pmD rel2 ms2 p3 fun z S3 u H3 ρ3 _ e3 ms3 rel3 r3 p4 => ?_
        rw [(cmpI_ok (X := X) h').2] at p4
        exact int2_p ms3 (.int j) r3 p4
      | false =>
        rw [e] at p3
        rw [if_neg (by decide)]
        exact p3.now ms2 (.bl false)
    | _ => exact (show False from p2).elim
  | _ => cases r2 <;> exact (show False from p2).elim
theorem lastM {op op' : CmpOp} {b c : Expr} (h : op' ≠ .In) (h2 : op' ≠ .NotIn) : lastMarks [op, op'] [b, c] = false := nobehind c h h2
theorem cmpI_in {o : Op2} {op : CmpOp} {f : Int → Int → Bool} (h : cmpI o = some (op, f)) : op ≠ .In ∧ op ≠ .NotIn := by
  cases o <;> first | (cases h; done) | (cases h; exact ⟨by decide, by decide⟩)
theorem se_chain {a b c : Expr} {ia ib ic : E} {o o' : Op2} {op op' : CmpOp} {f f' : Int → Int → Bool} {pos : Pos} (h : cmpI o = some (op, f)) (h' : cmpI o' = some (op', f'))
    (ha : SE N W X a (ev T cl ia)) (hb : SE N W X b (ev T cl ib)) (hc : SE N W X c (ev T cl ic)) : SE N W X (.Compare a [op, op'] [b, c] pos) (ev T cl (.chain o o' ia ib ic)) :=
  peImp (pe_chain (cmpI_ok (T := T) (cl := cl) h).1 (cmpI_ok (T := T) (cl := cl) h').1 ha hb hc (lastM (cmpI_in h').1 (cmpI_in h').2)) fun σ H Q hq => chain_t (a := a) (b := b) (c := c) h h' hq
theorem sc_chain {a b c : Expr} {ia ib ic : E} {o o' : Op2} {op op' : CmpOp} {f f' : Int → Int → Bool} {pos : Pos} (h : cmpI o = some (op, f)) (h' : cmpI o' = some (op', f'))
    (ha : SE N W X a (ev T cl ia)) (hb : SE N W X b (ev T cl ib)) (hc : SE N W X c (ev T cl ic)) : SC N W X (.Compare a [op, op'] [b, c] pos) (tst T cl (.t (.chain o o' ia ib ic))) :=
  ptImp (pt_chain (cmpI_ok (T := T) (cl := cl) h).1 (cmpI_ok (T := T) (cl := cl) h').1 ha hb hc (lastM (cmpI_in h').1 (cmpI_in h').2)) fun σ H Q hq => by
    obtain ⟨ρ, Γ, S, rel, ms, p⟩ := hq
    unfold tst at p
    refine chain_t (a := a) (b := b) (c := c) h h' (Q := fun x H' => ∃ c, x = .bl c ∧ Q c H') ⟨ρ, Γ, S, rel, ms, tstP (fun d S' e => ?_) p⟩
    unfold ev at e
    obtain ⟨x, S1, _, e⟩ := bind_ok e
    obtain ⟨y, S2, _, e⟩ := bind_ok e
    obtain ⟨z, S3, e0, e⟩ := bind_ok e
    have hz : isCmp o = true := by cases o <;> first | rfl | cases h
    have hz' : isCmp o' = true := by cases o' <;> first | rfl | cases h'
    obtain ⟨b', rfl⟩ := op2_bl hz e0
    cases b' with
    | true =>
      obtain ⟨u, S4, _, e⟩ := bind_ok e
      exact op2_bl hz' e
    | false => cases e; exact ⟨_, rfl⟩
end
end DL

set_option linter.all false
set_option maxRecDepth 100000
set_option maxHeartbeats 2000000
set_option autoImplicit false
/-! DL6: isinstance, fields, subscripts, slices, built-in functions, methods of lists and texts. -/
namespace DL
open PySem PySem.Spec PyProof.Rows L2
section
variable {cc : CC} {T : Tb} {cl : Orc} {N : Nm} {W : WX} {k : Nat} {X : Cx}
/-! ### isinstance -/
def tyStr : Ty → Option String
  | .int => some "int"
  | .bool => some "bool"
  | .str => some "str"
  | .tuple => some "tuple"
  | .list => some "list"
  | .dict => some "dict"
  | .cls _ => none
/-- the type of a value -/
inductive TyD (S : Sto) : D → String ⊕ Nat → Prop
  | non : TyD S .non (.inl "NoneType")
  | bl (b : Bool) : TyD S (.bl b) (.inl "bool")
  | int (i : Int) : TyD S (.int i) (.inl "int")
  | str (s : List Nat) : TyD S (.str s) (.inl "str")
  | tup (xs : List D) : TyD S (.tup xs) (.inl "tuple")
  | lst {n : Nat} {xs : List D} : S[n]? = some (.lst xs) → TyD S (.ref n) (.inl "list")
  | dic {n : Nat} {xs : List (D × D)} : S[n]? = some (.dic xs) → TyD S (.ref n) (.inl "dict")
  | ins {n c : Nat} {fs : List (Nat × D)} : S[n]? = some (.ins c fs) → TyD S (.ref n) (.inr c)
def tyVal (N : Nm) : String ⊕ Nat → Value
  | .inl s => .type s
  | .inr c => .ref (N.ca c)
theorem sqT_ty {K : PySem.W.Frag} {H : Hp} {a : Addr} {vs : List V} (q : SqT K H a vs) : TyX K H (.ref a) (.type "tuple") := by
  rcases q with (q | ⟨ob, q⟩) | ⟨o, its, n, h1, h2, _⟩
  · exact .base (.tup q)
  · exact .fTuple q
  · exact .kTuple h1 h2
theorem tyX_of (ko : KOk cc T N X.K X.mg) {ρ : List Addr} {H : Hp} {S : Sto} (ms : MS X.K ρ H N S) {v : V} {d : D} {t : String ⊕ Nat} (r : Rep X.K ρ H v d) (h : TyD S d t) (hc : ∀ c, t = .inr c → ∃ cd, T.cls[c]? = some cd) : TyX X.K H v (tyVal N t) := by
  cases h with
  | non => cases r; exact .base .non
  | bl b => cases r; exact .base (.bl b)
  | int i => cases r; exact .base (.int i)
  | str s => cases r; exact .base (.str _)
  | tup xs => cases r with | tup q _ => exact sqT_ty q
  | @lst n xs e =>
    cases r with
    | ref hn =>
      obtain ⟨o, ho, ro⟩ := ms.lookup hn
      rw [e] at ho; cases ho
      obtain ⟨vs, h1, _⟩ := ro
      exact .base (.lst h1)
  | @dic n xs e =>
    cases r with
    | ref hn =>
      obtain ⟨o, ho, ro⟩ := ms.lookup hn
      rw [e] at ho; cases ho
      obtain ⟨vs, h1, _⟩ := ro
      exact .base (.dK h1)
  | @ins n c fs e =>
    cases r with
    | ref hn =>
      obtain ⟨o, ho, ro⟩ := ms.lookup hn
      rw [e] at ho; cases ho
      obtain ⟨dx, vs, h1, _⟩ := ro
      obtain ⟨cd, hcd⟩ := hc c rfl
      have ck := ko.cls c cd hcd
      exact .base (.ins h1 ck.cl ck.ha ck.hn ck.ht ck.hm)
def isiB (t : Ty) : String ⊕ Nat → Bool
  | .inl s => (match t, s with
    | .int, "int" => true
    | .int, "bool" => true
    | .bool, "bool" => true
    | .str, "str" => true
    | .tuple, "tuple" => true
    | .list, "list" => true
    | .dict, "dict" => true
    | _, _ => false)
  | .inr c => (match t with
    | .cls c' => Nat.beq c c'
    | _ => false)
theorem tyT_ok {S : Sto} {t : Ty} {d : D} {b : Bool} (h : tyT T S t d = some b) : ∃ y, TyD S d y ∧ b = isiB t y ∧ ∀ c, y = .inr c → ∃ cd, T.cls[c]? = some cd := by
  cases d with
  | non => cases h; exact ⟨_, .non, by cases t <;> rfl, fun _ q => nomatch q⟩
  | bl x => cases h; exact ⟨_, .bl x, by cases t <;> rfl, fun _ q => nomatch q⟩
  | int x => cases h; exact ⟨_, .int x, by cases t <;> rfl, fun _ q => nomatch q⟩
  | str x => cases h; exact ⟨_, .str x, by cases t <;> rfl, fun _ q => nomatch q⟩
  | tup x => cases h; exact ⟨_, .tup x, by cases t <;> rfl, fun _ q => nomatch q⟩
  | ref n =>
    simp only [tyT] at h
    cases e : S[n]? with
    | none => rw [e] at h; cases h
    | some o =>
      rw [e] at h
      cases o with
      | lst xs => cases h; exact ⟨_, .lst e, by cases t <;> rfl, fun _ q => nomatch q⟩
      | dic xs => cases h; exact ⟨_, .dic e, by cases t <;> rfl, fun _ q => nomatch q⟩
      | ins c fs =>
        cases ec : T.cls[c]? with
        | none => simp only [ec] at h; cases h
        | some cd =>
          simp only [ec] at h
          cases h
          exact ⟨_, .ins e, by cases t <;> rfl, fun c' q => by cases q; exact ⟨cd, ec⟩⟩
      | ro xs => cases h
theorem kits : ∀ a ∈ tyNames, ∀ t ∈ [Ty.int, .bool, .str, .tuple, .list, .dict], kitB a ((tyStr t).getD "") = some (isiB t (.inl a)) := by decide +kernel
theorem ty_mem {S : Sto} {d : D} {s : String} (h : TyD S d (.inl s)) : s ∈ tyNames := by
  cases h <;> decide
theorem kit_of' (ko : KOk cc T N X.K X.mg) {S : Sto} {d : D} {y : String ⊕ Nat} (h : TyD S d y) (hc : ∀ c, y = .inr c → ∃ cd, T.cls[c]? = some cd) {t : Ty} {s : String} (ht : tyStr t = some s) : PySem.W.kitOne X.K (tyVal N y) (.type s) = some (isiB t y) := by
  have hm : t ∈ [Ty.int, .bool, .str, .tuple, .list, .dict] := by cases t <;> first | (cases ht; done) | simp
  cases y with
  | inl a =>
    have := kits a (ty_mem h) t hm
    rw [ht] at this
    exact kit_ty this
  | inr c =>
    obtain ⟨cd, hcd⟩ := hc c rfl
    have e : isiB t (.inr c) = false := by cases t <;> first | rfl | cases ht
    rw [e]
    refine ko.isiT c cd s hcd ?_
    cases t <;> cases ht <;> decide
theorem kit_of2 (ko : KOk cc T N X.K X.mg) {S : Sto} {d : D} {y : String ⊕ Nat} (h : TyD S d y) (hc : ∀ c, y = .inr c → ∃ cd, T.cls[c]? = some cd) {c' : Nat} {cd' : Cls} (hc' : T.cls[c']? = some cd') : PySem.W.kitOne X.K (tyVal N y) (.ref (N.ca c')) = some (isiB (.cls c') y) := by
  cases y with
  | inl a =>
    have e : isiB (.cls c') (.inl a) = false := rfl
    rw [e]
    exact ko.isiO c' cd' a hc' (ty_mem h)
  | inr c =>
    obtain ⟨cd, hcd⟩ := hc c rfl
    exact ko.isiC c c' cd cd' hcd hc'
theorem bltn_free (C : Cok cc T cl N W k X) {x : Str} (h : x ∈ bltns) : X.mg x = none := C.ko.free x h
theorem se_isi (C : Cok cc T cl N W k X) {a : Expr} {ia : E} {t : Ty} {s : String} {x : Str} {p p2 pos : Pos} (ha : SE N W X a (ev T cl ia)) (hs : isStar a = false) (hgi : Gl X "isinstance") (hg : Gl X x) (ht : tyStr t = some s) (hx : x = Str.ofString s) :
    SE N W X (.Call (.Name "isinstance" p) [a, .Name x p2] [] pos) (ev T cl (.isi ia t)) := by
  have hb : bootBuiltins x = some (.type s) := by subst hx; cases t <;> cases ht <;> decide +kernel
  have hm : x ∈ bltns := by subst hx; cases t <;> cases ht <;> decide +kernel
  have hn : x ≠ "__name__" := by subst hx; cases t <;> cases ht <;> decide +kernel
  have hd : (x == ("__debug__" : Str)) = false := by subst hx; cases t <;> cases ht <;> decide +kernel
  refine peImp (pe_callB call_isi hgi (bltn_free C (by decide +kernel)) boot_isinstance (pa_cons ha (pa_cons (pe_bltn (v := .ty s) hg (bltn_free C hm) hb rfl hn hd) pa_nil) (starEach_cons hs)) (by decide +kernel) (by decide +kernel) (starEach_cons hs)) fun σ H Q h => ?_
  obtain ⟨ρ, Γ, S, rel, ms, q⟩ := h
  unfold ev at q
  refine step pmD rel ms q fun d S1 v H1 ρ1 _ e1 ms1 rel1 r1 p1 => ?_
  cases et : tyT T S1 t d with
  | none => rw [et] at p1; exact (show False from p1).elim
  | some b =>
    rw [et] at p1
    obtain ⟨y, hy, hb', hc⟩ := tyT_ok et
    exact ⟨v, .ty s, _, _, b, rfl, .ty s, tyX_of C.ko ms1 r1 hy hc, by rw [hb']; exact kit_of' C.ko hy hc ht, Pst.now (P := pD X.K) p1 ms1 (.bl b)⟩
theorem se_isiC (C : Cok cc T cl N W k X) {a : Expr} {ia : E} {c : Nat} {x : Str} {p p2 pos : Pos} (ha : SE N W X a (ev T cl ia)) (hs : isStar a = false) (hgi : Gl X "isinstance") (hg : Gl X x) (hx : cc.cls.lookup x = some c) (hd : (x == ("__debug__" : Str)) = false) :
    SE N W X (.Call (.Name "isinstance" p) [a, .Name x p2] [] pos) (ev T cl (.isi ia (.cls c))) := by
  obtain ⟨hmx, cd, hcd⟩ := C.ko.cln x c hx
  refine peImp (pe_callB call_isi hgi (bltn_free C (by decide +kernel)) boot_isinstance (pa_cons ha (pa_cons (pe_glob (v := .ref (N.ca c)) hg hmx rfl hd) pa_nil) (starEach_cons hs)) (by decide +kernel) (by decide +kernel) (starEach_cons hs)) fun σ H Q h => ?_
  obtain ⟨ρ, Γ, S, rel, ms, q⟩ := h
  unfold ev at q
  refine step pmD rel ms q fun d S1 v H1 ρ1 _ e1 ms1 rel1 r1 p1 => ?_
  cases et : tyT T S1 (.cls c) d with
  | none => rw [et] at p1; exact (show False from p1).elim
  | some b =>
    rw [et] at p1
    obtain ⟨y, hy, hb', hc⟩ := tyT_ok et
    exact ⟨v, .ref (N.ca c), _, _, b, rfl, .own _, tyX_of C.ko ms1 r1 hy hc, by rw [hb']; exact kit_of2 C.ko hy hc hcd, Pst.now (P := pD X.K) p1 ms1 (.bl b)⟩
/-! ### fields -/
theorem fldOk_ok {c f : Nat} (h : fldOk T c f = true) : ∃ cd, T.cls[c]? = some cd ∧ f ∈ cd.flds := by
  unfold fldOk at h
  cases e : T.cls[c]? with
  | none => rw [e] at h; cases h
  | some cd => rw [e] at h; exact ⟨cd, rfl, by simpa using h⟩
/-- not the call super() -/
def noSuper : Expr → Bool
  | .Call (.Name _ _) [] [] _ => false
  | _ => true
theorem attrBase {e : Expr} (h : noSuper e = true) (f : Str) (env : Env) : attributeBase e f env (eval e env) = eval e env := by
  cases e with
  | Call fn args kws p =>
    cases fn with
    | Name id p2 =>
      cases args with
      | nil => cases kws with
        | nil => cases h
        | cons _ _ => rfl
      | cons _ _ => rfl
    | _ => rfl
  | _ => rfl
theorem se_attr (C : Cok cc T cl N W k X) {a : Expr} {ia : E} {f : Nat} {x : Str} {pos : Pos} (ha : SE N W X a (ev T cl ia)) (hn : noSuper a = true) (hx : cc.nms[f]? = some x) : SE N W X (.Attribute a x pos) (ev T cl (.attr ia f)) :=
  peImp (pe_fld ha (attrBase hn x X.env)) fun σ H Q h => by
    obtain ⟨ρ, Γ, S, rel, ms, q⟩ := h
    unfold ev at q
    refine step pmD rel ms q fun d S1 v H1 ρ1 _ e1 ms1 rel1 r1 p1 => ?_
    obtain ⟨hf, hnm⟩ := C.ko.nms f x hx
    cases r1 with
    | @ref n a hr =>
      obtain ⟨o, ho, ro⟩ := ms1.lookup hr
      simp only [attrT, ho] at p1
      cases o with
      | ins c fs =>
        obtain ⟨dx, vs, h1, h2, h3⟩ := ro
        cases e2 : fldOk T c f with
        | false => simp only [e2] at p1; exact (show False from p1).elim
        | true =>
          cases e3 : lku fs f with
          | none => simp only [e2, e3] at p1; exact (show False from p1).elim
          | some y =>
            simp only [e2, e3] at p1
            obtain ⟨cd, hcd, hm⟩ := fldOk_ok e2
            have hl := Fs.look C.ko.inj hf h3
            rw [e3] at hl
            obtain ⟨w, hl1, hl2⟩ := hl
            rw [hnm] at hl1
            have hna := C.ko.fld c cd f hcd hm
            rw [hnm] at hna
            exact ⟨a, _, dx, vs, w, rfl, h1, (C.ko.cls c cd hcd).cl, hna, hl1, Pst.now (P := pD X.K) p1 ms1 hl2⟩
      | _ => exact (show False from p1).elim
    | _ => exact (show False from p1).elim
/-! ### subscripts -/
def notSlice : Expr → Bool
  | .Slice .. => false
  | _ => true
theorem plainIx {b : Expr} (h : notSlice b = true) : PlainIx b := by
  intro o i
  cases b <;> first | rfl | cases h
theorem reps_atI {K : PySem.W.Frag} {ρ : List Addr} {H : Hp} {vs : List V} {ds : List D} (r : Reps K ρ H vs ds) {i : Int} {d : D} (h : atI ds i = some d) : ∃ v, atI vs i = some v ∧ Rep K ρ H v d := by
  unfold atI at h ⊢
  rw [r.length]
  cases e : ixN ds.length i with
  | none => rw [e] at h; cases h
  | some j =>
    rw [e] at h
    exact r.get h
theorem eqv_kD (a b : Key) : eqv (kD a) (kD b) = decide (a = b) := by
  cases a with
  | inl i => cases b with
    | inl j =>
      show decide (i = j) = _
      by_cases e : i = j
      · subst e; simp
      · rw [decide_eq_false e, decide_eq_false (fun q => e (Sum.inl.inj q))]
    | inr y => rfl
  | inr x => cases b with
    | inl j => rfl
    | inr y =>
      show decide (x.cps.toList = y.cps.toList) = _
      by_cases e : x = y
      · subst e; simp
      · rw [decide_eq_false (fun q => e (Sum.inr.inj q)), decide_eq_false]
        intro q
        cases x; cases y
        simp only at q
        exact e (by rw [Array.toList_inj.mp q])
section
variable {K : PySem.W.Frag} {ρ : List Addr} {H : Hp}
theorem Kvs.look {key : Key} : ∀ {vs : List (Key × V)} {ds : List (D × D)}, Kvs K ρ H vs ds →
    match dlk ds (kD key) with
    | some d => ∃ v, valV vs key = some v ∧ Rep K ρ H v d
    | none => valV vs key = none
  | _, _, .nil => rfl
  | _, _, .cons (k := k') (v := v) (d := d) (vs := vs) (ds := ds) a b => by
    have ih := Kvs.look (key := key) b
    unfold dlk at ih ⊢
    rw [List.find?_cons]
    show match (match eqv (kD k') (kD key) with | true => some (kD k', d) | false => ds.find? fun kv => eqv kv.1 (kD key)).map Prod.snd with
      | some d => ∃ v_1, valV ((k', v) :: vs) key = some v_1 ∧ Rep K ρ H v_1 d
      | none => valV ((k', v) :: vs) key = none
    rw [eqv_kD]
    by_cases e : k' = key
    · rw [decide_eq_true e]
      exact ⟨v, valV_pos e, a⟩
    · rw [decide_eq_false e]
      simp only
      rw [valV_neg (p := (k', v)) e]
      exact ih
theorem Kvs.anyk {key : Key} : ∀ {vs : List (Key × V)} {ds : List (D × D)}, Kvs K ρ H vs ds → (ds.any fun kv => eqv kv.1 (kD key)) = vs.any fun kv => decide (kv.1 = key)
  | _, _, .nil => rfl
  | _, _, .cons (k := k') a b => by
    rw [List.any_cons, List.any_cons, Kvs.anyk b]
    show (eqv (kD k') (kD key) || _) = _
    rw [eqv_kD]
theorem Kvs.mapk {key : Key} {w : V} {x : D} (r : Rep K ρ H w x) : ∀ {vs : List (Key × V)} {ds : List (D × D)}, Kvs K ρ H vs ds → Kvs K ρ H (vs.map fun kv => if kv.1 = key then (kv.1, w) else kv) (ds.map fun kv => if eqv kv.1 (kD key) = true then (kv.1, x) else kv)
  | _, _, .nil => .nil
  | _, _, .cons (k := k') (v := v) (d := d) a b => by
    rw [List.map_cons, List.map_cons]
    show Kvs K ρ H ((if k' = key then (k', w) else (k', v)) :: _) ((if eqv (kD k') (kD key) = true then (kD k', x) else (kD k', d)) :: _)
    rw [eqv_kD]
    by_cases e : k' = key
    · rw [if_pos e, if_pos (decide_eq_true e)]
      exact .cons r (Kvs.mapk r b)
    · rw [if_neg e, if_neg (by rw [decide_eq_false e]; decide)]
      exact .cons a (Kvs.mapk r b)
theorem Kvs.snoc {key : Key} {w : V} {x : D} (r : Rep K ρ H w x) : ∀ {vs : List (Key × V)} {ds : List (D × D)}, Kvs K ρ H vs ds → Kvs K ρ H (vs ++ [(key, w)]) (ds ++ [(kD key, x)])
  | _, _, .nil => .cons r .nil
  | _, _, .cons a b => .cons a (Kvs.snoc r b)
theorem Kvs.put {key : Key} {w : V} {x : D} (r : Rep K ρ H w x) {vs : List (Key × V)} {ds : List (D × D)} (h : Kvs K ρ H vs ds) : Kvs K ρ H (putK vs key w) (dput (kD key) x ds) := by
  unfold putK dput
  rw [h.anyk]
  split
  · exact h.mapk r
  · exact h.snoc r
theorem Kvs.length : ∀ {vs : List (Key × V)} {ds : List (D × D)}, Kvs K ρ H vs ds → vs.length = ds.length
  | _, _, .nil => rfl
  | _, _, .cons _ b => congrArg Nat.succ (Kvs.length b)
theorem keyD_of {v : V} {d : D} (r : Rep K ρ H v d) (h : keyD d = true) : ∃ key, v = kV key ∧ d = kD key := by
  cases r with
  | int i => exact ⟨.inl i, rfl, rfl⟩
  | str s => exact ⟨.inr (sOf s), rfl, rfl⟩
  | _ => cases h
end
/-- an operand, then a value -/
theorem twoD {J : R2 → Prop} (J0 : J fun _ _ _ _ => False) {ma : Ev → Sto → R TV} {mb : Ev → Sto → R D} {g : TV → D → Sto → R D} {ρ : List Addr} {Γ : Ev} {S : Sto} {H : Hp} {σ : L2.St} {Q : VK} (rel : RelE X.K ρ H Γ σ) (ms : MS X.K ρ H N S)
    (p : Pst X.K N W (pD X.K) ((ma Γ S).bind fun x S => (mb Γ S).bind fun y S => g x y S) ρ H σ Q)
    (hg : ∀ x S1 y S2, ma Γ S = .ok x S1 → mb Γ S1 = .ok y S2 → g x y S2 = .stuck ∨ ∃ r, J r ∧ ∀ ρ H σ Q v w H0, MS X.K ρ H N S2 → TV.Rp X.K ρ H H0 v x → Rep X.K ρ H w y → Pst X.K N W (pD X.K) (g x y S2) ρ H σ Q → r v w H Q) :
    ∃ r, J r ∧ tOp r (tG X.K N W (pT X.K) ma) (tG X.K N W (pD X.K) mb) σ H Q := by
  have key : ∃ r, J r ∧ ∀ x S1 y S2, ma Γ S = .ok x S1 → mb Γ S1 = .ok y S2 → g x y S2 = .stuck ∨ ∀ ρ H σ Q v w H0, MS X.K ρ H N S2 → TV.Rp X.K ρ H H0 v x → Rep X.K ρ H w y → Pst X.K N W (pD X.K) (g x y S2) ρ H σ Q → r v w H Q := by
    cases e1 : ma Γ S with
    | ok x S1 =>
      cases e2 : mb Γ S1 with
      | ok y S2 =>
        rcases hg x S1 y S2 e1 e2 with h | ⟨r, h1, h2⟩
        · refine ⟨_, J0, fun x' S1' y' S2' q1 q2 => ?_⟩
          cases q1; rw [e2] at q2; cases q2
          exact .inl h
        · refine ⟨r, h1, fun x' S1' y' S2' q1 q2 => ?_⟩
          cases q1; rw [e2] at q2; cases q2
          exact .inr h2
      | _ =>
        refine ⟨_, J0, fun x' S1' y' S2' q1 q2 => ?_⟩
        cases q1; rw [e2] at q2; cases q2
    | _ => exact ⟨_, J0, fun x' S1' y' S2' q1 => nomatch q1⟩
  obtain ⟨r, hr, hq⟩ := key
  refine ⟨r, hr, step pmD rel ms p fun x S1 v H1 ρ1 q1 e1 ms1 rel1 r1 p1 => step pmD rel1 ms1 p1 fun y S2 w H2 ρ2 q2 e2 ms2 rel2 r2 p2 => ?_⟩
  rcases hq x S1 y S2 q1 q2 with h | h
  · rw [h] at p2; exact p2.elim
  · exact h ρ2 H2 σ Q v w H ms2 (r1.mono e2) r2 p2
/-- a subscript, or that of a dict -/
def IxJ (X : Cx) (r : R2) : Prop := ∀ (a b : Expr) (ta tb : TE) (pos : Pos), PE X a ta → PE X b tb → notSlice b = true → PE X (.Subscript a b pos) (tOp r ta tb)
theorem ixJ_of {r : R2} (h : IxR X r) : IxJ X r := fun a b ta tb pos ha hb hs => pe_ix h ha hb (plainIx hs)
theorem ixJ_no : IxJ X fun _ _ _ _ => False := ixJ_of fun _ _ _ _ _ _ _ _ _ _ _ _ _ _ h _ => h.elim
theorem ixJ_dic (hu : X.A.units + 1 < cLine) : IxJ X fun x y H Q => ∃ a v, x = .ref a ∧ DGet H a y (some v) ∧ Q v H := fun a b ta tb pos ha hb hs => pe_dget hu ha hb (plainIx hs)
theorem item_ok (hu : X.A.units + 1 < cLine) (x : TV) (i : D) (S : Sto) : itemT T cl x i S = .stuck ∨ ∃ r, IxJ X r ∧ ∀ ρ H σ Q v w H0, MS X.K ρ H N S → TV.Rp X.K ρ H H0 v x → Rep X.K ρ H w i → Pst X.K N W (pD X.K) (itemT T cl x i S) ρ H σ Q → r v w H Q := by
  have seq : ∀ {x : TV} {xs : List D}, its S x = some xs → ixD xs i S = .stuck ∨ ∃ r, IxJ X r ∧ ∀ ρ H σ Q v w H0, MS X.K ρ H N S → TV.Rp X.K ρ H H0 v x → Rep X.K ρ H w i → Pst X.K N W (pD X.K) (ixD xs i S) ρ H σ Q → r v w H Q := fun {x xs} hx => by
    unfold ixD
    cases i with
    | int i =>
      cases e : atI xs i with
      | none => exact .inl (by simp only [e]; rfl)
      | some d =>
        right
        cases ht : isTup x with
        | false =>
          refine ⟨_, ixJ_of ix_list, fun ρ H σ Q v w H0 ms rv rw p => ?_⟩
          obtain ⟨a, vs, rfl, rs, (⟨_, q⟩ | ⟨h, _⟩)⟩ := its_sq ms rv hx
          · cases rw
            obtain ⟨y, h1, h2⟩ := reps_atI rs e
            simp only [e] at p
            exact ⟨a, vs, i, y, rfl, rfl, q, h1, Pst.now (P := pD X.K) p ms h2⟩
          · rw [ht] at h; cases h
        | true =>
          refine ⟨_, ixJ_of ix_tup, fun ρ H σ Q v w H0 ms rv rw p => ?_⟩
          obtain ⟨a, vs, rfl, rs, (⟨h, _⟩ | ⟨_, q⟩)⟩ := its_sq ms rv hx
          · rw [ht] at h; cases h
          · cases rw
            obtain ⟨y, h1, h2⟩ := reps_atI rs e
            simp only [e] at p
            exact ⟨a, vs, i, y, rfl, rfl, q, h1, Pst.now (P := pD X.K) p ms h2⟩
    | _ => exact .inl rfl
  have gen : ∀ (x : TV), itemG x i S = .stuck ∨ ∃ r, IxJ X r ∧ ∀ ρ H σ Q v w H0, MS X.K ρ H N S → TV.Rp X.K ρ H H0 v x → Rep X.K ρ H w i → Pst X.K N W (pD X.K) (itemG x i S) ρ H σ Q → r v w H Q := fun x => by
    unfold itemG
    cases hx : its S x with
    | some xs => exact seq hx
    | none =>
      simp only
      unfold ixDic
      split
      · rename_i n
        split
        · rename_i kvs hk
          cases hd : keyD i with
          | false => exact .inl rfl
          | true =>
            cases e : dlk kvs i with
            | none => exact .inl rfl
            | some d =>
              refine .inr ⟨_, ixJ_dic hu, fun ρ H σ Q v w H0 ms rv rw p => ?_⟩
              cases rv with
              | @ref _ a hr =>
                obtain ⟨o, ho, ro⟩ := ms.lookup hr
                rw [hk] at ho; cases ho
                obtain ⟨vs, h1, h2⟩ := ro
                obtain ⟨key, rfl, rfl⟩ := keyD_of rw hd
                have hl := h2.look (key := key)
                rw [e] at hl
                obtain ⟨y, hl1, hl2⟩ := hl
                refine ⟨a, y, rfl, ?_, Pst.now (P := pD X.K) p ms hl2⟩
                rw [← hl1]
                exact .k h1
        · exact .inl rfl
      · exact .inl rfl
  unfold itemT
  split
  · rename_i s
    cases i with
    | int i =>
      cases hb : Nat.ble s.length big with
      | false => exact .inl (by simp only [hb]; rfl)
      | true =>
        cases e : atI s i with
        | none => exact .inl (by simp only [hb, e]; rfl)
        | some c =>
          refine .inr ⟨_, ixJ_of ix_str, fun ρ H σ Q v w H0 ms rv rw p => ?_⟩
          cases rv; cases rw
          simp only [hb, e] at p
          refine ⟨_, i, c, rfl, rfl, by rw [sOf_len]; exact le_big hb, ?_, Pst.now (P := pD X.K) p ms (.str [c])⟩
          show atI (sOf s).cps.toList i = some c
          simpa using e
    | _ => exact .inl rfl
  · exact gen _
theorem se_item (C : Cok cc T cl N W k X) {a b : Expr} {ia : A} {ib : E} {pos : Pos} (ha : SA N W X a (evA T cl ia)) (hb : SE N W X b (ev T cl ib)) (hs : notSlice b = true) : SE N W X (.Subscript a b pos) (ev T cl (.item ia ib)) :=
  peAt fun σ H Q h => by
    obtain ⟨ρ, Γ, S, rel, ms, p⟩ := h
    unfold ev at p
    obtain ⟨r, h1, h2⟩ := twoD (J := IxJ X) ixJ_no rel ms p fun x S1 y S2 _ _ => item_ok (by have := C.rm.un; omega) x y S2
    exact ⟨_, h1 a b _ _ pos ha hb hs, h2⟩
end
end DL

set_option linter.all false
set_option maxRecDepth 100000
set_option maxHeartbeats 2000000
set_option autoImplicit false
/-! DL7: slices, built-in functions, methods of lists and texts. -/
namespace DL
open PySem PySem.Spec PyProof.Rows L2
section
variable {cc : CC} {T : Tb} {cl : Orc} {N : Nm} {W : WX} {k : Nat} {X : Cx}
/-! ### slices -/
theorem so_no : SO N W X none (evO T cl .no) := poImp po_none fun σ H Q h => by
  obtain ⟨ρ, Γ, S, rel, ms, p⟩ := h
  unfold evO at p
  exact Pst.now (P := pQ (Option Int)) p ms rfl
theorem so_yes {e : Expr} {ir : E} (h : SE N W X e (ev T cl ir)) : SO N W X (some e) (evO T cl (.yes ir)) := poImp (po_some h) fun σ H Q hq => by
  obtain ⟨ρ, Γ, S, rel, ms, p⟩ := hq
  unfold evO at p
  refine step pmQ rel ms p fun d S1 v H1 ρ1 _ e1 ms1 rel1 r1 p1 => ?_
  cases r1 with
  | int i => exact ⟨i, rfl, Pst.now (P := pQ (Option Int)) p1 ms1 rfl⟩
  | _ => exact (show False from p1).elim
theorem cutL_reps {K : PySem.W.Frag} {ρ : List Addr} {H : Hp} {vs : List V} {ds : List D} (r : Reps K ρ H vs ds) (lo hi : Option Int) : Reps K ρ H (cutV vs lo hi) (cutL ds lo hi) := by
  unfold cutV cutL
  rw [r.length]
  exact (r.drop _).take _
theorem cutL_whole {α : Type} {xs : List α} {lo hi : Option Int} (h : HT.sIx xs.length 0 lo = 0 ∧ HT.sIx xs.length xs.length hi = xs.length) : cutL xs lo hi = xs := by
  unfold cutL
  rw [h.1, h.2]
  simp
theorem slR_no : SlR X fun _ _ _ _ _ => False := fun _ _ _ _ _ _ _ _ _ _ _ _ _ _ _ _ _ h => h.elim
theorem slc_ok (x : TV) (S0 : Sto) : ∃ r, SlR X r ∧ ∀ ρ H σ Q v H0 lo hi S, its S x = its S0 x → MS X.K ρ H N S → TV.Rp X.K ρ H H0 v x → Pst X.K N W (pD X.K) (slcT x lo hi S) ρ H σ Q → r v lo hi H Q := by
  have gen : ∀ x : TV, isTup x = false → ∃ r, SlR X r ∧ ∀ ρ H σ Q v H0 lo hi S, MS X.K ρ H N S → TV.Rp X.K ρ H H0 v x → Pst X.K N W (pD X.K) (match its S x with
      | some xs => .ok (.ref S.length) (S ++ [.lst (cutL xs lo hi)])
      | none => .stuck) ρ H σ Q → r v lo hi H Q := fun x ht => ⟨_, sl_list, fun ρ H σ Q v H0 lo hi S ms rv p => by
    cases hx : its S x with
    | none => rw [hx] at p; exact (show False from p).elim
    | some xs =>
      rw [hx] at p
      obtain ⟨a, vs, rfl, rs, (⟨_, q⟩ | ⟨h, _⟩)⟩ := its_sq ms rv hx
      · refine ⟨a, vs, rfl, q, fun b hb => ?_⟩
        have e : Ext X.K ρ (ρ ++ [b]) H (upd H b (.lst (cutV vs lo hi))) := Ext.push hb
        refine p (.ref b) _ (ρ ++ [b]) e (ms.push hb ⟨_, upd_same, (cutL_reps rs lo hi).mono e⟩) (.ref ?_)
        rw [← ms.len]; simp
      · rw [ht] at h; cases h⟩
  cases x with
  | l xs =>
    obtain ⟨r, h1, h2⟩ := gen (.l xs) rfl
    exact ⟨r, h1, fun ρ H σ Q v H0 lo hi S _ ms rv p => h2 ρ H σ Q v H0 lo hi S ms rv p⟩
  | d d =>
    cases d with
    | str s =>
      refine ⟨_, sl_str, fun ρ H σ Q v H0 lo hi S _ ms rv p => ?_⟩
      cases rv
      cases hb : Nat.ble s.length big with
      | false => simp only [slcT, hb] at p; exact (show False from p).elim
      | true =>
        simp only [slcT, hb] at p
        refine ⟨_, rfl, by rw [sOf_len]; exact le_big hb, ?_⟩
        have e : cutS (sOf s) lo hi = sOf (cutL s lo hi) := by
          unfold cutS cutL
          rw [sOf_len]
        rw [e]
        exact Pst.now (P := pD X.K) p ms (.str _)
    | tup xs =>
      refine ⟨_, sl_tupA, fun ρ H σ Q v H0 lo hi S _ ms rv p => ?_⟩
      cases rv with
      | @tup a vs _ q rs =>
        refine ⟨a, vs, rfl, q, fun hw => ?_, fun _ b hb => ?_⟩
        · have p' : Pst X.K N W (pD X.K) (.ok (.tup (cutL xs lo hi)) S) ρ H σ Q := p
          rw [rs.length] at hw
          rw [cutL_whole hw] at p'
          exact p'.now ms (.tup q rs)
        · exact p (.ref b) _ ρ (Ext.tmp hb) (ms.tmp hb) (.tup (SqT.of upd_same) ((cutL_reps rs lo hi).mono (Ext.tmp hb)))
    | ref n =>
      obtain ⟨r, h1, h2⟩ := gen (.d (.ref n)) rfl
      exact ⟨r, h1, fun ρ H σ Q v H0 lo hi S _ ms rv p => h2 ρ H σ Q v H0 lo hi S ms rv p⟩
    | _ => exact ⟨_, slR_no, fun ρ H σ Q v H0 lo hi S _ ms rv p => (show False from p)⟩
theorem se_slc {a : Expr} {ia : A} {lo hi : Option Expr} {il ih : Oe} {pos p2 : Pos} (ha : SA N W X a (evA T cl ia)) (hl : SO N W X lo (evO T cl il)) (hh : SO N W X hi (evO T cl ih)) : SE N W X (.Subscript a (.Slice lo hi none p2) pos) (ev T cl (.slc ia il ih)) :=
  peAt fun σ H Q h => by
    obtain ⟨ρ, Γ, S, rel, ms, p⟩ := h
    unfold ev at p
    have key : ∃ r, SlR X r ∧ ∀ x S1, evA T cl ia Γ S = .ok x S1 → ∀ ρ H σ Q v H0 lo hi S, MS X.K ρ H N S → TV.Rp X.K ρ H H0 v x → Pst X.K N W (pD X.K) (slcT x lo hi S) ρ H σ Q → r v lo hi H Q := by
      cases e : evA T cl ia Γ S with
      | ok x S1 =>
        cases x with
        | l xs =>
          obtain ⟨r, h1, h2⟩ := slc_ok (X := X) (N := N) (W := W) (.l xs) S1
          exact ⟨r, h1, fun x' S1' q ρ H σ Q v H0 lo hi S ms rv p => by cases q; exact h2 ρ H σ Q v H0 lo hi S rfl ms rv p⟩
        | d d =>
          cases d with
          | ref n =>
            refine ⟨_, sl_list, fun x' S1' q ρ H σ Q v H0 lo hi S ms rv p => ?_⟩
            cases q
            simp only [slcT] at p
            cases hx : its S (.d (.ref n)) with
            | none => rw [hx] at p; exact (show False from p).elim
            | some xs =>
              rw [hx] at p
              obtain ⟨a, vs, rfl, rs, (⟨_, q⟩ | ⟨h, _⟩)⟩ := its_sq ms rv hx
              · refine ⟨a, vs, rfl, q, fun b hb => ?_⟩
                have e : Ext X.K ρ (ρ ++ [b]) H (upd H b (.lst (cutV vs lo hi))) := Ext.push hb
                refine p (.ref b) _ (ρ ++ [b]) e (ms.push hb ⟨_, upd_same, (cutL_reps rs lo hi).mono e⟩) (.ref ?_)
                rw [← ms.len]; simp
              · cases h
          | _ =>
            obtain ⟨r, h1, h2⟩ := slc_ok (X := X) (N := N) (W := W) _ S1
            exact ⟨r, h1, fun x' S1' q ρ H σ Q v H0 lo hi S ms rv p => by cases q; exact h2 ρ H σ Q v H0 lo hi S rfl ms rv p⟩
      | _ => exact ⟨_, slR_no, fun _ _ q => nomatch q⟩
    obtain ⟨r, h1, h2⟩ := key
    refine ⟨_, pe_slice h1 ha hl hh, step pmD rel ms p fun x S1 v H1 ρ1 q1 e1 ms1 rel1 r1 p1 => step pmD rel1 ms1 p1 fun l S2 l' H2 ρ2 q2 e2 ms2 rel2 r2 p2 => step pmD rel2 ms2 p2 fun u S3 u' H3 ρ3 q3 e3 ms3 rel3 r3 p3 => ?_⟩
    cases r2; cases r3
    exact h2 x S1 q1 ρ3 H3 σ Q v H l u S3 ms3 ((r1.mono e2).mono e3) p3
/-! ### built-in functions of one operand -/
theorem callR_no {f : Value} : CallR X f fun _ _ _ => False := fun _ _ _ _ _ _ _ _ _ h => h.elim
def CallOk (X : Cx) (N : Nm) (W : WX) (f : Value) (x : TV) (S : Sto) (r0 : R D) : Prop := r0 = .stuck ∨ ∃ r : List V → Hp → VK → Prop, CallR X f r ∧
  ∀ ρ H σ Q v H0, MS X.K ρ H N S → TV.Rp X.K ρ H H0 v x → Pst X.K N W (pD X.K) r0 ρ H σ Q → r [v] H Q
theorem one {f : Value} {ma : Ev → Sto → R TV} {g : TV → Sto → R D} {ρ : List Addr} {Γ : Ev} {S : Sto} {H : Hp} {σ : L2.St} {Q : VK} (rel : RelE X.K ρ H Γ σ) (ms : MS X.K ρ H N S)
    (p : Pst X.K N W (pD X.K) ((ma Γ S).bind fun x S => g x S) ρ H σ Q) (hg : ∀ x S, CallOk X N W f x S (g x S)) :
    ∃ r, CallR X f r ∧ tCB r (tCons (tG X.K N W (pT X.K) ma) tNil) σ H Q := by
  have key : ∃ r, CallR X f r ∧ ∀ x S1, ma Γ S = .ok x S1 → g x S1 = .stuck ∨ ∀ ρ H σ Q v H0, MS X.K ρ H N S1 → TV.Rp X.K ρ H H0 v x → Pst X.K N W (pD X.K) (g x S1) ρ H σ Q → r [v] H Q := by
    cases e1 : ma Γ S with
    | ok x S1 =>
      rcases hg x S1 with h | ⟨r, h1, h2⟩
      · exact ⟨_, callR_no, fun x' S1' q1 => by cases q1; exact .inl h⟩
      · exact ⟨r, h1, fun x' S1' q1 => by cases q1; exact .inr h2⟩
    | _ => exact ⟨_, callR_no, fun x' S1' q1 => nomatch q1⟩
  obtain ⟨r, hr, hq⟩ := key
  refine ⟨r, hr, step pmD rel ms p fun x S1 v H1 ρ1 q1 e1 ms1 rel1 r1 p1 => ?_⟩
  rcases hq x S1 q1 with h | h
  · rw [h] at p1; exact p1.elim
  · exact h ρ1 H1 σ Q v H ms1 r1 p1
/-- the built-in's value -/
def bfVal : Bf → Option Value
  | .len => some (.builtin "len")
  | .int => some (.type "int")
  | .bool => some (.type "bool")
  | .str => some (.type "str")
  | .list => some (.type "list")
  | .tuple => some (.type "tuple")
  | .all => some (.builtin "all")
  | .any => some (.builtin "any")
  | _ => none
def bfName : Bf → Str
  | .len => "len"
  | .int => "int"
  | .bool => "bool"
  | .str => "str"
  | .list => "list"
  | .tuple => "tuple"
  | .all => "all"
  | .any => "any"
  | .setlen => "set"
  | .sorted => "sorted"
theorem bls_of {K : PySem.W.Frag} {ρ : List Addr} {H : Hp} : ∀ {vs : List V} {ds : List D} {bs : List Bool}, Reps K ρ H vs ds → blsD ds = some bs → vs = bs.map V.bl
  | _, _, _, .nil, h => by cases h; rfl
  | _, _, bs, .cons (d := d) (ds := ds) a b, h => by
    cases a with
    | bl c =>
      unfold blsD at h
      cases e : blsD ds with
      | none => rw [e] at h; cases h
      | some cs => rw [e] at h; cases h; rw [bls_of b e]; rfl
    | _ => cases h
theorem digit_ok {i : Int} (h : (decide (0 ≤ i) && decide (i < 10)) = true) : (Str.ofString (toString i)) = sOf [48 + i.toNat] ∧ i.natAbs.log2 < 1920 := by
  simp only [Bool.and_eq_true, decide_eq_true_eq] at h
  have : i = 0 ∨ i = 1 ∨ i = 2 ∨ i = 3 ∨ i = 4 ∨ i = 5 ∨ i = 6 ∨ i = 7 ∨ i = 8 ∨ i = 9 := by omega
  rcases this with e | e | e | e | e | e | e | e | e | e <;> subst e <;> exact ⟨by decide +kernel, by decide +kernel⟩
theorem bf_ok (hc : X.calm = true) (f : Bf) (fv : Value) (hf : bfVal f = some fv) (x : TV) (S : Sto) : CallOk X N W fv x S (bfT T cl f x S) := by
  cases f with
  | len =>
    cases hf
    have gen : ∀ x : TV, CallOk X N W (.builtin "len") x S (match its S x with
        | some xs => .ok (.int xs.length) S
        | none => .stuck) := fun x => by
      cases hx : its S x with
      | none => exact .inl rfl
      | some xs =>
        refine .inr ⟨_, call_len_seq, fun ρ H σ Q v H0 ms rv p => ?_⟩
        obtain ⟨a, vs, rfl, rs, h⟩ := its_sq ms rv hx
        refine ⟨a, vs, rfl, ?_, ?_⟩
        · rcases h with ⟨_, q⟩ | ⟨_, q⟩
          · exact .inl q
          · exact .inr q
        · rw [rs.length]
          exact Pst.now (P := pD X.K) p ms (.int _)
    unfold bfT
    simp only
    split
    · rename_i s
      cases hb : Nat.ble s.length big with
      | false => exact .inl rfl
      | true =>
        refine .inr ⟨_, call_len_str, fun ρ H σ Q v H0 ms rv p => ?_⟩
        cases rv
        refine ⟨_, rfl, by rw [sOf_len]; exact le_big hb, ?_⟩
        rw [sOf_len]
        exact Pst.now (P := pD X.K) p ms (.int _)
    · exact gen _
  | int =>
    cases hf
    unfold bfT
    simp only
    split
    · refine .inr ⟨_, call_int1, fun ρ H σ Q v H0 ms rv p => ?_⟩
      cases rv
      exact .inl ⟨_, rfl, Pst.now (P := pD X.K) p ms (.int _)⟩
    · refine .inr ⟨_, call_int1, fun ρ H σ Q v H0 ms rv p => ?_⟩
      cases rv
      exact .inr ⟨_, rfl, Pst.now (P := pD X.K) p ms (.int _)⟩
    · exact .inl rfl
  | bool =>
    cases hf
    unfold bfT
    simp only
    split
    · rename_i i
      refine .inr ⟨_, call_bool1, fun ρ H σ Q v H0 ms rv p => ?_⟩
      cases rv
      refine .inl ⟨_, rfl, ?_⟩
      have e : (i != 0) = !decide (i = 0) := by rw [bne, Bool.beq_eq_decide_eq]
      rw [e]
      exact Pst.now (P := pD X.K) p ms (.bl _)
    · refine .inr ⟨_, call_bool1, fun ρ H σ Q v H0 ms rv p => ?_⟩
      cases rv
      exact .inr ⟨_, rfl, Pst.now (P := pD X.K) p ms (.bl _)⟩
    · exact .inl rfl
  | str =>
    cases hf
    unfold bfT
    simp only
    split
    · rename_i i
      cases hb : (decide (0 ≤ i) && decide (i < 10)) with
      | false => exact .inl rfl
      | true =>
        refine .inr ⟨_, call_str_int, fun ρ H σ Q v H0 ms rv p => ?_⟩
        cases rv
        obtain ⟨h1, h2⟩ := digit_ok hb
        refine ⟨i, rfl, h2, ?_⟩
        rw [h1]
        exact Pst.now (P := pD X.K) p ms (.str _)
    · exact .inl rfl
  | list =>
    cases hf
    unfold bfT
    simp only
    cases hx : its S x with
    | none => exact .inl rfl
    | some xs =>
      refine .inr ⟨_, call_list_of, fun ρ H σ Q v H0 ms rv p => ?_⟩
      obtain ⟨a, vs, rfl, rs, h⟩ := its_sq ms rv hx
      refine ⟨a, vs, rfl, ?_, fun b hb => ?_⟩
      · rcases h with ⟨_, q⟩ | ⟨_, q⟩
        · exact .inl q
        · exact .inr q
      · have e : Ext X.K ρ (ρ ++ [b]) H (upd H b (.lst vs)) := Ext.push hb
        refine p (.ref b) _ (ρ ++ [b]) e (ms.push hb ⟨_, upd_same, rs.mono e⟩) (.ref ?_)
        rw [← ms.len]; simp
  | tuple =>
    cases hf
    unfold bfT
    simp only
    cases hx : its S x with
    | none => exact .inl rfl
    | some xs =>
      refine .inr ⟨_, call_tuple_of, fun ρ H σ Q v H0 ms rv p => ?_⟩
      obtain ⟨a, vs, rfl, rs, h⟩ := its_sq ms rv hx
      refine ⟨a, vs, rfl, ?_⟩
      rcases h with ⟨_, q⟩ | ⟨_, q⟩
      · exact .inl ⟨q, fun b hb => p (.ref b) _ ρ (Ext.tmp hb) (ms.tmp hb) (.tup (SqT.of upd_same) (rs.mono (Ext.tmp hb)))⟩
      · exact .inr ⟨q, Pst.now (P := pD X.K) p ms (.tup q rs)⟩
  | all =>
    cases hf
    unfold bfT
    simp only
    cases ht : isTup x with
    | true => exact .inl rfl
    | false =>
      cases hx : its S x with
      | none => exact .inl rfl
      | some xs =>
        cases hb : blsD xs with
        | none => exact .inl (by simp [Option.bind, hb])
        | some bs =>
          have e : (some xs).bind blsD = some bs := hb
          rw [e]
          refine .inr ⟨_, cr_all hc, fun ρ H σ Q v H0 ms rv p => ?_⟩
          obtain ⟨a, vs, rfl, rs, (⟨_, q⟩ | ⟨h, _⟩)⟩ := its_sq ms rv hx
          · rw [bls_of rs hb] at q
            exact ⟨a, bs, rfl, q, Pst.now (P := pD X.K) p ms (.bl _)⟩
          · rw [ht] at h; cases h
  | any =>
    cases hf
    unfold bfT
    simp only
    cases ht : isTup x with
    | true => exact .inl rfl
    | false =>
      cases hx : its S x with
      | none => exact .inl rfl
      | some xs =>
        cases hb : blsD xs with
        | none => exact .inl (by simp [Option.bind, hb])
        | some bs =>
          have e : (some xs).bind blsD = some bs := hb
          rw [e]
          refine .inr ⟨_, cr_any hc, fun ρ H σ Q v H0 ms rv p => ?_⟩
          obtain ⟨a, vs, rfl, rs, (⟨_, q⟩ | ⟨h, _⟩)⟩ := its_sq ms rv hx
          · rw [bls_of rs hb] at q
            exact ⟨a, bs, rfl, q, Pst.now (P := pD X.K) p ms (.bl _)⟩
          · rw [ht] at h; cases h
  | setlen => cases hf
  | sorted => cases hf
theorem se_bf (C : Cok cc T cl N W k X) {a : Expr} {ia : A} {f : Bf} {fv : Value} {x : Str} {p pos : Pos} (ha : SA N W X a (evA T cl ia)) (hs : isStar a = false) (hg : Gl X x) (hx : x = bfName f) (hf : bfVal f = some fv) : SE N W X (.Call (.Name x p) [a] [] pos) (ev T cl (.bf f ia)) := by
  have hm : X.mg x = none := bltn_free C (by subst hx; cases f <;> decide +kernel)
  have hn : x ≠ "__name__" := by subst hx; cases f <;> decide +kernel
  have hd : (x == ("__debug__" : Str)) = false := by subst hx; cases f <;> decide +kernel
  have hb : bootBuiltins x = some fv := by subst hx; cases f <;> cases hf <;> decide +kernel
  refine peAt fun σ H Q h => ?_
  obtain ⟨ρ, Γ, S, rel, ms, q⟩ := h
  unfold ev at q
  obtain ⟨r, h1, h2⟩ := one (f := fv) rel ms q fun x S => bf_ok C.calm f fv hf x S
  have hpa := pa_cons ha pa_nil (starEach_cons hs)
  cases fv with
  | builtin id => exact ⟨_, pe_callB h1 hg hm hb hpa hn hd (starEach_cons hs), h2⟩
  | type t => exact ⟨_, pe_callTy h1 hg hm hb hpa hn hd (starEach_cons hs), h2⟩
  | _ => cases f <;> cases hf
/-- min, max of two ints -/
theorem se_mnx (C : Cok cc T cl N W k X) {a b : Expr} {ia ib : E} {mx : Bool} {x : Str} {p pos : Pos} (ha : SE N W X a (ev T cl ia)) (hb : SE N W X b (ev T cl ib)) (hsa : isStar a = false) (hsb : isStar b = false) (hg : Gl X x) (hx : x = if mx then "max" else "min") :
    SE N W X (.Call (.Name x p) [a, b] [] pos) (ev T cl (.mnx mx ia ib)) := by
  cases mx with
  | true =>
    subst hx
    refine peImp (pe_callB (call_max2 C.calm) hg (bltn_free C (by decide +kernel)) boot_max (pa_cons ha (pa_cons hb pa_nil (starEach_cons hsb)) (starEach_cons hsa)) (by decide +kernel) (by decide +kernel) (starEach_cons hsa) (star_any (by simp [hsb]))) fun σ H Q h => ?_
    obtain ⟨ρ, Γ, S, rel, ms, q⟩ := h
    unfold ev at q
    refine step pmD rel ms q fun d S1 v H1 ρ1 _ e1 ms1 rel1 r1 p1 => step pmD rel1 ms1 p1 fun d2 S2 w H2 ρ2 _ e2 ms2 rel2 r2 p2 => ?_
    cases r1 with
    | int i => cases r2 with
      | int j => exact ⟨i, j, rfl, Pst.now (P := pD X.K) p2 ms2 (.int _)⟩
      | _ => exact (show False from p2).elim
    | _ => cases r2 <;> exact (show False from p2).elim
  | false =>
    subst hx
    refine peImp (pe_callB (call_min2 C.calm) hg (bltn_free C (by decide +kernel)) boot_min (pa_cons ha (pa_cons hb pa_nil (starEach_cons hsb)) (starEach_cons hsa)) (by decide +kernel) (by decide +kernel) (starEach_cons hsa) (star_any (by simp [hsb]))) fun σ H Q h => ?_
    obtain ⟨ρ, Γ, S, rel, ms, q⟩ := h
    unfold ev at q
    refine step pmD rel ms q fun d S1 v H1 ρ1 _ e1 ms1 rel1 r1 p1 => step pmD rel1 ms1 p1 fun d2 S2 w H2 ρ2 _ e2 ms2 rel2 r2 p2 => ?_
    cases r1 with
    | int i => cases r2 with
      | int j => exact ⟨i, j, rfl, Pst.now (P := pD X.K) p2 ms2 (.int _)⟩
      | _ => exact (show False from p2).elim
    | _ => cases r2 <;> exact (show False from p2).elim
end
end DL

set_option linter.all false
set_option maxRecDepth 100000
set_option maxHeartbeats 2000000
set_option autoImplicit false
/-! DL8: methods of lists; calls of the text's own defs, methods and classes. -/
namespace DL
open PySem PySem.Spec PyProof.Rows L2
section
variable {cc : CC} {T : Tb} {cl : Orc} {N : Nm} {W : WX} {k : Nat} {X : Cx}
theorem few1 {e : Expr} {env : Env} {cpos : Pos} (h : isStar e = false) : ((backTo cpos (starEach [e] env)).all (fun x => !x.1) && (backToKw cpos (keywordEach [] env)).all (fun x => x.1.isSome) && decide (([e] : List Expr).length + ([] : List Keyword).length + (if ([] : List Keyword).isEmpty then 0 else 1) < 30)) = true := by
  rw [starEach_cons h]; rfl
theorem rcv_lst {S : Sto} {n : Nat} (h : (lsts S (.d (.ref n))).isSome = true) : ∃ xs, S[n]? = some (.lst xs) := by
  simp only [lsts] at h
  cases e : S[n]? with
  | none => rw [e] at h; cases h
  | some o =>
    rw [e] at h
    cases o with
    | lst xs => exact ⟨xs, rfl⟩
    | _ => cases h
theorem ty_lst {ρ : List Addr} {H : Hp} {S : Sto} (ms : MS X.K ρ H N S) {n : Nat} {a : Addr} (hr : ρ[n]? = some a) (h : (lsts S (.d (.ref n))).isSome = true) : tyV X.K "list" (.ref a) H := by
  obtain ⟨xs, e⟩ := rcv_lst h
  obtain ⟨o, ho, ro⟩ := ms.lookup hr
  rw [e] at ho; cases ho
  obtain ⟨vs, h1, _⟩ := ro
  exact .inl ⟨rfl, vs, SqL.of h1⟩
theorem at_lst {ρ : List Addr} {H : Hp} {S : Sto} (ms : MS X.K ρ H N S) {n : Nat} {a : Addr} {xs : List D} (hr : ρ[n]? = some a) (e : S[n]? = some (.lst xs)) : ∃ vs, H a = some (.lst vs) ∧ Reps X.K ρ H vs xs := by
  obtain ⟨o, ho, ro⟩ := ms.lookup hr
  rw [e] at ho; cases ho
  exact ro
/-- a list of the store is written -/
theorem MS.wl {ρ : List Addr} {H : Hp} {S : Sto} (ms : MS X.K ρ H N S) {n : Nat} {a : Addr} {vs : List V} {ds : List D} (hr : ρ[n]? = some a) (r : Reps X.K ρ H vs ds) : Ext X.K ρ ρ H (upd H a (.lst vs)) ∧ MS X.K ρ (upd H a (.lst vs)) N (S.set n (.lst ds)) := by
  have e : Ext X.K ρ ρ H (upd H a (.lst vs)) := Ext.wr ms (List.mem_of_getElem? hr)
  exact ⟨e, ms.set hr ⟨vs, upd_same, r.mono e⟩⟩
theorem lt_big {n : Nat} (h : Nat.blt n big = true) : n < sizeLine := by
  rw [← big_eq]; exact Nat.le_of_ble_eq_true h
section
variable {o e : Expr} {io : E} {ie : A} {apos cpos : Pos}
theorem se_append (ho : SE N W X o (ev T cl io)) (he : SA N W X e (evA T cl ie)) (hn : noSuper o = true) (hs : isStar e = false) (hl : (apos.endLine == cpos.line) = true) :
    SE N W X (.Call (.Attribute o "append" apos) [e] [] cpos) (ev T cl (.mt .append io ie)) :=
  peImp (pe_bm PySem.F.plainAttrs_list PySem.F.slot_list_append PySem.F.type_list_append mt_append ho (pa_cons he pa_nil (starEach_cons hs)) (attrBase hn _ _) (few1 hs) hl (starEach_cons hs)) fun σ H Q h => by
    obtain ⟨ρ, Γ, S, rel, ms, q⟩ := h
    unfold ev at q
    refine step pmD rel ms q fun x S1 v H1 ρ1 _ e1 ms1 rel1 r1 p1 => ?_
    cases r1 with
    | @ref n a hr =>
      cases hc : rcv S1 .append (.ref n) with
      | false => simp only [hc] at p1; exact (show False from p1).elim
      | true =>
        simp only [hc, gd] at p1
        refine ⟨ty_lst ms1 hr hc, step pmD rel1 ms1 p1 fun y S2 w H2 ρ2 _ e2 ms2 rel2 r2 p2 => ?_⟩
        simp only [mtT] at p2
        split at p2
        · rename_i xs y' hx hy0
          cases hb : Nat.blt xs.length big with
          | false => rw [hb] at p2; exact (show False from p2).elim
          | true =>
            rw [hb] at p2
            obtain ⟨vs, h1, h2⟩ := at_lst ms2 (e2.pre _ _ hr) hx
            have h3 : Reps X.K ρ2 H2 (vs ++ [w]) (xs ++ [y']) := h2.append (.cons r2 .nil)
            obtain ⟨ex, ms3⟩ := ms2.wl (e2.pre _ _ hr) h3
            exact ⟨a, vs, w, rfl, rfl, h1, by rw [h2.length]; exact lt_big hb, p2 .non _ ρ2 ex ms3 .non⟩
        · exact (show False from p2).elim
    | _ => exact (show False from p1).elim
theorem se_extend (ho : SE N W X o (ev T cl io)) (he : SA N W X e (evA T cl ie)) (hn : noSuper o = true) (hs : isStar e = false) (hl : (apos.endLine == cpos.line) = true) :
    SE N W X (.Call (.Attribute o "extend" apos) [e] [] cpos) (ev T cl (.mt .extend io ie)) :=
  peImp (pe_bm PySem.F.plainAttrs_list PySem.F.slot_list_extend PySem.F.type_list_extend mt_extend ho (pa_cons he pa_nil (starEach_cons hs)) (attrBase hn _ _) (few1 hs) hl (starEach_cons hs)) fun σ H Q h => by
    obtain ⟨ρ, Γ, S, rel, ms, q⟩ := h
    unfold ev at q
    refine step pmD rel ms q fun x S1 v H1 ρ1 _ e1 ms1 rel1 r1 p1 => ?_
    cases r1 with
    | @ref n a hr =>
      cases hc : rcv S1 .extend (.ref n) with
      | false => simp only [hc] at p1; exact (show False from p1).elim
      | true =>
        simp only [hc, gd] at p1
        refine ⟨ty_lst ms1 hr hc, step pmD rel1 ms1 p1 fun y S2 w H2 ρ2 _ e2 ms2 rel2 r2 p2 => ?_⟩
        simp only [mtT] at p2
        split at p2
        · rename_i xs ys hx hy
          cases hb : Nat.ble (xs.length + ys.length) big with
          | false => rw [hb] at p2; exact (show False from p2).elim
          | true =>
            rw [hb] at p2
            obtain ⟨vs, h1, h2⟩ := at_lst ms2 (e2.pre _ _ hr) hx
            obtain ⟨b, ws, rfl, hb', rb⟩ := lsts_at ms2 r2 hy
            obtain ⟨ex, ms3⟩ := ms2.wl (e2.pre _ _ hr) (h2.append rb)
            exact ⟨a, b, vs, ws, rfl, rfl, h1, hb', by rw [h2.length, rb.length]; exact le_big hb, p2 .non _ ρ2 ex ms3 .non⟩
        · exact (show False from p2).elim
    | _ => exact (show False from p1).elim
theorem findIdx_spec {α : Type} {p : α → Bool} : ∀ {xs : List α} {j : Nat}, xs.findIdx? p = some j → (∃ z, xs[j]? = some z ∧ p z = true) ∧ ∀ m z, m < j → xs[m]? = some z → p z = false
  | xs, j, h => by
    rw [List.findIdx?_eq_some_iff_getElem] at h
    obtain ⟨hl, hp, hm⟩ := h
    refine ⟨⟨xs[j], by simp [hl], hp⟩, fun m z hj hz => ?_⟩
    obtain ⟨hml, e⟩ := List.getElem?_eq_some_iff.mp hz
    have := hm m hj
    rw [e] at this
    simpa using this
theorem toPs_get : ∀ (xs : List D) (j : Nat), (toPs xs)[j]? = (xs[j]?).map toP
  | [], j => by simp [toPs]
  | x :: xs, 0 => by simp [toPs]
  | x :: xs, j + 1 => by simp [toPs, toPs_get xs j]
theorem se_index (C : Cok cc T cl N W k X) (ho : SE N W X o (ev T cl io)) (he : SA N W X e (evA T cl ie)) (hn : noSuper o = true) (hs : isStar e = false) (hl : (apos.endLine == cpos.line) = true) :
    SE N W X (.Call (.Attribute o "index" apos) [e] [] cpos) (ev T cl (.mt .index io ie)) :=
  peImp (pe_bm PySem.F.plainAttrs_list PySem.F.slot_list_index PySem.F.type_list_index (mt_indexD (by have := C.rm.un; omega)) ho (pa_cons he pa_nil (starEach_cons hs)) (attrBase hn _ _) (few1 hs) hl (starEach_cons hs)) fun σ H Q h => by
    obtain ⟨ρ, Γ, S, rel, ms, q⟩ := h
    unfold ev at q
    refine step pmD rel ms q fun x S1 v H1 ρ1 _ e1 ms1 rel1 r1 p1 => ?_
    cases r1 with
    | @ref n a hr =>
      cases hc : rcv S1 .index (.ref n) with
      | false => simp only [hc] at p1; exact (show False from p1).elim
      | true =>
        simp only [hc, gd] at p1
        refine ⟨ty_lst ms1 hr hc, step pmD rel1 ms1 p1 fun y S2 w H2 ρ2 _ e2 ms2 rel2 r2 p2 => ?_⟩
        simp only [mtT] at p2
        split at p2
        · rename_i xs y' hx hy0
          cases hb : (okD 20 y' && xs.all (okD 20)) with
          | false => rw [hb] at p2; exact (show False from p2).elim
          | true =>
            rw [hb] at p2
            rw [Bool.and_eq_true] at hb
            cases hj : ixOf xs y' with
            | none => rw [hj] at p2; exact (show False from p2).elim
            | some j =>
              rw [hj] at p2
              obtain ⟨vs, h1, h2⟩ := at_lst ms2 (e2.pre _ _ hr) hx
              obtain ⟨⟨z, hz, hp⟩, hm⟩ := findIdx_spec hj
              have hzo : okD 20 z = true := List.all_eq_true.mp hb.2 z (List.mem_of_getElem? hz)
              refine ⟨a, w, toP y', toPs xs, j, toP z, rfl, rfl, .lst (SqL.of h1) (h2.dp hb.2), Rep.dp r2 hb.1, toPs_shaped hb.2, toP_shaped hb.1, by rw [toPs_get, hz]; rfl, by rw [eqv_toP z y' 20 20 hzo hb.1]; exact hp, fun m z' hmj hz' => ?_, Pst.now (P := pD X.K) p2 ms2 (.int _)⟩
              rw [toPs_get] at hz'
              cases hq : xs[m]? with
              | none => rw [hq] at hz'; cases hz'
              | some u =>
                rw [hq] at hz'
                cases hz'
                have huo : okD 20 u = true := List.all_eq_true.mp hb.2 u (List.mem_of_getElem? hq)
                rw [eqv_toP u y' 20 20 huo hb.1]
                exact hm m u hmj hq
        · exact (show False from p2).elim
    | _ => exact (show False from p1).elim
theorem se_pop (ho : SE N W X o (ev T cl io)) (hn : noSuper o = true) (hl : (apos.endLine == cpos.line) = true) :
    SE N W X (.Call (.Attribute o "pop" apos) [] [] cpos) (ev T cl (.mt0 .pop io)) :=
  peImp (pe_bm0 PySem.F.plainAttrs_list PySem.F.slot_list_pop PySem.F.type_list_pop mt_pop ho (attrBase hn _ _) hl) fun σ H Q h => by
    obtain ⟨ρ, Γ, S, rel, ms, q⟩ := h
    unfold ev at q
    refine step pmD rel ms q fun x S1 v H1 ρ1 _ e1 ms1 rel1 r1 p1 => ?_
    cases r1 with
    | @ref n a hr =>
      cases hc : rcv S1 .pop (.ref n) with
      | false => simp only [hc] at p1; exact (show False from p1).elim
      | true =>
        simp only [hc, gd] at p1
        refine ⟨ty_lst ms1 hr hc, ?_⟩
        simp only [mt0T] at p1
        split at p1
        · rename_i xs hx
          cases hy : xs[xs.length - 1]? with
          | none => rw [hy] at p1; exact (show False from p1).elim
          | some y =>
            rw [hy] at p1
            obtain ⟨vs, h1, h2⟩ := at_lst ms1 hr hx
            obtain ⟨w, hw1, hw2⟩ := h2.get hy
            obtain ⟨ex, ms3⟩ := ms1.wl hr h2.dropLast
            exact ⟨a, vs, w, rfl, rfl, h1, by rw [h2.length]; exact hw1, p1 w _ ρ1 ex ms3 (hw2.mono ex)⟩
        · exact (show False from p1).elim
    | _ => exact (show False from p1).elim
theorem se_clear (ho : SE N W X o (ev T cl io)) (hn : noSuper o = true) (hl : (apos.endLine == cpos.line) = true) :
    SE N W X (.Call (.Attribute o "clear" apos) [] [] cpos) (ev T cl (.mt0 .clear io)) :=
  peImp (pe_bm0 PySem.F.plainAttrs_list PySem.F.slot_list_clear PySem.F.type_list_clear mt_clear ho (attrBase hn _ _) hl) fun σ H Q h => by
    obtain ⟨ρ, Γ, S, rel, ms, q⟩ := h
    unfold ev at q
    refine step pmD rel ms q fun x S1 v H1 ρ1 _ e1 ms1 rel1 r1 p1 => ?_
    cases r1 with
    | @ref n a hr =>
      cases hc : rcv S1 .clear (.ref n) with
      | false => simp only [hc] at p1; exact (show False from p1).elim
      | true =>
        simp only [hc, gd] at p1
        refine ⟨ty_lst ms1 hr hc, ?_⟩
        simp only [mt0T] at p1
        split at p1
        · rename_i xs hx
          obtain ⟨vs, h1, h2⟩ := at_lst ms1 hr hx
          obtain ⟨ex, ms3⟩ := ms1.wl (vs := []) (ds := []) hr .nil
          exact ⟨a, vs, rfl, rfl, h1, p1 .non _ ρ1 ex ms3 .non⟩
        · exact (show False from p1).elim
    | _ => exact (show False from p1).elim
end
/-! ### own defs -/
/-- the promise from what the interpreter says -/
theorem sp_of (C : Cok cc T cl N W k X) {f : Nat} {fn : Fn} (hf : T.fns[f]? = some fn) {ρ : List Addr} {H : Hp} {S : Sto} {σ : L2.St} {Q : VK} {vs : List V} {ds : List D} (ms : MS X.K ρ H N S) (rs : Reps X.K ρ H vs ds)
    (p : Pst X.K N W (pD X.K) (cl f ds S) ρ H σ Q) : spD N X.K cl f fn.np vs H Q (WE W σ) := by
  have hne : cl f ds S ≠ .stuck := fun e => by rw [e] at p; exact p
  obtain ⟨fn', h1, h2⟩ := C.hcl f ds S hne
  rw [hf] at h1; cases h1
  refine ⟨by rw [rs.length]; exact h2, ρ, ds, S, rs, ms, ?_⟩
  cases e : cl f ds S with
  | ok d S' => rw [e] at p; exact p
  | exc c fs S' => rw [e] at p; exact p
  | stuck => exact hne e
theorem fn_there (C : Cok cc T cl N W k X) {f : Nat} {ρ : List Addr} {H : Hp} {S : Sto} {σ : L2.St} {Q : VK} {ds : List D} (p : Pst X.K N W (pD X.K) (cl f ds S) ρ H σ Q) : ∃ fn, T.fns[f]? = some fn := by
  have hne : cl f ds S ≠ .stuck := fun e => by rw [e] at p; exact p
  obtain ⟨fn', h1, _⟩ := C.hcl f ds S hne
  exact ⟨fn', h1⟩
theorem se_call (C : Cok cc T cl N W k X) {e : Expr} {es : List Expr} {irs : Es} {f : Nat} {fn : Fn} {x : Str} {p pos : Pos} (ha : SEs N W X (e :: es) (evs T cl irs)) (hs : (e :: es).all (fun e => !isStar e) = true) (hg : Gl X x) (hx : cc.fns.lookup x = some f) (hf : T.fns[f]? = some fn) (hkw : fn.kw = false) (hd : (x == ("__debug__" : Str)) = false) :
    SE N W X (.Call (.Name x p) (e :: es) [] pos) (ev T cl (.call f irs)) := by
  obtain ⟨fd, ps, hl, F, B, _⟩ := C.fns f fn hf
  have B := B hkw
  obtain ⟨hm, hk⟩ := C.ko.fn x f hx
  simp only [List.all_cons, Bool.and_eq_true, Bool.not_eq_true'] at hs
  refine peImp (pe_callS F C.rm hg hm hk B (fun σ => passAt C.tk σ) ha hd (starEach_cons hs.1) (star_any hs.2)) fun σ H Q h => ?_
  obtain ⟨ρ, Γ, S, rel, ms, q⟩ := h
  unfold ev at q
  refine step pmD rel ms q fun ds S1 vs H1 ρ1 _ e1 ms1 rel1 r1 p1 => ?_
  exact sp_of C hf ms1 r1 p1
theorem se_call0 (C : Cok cc T cl N W k X) {f : Nat} {fn : Fn} {x : Str} {p pos : Pos} (hg : Gl X x) (hx : cc.fns.lookup x = some f) (hf : T.fns[f]? = some fn) (hkw : fn.kw = false) (hd : (x == ("__debug__" : Str)) = false) :
    SE N W X (.Call (.Name x p) [] [] pos) (ev T cl (.call f .nil)) := by
  obtain ⟨fd, ps, hl, F, B, _⟩ := C.fns f fn hf
  have B := B hkw
  obtain ⟨hm, hk⟩ := C.ko.fn x f hx
  refine ⟨fun pins s σ H Q I h => ?_⟩
  refine wpAny_Call_Name_kw (ld_glob I hg hm ?_ hd)
  refine PySem.W.callWith_K0 I.kIn hk (run_fnS (us := []) (vs := []) (E := WE W) F C.rm B (passAt C.tk σ) I .nil ?_)
  obtain ⟨ρ, Γ, S, rel, ms, q⟩ := h
  unfold ev evs at q
  exact sp_of C hf ms .nil q
/-! ### methods -/
theorem few_of {args : List Expr} {env : Env} {pos : Pos} (hs : args.all (fun e => !isStar e) = true) (hl : args.length < 30) : methodCallForm (args.length + ([] : List Keyword).length) (backTo pos (starEach args env)) (backToKw pos (keywordEach [] env)) = true := by
  have h : (backTo pos (starEach args env)).all (fun x => !x.1) = true := by
    rw [List.all_eq_not_any_not]
    have := star_any (env := env) (pos := pos) hs
    simp only [Bool.not_not]
    rw [this]; rfl
  show ((backTo pos (starEach args env)).all (fun x => !x.1) && true && decide (args.length + 0 + 0 < 30)) = true
  rw [h, decide_eq_true (by omega : args.length + 0 + 0 < 30)]
  rfl
theorem eval_meth {o : Expr} {m : Str} {apos pos : Pos} {args : List Expr} {env : Env} (hn : noSuper o = true) (hs : args.all (fun e => !isStar e) = true) (hl : args.length < 30) (hp : (apos.endLine == pos.line) = true) :
    eval (.Call (.Attribute o m apos) args [] pos) env = (do
      let ov ← eval o env
      standAt apos.atName
      let fx ← holding [ov] (getMethod ov m (plainOf o env))
      callWith pos fx.1 fx.2 (backTo pos (starEach args env)) (backToKw pos (keywordEach [] env))) := by
  have e : eval (.Call (.Attribute o m apos) args [] pos) env = (attributeBase o m env (eval o env) >>= fun ov => standAt apos.atName >>= fun _ => methodCall o m apos pos env ov (args.length + ([] : List Keyword).length) (backTo pos (starEach args env)) (backToKw pos (keywordEach [] env))) := rfl
  rw [e, attrBase hn]
  congr 1
  funext ov
  congr 1
  funext _
  rw [mcall_line (few_of hs hl) hp]
theorem mth_ok {c m f : Nat} (h : mth T c m = some f) : ∃ cd, T.cls[c]? = some cd ∧ lku cd.meths m = some f := by
  unfold mth at h
  cases e : T.cls[c]? with
  | none => rw [e] at h; cases h
  | some cd => rw [e] at h; exact ⟨cd, rfl, h⟩
theorem mthT_ok {S : Sto} {d : D} {m f : Nat} (h : mthT T S d m = some f) : ∃ n c fs, d = .ref n ∧ S[n]? = some (.ins c fs) ∧ lku fs m = none ∧ mth T c m = some f := by
  cases d with
  | ref n =>
    simp only [mthT] at h
    cases e : S[n]? with
    | none => rw [e] at h; cases h
    | some o =>
      rw [e] at h
      cases o with
      | ins c fs =>
        simp only at h
        cases e2 : lku fs m with
        | none => rw [e2] at h; exact ⟨n, c, fs, rfl, e, e2, h⟩
        | some _ => rw [e2] at h; cases h
      | _ => cases h
  | _ => cases h
theorem se_meth (C : Cok cc T cl N W k X) {o : Expr} {es : List Expr} {io : E} {irs : Es} {m : Nat} {x : Str} {apos pos : Pos} (ho : SE N W X o (ev T cl io)) (ha : SEs N W X es (evs T cl irs)) (hs : es.all (fun e => !isStar e) = true) (hl : es.length < 30) (hn : noSuper o = true)
    (hp : (apos.endLine == pos.line) = true) (hx : cc.nms[m]? = some x) (hmi : m ≠ iInit) (hni : es = [] → irs = .nil) : SE N W X (.Call (.Attribute o x apos) es [] pos) (ev T cl (.meth io m irs)) := by
  refine ⟨fun pins s σ H Q I h => ?_⟩
  refine methcall_of (pl := plainOf o X.env) ho I ?_ (eval_meth hn hs hl hp)
  obtain ⟨ρ, Γ, S, rel, ms, q⟩ := h
  unfold ev at q
  refine step pmD rel ms q fun d S1 v H1 ρ1 _ e1 ms1 rel1 r1 p1 => ?_
  obtain ⟨hm, hnm⟩ := C.ko.nms m x hx
  cases hg : mthT T S1 d m with
  | none => simp only [hg] at p1; exact (show False from p1).elim
  | some f =>
    simp only [hg] at p1
    obtain ⟨n, c, fs, rfl, hS, hno, hmt⟩ := mthT_ok hg
    obtain ⟨cd, hcd, hcm⟩ := mth_ok hmt
    have M := C.ko.meth c cd m f hcd hcm
    rw [hnm] at M
    obtain ⟨fn, hfn, hkw⟩ := C.mok c cd m f hcd hcm
    obtain ⟨fd, ps, hlen, F, B, _⟩ := C.fns f fn hfn
    have B := B (hkw hmi)
    cases r1 with
    | @ref _ a hr =>
      obtain ⟨ob, hob, ro⟩ := ms1.lookup hr
      rw [hS] at hob; cases hob
      obtain ⟨dx, vs, h1, h2, h3⟩ := ro
      have hlk := Fs.look C.ko.inj hm h3
      rw [hno] at hlk
      simp only [hnm] at hlk
      refine ⟨a, _, dx, vs, _, rfl, h1, (C.ko.cls c cd hcd).cl, M, hlk, fun s1 I1 => ?_⟩
      have hargs : tG X.K N W (pDs X.K) (evs T cl irs) σ H1 fun ws H2 => spD N X.K cl f fn.np (.ref a :: ws) H2 Q (WE W σ) :=
        step pmD rel1 ms1 p1 fun ds S2 ws H2 ρ2 _ e2 ms2 rel2 r2 p2 => sp_of C hfn ms2 (.cons (.ref (e2.pre _ _ hr)) r2) p2
      cases es with
      | nil =>
        refine PySem.W.callWith_K0 (first := [.ref a]) I1.kIn M.kp ?_
        have hi := hni rfl
        subst hi
        unfold evs at p1
        exact run_fnS (us := [.ref a]) (vs := [.ref a]) (E := WE W) F C.rm B (passAt C.tk σ) I1 (.cons rfl .nil) (sp_of C hfn ms1 (.cons (.ref hr) .nil) p1)
      | cons e es =>
        simp only [List.all_cons, Bool.and_eq_true, Bool.not_eq_true'] at hs
        refine PySem.W.callWith_K (first := [.ref a]) (h₀ := X.base) I.ok.mod.kin M.kp (thn (ha.run pos pins s1 σ H1 _ I1 hargs) fun us s2 ⟨ws, H2, I2, rv, sp⟩ => ⟨I2.kIn, ?_⟩) (starEach_cons hs.1) (star_any hs.2)
        exact run_fnS (us := .ref a :: us) (vs := .ref a :: ws) (E := WE W) F C.rm B (passAt C.tk σ) I2 (.cons rfl rv) sp
/-! ### a new instance -/
theorem run_new {CXx : CXT} {f C : Addr} {fd : FuncData} {ps : List Str} {sp : Sp} {E : XK} {j : Nat} {pins : List (Addr × Obj)} {σ : L2.St} {H : Hp} {s : Shared} {Q : VK} {us : List Value} {vs : List V} (M : Mk X.K C f) (F : FnOk X.prog X.w X.K X.mg X.base CXx j f fd ps sp)
    (hr : Room (j + 1) X.A) (hb : Binds X.K fd ps []) (hx : PassesAt CXx X σ E) (I : Inv X pins σ H s) (r : Vals vs us)
    (h : ∀ x dx, H x = none → H dx = none → dx ≠ x → sp (.ref x :: vs) (upd (upd H dx (.own x)) x (.ins C dx [])) (fun v H2 => v = .non ∧ Q (.ref x) H2) E) :
    wpAny (model X.prog X.w) X.A (call (.ref C) us) (EP X pins σ Q) X.xe s := by
  have fr : ∀ a, s.heap.objs.size ≤ a → H a = none := fun a ha => I.hok.fresh ha
  have hsp := h (s.heap.objs.size + 1) s.heap.objs.size (fr _ (Nat.le_succ _)) (fr _ (Nat.le_refl _)) (Nat.ne_of_lt (Nat.lt_succ_self _))
  have J := Inv.made (C := C) I
  have rv : Vals (V.ref (s.heap.objs.size + 1) :: vs) (Value.ref (s.heap.objs.size + 1) :: us) := .cons rfl r
  have hlen : (Value.ref (s.heap.objs.size + 1) :: us ++ []).length = ps.length := by
    have := F.len _ _ _ _ hsp
    have l := rv.length
    simp only [List.append_nil] at *
    omega
  have bd := hb _ (Value.ref (s.heap.objs.size + 1) :: us) J.kIn hlen
  rw [List.append_nil] at bd
  have run := F.run _ X.stack _ _ ⟨Value.ref (s.heap.objs.size + 1) :: us, []⟩ (Value.ref (s.heap.objs.size + 1) :: us) _ _ E (hr.make C us []) (J.env0.make C us []) bd rv hsp
  refine wpAny_call (make_map (f := f) I.kIn M.makes M.init (beq_iff_eq.mp M.fn) (codeAny_mono run fun res s' hq => ?_))
  match res, hq with
  | .error e, hq => exact hx pins _ _ e s' J hq
  | .ok (.ret u), hq =>
    obtain ⟨v, H', I3, rel, ev, q3⟩ := J.after hq
    subst ev
    exact ⟨rel, ⟨V.ref (s.heap.objs.size + 1), H', I3, rfl, q3⟩⟩
  | .ok .next, hq => exact False.elim hq
  | .ok .brk, hq => exact False.elim hq
  | .ok .cont, hq => exact False.elim hq
/-- an instance without fields, just made -/
theorem made_ms {ρ : List Addr} {H : Hp} {S : Sto} {c : Nat} {x dx : Addr} (ms : MS X.K ρ H N S) (hx : H x = none) (hdx : H dx = none) (ne : dx ≠ x) :
    Ext X.K ρ (ρ ++ [x]) H (upd (upd H dx (.own x)) x (.ins (N.ca c) dx [])) ∧ MS X.K (ρ ++ [x]) (upd (upd H dx (.own x)) x (.ins (N.ca c) dx [])) N (S ++ [.ins c []]) := by
  have hx1 : upd H dx (.own x) x = none := by rw [upd_ne (Ne.symm ne)]; exact hx
  have ms1 : MS X.K ρ (upd H dx (.own x)) N S := ms.tmp hdx
  refine ⟨(Ext.tmp hdx).trans (Ext.push hx1), ms1.push hx1 ⟨dx, [], upd_same, ?_, .nil⟩⟩
  rw [upd_ne ne]
  exact upd_same
/-- the promise of __init__ at a new instance -/
theorem sp_new {f c : Nat} {fn : Fn} (hcl : ∀ f ds S, cl f ds S ≠ .stuck → ∃ fn, T.fns[f]? = some fn ∧ ds.length = fn.np) (hf : T.fns[f]? = some fn) {ρ : List Addr} {H : Hp} {S : Sto} {σ : L2.St} {Q : VK} {vs : List V} {ds : List D} (ms : MS X.K ρ H N S) (rs : Reps X.K ρ H vs ds)
    (p : Pst X.K N W (pD X.K) ((cl f (.ref S.length :: ds) (S ++ [.ins c []])).bind fun d S' => (match d with
      | .non => .ok (.ref S.length) S'
      | _ => .stuck)) ρ H σ Q) {x dx : Addr} (hx : H x = none) (hdx : H dx = none) (ne : dx ≠ x) :
    spD N X.K cl f fn.np (.ref x :: vs) (upd (upd H dx (.own x)) x (.ins (N.ca c) dx [])) (fun v H2 => v = .non ∧ Q (.ref x) H2) (WE W σ) := by
  obtain ⟨ex, ms1⟩ := made_ms (c := c) ms hx hdx ne
  have hS : (ρ ++ [x])[S.length]? = some x := by rw [← ms.len]; simp
  have rs1 : Reps X.K (ρ ++ [x]) (upd (upd H dx (.own x)) x (.ins (N.ca c) dx [])) (.ref x :: vs) (.ref S.length :: ds) := .cons (.ref hS) (rs.mono ex)
  have hne : cl f (.ref S.length :: ds) (S ++ [.ins c []]) ≠ .stuck := fun e => by rw [e] at p; exact p
  obtain ⟨fn', h1, h2⟩ := hcl _ _ _ hne
  rw [hf] at h1; cases h1
  refine ⟨by rw [rs1.length]; exact h2, ρ ++ [x], _, _, rs1, ms1, ?_⟩
  cases e : cl f (.ref S.length :: ds) (S ++ [.ins c []]) with
  | stuck => exact hne e
  | exc a fs S' =>
    rw [e] at p
    exact fun cls dd H' ρ' e' ms' r => p cls dd H' ρ' (ex.trans e') ms' r
  | ok d S' =>
    rw [e] at p
    intro v H' ρ' e' ms' r
    cases r with
    | non => exact ⟨rfl, p (.ref x) H' ρ' (ex.trans e') ms' (.ref (e'.pre _ _ hS))⟩
    | _ => exact (show False from p).elim
theorem se_make (C : Cok cc T cl N W k X) {e : Expr} {es : List Expr} {irs : Es} {c f : Nat} {cd : Cls} {x : Str} {p pos : Pos} (ha : SEs N W X (e :: es) (evs T cl irs)) (hs : (e :: es).all (fun e => !isStar e) = true) (hg : Gl X x) (hx : cc.cls.lookup x = some c) (hcd : T.cls[c]? = some cd) (hi : lku cd.meths iInit = some f) {fn : Fn} (hfn : T.fns[f]? = some fn) (hkw : fn.kw = false) (hd : (x == ("__debug__" : Str)) = false) :
    SE N W X (.Call (.Name x p) (e :: es) [] pos) (ev T cl (.make c irs)) := by
  obtain ⟨hm, _⟩ := C.ko.cln x c hx
  simp only [List.all_cons, Bool.and_eq_true, Bool.not_eq_true'] at hs
  have M := C.ko.mkr c cd f hcd hi
  obtain ⟨fd, ps, hlen, F, B, _⟩ := C.fns f fn hfn
  have B := B hkw
  refine ⟨fun pins s σ H Q I h => ?_⟩
  obtain ⟨ρ, Γ, S, rel, ms, q⟩ := h
  unfold ev at q
  have hmt : mth T c iInit = some f := by unfold mth; rw [hcd]; exact hi
  rw [hmt] at q
  refine wpAny_Call_Name_kw (ld_glob I hg hm ?_ hd)
  have hargs : tG X.K N W (pDs X.K) (evs T cl irs) σ H fun ws H2 => ∀ x dx, H2 x = none → H2 dx = none → dx ≠ x → spD N X.K cl f fn.np (.ref x :: ws) (upd (upd H2 dx (.own x)) x (.ins (N.ca c) dx [])) (fun v H2 => v = .non ∧ Q (.ref x) H2) (WE W σ) :=
    step pmD rel ms q fun ds S2 ws H2 ρ2 _ e2 ms2 rel2 r2 p2 x dx hx hdx ne => sp_new C.hcl hfn ms2 r2 p2 hx hdx ne
  refine PySem.W.callWith_K (h₀ := X.base) I.ok.mod.kin M.kp (thn (ha.run pos pins s σ H _ I hargs) fun us s2 ⟨ws, H2, I2, rv, sp⟩ => ⟨I2.kIn, ?_⟩) (starEach_cons hs.1) (star_any hs.2)
  exact run_new M F C.rm1 B (passAt C.tk σ) I2 rv sp
/-! ### keywords and defaults -/
theorem skw {kws : List Keyword} {irs : Es} : ∀ {es : List Expr}, kws.map (·.value) = es → (∀ e ∈ es, True) → SEs N W X es (evs T cl irs) → True := fun _ _ _ => trivial
abbrev SK (N : Nm) (W : WX) (X : Cx) (ks : List Keyword) (m : Ev → Sto → R (List D)) : Prop := PK X ks (tG X.K N W (pDs X.K) m)
theorem pkImp {ks : List Keyword} {t t' : TA} (h : PK X ks t) (i : ∀ σ H Q, t' σ H Q → t σ H Q) : PK X ks t' := ⟨fun pos pins s σ H Q I q => h.run pos pins s σ H Q I (i σ H Q q)⟩
theorem sk_nil : SK N W X [] (evs T cl .nil) := pkImp pk_nil fun σ H Q h => by
  obtain ⟨ρ, Γ, S, rel, ms, p⟩ := h
  unfold evs at p
  exact Pst.now (P := pDs X.K) p ms .nil
theorem sk_cons {e : Expr} {nm : Option Str} {kp : Pos} {ks : List Keyword} {ir : E} {irs : Es} (h1 : SE N W X e (ev T cl ir)) (h2 : SK N W X ks (evs T cl irs)) : SK N W X (⟨nm, e, kp⟩ :: ks) (evs T cl (.cons ir irs)) :=
  pkImp (pk_cons h1 h2) fun σ H Q h => by
    obtain ⟨ρ, Γ, S, rel, ms, p⟩ := h
    unfold evs at p
    refine step pmDs rel ms p fun d S1 v H1 ρ1 _ e1 ms1 rel1 r1 p1 => step pmDs rel1 ms1 p1 fun ds S2 vs H2 ρ2 _ e2 ms2 rel2 r2 p2 => ?_
    exact Pst.now (P := pDs X.K) p2 ms2 (.cons (r1.mono e2) r2)
/-- two lists of arguments in a row -/
def Es.app : Es → Es → Es
  | .nil, b => b
  | .cons e a, b => .cons e (Es.app a b)
theorem evs_cons (e : E) (a : Es) (Γ : Ev) (S : Sto) : evs T cl (.cons e a) Γ S = (ev T cl e Γ S).bind fun d S => (evs T cl a Γ S).bind fun ds S => .ok (d :: ds) S := by rw [evs]
theorem evs_app (b : Es) (Γ : Ev) : ∀ (a : Es) (S : Sto), evs T cl (a.app b) Γ S = (evs T cl a Γ S).bind fun xs S => (evs T cl b Γ S).bind fun ys S => .ok (xs ++ ys) S
  | .nil, S => by
    show evs T cl b Γ S = ((R.ok [] S).bind fun xs S => (evs T cl b Γ S).bind fun ys S => .ok (xs ++ ys) S)
    show _ = (evs T cl b Γ S).bind fun ys S => .ok ([] ++ ys) S
    cases evs T cl b Γ S <;> rfl
  | .cons e a, S => by
    have ih := evs_app b Γ a
    rw [show (Es.cons e a).app b = .cons e (a.app b) from rfl, evs_cons, evs_cons]
    cases ev T cl e Γ S with
    | ok d S1 =>
      show ((evs T cl (a.app b) Γ S1).bind fun ds S => .ok (d :: ds) S) = _
      rw [ih S1]
      show _ = (((evs T cl a Γ S1).bind fun ds S => .ok (d :: ds) S).bind fun xs S => (evs T cl b Γ S).bind fun ys S => .ok (xs ++ ys) S)
      cases evs T cl a Γ S1 with
      | ok xs S2 =>
        show (((evs T cl b Γ S2).bind fun ys S => .ok (xs ++ ys) S).bind fun ds S => .ok (d :: ds) S) = (evs T cl b Γ S2).bind fun ys S => .ok ((d :: xs) ++ ys) S
        cases evs T cl b Γ S2 <;> rfl
      | exc _ _ _ => rfl
      | stuck => rfl
    | exc _ _ _ => rfl
    | stuck => rfl
def kwOk : List Keyword → List Str → Bool
  | [], [] => true
  | ⟨some x, _, _⟩ :: r, y :: ys => decide (x = y) && kwOk r ys
  | _, _ => false
theorem kwOk_ok {env : Env} {pos : Pos} : ∀ {kws : List Keyword} {ks : List Str}, kwOk kws ks = true →
    (backToKw pos (keywordEach kws env)).all (·.1.isSome) = true ∧ (backToKw pos (keywordEach kws env)).filterMap (·.1) = ks ∧ (backToKw pos (keywordEach kws env)).any (·.1.isNone) = false
  | [], [], _ => ⟨rfl, rfl, rfl⟩
  | [], _ :: _, h => by cases h
  | ⟨none, _, _⟩ :: _, _, h => by cases h
  | ⟨some _, _, _⟩ :: _, [], h => by cases h
  | ⟨some x, e, p⟩ :: r, y :: ys, h => by
    obtain ⟨h1, h2⟩ := Bool.and_eq_true_iff.mp (show (decide (x = y) && kwOk r ys) = true from h)
    obtain ⟨a, b, c⟩ := kwOk_ok (env := env) (pos := pos) h2
    have h1 := of_decide_eq_true h1
    subst h1
    exact ⟨a, congrArg (x :: ·) b, c⟩
theorem Vals.getD {vs : List V} {us : List Value} (r : Vals vs us) {i : Nat} (h : i < vs.length) : RelV (vs.getD i .non) (us.getD i .none) := by
  have e1 : vs[i]? = some (vs.getD i .non) := by simp [List.getD, h]
  obtain ⟨u, h1, h2⟩ := r.get e1
  have e2 : us.getD i .none = u := by simp [List.getD, h1]
  rw [e2]; exact h2
theorem Reps.getD {K : PySem.W.Frag} {ρ : List Addr} {H : Hp} {vs : List V} {ds : List D} (r : Reps K ρ H vs ds) {i : Nat} (h : i < ds.length) : Rep K ρ H (vs.getD i .non) (ds.getD i .non) := by
  have e1 : ds[i]? = some (ds.getD i .non) := by simp [List.getD, h]
  obtain ⟨u, h1, h2⟩ := r.get e1
  have e2 : vs.getD i .non = u := by simp [List.getD, h1]
  rw [e2]; exact h2
theorem pick_vals {vs : List V} {us : List Value} (r : Vals vs us) {dv : D → V} {du : D → Value} : ∀ {g : List (Nat ⊕ D)}, (∀ i, Sum.inl i ∈ g → i < vs.length) → (∀ d, Sum.inr d ∈ g → RelV (dv d) (du d)) → Vals (g.map (pick .non dv vs)) (g.map (pick .none du us))
  | [], _, _ => .nil
  | .inl i :: g, h1, h2 => .cons (Vals.getD r (h1 i (by simp))) (pick_vals r (fun j hj => h1 j (List.mem_cons_of_mem _ hj)) fun d hd => h2 d (List.mem_cons_of_mem _ hd))
  | .inr d :: g, h1, h2 => .cons (h2 d (by simp)) (pick_vals r (fun j hj => h1 j (List.mem_cons_of_mem _ hj)) fun d hd => h2 d (List.mem_cons_of_mem _ hd))
theorem pick_reps {K : PySem.W.Frag} {ρ : List Addr} {H : Hp} {vs : List V} {ds : List D} (r : Reps K ρ H vs ds) {dv : D → V} : ∀ {g : List (Nat ⊕ D)}, (∀ i, Sum.inl i ∈ g → i < ds.length) → (∀ d, Sum.inr d ∈ g → Rep K ρ H (dv d) d) → Reps K ρ H (g.map (pick .non dv vs)) (g.map (pick .non id ds))
  | [], _, _ => .nil
  | .inl i :: g, h1, h2 => .cons (Reps.getD r (h1 i (by simp))) (pick_reps r (fun j hj => h1 j (List.mem_cons_of_mem _ hj)) fun d hd => h2 d (List.mem_cons_of_mem _ hd))
  | .inr d :: g, h1, h2 => .cons (h2 d (by simp)) (pick_reps r (fun j hj => h1 j (List.mem_cons_of_mem _ hj)) fun d hd => h2 d (List.mem_cons_of_mem _ hd))
theorem run_fnG {CXx : CXT} {f : Addr} {fd : FuncData} {ps : List Str} {sp : Sp} {E : XK} {j : Nat} {pins : List (Addr × Obj)} {σ : L2.St} {H : Hp} {s : Shared} {Q : VK} {us xs : List Value} {kw : List (Str × Value)} {vs : List V} (F : FnOk X.prog X.w X.K X.mg X.base CXx j f fd ps sp) (hr : Room j X.A)
    (hb : BindsTo s fd ⟨us, kw⟩ (ps.zip xs)) (hx : PassesAt CXx X σ E) (I : Inv X pins σ H s) (r : Vals vs xs) (h : sp vs H Q E) : wpAny (model X.prog X.w) X.A (call (.ref f) us kw) (EP X pins σ Q) X.xe s := by
  refine wpAny_call (codeAny_mono (F.run X.A X.stack s H ⟨us, kw⟩ xs vs Q E hr I.env0 hb r h) fun res s' hq => ?_)
  match res, hq with
  | .error e, hq => exact hx pins H s e s' I hq
  | .ok (.ret u), hq => exact I.after hq
  | .ok .next, hq => exact False.elim hq
  | .ok .brk, hq => exact False.elim hq
  | .ok .cont, hq => exact False.elim hq
theorem se_callS (C : Cok cc T cl N W k X) {e : Expr} {es : List Expr} {kws : List Keyword} {ks : List Str} {g : List (Nat ⊕ D)} {irs irk : Es} {f : Nat} {fn : Fn} {x : Str} {p pos : Pos} (ha : SEs N W X (e :: es) (evs T cl irs)) (hk : SK N W X kws (evs T cl irk)) (hs : (e :: es).all (fun e => !isStar e) = true)
    (hkw : kwOk kws ks = true) (hg : Gl X x) (hx : cc.fns.lookup x = some f) (hf : T.fns[f]? = some fn) (hsh : (f, (e :: es).length, ks, g) ∈ cc.shp) (hgl : g.length = fn.np) (hd : (x == ("__debug__" : Str)) = false)
    (hn : ∀ Γ S ds S', evs T cl irs Γ S = .ok ds S' → ds.length = (e :: es).length) (hnk : ∀ Γ S ds S', evs T cl irk Γ S = .ok ds S' → ds.length = ks.length) :
    SE N W X (.Call (.Name x p) (e :: es) kws pos) (ev T cl (.callS f (irs.app irk) g)) := by
  obtain ⟨fd, ps, hl, F, B, hS⟩ := C.fns f fn hf
  obtain ⟨hm, hkp⟩ := C.ko.fn x f hx
  obtain ⟨hlen, hi, dv, du, hd1, hd2⟩ := hS _ _ _ hsh
  obtain ⟨k1, k2, k3⟩ := kwOk_ok (env := X.env) (pos := pos) hkw
  refine ⟨fun pins s σ H Q I h => ?_⟩
  obtain ⟨ρ, Γ, S, rel, ms, q⟩ := h
  unfold ev at q
  rw [evs_app] at q
  refine wpAny_Call_Name_kw (ld_glob I hg hm ?_ hd)
  have hs' := hs
  simp only [List.all_cons, Bool.and_eq_true, Bool.not_eq_true'] at hs'
  have q' : Pst X.K N W (pD X.K) ((evs T cl irs Γ S).bind fun xs S => (evs T cl irk Γ S).bind fun ys S => cl f (g.map (pick .non id (xs ++ ys))) S) ρ H σ Q := by
    cases e1 : evs T cl irs Γ S with
    | ok xs S1 =>
      rw [e1] at q
      show Pst X.K N W (pD X.K) ((evs T cl irk Γ S1).bind fun ys S => cl f (g.map (pick .non id (xs ++ ys))) S) ρ H σ Q
      have q2 : Pst X.K N W (pD X.K) (((evs T cl irk Γ S1).bind fun ys S => .ok (xs ++ ys) S).bind fun ds S => cl f (g.map (pick .non id ds)) S) ρ H σ Q := q
      cases e2 : evs T cl irk Γ S1 with
      | ok ys S2 => rw [e2] at q2; exact q2
      | exc _ _ _ => rw [e2] at q2; exact q2
      | stuck => rw [e2] at q2; exact q2
    | exc _ _ _ => rw [e1] at q; exact q
    | stuck => rw [e1] at q; exact q
  have hargs : tG X.K N W (pDs X.K) (evs T cl irs) σ H fun vs H1 => tG X.K N W (pDs X.K) (evs T cl irk) σ H1 fun zs H2 => vs.length = (e :: es).length ∧ zs.length = ks.length ∧ spD N X.K cl f fn.np (g.map (pick .non dv (vs ++ zs))) H2 Q (WE W σ) :=
    step pmD rel ms q' fun xs S1 vs H1 ρ1 e01 e1 ms1 rel1 r1 p1 => step pmD rel1 ms1 p1 fun ys S2 zs H2 ρ2 e02 e2 ms2 rel2 r2 p2 => by
      have l1 := hn _ _ _ _ e01
      have l2 := hnk _ _ _ _ e02
      refine ⟨by rw [r1.length]; exact l1, by rw [r2.length]; exact l2, ?_⟩
      refine sp_of C hf ms2 (pick_reps ((r1.mono e2).append r2) (fun i hi' => ?_) fun d hd' => (hd1 d hd').2 _ _) p2
      rw [List.length_append, l1, l2]
      exact hi i hi'
  refine PySem.W.callWith_KW (h₀ := X.base) I.ok.mod.kin hkp k1 (thn (ha.run pos pins s σ H _ I hargs) fun us s1 ⟨vs, H1, I1, rv, hz⟩ => ?_) (by rw [star_any hs, k3]; rfl) (starEach_cons hs'.1)
  refine thn (hk.run pos pins s1 σ H1 _ I1 hz) fun ws s2 ⟨zs, H2, I2, rz, l1, l2, sp⟩ => ⟨I2.kIn, ?_⟩
  rw [k2]
  have hfst : fn.np - g.length = 0 := by omega
  rw [hfst] at hd2
  have b := hd2 s2 [] us ws I2.kIn rfl (rv.length.symm.trans l1) (rz.length.symm.trans l2)
  exact run_fnG F C.rm b (passAt C.tk σ) I2 (pick_vals (rv.append rz) (fun i hi' => by rw [List.length_append, l1, l2]; exact hi i hi') fun d hd' => (hd1 d hd').1) sp
theorem run_newG {CXx : CXT} {f C : Addr} {fd : FuncData} {ps : List Str} {sp : Sp} {E : XK} {j : Nat} {pins : List (Addr × Obj)} {σ : L2.St} {H : Hp} {s : Shared} {Q : VK} {us xs : List Value} {kw : List (Str × Value)} {vs : List V} (M : Mk X.K C f) (F : FnOk X.prog X.w X.K X.mg X.base CXx j f fd ps sp)
    (hr : Room (j + 1) X.A) (hb : ∀ (s : Shared) (a : Addr), X.K.In s.heap → BindsTo s fd ⟨.ref a :: us, kw⟩ (ps.zip (.ref a :: xs))) (hx : PassesAt CXx X σ E) (I : Inv X pins σ H s) (r : Vals vs xs)
    (h : ∀ x dx, H x = none → H dx = none → dx ≠ x → sp (.ref x :: vs) (upd (upd H dx (.own x)) x (.ins C dx [])) (fun v H2 => v = .non ∧ Q (.ref x) H2) E) :
    wpAny (model X.prog X.w) X.A (call (.ref C) us kw) (EP X pins σ Q) X.xe s := by
  have fr : ∀ a, s.heap.objs.size ≤ a → H a = none := fun a ha => I.hok.fresh ha
  have hsp := h (s.heap.objs.size + 1) s.heap.objs.size (fr _ (Nat.le_succ _)) (fr _ (Nat.le_refl _)) (Nat.ne_of_lt (Nat.lt_succ_self _))
  have J := Inv.made (C := C) I
  have rv : Vals (V.ref (s.heap.objs.size + 1) :: vs) (Value.ref (s.heap.objs.size + 1) :: xs) := .cons rfl r
  have run := F.run _ X.stack _ _ ⟨Value.ref (s.heap.objs.size + 1) :: us, kw⟩ (Value.ref (s.heap.objs.size + 1) :: xs) _ _ E (hr.make C us kw) (J.env0.make C us kw) (hb _ _ J.kIn) rv hsp
  refine wpAny_call (make_map (f := f) I.kIn M.makes M.init (beq_iff_eq.mp M.fn) (codeAny_mono run fun res s' hq => ?_))
  match res, hq with
  | .error e, hq => exact hx pins _ _ e s' J hq
  | .ok (.ret u), hq =>
    obtain ⟨v, H', I3, rel, ev, q3⟩ := J.after hq
    subst ev
    exact ⟨rel, ⟨V.ref (s.heap.objs.size + 1), H', I3, rfl, q3⟩⟩
  | .ok .next, hq => exact False.elim hq
  | .ok .brk, hq => exact False.elim hq
  | .ok .cont, hq => exact False.elim hq
theorem bind2 {m1 m2 : Ev → Sto → R (List D)} {α : Type} {h : List D → Sto → R α} {Γ : Ev} {S : Sto} : (((m1 Γ S).bind fun xs S => (m2 Γ S).bind fun ys S => .ok (xs ++ ys) S).bind h) = (m1 Γ S).bind fun xs S => (m2 Γ S).bind fun ys S => h (xs ++ ys) S := by
  cases m1 Γ S with
  | ok xs S1 =>
    show (((m2 Γ S1).bind fun ys S => .ok (xs ++ ys) S).bind h) = (m2 Γ S1).bind fun ys S => h (xs ++ ys) S
    cases m2 Γ S1 <;> rfl
  | exc _ _ _ => rfl
  | stuck => rfl
theorem se_makeS (C : Cok cc T cl N W k X) {e : Expr} {es : List Expr} {kws : List Keyword} {ks : List Str} {g : List (Nat ⊕ D)} {irs irk : Es} {c f : Nat} {cd : Cls} {fn : Fn} {x : Str} {p pos : Pos} (ha : SEs N W X (e :: es) (evs T cl irs)) (hk : SK N W X kws (evs T cl irk)) (hs : (e :: es).all (fun e => !isStar e) = true)
    (hkw : kwOk kws ks = true) (hg : Gl X x) (hx : cc.cls.lookup x = some c) (hcd : T.cls[c]? = some cd) (hi : lku cd.meths iInit = some f) (hf : T.fns[f]? = some fn) (hsh : (f, (e :: es).length, ks, g) ∈ cc.shp) (hgl : g.length + 1 = fn.np) (hd : (x == ("__debug__" : Str)) = false)
    (hn : ∀ Γ S ds S', evs T cl irs Γ S = .ok ds S' → ds.length = (e :: es).length) (hnk : ∀ Γ S ds S', evs T cl irk Γ S = .ok ds S' → ds.length = ks.length) :
    SE N W X (.Call (.Name x p) (e :: es) kws pos) (ev T cl (.makeS c (irs.app irk) g)) := by
  obtain ⟨fd, ps, hl, F, B, hS⟩ := C.fns f fn hf
  obtain ⟨hm, _⟩ := C.ko.cln x c hx
  have M := C.ko.mkr c cd f hcd hi
  obtain ⟨hlen, hi', dv, du, hd1, hd2⟩ := hS _ _ _ hsh
  obtain ⟨k1, k2, k3⟩ := kwOk_ok (env := X.env) (pos := pos) hkw
  refine ⟨fun pins s σ H Q I h => ?_⟩
  obtain ⟨ρ, Γ, S, rel, ms, q⟩ := h
  unfold ev at q
  have hmt : mth T c iInit = some f := by unfold mth; rw [hcd]; exact hi
  rw [hmt, evs_app, bind2 (m1 := evs T cl irs) (m2 := evs T cl irk)] at q
  refine wpAny_Call_Name_kw (ld_glob I hg hm ?_ hd)
  have hs' := hs
  simp only [List.all_cons, Bool.and_eq_true, Bool.not_eq_true'] at hs'
  have hargs : tG X.K N W (pDs X.K) (evs T cl irs) σ H fun vs H1 => tG X.K N W (pDs X.K) (evs T cl irk) σ H1 fun zs H2 => vs.length = (e :: es).length ∧ zs.length = ks.length ∧
      ∀ x dx, H2 x = none → H2 dx = none → dx ≠ x → spD N X.K cl f fn.np (.ref x :: g.map (pick .non dv (vs ++ zs))) (upd (upd H2 dx (.own x)) x (.ins (N.ca c) dx [])) (fun v H2 => v = .non ∧ Q (.ref x) H2) (WE W σ) :=
    step pmD rel ms q fun xs S1 vs H1 ρ1 e01 e1 ms1 rel1 r1 p1 => step pmD rel1 ms1 p1 fun ys S2 zs H2 ρ2 e02 e2 ms2 rel2 r2 p2 => by
      have l1 := hn _ _ _ _ e01
      have l2 := hnk _ _ _ _ e02
      refine ⟨by rw [r1.length]; exact l1, by rw [r2.length]; exact l2, fun x dx hx hdx ne => ?_⟩
      refine sp_new C.hcl hf ms2 (pick_reps ((r1.mono e2).append r2) (fun i hi2 => ?_) fun d hd' => (hd1 d hd').2 _ _) p2 hx hdx ne
      rw [List.length_append, l1, l2]
      exact hi' i hi2
  refine PySem.W.callWith_KW (h₀ := X.base) I.ok.mod.kin M.kp k1 (thn (ha.run pos pins s σ H _ I hargs) fun us s1 ⟨vs, H1, I1, rv, hz⟩ => ?_) (by rw [star_any hs, k3]; rfl) (starEach_cons hs'.1)
  refine thn (hk.run pos pins s1 σ H1 _ I1 hz) fun ws s2 ⟨zs, H2, I2, rz, l1, l2, sp⟩ => ⟨I2.kIn, ?_⟩
  rw [k2]
  have hfst : fn.np - g.length = 1 := by omega
  rw [hfst] at hd2
  refine run_newG M F C.rm1 (fun s a ki => hd2 s [.ref a] us ws ki rfl (rv.length.symm.trans l1) (rz.length.symm.trans l2)) (passAt C.tk σ) I2 (pick_vals (rv.append rz) (fun i hi2 => by rw [List.length_append, l1, l2]; exact hi' i hi2) fun d hd' => (hd1 d hd').1) sp
end
end DL

set_option linter.all false
set_option maxRecDepth 100000
set_option maxHeartbeats 2000000
set_option autoImplicit false
/-! DL9: what loops walk. -/
namespace DL
open PySem PySem.Spec PyProof.Rows L2
/-! ### enumerate(tuple) -/
section
open Sem (wp)
open AutoSeq1 (wpAny_loadPart')
theorem enumT_new (l : Addr) (items : Array Value) (n : Nat) (dct : Option Addr) (sl : Array (Option Value)) :
    Meets (Builtin.«enumerate.__new__» ⟨[.type "enumerate", .ref l], []⟩) (fun _ R s => s.heap.get? l = some { cls := .type "tuple", dict := dct, data := .seq items n, slots := sl } ∧
      R (.ok (.ret (.ref (s.heap.push { cls := .type "tuple_iterator", data := .fields #[.ref l, .int 0 0] }).objs.size)))
        { s with heap := (s.heap.push { cls := .type "tuple_iterator", data := .fields #[.ref l, .int 0 0] }).push { cls := .type "enumerate", data := .fields #[.none, .bool false, .ref s.heap.objs.size, rawInt 0, .none, .none] } }) :=
  .of_wp fun prog w A R s h => by
    obtain ⟨hp, g, d, tk, os⟩ := s
    obtain ⟨hl, h⟩ := h
    have hsub := sub_enumerate
    have hT : Heap.IsTuple (Shared.heap ⟨hp, g, d, tk, os⟩) l items := ⟨_, hl, rfl, n, rfl⟩
    wp_walk using wpAny_loadPart' hl
    refine wpAny_stack_any fun st => wpAny_pure ?_
    split
    · rename_i c _ _ _ _ _
      cases (c == Value.type "enumerate") <;> (wp_walk using wpAny_loadPart' hl, wpAny_pyIter_tuple hT; exact ⟨_, rfl, h⟩)
    · wp_walk using wpAny_loadPart' hl, wpAny_pyIter_tuple hT
      exact ⟨_, rfl, h⟩
variable {prog : Program} {w : World} {A : Around} {E : Value → Shared → Prop} {s : Shared}
theorem call_enumT {l : Addr} {items : Array Value} {Q : Value → Shared → Prop} (hL : IsTup s.heap l items)
    (h : ∀ h', IsEnum h' (s.heap.objs.size + 1) s.heap.objs.size 0 .none → h'.IsTupleIter s.heap.objs.size l 0 → (∀ b o, s.heap.get? b = some o → h'.get? b = some o) → Q (.ref (s.heap.objs.size + 1)) { s with heap := h' }) :
    wpAny (model prog w) A (call (.type "enumerate") [.ref l]) Q E s := by
  obtain ⟨⟨c, dct, dt, sl⟩, hl, hc, n, hd⟩ := hL
  replace hc : c = .type "tuple" := hc
  replace hd : dt = .seq items n := hd
  subst hc hd
  refine callType_new F.called_enumerate (by decide) (F.typeCall_enumerate_1 _) (F.newCall_enumerate_1 _) (fun obj => F.args_object_init_2 obj _) F.entry_enumerate_new (enumT_new l items n dct sl) ⟨hl, ?_⟩
  have hz : (s.heap.push { cls := .type "tuple_iterator", data := .fields #[.ref l, .int 0 0] }).objs.size = s.heap.objs.size + 1 := Heap.size_push ..
  show _ ∧ _
  rw [hz]
  have he : IsEnum ((s.heap.push { cls := .type "tuple_iterator", data := .fields #[.ref l, .int 0 0] }).push { cls := .type "enumerate", data := .fields #[.none, .bool false, .ref s.heap.objs.size, rawInt 0, .none, .none] }) (s.heap.objs.size + 1) s.heap.objs.size 0 .none := by
    have q := Heap.get?_push_size (s.heap.push { cls := .type "tuple_iterator", data := .fields #[.ref l, .int 0 0] }) (o := { cls := .type "enumerate", data := .fields #[.none, .bool false, .ref s.heap.objs.size, rawInt 0, .none, .none] }) rfl
    rw [hz] at q; exact q
  exact ⟨⟨_, he, rfl⟩, h _ he ⟨_, Heap.get?_push_of_some _ (Heap.get?_push_size _ rfl), rfl, rfl⟩ fun b o x => Heap.get?_push_of_some _ (Heap.get?_push_of_some _ x)⟩
end
/-- the tuple at a, each item in a new pair -/
def IteT (K : PySem.W.Frag) (a : Addr) : L2.It :=
  ⟨fun i H => ∃ (xs : List V) (x : V), SqT K H a xs ∧ xs[i]? = some x, fun i H v H' => ∃ t x, v = .ref t ∧ H t = none ∧ H' = upd H t (.tup [.int (i : Nat), x]) ∧ ∀ xs, SqT K H a xs → xs[i]? = some x, fun i H => ∃ xs : List V, SqT K H a xs ∧ xs.length ≤ i⟩
theorem turn_enumT {P : Program} {w : World} {K : PySem.W.Frag} {elts : List Expr} {kk : Nat} {tpos : Pos} (a e it : Addr) :
    Turn P w K (.Tuple elts kk tpos) (IteT K a) [e, it] e (fun i h => (∃ old, IsEnum h e it ((i : Nat) : Int) old) ∧ h.IsTupleIter it a i ∧ e ≠ it) where
  mem := by simp
  obj := fun i h st b hb => by
    obtain ⟨⟨old, he⟩, ⟨o, ho, hc, hd⟩, _⟩ := st
    rcases (show b = e ∨ b = it by simpa using hb) with z | z
    · rw [z]; exact ⟨_, he, fun v q => nomatch q⟩
    · rw [z]; exact ⟨o, ho, fun v q => by rw [hd] at q; cases q⟩
  keep := fun i h h' st k => by
    obtain ⟨⟨old, he⟩, hi, hne⟩ := st
    exact ⟨⟨old, k e (by simp) _ he⟩, hi.at fun o q => k it (by simp) o q, hne⟩
  item := by
    intro X hP hw hK hc i pins s σ H E I hf st hg
    subst hP hw hK
    obtain ⟨⟨old, he⟩, hit, hne⟩ := st
    obtain ⟨xs, x, hq, hx⟩ := hg
    obtain ⟨its, rv, p, hz⟩ := I.tuple hq
    obtain ⟨u, hu, ru⟩ := rv.get hx
    have hel : e < s.heap.objs.size := Heap.lt_size he
    have hil : it < s.heap.objs.size := by obtain ⟨_, q, _⟩ := hit; exact Heap.lt_size q
    have hea : e ≠ a := fun z => by
      obtain ⟨o, ho, hc', _⟩ := p
      rw [← z, he] at ho; cases ho; injection hc' with hc'; exact absurd hc' (by decide)
    have hai : a ≠ it := fun z => by
      obtain ⟨o, ho, hc', _⟩ := p
      obtain ⟨o2, ho2, hc2, _⟩ := hit
      rw [z, ho2] at ho; cases ho; rw [hc2] at hc'; injection hc' with hc'; exact absurd hc' (by decide)
    have D := Draws.tuple (prog := X.prog) (w := X.w) (A := X.A.in1) (I.ok.hd hc) it a hai its.toArray
    have hlt : i < its.toArray.size := by
      have := (List.getElem?_eq_some_iff.mp hu).1
      simpa using this
    refine wpAny_pyNext_enum_itemD D he ⟨hit, p⟩ hlt hne (by simp [hne, hea]) fun y h' tk hy ho st' hT hsz hk => ?_
    have hyu : y = u := by
      have h2 : its.toArray[i]? = some u := by simpa using hu
      rw [h2] at hy; exact (Option.some.inj hy).symm
    subst hyu
    refine ⟨_, rfl, wpAny_letOwnedTupleGo_enum (s := { s with heap := h', toks := tk + 1 }) ho fun h'' he' sb => ?_⟩
    have hT2 : h''.get? s.heap.objs.size = some { cls := .type "tuple", data := .seq #[.int i tk, y] } := (sb.2 _ (Nat.ne_of_gt hel)).trans hT
    have new : ObjOk X.prog X.w (upd H s.heap.objs.size (.tup [.int (i : Nat), x])) h'' s.heap.objs.size (.tup [.int (i : Nat), x]) :=
      ⟨by show 2 ≤ sizeLine; decide, [.int i tk, y], .cons ⟨_, rfl⟩ (.cons ru .nil), ⟨_, hT2, rfl, _, rfl⟩⟩
    have I1 : Inv X pins σ (upd H s.heap.objs.size (.tup [.int (i : Nat), x])) { s with heap := h'', toks := tk + 1 } :=
      I.turnedNew (ch := [e, it]) (fun b ob hb q => (sb.2 b (fun z => hb (by simp [z]))).trans (hk b ob (fun z => hb (by simp [z])) (fun z => hb (by simp [z])) q)) hf (Nat.le_refl _) new
    refine ⟨.ref s.heap.objs.size, _, I1, rfl, ⟨_, x, rfl, I.hok.fresh (Nat.le_refl _), rfl, fun ys hy => by rw [I.tuple_inj hy hq]; exact hx⟩, ⟨⟨y, ?_⟩, st'.1.at fun o q => (sb.2 it (Ne.symm hne)).trans q, hne⟩, fun b hb => ?_⟩
    · rw [show ((i + 1 : Nat) : Int) = (i : Int) + 1 by omega]
      exact he'
    · have hb' : b < s.heap.objs.size := by
        rcases (show b = e ∨ b = it by simpa using hb) with z | z
        · rw [z]; exact hel
        · rw [z]; exact hil
      rw [upd_ne (Nat.ne_of_lt hb')]
      exact (hf b hb).1
  done := by
    intro X hP hw hK hc i pins s σ H E I hf st hg
    subst hP hw hK
    obtain ⟨⟨old, he⟩, hit, hne⟩ := st
    obtain ⟨xs, hq, hx⟩ := hg
    obtain ⟨its, rv, p, hz⟩ := I.tuple hq
    obtain ⟨f0, f1, f2, f3, f4, f5⟩ := hf it (by simp)
    have hl := rv.length
    have hT : s.TypeIs (.ref e) "enumerate" := ⟨_, he, rfl⟩
    unfold pyNext
    refine wpAny_bind (wpAny_attempt (wpAny_callSpecial?_slot (name := Str.ofString "__next__") hT F.slot_enumerate_next (wpAny_call_entry F.slot_enumerate_next hT F.entry_enumerate_next ?_ (F.args_enumerate_next_1 _))))
    show wpAny _ _ (field (.ref e) 2 >>= _) _ _ _
    refine wpAny_bind (wpAny_field he rfl (x := .ref it) rfl ?_)
    refine wpAny_bind (wpAny_nextOf_tuple_end (I.ok.hd hc) hit (show s.heap.IsTuple a its.toArray from p) (by simp; omega) fun h' x eb hx' => ?_)
    obtain ⟨o, ho, hcs⟩ := hx'
    refine wpAny_bind (wpAny_isInstance (T := "StopIteration") (b := true) ⟨o, ho, hcs⟩ isSubtype_stop ?_)
    exact wpAny_pure ⟨rfl, I.turned (t' := s.toks) (fun b o hb q => eb b o hb q) f0 f1 f3 f4 f5⟩
  self := fun A i s Q E st h => by
    obtain ⟨⟨_, he⟩, _⟩ := st
    exact wpAny_pyIter_enum he h
def iEnumT (K : PySem.W.Frag) (ta : TA) : TI := fun σ H R => ta σ H fun vs H1 => ∃ a xs, vs = [.ref a] ∧ SqT K H1 a xs ∧ R (IteT K a) H1
theorem pi_enumT {X : Cx} {e : Expr} {ta : TA} {p pos tpos : Pos} {elts : List Expr} {kk : Nat} (hg : Gl X "enumerate") (hm : X.mg "enumerate" = none) (ha : PA X [e] ta) (hs : starEach [e] X.env = [(false, eval e X.env)]) :
    PI X (.Tuple elts kk tpos) (.Call (.Name "enumerate" p) [e] [] pos) (iEnumT X.K ta) := by
  refine ⟨fun pins s σ H R I h => ?_⟩
  refine Call_ (ld_blt I hg hm boot_enumerate (PyProof.Rows.callWith_type1 (thn (ha.run pos pins s σ H _ I h) fun us s1 ⟨vs, H1, I1, r1, q1⟩ => ?_) hs rfl))
  obtain ⟨a, xs, ex, hq, q⟩ := q1
  subst ex
  obtain rfl := Vals.ref1 r1
  obtain ⟨its, rv, p', hz⟩ := I1.tuple hq
  refine call_enumT p' fun h' he hit hk => wpAny_pyIter_enum he ?_
  have I2 : Inv X pins σ H1 { s1 with heap := h' } := I1.kept (t' := s1.toks) hk
  refine ⟨s1.heap.objs.size + 1, [s1.heap.objs.size + 1, s1.heap.objs.size], _, _, H1, rfl, I2, turn_enumT a (s1.heap.objs.size + 1) s1.heap.objs.size, ⟨⟨.none, he⟩, hit, Nat.succ_ne_self _⟩, fun b hb => ?_, q⟩
  have hle : s1.heap.objs.size ≤ b := by
    rcases (show b = s1.heap.objs.size + 1 ∨ b = s1.heap.objs.size by simpa using hb) with z | z
    · rw [z]; exact Nat.le_add_right _ _
    · rw [z]; exact Nat.le_refl _
  exact I1.fpOk hle (I1.hok.fresh hle)
end DL

set_option linter.all false
set_option maxRecDepth 100000
set_option maxHeartbeats 2000000
set_option autoImplicit false
/-! DL10: loops' sources. -/
namespace DL
open PySem PySem.Spec PyProof.Rows L2
mutual
theorem same_eq : ∀ (a b : D), same a b = true → a = b
  | .non, b, h => by cases b <;> first | rfl | cases h
  | .bl x, b, h => by
    cases b with
    | bl y => have : (x == y) = true := h; rw [beq_iff_eq.mp this]
    | _ => cases h
  | .int x, b, h => by
    cases b with
    | int y => have : decide (x = y) = true := h; rw [of_decide_eq_true this]
    | _ => cases h
  | .str x, b, h => by
    cases b with
    | str y => have : decide (x = y) = true := h; rw [of_decide_eq_true this]
    | _ => cases h
  | .tup xs, b, h => by
    cases b with
    | tup ys => rw [sames_eq xs ys h]
    | _ => cases h
  | .ref x, b, h => by
    cases b with
    | ref y => have : (x == y) = true := h; rw [beq_iff_eq.mp this]
    | _ => cases h
theorem sames_eq : ∀ (a b : List D), sames a b = true → a = b
  | [], [], _ => rfl
  | [], _ :: _, h => by cases h
  | _ :: _, [], h => by cases h
  | x :: xs, y :: ys, h => by
    obtain ⟨h1, h2⟩ := Bool.and_eq_true_iff.mp (show (same x y && sames xs ys) = true from h)
    rw [same_eq x y h1, sames_eq xs ys h2]
end
mutual
theorem same_refl : ∀ a : D, same a a = true
  | .non => rfl
  | .bl x => by show (x == x) = true; simp
  | .int x => by show decide (x = x) = true; simp
  | .str x => by show decide (x = x) = true; simp
  | .tup xs => sames_refl xs
  | .ref x => by show (x == x) = true; simp
theorem sames_refl : ∀ a : List D, sames a a = true
  | [] => rfl
  | x :: xs => by show (same x x && sames xs xs) = true; rw [same_refl x, sames_refl xs]; rfl
end
theorem stays_at {S : Sto} {n : Nat} {xs : List D} {ks : List (Nat × List D)} (h : stays S ((n, xs) :: ks) = true) : (S[n]? = some (.lst xs) ∨ S[n]? = some (.ro xs)) ∧ stays S ks = true := by
  unfold stays at h
  obtain ⟨h1, h2⟩ := Bool.and_eq_true_iff.mp h
  refine ⟨?_, h2⟩
  split at h1
  · rename_i ys e
    left; rw [e, sames_eq _ _ h1]
  · rename_i ys e
    right; rw [e, sames_eq _ _ h1]
  · cases h1
theorem stays_app {S : Sto} : ∀ {a b : List (Nat × List D)}, stays S (a ++ b) = true → stays S a = true ∧ stays S b = true
  | [], b, h => ⟨rfl, h⟩
  | (n, xs) :: a, b, h => by
    have h' : (_ && stays S (a ++ b)) = true := h
    obtain ⟨h1, h2⟩ := Bool.and_eq_true_iff.mp h'
    obtain ⟨h3, h4⟩ := stays_app h2
    refine ⟨?_, h4⟩
    show (_ && stays S a) = true
    rw [h3]
    simp only [Bool.and_true]
    exact h1
/-- .. later on: what was laid before H0 may have changed -/
structure Lt (K : PySem.W.Frag) (H0 : Hp) (ρ ρ' : List Addr) (H H' : Hp) : Prop where
  pre : ∀ (n : Nat) (a : Addr), ρ[n]? = some a → ρ'[n]? = some a
  new : ∀ a, a ∈ ρ' → a ∈ ρ ∨ H a = none
  keep : ∀ a o, H0 a = none → H a = some o → a ∉ ρ → H' a = some o
  sq : ∀ a xs, SqT K H a xs → SqT K H' a xs
  alive : ∀ a o, H a = some o → ∃ o', H' a = some o'
section
variable {K : PySem.W.Frag} {H0 H1 H H' : Hp} {ρ1 ρ ρ' : List Addr}
theorem Ext.lt (e : Ext K ρ ρ' H H') : Lt K H0 ρ ρ' H H' := ⟨e.pre, e.new, fun a o _ h n => e.keep a o h n, e.sq, e.alive⟩
theorem Lt.ext (l : Lt K H0 ρ1 ρ H1 H) (e : Ext K ρ ρ' H H') : Lt K H0 ρ1 ρ' H1 H' where
  pre := fun n a h => e.pre n a (l.pre n a h)
  new := fun a h => by
    rcases e.new a h with h | h
    · exact l.new a h
    · right
      cases q : H1 a with
      | none => rfl
      | some o =>
        obtain ⟨o', h'⟩ := l.alive a o q
        rw [h] at h'; cases h'
  keep := fun a o h0 h n => e.keep a o (l.keep a o h0 h n) fun q => by
    rcases l.new a q with z | z
    · exact n z
    · rw [h] at z; cases z
  sq := fun a xs q => e.sq a xs (l.sq a xs q)
  alive := fun a o h => by
    obtain ⟨o', h'⟩ := l.alive a o h
    exact e.alive a o' h'
theorem Lt.older {H2 : Hp} (l : Lt K H2 ρ1 ρ H1 H) (h : ∀ a, H0 a = none → H2 a = none) : Lt K H0 ρ1 ρ H1 H := ⟨l.pre, l.new, fun a o q => l.keep a o (h a q), l.sq, l.alive⟩
end
section
variable (K : PySem.W.Frag) (N : Nm)
/-- an iterator that goes through w -/
structure DW (J : L2.It) (w : Wk) (H0 : Hp) (ρ1 : List Addr) (H1 : Hp) : Prop where
  go : ∀ (i : Nat) (H : Hp) (ρ : List Addr) (S : Sto), i < w.xs.length → Lt K H0 ρ1 ρ H1 H → MS K ρ H N S → stays S w.ks = true → J.go i H
  stop : ∀ (H : Hp) (ρ : List Addr) (S : Sto), Lt K H0 ρ1 ρ H1 H → MS K ρ H N S → stays S w.ks = true → J.stop w.xs.length H
  yld : ∀ (i : Nat) (H : Hp) (ρ : List Addr) (S : Sto) (x : V) (H' : Hp), i < w.xs.length → Lt K H0 ρ1 ρ H1 H → MS K ρ H N S → stays S w.ks = true → J.yld i H x H' → ∃ d, w.xs[i]? = some d ∧ Ext K ρ ρ H H' ∧ MS K ρ H' N S ∧ Rep K ρ H' x d
abbrev pW : PRel Wk L2.It := fun H0 ρ H J w => DW K N J w H0 ρ H
end
section
variable {cc : CC} {T : Tb} {cl : Orc} {N : Nm} {W : WX} {k : Nat} {X : Cx}
theorem pmW : PM (pW X.K N) := fun H H1 ρ H' b a hn h => ⟨fun i H2 ρ2 S hi l m st => h.go i H2 ρ2 S hi (l.older hn) m st, fun H2 ρ2 S l m st => h.stop H2 ρ2 S (l.older hn) m st, fun i H2 ρ2 S x H3 hi l m st y => h.yld i H2 ρ2 S x H3 hi (l.older hn) m st y⟩
abbrev SI (N : Nm) (W : WX) (X : Cx) (tg iter : Expr) (m : Ev → Sto → R Wk) : Prop := PI X tg iter (tG X.K N W (pW X.K N) m)
theorem piImp {tg e : Expr} {t t' : TI} (h : PI X tg e t) (i : ∀ σ H R, t' σ H R → t σ H R) : PI X tg e t' := ⟨fun pins s σ H R I q => h.run pins s σ H R I (i σ H R q)⟩
theorem piAt {tg e : Expr} {t' : TI} (h : ∀ σ H R, t' σ H R → ∃ t, PI X tg e t ∧ t σ H R) : PI X tg e t' := ⟨fun pins s σ H R I q => by
  obtain ⟨t, p, q⟩ := h σ H R q
  exact p.run pins s σ H R I q⟩
/-- a walk of the layer over a fixed list of values is one of data -/
theorem dw_seq {J : L2.It} {w : Wk} {ρ1 : List Addr} {H1 H0 : Hp} {G : Hp → List V → Prop}
    (hG : ∀ (H : Hp) (ρ : List Addr) (S : Sto), Lt X.K H0 ρ1 ρ H1 H → MS X.K ρ H N S → stays S w.ks = true → ∃ vs, G H vs ∧ Reps X.K ρ H vs w.xs)
    (go : ∀ i H vs x, G H vs → vs[i]? = some x → J.go i H) (stop : ∀ H vs, G H vs → J.stop vs.length H) (yld : ∀ i H vs x H', G H vs → J.yld i H x H' → H' = H ∧ vs[i]? = some x) : DW X.K N J w H0 ρ1 H1 where
  go := fun i H ρ S hi e ms st => by
    obtain ⟨vs, g, r⟩ := hG H ρ S e ms st
    have hl : i < vs.length := by rw [r.length]; exact hi
    exact go i H vs vs[i] g (by simp [hl])
  stop := fun H ρ S e ms st => by
    obtain ⟨vs, g, r⟩ := hG H ρ S e ms st
    rw [← r.length]
    exact stop H vs g
  yld := fun i H ρ S x H' hi e ms st y => by
    obtain ⟨vs, g, r⟩ := hG H ρ S e ms st
    obtain ⟨e1, hx⟩ := yld i H vs x H' g y
    subst e1
    obtain ⟨d, hd, rd⟩ := r.getV hx
    exact ⟨d, hd, .refl, ms, rd⟩
/-- where the items of an operand stand later on -/
theorem later {x : TV} {v : V} {S1 : Sto} {ρ1 : List Addr} {H1 H0 : Hp} {w : Wk} (ms1 : MS X.K ρ1 H1 N S1) (r1 : TV.Rp X.K ρ1 H1 H0 v x) (hw : wkA S1 x = some w) (hn : ∀ s, x ≠ .d (.str s)) :
    ∃ a, v = .ref a ∧ its S1 x = some w.xs ∧ ∀ (H : Hp) (ρ : List Addr) (S : Sto), Lt X.K H0 ρ1 ρ H1 H → MS X.K ρ H N S → stays S w.ks = true → ∃ vs, Reps X.K ρ H vs w.xs ∧ ((isTup x = false ∧ SqL X.K H a vs) ∨ (isTup x = true ∧ SqT X.K H a vs)) := by
  cases x with
  | l xs =>
    cases hw
    obtain ⟨a, vs, rfl, h1, h2, h3, h4⟩ := r1
    exact ⟨a, rfl, rfl, fun H ρ S e ms st => ⟨vs, h2.mg e.pre e.sq, .inl ⟨rfl, SqL.of (e.keep a _ h4 h1 h3)⟩⟩⟩
  | d d =>
    cases d with
    | tup xs =>
      cases hw
      cases r1 with
      | @tup a vs _ q r => exact ⟨a, rfl, rfl, fun H ρ S e ms st => ⟨vs, r.mg e.pre e.sq, .inr ⟨rfl, e.sq a vs q⟩⟩⟩
    | str s => exact absurd rfl (hn s)
    | ref n =>
      simp only [wkA] at hw
      cases r1 with
      | @ref _ a hr =>
        have fin : ∀ (xs : List D), w = ⟨xs, [(n, xs)]⟩ → ∀ (H : Hp) (ρ : List Addr) (S : Sto), Lt X.K H0 ρ1 ρ H1 H → MS X.K ρ H N S → stays S w.ks = true → ∃ vs, Reps X.K ρ H vs w.xs ∧ ((isTup (.d (.ref n)) = false ∧ SqL X.K H a vs) ∨ (isTup (.d (.ref n)) = true ∧ SqT X.K H a vs)) := fun xs hx H ρ S e ms st => by
          subst hx
          obtain ⟨o, ho, ro⟩ := ms.lookup (e.pre _ _ hr)
          rcases (stays_at st).1 with q | q
          · rw [q] at ho; cases ho
            obtain ⟨vs, h1, h2⟩ := ro
            exact ⟨vs, h2, .inl ⟨rfl, SqL.of h1⟩⟩
          · rw [q] at ho; cases ho
            obtain ⟨ob, vs, h1, h2⟩ := ro
            exact ⟨vs, h2, .inl ⟨rfl, .inl (.inr ⟨ob, h1⟩)⟩⟩
        cases es : S1[n]? with
        | none => rw [es] at hw; cases hw
        | some o =>
          rw [es] at hw
          cases o with
          | lst xs =>
            have hw' := (Option.some.inj hw).symm
            refine ⟨a, rfl, ?_, fin xs hw'⟩
            subst hw'
            simp only [its, es]
          | ro xs =>
            have hw' := (Option.some.inj hw).symm
            refine ⟨a, rfl, ?_, fin xs hw'⟩
            subst hw'
            simp only [its, es]
          | _ => cases hw
    | _ => cases hw
theorem Reps.chars {K : PySem.W.Frag} {ρ : List Addr} {H : Hp} : ∀ s : List Nat, Reps K ρ H (s.map fun c => V.str ⟨#[c]⟩) (s.map fun c => D.str [c])
  | [] => .nil
  | c :: s => .cons (.str [c]) (Reps.chars s)
theorem si_a {tg e : Expr} {ia : A} (h : SA N W X e (evA T cl ia)) : SI N W X tg e (evI T cl (.a ia)) := piAt fun σ H0 RR hq => by
  obtain ⟨ρ, Γ, S, rel, ms, p⟩ := hq
  unfold evI at p
  cases e0 : evA T cl ia Γ S with
  | stuck => rw [e0] at p; exact (show False from p).elim
  | exc c fs S1 => exact ⟨_, pi_list h, ⟨ρ, Γ, S, rel, ms, by rw [e0] at p ⊢; exact p⟩⟩
  | ok x S1 =>
    by_cases hstr : ∃ s, x = .d (.str s)
    · obtain ⟨s, rfl⟩ := hstr
      refine ⟨_, pi_str h, step pmW rel ms p fun x' S1' v H1 ρ1 q1 e1 ms1 rel1 r1 p1 => ?_⟩
      rw [e0] at q1; cases q1
      simp only [wkA] at p1
      split at p1
      · cases r1
        refine ⟨sOf s, rfl, p1 _ H1 ρ1 .refl ms1 ?_⟩
        refine dw_seq (G := fun _ vs => vs = s.map fun c => V.str ⟨#[c]⟩) (fun H ρ S _ _ _ => ⟨_, rfl, Reps.chars s⟩) (fun i H vs x g hx => ?_) (fun H vs g => ?_) (fun i H vs x H' g y => ?_)
        · subst g
          show i < (sOf s).cps.size
          have := (List.getElem?_eq_some_iff.mp hx).1
          simpa using this
        · subst g
          show (sOf s).cps.size ≤ _
          simp
        · subst g
          obtain ⟨h1, c, hc, hx⟩ := y
          refine ⟨h1, ?_⟩
          subst hx
          have : s[i]? = some c := by simpa using hc
          simp [this]
      · exact (show False from p1).elim
    · have hn : ∀ s, x ≠ .d (.str s) := fun s q => hstr ⟨s, q⟩
      cases ht : isTup x with
      | false =>
        refine ⟨_, pi_list h, step pmW rel ms p fun x' S1' v H1 ρ1 q1 e1 ms1 rel1 r1 p1 => ?_⟩
        rw [e0] at q1; cases q1
        cases hw : wkA S1 x with
        | none => rw [hw] at p1; exact (show False from p1).elim
        | some w =>
          rw [hw] at p1
          have p2 : Pst X.K N W (pW X.K N) (.ok w S1) ρ H0 σ RR := by
            rw [e0] at p
            simp only [R.bind, hw] at p
            exact p
          obtain ⟨a, rfl, hi, L⟩ := later ms1 r1 hw hn
          have L' : ∀ (H : Hp) (ρ : List Addr) (S : Sto), Lt X.K H0 ρ1 ρ H1 H → MS X.K ρ H N S → stays S w.ks = true → ∃ vs, SqL X.K H a vs ∧ Reps X.K ρ H vs w.xs := fun H ρ S e m st => by
            obtain ⟨vs, rs, (⟨_, q⟩ | ⟨z, _⟩)⟩ := L H ρ S e m st
            · exact ⟨vs, q, rs⟩
            · rw [ht] at z; cases z
          obtain ⟨a', vs, ev', rs, h5⟩ := its_sq ms1 r1 hi
          cases ev'
          refine ⟨a, rfl, ⟨vs, ?_⟩, p2 _ H1 ρ1 e1 ms1 ?_⟩
          · rcases h5 with ⟨_, q⟩ | ⟨z, _⟩
            · exact q
            · rw [ht] at z; cases z
          · refine dw_seq (G := fun H vs => SqL X.K H a vs) L' (fun i H vs x g hx => ⟨vs, x, g, hx⟩) (fun H vs g => ⟨vs, g, Nat.le_refl _⟩) (fun i H vs x H' g y => ⟨y.1, y.2 vs g⟩)
      | true =>
        refine ⟨_, pi_tup h, step pmW rel ms p fun x' S1' v H1 ρ1 q1 e1 ms1 rel1 r1 p1 => ?_⟩
        rw [e0] at q1; cases q1
        cases hw : wkA S1 x with
        | none => rw [hw] at p1; exact (show False from p1).elim
        | some w =>
          rw [hw] at p1
          have p2 : Pst X.K N W (pW X.K N) (.ok w S1) ρ H0 σ RR := by
            rw [e0] at p
            simp only [R.bind, hw] at p
            exact p
          obtain ⟨a, rfl, hi, L⟩ := later ms1 r1 hw hn
          have L' : ∀ (H : Hp) (ρ : List Addr) (S : Sto), Lt X.K H0 ρ1 ρ H1 H → MS X.K ρ H N S → stays S w.ks = true → ∃ vs, SqT X.K H a vs ∧ Reps X.K ρ H vs w.xs := fun H ρ S e m st => by
            obtain ⟨vs, rs, (⟨z, _⟩ | ⟨_, q⟩)⟩ := L H ρ S e m st
            · rw [ht] at z; cases z
            · exact ⟨vs, q, rs⟩
          obtain ⟨a', vs, ev', rs, h5⟩ := its_sq ms1 r1 hi
          cases ev'
          refine ⟨a, rfl, ⟨vs, ?_⟩, p2 _ H1 ρ1 e1 ms1 ?_⟩
          · rcases h5 with ⟨z, _⟩ | ⟨_, q⟩
            · rw [ht] at z; cases z
            · exact q
          · refine dw_seq (G := fun H vs => SqT X.K H a vs) L' (fun i H vs x g hx => ⟨vs, x, g, hx⟩) (fun H vs g => ⟨vs, g, Nat.le_refl _⟩) (fun i H vs x H' g y => ⟨y.1, y.2 vs g⟩)
end
end DL

set_option linter.all false
set_option maxRecDepth 100000
set_option maxHeartbeats 2000000
set_option autoImplicit false
/-! DL11: ranges, enumerate, zip. -/
namespace DL
open PySem PySem.Spec PyProof.Rows L2
theorem rngL_len : ∀ (n : Nat) (lo : Int), (rngL lo n).length = n
  | 0, _ => rfl
  | n + 1, lo => by show (rngL (lo + 1) n).length + 1 = n + 1; rw [rngL_len n]
theorem rngL_get : ∀ (n : Nat) (lo : Int) (i : Nat), i < n → (rngL lo n)[i]? = some (.int (lo + i))
  | 0, _, _, h => absurd h (Nat.not_lt_zero _)
  | n + 1, lo, 0, _ => by simp [rngL]
  | n + 1, lo, i + 1, h => by
    show (rngL (lo + 1) n)[i]? = _
    rw [rngL_get n (lo + 1) i (by omega)]
    congr 2
    omega
theorem rngC_len : ∀ (n : Nat) (lo c : Int), (rngC lo c n).length = n
  | 0, _, _ => rfl
  | n + 1, lo, c => by show (rngC (lo + c) c n).length + 1 = n + 1; rw [rngC_len n]
theorem rngC_get : ∀ (n : Nat) (lo c : Int) (i : Nat), i < n → (rngC lo c n)[i]? = some (.int (lo + (i : Nat) * c))
  | 0, _, _, _, h => absurd h (Nat.not_lt_zero _)
  | n + 1, lo, c, 0, _ => by simp [rngC]
  | n + 1, lo, c, i + 1, h => by
    show (rngC (lo + c) c n)[i]? = _
    rw [rngC_get n (lo + c) c i (by omega)]
    congr 2
    have : ((i + 1 : Nat) : Int) * c = (i : Int) * c + c := by
      rw [Int.natCast_add, Int.add_mul]; simp
    rw [this]; omega
theorem enumL_len : ∀ (xs : List D) (i : Int), (enumL i xs).length = xs.length
  | [], _ => rfl
  | x :: xs, i => by show (enumL (i + 1) xs).length + 1 = xs.length + 1; rw [enumL_len xs]
theorem enumL_get : ∀ (xs : List D) (lo : Int) (i : Nat) (d : D), xs[i]? = some d → (enumL lo xs)[i]? = some (.tup [.int (lo + i), d])
  | [], _, _, _, h => by cases h
  | x :: xs, lo, 0, d, h => by cases h; simp [enumL]
  | x :: xs, lo, i + 1, d, h => by
    show (enumL (lo + 1) xs)[i]? = _
    rw [enumL_get xs (lo + 1) i d h]
    congr 4
    omega
theorem zipL_len : ∀ (xs ys : List D), (zipL xs ys).length = min xs.length ys.length
  | [], _ => by simp [zipL]
  | _ :: _, [] => by simp [zipL]
  | x :: xs, y :: ys => by
    show (zipL xs ys).length + 1 = min (xs.length + 1) (ys.length + 1)
    rw [zipL_len xs ys]; omega
theorem zipL_get : ∀ (xs ys : List D) (i : Nat) (d e : D), xs[i]? = some d → ys[i]? = some e → (zipL xs ys)[i]? = some (.tup [d, e])
  | [], _, _, _, _, h, _ => by cases h
  | _ :: _, [], _, _, _, _, h => by cases h
  | x :: xs, y :: ys, 0, d, e, h, g => by cases h; cases g; rfl
  | x :: xs, y :: ys, i + 1, d, e, h, g => zipL_get xs ys i d e h g
section
variable {cc : CC} {T : Tb} {cl : Orc} {N : Nm} {W : WX} {k : Nat} {X : Cx}
theorem dw_rng {lo : Int} {n : Nat} {ρ1 : List Addr} {H1 H0 : Hp} : DW X.K N (Itr lo n) ⟨rngL lo n, []⟩ H0 ρ1 H1 where
  go := fun i H ρ S hi _ _ _ => by
    have hi' : i < (rngL lo n).length := hi
    rw [rngL_len] at hi'; exact hi'
  stop := fun H ρ S _ _ _ => by
    show n ≤ (rngL lo n).length
    rw [rngL_len]; exact Nat.le_refl _
  yld := fun i H ρ S x H' hi _ ms _ y => by
    have hi' : i < (rngL lo n).length := hi
    rw [rngL_len] at hi'
    obtain ⟨rfl, rfl⟩ := y
    exact ⟨_, rngL_get n lo i hi', .refl, ms, .int _⟩
theorem dw_rngC {lo c : Int} {n : Nat} {ρ1 : List Addr} {H1 H0 : Hp} : DW X.K N (Itc lo c n) ⟨rngC lo c n, []⟩ H0 ρ1 H1 where
  go := fun i H ρ S hi _ _ _ => by
    have hi' : i < (rngC lo c n).length := hi
    rw [rngC_len] at hi'; exact hi'
  stop := fun H ρ S _ _ _ => by
    show n ≤ (rngC lo c n).length
    rw [rngC_len]; exact Nat.le_refl _
  yld := fun i H ρ S x H' hi _ ms _ y => by
    have hi' : i < (rngC lo c n).length := hi
    rw [rngC_len] at hi'
    obtain ⟨rfl, rfl⟩ := y
    exact ⟨_, rngC_get n lo c i hi', .refl, ms, .int _⟩
theorem smallI_of {i : Int} (h : smallI i = true) : -(2 ^ 62) ≤ i ∧ i < 2 ^ 62 := by
  unfold smallI at h
  simp only [Bool.and_eq_true, decide_eq_true_eq] at h
  omega
theorem gdP {α β : Type} {P : PRel α β} {K : PySem.W.Frag} {N : Nm} {W : WX} {b : Bool} {r : R α} {ρ : List Addr} {H : Hp} {σ : L2.St} {Q : β → Hp → Prop} (h : Pst K N W P (gd b r) ρ H σ Q) : b = true ∧ Pst K N W P r ρ H σ Q := by
  cases b with
  | true => exact ⟨rfl, h⟩
  | false => exact (show False from h).elim
theorem si_rng1 (C : Cok cc T cl N W k X) {a tg : Expr} {ia : E} {p pos : Pos} (hg : Gl X "range") (h : SE N W X a (ev T cl ia)) (hs : isStar a = false) : SI N W X tg (.Call (.Name "range" p) [a] [] pos) (evI T cl (.rng (.con (.int 0)) ia)) :=
  piImp (pi_range1 hg (C.ko.free "range" (by decide)) (pa_cons h pa_nil (starEach_cons hs)) (starEach_cons hs)) fun σ H RR hq => by
    obtain ⟨ρ, Γ, S, rel, ms, p⟩ := hq
    simp only [evI] at p
    have p' : Pst X.K N W (pW X.K N) ((ev T cl ia Γ S).bind fun y S => rngT (.int 0) y S) ρ H σ RR := by simpa only [ev, R.bind] using p
    refine step pmW rel ms p' fun d S1 v H1 ρ1 q1 e1 ms1 rel1 r1 p1 => ?_
    cases d with
    | int j =>
      obtain ⟨hb, p2⟩ := gdP p1
      obtain ⟨hb1, hb2⟩ := Bool.and_eq_true_iff.mp hb
      cases r1
      obtain ⟨s1, s2⟩ := smallI_of hb2
      have e0 : (j - 0).toNat = j.toNat := by simp
      rw [e0] at p2
      exact ⟨j, rfl, s1, s2, p2 _ H1 ρ1 .refl ms1 dw_rng⟩
    | _ => exact (show False from p1).elim
theorem si_rng2 (C : Cok cc T cl N W k X) {a b tg : Expr} {ia ib : E} {p pos : Pos} (hg : Gl X "range") (ha : SE N W X a (ev T cl ia)) (hb : SE N W X b (ev T cl ib)) (hs : isStar a = false) (hs' : isStar b = false) : SI N W X tg (.Call (.Name "range" p) [a, b] [] pos) (evI T cl (.rng ia ib)) :=
  piImp (pi_range2 hg (C.ko.free "range" (by decide)) (pa_cons ha (pa_cons hb pa_nil (starEach_cons hs')) (starEach_cons hs)) (by rw [starEach_cons hs, starEach_cons hs']; rfl) (starEach_cons hs')) fun σ H RR hq => by
    obtain ⟨ρ, Γ, S, rel, ms, p⟩ := hq
    simp only [evI] at p
    refine step pmW rel ms p fun d S1 v H1 ρ1 q1 e1 ms1 rel1 r1 p1 => step pmW rel1 ms1 p1 fun d2 S2 v2 H2 ρ2 q2 e2 ms2 rel2 r2 p2 => ?_
    cases d with
    | int i =>
      cases d2 with
      | int j =>
        obtain ⟨hb, p3⟩ := gdP p2
        obtain ⟨hb1, hb2⟩ := Bool.and_eq_true_iff.mp hb
        cases r1; cases r2
        obtain ⟨s1, s2⟩ := smallI_of hb1
        obtain ⟨s3, s4⟩ := smallI_of hb2
        exact ⟨i, j, rfl, ⟨s1, s2, s3, s4⟩, p3 _ H2 ρ2 .refl ms2 dw_rng⟩
      | _ => exact (show False from p2).elim
    | _ => exact (show False from p2).elim
theorem rg2 {i j : Int} (hi : smallI i = true) (hj : smallI j = true) : RgC i j 2 ((j - i + 1) / 2).toNat := by
  obtain ⟨s1, s2⟩ := smallI_of hi
  obtain ⟨s3, s4⟩ := smallI_of hj
  refine ⟨by decide, by decide, ?_, ?_⟩
  · unfold Builtin.Range.small Builtin.Range.rangeSize
    simp only [Builtin.Range.rangeFitsLong, Bool.and_eq_true, Bool.or_eq_true, decide_eq_true_eq, beq_iff_eq, show ((2 : Int) > 0) by decide, if_true]
    split <;> omega
  · unfold Builtin.Range.rangeSize
    split <;> split <;> omega
theorem si_rng3 (C : Cok cc T cl N W k X) {a b c tg : Expr} {ia ib ic : E} {p pos : Pos} (hg : Gl X "range") (ha : SE N W X a (ev T cl ia)) (hb : SE N W X b (ev T cl ib)) (hc : SE N W X c (ev T cl ic)) (hs : isStar a = false) (hs' : isStar b = false) (hs2 : isStar c = false) : SI N W X tg (.Call (.Name "range" p) [a, b, c] [] pos) (evI T cl (.rng3 ia ib ic)) :=
  piImp (pi_range3 hg (C.ko.free "range" (by decide)) (pa_cons ha (pa_cons hb (pa_cons hc pa_nil (starEach_cons hs2)) (starEach_cons hs')) (starEach_cons hs)) (starEach_cons hs) (star_any (by simp [hs', hs2]))) fun σ H RR hq => by
    obtain ⟨ρ, Γ, S, rel, ms, p⟩ := hq
    simp only [evI] at p
    refine step pmW rel ms p fun d S1 v H1 ρ1 q1 e1 ms1 rel1 r1 p1 => step pmW rel1 ms1 p1 fun d2 S2 v2 H2 ρ2 q2 e2 ms2 rel2 r2 p2 => step pmW rel2 ms2 p2 fun d3 S3 v3 H3 ρ3 q3 e3 ms3 rel3 r3 p3 => ?_
    unfold rng3T at p3
    split at p3
    · obtain ⟨hb, p4⟩ := gdP p3
      obtain ⟨hb1, hb2⟩ := Bool.and_eq_true_iff.mp hb
      cases r1; cases r2; cases r3
      exact ⟨_, _, 2, _, rfl, rg2 hb1 hb2, p4 _ H3 ρ3 .refl ms3 dw_rngC⟩
    · exact (show False from p3).elim
/-- a new pair behind each turn -/
theorem pair_ext {ρ : List Addr} {H : Hp} {S : Sto} {t : Addr} {x y : V} {d e : D} (ms : MS X.K ρ H N S) (ht : H t = none) (r1 : Rep X.K ρ H x d) (r2 : Rep X.K ρ H y e) :
    Ext X.K ρ ρ H (upd H t (.tup [x, y])) ∧ MS X.K ρ (upd H t (.tup [x, y])) N S ∧ Rep X.K ρ (upd H t (.tup [x, y])) (.ref t) (.tup [d, e]) :=
  ⟨Ext.tmp ht, ms.tmp ht, .tup (SqT.of upd_same) (.cons (r1.mono (Ext.tmp ht)) (.cons (r2.mono (Ext.tmp ht)) .nil))⟩
theorem si_enum (C : Cok cc T cl N W k X) {e : Expr} {ia : A} {elts : List Expr} {kk : Nat} {p pos tpos : Pos} (hg : Gl X "enumerate") (h : SA N W X e (evA T cl ia)) (hs : isStar e = false) : SI N W X (.Tuple elts kk tpos) (.Call (.Name "enumerate" p) [e] [] pos) (evI T cl (.enum ia)) := piAt fun σ H0 RR hq => by
  obtain ⟨ρ, Γ, S, rel, ms, p⟩ := hq
  simp only [evI] at p
  have hm := C.ko.free "enumerate" (by decide)
  cases e0 : evA T cl ia Γ S with
  | stuck => rw [e0] at p; exact (show False from p).elim
  | exc c fs S1 => exact ⟨_, pi_enum hg hm (pa_cons h pa_nil (starEach_cons hs)) (starEach_cons hs), ⟨ρ, Γ, S, rel, ms, by rw [e0] at p ⊢; exact p⟩⟩
  | ok x S1 =>
    have hn : ∀ s, x = .d (.str s) → False := fun s q => by
      rw [e0, q] at p
      simp only [R.bind, enumT, its] at p
      exact p
    cases hi : its S1 x with
    | none => rw [e0] at p; simp only [R.bind, enumT, hi] at p; exact (show False from p).elim
    | some xs =>
      cases hw : wkA S1 x with
      | none => rw [e0] at p; simp only [R.bind, enumT, hi, hw] at p; exact (show False from p).elim
      | some w =>
        cases ht : isTup x with
        | false =>
          refine ⟨_, pi_enum hg hm (pa_cons h pa_nil (starEach_cons hs)) (starEach_cons hs), step pmW rel ms p fun x' S1' v H1 ρ1 q1 e1 ms1 rel1 r1 p1 => ?_⟩
          rw [e0] at q1; cases q1
          simp only [enumT, hi, hw] at p1
          have p2 : Pst X.K N W (pW X.K N) (.ok ⟨enumL 0 w.xs, w.ks⟩ S1) ρ H0 σ RR := by
            rw [e0] at p
            simp only [R.bind, enumT, hi, hw] at p
            exact p
          obtain ⟨a, rfl, hi', L⟩ := later ms1 r1 hw fun s q => hn s q
          have L' : ∀ (H : Hp) (ρ : List Addr) (S : Sto), Lt X.K H0 ρ1 ρ H1 H → MS X.K ρ H N S → stays S w.ks = true → ∃ vs, SqL X.K H a vs ∧ Reps X.K ρ H vs w.xs := fun H ρ S e m st => by
            obtain ⟨vs, rs, (⟨_, q⟩ | ⟨z, _⟩)⟩ := L H ρ S e m st
            · exact ⟨vs, q, rs⟩
            · rw [ht] at z; cases z
          obtain ⟨a', vs, ev', rs, h5⟩ := its_sq ms1 r1 hi
          cases ev'
          refine ⟨a, vs, rfl, ?_, p2 _ H1 ρ1 e1 ms1 ?_⟩
          · rcases h5 with ⟨_, q⟩ | ⟨z, _⟩
            · exact q
            · rw [ht] at z; cases z
          · refine ⟨fun i H ρ S hi e m st => ?_, fun H ρ S e m st => ?_, fun i H ρ S x H' hi e m st y => ?_⟩
            · obtain ⟨vs, q, r⟩ := L' H ρ S e m st
              have hl : i < vs.length := by rw [r.length, ← enumL_len w.xs 0]; exact hi
              exact ⟨vs, vs[i], q, by simp [hl]⟩
            · obtain ⟨vs, q, r⟩ := L' H ρ S e m st
              exact ⟨vs, q, by rw [r.length]; show _ ≤ (enumL 0 w.xs).length; rw [enumL_len]; exact Nat.le_refl _⟩
            · obtain ⟨vs, q, r⟩ := L' H ρ S e m st
              obtain ⟨t, z, rfl, ht', rfl, hz⟩ := y
              obtain ⟨d, hd, rd⟩ := r.getV (hz vs q)
              obtain ⟨g1, g2, g3⟩ := pair_ext m ht' (.int (i : Nat)) rd
              refine ⟨_, enumL_get w.xs 0 i d hd, g1, g2, ?_⟩
              rw [Int.zero_add]; exact g3
        | true =>
          refine ⟨_, pi_enumT hg hm (pa_cons h pa_nil (starEach_cons hs)) (starEach_cons hs), step pmW rel ms p fun x' S1' v H1 ρ1 q1 e1 ms1 rel1 r1 p1 => ?_⟩
          rw [e0] at q1; cases q1
          simp only [enumT, hi, hw] at p1
          have p2 : Pst X.K N W (pW X.K N) (.ok ⟨enumL 0 w.xs, w.ks⟩ S1) ρ H0 σ RR := by
            rw [e0] at p
            simp only [R.bind, enumT, hi, hw] at p
            exact p
          obtain ⟨a, rfl, hi', L⟩ := later ms1 r1 hw fun s q => hn s q
          have L' : ∀ (H : Hp) (ρ : List Addr) (S : Sto), Lt X.K H0 ρ1 ρ H1 H → MS X.K ρ H N S → stays S w.ks = true → ∃ vs, SqT X.K H a vs ∧ Reps X.K ρ H vs w.xs := fun H ρ S e m st => by
            obtain ⟨vs, rs, (⟨z, _⟩ | ⟨_, q⟩)⟩ := L H ρ S e m st
            · rw [ht] at z; cases z
            · exact ⟨vs, q, rs⟩
          obtain ⟨a', vs, ev', rs, h5⟩ := its_sq ms1 r1 hi
          cases ev'
          refine ⟨a, vs, rfl, ?_, p2 _ H1 ρ1 e1 ms1 ?_⟩
          · rcases h5 with ⟨z, _⟩ | ⟨_, q⟩
            · rw [ht] at z; cases z
            · exact q
          · refine ⟨fun i H ρ S hi e m st => ?_, fun H ρ S e m st => ?_, fun i H ρ S x H' hi e m st y => ?_⟩
            · obtain ⟨vs, q, r⟩ := L' H ρ S e m st
              have hl : i < vs.length := by rw [r.length, ← enumL_len w.xs 0]; exact hi
              exact ⟨vs, vs[i], q, by simp [hl]⟩
            · obtain ⟨vs, q, r⟩ := L' H ρ S e m st
              exact ⟨vs, q, by rw [r.length]; show _ ≤ (enumL 0 w.xs).length; rw [enumL_len]; exact Nat.le_refl _⟩
            · obtain ⟨vs, q, r⟩ := L' H ρ S e m st
              obtain ⟨t, z, rfl, ht', rfl, hz⟩ := y
              obtain ⟨d, hd, rd⟩ := r.getV (hz vs q)
              obtain ⟨g1, g2, g3⟩ := pair_ext m ht' (.int (i : Nat)) rd
              refine ⟨_, enumL_get w.xs 0 i d hd, g1, g2, ?_⟩
              rw [Int.zero_add]; exact g3
theorem stays_join {S : Sto} : ∀ {a b : List (Nat × List D)}, stays S (a ++ b) = true → stays S a = true ∧ stays S b = true := stays_app
theorem si_zip (C : Cok cc T cl N W k X) {e e2 : Expr} {ia ib : A} {elts : List Expr} {kk : Nat} {p pos tpos : Pos} (hg : Gl X "zip") (h : SA N W X e (evA T cl ia)) (h2 : SA N W X e2 (evA T cl ib)) (hs : isStar e = false) (hs2 : isStar e2 = false) :
    SI N W X (.Tuple elts kk tpos) (.Call (.Name "zip" p) [e, e2] [] pos) (evI T cl (.zip ia ib)) :=
  piImp (RZ.pi_zipA hg (C.ko.free "zip" (by decide)) (pa_cons h (pa_cons h2 pa_nil (starEach_cons hs2)) (starEach_cons hs)) (starEach_cons hs) (star_any (by simp [hs2]))) fun σ H0 RR hq => by
    obtain ⟨ρ, Γ, S, rel, ms, p⟩ := hq
    simp only [evI] at p
    refine step pmW rel ms p fun x S1 v H1 ρ1 q1 e1 ms1 rel1 r1 p1 => step pmW rel1 ms1 p1 fun y S2 v2 H2 ρ2 q2 e2 ms2 rel2 r2 p2 => ?_
    unfold zipT at p2
    obtain ⟨hT, p3⟩ := gdP p2
    have hT' := beq_iff_eq.mp hT
    cases hx : its S2 x with
    | none => rw [hx] at p3; exact (show False from p3).elim
    | some xs =>
      cases hy : its S2 y with
      | none => rw [hx, hy] at p3; exact (show False from p3).elim
      | some ys =>
        cases hw : wkA S2 x with
        | none => rw [hx, hy, hw] at p3; exact (show False from p3).elim
        | some w =>
          cases hw2 : wkA S2 y with
          | none => rw [hx, hy, hw, hw2] at p3; exact (show False from p3).elim
          | some w2 =>
            simp only [hx, hy, hw, hw2] at p3
            have p4 : Pst X.K N W (pW X.K N) (.ok ⟨zipL w.xs w2.xs, w.ks ++ w2.ks⟩ S2) ρ H0 σ RR := by
              simp only [q1, q2, R.bind, zipT, hx, hy, hw, hw2, hT, gd] at p
              exact p
            have r1' := r1.mono e2
            obtain ⟨a, rfl, hi, L⟩ := later (H0 := H0) ms2 r1' hw fun s q => by rw [q] at hx; cases hx
            obtain ⟨b, rfl, hi2, L2⟩ := later (H0 := H0) ms2 (pmT _ _ _ _ _ _ (fun x q => e1.noneH q) r2) hw2 fun s q => by rw [q] at hy; cases hy
            obtain ⟨a', vs, ev', rs, h5⟩ := its_sq ms2 r1' hx
            cases ev'
            obtain ⟨b', vs2, ev2', rs2, h6⟩ := its_sq ms2 r2 hy
            cases ev2'
            refine ⟨a, b, vs, vs2, rfl, ?_⟩
            cases ht : isTup x with
            | false =>
              have ht2 : isTup y = false := by rw [← hT', ht]
              refine .inl ⟨?_, ?_, p4 _ H2 ρ2 (e1.trans e2) ms2 ?_⟩
              · rcases h5 with ⟨_, q⟩ | ⟨z, _⟩
                · exact q
                · rw [ht] at z; cases z
              · rcases h6 with ⟨_, q⟩ | ⟨z, _⟩
                · exact q
                · rw [ht2] at z; cases z
              have L' : ∀ (H : Hp) (ρ : List Addr) (S : Sto), Lt X.K H0 ρ2 ρ H2 H → MS X.K ρ H N S → stays S (w.ks ++ w2.ks) = true → ∃ vs vs2, SqL X.K H a vs ∧ Reps X.K ρ H vs w.xs ∧ SqL X.K H b vs2 ∧ Reps X.K ρ H vs2 w2.xs := fun H ρ S e m st => by
                obtain ⟨t1, t2⟩ := stays_app st
                obtain ⟨vs, rs, (⟨_, q⟩ | ⟨z, _⟩)⟩ := L H ρ S e m t1
                · obtain ⟨vs2, rs2, (⟨_, q2⟩ | ⟨z, _⟩)⟩ := L2 H ρ S e m t2
                  · exact ⟨vs, vs2, q, rs, q2, rs2⟩
                  · rw [ht2] at z; cases z
                · rw [ht] at z; cases z
              refine ⟨fun i H ρ S hi e m st => ?_, fun H ρ S e m st => ?_, fun i H ρ S x H' hi e m st y => ?_⟩
              · obtain ⟨vs, vs2, q, r, q2, r2⟩ := L' H ρ S e m st
                have hi' : i < (zipL w.xs w2.xs).length := hi
                rw [zipL_len] at hi'
                have hl : i < vs.length := by rw [r.length]; omega
                have hl2 : i < vs2.length := by rw [r2.length]; omega
                exact ⟨vs, vs2, vs[i], vs2[i], q, q2, by simp [hl], by simp [hl2]⟩
              · obtain ⟨vs, vs2, q, r, q2, r2⟩ := L' H ρ S e m st
                refine ⟨vs, vs2, q, q2, ?_⟩
                rw [r.length, r2.length]
                show _ ≤ (zipL w.xs w2.xs).length ∨ _ ≤ (zipL w.xs w2.xs).length
                rw [zipL_len]; omega
              · obtain ⟨vs, vs2, q, r, q2, r2⟩ := L' H ρ S e m st
                obtain ⟨t, z, z2, rfl, ht', rfl, hz, hz2⟩ := y
                obtain ⟨d, hd, rd⟩ := r.getV (hz vs q)
                obtain ⟨d2, hd2, rd2⟩ := r2.getV (hz2 vs2 q2)
                obtain ⟨g1, g2, g3⟩ := pair_ext m ht' rd rd2
                exact ⟨_, zipL_get w.xs w2.xs i d d2 hd hd2, g1, g2, g3⟩
            | true =>
              have ht2 : isTup y = true := by rw [← hT', ht]
              refine .inr ⟨?_, ?_, p4 _ H2 ρ2 (e1.trans e2) ms2 ?_⟩
              · rcases h5 with ⟨z, _⟩ | ⟨_, q⟩
                · rw [ht] at z; cases z
                · exact q
              · rcases h6 with ⟨z, _⟩ | ⟨_, q⟩
                · rw [ht2] at z; cases z
                · exact q
              have L' : ∀ (H : Hp) (ρ : List Addr) (S : Sto), Lt X.K H0 ρ2 ρ H2 H → MS X.K ρ H N S → stays S (w.ks ++ w2.ks) = true → ∃ vs vs2, SqT X.K H a vs ∧ Reps X.K ρ H vs w.xs ∧ SqT X.K H b vs2 ∧ Reps X.K ρ H vs2 w2.xs := fun H ρ S e m st => by
                obtain ⟨t1, t2⟩ := stays_app st
                obtain ⟨vs, rs, (⟨z, _⟩ | ⟨_, q⟩)⟩ := L H ρ S e m t1
                · rw [ht] at z; cases z
                · obtain ⟨vs2, rs2, (⟨z, _⟩ | ⟨_, q2⟩)⟩ := L2 H ρ S e m t2
                  · rw [ht2] at z; cases z
                  · exact ⟨vs, vs2, q, rs, q2, rs2⟩
              refine ⟨fun i H ρ S hi e m st => ?_, fun H ρ S e m st => ?_, fun i H ρ S x H' hi e m st y => ?_⟩
              · obtain ⟨vs, vs2, q, r, q2, r2⟩ := L' H ρ S e m st
                have hi' : i < (zipL w.xs w2.xs).length := hi
                rw [zipL_len] at hi'
                have hl : i < vs.length := by rw [r.length]; omega
                have hl2 : i < vs2.length := by rw [r2.length]; omega
                exact ⟨vs, vs2, vs[i], vs2[i], q, q2, by simp [hl], by simp [hl2]⟩
              · obtain ⟨vs, vs2, q, r, q2, r2⟩ := L' H ρ S e m st
                refine ⟨vs, vs2, q, q2, ?_⟩
                rw [r.length, r2.length]
                show _ ≤ (zipL w.xs w2.xs).length ∨ _ ≤ (zipL w.xs w2.xs).length
                rw [zipL_len]; omega
              · obtain ⟨vs, vs2, q, r, q2, r2⟩ := L' H ρ S e m st
                obtain ⟨t, z, z2, rfl, ht', rfl, hz, hz2⟩ := y
                obtain ⟨d, hd, rd⟩ := r.getV (hz vs q)
                obtain ⟨d2, hd2, rd2⟩ := r2.getV (hz2 vs2 q2)
                obtain ⟨g1, g2, g3⟩ := pair_ext m ht' rd rd2
                exact ⟨_, zipL_get w.xs w2.xs i d d2 hd hd2, g1, g2, g3⟩
end
end DL

set_option linter.all false
set_option maxRecDepth 100000
set_option maxHeartbeats 2000000
set_option autoImplicit false
/-! DL12: targets; list comprehensions. -/
namespace DL
open PySem PySem.Spec PyProof.Rows L2

/-! ### slots -/
theorem ev_ext {α : Type} {a b : List α} (h : ∀ j : Nat, a[j]? = b[j]?) : a = b := List.ext_getElem? h
theorem clr_len (Γ : Ev) : ∀ is : List Nat, (clr Γ is).length = Γ.length
  | [] => rfl
  | i :: is => by show ((clr Γ is).set i none).length = _; rw [List.length_set, clr_len Γ is]
theorem clr_out {Γ : Ev} {j : Nat} : ∀ {is : List Nat}, j ∉ is → (clr Γ is)[j]? = Γ[j]?
  | [], _ => rfl
  | i :: is, h => by
    have h1 : i ≠ j := fun z => h (by simp [z])
    have h2 : j ∉ is := fun z => h (by simp [z])
    show ((clr Γ is).set i none)[j]? = _
    rw [List.getElem?_set_ne h1, clr_out h2]
theorem clr_in {Γ : Ev} {j : Nat} {d : D} : ∀ {is : List Nat}, j ∈ is → (clr Γ is)[j]? ≠ some (some d)
  | [], h => by cases h
  | i :: is, h => by
    show ((clr Γ is).set i none)[j]? ≠ _
    by_cases e : i = j
    · subst e
      rw [List.getElem?_set]
      simp
    · rw [List.getElem?_set_ne e]
      exact clr_in (by
        rcases List.mem_cons.mp h with z | z
        · exact absurd z.symm e
        · exact z)
theorem setAll_agree : ∀ {is : List Nat} {ds : List D} {Γ Γ2 : Ev}, Γ.length = Γ2.length → (∀ j, j ∉ is → Γ[j]? = Γ2[j]?) → setAll is ds Γ = setAll is ds Γ2
  | [], [], Γ, Γ2, hl, h => by
    have : Γ = Γ2 := ev_ext fun j => h j (by simp)
    rw [this]
  | [], _ :: _, _, _, _, _ => rfl
  | _ :: _, [], _, _, _, _ => rfl
  | i :: is, d :: ds, Γ, Γ2, hl, h => by
    show setAll is ds (Γ.set i (some d)) = setAll is ds (Γ2.set i (some d))
    refine setAll_agree (by simp [hl]) fun j hj => ?_
    by_cases e : i = j
    · subst e
      rw [List.getElem?_set, List.getElem?_set]
      simp [hl]
    · rw [List.getElem?_set_ne e, List.getElem?_set_ne e]
      exact h j (by simp [Ne.symm e, hj])
theorem asg_agree {t : Tg} {d : D} {Γ Γ2 : Ev} (hl : Γ.length = Γ2.length) (h : ∀ j, j ∉ slots t → Γ[j]? = Γ2[j]?) : asg t d Γ = asg t d Γ2 := by
  cases t with
  | nm i =>
    have := setAll_agree (is := [i]) (ds := [d]) hl h
    exact this
  | tp is =>
    cases d with
    | tup ds => exact setAll_agree hl h
    | _ => rfl
theorem setAll_len : ∀ {is : List Nat} {ds : List D} {Γ Γ2 : Ev}, setAll is ds Γ = some Γ2 → Γ2.length = Γ.length
  | [], [], _, _, h => by cases h; rfl
  | [], _ :: _, _, _, h => by cases h
  | _ :: _, [], _, _, h => by cases h
  | i :: is, d :: ds, Γ, Γ2, h => by
    have := setAll_len (show setAll is ds (Γ.set i (some d)) = some Γ2 from h)
    rw [this, List.length_set]
theorem setAll_out : ∀ {is : List Nat} {ds : List D} {Γ Γ2 : Ev} {j : Nat}, setAll is ds Γ = some Γ2 → j ∉ is → Γ2[j]? = Γ[j]?
  | [], [], _, _, _, h, _ => by cases h; rfl
  | [], _ :: _, _, _, _, h, _ => by cases h
  | _ :: _, [], _, _, _, h, _ => by cases h
  | i :: is, d :: ds, Γ, Γ2, j, h, hj => by
    have h1 : i ≠ j := fun z => hj (by simp [z])
    have h2 : j ∉ is := fun z => hj (by simp [z])
    rw [setAll_out (show setAll is ds (Γ.set i (some d)) = some Γ2 from h) h2, List.getElem?_set_ne h1]
theorem asg_len {t : Tg} {d : D} {Γ Γ2 : Ev} (h : asg t d Γ = some Γ2) : Γ2.length = Γ.length := by
  cases t with
  | nm i => cases h; simp
  | tp is =>
    cases d with
    | tup ds => exact setAll_len h
    | _ => cases h
theorem asg_out {t : Tg} {d : D} {Γ Γ2 : Ev} {j : Nat} (h : asg t d Γ = some Γ2) (hj : j ∉ slots t) : Γ2[j]? = Γ[j]? := by
  cases t with
  | nm i => cases h; rw [List.getElem?_set_ne fun z => hj (by simp [slots, z])]
  | tp is =>
    cases d with
    | tup ds => exact setAll_out h hj
    | _ => cases h
theorem wipe_in {σ : L2.St} {j : Nat} : ∀ {vs : List Nat}, j ∈ vs → (wipe σ vs)[j]? = if j < σ.length then some none else none
  | [], h => by cases h
  | v :: vs, h => by
    unfold wipe
    by_cases e : v = j
    · subst e
      rw [List.getElem?_set]
      simp [wipe_length]
    · rw [List.getElem?_set_ne e]
      exact wipe_in (by
        rcases List.mem_cons.mp h with z | z
        · exact absurd z.symm e
        · exact z)
theorem wipe_eq {σ σ2 : L2.St} {vs : List Nat} (hl : σ.length = σ2.length) (h : ∀ j, j ∉ vs → σ[j]? = σ2[j]?) : wipe σ vs = wipe σ2 vs := ev_ext fun j => by
  by_cases hj : j ∈ vs
  · rw [wipe_in hj, wipe_in hj, hl]
  · rw [wipe_out hj, wipe_out hj, h j hj]

/-! ### targets -/
section
variable (K : PySem.W.Frag)
def gT (t : Tg) : TG := fun v σ H Q => ∃ ρ Γ d Γ', (Γ.length = σ.length ∧ ∀ (i : Nat) (d : D), i ∉ slots t → Γ[i]? = some (some d) → ∃ v, σ[i]? = some (some v) ∧ Rep K ρ H v d) ∧ Rep K ρ H v d ∧ asg t d Γ = some Γ' ∧
  ∀ σ', RelE K ρ H Γ' σ' → (∀ j, j ∉ slots t → σ'[j]? = σ[j]?) → Q σ' H
end
def setS : List Nat → List V → L2.St → L2.St
  | i :: is, v :: vs, σ => setS is vs (σ.set i (some v))
  | _, _, σ => σ
def gNames (is : List Nat) : TGs := fun vs σ H Q => vs.length = is.length ∧ Q (setS is vs σ) H
/-- where one stands, for names -/
structure Inf where
  N : List Str
  sc : Scope
  fn : Str → Bool
structure Inf.Is (I : Inf) (X : Cx) : Prop where
  N : X.N = I.N
  sc : X.env.scope = I.sc
  fn : X.fn = I.fn
def ixOfN (N : List Str) (x : Str) : Option Nat := N.findIdx? fun y => decide (y = x)
theorem ixOfN_at {N : List Str} {x : Str} {i : Nat} (h : ixOfN N x = some i) : N[i]? = some x := by
  unfold ixOfN at h
  obtain ⟨hi, h1, _⟩ := List.findIdx?_eq_some_iff_getElem.mp h
  rw [List.getElem?_eq_getElem hi]
  exact congrArg some (of_decide_eq_true h1)
/-- a name that may be stored -/
def stoN (I : Inf) (x : Str) : Option Nat := match I.sc.names.lookup x with
  | some .local => ixOfN I.N x
  | some .cell => if I.fn x then ixOfN I.N x else none
  | _ => none
section
variable {cc : CC} {T : Tb} {cl : Orc} {N : Nm} {W : WX} {k : Nat} {X : Cx} {I : Inf}
theorem pg_sto (hI : I.Is X) (hn : X.N.Nodup) {x : Str} {i : Nat} {pos : Pos} (h : stoN I x = some i) : PG X (.Name x pos) (gName i) := by
  unfold stoN at h
  split at h
  · rename_i q
    have e : X.env.scope.names.lookup x = some .local := by rw [hI.sc]; exact q
    exact pg_name hn (by rw [hI.N]; exact ixOfN_at h) (.inl e) (.inr e)
  · rename_i q
    have e : X.env.scope.names.lookup x = some .cell := by rw [hI.sc]; exact q
    split at h
    · rename_i hf
      exact pg_name hn (by rw [hI.N]; exact ixOfN_at h) (.inr e) (.inl (by rw [hI.fn]; exact hf))
    · cases h
  · cases h
abbrev SG (X : Cx) (tg : Expr) (t : Tg) : Prop := PG X tg (gT X.K t)
theorem pgImp {tg : Expr} {g g' : TG} (h : PG X tg g) (i : ∀ v σ H Q, g' v σ H Q → g v σ H Q) : PG X tg g' := ⟨fun pins s σ H v u Q I r q => h.run pins s σ H v u Q I r (i v σ H Q q)⟩
theorem sg_name (hI : I.Is X) (hn : X.N.Nodup) {x : Str} {i : Nat} {pos : Pos} (h : stoN I x = some i) : SG X (.Name x pos) (.nm i) := pgImp (pg_sto hI hn h) fun v σ H Q q => by
  obtain ⟨ρ, Γ, d, Γ', ⟨hl, hr⟩, rd, ha, q⟩ := q
  cases ha
  refine q _ ⟨by simp [hl], fun j e hj => ?_⟩ fun j hj => List.getElem?_set_ne fun z => hj (by simp [slots, z])
  by_cases hij : i = j
  · subst hij
    have hlt : i < Γ.length := by
      have := (List.getElem?_eq_some_iff.mp hj).1
      simpa using this
    rw [List.getElem?_set_self hlt] at hj
    cases hj
    exact ⟨v, List.getElem?_set_self (by rw [← hl]; exact hlt), rd⟩
  · rw [List.getElem?_set_ne hij] at hj ⊢
    exact hr j e (by simp [slots, Ne.symm hij]) hj
def tgNames (I : Inf) : List Expr → Option (List Nat)
  | [] => some []
  | .Name x _ :: es => (match stoN I x, tgNames I es with
    | some i, some is => some (i :: is)
    | _, _ => none)
  | _ => none
theorem tgNames_ok (hI : I.Is X) (hn : X.N.Nodup) : ∀ {es : List Expr} {is : List Nat}, tgNames I es = some is → PGs X es (gNames is) ∧ (assignEach es X.env).length = is.length ∧ (assignEach es X.env).findIdx? (·.1) = none
  | [], is, h => by
    cases h
    refine ⟨⟨fun pins s σ H vs us Q I r q => pgs_nil.run pins s σ H vs us Q I r ?_⟩, rfl, rfl⟩
    obtain ⟨q1, q2⟩ := q
    have : vs = [] := List.eq_nil_of_length_eq_zero q1
    subst this
    exact ⟨rfl, q2⟩
  | e :: es, is, h => by
    cases e with
    | Name x pos =>
      simp only [tgNames] at h
      cases h1 : stoN I x with
      | none => rw [h1] at h; cases h
      | some i =>
        cases h2 : tgNames I es with
        | none => rw [h1, h2] at h; cases h
        | some is' =>
          rw [h1, h2] at h
          cases h
          obtain ⟨g1, g2, g3⟩ := tgNames_ok hI hn h2
          refine ⟨⟨fun pins s σ H vs us Q I' r q => (pgs_cons (pg_sto hI hn h1) g1).run pins s σ H vs us Q I' r ?_⟩, ?_, ?_⟩
          · obtain ⟨q1, q2⟩ := q
            cases vs with
            | nil => cases q1
            | cons v vs => exact ⟨v, vs, rfl, by simpa using q1, q2⟩
          · show (assignEach es X.env).length + 1 = _
            rw [g2]; rfl
          · show List.findIdx? (·.1) ((false, _) :: assignEach es X.env) = none
            rw [List.findIdx?_cons]
            simp only [g3]
            rfl
    | _ => cases h
theorem setS_len : ∀ {is : List Nat} {vs : List V} {σ : L2.St}, (setS is vs σ).length = σ.length
  | [], _, _ => by unfold setS; rfl
  | _ :: _, [], _ => by unfold setS; rfl
  | i :: is, v :: vs, σ => by
    show (setS is vs (σ.set i (some v))).length = _
    rw [setS_len, List.length_set]
theorem setS_out {j : Nat} : ∀ {is : List Nat} {vs : List V} {σ : L2.St}, j ∉ is → (setS is vs σ)[j]? = σ[j]?
  | [], _, _, _ => by unfold setS; rfl
  | _ :: _, [], _, _ => by unfold setS; rfl
  | i :: is, v :: vs, σ, hj => by
    show (setS is vs (σ.set i (some v)))[j]? = _
    rw [setS_out (fun z => hj (by simp [z])), List.getElem?_set_ne fun z => hj (by simp [z])]
theorem setAll_rel {K : PySem.W.Frag} {ρ : List Addr} {H : Hp} : ∀ {is : List Nat} {vs : List V} {ds : List D} {Γ Γ' : Ev} {σ : L2.St}, Reps K ρ H vs ds → Γ.length = σ.length → (∀ (i : Nat) (d : D), i ∉ is → Γ[i]? = some (some d) → ∃ v, σ[i]? = some (some v) ∧ Rep K ρ H v d) →
    setAll is ds Γ = some Γ' → vs.length = is.length ∧ RelE K ρ H Γ' (setS is vs σ)
  | [], _, _, Γ, Γ', σ, .nil, hl, hr, h => by
    cases h
    exact ⟨rfl, hl, fun i d q => hr i d (by simp) q⟩
  | [], _, _, _, _, _, .cons _ _, _, _, h => by cases h
  | _ :: _, _, _, _, _, _, .nil, _, _, h => by cases h
  | i :: is, _, _, Γ, Γ', σ, .cons (v := v) (d := d) (vs := vs) (ds := ds) r rs, hl, hr, h => by
    have h' : setAll is ds (Γ.set i (some d)) = some Γ' := h
    have := setAll_rel (σ := σ.set i (some v)) rs (by simp [hl]) (fun j e hj q => ?_) h'
    · exact ⟨by simp [this.1], this.2⟩
    · by_cases hij : i = j
      · subst hij
        have hlt : i < Γ.length := by
          have := (List.getElem?_eq_some_iff.mp q).1
          simpa using this
        rw [List.getElem?_set_self hlt] at q
        cases q
        exact ⟨v, List.getElem?_set_self (by rw [← hl]; exact hlt), r⟩
      · rw [List.getElem?_set_ne hij] at q ⊢
        exact hr j e (by simp [Ne.symm hij, hj]) q
theorem sg_tup (hI : I.Is X) (hc : X.calm = true) (hn : X.N.Nodup) {es : List Expr} {is : List Nat} {kk : Nat} {pos : Pos} (h : tgNames I es = some is) : SG X (.Tuple es kk pos) (.tp is) := by
  obtain ⟨g1, g2, g3⟩ := tgNames_ok hI hn h
  refine pgImp (pg_tup hc g1 g2 g3) fun v σ H Q q => ?_
  obtain ⟨ρ, Γ, d, Γ', ⟨hl, hr⟩, rd, ha, q⟩ := q
  cases rd with
  | tup sq rs =>
    rename_i a vs ds
    obtain ⟨z1, z2⟩ := setAll_rel rs hl hr ha
    exact ⟨a, vs, rfl, sq, z1, z1, q _ z2 fun j hj => setS_out hj⟩
  | _ => cases ha
/-- targets of loops -/
def cmpTg (I : Inf) : Expr → Option Tg
  | .Name x _ => (stoN I x).map .nm
  | .Tuple es _ _ => (tgNames I es).map .tp
  | _ => none
theorem sg_of (hI : I.Is X) (hc : X.calm = true) (hn : X.N.Nodup) {e : Expr} {t : Tg} (h : cmpTg I e = some t) : SG X e t := by
  cases e with
  | Name x pos =>
    simp only [cmpTg] at h
    cases q : stoN I x with
    | none => rw [q] at h; cases h
    | some i => rw [q] at h; cases h; exact sg_name hI hn q
  | Tuple es kk pos =>
    simp only [cmpTg] at h
    cases q : tgNames I es with
    | none => rw [q] at h; cases h
    | some is => rw [q] at h; cases h; exact sg_tup hI hc hn q
  | _ => cases h
end
end DL

set_option linter.all false
set_option maxRecDepth 100000
set_option maxHeartbeats 2000000
set_option autoImplicit false
/-! DL13: list comprehensions. -/
namespace DL
open PySem PySem.Spec PyProof.Rows L2

/-! ### a list under way -/
structure Pln (o : HO) : Prop where
  t : ∀ xs, o ≠ .tup xs
  f : ∀ ob xs, o ≠ .frz ob (.tup xs)
  w : ∀ y, o ≠ .own y
theorem pln_lst {xs : List V} : Pln (.lst xs) := ⟨fun _ => (nomatch ·), fun _ _ => (nomatch ·), fun _ => (nomatch ·)⟩
theorem pln_dK {xs : List (Key × V)} : Pln (.dK xs) := ⟨fun _ => (nomatch ·), fun _ _ => (nomatch ·), fun _ => (nomatch ·)⟩
section
variable {K : PySem.W.Frag} {ρ ρ1 : List Addr} {H H1 : Hp} {N : Nm} {S : Sto} {p : Addr} {o o' : HO}
theorem sq_retmp (hp : H p = some o) (pl : Pln o) : ∀ a xs, SqT K H a xs → SqT K (upd H p o') a xs := fun a xs q => by
  rcases q with q | q
  · left
    rcases q with q | ⟨ob, q⟩
    · exact .inl (by rw [upd_ne (fun z => by subst z; rw [hp] at q; exact pl.t xs (Option.some.inj q))]; exact q)
    · exact .inr ⟨ob, by rw [upd_ne (fun z => by subst z; rw [hp] at q; exact pl.f ob xs (Option.some.inj q))]; exact q⟩
  · exact .inr q
theorem MS.retmp (m : MS K ρ H N S) (hp : H p = some o) (pl : Pln o) (hn : p ∉ ρ) : MS K ρ (upd H p o') N S where
  len := m.len
  nd := m.nd
  ob := fun n a ob h1 h2 => by
    have r := m.ob n a ob h1 h2
    have ha : a ≠ p := fun z => hn (z ▸ List.mem_iff_getElem?.mpr ⟨n, h1⟩)
    have hx : (upd H p o') a = H a := upd_ne ha
    have sq := sq_retmp (K := K) (o' := o') hp pl
    cases ob with
    | lst xs => obtain ⟨vs, q, r⟩ := r; exact ⟨vs, hx.trans q, r.mg (fun _ _ h => h) sq⟩
    | ro xs => obtain ⟨ob, vs, q, r⟩ := r; exact ⟨ob, vs, hx.trans q, r.mg (fun _ _ h => h) sq⟩
    | dic xs => obtain ⟨vs, q, r⟩ := r; exact ⟨vs, hx.trans q, r.mg (fun _ _ h => h) sq⟩
    | ins c fs =>
      obtain ⟨dx, vs, q, d, r⟩ := r
      refine ⟨dx, vs, hx.trans q, ?_, r.mg (fun _ _ h => h) sq⟩
      rw [upd_ne (fun z => by subst z; rw [hp] at d; exact pl.w a (Option.some.inj d))]; exact d
theorem Ext.retmp (e : Ext K ρ1 ρ H1 H) (h0 : H1 p = none) (hp : H p = some o) (pl : Pln o) : Ext K ρ1 ρ H1 (upd H p o') where
  pre := e.pre
  new := e.new
  keep := fun a ob q hn => by rw [upd_ne (ne_of_none q h0)]; exact e.keep a ob q hn
  sq := fun a xs q => sq_retmp hp pl a xs (e.sq a xs q)
  alive := fun a ob q => by
    obtain ⟨o2, h2⟩ := e.alive a ob q
    exact ⟨o2, by rw [upd_ne (ne_of_none q h0)]; exact h2⟩
theorem Lt.retmp {H0 : Hp} {o0 : HO} (e : Lt K H0 ρ1 ρ H1 H) (h0 : H0 p = some o0) (hp : H p = some o) (pl : Pln o) : Lt K H0 ρ1 ρ H1 (upd H p o') where
  pre := e.pre
  new := e.new
  keep := fun a ob q0 q hn => by rw [upd_ne (fun z => by rw [z, h0] at q0; cases q0)]; exact e.keep a ob q0 q hn
  sq := fun a xs q => sq_retmp hp pl a xs (e.sq a xs q)
  alive := fun a ob q => by
    by_cases hb : a = p
    · subst hb; exact ⟨o', upd_same⟩
    · obtain ⟨o2, h2⟩ := e.alive a ob q
      exact ⟨o2, by rw [upd_ne hb]; exact h2⟩
theorem Ext.notin (e : Ext K ρ1 ρ H1 H) {o : HO} (hp : H1 p = some o) (hn : p ∉ ρ1) : p ∉ ρ := fun q => by
  rcases e.new p q with z | z
  · exact hn z
  · rw [hp] at z; cases z
end

/-! ### one clause -/
section
variable {ks : List (Nat × List D)} {t : Tg} {f : Ev → Sto → R (List D)} {Γ : Ev}
theorem gd_is {α : Type} {b : Bool} {r : R α} {a : α} {S : Sto} (h : gd b r = .ok a S) : b = true ∧ r = .ok a S := by
  cases b with
  | true => exact ⟨rfl, h⟩
  | false => cases h
theorem compL_nil {S Sf : Sto} {zs : List D} (h : compL ks t f Γ [] S = .ok zs Sf) : stays S ks = true ∧ zs = [] ∧ Sf = S := by
  obtain ⟨h1, h2⟩ := gd_is (show gd (stays S ks) (.ok [] S) = .ok zs Sf from h)
  cases h2
  exact ⟨h1, rfl, rfl⟩
theorem compL_cons {x : D} {xs : List D} {S Sf : Sto} {zs : List D} (h : compL ks t f Γ (x :: xs) S = .ok zs Sf) :
    stays S ks = true ∧ ∃ Γ' ys S' zs', asg t x Γ = some Γ' ∧ f Γ' S = .ok ys S' ∧ compL ks t f Γ xs S' = .ok zs' Sf ∧ zs = ys ++ zs' ∧ zs.length ≤ big := by
  unfold compL at h
  obtain ⟨h1, h2⟩ := gd_is h
  refine ⟨h1, ?_⟩
  cases e1 : asg t x Γ with
  | none => rw [e1] at h2; cases h2
  | some Γ' =>
    simp only [e1] at h2
    cases e2 : f Γ' S with
    | stuck => rw [e2] at h2; cases h2
    | exc c fs S' => rw [e2] at h2; cases h2
    | ok ys S' =>
      simp only [e2] at h2
      cases e3 : compL ks t f Γ xs S' with
      | stuck => rw [e3] at h2; cases h2
      | exc c fs S' => rw [e3] at h2; cases h2
      | ok zs' S'' =>
        simp only [e3] at h2
        obtain ⟨h3, h4⟩ := gd_is h2
        cases h4
        exact ⟨Γ', ys, S', zs', rfl, e2, e3, rfl, by simp; exact Nat.le_of_ble_eq_true h3⟩
theorem compL_le : ∀ {xs : List D} {S Sf : Sto} {zs : List D}, compL ks t f Γ xs S = .ok zs Sf → zs.length ≤ big
  | [], S, Sf, zs, h => by rw [(compL_nil h).2.1]; exact Nat.zero_le _
  | x :: xs, S, Sf, zs, h => by
    obtain ⟨_, _, _, _, _, _, _, _, _, h⟩ := compL_cons h
    exact h
theorem gd_exc {α : Type} {b : Bool} {r : R α} {c : Nat} {fs : List D} {S : Sto} (h : gd b r = .exc c fs S) : r = .exc c fs S := by
  cases b with
  | true => exact h
  | false => cases h
theorem compL_exc : ∀ {xs : List D} {S Sf : Sto} {c : Nat} {fs : List D}, compL ks t f Γ xs S ≠ .exc c fs Sf
  | [], S, Sf, c, fs, h => by
    have := gd_exc (show gd (stays S ks) (.ok [] S) = .exc c fs Sf from h)
    cases this
  | x :: xs, S, Sf, c, fs, h => by
    unfold compL at h
    have h2 := gd_exc h
    cases e1 : asg t x Γ with
    | none => rw [e1] at h2; cases h2
    | some Γ' =>
      simp only [e1] at h2
      cases e2 : f Γ' S with
      | stuck => rw [e2] at h2; cases h2
      | exc c fs S' => rw [e2] at h2; cases h2
      | ok ys S' =>
        simp only [e2] at h2
        cases e3 : compL ks t f Γ xs S' with
        | stuck => rw [e3] at h2; cases h2
        | exc c fs S' => rw [e3] at h2; cases h2
        | ok zs' S'' =>
          simp only [e3] at h2
          have := gd_exc h2
          cases this
end
/-- no exception may come -/
abbrev WF : WX := fun _ _ _ _ => False
section
variable {cc : CC} {T : Tb} {cl : Orc} {N : Nm} {W : WX} {k : Nat} {X : Cx} {K : PySem.W.Frag}
theorem lc_pred {it : It} {t : Tg} {c : Oc} {e : E} {σ : L2.St} {H : Hp} {Q : VK} (h : tG K N W (pT K) (evA T cl (.lc it t c e)) σ H Q) :
    tLc (tG K N W (pW K N) (evI T cl it)) (gT K t) (tG K N WF (pQ Bool) (tstO T cl c)) (tG K N WF (pD K) (ev T cl e)) (slots t) σ H Q := by
  obtain ⟨ρ, Γ, S, rel, ms, p⟩ := h
  simp only [evA] at p
  refine step pmT rel ms p fun w S1 J H1 ρ1 q1 e1 ms1 rel1 dw p1 D hD => ?_
  clear p q1 e1 ms rel
  generalize hF : (fun Γ S => (tstO T cl c Γ S).bind fun b S => (match b with
    | true => (ev T cl e Γ S).bind fun d S => .ok [d] S
    | false => .ok [] S) : Ev → Sto → DL.R (List DL.D)) = F at p1
  cases e0 : compL w.ks t F Γ w.xs S1 with
  | stuck => rw [e0] at p1; exact (show False from p1).elim
  | exc x fs S2 => exact absurd e0 compL_exc
  | ok total Sf =>
    rw [e0] at p1
    have hle := compL_le e0
    refine ⟨fun i m H => m = w.xs.length - i ∧ i ≤ w.xs.length ∧ ∃ ρ S acc ds zs, Ext K ρ1 ρ H1 H ∧ MS K ρ H N S ∧ D ∉ ρ ∧ H D = some (.lst acc) ∧ Reps K ρ H acc ds ∧ compL w.ks t F Γ (w.xs.drop i) S = .ok zs Sf ∧ ds ++ zs = total, ?_, ?_⟩
    · exact ⟨_, rfl, Nat.zero_le _, ρ1, S1, [], [], total, Ext.tmp hD, ms1.tmp hD, ms1.fresh hD, upd_same, .nil, e0, rfl⟩
    · rintro i m H ⟨rfl, hi, ρ, S, acc, ds, zs, e1, m, hDρ, hDH, ra, hc, ht⟩
      by_cases hlt : i < w.xs.length
      · right
        rw [List.drop_eq_getElem_cons hlt] at hc
        obtain ⟨hst, Γ', ys, S', zs', ha, hf, hc', hz, _⟩ := compL_cons hc
        refine ⟨dw.go i H ρ S hlt e1.lt m hst, fun H' => i + 1 ≤ w.xs.length ∧ ∃ ρ S acc ds zs, Ext K ρ1 ρ H1 H' ∧ MS K ρ H' N S ∧ D ∉ ρ ∧ H' D = some (.lst acc) ∧ Reps K ρ H' acc ds ∧ compL w.ks t F Γ (w.xs.drop (i + 1)) S = .ok zs Sf ∧ ds ++ zs = total, fun H' hN => ⟨w.xs.length - (i + 1), by omega, rfl, hN⟩, fun x H' y => ?_⟩
        obtain ⟨d, hd, e2, m2, rd⟩ := dw.yld i H ρ S x H' hlt e1.lt m hst y
        have hd' : w.xs[i] = d := by
          rw [List.getElem?_eq_getElem hlt] at hd; exact Option.some.inj hd
        subst hd'
        have hDH' := e2.keep D _ hDH hDρ
        have rel' : RelE K ρ H' Γ σ := rel1.mono (e1.trans e2)
        refine ⟨ρ, Γ, w.xs[i], Γ', ⟨by rw [wipe_length]; exact rel'.1, fun j d hj q => by rw [wipe_out hj]; exact rel'.2 j d q⟩, rd, ha, fun σ2 rel2 out => ⟨?_, ?_⟩⟩
        · refine wipe_eq ?_ fun j hj => (out j hj).trans (wipe_out hj)
          rw [← rel2.1, asg_len ha, rel'.1]
        · refine ⟨ρ, Γ', S, rel2, m2, ?_⟩
          rw [← hF] at hf
          dsimp only at hf
          cases ec : tstO T cl c Γ' S with
          | stuck => rw [ec] at hf; cases hf
          | exc x fs S2 => rw [ec] at hf; cases hf
          | ok b S3 =>
            rw [ec] at hf
            intro b' H3 ρ3 e3 m3 hb
            have hb' : b' = b := hb
            subst hb'
            have hDρ3 := e3.notin hDH' hDρ
            have hDH3 := e3.keep D _ hDH' hDρ
            cases b' with
            | true =>
              simp only [R.bind] at hf
              rw [if_pos rfl]
              refine ⟨ρ3, Γ', S3, rel2.mono e3, m3, ?_⟩
              cases ee : ev T cl e Γ' S3 with
              | stuck => rw [ee] at hf; cases hf
              | exc x fs S2 => rw [ee] at hf; cases hf
              | ok dd S4 =>
                rw [ee] at hf
                cases hf
                intro y H4 ρ4 e4 m4 ry
                have hDρ4 := e4.notin hDH3 hDρ3
                have hDH4 := e4.keep D _ hDH3 hDρ3
                have etot := ((e1.trans e2).trans e3).trans e4
                have hlen : acc.length < sizeLine := by
                  rw [ra.length, sizeLine_eq]
                  have : total.length = ds.length + (1 + zs'.length) := by rw [← ht, hz]; simp [Nat.add_comm]
                  have : ds.length + 1 ≤ big := by omega
                  show ds.length < big
                  omega
                refine ⟨acc, hDH4, hlen, hlt, ρ4, S', acc ++ [y], ds ++ [dd], zs', etot.retmp hD hDH4 pln_lst, m4.retmp hDH4 pln_lst hDρ4, hDρ4, upd_same, ?_, hc', by rw [← ht, hz]; simp⟩
                have sq := sq_retmp (K := K) (o' := .lst (acc ++ [y])) hDH4 pln_lst
                exact Reps.append ((ra.mono ((e2.trans e3).trans e4)).mg (fun _ _ h => h) sq) (.cons (ry.mg (fun _ _ h => h) sq) .nil)
            | false =>
              cases hf
              rw [if_neg Bool.false_ne_true]
              exact ⟨hlt, ρ3, S', acc, ds, zs', (e1.trans e2).trans e3, m3, hDρ3, hDH3, ra.mono (e2.trans e3), hc', by rw [← ht, hz]; simp⟩
      · left
        have hi' : i = w.xs.length := by omega
        subst hi'
        rw [List.drop_length] at hc
        obtain ⟨hst, rfl, rfl⟩ := compL_nil hc
        refine ⟨dw.stop H ρ Sf e1.lt m hst, p1 (.ref D) H ρ e1 m ⟨D, acc, rfl, hDH, ?_, hDρ, hD⟩⟩
        rw [← ht]; simpa using ra
/-- the block of a comprehension -/
def Inf.blk (I : Inf) (scope : Scope) : Inf := ⟨I.N, relS scope I.sc, fun x => scope.names.lookup x == some .cell⟩
theorem Inf.Is.blk {I : Inf} (h : I.Is X) {scope : Scope} {s : Shared} {H : Hp} {c : Addr} {cls : List (Str × Addr)} {fp : List Addr} : (I.blk scope).Is (X.blk s H scope (compEnvC scope cls c X.env) fp) where
  N := h.N
  sc := by
    show relabel scope X.env = relS scope I.sc
    rw [← h.sc]; rfl
  fn := rfl
theorem Cok.blk (C : Cok cc T cl N W k X) {scope : Scope} {s : Shared} {H : Hp} {c : Addr} {cls : List (Str × Addr)} {fp : List Addr} : Cok cc T cl N WF k (X.blk s H scope (compEnvC scope cls c X.env) fp) where
  calm := C.calm
  nd := C.nd
  rm1 := C.rm1
  ko := C.ko
  tk := fun u s' h => by
    obtain ⟨_, _, _, _, _, _, _, _, _, _, _, _, _, _, _, _, w⟩ := h
    exact w
  hcl := C.hcl
  mok := C.mok
  fns := C.fns
/-- all rules of the block's contexts -/
abbrev Blk (X : Cx) (scope : Scope) (P : Cx → Prop) : Prop := ∀ (s : Shared) (H : Hp) (C : Addr) (cl : List (Str × Addr)) (fp : List Addr), P (X.blk s H scope (compEnvC scope cl C X.env) fp)
theorem sts_no : PTs X [] (tG X.K N W (pQ Bool) (tstO T cl .no)) := ⟨fun pins s σ H Q I h => pts_nil.run pins s σ H Q I (by
  obtain ⟨ρ, Γ, S, rel, ms, p⟩ := h
  unfold tstO at p
  exact Pst.now (P := pQ Bool) p ms rfl)⟩
theorem sts_yes {c : Expr} {ic : C} (h : SC N W X c (tst T cl ic)) : PTs X [c] (tG X.K N W (pQ Bool) (tstO T cl (.yes ic))) := ⟨fun pins s σ H Q I hq => (pts_one h).run pins s σ H Q I (by
  obtain ⟨ρ, Γ, S, rel, ms, p⟩ := hq
  unfold tstO at p
  exact ⟨ρ, Γ, S, rel, ms, p⟩)⟩
theorem sa_lc (C : Cok cc T cl N W k X) {elt tg iter : Expr} {ifs : List Expr} {scope : Scope} {own : List (Str × Nat)} {pos : Pos} {it : It} {t : Tg} {c : Oc} {e : E} (hi : SI N W X tg iter (evI T cl it)) (ok : BlkOk X.N X.env.scope scope own) (ho : own.map (·.2) = slots t)
    (hg : Blk X scope fun Y => SG Y tg t) (ht : Blk X scope fun Y => PTs Y ifs (tG Y.K N WF (pQ Bool) (tstO T cl c))) (he : Blk X scope fun Y => SE N WF Y elt (ev T cl e)) (hs : ∀ x, foldedSetIterable iter X.env x = pure x) :
    SA N W X (.ListComp elt [⟨tg, iter, ifs, 0⟩] scope pos) (evA T cl (.lc it t c e)) :=
  peImp (pe_lc C.calm C.nd hi ok hg ht he hs) fun σ H Q h => by
    rw [ho]
    exact lc_pred h
/-! ### two clauses -/
theorem lc2_pred {it it2 : It} {t t2 : Tg} {c c2 : Oc} {e : E} {σ : L2.St} {H : Hp} {Q : VK} (h : tG K N W (pT K) (evA T cl (.lc2 it t c it2 t2 c2 e)) σ H Q) :
    tLc2 (tG K N W (pW K N) (evI T cl it)) (gT K t) (tG K N WF (pQ Bool) (tstO T cl c)) (tG K N WF (pW K N) (evI T cl it2)) (gT K t2) (tG K N WF (pQ Bool) (tstO T cl c2)) (tG K N WF (pD K) (ev T cl e)) (slots t ++ slots t2) (slots t2) σ H Q := by
  obtain ⟨ρ, Γ0, S, rel, ms, p⟩ := h
  simp only [evA] at p
  refine step pmT rel ms p fun w S1 J H1 ρ1 q1 e1 ms1 rel1 dw p1 D hD => ?_
  clear p q1 e1 ms rel
  generalize hG : (fun Γ S => (tstO T cl c2 Γ S).bind fun b S => (match b with
    | true => (ev T cl e Γ S).bind fun d S => .ok [d] S
    | false => .ok [] S) : Ev → Sto → DL.R (List DL.D)) = G at p1
  generalize hF : (fun Γ S => (tstO T cl c Γ S).bind fun b S => (match b with
    | true => (evI T cl it2 Γ S).bind fun w2 S => compL w2.ks t2 G Γ w2.xs S
    | false => .ok [] S) : Ev → Sto → DL.R (List DL.D)) = F at p1
  generalize hΓ : clr Γ0 (slots t2) = Γ at p1
  have hΓl : Γ.length = Γ0.length := by rw [← hΓ, clr_len]
  cases e0 : compL w.ks t F Γ w.xs S1 with
  | stuck => rw [e0] at p1; exact (show False from p1).elim
  | exc x fs S2 => exact absurd e0 compL_exc
  | ok total Sf =>
    rw [e0] at p1
    have hle := compL_le e0
    refine ⟨fun i m H => m = w.xs.length - i ∧ i ≤ w.xs.length ∧ ∃ ρ S acc ds zs, Ext K ρ1 ρ H1 H ∧ MS K ρ H N S ∧ D ∉ ρ ∧ H D = some (.lst acc) ∧ Reps K ρ H acc ds ∧ compL w.ks t F Γ (w.xs.drop i) S = .ok zs Sf ∧ ds ++ zs = total, ?_, ?_⟩
    · exact ⟨_, rfl, Nat.zero_le _, ρ1, S1, [], [], total, Ext.tmp hD, ms1.tmp hD, ms1.fresh hD, upd_same, .nil, e0, rfl⟩
    · rintro i m H ⟨rfl, hi, ρ, S, acc, ds, zs, e1, m, hDρ, hDH, ra, hc, ht⟩
      by_cases hlt : i < w.xs.length
      · right
        rw [List.drop_eq_getElem_cons hlt] at hc
        obtain ⟨hst, Γ', ys, S', zs', ha, hf, hc', hz, _⟩ := compL_cons hc
        refine ⟨dw.go i H ρ S hlt e1.lt m hst, fun H' => i + 1 ≤ w.xs.length ∧ ∃ ρ S acc ds zs, Ext K ρ1 ρ H1 H' ∧ MS K ρ H' N S ∧ D ∉ ρ ∧ H' D = some (.lst acc) ∧ Reps K ρ H' acc ds ∧ compL w.ks t F Γ (w.xs.drop (i + 1)) S = .ok zs Sf ∧ ds ++ zs = total, fun H' hN => ⟨w.xs.length - (i + 1), by omega, rfl, hN⟩, fun x H' y => ?_⟩
        obtain ⟨d, hd, e2, m2, rd⟩ := dw.yld i H ρ S x H' hlt e1.lt m hst y
        have hd' : w.xs[i] = d := by
          rw [List.getElem?_eq_getElem hlt] at hd; exact Option.some.inj hd
        subst hd'
        have hDH' := e2.keep D _ hDH hDρ
        have rel' : RelE K ρ H' Γ0 σ := rel1.mono (e1.trans e2)
        refine ⟨ρ, Γ, w.xs[i], Γ', ⟨by rw [wipe_length, hΓl]; exact rel'.1, fun j d hj q => ?_⟩, rd, ha, fun σ2 rel2 out => ⟨?_, ?_⟩⟩
        · have hj2 : j ∉ slots t2 := fun z => by
            rw [← hΓ] at q
            exact clr_in z q
          rw [wipe_out (by simp [hj, hj2])]
          rw [← hΓ, clr_out hj2] at q
          exact rel'.2 j d q
        · refine wipe_eq ?_ fun j hj => ?_
          · rw [← rel2.1, asg_len ha, hΓl, rel'.1]
          · rw [out j (fun z => hj (by simp [z])), wipe_out hj]
        · refine ⟨ρ, Γ', S, rel2, m2, ?_⟩
          rw [← hF] at hf
          dsimp only at hf
          cases ec : tstO T cl c Γ' S with
          | stuck => rw [ec] at hf; cases hf
          | exc x fs S2 => rw [ec] at hf; cases hf
          | ok b S3 =>
            rw [ec] at hf
            intro b' H3 ρ3 e3 m3 hb
            have hb' : b' = b := hb
            subst hb'
            have hDρ3 := e3.notin hDH' hDρ
            have hDH3 := e3.keep D _ hDH' hDρ
            cases b' with
            | true =>
              simp only [R.bind] at hf
              rw [if_pos rfl]
              refine ⟨ρ3, Γ', S3, rel2.mono e3, m3, ?_⟩
              cases ei : evI T cl it2 Γ' S3 with
              | stuck => rw [ei] at hf; cases hf
              | exc x fs S2 => rw [ei] at hf; cases hf
              | ok w2 S4 =>
                rw [ei] at hf
                simp only [R.bind] at hf
                intro J2 H4 ρ4 e4 m4 dw2
                have hDρ4 := e4.notin hDH3 hDρ3
                have hDH4 := e4.keep D _ hDH3 hDρ3
                have rel4 : RelE K ρ4 H4 Γ' σ2 := rel2.mono (e3.trans e4)
                have etot4 := ((e1.trans e2).trans e3).trans e4
                have ra4 := ra.mono ((e2.trans e3).trans e4)
                refine ⟨fun i2 m H => m = w2.xs.length - i2 ∧ i2 ≤ w2.xs.length ∧ ∃ ρ S acc2 ds2 zs2, Ext K ρ1 ρ H1 H ∧ Lt K H3 ρ4 ρ H4 H ∧ MS K ρ H N S ∧ D ∉ ρ ∧ H D = some (.lst acc2) ∧ Reps K ρ H acc2 (ds ++ ds2) ∧ compL w2.ks t2 G Γ' (w2.xs.drop i2) S = .ok zs2 S' ∧ ds2 ++ zs2 = ys, ?_, ?_⟩
                · exact ⟨_, rfl, Nat.zero_le _, ρ4, S4, acc, [], ys, etot4, Ext.refl.lt, m4, hDρ4, hDH4, by simpa using ra4, hf, rfl⟩
                · rintro i2 m H ⟨rfl, hi2, ρ, S, acc2, ds2, zs2, ea, la, m, hDρ, hDH, ra, hc2, ht2⟩
                  by_cases hlt2 : i2 < w2.xs.length
                  · right
                    rw [List.drop_eq_getElem_cons hlt2] at hc2
                    obtain ⟨hst, Γ'', ys2, S'', zs3, ha2, hf2, hc2', hz2, _⟩ := compL_cons hc2
                    refine ⟨dw2.go i2 H ρ S hlt2 la m hst, fun H' => i2 + 1 ≤ w2.xs.length ∧ ∃ ρ S acc2 ds2 zs2, Ext K ρ1 ρ H1 H' ∧ Lt K H3 ρ4 ρ H4 H' ∧ MS K ρ H' N S ∧ D ∉ ρ ∧ H' D = some (.lst acc2) ∧ Reps K ρ H' acc2 (ds ++ ds2) ∧ compL w2.ks t2 G Γ' (w2.xs.drop (i2 + 1)) S = .ok zs2 S' ∧ ds2 ++ zs2 = ys, fun H' hN => ⟨w2.xs.length - (i2 + 1), by omega, rfl, hN⟩, fun x H' y => ?_⟩
                    obtain ⟨d2, hd2, f2, m2', rd2⟩ := dw2.yld i2 H ρ S x H' hlt2 la m hst y
                    have hd2' : w2.xs[i2] = d2 := by
                      rw [List.getElem?_eq_getElem hlt2] at hd2; exact Option.some.inj hd2
                    subst hd2'
                    have hDH5 := f2.keep D _ hDH hDρ
                    have la' := la.ext f2
                    have rel5 : RelE K ρ H' Γ' σ2 := ⟨rel4.1, fun j d q => by
                      obtain ⟨v, h1, h2⟩ := rel4.2 j d q
                      exact ⟨v, h1, h2.mg la'.pre la'.sq⟩⟩
                    refine ⟨ρ, Γ', w2.xs[i2], Γ'', ⟨by rw [wipe_length]; exact rel5.1, fun j d hj q => by rw [wipe_out hj]; exact rel5.2 j d q⟩, rd2, ha2, fun σ3 rel3 out3 => ⟨?_, ?_⟩⟩
                    · refine wipe_eq ?_ fun j hj => (out3 j hj).trans (wipe_out hj)
                      rw [← rel3.1, asg_len ha2, rel5.1]
                    · refine ⟨ρ, Γ'', S, rel3, m2', ?_⟩
                      rw [← hG] at hf2
                      dsimp only at hf2
                      cases ec2 : tstO T cl c2 Γ'' S with
                      | stuck => rw [ec2] at hf2; cases hf2
                      | exc x fs S2 => rw [ec2] at hf2; cases hf2
                      | ok b S6 =>
                        rw [ec2] at hf2
                        intro b' H6 ρ6 e6 m6 hb
                        have hb' : b' = b := hb
                        subst hb'
                        have hDρ6 := e6.notin hDH5 hDρ
                        have hDH6 := e6.keep D _ hDH5 hDρ
                        cases b' with
                        | true =>
                          simp only [R.bind] at hf2
                          rw [if_pos rfl]
                          refine ⟨ρ6, Γ'', S6, rel3.mono e6, m6, ?_⟩
                          cases ee : ev T cl e Γ'' S6 with
                          | stuck => rw [ee] at hf2; cases hf2
                          | exc x fs S2 => rw [ee] at hf2; cases hf2
                          | ok dd S7 =>
                            rw [ee] at hf2
                            cases hf2
                            intro y H7 ρ7 e7 m7 ry
                            have hDρ7 := e7.notin hDH6 hDρ6
                            have hDH7 := e7.keep D _ hDH6 hDρ6
                            have hlen : acc2.length < sizeLine := by
                              rw [ra.length, sizeLine_eq]
                              have : total.length = ds.length + (ds2.length + (1 + zs3.length) + zs'.length) := by
                                rw [← ht, hz, ← ht2, hz2]; simp [Nat.add_comm, Nat.add_left_comm, Nat.add_assoc]
                              show (ds ++ ds2).length < big
                              rw [List.length_append]
                              omega
                            refine ⟨acc2, hDH7, hlen, hlt2, ρ7, S'', acc2 ++ [y], ds2 ++ [dd], zs3, ((ea.trans f2).trans (e6.trans e7)).retmp hD hDH7 pln_lst, ((la'.ext e6).ext e7).retmp hDH3 hDH7 pln_lst, m7.retmp hDH7 pln_lst hDρ7, hDρ7, upd_same, ?_, hc2', by rw [← ht2, hz2]; simp⟩
                            have sq := sq_retmp (K := K) (o' := .lst (acc2 ++ [y])) hDH7 pln_lst
                            rw [← List.append_assoc]
                            exact Reps.append ((ra.mono ((f2.trans e6).trans e7)).mg (fun _ _ h => h) sq) (.cons (ry.mg (fun _ _ h => h) sq) .nil)
                        | false =>
                          cases hf2
                          rw [if_neg Bool.false_ne_true]
                          exact ⟨hlt2, ρ6, S'', acc2, ds2, zs3, (ea.trans f2).trans e6, la'.ext e6, m6, hDρ6, hDH6, ra.mono (f2.trans e6), hc2', by rw [← ht2, hz2]; simp⟩
                  · left
                    have hi2' : i2 = w2.xs.length := by omega
                    subst hi2'
                    rw [List.drop_length] at hc2
                    obtain ⟨hst, rfl, rfl⟩ := compL_nil hc2
                    refine ⟨dw2.stop H ρ S' la m hst, hlt, ρ, S', acc2, ds ++ ds2, zs', ea, m, hDρ, hDH, ra, hc', ?_⟩
                    rw [← ht, hz, ← ht2]; simp
            | false =>
              cases hf
              rw [if_neg Bool.false_ne_true]
              exact ⟨hlt, ρ3, S', acc, ds, zs', (e1.trans e2).trans e3, m3, hDρ3, hDH3, ra.mono (e2.trans e3), hc', by rw [← ht, hz]; simp⟩
      · left
        have hi' : i = w.xs.length := by omega
        subst hi'
        rw [List.drop_length] at hc
        obtain ⟨hst, rfl, rfl⟩ := compL_nil hc
        refine ⟨dw.stop H ρ Sf e1.lt m hst, p1 (.ref D) H ρ e1 m ⟨D, acc, rfl, hDH, ?_, hDρ, hD⟩⟩
        rw [← ht]; simpa using ra
end
end DL

set_option linter.all false
set_option maxRecDepth 100000
set_option maxHeartbeats 2000000
set_option autoImplicit false
/-! DL14: statements. -/
namespace DL
open PySem PySem.Spec PyProof.Rows L2

section
variable (K : PySem.W.Frag) (N : Nm) (W : WX)
def PstS (r : RS) (ρ : List Addr) (H : Hp) (D : Ends) : Prop := match r with
  | .ok (.nx Γ) S => ∀ σ' H' ρ', Ext K ρ ρ' H H' → MS K ρ' H' N S → RelE K ρ' H' Γ σ' → D.nx σ' H'
  | .ok (.bk Γ) S => ∀ σ' H' ρ', Ext K ρ ρ' H H' → MS K ρ' H' N S → RelE K ρ' H' Γ σ' → D.bk σ' H'
  | .ok (.ct Γ) S => ∀ σ' H' ρ', Ext K ρ ρ' H H' → MS K ρ' H' N S → RelE K ρ' H' Γ σ' → D.ct σ' H'
  | .ok (.rt d) S => ∀ v H' ρ', Ext K ρ ρ' H H' → MS K ρ' H' N S → Rep K ρ' H' v d → D.rt v H'
  | .exc c fs Γ S => ∀ cls dd σ' H' ρ', Ext K ρ ρ' H H' → MS K ρ' H' N S → RelE K ρ' H' Γ σ' → RepX K N ρ' H' cls dd c fs → W cls dd σ' H'
  | .stuck => False
def tGS (m : Ev → Sto → RS) : TS := fun D σ H => ∃ ρ Γ S, RelE K ρ H Γ σ ∧ MS K ρ H N S ∧ PstS K N W (m Γ S) ρ H D
end
section
variable {K : PySem.W.Frag} {N : Nm} {W : WX} {ρ ρ1 : List Addr} {H H1 : Hp} {D : Ends} {σ : L2.St}
theorem PstS.mono {r : RS} (h : PstS K N W r ρ H D) (e : Ext K ρ ρ1 H H1) : PstS K N W r ρ1 H1 D := by
  cases r with
  | ok f S =>
    cases f with
    | nx Γ => exact fun σ' H' ρ' e' ms rel => h σ' H' ρ' (e.trans e') ms rel
    | bk Γ => exact fun σ' H' ρ' e' ms rel => h σ' H' ρ' (e.trans e') ms rel
    | ct Γ => exact fun σ' H' ρ' e' ms rel => h σ' H' ρ' (e.trans e') ms rel
    | rt d => exact fun v H' ρ' e' ms rel => h v H' ρ' (e.trans e') ms rel
  | exc c fs Γ S => exact fun cls dd σ' H' ρ' e' ms rel x => h cls dd σ' H' ρ' (e.trans e') ms rel x
  | stuck => exact h
/-- an expression first, then the rest -/
theorem stepS {α' β' : Type} {P' : PRel α' β'} {m : Ev → Sto → R α'} {k : α' → Sto → RS} {Γ : Ev} {S : Sto} {Q' : β' → Hp → Prop} (rel : RelE K ρ H Γ σ) (ms : MS K ρ H N S)
    (h : PstS K N W (RS.of (m Γ S) Γ k) ρ H D)
    (c : ∀ a S1 b H1 ρ1, m Γ S = .ok a S1 → Ext K ρ ρ1 H H1 → MS K ρ1 H1 N S1 → RelE K ρ1 H1 Γ σ → P' H ρ1 H1 b a → PstS K N W (k a S1) ρ1 H1 D → Q' b H1) : tG K N W P' m σ H Q' := by
  refine ⟨ρ, Γ, S, rel, ms, ?_⟩
  cases e : m Γ S with
  | ok a S1 =>
    rw [e] at h
    exact fun b H1 ρ1 e1 ms1 p => c a S1 b H1 ρ1 e e1 ms1 (rel.mono e1) p (PstS.mono h e1)
  | exc x fs S1 =>
    rw [e] at h
    exact fun cls dd H' ρ' e' ms' x => h cls dd σ H' ρ' e' ms' (rel.mono e') x
  | stuck =>
    rw [e] at h
    exact h.elim
theorem PstS.nx {Γ : Ev} {S : Sto} (h : PstS K N W (.ok (.nx Γ) S) ρ H D) (ms : MS K ρ H N S) (rel : RelE K ρ H Γ σ) : D.nx σ H := h σ H ρ .refl ms rel
end
theorem psImp {X : Cx} {st : Stmt} {t t' : TS} (h : PS X st t) (i : ∀ D σ H, t' D σ H → t D σ H) : PS X st t' := ⟨fun pins s σ H D I q => h.run pins s σ H D I (i D σ H q)⟩
theorem pssImp {X : Cx} {st : List Stmt} {t t' : TS} (h : PSs X st t) (i : ∀ D σ H, t' D σ H → t D σ H) : PSs X st t' := ⟨fun pins s σ H D I q => h.run pins s σ H D I (i D σ H q)⟩
theorem psAt {X : Cx} {st : Stmt} {t' : TS} (h : ∀ D σ H, t' D σ H → ∃ t, PS X st t ∧ t D σ H) : PS X st t' := ⟨fun pins s σ H D I q => by
  obtain ⟨t, p, q⟩ := h D σ H q
  exact p.run pins s σ H D I q⟩
abbrev SS (N : Nm) (W : WX) (X : Cx) (st : Stmt) (m : Ev → Sto → RS) : Prop := PS X st (tGS X.K N W m)
abbrev SSs (N : Nm) (W : WX) (X : Cx) (st : List Stmt) (m : Ev → Sto → RS) : Prop := PSs X st (tGS X.K N W m)
/-- no comprehension -/
def noComp : Expr → Bool
  | .ListComp .. => false
  | .SetComp .. => false
  | .DictComp .. => false
  | _ => true
theorem swaps_no {e : Expr} (h : noComp e = true) (t : Option Expr) (l : Nat) (env : Env) : swapsWith e t l env = pure false := by
  cases e <;> first | rfl | cases h
section
variable {cc : CC} {T : Tb} {cl : Orc} {N : Nm} {W : WX} {k : Nat} {X : Cx} {I : Inf}
theorem ss_pass {pos : Pos} : SS N W X (.Pass pos) (exec T cl .pass) := psImp ps_pass fun D σ H ⟨ρ, Γ, S, rel, ms, p⟩ => PstS.nx (by unfold exec at p; exact p) ms rel
theorem ss_brk {pos : Pos} : SS N W X (.Break pos) (exec T cl .brk) := psImp ps_break fun D σ H ⟨ρ, Γ, S, rel, ms, p⟩ => by
  unfold exec at p
  exact p σ H ρ .refl ms rel
theorem ss_cont {pos : Pos} : SS N W X (.Continue pos) (exec T cl .cont) := psImp ps_continue fun D σ H ⟨ρ, Γ, S, rel, ms, p⟩ => by
  unfold exec at p
  exact p σ H ρ .refl ms rel
theorem ss_no {st : Stmt} : SS N W X st (exec T cl .no) := psImp ps_never fun D σ H ⟨ρ, Γ, S, rel, ms, p⟩ => by
  unfold exec at p
  exact p
theorem ss_doc {x : Str} {j : Nat} {pos pos' : Pos} : SS N W X (.Expr (.Constant (.str x) j pos) pos') (exec T cl .pass) := psImp ps_doc fun D σ H ⟨ρ, Γ, S, rel, ms, p⟩ => PstS.nx (by unfold exec at p; exact p) ms rel
theorem ss_ex {e : Expr} {ie : E} {pos : Pos} (h : SE N W X e (ev T cl ie)) (hn : noComp e = true) : SS N W X (.Expr e pos) (exec T cl (.ex ie)) := psImp (ps_expr h (swaps_no hn _ _ _)) fun D σ H hq => by
  obtain ⟨ρ, Γ, S, rel, ms, p⟩ := hq
  unfold exec at p
  exact stepS rel ms p fun d S1 v H1 ρ1 _ e1 ms1 rel1 r1 p1 => p1.nx ms1 rel1
theorem ss_ret {e : Expr} {ie : E} {pos : Pos} (h : SE N W X e (ev T cl ie)) : SS N W X (.Return (some e) pos) (exec T cl (.ret ie)) := psImp (ps_ret h) fun D σ H hq => by
  obtain ⟨ρ, Γ, S, rel, ms, p⟩ := hq
  unfold exec at p
  exact stepS rel ms p fun d S1 v H1 ρ1 _ e1 ms1 rel1 r1 p1 => p1 v H1 ρ1 .refl ms1 r1
theorem ss_retN {pos : Pos} : SS N W X (.Return none pos) (exec T cl .retN) := psImp ps_retN fun D σ H hq => by
  obtain ⟨ρ, Γ, S, rel, ms, p⟩ := hq
  unfold exec at p
  exact p _ H ρ .refl ms .non
theorem ss_if {c : Expr} {a b : List Stmt} {ic : C} {ia ib : Ss} {pos : Pos} (hc : SC N W X c (tst T cl ic)) (ha : SSs N W X a (execs T cl ia)) (hb : SSs N W X b (execs T cl ib)) : SS N W X (.If c a b pos) (exec T cl (.ife ic ia ib)) := psImp (ps_if hc ha hb) fun D σ H hq => by
  obtain ⟨ρ, Γ, S, rel, ms, p⟩ := hq
  unfold exec at p
  refine stepS rel ms p fun d S1 v H1 ρ1 _ e1 ms1 rel1 r1 p1 => ?_
  have r1' : v = d := r1
  subst r1'
  cases v with
  | true => exact ⟨ρ1, Γ, S1, rel1, ms1, p1⟩
  | false => exact ⟨ρ1, Γ, S1, rel1, ms1, p1⟩
theorem sss_nil : SSs N W X [] (execs T cl .nil) := pssImp pss_nil fun D σ H ⟨ρ, Γ, S, rel, ms, p⟩ => PstS.nx (by unfold execs at p; exact p) ms rel
theorem sss_cons {st : Stmt} {sts : List Stmt} {is : S} {iss : Ss} (h : SS N W X st (exec T cl is)) (hs : SSs N W X sts (execs T cl iss)) : SSs N W X (st :: sts) (execs T cl (.cons is iss)) := pssImp (pss_cons h hs) fun D σ H hq => by
  obtain ⟨ρ, Γ, S, rel, ms, p⟩ := hq
  unfold execs at p
  refine ⟨ρ, Γ, S, rel, ms, ?_⟩
  cases e : exec T cl is Γ S with
  | ok f S1 =>
    rw [e] at p
    cases f with
    | nx Γ1 => exact fun σ' H' ρ' e' ms' rel' => ⟨ρ', Γ1, S1, rel', ms', PstS.mono p e'⟩
    | bk Γ1 => exact p
    | ct Γ1 => exact p
    | rt d => exact p
  | exc c fs Γ1 S1 => rw [e] at p; exact p
  | stuck => rw [e] at p; exact p.elim

/-! ### stores -/
theorem new_pred {K : PySem.W.Frag} {ir : A} {σ : L2.St} {H : Hp} {Q : VK} (h : tG K N W (pD K) (ev T cl (.new ir)) σ H Q) : tG K N W (pT K) (evA T cl ir) σ H Q := by
  obtain ⟨ρ, Γ, S, rel, ms, p⟩ := h
  unfold ev at p
  refine ⟨ρ, Γ, S, rel, ms, ?_⟩
  cases e0 : evA T cl ir Γ S with
  | stuck => rw [e0] at p; exact p.elim
  | exc c fs S1 => rw [e0] at p; exact p
  | ok x S1 =>
    rw [e0] at p
    intro v H1 ρ1 e1 ms1 r1
    cases x with
    | d _ => exact (show False from p).elim
    | l xs =>
      obtain ⟨a, vs, rfl, h1, h2, h3, h4⟩ := r1
      have p' : Pst K N W (pD K) (.ok (.ref S1.length) (S1 ++ [.lst xs])) ρ H σ Q := p
      have pre : ∀ (n : Nat) (b : Addr), ρ1[n]? = some b → (ρ1 ++ [a])[n]? = some b := fun n b e => by rw [List.getElem?_append_left (List.getElem?_eq_some_iff.mp e).1]; exact e
      refine p' (.ref a) H1 (ρ1 ++ [a]) (e1.adopt h4) (ms1.adopt h3 ⟨vs, h1, h2.mg pre fun _ _ z => z⟩) (.ref ?_)
      rw [← ms1.len]; simp
theorem set_pred {K : PySem.W.Frag} {i : Nat} {ie : E} {D : Ends} {σ : L2.St} {H : Hp} (h : tGS K N W (exec T cl (.set (.nm i) ie)) D σ H) : tG K N W (pD K) (ev T cl ie) σ H fun x H1 => gName i x σ H1 D.nx := by
  obtain ⟨ρ, Γ, S, rel, ms, p⟩ := h
  unfold exec at p
  refine stepS rel ms p fun d S1 v H1 ρ1 _ e1 ms1 rel1 r1 p1 => ?_
  have p2 : PstS K N W (.ok (.nx (Γ.set i (some d))) S1) ρ1 H1 D := p1
  refine p2.nx ms1 ⟨by simp [rel1.1], fun j x hj => ?_⟩
  by_cases hij : i = j
  · subst hij
    have hlt : i < Γ.length := by
      have := (List.getElem?_eq_some_iff.mp hj).1
      simpa using this
    rw [List.getElem?_set_self hlt] at hj
    cases hj
    exact ⟨v, List.getElem?_set_self (by rw [← rel1.1]; exact hlt), r1⟩
  · rw [List.getElem?_set_ne hij] at hj ⊢
    exact rel1.2 j x hj
theorem sto_facts (hI : I.Is X) {x : Str} {i : Nat} (h : stoN I x = some i) : X.N[i]? = some x ∧ Loc X.env.scope x ∧ (X.fn x = true ∨ X.env.scope.names.lookup x = some .local) := by
  unfold stoN at h
  split at h
  · rename_i q
    have e : X.env.scope.names.lookup x = some .local := by rw [hI.sc]; exact q
    exact ⟨by rw [hI.N]; exact ixOfN_at h, .inl e, .inr e⟩
  · rename_i q
    have e : X.env.scope.names.lookup x = some .cell := by rw [hI.sc]; exact q
    split at h
    · rename_i hf
      exact ⟨by rw [hI.N]; exact ixOfN_at h, .inr e, .inl (by rw [hI.fn]; exact hf)⟩
    · cases h
  · cases h
theorem ss_set (C : Cok cc T cl N W k X) (hI : I.Is X) {x : Str} {i : Nat} {e : Expr} {ie : E} {pos pos' : Pos} (h : stoN I x = some i) (he : SE N W X e (ev T cl ie)) (hs : swapsWith e (some (.Name x pos')) pos.line X.env = pure false) : SS N W X (.Assign [.Name x pos'] e pos) (exec T cl (.set (.nm i) ie)) := by
  obtain ⟨h1, h2, h3⟩ := sto_facts hI h
  exact psImp (ps_set C.nd h1 h2 he hs h3) fun D σ H hq => set_pred hq
theorem swapped_no {tg e : Expr} {env : Env} (ht : ∀ ts a b, tg = .Tuple ts a b → ∀ es k p, e ≠ .Tuple es k p) (hl : ∀ ts a, tg ≠ .List ts a) : swappedStores [tg] e env = pure none := by
  unfold swappedStores
  cases tg with
  | Tuple ts a b =>
    cases e with
    | Tuple es k p => exact absurd rfl (ht ts a b rfl es k p)
    | _ => rfl
  | List ts a => exact absurd rfl (hl ts a)
  | _ => rfl
theorem ss_tup (C : Cok cc T cl N W k X) (hI : I.Is X) {es : List Expr} {is : List Nat} {kk : Nat} {e : Expr} {ie : E} {pos tp : Pos} (h : tgNames I es = some is) (he : SE N W X e (ev T cl ie)) (hn : noComp e = true) (ht : ∀ xs k p, e ≠ .Tuple xs k p) :
    SS N W X (.Assign [.Tuple es kk tp] e pos) (exec T cl (.set (.tp is) ie)) :=
  psImp (ps_asg he (sg_tup hI C.calm C.nd h) (swaps_no hn (some (.Tuple es kk tp)) pos.line X.env) (swapped_no (fun _ _ _ _ xs k p => ht xs k p) (fun _ _ z => by cases z))) fun D σ H hq => by
    obtain ⟨ρ, Γ, S, rel, ms, p⟩ := hq
    unfold exec at p
    refine stepS rel ms p fun d S1 v H1 ρ1 _ e1 ms1 rel1 r1 p1 => ?_
    cases ha : asg (.tp is) d Γ with
    | none => rw [ha] at p1; exact (show False from p1).elim
    | some Γ' =>
      rw [ha] at p1
      have p2 : PstS X.K N W (.ok (.nx Γ') S1) ρ1 H1 D := p1
      exact ⟨ρ1, Γ, d, Γ', ⟨rel1.1, fun j x _ q => rel1.2 j x q⟩, r1, ha, fun σ' rel' _ => p2.nx ms1 rel'⟩

/-! ### fields, items -/
theorem ss_atr (C : Cok cc T cl N W k X) {o e : Expr} {io ie : E} {f : Nat} {fx : Str} {pos pos' : Pos} (hf : cc.nms[f]? = some fx) (ho : SE N W X o (ev T cl io)) (he : SE N W X e (ev T cl ie)) (hn : noComp e = true) : SS N W X (.Assign [.Attribute o fx pos'] e pos) (exec T cl (.atr io f ie)) :=
  psImp (ps_fld ho he (swaps_no hn _ _ _)) fun D σ H hq => by
    obtain ⟨ρ, Γ, S, rel, ms, p⟩ := hq
    obtain ⟨hfn, rfl⟩ := C.ko.nms f fx hf
    unfold exec at p
    refine stepS rel ms p fun v S1 y H1 ρ1 _ e1 ms1 rel1 r1 p1 => stepS rel1 ms1 p1 fun d S2 x H2 ρ2 _ e2 ms2 rel2 r2 p2 => ?_
    cases r2 with
    | @ref n a hr =>
      obtain ⟨ob, ho, ro⟩ := ms2.lookup hr
      simp only [setAttr, ho] at p2
      cases ob with
      | ins c fs =>
        simp only at p2
        split at p2
        · rename_i hg
          simp only [Bool.and_eq_true, decide_eq_true_eq] at hg
          obtain ⟨hl, hfld⟩ := hg
          have p3 : PstS X.K N W (.ok (.nx Γ) (S2.set n (.ins c (putF f v fs)))) ρ2 H2 D := p2
          obtain ⟨dx, vs, ha, hd, hfs⟩ := ro
          unfold fldOk at hfld
          cases hc : T.cls[c]? with
          | none => rw [hc] at hfld; cases hfld
          | some cd =>
            rw [hc] at hfld
            have ex := Ext.wr (K := X.K) (o := .ins (N.ca c) dx (L2.putF (N.nm f) y vs)) ms2 (List.mem_of_getElem? hr)
            refine ⟨a, _, dx, vs, rfl, ha, (C.ko.cls c cd hc).cl, C.ko.fld c cd f hc (List.contains_iff_mem.mp hfld), by rw [hfs.length]; omega, ?_⟩
            refine p3 σ _ ρ2 ex (ms2.set hr ⟨dx, _, upd_same, ?_, ?_⟩) (rel2.mono ex)
            · rw [upd_ne (fun z => by subst z; rw [ha] at hd; cases hd)]; exact hd
            · exact Fs.mono ex (Fs.put C.ko.inj hfn (r1.mono e2) hfs)
        · exact (show False from p2).elim
      | _ => exact (show False from p2).elim
    | _ => exact (show False from p2).elim
/-- o[i] = v: a list or a dict -/
def rSetLD : TSet := fun o i v H Q => rSetL o i v H Q ∨ rSetD o i v H Q
theorem set_LD (hu : X.A.units + 1 < cLine) : PSet X rSetLD := fun pins s σ H o i v ov iv u Q I r1 r2 r3 h => by
  rcases h with h | h
  · exact set_list pins s σ H o i v ov iv u Q I r1 r2 r3 h
  · exact set_dict hu pins s σ H o i v ov iv u Q I r1 r2 r3 h
theorem ss_itm (C : Cok cc T cl N W k X) {o i e : Expr} {io ii ie : E} {pos pos' : Pos} (ho : SE N W X o (ev T cl io)) (hi : SE N W X i (ev T cl ii)) (he : SE N W X e (ev T cl ie)) (hn : noComp e = true) (hs : notSlice i = true) : SS N W X (.Assign [.Subscript o i pos'] e pos) (exec T cl (.itm io ii ie)) :=
  psImp (ps_asg he (pg_sub ho hi (set_LD (by have := C.rm.units; omega)) (by intro v; cases i <;> first | rfl | cases hs)) (swaps_no hn (some (.Subscript o i pos')) pos.line X.env) (swapped_no (fun _ _ _ z => by cases z) (fun _ _ z => by cases z))) fun D σ H hq => by
    obtain ⟨ρ, Γ, S, rel, ms, p⟩ := hq
    unfold exec at p
    refine stepS rel ms p fun v S1 y H1 ρ1 _ e1 ms1 rel1 r1 p1 => stepS rel1 ms1 p1 fun d S2 x H2 ρ2 _ e2 ms2 rel2 r2 p2 => stepS rel2 ms2 p2 fun di S3 z H3 ρ3 _ e3 ms3 rel3 r3 p3 => ?_
    have r2' := r2.mono e3
    have r1' := r1.mono (e2.trans e3)
    cases r2' with
    | @ref n a hr =>
      obtain ⟨ob, ho, ro⟩ := ms3.lookup hr
      simp only [setItem, ho] at p3
      cases ob with
      | lst xs =>
        simp only at p3
        cases r3 with
        | int ki =>
          simp only at p3
          obtain ⟨vs, ha, hv⟩ := ro
          cases hj : L2.ixN xs.length ki with
          | none => rw [hj] at p3; exact (show False from p3).elim
          | some j =>
            rw [hj] at p3
            have p4 : PstS X.K N W (.ok (.nx Γ) (S3.set n (.lst (xs.set j v)))) ρ3 H3 D := p3
            have ex := Ext.wr (K := X.K) (o := .lst (vs.set j y)) ms3 (List.mem_of_getElem? hr)
            refine .inl ⟨a, vs, ki, j, rfl, rfl, ha, by rw [hv.length]; exact hj, ?_⟩
            exact p4 σ _ ρ3 ex (ms3.set hr ⟨_, upd_same, (hv.mono ex).set (r1'.mono ex) j⟩) (rel3.mono ex)
        | _ => exact (show False from p3).elim
      | dic kvs =>
        simp only at p3
        split at p3
        · rename_i hg
          obtain ⟨hk, hl⟩ := Bool.and_eq_true_iff.mp hg
          obtain ⟨vs, ha, hv⟩ := ro
          obtain ⟨key, rfl, rfl⟩ := keyD_of r3 hk
          have p4 : PstS X.K N W (.ok (.nx Γ) (S3.set n (.dic (dput (kD key) v kvs)))) ρ3 H3 D := p3
          have ex := Ext.wr (K := X.K) (o := .dK (putK vs key y)) ms3 (List.mem_of_getElem? hr)
          have hl' : kvs.length < 1000000 := Nat.le_of_ble_eq_true hl
          refine .inr ⟨a, _, rfl, .inl ⟨vs, key, ha, rfl, by rw [hv.length, sizeLine_eq]; omega, rfl⟩, ?_⟩
          exact p4 σ _ ρ3 ex (ms3.set hr ⟨_, upd_same, Kvs.mono ex (hv.put r1')⟩) (rel3.mono ex)
        · exact (show False from p3).elim
      | _ => exact (show False from p3).elim
    | _ => exact (show False from p3).elim
/-- x += e on ints -/
theorem aug_inv {o : Op2} {x y : D} {S : Sto} (h : augT o x y S ≠ .stuck) : ∃ i j, x = .int i ∧ y = .int j ∧ ((o = .add ∧ augT o x y S = .ok (.int (i + j)) S) ∨ (o = .sub ∧ augT o x y S = .ok (.int (i - j)) S)) := by
  unfold augT at h
  split at h
  · exact ⟨_, _, rfl, rfl, .inl ⟨rfl, rfl⟩⟩
  · exact ⟨_, _, rfl, rfl, .inr ⟨rfl, rfl⟩⟩
  · exact absurd rfl h
def augO : Operator → Option Op2
  | .Add => some .add
  | .Sub => some .sub
  | _ => none
def augF : Op2 → Int → Int → Int
  | .add => fun i j => i + j
  | _ => fun i j => i - j
theorem ip_aug {op : Operator} {o : Op2} (h : augO op = some o) : PIp X op (ipI (augF o)) := by
  cases op <;> first | (cases h; done) | skip
  · cases h; exact ip_add
  · cases h; exact ip_sub
theorem augF_of {o : Op2} {x y : D} {S : Sto} (h : augT o x y S ≠ .stuck) : ∃ i j, x = .int i ∧ y = .int j ∧ augT o x y S = .ok (.int (augF o i j)) S := by
  obtain ⟨i, j, rfl, rfl, (⟨rfl, e⟩ | ⟨rfl, e⟩)⟩ := aug_inv h
  · exact ⟨i, j, rfl, rfl, e⟩
  · exact ⟨i, j, rfl, rfl, e⟩
theorem ne_stuck {r : R D} {Γ : Ev} {kk : D → Sto → RS} {ρ : List Addr} {H : Hp} {D : Ends} (p : PstS X.K N W (RS.of r Γ kk) ρ H D) : r ≠ .stuck := fun z => by
  rw [z] at p
  exact p
theorem ss_aug (C : Cok cc T cl N W k X) (hI : I.Is X) {x : Str} {i : Nat} {e : Expr} {ie : E} {op : Operator} {o : Op2} {pos pos' : Pos} (h : stoN I x = some i) (he : SE N W X e (ev T cl ie)) (ho : augO op = some o) : SS N W X (.AugAssign (.Name x pos') op e pos) (exec T cl (.aug i o ie)) := by
  obtain ⟨h1, h2, h3⟩ := sto_facts hI h
  refine psImp (ps_aug C.nd h1 h2 he (ip_aug ho) h3) fun D σ H hq => ?_
  obtain ⟨ρ, Γ, S, rel, ms, p⟩ := hq
  unfold exec at p
  cases e0 : Γ[i]? with
  | none => rw [e0] at p; exact (show False from p).elim
  | some od =>
    cases od with
    | none => rw [e0] at p; exact (show False from p).elim
    | some d =>
      simp only [e0] at p
      obtain ⟨v, hv, rv⟩ := rel.2 i d e0
      refine ⟨v, hv, stepS rel ms p fun y S1 w H1 ρ1 _ e1 ms1 rel1 r1 p1 => ?_⟩
      obtain ⟨a, b, rfl, rfl, ea⟩ := augF_of (ne_stuck p1)
      rw [ea] at p1
      have p2 : PstS X.K N W (.ok (.nx (Γ.set i (some (.int (augF o a b))))) S1) ρ1 H1 D := p1
      cases rv; cases r1
      refine ⟨a, b, rfl, rfl, p2.nx ms1 ⟨by simp [rel1.1], fun j x hj => ?_⟩⟩
      by_cases hij : i = j
      · subst hij
        have hlt : i < Γ.length := by
          have := (List.getElem?_eq_some_iff.mp hj).1
          simpa using this
        rw [List.getElem?_set_self hlt] at hj
        cases hj
        exact ⟨_, List.getElem?_set_self (by rw [← rel1.1]; exact hlt), .int _⟩
      · rw [List.getElem?_set_ne hij] at hj ⊢
        exact rel1.2 j x hj
theorem ss_auga (C : Cok cc T cl N W k X) {o e : Expr} {io ie : E} {f : Nat} {fx : Str} {op : Operator} {oo : Op2} {pos pos' : Pos} (hf : cc.nms[f]? = some fx) (ho : SE N W X o (ev T cl io)) (he : SE N W X e (ev T cl ie)) (hop : augO op = some oo) : SS N W X (.AugAssign (.Attribute o fx pos') op e pos) (exec T cl (.auga io f oo ie)) :=
  psImp (ps_fldaug ho he (ip_aug hop)) fun D σ H hq => by
    obtain ⟨ρ, Γ, S, rel, ms, p⟩ := hq
    obtain ⟨hfn, rfl⟩ := C.ko.nms f fx hf
    unfold exec at p
    refine stepS rel ms p fun d S1 x H1 ρ1 _ e1 ms1 rel1 r1 p1 => ?_
    cases r1 with
    | @ref n a hr =>
      obtain ⟨ob, ho, ro⟩ := ms1.lookup hr
      cases ob with
      | ins c fs =>
        simp only [attrT, ho] at p1
        split at p1
        · rename_i vd hfld hlk
          have p1' : PstS X.K N W (RS.of (ev T cl ie Γ S1) Γ fun y S2 => RS.of (gd (sameCls S1 S2 (.ref n)) (augT oo vd y S2)) Γ fun z S => oSto (setAttr T S (.ref n) f z) Γ) ρ1 H1 D := p1
          obtain ⟨dx, vs, ha, hd, hfs⟩ := ro
          have hlook := Fs.look C.ko.inj hfn hfs
          rw [hlk] at hlook
          obtain ⟨v, hv, rv⟩ := hlook
          unfold fldOk at hfld
          cases hc : T.cls[c]? with
          | none => rw [hc] at hfld; cases hfld
          | some cd =>
            rw [hc] at hfld
            have hmem := List.contains_iff_mem.mp hfld
            refine ⟨a, _, dx, vs, v, rfl, ha, (C.ko.cls c cd hc).cl, C.ko.fld c cd f hc hmem, hv, stepS rel1 ms1 p1' fun y S2 w H2 ρ2 _ e2 ms2 rel2 r2 p2 => ?_⟩
            have hsc : sameCls S1 S2 (.ref n) = true := by
              cases q : sameCls S1 S2 (.ref n) with
              | true => rfl
              | false => rw [q] at p2; exact (show False from p2).elim
            rw [hsc] at p2
            have p2' : PstS X.K N W (RS.of (augT oo vd y S2) Γ fun z S => oSto (setAttr T S (.ref n) f z) Γ) ρ2 H2 D := p2
            obtain ⟨i, j, rfl, rfl, ea⟩ := augF_of (ne_stuck p2')
            rw [ea] at p2'
            cases rv; cases r2
            refine ⟨i, j, rfl, rfl, ?_⟩
            have hr2 := e2.pre _ _ hr
            obtain ⟨ob2, ho2, ro2⟩ := ms2.lookup hr2
            have p3 : PstS X.K N W (oSto (setAttr T S2 (.ref n) f (.int (augF oo i j))) Γ) ρ2 H2 D := p2'
            simp only [setAttr, ho2] at p3
            cases ob2 with
            | ins c2 fs2 =>
              simp only at p3
              split at p3
              · rename_i hg
                simp only [Bool.and_eq_true, decide_eq_true_eq] at hg
                obtain ⟨hl, hfld2⟩ := hg
                obtain ⟨dx2, vs2, ha2, hd2, hfs2⟩ := ro2
                have hcc : c = c2 := by
                  simp only [sameCls, ho, ho2] at hsc
                  exact Nat.eq_of_beq_eq_true hsc
                subst hcc
                have p4 : PstS X.K N W (.ok (.nx Γ) (S2.set n (.ins c (putF f (.int (augF oo i j)) fs2)))) ρ2 H2 D := p3
                have ex := Ext.wr (K := X.K) (o := .ins (N.ca c) dx2 (L2.putF (N.nm f) (.int (augF oo i j)) vs2)) ms2 (List.mem_of_getElem? hr2)
                refine ⟨dx2, vs2, ha2, by rw [hfs2.length]; omega, ?_⟩
                refine p4 σ _ ρ2 ex (ms2.set hr2 ⟨dx2, _, upd_same, ?_, ?_⟩) (rel2.mono ex)
                · rw [upd_ne (fun z => by subst z; rw [ha2] at hd2; cases hd2)]; exact hd2
                · exact Fs.mono ex (Fs.put C.ko.inj hfn (.int _) hfs2)
              · exact (show False from p3).elim
            | _ => exact (show False from p3).elim
        · exact (show False from p1).elim
      | _ => simp only [attrT, ho] at p1; exact (show False from p1).elim
    | _ => exact (show False from p1).elim

/-! ### loops -/
theorem whl_pred {K : PySem.W.Frag} {c : C} {b : Ss} {D : Ends} {σ : L2.St} {H : Hp} (h : tGS K N W (exec T cl (.whl c b)) D σ H) : tWhile (tG K N W (pQ Bool) (tst T cl c)) (tGS K N W (execs T cl b)) D σ H := by
  obtain ⟨ρ, Γ, S, rel, ms, p⟩ := h
  unfold exec at p
  refine ⟨fun m σ H => ∃ ρ Γ S, RelE K ρ H Γ σ ∧ MS K ρ H N S ∧ PstS K N W (whlL (tst T cl c) (execs T cl b) m Γ S) ρ H D, ⟨most, ρ, Γ, S, rel, ms, p⟩, ?_⟩
  rintro m σ H ⟨ρ, Γ, S, rel, ms, p⟩
  cases m with
  | zero => exact (show False from p).elim
  | succ m =>
    unfold whlL at p
    refine stepS rel ms p fun d S1 v H1 ρ1 _ e1 ms1 rel1 r1 p1 => ?_
    have r1' : v = d := r1
    subst r1'
    cases v with
    | false => exact PstS.nx p1 ms1 rel1
    | true =>
      rw [if_pos rfl]
      refine ⟨fun σ H => ∃ ρ Γ S, RelE K ρ H Γ σ ∧ MS K ρ H N S ∧ PstS K N W (whlL (tst T cl c) (execs T cl b) m Γ S) ρ H D, fun σ' H' h => ⟨m, Nat.lt_succ_self m, h⟩, ρ1, Γ, S1, rel1, ms1, ?_⟩
      cases e : execs T cl b Γ S1 with
      | ok f S2 =>
        simp only [e] at p1
        cases f with
        | nx Γ1 => exact fun σ' H' ρ' e' ms' rel' => ⟨ρ', Γ1, S2, rel', ms', PstS.mono p1 e'⟩
        | ct Γ1 => exact fun σ' H' ρ' e' ms' rel' => ⟨ρ', Γ1, S2, rel', ms', PstS.mono p1 e'⟩
        | bk Γ1 => exact p1
        | rt d => exact p1
      | exc c fs Γ1 S2 => simp only [e] at p1; exact p1
      | stuck => simp only [e] at p1; exact (show False from p1).elim
theorem ss_whl (hp : PassesOwn (model X.prog X.w) X.A X.env X.xe) {c : Expr} {b : List Stmt} {ic : C} {ib : Ss} {pos : Pos} (hc : SC N W X c (tst T cl ic)) (hb : SSs N W X b (execs T cl ib)) : SS N W X (.While c b [] pos) (exec T cl (.whl ic ib)) := psImp (ps_while hp hc hb) fun D σ H h => whl_pred h
theorem for_pred {K : PySem.W.Frag} {it : It} {t : Tg} {b : Ss} {D : Ends} {σ : L2.St} {H : Hp} (h : tGS K N W (exec T cl (.for t it b)) D σ H) : tFor (tG K N W (pW K N) (evI T cl it)) (gT K t) (tGS K N W (execs T cl b)) D σ H := by
  obtain ⟨ρ, Γ, S, rel, ms, p⟩ := h
  unfold exec at p
  refine stepS rel ms p fun w S1 J H1 ρ1 q1 e1 ms1 rel1 dw p1 => ?_
  refine ⟨fun i m σ H => m = w.xs.length - i ∧ i ≤ w.xs.length ∧ ∃ ρ Γ S, Ext K ρ1 ρ H1 H ∧ RelE K ρ H Γ σ ∧ MS K ρ H N S ∧ PstS K N W (forL w.ks t (execs T cl b) (w.xs.drop i) Γ S) ρ H D, ⟨_, rfl, Nat.zero_le _, ρ1, Γ, S1, .refl, rel1, ms1, p1⟩, ?_⟩
  rintro i m σ H ⟨rfl, hi, ρ, Γ, S, ea, rel, ms, p⟩
  by_cases hlt : i < w.xs.length
  · right
    rw [List.drop_eq_getElem_cons hlt] at p
    unfold forL at p
    cases hst : stays S w.ks with
    | false => rw [hst] at p; exact (show False from p).elim
    | true =>
      rw [hst] at p
      simp only at p
      refine ⟨dw.go i H ρ S hlt ea.lt ms hst, fun σ H => i + 1 ≤ w.xs.length ∧ ∃ ρ Γ S, Ext K ρ1 ρ H1 H ∧ RelE K ρ H Γ σ ∧ MS K ρ H N S ∧ PstS K N W (forL w.ks t (execs T cl b) (w.xs.drop (i + 1)) Γ S) ρ H D, fun σ' H' hN => ⟨w.xs.length - (i + 1), by omega, rfl, hN⟩, fun x H' y => ?_⟩
      obtain ⟨d, hd, e2, m2, rd⟩ := dw.yld i H ρ S x H' hlt ea.lt ms hst y
      have hd' : w.xs[i] = d := by
        rw [List.getElem?_eq_getElem hlt] at hd; exact Option.some.inj hd
      subst hd'
      have rel' := rel.mono e2
      have p' := PstS.mono p e2
      cases ha : asg t w.xs[i] Γ with
      | none => rw [ha] at p'; exact (show False from p').elim
      | some Γ' =>
        simp only [ha] at p'
        refine ⟨ρ, Γ, w.xs[i], Γ', ⟨rel'.1, fun j d _ q => rel'.2 j d q⟩, rd, ha, fun σ2 rel2 _ => ⟨ρ, Γ', S, rel2, m2, ?_⟩⟩
        cases e : execs T cl b Γ' S with
        | ok f S2 =>
          simp only [e] at p'
          cases f with
          | nx Γ1 => exact fun σ' H2 ρ' e' ms' rel3 => ⟨hlt, ρ', Γ1, S2, (ea.trans e2).trans e', rel3, ms', PstS.mono p' e'⟩
          | ct Γ1 => exact fun σ' H2 ρ' e' ms' rel3 => ⟨hlt, ρ', Γ1, S2, (ea.trans e2).trans e', rel3, ms', PstS.mono p' e'⟩
          | bk Γ1 => exact p'
          | rt d => exact p'
        | exc c fs Γ1 S2 => simp only [e] at p'; exact p'
        | stuck => simp only [e] at p'; exact (show False from p').elim
  · left
    have hi' : i = w.xs.length := by omega
    subst hi'
    rw [List.drop_length] at p
    unfold forL at p
    cases hst : stays S w.ks with
    | false => rw [hst] at p; exact (show False from p).elim
    | true =>
      rw [hst] at p
      exact ⟨dw.stop H ρ S ea.lt ms hst, PstS.nx p ms rel⟩
theorem ss_for (C : Cok cc T cl N W k X) (hp : PassesOwn (model X.prog X.w) X.A X.env X.xe) {tg iter : Expr} {b : List Stmt} {t : Tg} {it : It} {ib : Ss} {pos : Pos} (hi : SI N W X tg iter (evI T cl it)) (hg : SG X tg t) (hb : SSs N W X b (execs T cl ib)) (hs : ∀ x, foldedSetIterable iter X.env x = pure x) :
    SS N W X (.For tg iter b [] pos) (exec T cl (.for t it ib)) := psImp (ps_for hp C.calm hi hg hb hs) fun D σ H h => for_pred h
/-- name = [.. for ..] on one line -/
theorem ss_setLc (C : Cok cc T cl N W k X) {i : Nat} {y : Str} {py : Pos} {elt tg iter : Expr} {ifs : List Expr} {scope : Scope} {own : List (Str × Nat)} {pos spos : Pos} {it : It} {t : Tg} {c : Oc} {e : E} (hy : X.N[i]? = some y) (hyl : X.env.scope.names.lookup y = some .local)
    (hsw : swapsWith (.ListComp elt [⟨tg, iter, ifs, 0⟩] scope pos) (some (.Name y py)) spos.line X.env = pure true) (hi : SI N W X tg iter (evI T cl it)) (ok : BlkOk X.N X.env.scope scope own) (ho : own.map (·.2) = slots t)
    (hg : Blk X scope fun Y => SG Y tg t) (ht : Blk X scope fun Y => PTs Y ifs (tG Y.K N WF (pQ Bool) (tstO T cl c))) (he : Blk X scope fun Y => SE N WF Y elt (ev T cl e)) (hs : ∀ x, foldedSetIterable iter X.env x = pure x) :
    SS N W X (.Assign [.Name y py] (.ListComp elt [⟨tg, iter, ifs, 0⟩] scope pos) spos) (exec T cl (.set (.nm i) (.new (.lc it t c e)))) :=
  psImp (ps_setLc C.calm C.nd hy hyl hsw hi ok hg ht he hs) fun D σ H h => by
    rw [ho]
    exact lc_pred (new_pred (set_pred h))
end
end DL

set_option linter.all false
set_option maxRecDepth 100000
set_option maxHeartbeats 3200000
set_option autoImplicit false
/-! DL15: how many different texts: len(set(t)), len({.. for ..}). -/
namespace DL
open PySem PySem.Spec PyProof.Rows L2

/-- how many of ws are not in seen, each counted once -/
def cntS : List Str → List Str → Nat
  | _, [] => 0
  | seen, x :: r => if x ∈ seen then cntS seen r else cntS (x :: seen) r + 1
theorem cntS_mem : ∀ (ws : List Str) (s1 s2 : List Str), (∀ k, k ∈ s1 ↔ k ∈ s2) → cntS s1 ws = cntS s2 ws
  | [], _, _, _ => rfl
  | x :: r, s1, s2, h => by
    unfold cntS
    by_cases hx : x ∈ s1
    · rw [if_pos hx, if_pos ((h x).mp hx), cntS_mem r s1 s2 h]
    · rw [if_neg hx, if_neg (fun z => hx ((h x).mpr z)), cntS_mem r (x :: s1) (x :: s2) fun k => by simp [h k]]
theorem cntS_le : ∀ (ws seen : List Str), cntS seen ws ≤ ws.length
  | [], _ => Nat.le_refl _
  | x :: r, seen => by
    unfold cntS
    split
    · exact Nat.le_trans (cntS_le r _) (Nat.le_succ _)
    · exact Nat.succ_le_succ (cntS_le r _)
/-- the set S of n holds ws so far; m are still to come -/
structure Sofar (seen rest : List Str) (S : Str → Bool) (n tot : Nat) : Prop where
  mem : ∀ k, S k = decide (k ∈ seen)
  cnt : n + cntS seen rest = tot
theorem Sofar.next {seen rest : List Str} {x : Str} {S S2 : Str → Bool} {n n2 tot : Nat} (h : Sofar seen (x :: rest) S n tot) (hS : ∀ k, S2 k = (S k || decide (k = x))) (hn : n2 = if S x = true then n else n + 1) : Sofar (x :: seen) rest S2 n2 tot where
  mem := fun k => by
    rw [hS, h.mem]
    by_cases e : k = x
    · subst e; simp
    · simp [e]
  cnt := by
    have h1 := h.cnt
    unfold cntS at h1
    have h2 := h.mem x
    by_cases hx : x ∈ seen
    · rw [if_pos hx] at h1
      rw [hn, if_pos (by rw [h2]; exact decide_eq_true hx), ← h1, cntS_mem rest (x :: seen) seen fun k => ?_]
      constructor
      · intro z
        rcases List.mem_cons.mp z with z | z
        · rw [z]; exact hx
        · exact z
      · exact List.mem_cons_of_mem _
    · rw [if_neg hx] at h1
      rw [hn, if_neg (by rw [h2]; simp [hx])]
      omega
section
variable {prog : Program} {w : World} {A : Around} {RR : Result → Shared → Prop} {iv : Addr} {fp wr : List Addr} {G : Array GenState → Array GenState → Prop} {n : Nat} {Pv : Nat → Value → Prop} {St : Nat → Shared → Prop}
/-- the walk that fills a set with texts -/
theorem fill_txt (Wk : WalksS prog w A.in1 iv fp wr G n Pv St) (q : Addr) (hq : q ∉ fp) (ws : List Str) (hl : ws.length = n) (hb : n ≤ 1000) (hv : ∀ i v, Pv i v → ∃ t, v = .str (ws.getD i Str.empty) t) (tot : Nat) :
    ∀ (j i : Nat) (s : Shared) (S : Str → Bool) (m : Nat), n - i = j → i ≤ n → St i s → s.heap.SetOf (PySem.strKind prog w) q S m → Sofar (ws.take i).reverse (ws.drop i) S m tot → m ≤ i →
      (∀ s' S' , Moved (q :: wr) G s s' → s'.heap.SetOf (PySem.strKind prog w) q S' tot → RR (.ok (.ret .none)) s') → codeAny (model prog w) A (.builtin "set.update.loop" ⟨[.ref q, .ref iv], []⟩) RR s := by
  have qw : q ∉ wr := fun z => hq (Wk.sub _ z)
  have grow : ∀ b ∈ wr, b ∈ q :: wr := fun b => List.mem_cons_of_mem _
  intro j
  induction j with
  | zero =>
    intro i s S m hj hi st hS so hm fin
    obtain rfl : i = n := by omega
    refine codeAny_builtin F.entry_set_update_loop ?_
    rw [Around.under_plainId F.plain_set_update_loop _]
    refine wpAny_bind (Wk.done s _ _ st fun s' mv => wpAny_pure (fin s' S (mv.mono grow) ?_))
    have hm : m = tot := by
      have := so.cnt
      rw [List.drop_eq_nil_of_le (by omega)] at this
      exact this
    subst hm
    obtain ⟨o, es, ep, t, ho, rest⟩ := hS
    exact ⟨o, es, ep, t, mv.heap q _ qw ho, rest⟩
  | succ j ih =>
    intro i s S m hj hi st hS so hm fin
    have lt : i < n := by omega
    refine codeAny_builtin F.entry_set_update_loop ?_
    rw [Around.under_plainId F.plain_set_update_loop _]
    refine wpAny_bind (Wk.item i s _ _ lt st fun v s1 pv st1 mv => ?_)
    obtain ⟨t, rfl⟩ := hv i v pv
    have hS1 : s1.heap.SetOf (PySem.strKind prog w) q S m := by
      obtain ⟨o, es, ep, tb, ho, rest⟩ := hS
      exact ⟨o, es, ep, tb, mv.heap q _ qw ho, rest⟩
    have hlt : i < ws.length := by omega
    have hx : ws.getD i Str.empty = ws[i] := by simp [List.getD, hlt]
    show wpAny _ A.in1 (holding [Value.str (ws.getD i Str.empty) t] (setAdd q (.str (ws.getD i Str.empty) t)) >>= _) _ _ s1
    rw [hx]
    refine wpAny_bind (wpAny_holding ?_)
    unfold setAdd
    refine wpAny_holding (wpAny_bind ((PySem.strKind prog w).pyHash (k := ws[i]) (strKind_is _ _ _ _) ?_))
    refine wpAny_setAddHashed_of (knd := PySem.strKind prog w) (s := { s1 with toks := s1.toks + 1 }) (strKind_is _ _ _ _) rfl hS1 (by unfold scanBound; omega) fun h2 sb hS2 => ?_
    have so2 : Sofar (ws.take (i + 1)).reverse (ws.drop (i + 1)) (fun k => S k || decide (k = ws[i])) (if S ws[i] = true then m else m + 1) tot := by
      rw [List.drop_eq_getElem_cons hlt] at so
      have := so.next (S2 := fun k => S k || decide (k = ws[i])) (fun _ => rfl) rfl
      rw [List.take_succ_eq_append_getElem hlt, List.reverse_append]
      exact this
    refine wpAny_pure ⟨plainId_quiet F.plain_set_update_loop _, ih (i + 1) _ _ _ (by omega) lt (Wk.frame _ s1 _ _ st1 (Nat.le_succ _) fun b hb o e => ?_) hS2 so2 (by split <;> omega) fun s3 S3 mv3 hS3 => ?_⟩
    · rw [sb.2 b (fun (z : b = q) => hq (z ▸ hb))]; exact e
    · refine fin s3 S3 (Moved.trans Wk.gtrans ((mv.mono grow).then_heap (Nat.le_succ _) fun b o hb e => ?_) mv3) hS3
      rw [sb.2 b (fun (z : b = q) => hb (z ▸ List.mem_cons_self))]; exact e
end

section
variable {prog : Program} {w : World} {A : Around} {E : Value → Shared → Prop} {s : Shared}
abbrev newSet (led : Bool) : Obj := { cls := .type "set", dict := none, data := .set #[] 0 (.fresh 0 0 led) }
/-- set(t), t a tuple of texts -/
theorem call_set_txt {l : Addr} {us : Array Value} {ws : List Str} {Q : Value → Shared → Prop} (hh : A.handled = none) (hl : s.heap.IsTuple l us) (hi : StrsAre us.toList ws) (hb : ws.length ≤ 1000)
    (fin : ∀ (h' : Heap) (tk : Nat) (S : Str → Bool), h'.SetOf (PySem.strKind prog w) s.heap.objs.size S (cntS [] ws) → (∀ b o, b < s.heap.objs.size → s.heap.get? b = some o → h'.get? b = some o) → Q (.ref s.heap.objs.size) { s with heap := h', toks := tk }) :
    wpAny (model prog w) A (call (.type "set") [.ref l]) Q E s := by
  obtain ⟨_, _, z1⟩ := PySem.F.called_set.mro
  have z2 := PySem.F.called_set.made
  have z3 := PySem.F.called_set.sub
  have z4 := PySem.F.called_set.notType
  have z5 := PySem.F.called_set.canCreate
  have z6 := PySem.F.typeCall_set_1 (.ref l)
  refine wpAny_call (codeAny_of_tree ?_)
  show wpAny _ _ (callAny (.type "set") _) _ _ _
  refine wpAny_pure ⟨Code.quiet_builtin _ (by decide +kernel), codeAny_builtin PySem.F.entry_type_call ?_⟩
  rw [Around.under_plain (weight_type_call_type "set" [.ref l] []) rfl]
  repeat (any_goals (first | assumption | wp_step))
  refine codeAny_mono (code_set_new_1 (.ref l) (E := E) (Q₁ := fun v s1 => ∃ led : Bool, v = .ref s.heap.objs.size ∧ s1 = { s with heap := s.heap.push (newSet led) }) fun led => ⟨led, rfl, rfl⟩) fun r s1 hr => ?_
  cases r with
  | error e => exact hr
  | ok fl =>
    cases fl with
    | ret v =>
      obtain ⟨led, rfl, rfl⟩ := hr
      have got : (s.heap.push (newSet led)).get? s.heap.objs.size = some (newSet led) := Heap.get?_push_size _ rfl
      have ty : Shared.TypeIs { s with heap := s.heap.push (newSet led) } (.ref s.heap.objs.size) "set" := ⟨_, got, rfl⟩
      have y1 := PySem.F.called_set.init.lookup
      have y2 := PySem.F.called_set.init.bind (.ref s.heap.objs.size)
      repeat (any_goals (first | assumption | wp_step))
      refine codeAny_mono (codeAny_call_builtin (R := wants (fun r s2 => r = .none ∧ ∃ h' tk S, s2 = { s with heap := h', toks := tk } ∧ h'.SetOf (PySem.strKind prog w) s.heap.objs.size S (cntS [] ws) ∧ ∀ b o, b < s.heap.objs.size → s.heap.get? b = some o → h'.get? b = some o) E)
        PySem.F.called_set.init.plain PySem.F.entry_set_init (check_set_init_1 ty ?_)) fun r2 s2 hr2 => ?_
      · obtain ⟨ol, hol, hc, nl, hd⟩ := hl
        obtain ⟨c0, d0, a0, t0⟩ := ol
        simp only at hc hd
        subst hc; subst hd
        have hol' : (s.heap.push (newSet led)).get? l = some { cls := .type "tuple", dict := d0, data := .seq us nl, slots := t0 } := Heap.get?_push_of_some _ hol
        have x1 := PySem.F.sub_tuple_set
        have x2 := PySem.F.sub_tuple_frozenset
        have x3 : (Value.type "tuple" == Value.type "dict") = false := by decide
        have tup : (s.heap.push (newSet led)).IsTuple l us := ⟨_, hol', rfl, nl, rfl⟩
        unfold Builtin.«set.__init__» noKeywords Builtin.Frozenset.updateFrom
        generalize hp : pyIter = PP
        wp_walk
        subst hp
        refine wpAny_pyIter_tuple tup (wpAny_bind (wpAny_runValue ?_))
        have lS : l < s.heap.objs.size := Heap.lt_size hol
        have hh3 : A.in1.in1.in1.handled = none := by simp [hh]
        have ne1 : l ≠ (s.heap.push (newSet led)).objs.size := by
          rw [Heap.size_push]; exact Nat.ne_of_lt (Nat.lt_succ_of_lt lS)
        have nf : s.heap.objs.size ∉ [(s.heap.push (newSet led)).objs.size, l] := by
          rw [Heap.size_push]
          intro z
          rcases List.mem_cons.mp z with z | z
          · exact absurd z (Nat.ne_of_lt (Nat.lt_succ_self _))
          · exact absurd (List.mem_singleton.mp z) (Nat.ne_of_gt lS)
        have hsz : ws.length = us.size := by rw [← StrsAre.len_eq hi, Array.length_toList]
        refine fill_txt ((Walks.tuple hh3 _ l ne1 us).toS) s.heap.objs.size nf ws hsz (by omega) (fun i v hv => SS.strs_at hi i v (by rw [Array.getElem?_toList]; exact hv)) (cntS [] ws) (us.size - 0) 0 _ (fun _ => false) 0 (by omega) (Nat.zero_le _)
          ⟨⟨_, Heap.get?_push_size _ rfl, rfl, rfl⟩, tup.push _⟩ ?_ ⟨fun k => by simp, by simp⟩ (Nat.le_refl _) fun s3 S3 mv hS3 => ?_
        · exact (setObjOf_fresh (knd := PySem.strKind prog w) led).setOf (Heap.get?_push_of_some _ got) (by decide)
        · obtain ⟨h3, g3, d3, t3, o3⟩ := s3
          obtain rfl : g3 = s.gens := mv.gens
          obtain rfl : d3 = s.drawn := mv.drawn
          obtain rfl : o3 = s.os := mv.os
          show wpAny _ _ _ _ _ _
          refine wpAny_pure ?_
          show wpAny _ _ (ret Value.none) _ _ _
          refine wpAny_pure ⟨rfl, h3, t3, S3, rfl, hS3, fun b o hlt e => mv.heap b o ?_ (Heap.get?_push_of_some _ (Heap.get?_push_of_some _ e))⟩
          intro z
          rcases List.mem_cons.mp z with z | z
          · exact absurd z (Nat.ne_of_lt hlt)
          · have z := List.mem_singleton.mp z
            rw [Heap.size_push] at z
            exact absurd z (Nat.ne_of_lt (Nat.lt_succ_of_lt hlt))
      · cases r2 with
        | error e => exact hr2
        | ok f2 =>
          cases f2 with
          | ret r =>
            obtain ⟨rfl, h3, t3, S3, rfl, hS3, hk⟩ := hr2
            repeat (any_goals (first | assumption | wp_step))
            exact fin _ _ _ hS3 hk
          | _ => exact hr2.elim
    | _ => exact hr.elim
end
end DL

set_option linter.all false
set_option maxRecDepth 100000
set_option maxHeartbeats 3200000
set_option autoImplicit false
/-! DL16: {text for .. in ..}. -/
namespace DL
open PySem PySem.Spec PyProof.Rows L2
section
variable {X : Cx}
abbrev emptyK (P : Program) (w : World) (q : Addr) : HO := SetK P w q (fun _ => false) 0
/-- the new set is at q -/
def tScK (P : Program) (w : World) (wi : TI) (g : TG) (te : TE) (vs : List Nat) : TE := fun σ H Q => wi σ H fun J H1 => ∀ q, H1 q = none → ∃ V : Nat → Nat → Hp → Prop, (∃ m, V 0 m (upd H1 q (emptyK P w q))) ∧ ∀ i m H, V i m H →
  (J.stop i H ∧ Q (.ref q) H) ∨ (J.go i H ∧ ∃ Nx : Hp → Prop, (∀ H', Nx H' → ∃ m', m' < m ∧ V (i + 1) m' H') ∧ ∀ x H', J.yld i H x H' → g x (wipe σ vs) H' fun σ2 H2 => wipe σ2 vs = wipe σ vs ∧
    te σ2 H2 fun y H4 => ∃ (kk : Key) (S : Key → Bool) (n : Nat), y = kV kk ∧ H4 q = some (SetK P w q S n) ∧ n + 1 < scanBound ∧ Nx (upd H4 q (SetK P w q (fun j => S j || decide (j = kk)) (if S kk = true then n else n + 1))))
theorem pe_scK {elt tg iter : Expr} {scope : Scope} {own : List (Str × Nat)} {pos : Pos} {wi : TI} {g : TG} {te : TE} (hc : X.calm = true) (hN : X.N.Nodup) (hi : PI X tg iter wi) (ok : BlkOk X.N X.env.scope scope own)
    (hg : Blk X scope fun Y => PG Y tg g) (he : Blk X scope fun Y => PE Y elt te) (hs : ∀ x, foldedSetIterable iter X.env x = pure x) : PE X (.SetComp elt [⟨tg, iter, [], 0⟩] scope pos) (tScK X.prog X.w wi g te (own.map (·.2))) := by
  refine ⟨fun pins s σ H Q I h => ?_⟩
  rw [PpSet.eval_SetComp]
  have cells : ∀ y ∈ scope.names, y.2 = .free → ∃ c, X.env.cells.lookup y.1 = some c := fun y hy e => (ok.free y hy e).elim (fun z => I.ok.has _ (.inl z)) fun z => I.ok.has _ (.inr z)
  refine wpAny_comprehension_free rfl hs (closure_ok cells) ok.kind (fun y hy e => by rw [ok.uniq y hy, e]) (thn (hi.run pins s σ H _ I h) fun xv s1 hx => thn hx fun itv s2 h2 => ?_)
  obtain ⟨it, fp, tn, J, H2, rfl, I2, T, st2, f2, q⟩ := h2
  refine PpSet.newSet_ok (newEnv_comp ?_)
  generalize hq : s2.heap.objs.size = p
  have pn : H2 p = none := I2.hok.fresh (Nat.le_of_eq hq)
  obtain ⟨V, ⟨m0, w0⟩, turn⟩ := q p pn
  generalize hs3 : ({ s2 with heap := s2.heap.push { cls := .type "set", dict := none, data := .set #[] 0 (.fresh 0 0 (!X.w.params.followText "set-order")) } } : Shared) = s3
  have h3 : s3.heap = s2.heap.push { cls := .type "set", dict := none, data := .set #[] 0 (.fresh 0 0 (!X.w.params.followText "set-order")) } := by rw [← hs3]
  have I3 : Inv X pins σ (upd H2 p (emptyK X.prog X.w p)) s3 := by
    rw [← hs3, ← hq]
    exact I2.laid (t' := s2.toks) (fun b o e => Heap.get?_push_of_some _ e) (Nat.le_refl _) (setK_new ⟨_, #[], 0, _, Heap.get?_push_size _ rfl, ⟨rfl, rfl, rfl⟩, rfl, (fun e he => by simp at he), (fun k => by simp), (by decide), (by rfl), rfl⟩)
  have f3 : ∀ b ∈ fp, FpOk X pins (upd H2 p (emptyK X.prog X.w p)) b ∧ b < s3.heap.objs.size := fun b hb => by
    obtain ⟨o, e, _⟩ := T.obj _ _ st2 b hb
    have lt := Heap.lt_size e
    refine ⟨⟨?_, (f2 b hb).2⟩, by rw [h3, Heap.size_push]; exact Nat.lt_succ_of_lt lt⟩
    rw [upd_ne (by rw [← hq]; exact Nat.ne_of_lt lt)]
    exact (f2 b hb).1
  have st3 : tn 0 s3.heap := T.keep _ _ _ st2 fun b _ o e => by rw [h3]; exact Heap.get?_push_of_some _ e
  have I4 := block_start I3 ok hN f3
  generalize hH3 : upd H2 p (emptyK X.prog X.w p) = H3 at I3 I4 w0 f3
  generalize hcl : cellsFrom (s3.heap.objs.size + 1) scope.names (cloFrom X.env.cells scope.names []) = cls at I4
  have pg := hg s3 H3 s3.heap.objs.size cls fp
  have pe := he s3 H3 s3.heap.objs.size cls fp
  show codeAny _ _ (.compStart (.SetComp elt [⟨tg, iter, [], 0⟩] scope pos) 0 (.ref it) (.ref p) (compEnvC scope cls s3.heap.objs.size X.env)) (compPost (model X.prog X.w) X.A X.xe none _ (.ref p) s3.heap.objs.size) { s3 with heap := pushCells (s3.heap.push { cls := .type "dict", data := .dict #[] }) scope.names }
  generalize hce : compEnvC scope cls s3.heap.objs.size X.env = ce at I4 pg pe ⊢
  have cL : ce.locals = s3.heap.objs.size := by subst hce; rfl
  generalize hs4 : ({ s3 with heap := pushCells (s3.heap.push { cls := .type "dict", data := .dict #[] }) scope.names } : Shared) = s4 at I4 ⊢
  have st4 : tn 0 s4.heap := T.keep _ _ _ st3 fun b _ o e => by rw [← hs4]; exact pushCells_keeps _ _ _ _ (Heap.get?_push_of_some _ e)
  have own_ok : ∀ {σ' : L2.St} {H' : Hp} {s' : Shared}, Inv (X.blk s3 H3 scope ce fp) [] σ' H' s' → (∀ b ∈ fp, H' b = none) → ∀ b ∈ fp, FpOk (X.blk s3 H3 scope ce fp) [] H' b := fun {σ' H' s'} I' hn b hb =>
    ⟨hn b hb, (I'.ok.exf b hb).1, I'.ok.exfs b hb, .inl hb, fun x c e => (I'.ok.exf b hb).2 x c e, fun z hz => absurd (show z ∈ ([] : List (Addr × Obj)) ++ [] from hz) (by simp)⟩
  have loop : codeAny (model X.prog X.w) X.A (.compLoop (.SetComp elt [⟨tg, iter, [], 0⟩] scope pos) 0 (.ref it) (.ref p) ce) (compPost (model X.prog X.w) X.A X.xe none (EP X pins σ Q) (.ref p) s3.heap.objs.size) s4 := by
    refine PpSet.compLoopS_any (fun n s' => ∃ i H', Inv (X.blk s3 H3 scope ce fp) [] (wipe σ (own.map (·.2))) H' s' ∧ tn i s'.heap ∧ (∀ b ∈ fp, H' b = none) ∧ V i n H') ?_ m0 ⟨0, H3, I4, st4, fun b hb => (f3 b hb).1.1, w0⟩
    rintro n s5 ⟨i, H5, I5, st5, n5, w5⟩
    rcases turn i n H5 w5 with ⟨stop, fq⟩ | ⟨go, Nx, hNx, step⟩
    · refine thnF (T.done (X.blk s3 H3 scope ce fp) rfl rfl rfl hc i [] s5 _ H5 (fun _ _ => False) I5 (own_ok I5 n5) st5 stop) fun r s6 ⟨hr, I6⟩ => ?_
      subst hr
      have I7 : Inv X pins σ H5 s6 := I3.call' (ch := fp) I6.os I6.base I6.hok I6.bare fun b hb => ⟨(f3 b hb).1.2.2.2.1, (f3 b hb).1.2.1, (f3 b hb).1.2.2.2.2.1, (f3 b hb).1.2.2.2.2.2⟩
      have nC : H5 s3.heap.objs.size = none := by
        have z : H5 ce.locals = none := I6.free
        rwa [cL] at z
      obtain ⟨m, hn, _⟩ := I6.loc
      have hn' : s6.heap.Ns s3.heap.objs.size m := by
        have z : s6.heap.Ns ce.locals m := hn
        rwa [cL] at z
      obtain ⟨a0, a1, a2, a3, a4, a5⟩ := I3.fpOk (Nat.le_refl s3.heap.objs.size) nC
      exact ⟨m, hn', fun h'' sb => ⟨.ref p, H5, I7.turned (t' := s6.toks) (fun b o hb e => (sb.2 b hb).trans e) a0 a1 a3 a4 a5, rfl, fq⟩⟩
    · refine thnF (T.item (X.blk s3 H3 scope ce fp) rfl rfl rfl hc i [] s5 _ H5 (fun _ _ => False) I5 (own_ok I5 n5) st5 go) fun r s6 ⟨u, hr, h6⟩ => ?_
      subst hr
      refine thnF h6 fun _ s7 ⟨x, H7, I7, r7, y7, st7, n7⟩ => ?_
      have I7' := I7.pinned (own_ok I7 n7) (T.obj _ _ st7)
      refine thnF (pg.run _ s7 _ H7 x u _ I7' r7 (step x H7 y7)) fun _ s8 ⟨σ8, H8, I8, hw8, q8⟩ => ?_
      refine wpAny_tests_nil ?_
      rw [if_pos rfl]
      refine thnF (pe.run _ s8 σ8 H8 _ I8 q8) fun z s9 ⟨yv, H9, I9, r9, kk, S0, n0, ey, hq9, hz9, nx⟩ => ?_
      subst ey
      have add := mt_saddK (X := X.blk s3 H3 scope ce fp) _ s9 σ8 H9 (.ref p) [kV kk] (.ref p) [z] (fun _ H' => Nx H') I9 rfl (.cons r9 .nil) ⟨p, kk, S0, n0, rfl, rfl, hq9, hz9, nx⟩
      refine thnF add fun _ s10 ⟨_, H10, I10, _, nx10⟩ => ?_
      obtain ⟨m', hm, w'⟩ := hNx H10 nx10
      have stay : ∀ b ∈ fp, ∀ o, s7.heap.get? b = some o → s10.heap.get? b = some o ∧ H10 b = none := fun b hb o e =>
        let z := I10.pin (b, o) (List.mem_append_right _ (List.mem_append_right _ (mem_pinsAt hb e)))
        ⟨z.1, z.2.1⟩
      refine ⟨m', hm, i + 1, H10, (I10.unpinned (pins := [])).weak (by rw [← hw8, wipe_length]) (fun j v e => ?_), T.keep _ _ _ st7 fun b hb o e => (stay b hb o e).1, fun b hb => ?_, w'⟩
      · rw [← hw8] at e
        exact (wipe_some e).1
      · obtain ⟨o, e, _⟩ := T.obj _ _ st7 b hb
        exact (stay b hb o e).2
  exact PpSet.codeAny_compStart_set loop (T.self X.A 0 _ _ _ st4 loop)
end
end DL

set_option linter.all false
set_option maxRecDepth 100000
set_option maxHeartbeats 3200000
set_option autoImplicit false
/-! DL17: len(set(t)), len({text for .. in ..}). -/
namespace DL
open PySem PySem.Spec PyProof.Rows L2
theorem cnt_eq : ∀ (ws seen : List (List Nat)), cntS (seen.map sOf) (ws.map sOf) = cntL seen ws
  | [], _ => rfl
  | x :: r, seen => by
    have hm : sOf x ∈ seen.map sOf ↔ seen.contains x = true := by
      rw [List.contains_iff_mem]
      constructor
      · intro h
        obtain ⟨y, hy, e⟩ := List.mem_map.mp h
        rw [← sOf_inj.mp e]; exact hy
      · exact fun h => List.mem_map.mpr ⟨x, h, rfl⟩
    show cntS (seen.map sOf) (sOf x :: r.map sOf) = cntL seen (x :: r)
    unfold cntS cntL
    by_cases h : seen.contains x = true
    · rw [if_pos (hm.mpr h), if_pos h, cnt_eq r seen]
    · rw [if_neg (fun z => h (hm.mp z)), if_neg h]
      have := cnt_eq r (x :: seen)
      rw [List.map_cons] at this
      rw [this]
theorem strsD_app : ∀ {a b : List D} {ss : List (List Nat)}, strsD (a ++ b) = some ss → ∃ sa sb, strsD a = some sa ∧ strsD b = some sb ∧ ss = sa ++ sb
  | [], b, ss, h => ⟨[], ss, rfl, h, rfl⟩
  | x :: a, b, ss, h => by
    cases x with
    | str s =>
      have h' : (strsD (a ++ b)).map (s :: ·) = some ss := h
      cases e : strsD (a ++ b) with
      | none => rw [e] at h'; cases h'
      | some s2 =>
        rw [e] at h'
        cases h'
        obtain ⟨sa, sb, h1, h2, h3⟩ := strsD_app e
        exact ⟨s :: sa, sb, by show (strsD a).map (s :: ·) = _; rw [h1]; rfl, h2, by rw [h3]; rfl⟩
    | _ => cases h
theorem strsD_len : ∀ {a : List D} {ss : List (List Nat)}, strsD a = some ss → ss.length = a.length
  | [], _, h => by cases h; rfl
  | x :: a, ss, h => by
    cases x with
    | str s =>
      have h' : (strsD a).map (s :: ·) = some ss := h
      cases e : strsD a with
      | none => rw [e] at h'; cases h'
      | some s2 =>
        rw [e] at h'; cases h'
        show s2.length + 1 = a.length + 1
        rw [strsD_len e]
    | _ => cases h
theorem strsD_vals {K : PySem.W.Frag} {ρ : List Addr} {H : Hp} : ∀ {vs : List V} {ds : List D} {ss : List (List Nat)}, Reps K ρ H vs ds → strsD ds = some ss → vs = (ss.map sOf).map V.str
  | _, _, ss, .nil, h => by cases h; rfl
  | _, _, ss, .cons (d := d) (ds := ds) a b, h => by
    cases a with
    | str s =>
      have h' : (strsD ds).map (s :: ·) = some ss := h
      cases e : strsD ds with
      | none => rw [e] at h'; cases h'
      | some s2 =>
        rw [e] at h'; cases h'
        rw [strsD_vals b e]; rfl
    | _ => cases h
theorem R.bind_assoc {α β γ : Type} (m : R α) (f : α → Sto → R β) (g : β → Sto → R γ) : (m.bind f).bind g = m.bind fun a S => (f a S).bind g := by cases m <;> rfl
section
variable {cc : CC} {T : Tb} {cl : Orc} {N : Nm} {W : WX} {k : Nat} {X : Cx} {K : PySem.W.Frag}
def tLenT (K : PySem.W.Frag) (ta : TE) : TE := fun σ H Q => ta σ H fun x H1 => ∃ l, ∃ ws : List Str, x = .ref l ∧ SqT K H1 l (ws.map V.str) ∧ ws.length ≤ 1000 ∧ Q (.int (cntS [] ws : Nat)) H1
theorem pe_lenT {a : Expr} {ta : TE} {p p2 q pos : Pos} (hc : X.calm = true) (hg : Gl X "len") (hm : X.mg "len" = none) (hg2 : Gl X "set") (hm2 : X.mg "set" = none) (ha : PE X a ta) (na : starEach [a] X.env = (false, eval a X.env) :: starEach [] X.env) :
    PE X (.Call (.Name "len" p) [.Call (.Name "set" p2) [a] [] q] [] pos) (tLenT X.K ta) := by
  refine ⟨fun pins s σ H Q I h => ?_⟩
  refine Call_ (ld_blt I hg hm boot_len (callWith_builtin1 (args_cons ?_ rfl) rfl rfl))
  refine Call_ (ld_blt I hg2 hm2 boot_set (callWith_type1 (args_cons (thn (ha.run pins s σ H _ I h) fun v s1 ⟨x, H1, I1, r1, l, ws, ex, sq, hb, fq⟩ => args_nil ?_) na) na rfl))
  subst ex
  cases r1
  obtain ⟨us, rv, tp, _⟩ := I1.tuple sq
  refine call_set_txt (I1.ok.hd hc) tp (by simpa using strsAre_of rv) hb fun h' tk S hS keep => args_nil ?_
  obtain ⟨o, es, ep, t, ho, hex, hd, _, _, _, hf, hn⟩ := hS
  have I2 : Inv X pins σ H1 { s1 with heap := h', toks := tk } := I1.kept fun b o e => keep b o (Heap.lt_size e) e
  have hle := cntS_le ws []
  exact call_len_set ho hex hd hf (by rw [hn]; omega) ⟨.int (cntS [] ws : Nat), H1, I2.tok _, ⟨_, by rw [hn]⟩, fq⟩
theorem se_lenset (C : Cok cc T cl N W k X) {a : Expr} {ia : E} {p p2 q pos : Pos} (hg : Gl X "len") (hg2 : Gl X "set") (h : SE N W X a (ev T cl ia)) (hs : isStar a = false) : SE N W X (.Call (.Name "len" p) [.Call (.Name "set" p2) [a] [] q] [] pos) (ev T cl (.bf .setlen (.e ia))) :=
  peImp (pe_lenT C.calm hg (C.ko.free "len" (by decide)) hg2 (C.ko.free "set" (by decide)) h (starEach_cons hs)) fun σ H Q hq => by
    obtain ⟨ρ, Γ, S, rel, ms, p⟩ := hq
    have p' : Pst X.K N W (pD X.K) ((ev T cl ia Γ S).bind fun d S => bfT T cl .setlen (.d d) S) ρ H σ Q := by
      simp only [ev, evA] at p
      cases e : ev T cl ia Γ S with
      | ok d S1 => rw [e] at p; exact p
      | exc c fs S1 => rw [e] at p; exact p
      | stuck => rw [e] at p; exact p
    refine step pmD rel ms p' fun d S1 v H1 ρ1 _ e1 ms1 rel1 r1 p1 => ?_
    simp only [bfT] at p1
    cases e2 : (its S1 (.d d)).bind strsD with
    | none => rw [e2] at p1; exact (show False from p1).elim
    | some ss =>
      rw [e2] at p1
      obtain ⟨hb, p2⟩ := gdP p1
      obtain ⟨hb1, hb2⟩ := Bool.and_eq_true_iff.mp hb
      cases r1 with
      | tup sq rs =>
        rename_i a vs ds _
        have e3 : strsD ds = some ss := e2
        have hv := strsD_vals rs e3
        refine ⟨a, ss.map sOf, rfl, by rw [← hv]; exact sq, by rw [List.length_map]; exact Nat.le_of_ble_eq_true hb2, ?_⟩
        rw [show cntS [] (ss.map sOf) = cntL [] ss from cnt_eq ss []]
        exact p2.now ms1 (.int _)
      | _ => cases hb1
/-- behind the comprehension: its length -/
def tLenK (P : Program) (w : World) (ta : TE) : TE := fun σ H Q => ta σ H fun x H1 => ∃ q S n, x = .ref q ∧ H1 q = some (SetK P w q S n) ∧ n ≤ 1000 ∧ Q (.int (n : Nat)) H1
theorem pe_lenK {a : Expr} {ta : TE} {p pos : Pos} (hg : Gl X "len") (hm : X.mg "len" = none) (ha : PE X a ta) (na : starEach [a] X.env = (false, eval a X.env) :: starEach [] X.env) : PE X (.Call (.Name "len" p) [a] [] pos) (tLenK X.prog X.w ta) := by
  refine ⟨fun pins s σ H Q I h => ?_⟩
  refine Call_ (ld_blt I hg hm boot_len (callWith_builtin1 (args_cons (thn (ha.run pins s σ H _ I h) fun v s1 ⟨x, H1, I1, r1, q, S, n, ex, hq, hb, fq⟩ => args_nil ?_) na) na rfl))
  subst ex
  cases r1
  obtain ⟨o, es, ep, t, ho, hex, hd, _, _, _, hf, hn⟩ := setK_get I1 hq
  exact call_len_set ho hex hd hf (by rw [hn]; omega) ⟨.int (n : Nat), H1, I1.tok _, ⟨_, by rw [hn]⟩, fq⟩
theorem pln_setK {P : Program} {w : World} {q : Addr} {S : Key → Bool} {n : Nat} : Pln (SetK P w q S n) := ⟨fun _ => (nomatch ·), fun _ _ => (nomatch ·), fun _ => (nomatch ·)⟩
theorem sc_pred {P : Program} {w : World} {it : It} {t : Tg} {e : E} {σ : L2.St} {H : Hp} {Q : VK} (h : tG K N W (pD K) (ev T cl (.bf .setlen (.sc it t e))) σ H Q) :
    tLenK P w (tScK P w (tG K N W (pW K N) (evI T cl it)) (gT K t) (tG K N WF (pD K) (ev T cl e)) (slots t)) σ H Q := by
  obtain ⟨ρ, Γ, S, rel, ms, p⟩ := h
  have p' : Pst K N W (pD K) ((evI T cl it Γ S).bind fun w S => (compL w.ks t (fun Γ S => (ev T cl e Γ S).bind fun d S => .ok [d] S) Γ w.xs S).bind fun ds S => bfT T cl .setlen (.l ds) S) ρ H σ Q := by
    simp only [ev, evA] at p
    rw [R.bind_assoc] at p
    have hfun : (fun w S => ((compL w.ks t (fun Γ S => (ev T cl e Γ S).bind fun d S => .ok [d] S) Γ w.xs S).bind fun ds S => .ok (.l ds) S).bind fun x S => bfT T cl .setlen x S : Wk → Sto → DL.R DL.D) = fun w S => (compL w.ks t (fun Γ S => (ev T cl e Γ S).bind fun d S => .ok [d] S) Γ w.xs S).bind fun ds S => bfT T cl .setlen (.l ds) S := by
      funext w S
      rw [R.bind_assoc]
      rfl
    rw [hfun] at p
    exact p
  refine step pmD rel ms p' fun w2 S1 J H1 ρ1 q1 e1 ms1 rel1 dw p1 q hq => ?_
  clear p p' q1 e1 ms rel
  generalize hF : (fun Γ S => (ev T cl e Γ S).bind fun d S => .ok [d] S : Ev → Sto → DL.R (List DL.D)) = F at p1
  cases e0 : compL w2.ks t F Γ w2.xs S1 with
  | stuck => rw [e0] at p1; exact (show False from p1).elim
  | exc x fs S2 => exact absurd e0 compL_exc
  | ok total Sf =>
    rw [e0] at p1
    have p2 : Pst K N W (pD K) (bfT T cl .setlen (.l total) Sf) ρ1 H1 σ Q := p1
    simp only [bfT] at p2
    cases e2 : (its Sf (.l total)).bind strsD with
    | none => rw [e2] at p2; exact (show False from p2).elim
    | some ss =>
      rw [e2] at p2
      have e3 : strsD total = some ss := e2
      obtain ⟨hb, p3⟩ := gdP p2
      have hle : ss.length ≤ 1000 := Nat.le_of_ble_eq_true (Bool.and_eq_true_iff.mp hb).2
      refine ⟨fun i m H => m = w2.xs.length - i ∧ i ≤ w2.xs.length ∧ ∃ ρ S zs sa sb Ks n, Ext K ρ1 ρ H1 H ∧ MS K ρ H N S ∧ q ∉ ρ ∧ H q = some (SetK P w q Ks n) ∧ compL w2.ks t F Γ (w2.xs.drop i) S = .ok zs Sf ∧ strsD zs = some sb ∧ sa ++ sb = ss ∧ Sofar (sa.map sOf).reverse (sb.map sOf) (fun x => Ks (.inr x)) n (cntL [] ss) ∧ n ≤ sa.length, ?_, ?_⟩
      · refine ⟨_, rfl, Nat.zero_le _, ρ1, S1, total, [], ss, _, _, Ext.tmp hq, ms1.tmp hq, ms1.fresh hq, upd_same, e0, e3, rfl, ⟨fun x => by simp, ?_⟩, Nat.le_refl _⟩
        simp only [List.map_nil, List.reverse_nil, Nat.zero_add]
        exact cnt_eq ss []
      · rintro i m H ⟨rfl, hi, ρ, S, zs, sa, sb, Ks, n, e1, m, hqρ, hqH, hc, hz, ht, so, hn⟩
        by_cases hlt : i < w2.xs.length
        · right
          rw [List.drop_eq_getElem_cons hlt] at hc
          obtain ⟨hst, Γ', ys, S', zs', ha, hf, hc', hz', _⟩ := compL_cons hc
          refine ⟨dw.go i H ρ S hlt e1.lt m hst, fun H' => i + 1 ≤ w2.xs.length ∧ ∃ ρ S zs sa sb Ks n, Ext K ρ1 ρ H1 H' ∧ MS K ρ H' N S ∧ q ∉ ρ ∧ H' q = some (SetK P w q Ks n) ∧ compL w2.ks t F Γ (w2.xs.drop (i + 1)) S = .ok zs Sf ∧ strsD zs = some sb ∧ sa ++ sb = ss ∧ Sofar (sa.map sOf).reverse (sb.map sOf) (fun x => Ks (.inr x)) n (cntL [] ss) ∧ n ≤ sa.length, fun H' hN => ⟨w2.xs.length - (i + 1), by omega, rfl, hN⟩, fun x H' y => ?_⟩
          obtain ⟨d, hd, f2, m2, rd⟩ := dw.yld i H ρ S x H' hlt e1.lt m hst y
          have hd' : w2.xs[i] = d := by
            rw [List.getElem?_eq_getElem hlt] at hd; exact Option.some.inj hd
          subst hd'
          have hqH' := f2.keep q _ hqH hqρ
          have rel' : RelE K ρ H' Γ σ := rel1.mono (e1.trans f2)
          refine ⟨ρ, Γ, w2.xs[i], Γ', ⟨by rw [wipe_length]; exact rel'.1, fun j d hj q => by rw [wipe_out hj]; exact rel'.2 j d q⟩, rd, ha, fun σ2 rel2 out => ⟨?_, ?_⟩⟩
          · refine wipe_eq ?_ fun j hj => (out j hj).trans (wipe_out hj)
            rw [← rel2.1, asg_len ha, rel'.1]
          · refine ⟨ρ, Γ', S, rel2, m2, ?_⟩
            rw [← hF] at hf
            dsimp only at hf
            cases ee : ev T cl e Γ' S with
            | stuck => rw [ee] at hf; cases hf
            | exc x fs S2 => rw [ee] at hf; cases hf
            | ok dd S4 =>
              rw [ee] at hf
              cases hf
              intro y H4 ρ4 e4 m4 ry
              have hqρ4 := e4.notin hqH' hqρ
              have hqH4 := e4.keep q _ hqH' hqρ
              rw [hz'] at hz
              obtain ⟨s1, s2, h1, h2, h3⟩ := strsD_app hz
              cases ry with
              | str sx =>
                cases h1
                have so' : Sofar (sOf sx :: (sa.map sOf).reverse) (s2.map sOf) (fun x => Ks (.inr x) || decide ((.inr x : Key) = .inr (sOf sx))) (if Ks (.inr (sOf sx)) = true then n else n + 1) (cntL [] ss) := by
                  rw [h3] at so
                  exact so.next (fun x => by simp) rfl
                have hlen : (sa ++ [sx]).length = sa.length + 1 := by simp
                have htot : sa.length + (1 + s2.length) = ss.length := by rw [← ht, h3]; simp [Nat.add_comm]
                refine ⟨.inr (sOf sx), Ks, n, rfl, hqH4, by unfold scanBound; omega, hlt, ρ4, S', zs', sa ++ [sx], s2, _, _, ((e1.trans f2).trans e4).retmp hq hqH4 pln_setK, m4.retmp hqH4 pln_setK hqρ4, hqρ4, upd_same, hc', h2, by rw [← ht, h3]; simp, ?_, ?_⟩
                · rw [List.map_append, List.reverse_append]
                  exact so'
                · rw [hlen]; split <;> omega
              | _ => cases h1
        · left
          have hi' : i = w2.xs.length := by omega
          subst hi'
          rw [List.drop_length] at hc
          obtain ⟨hst, rfl, rfl⟩ := compL_nil hc
          cases hz
          have hcnt := so.cnt
          simp only [List.map_nil, cntS, Nat.add_zero] at hcnt
          rw [List.append_nil] at ht
          refine ⟨dw.stop H ρ Sf e1.lt m hst, q, Ks, n, rfl, hqH, by rw [ht] at hn; omega, ?_⟩
          rw [hcnt]
          exact p3 _ H ρ e1 m (.int _)
theorem se_lensc (C : Cok cc T cl N W k X) {elt tg iter : Expr} {scope : Scope} {own : List (Str × Nat)} {p pos pos' : Pos} {it : It} {t : Tg} {e : E} (hg : Gl X "len") (hi : SI N W X tg iter (evI T cl it)) (ok : BlkOk X.N X.env.scope scope own) (ho : own.map (·.2) = slots t)
    (hgt : Blk X scope fun Y => SG Y tg t) (he : Blk X scope fun Y => SE N WF Y elt (ev T cl e)) (hs : ∀ x, foldedSetIterable iter X.env x = pure x) :
    SE N W X (.Call (.Name "len" p) [.SetComp elt [⟨tg, iter, [], 0⟩] scope pos] [] pos') (ev T cl (.bf .setlen (.sc it t e))) :=
  peImp (pe_lenK hg (C.ko.free "len" (by decide)) (pe_scK C.calm C.nd hi ok hgt he hs) (starEach_cons rfl)) fun σ H Q h => by
    rw [ho]
    exact sc_pred h
end
end DL

set_option linter.all false
set_option maxRecDepth 100000
set_option maxHeartbeats 2000000
set_option autoImplicit false
/-! DL18: the program's text turned into the small language, with its proof: expressions. -/
namespace DL
open PySem PySem.Spec PyProof.Rows L2

section
variable (cc : CC) (T : Tb)
structure CE (I : Inf) (e : Expr) where
  ir : E
  ok : ∀ {cl : Orc} {N : Nm} {W : WX} {k : Nat} {X : Cx}, I.Is X → Cok cc T cl N W k X → SE N W X e (ev T cl ir)
structure CA (I : Inf) (e : Expr) where
  ir : A
  ok : ∀ {cl : Orc} {N : Nm} {W : WX} {k : Nat} {X : Cx}, I.Is X → Cok cc T cl N W k X → SA N W X e (evA T cl ir)
structure CT (I : Inf) (e : Expr) where
  ir : C
  ok : ∀ {cl : Orc} {N : Nm} {W : WX} {k : Nat} {X : Cx}, I.Is X → Cok cc T cl N W k X → SC N W X e (tst T cl ir)
structure CW (I : Inf) (e : Expr) where
  ir : C
  ok : ∀ {cl : Orc} {N : Nm} {W : WX} {k : Nat} {X : Cx}, I.Is X → Cok cc T cl N W k X → SW N W X e (tst T cl ir)
structure CI (I : Inf) (tg e : Expr) where
  ir : It
  ok : ∀ {cl : Orc} {N : Nm} {W : WX} {k : Nat} {X : Cx}, I.Is X → Cok cc T cl N W k X → SI N W X tg e (evI T cl ir)
structure CO (I : Inf) (e : Option Expr) where
  ir : Oe
  ok : ∀ {cl : Orc} {N : Nm} {W : WX} {k : Nat} {X : Cx}, I.Is X → Cok cc T cl N W k X → SO N W X e (evO T cl ir)
structure CEs (I : Inf) (es : List Expr) where
  ir : Es
  ok : ∀ {cl : Orc} {N : Nm} {W : WX} {k : Nat} {X : Cx}, I.Is X → Cok cc T cl N W k X → SEs N W X es (evs T cl ir)
  len : ∀ (cl : Orc) (Γ : Ev) (S : Sto) (ds : List D) (S' : Sto), evs T cl ir Γ S = .ok ds S' → ds.length = es.length
  ns : es.all (fun e => !isStar e) = true
  nl : es = [] → ir = .nil
structure CKs (I : Inf) (kws : List Keyword) where
  ir : Es
  ks : List Str
  ok : ∀ {cl : Orc} {N : Nm} {W : WX} {k : Nat} {X : Cx}, I.Is X → Cok cc T cl N W k X → SK N W X kws (evs T cl ir)
  kw : kwOk kws ks = true
  len : ∀ (cl : Orc) (Γ : Ev) (S : Sto) (ds : List D) (S' : Sto), evs T cl ir Γ S = .ok ds S' → ds.length = ks.length
structure COc (I : Inf) (es : List Expr) where
  ir : Oc
  ok : ∀ {cl : Orc} {N : Nm} {W : WX} {k : Nat} {X : Cx}, I.Is X → Cok cc T cl N W k X → PTs X es (tG X.K N W (pQ Bool) (tstO T cl ir))
/-- what is known of smaller pieces -/
structure Rc where
  e : (I : Inf) → (e : Expr) → Option (CE cc T I e)
  a : (I : Inf) → (e : Expr) → Option (CA cc T I e)
  t : (I : Inf) → (e : Expr) → Option (CT cc T I e)
  i : (I : Inf) → (tg e : Expr) → Option (CI cc T I tg e)
end
def chk {α : Type} : (b : Bool) → (b = true → Option α) → Option α
  | true, f => f rfl
  | false, _ => none
def got {α β : Type} : (o : Option α) → ((a : α) → o = some a → Option β) → Option β
  | some a, f => f a rfl
  | none, _ => none

section
variable {cc : CC} {T : Tb} (r : Rc cc T) (I : Inf)
theorem len_nil (cl : Orc) (Γ : Ev) (S : Sto) (ds : List D) (S' : Sto) (h : evs T cl .nil Γ S = .ok ds S') : ds.length = 0 := by
  unfold evs at h; cases h; rfl
theorem len_cons {n : Nat} {a : E} {b : Es} (hb : ∀ (cl : Orc) (Γ : Ev) (S : Sto) (ds : List D) (S' : Sto), evs T cl b Γ S = .ok ds S' → ds.length = n) (cl : Orc) (Γ : Ev) (S : Sto) (ds : List D) (S' : Sto) (h : evs T cl (.cons a b) Γ S = .ok ds S') : ds.length = n + 1 := by
  rw [evs_cons] at h
  obtain ⟨d, S1, _, h⟩ := bind_ok h
  obtain ⟨xs, S2, h2, h⟩ := bind_ok h
  cases h
  rw [List.length_cons, hb _ _ _ _ _ h2]
def cEs : (es : List Expr) → Option (CEs cc T I es)
  | [] => some ⟨.nil, fun _ _ => ses_nil, len_nil, rfl, fun _ => rfl⟩
  | e :: es => (r.e I e).bind fun a => (cEs es).bind fun b => chk (!isStar e) fun h => some ⟨.cons a.ir b.ir, fun hI C => ses_cons (a.ok hI C) (b.ok hI C) (by simpa using h), len_cons b.len, by rw [List.all_cons, h, b.ns]; rfl, fun z => nomatch z⟩
def cKs : (ks : List Keyword) → Option (CKs cc T I ks)
  | [] => some ⟨.nil, [], fun _ _ => sk_nil, rfl, len_nil⟩
  | ⟨nm, e, kp⟩ :: ks => match nm with
    | none => none
    | some x => (r.e I e).bind fun a => (cKs ks).bind fun b => chk (kwOk (⟨some x, e, kp⟩ :: ks) (x :: b.ks)) fun h => some ⟨.cons a.ir b.ir, x :: b.ks, fun hI C => sk_cons (a.ok hI C) (b.ok hI C), h, len_cons b.len⟩
def cO : (e : Option Expr) → Option (CO cc T I e)
  | none => some ⟨.no, fun _ _ => so_no⟩
  | some e => (r.e I e).map fun a => ⟨.yes a.ir, fun hI C => so_yes (a.ok hI C)⟩
/-- a name of the module or a built-in one -/
def isGlo (x : Str) : Bool := match I.sc.names.lookup x with
  | some .globalImplicit => true
  | _ => false
theorem gl_of {X : Cx} {x : Str} (hI : I.Is X) (h : isGlo I x = true) : Gl X x := by
  unfold isGlo at h
  show X.env.scope.names.lookup x = _
  rw [hI.sc]
  split at h
  · assumption
  · cases h
def isVis (x : Str) : Bool := match I.sc.names.lookup x with
  | some .local => true
  | some .cell => true
  | some .free => true
  | _ => false
theorem vis_of {X : Cx} {x : Str} (hI : I.Is X) (h : isVis I x = true) : Vis X.env.scope x := by
  unfold isVis at h
  show X.env.scope.names.lookup x = _ ∨ X.env.scope.names.lookup x = _ ∨ X.env.scope.names.lookup x = _
  rw [hI.sc]
  split at h
  · exact .inl (by assumption)
  · exact .inr (.inl (by assumption))
  · exact .inr (.inr (by assumption))
  · cases h
def nodbg (x : Str) : Bool := !(x == ("__debug__" : Str)) && !(x == ("__classdict__" : Str))
theorem nodbg1 {x : Str} (h : nodbg x = true) : (x == ("__debug__" : Str)) = false := by
  unfold nodbg at h
  simp only [Bool.and_eq_true, Bool.not_eq_true'] at h
  exact h.1
theorem nodbg2 {x : Str} (h : nodbg x = true) : (x == ("__classdict__" : Str)) = false := by
  unfold nodbg at h
  simp only [Bool.and_eq_true, Bool.not_eq_true'] at h
  exact h.2
def cName (x : Str) (pos : Pos) : Option (CE cc T I (.Name x pos)) := chk (nodbg x) fun hd =>
  match h : isVis I x with
  | true => got (ixOfN I.N x) fun i hi => some ⟨.var i, fun hI C => se_var (by rw [hI.N]; exact ixOfN_at hi) (vis_of I hI h) (nodbg1 hd) (nodbg2 hd)⟩
  | false => chk (isGlo I x) fun hg => got (cc.glo.lookup x) fun g hx => some ⟨.glo g, fun hI C => se_glo C (gl_of I hI hg) hx (nodbg1 hd)⟩
def binO : Operator → Option Op2
  | .Add => some .add
  | .Sub => some .sub
  | .Mult => some .mul
  | .FloorDiv => some .fdiv
  | .Mod => some .mod
  | .Pow => some .pow
  | _ => none
theorem binO_ok {op : Operator} {o : Op2} (h : binO op = some o) : bop o = binaryOp op := by
  cases op <;> cases h <;> rfl
def cmpO : CmpOp → Option Op2
  | .Eq => some .eq
  | .NotEq => some .ne
  | .Lt => some .lt
  | .LtE => some .le
  | .Gt => some .gt
  | .GtE => some .ge
  | .In => some .isin
  | .NotIn => some .notin
  | .Is => some .iss
  | .IsNot => some .isnot
theorem cmpO_ok {op : CmpOp} {o : Op2} (h : cmpO op = some o) : bop o = compareOp op ∧ isCmp o = true := by
  cases op <;> cases h <;> exact ⟨rfl, rfl⟩
def cBin (a : Expr) (op : Operator) (b : Expr) (pos : Pos) : Option (CE cc T I (.BinOp a op b pos)) :=
  (r.a I a).bind fun x => (r.a I b).bind fun y => got (binO op) fun o ho => some ⟨.op2 o x.ir y.ir, fun hI C => se_bin C (x.ok hI C) (y.ok hI C) (binO_ok ho)⟩
def cCmp1 (a : Expr) (op : CmpOp) (b : Expr) (pos : Pos) : Option (CE cc T I (.Compare a [op] [b] pos)) :=
  (r.a I a).bind fun x => (r.a I b).bind fun y => got (cmpO op) fun o ho => chk (!behindInMarks op b) fun hm => some ⟨.op2 o x.ir y.ir, fun hI C => se_cmp C (x.ok hI C) (y.ok hI C) (cmpO_ok ho).1 (by simpa using hm)⟩
def cCmp1T (a : Expr) (op : CmpOp) (b : Expr) (pos : Pos) : Option (CT cc T I (.Compare a [op] [b] pos)) :=
  (r.a I a).bind fun x => (r.a I b).bind fun y => got (cmpO op) fun o ho => chk (!behindInMarks op b) fun hm => some ⟨.t (.op2 o x.ir y.ir), fun hI C => sc_cmp C (x.ok hI C) (y.ok hI C) (cmpO_ok ho).1 (by simpa using hm) (cmpO_ok ho).2⟩
def cCmp : (a : Expr) → (op : CmpOp) → (b : Expr) → (pos : Pos) → Option (CE cc T I (.Compare a [op] [b] pos))
  | a, .Is, .Constant .none _ _, pos => (r.e I a).map fun x => ⟨.isN false x.ir, fun hI C => se_isN false (x.ok hI C)⟩
  | a, .IsNot, .Constant .none _ _, pos => (r.e I a).map fun x => ⟨.isN true x.ir, fun hI C => se_isN true (x.ok hI C)⟩
  | a, op, b, pos => cCmp1 r I a op b pos
def cCmpT : (a : Expr) → (op : CmpOp) → (b : Expr) → (pos : Pos) → Option (CT cc T I (.Compare a [op] [b] pos))
  | a, .Is, .Constant .none _ _, pos => (r.e I a).map fun x => ⟨.t (.isN false x.ir), fun hI C => sc_isN false (x.ok hI C)⟩
  | a, .IsNot, .Constant .none _ _, pos => (r.e I a).map fun x => ⟨.t (.isN true x.ir), fun hI C => sc_isN true (x.ok hI C)⟩
  | a, op, b, pos => cCmp1T r I a op b pos
/-- a ≤ b ≤ c -/
def intO : CmpOp → Option Op2
  | .Lt => some .lt
  | .LtE => some .le
  | .Gt => some .gt
  | .GtE => some .ge
  | _ => none
theorem intO_ok {op : CmpOp} {o : Op2} (h : intO op = some o) : ∃ f, cmpI o = some (op, f) := by
  cases op <;> cases h <;> exact ⟨_, rfl⟩
def cChain (a : Expr) (op op' : CmpOp) (b c : Expr) (pos : Pos) : Option (CE cc T I (.Compare a [op, op'] [b, c] pos)) :=
  (r.e I a).bind fun x => (r.e I b).bind fun y => (r.e I c).bind fun z => got (intO op) fun o ho => got (intO op') fun o' ho' => some ⟨.chain o o' x.ir y.ir z.ir, fun hI C => by
    obtain ⟨f, hf⟩ := intO_ok ho
    obtain ⟨f', hf'⟩ := intO_ok ho'
    exact se_chain hf hf' (x.ok hI C) (y.ok hI C) (z.ok hI C)⟩
def cChainT (a : Expr) (op op' : CmpOp) (b c : Expr) (pos : Pos) : Option (CT cc T I (.Compare a [op, op'] [b, c] pos)) :=
  (r.e I a).bind fun x => (r.e I b).bind fun y => (r.e I c).bind fun z => got (intO op) fun o ho => got (intO op') fun o' ho' => some ⟨.t (.chain o o' x.ir y.ir z.ir), fun hI C => by
    obtain ⟨f, hf⟩ := intO_ok ho
    obtain ⟨f', hf'⟩ := intO_ok ho'
    exact sc_chain hf hf' (x.ok hI C) (y.ok hI C) (z.ok hI C)⟩
def cAnd (pos : Pos) : (es : List Expr) → Option (CE cc T I (.BoolOp .And es pos))
  | [] => none
  | [a] => (r.e I a).map fun x => ⟨x.ir, fun hI C => se_one (x.ok hI C)⟩
  | a :: b :: es => (r.e I a).bind fun x => (cAnd pos (b :: es)).bind fun y => some ⟨.and x.ir y.ir, fun hI C => se_and (x.ok hI C) (y.ok hI C)⟩
def cOr (pos : Pos) : (es : List Expr) → Option (CE cc T I (.BoolOp .Or es pos))
  | [] => none
  | [a] => (r.e I a).map fun x => ⟨x.ir, fun hI C => se_one (x.ok hI C)⟩
  | a :: b :: es => (r.e I a).bind fun x => (cOr pos (b :: es)).bind fun y => some ⟨.or x.ir y.ir, fun hI C => se_or (x.ok hI C) (y.ok hI C)⟩
def cAndT (pos : Pos) : (es : List Expr) → Option (CW cc T I (.BoolOp .And es pos))
  | [] => none
  | [a] => (r.t I a).map fun x => ⟨x.ir, fun hI C => sw_and1 (x.ok hI C)⟩
  | a :: b :: es => (r.t I a).bind fun x => (cAndT pos (b :: es)).bind fun y => some ⟨.and x.ir y.ir, fun hI C => sw_and (x.ok hI C) (y.ok hI C)⟩
def cOrT (pos : Pos) : (es : List Expr) → Option (CW cc T I (.BoolOp .Or es pos))
  | [] => none
  | [a] => (r.t I a).map fun x => ⟨x.ir, fun hI C => sw_or1 (x.ok hI C)⟩
  | a :: b :: es => (r.t I a).bind fun x => (cOrT pos (b :: es)).bind fun y => some ⟨.or x.ir y.ir, fun hI C => sw_or (x.ok hI C) (y.ok hI C)⟩
/-! ### comprehensions -/
def noSet : Expr → Bool
  | .Set .. => false
  | _ => true
theorem noSet_ok {e : Expr} (h : noSet e = true) (env : Env) (x : Value) : foldedSetIterable e env x = pure x := by
  cases e <;> first | rfl | cases h
def ownOf : Expr → Tg → List (Str × Nat)
  | .Name x _, .nm i => [(x, i)]
  | .Tuple es _ _, .tp is => (es.zip is).map fun p => ((match p.1 with
    | .Name x _ => x
    | _ => ⟨#[]⟩), p.2)
  | _, _ => []
def blkB (N : List Str) (sc scope : Scope) (own : List (Str × Nat)) : Bool :=
  decide (scope.kind = .function) && (scope.names.all fun y => decide (scope.names.lookup y.1 = some y.2)) && (own.all fun p => decide (N[p.2]? = some p.1)) &&
  (scope.names.all fun y => !decide (y.2 = .free) || decide (sc.names.lookup y.1 = some .cell) || decide (sc.names.lookup y.1 = some .free)) &&
  (scope.names.all fun y => !(decide (y.2 = .local) || decide (y.2 = .cell)) || (own.any fun p => decide (p.1 = y.1)) || !(N.any fun z => decide (z = y.1)))
theorem blkB_ok {N : List Str} {sc scope : Scope} {own : List (Str × Nat)} (h : blkB N sc scope own = true) : BlkOk N sc scope own := by
  unfold blkB at h
  simp only [Bool.and_eq_true, decide_eq_true_eq, List.all_eq_true] at h
  obtain ⟨⟨⟨⟨h1, h2⟩, h3⟩, h4⟩, h5⟩ := h
  refine ⟨h1, h2, h3, fun y hy e => ?_, fun y hy e => ?_⟩
  · have := h4 y hy
    simp only [Bool.or_eq_true, Bool.not_eq_true', decide_eq_false_iff_not, decide_eq_true_eq] at this
    rcases this with (z | z) | z
    · exact absurd e z
    · exact .inl z
    · exact .inr z
  · have := h5 y hy
    simp only [Bool.or_eq_true, Bool.not_eq_true', decide_eq_true_eq, List.any_eq_true, Bool.or_eq_false_iff, decide_eq_false_iff_not, List.any_eq_false] at this
    rcases this with (z | ⟨p, hp, z⟩) | z
    · rcases e with e | e
      · exact absurd e z.1
      · exact absurd e z.2
    · left; exact List.mem_map.mpr ⟨p, hp, z⟩
    · right; exact fun q => z _ q rfl
def natsB : List Nat → List Nat → Bool
  | [], [] => true
  | a :: r, b :: s => Nat.beq a b && natsB r s
  | _, _ => false
theorem natsB_ok : ∀ {a b : List Nat}, natsB a b = true → a = b
  | [], [], _ => rfl
  | [], _ :: _, h => by cases h
  | _ :: _, [], h => by cases h
  | a :: r, b :: s, h => by
    unfold natsB at h
    simp only [Bool.and_eq_true] at h
    rw [Nat.eq_of_beq_eq_true h.1, natsB_ok h.2]
def cOc : (es : List Expr) → Option (COc cc T I es)
  | [] => some ⟨.no, fun _ _ => sts_no⟩
  | [c] => (r.t I c).map fun x => ⟨.yes x.ir, fun hI C => sts_yes (x.ok hI C)⟩
  | _ => none
structure CLc (cc : CC) (T : Tb) (I : Inf) (elt tg iter : Expr) (ifs : List Expr) (scope : Scope) where
  it : CI cc T I tg iter
  t : Tg
  ht : cmpTg (I.blk scope) tg = some t
  ok : BlkOk I.N I.sc scope (ownOf tg t)
  ho : (ownOf tg t).map (·.2) = slots t
  c : COc cc T (I.blk scope) ifs
  e : CE cc T (I.blk scope) elt
  hs : noSet iter = true
def cLc (elt tg iter : Expr) (ifs : List Expr) (scope : Scope) : Option (CLc cc T I elt tg iter ifs scope) :=
  (r.i I tg iter).bind fun it => got (cmpTg (I.blk scope) tg) fun t ht => chk (blkB I.N I.sc scope (ownOf tg t)) fun h1 => chk (natsB ((ownOf tg t).map (·.2)) (slots t)) fun h2 =>
    (cOc r (I.blk scope) ifs).bind fun c => (r.e (I.blk scope) elt).bind fun e => chk (noSet iter) fun h3 => some ⟨it, t, ht, blkB_ok h1, natsB_ok h2, c, e, h3⟩
theorem blk_is {X : Cx} {I : Inf} (hI : I.Is X) {scope : Scope} {own : List (Str × Nat)} (h : BlkOk I.N I.sc scope own) : BlkOk X.N X.env.scope scope own := by rw [hI.N, hI.sc]; exact h
theorem CLc.sa {elt tg iter : Expr} {ifs : List Expr} {scope : Scope} {I : Inf} (L : CLc cc T I elt tg iter ifs scope) {pos : Pos} {cl : Orc} {N : Nm} {W : WX} {k : Nat} {X : Cx} (hI : I.Is X) (C : Cok cc T cl N W k X) :
    SA N W X (.ListComp elt [⟨tg, iter, ifs, 0⟩] scope pos) (evA T cl (.lc L.it.ir L.t L.c.ir L.e.ir)) :=
  sa_lc C (L.it.ok hI C) (blk_is hI L.ok) L.ho (fun _ _ _ _ _ => sg_of hI.blk C.blk.calm C.blk.nd L.ht) (fun _ _ _ _ _ => L.c.ok hI.blk C.blk) (fun _ _ _ _ _ => L.e.ok hI.blk C.blk) (fun x => noSet_ok L.hs _ x)
end
end DL

set_option linter.all false
set_option maxRecDepth 100000
set_option maxHeartbeats 2000000
set_option autoImplicit false
/-! DL19: calls; all expressions, by fuel. -/
namespace DL
open PySem PySem.Spec PyProof.Rows L2

section
variable {cc : CC} {T : Tb} {cl : Orc} {N : Nm} {W : WX} {k : Nat} {X : Cx}
theorem sa_lc2 (C : Cok cc T cl N W k X) {elt tg iter tg1 iter1 : Expr} {ifs ifs1 : List Expr} {scope : Scope} {own : List (Str × Nat)} {pos : Pos} {it it2 : It} {t t2 : Tg} {c c2 : Oc} {e : E} (hi : SI N W X tg iter (evI T cl it)) (ok : BlkOk X.N X.env.scope scope own) (ho : own.map (·.2) = slots t ++ slots t2)
    (hg : Blk X scope fun Y => SG Y tg t) (ht : Blk X scope fun Y => PTs Y ifs (tG Y.K N WF (pQ Bool) (tstO T cl c))) (hi1 : Blk X scope fun Y => SI N WF Y tg1 iter1 (evI T cl it2)) (hg1 : Blk X scope fun Y => SG Y tg1 t2) (ht1 : Blk X scope fun Y => PTs Y ifs1 (tG Y.K N WF (pQ Bool) (tstO T cl c2)))
    (he : Blk X scope fun Y => SE N WF Y elt (ev T cl e)) (hs : ∀ x, foldedSetIterable iter X.env x = pure x) (hs1 : ∀ env x, foldedSetIterable iter1 env x = pure x) :
    SA N W X (.ListComp elt [⟨tg, iter, ifs, 0⟩, ⟨tg1, iter1, ifs1, 0⟩] scope pos) (evA T cl (.lc2 it t c it2 t2 c2 e)) :=
  peImp (pe_lc2 (vs1 := slots t2) C.calm C.nd hi ok (fun i h => by rw [ho]; exact List.mem_append_right _ h) hg ht hi1 hg1 ht1 he hs hs1) fun σ H Q h => by
    rw [ho]
    exact lc2_pred h
theorem ss_setLc2 (C : Cok cc T cl N W k X) {i : Nat} {y : Str} {py : Pos} {elt tg iter tg1 iter1 : Expr} {ifs ifs1 : List Expr} {scope : Scope} {own : List (Str × Nat)} {pos spos : Pos} {it it2 : It} {t t2 : Tg} {c c2 : Oc} {e : E} (hy : X.N[i]? = some y) (hyl : X.env.scope.names.lookup y = some .local)
    (hsw : swapsWith (.ListComp elt [⟨tg, iter, ifs, 0⟩, ⟨tg1, iter1, ifs1, 0⟩] scope pos) (some (.Name y py)) spos.line X.env = pure true) (hi : SI N W X tg iter (evI T cl it)) (ok : BlkOk X.N X.env.scope scope own) (ho : own.map (·.2) = slots t ++ slots t2)
    (hg : Blk X scope fun Y => SG Y tg t) (ht : Blk X scope fun Y => PTs Y ifs (tG Y.K N WF (pQ Bool) (tstO T cl c))) (hi1 : Blk X scope fun Y => SI N WF Y tg1 iter1 (evI T cl it2)) (hg1 : Blk X scope fun Y => SG Y tg1 t2) (ht1 : Blk X scope fun Y => PTs Y ifs1 (tG Y.K N WF (pQ Bool) (tstO T cl c2)))
    (he : Blk X scope fun Y => SE N WF Y elt (ev T cl e)) (hs : ∀ x, foldedSetIterable iter X.env x = pure x) (hs1 : ∀ env x, foldedSetIterable iter1 env x = pure x) :
    SS N W X (.Assign [.Name y py] (.ListComp elt [⟨tg, iter, ifs, 0⟩, ⟨tg1, iter1, ifs1, 0⟩] scope pos) spos) (exec T cl (.set (.nm i) (.new (.lc2 it t c it2 t2 c2 e)))) :=
  psImp (ps_setLc2 (vs1 := slots t2) C.calm C.nd hy hyl hsw hi ok (fun i h => by rw [ho]; exact List.mem_append_right _ h) hg ht hi1 hg1 ht1 he hs hs1) fun D σ H h => by
    rw [ho]
    exact lc2_pred (new_pred (set_pred h))
end
section
variable {cc : CC} {T : Tb} (r : Rc cc T) (I : Inf)
structure CLc2 (cc : CC) (T : Tb) (I : Inf) (elt tg iter tg1 iter1 : Expr) (ifs ifs1 : List Expr) (scope : Scope) where
  it : CI cc T I tg iter
  t : Tg
  ht : cmpTg (I.blk scope) tg = some t
  c : COc cc T (I.blk scope) ifs
  it1 : CI cc T (I.blk scope) tg1 iter1
  t1 : Tg
  ht1 : cmpTg (I.blk scope) tg1 = some t1
  c1 : COc cc T (I.blk scope) ifs1
  ok : BlkOk I.N I.sc scope (ownOf tg t ++ ownOf tg1 t1)
  ho : (ownOf tg t ++ ownOf tg1 t1).map (·.2) = slots t ++ slots t1
  e : CE cc T (I.blk scope) elt
  hs : noSet iter = true
  hs1 : noSet iter1 = true
def cLc2 (elt tg iter tg1 iter1 : Expr) (ifs ifs1 : List Expr) (scope : Scope) : Option (CLc2 cc T I elt tg iter tg1 iter1 ifs ifs1 scope) :=
  (r.i I tg iter).bind fun it => got (cmpTg (I.blk scope) tg) fun t ht => (cOc r (I.blk scope) ifs).bind fun c => (r.i (I.blk scope) tg1 iter1).bind fun it1 => got (cmpTg (I.blk scope) tg1) fun t1 ht1 => (cOc r (I.blk scope) ifs1).bind fun c1 =>
    chk (blkB I.N I.sc scope (ownOf tg t ++ ownOf tg1 t1)) fun h1 => chk (natsB ((ownOf tg t ++ ownOf tg1 t1).map (·.2)) (slots t ++ slots t1)) fun h2 =>
    (r.e (I.blk scope) elt).bind fun e => chk (noSet iter) fun h3 => chk (noSet iter1) fun h4 => some ⟨it, t, ht, c, it1, t1, ht1, c1, blkB_ok h1, natsB_ok h2, e, h3, h4⟩
theorem CLc2.sa {I : Inf} {elt tg iter tg1 iter1 : Expr} {ifs ifs1 : List Expr} {scope : Scope} (L : CLc2 cc T I elt tg iter tg1 iter1 ifs ifs1 scope) {pos : Pos} {cl : Orc} {N : Nm} {W : WX} {k : Nat} {X : Cx} (hI : I.Is X) (C : Cok cc T cl N W k X) :
    SA N W X (.ListComp elt [⟨tg, iter, ifs, 0⟩, ⟨tg1, iter1, ifs1, 0⟩] scope pos) (evA T cl (.lc2 L.it.ir L.t L.c.ir L.it1.ir L.t1 L.c1.ir L.e.ir)) :=
  sa_lc2 C (L.it.ok hI C) (blk_is hI L.ok) L.ho (fun _ _ _ _ _ => sg_of hI.blk C.blk.calm C.blk.nd L.ht) (fun _ _ _ _ _ => L.c.ok hI.blk C.blk) (fun _ _ _ _ _ => L.it1.ok hI.blk C.blk) (fun _ _ _ _ _ => sg_of hI.blk C.blk.calm C.blk.nd L.ht1) (fun _ _ _ _ _ => L.c1.ok hI.blk C.blk)
    (fun _ _ _ _ _ => L.e.ok hI.blk C.blk) (fun x => noSet_ok L.hs _ x) (fun _ x => noSet_ok L.hs1 _ x)
def cListComp : (elt : Expr) → (gs : List Comprehension) → (scope : Scope) → (pos : Pos) → Option (CA cc T I (.ListComp elt gs scope pos))
  | elt, [⟨tg, iter, ifs, 0⟩], scope, pos => (cLc r I elt tg iter ifs scope).map fun L => ⟨.lc L.it.ir L.t L.c.ir L.e.ir, fun hI C => L.sa hI C⟩
  | elt, [⟨tg, iter, ifs, 0⟩, ⟨tg1, iter1, ifs1, 0⟩], scope, pos => (cLc2 r I elt tg iter tg1 iter1 ifs ifs1 scope).map fun L => ⟨.lc2 L.it.ir L.t L.c.ir L.it1.ir L.t1 L.c1.ir L.e.ir, fun hI C => L.sa hI C⟩
  | _, _, _, _ => none
/-- operands -/
def cA : (e : Expr) → Option (CA cc T I e)
  | .List es pos => (cEs r I es).bind fun x => chk (Nat.ble es.length 1000) fun h => some ⟨.lst x.ir, fun hI C => sa_lst (x.ok hI C) (Nat.le_of_ble_eq_true h) (x.len _)⟩
  | .ListComp elt gs scope pos => cListComp r I elt gs scope pos
  | e => (r.e I e).map fun x => ⟨.e x.ir, fun hI C => sa_e (x.ok hI C)⟩
/-! ### calls -/
def tyOf (x : Str) : Option { p : Ty × String // tyStr p.1 = some p.2 ∧ x = Str.ofString p.2 } :=
  if h : x = Str.ofString "tuple" then some ⟨(.tuple, "tuple"), rfl, h⟩ else
  if h : x = Str.ofString "str" then some ⟨(.str, "str"), rfl, h⟩ else
  if h : x = Str.ofString "int" then some ⟨(.int, "int"), rfl, h⟩ else
  if h : x = Str.ofString "bool" then some ⟨(.bool, "bool"), rfl, h⟩ else
  if h : x = Str.ofString "list" then some ⟨(.list, "list"), rfl, h⟩ else
  if h : x = Str.ofString "dict" then some ⟨(.dict, "dict"), rfl, h⟩ else none
def cIsi (x : Str) (hx : x = "isinstance") (p : Pos) : (args : List Expr) → (pos : Pos) → Option (CE cc T I (.Call (.Name x p) args [] pos))
  | [a, .Name y p2], pos => chk (isGlo I "isinstance") fun h1 => chk (isGlo I y) fun h2 => (r.e I a).bind fun e => chk (!isStar a) fun h3 => match hc : cc.cls.lookup y with
    | some c => chk (nodbg y) fun h4 => some ⟨.isi e.ir (.cls c), fun hI C => by rw [hx]; exact se_isiC C (e.ok hI C) (by simpa using h3) (gl_of I hI h1) (gl_of I hI h2) hc (nodbg1 h4)⟩
    | none => (tyOf y).map fun t => ⟨.isi e.ir t.1.1, fun hI C => by rw [hx]; exact se_isi C (e.ok hI C) (by simpa using h3) (gl_of I hI h1) (gl_of I hI h2) t.2.1 t.2.2⟩
  | _, _ => none
def bfOf (x : Str) : Option { p : Bf × Value // bfVal p.1 = some p.2 ∧ x = bfName p.1 } :=
  if h : x = "len" then some ⟨(.len, .builtin "len"), rfl, h⟩ else
  if h : x = "tuple" then some ⟨(.tuple, .type "tuple"), rfl, h⟩ else
  if h : x = "list" then some ⟨(.list, .type "list"), rfl, h⟩ else
  if h : x = "all" then some ⟨(.all, .builtin "all"), rfl, h⟩ else
  if h : x = "int" then some ⟨(.int, .type "int"), rfl, h⟩ else
  if h : x = "any" then some ⟨(.any, .builtin "any"), rfl, h⟩ else
  if h : x = "bool" then some ⟨(.bool, .type "bool"), rfl, h⟩ else
  if h : x = "str" then some ⟨(.str, .type "str"), rfl, h⟩ else none
def cBf1 (x : Str) (p : Pos) (a : Expr) (pos : Pos) : Option (CE cc T I (.Call (.Name x p) [a] [] pos)) :=
  chk (isGlo I x) fun h1 => chk (!isStar a) fun h2 => (bfOf x).bind fun b => (r.a I a).bind fun y => some ⟨.bf b.1.1 y.ir, fun hI C => se_bf C (y.ok hI C) (by simpa using h2) (gl_of I hI h1) b.2.2 b.2.1⟩
/-- len(set(a)), len({.. for ..}) -/
def cLen (x : Str) (hx : x = "len") (p : Pos) : (a : Expr) → (pos : Pos) → Option (CE cc T I (.Call (.Name x p) [a] [] pos))
  | .Call (.Name y p2) [a] [] q, pos => if hy : y = "set" then
      chk (isGlo I "len") fun h1 => chk (isGlo I "set") fun h2 => chk (!isStar a) fun h3 => (r.e I a).map fun e => ⟨.bf .setlen (.e e.ir), fun hI C => by rw [hx, hy]; exact se_lenset C (gl_of I hI h1) (gl_of I hI h2) (e.ok hI C) (by simpa using h3)⟩
    else cBf1 r I x p (.Call (.Name y p2) [a] [] q) pos
  | .SetComp elt [⟨tg, iter, [], 0⟩] scope pos', pos => chk (isGlo I "len") fun h1 => (cLc r I elt tg iter [] scope).map fun L => ⟨.bf .setlen (.sc L.it.ir L.t L.e.ir), fun hI C => by
      rw [hx]; exact se_lensc C (gl_of I hI h1) (L.it.ok hI C) (blk_is hI L.ok) L.ho (fun _ _ _ _ _ => sg_of hI.blk C.blk.calm C.blk.nd L.ht) (fun _ _ _ _ _ => L.e.ok hI.blk C.blk) (fun x => noSet_ok L.hs _ x)⟩
  | a, pos => cBf1 r I x p a pos
def cMnx (mx : Bool) (x : Str) (hx : x = if mx then "max" else "min") (p : Pos) : (args : List Expr) → (pos : Pos) → Option (CE cc T I (.Call (.Name x p) args [] pos))
  | [a, b], pos => chk (isGlo I x) fun h1 => chk (!isStar a) fun h2 => chk (!isStar b) fun h3 => (r.e I a).bind fun y => (r.e I b).bind fun z => some ⟨.mnx mx y.ir z.ir, fun hI C => se_mnx C (y.ok hI C) (z.ok hI C) (by simpa using h2) (by simpa using h3) (gl_of I hI h1) hx⟩
  | _, _ => none
def cBlt (x : Str) (p : Pos) : (args : List Expr) → (kws : List Keyword) → (pos : Pos) → Option (CE cc T I (.Call (.Name x p) args kws pos))
  | args, [], pos => if h : x = "isinstance" then cIsi r I x h p args pos else if h : x = "min" then cMnx r I false x (by rw [h]; rfl) p args pos else if h : x = "max" then cMnx r I true x (by rw [h]; rfl) p args pos else
      match args with
      | [a] => if h : x = "len" then cLen r I x h p a pos else cBf1 r I x p a pos
      | _ => none
  | _, _, _ => none
def findShp : List (Nat × Nat × List Str × List (Nat ⊕ D)) → Nat → Nat → List Str → Option (List (Nat ⊕ D))
  | [], _, _, _ => none
  | (f', n', ks', g) :: r, f, n, ks => if Nat.beq f f' = true ∧ Nat.beq n n' = true ∧ ks = ks' then some g else findShp r f n ks
theorem findShp_mem : ∀ {l : List (Nat × Nat × List Str × List (Nat ⊕ D))} {f n : Nat} {ks : List Str} {g : List (Nat ⊕ D)}, findShp l f n ks = some g → (f, n, ks, g) ∈ l
  | [], _, _, _, _, h => by cases h
  | (f', n', ks', g') :: r, f, n, ks, g, h => by
    unfold findShp at h
    split at h
    · rename_i q
      obtain ⟨q1, q2, q3⟩ := q
      cases h
      rw [Nat.eq_of_beq_eq_true q1, Nat.eq_of_beq_eq_true q2, q3]
      exact List.mem_cons_self
    · exact List.mem_cons_of_mem _ (findShp_mem h)
def isNil {α : Type} : List α → Bool
  | [] => true
  | _ => false
def cFn (x : Str) (f : Nat) (hf : cc.fns.lookup x = some f) (p : Pos) : (args : List Expr) → (kws : List Keyword) → (pos : Pos) → Option (CE cc T I (.Call (.Name x p) args kws pos))
  | [], [], pos => chk (isGlo I x) fun hg => chk (nodbg x) fun hd => got T.fns[f]? fun fn hfn => chk (Nat.beq fn.np 0) fun _ => chk (!fn.kw) fun hk => some ⟨.call f .nil, fun hI C => se_call0 C (gl_of I hI hg) hf hfn (by simpa using hk) (nodbg1 hd)⟩
  | e :: es, kws, pos => chk (isGlo I x) fun hg => chk (nodbg x) fun hd => got T.fns[f]? fun fn hfn => (cEs r I (e :: es)).bind fun a =>
      match Nat.beq fn.np (e :: es).length, kws with
      | true, [] => chk (!fn.kw) fun hk => some ⟨.call f a.ir, fun hI C => se_call C (a.ok hI C) a.ns (gl_of I hI hg) hf hfn (by simpa using hk) (nodbg1 hd)⟩
      | _, kws => (cKs r I kws).bind fun b => got (findShp cc.shp f (e :: es).length b.ks) fun g hg2 => chk (Nat.beq g.length fn.np) fun hl => some ⟨.callS f (a.ir.app b.ir) g, fun hI C =>
          se_callS C (a.ok hI C) (b.ok hI C) a.ns b.kw (gl_of I hI hg) hf hfn (findShp_mem hg2) (Nat.eq_of_beq_eq_true hl) (nodbg1 hd) (a.len _) (b.len _)⟩
  | _, _, _ => none
def cMk (x : Str) (c : Nat) (hc : cc.cls.lookup x = some c) (p : Pos) : (args : List Expr) → (kws : List Keyword) → (pos : Pos) → Option (CE cc T I (.Call (.Name x p) args kws pos))
  | e :: es, kws, pos => chk (isGlo I x) fun hg => chk (nodbg x) fun hd => got T.cls[c]? fun cd hcd => got (lku cd.meths iInit) fun f hi => got T.fns[f]? fun fn hfn => (cEs r I (e :: es)).bind fun a =>
      match Nat.beq fn.np ((e :: es).length + 1), kws with
      | true, [] => chk (!fn.kw) fun hk => some ⟨.make c a.ir, fun hI C => se_make C (a.ok hI C) a.ns (gl_of I hI hg) hc hcd hi hfn (by simpa using hk) (nodbg1 hd)⟩
      | _, kws => (cKs r I kws).bind fun b => got (findShp cc.shp f (e :: es).length b.ks) fun g hg2 => chk (Nat.beq (g.length + 1) fn.np) fun hl => some ⟨.makeS c (a.ir.app b.ir) g, fun hI C =>
          se_makeS C (a.ok hI C) (b.ok hI C) a.ns b.kw (gl_of I hI hg) hc hcd hi hfn (findShp_mem hg2) (Nat.eq_of_beq_eq_true hl) (nodbg1 hd) (a.len _) (b.len _)⟩
  | _, _, _ => none
def cCallN (x : Str) (p : Pos) (args : List Expr) (kws : List Keyword) (pos : Pos) : Option (CE cc T I (.Call (.Name x p) args kws pos)) :=
  match hf : cc.fns.lookup x with
  | some f => cFn r I x f hf p args kws pos
  | none => match hc : cc.cls.lookup x with
    | some c => cMk r I x c hc p args kws pos
    | none => cBlt r I x p args kws pos
def cMeth (o : Expr) (x : Str) (apos : Pos) (args : List Expr) (pos : Pos) : Option (CE cc T I (.Call (.Attribute o x apos) args [] pos)) :=
  (r.e I o).bind fun a => (cEs r I args).bind fun b => chk (noSuper o) fun h1 => chk (apos.endLine == pos.line) fun h2 => chk (Nat.blt args.length 30) fun h3 => got (ixOfN cc.nms x) fun m hm => chk (!Nat.beq m iInit) fun h4 =>
    some ⟨.meth a.ir m b.ir, fun hI C => se_meth C (a.ok hI C) (b.ok hI C) b.ns (by unfold Nat.blt at h3; exact Nat.le_of_ble_eq_true h3) h1 h2 (ixOfN_at hm) (fun z => by rw [z] at h4; cases h4) b.nl⟩
def cM1 (x : Str) (o : Expr) (apos : Pos) (e : Expr) (pos : Pos) : Option (CE cc T I (.Call (.Attribute o x apos) [e] [] pos)) :=
  (r.e I o).bind fun a => (r.a I e).bind fun b => chk (noSuper o) fun h1 => chk (apos.endLine == pos.line) fun h2 => chk (!isStar e) fun h3 =>
    if h : x = "append" then some ⟨.mt .append a.ir b.ir, fun hI C => by rw [h]; exact se_append (a.ok hI C) (b.ok hI C) h1 (by simpa using h3) h2⟩ else
    if h : x = "extend" then some ⟨.mt .extend a.ir b.ir, fun hI C => by rw [h]; exact se_extend (a.ok hI C) (b.ok hI C) h1 (by simpa using h3) h2⟩ else
    if h : x = "index" then some ⟨.mt .index a.ir b.ir, fun hI C => by rw [h]; exact se_index C (a.ok hI C) (b.ok hI C) h1 (by simpa using h3) h2⟩ else none
def cM0 (x : Str) (o : Expr) (apos : Pos) (pos : Pos) : Option (CE cc T I (.Call (.Attribute o x apos) [] [] pos)) :=
  (r.e I o).bind fun a => chk (noSuper o) fun h1 => chk (apos.endLine == pos.line) fun h2 =>
    if h : x = "pop" then some ⟨.mt0 .pop a.ir, fun hI C => by rw [h]; exact se_pop (a.ok hI C) h1 h2⟩ else
    if h : x = "clear" then some ⟨.mt0 .clear a.ir, fun hI C => by rw [h]; exact se_clear (a.ok hI C) h1 h2⟩ else none
def cCall : (f : Expr) → (args : List Expr) → (kws : List Keyword) → (pos : Pos) → Option (CE cc T I (.Call f args kws pos))
  | .Name x p, args, kws, pos => cCallN r I x p args kws pos
  | .Attribute o x apos, args, [], pos => match ixOfN cc.nms x, args with
    | some _, args => cMeth r I o x apos args pos
    | none, [] => cM0 r I x o apos pos
    | none, [e] => cM1 r I x o apos e pos
    | none, _ => none
  | _, _, _, _ => none
/-- all expressions -/
def cE : (e : Expr) → Option (CE cc T I e)
  | .Name x pos => cName I x pos
  | .Constant c j pos => got (cD c) fun d h => some ⟨.con d, fun _ _ => se_con h⟩
  | .Tuple es j pos => (cEs r I es).bind fun x => chk (Nat.ble es.length 1000) fun h => some ⟨.tup x.ir, fun hI C => se_tup (x.ok hI C) (Nat.le_of_ble_eq_true h) (x.len _)⟩
  | .List es pos => (r.a I (.List es pos)).map fun x => ⟨.new x.ir, fun hI C => se_new (x.ok hI C)⟩
  | .ListComp elt gs scope pos => (r.a I (.ListComp elt gs scope pos)).map fun x => ⟨.new x.ir, fun hI C => se_new (x.ok hI C)⟩
  | .BinOp a op b pos => cBin r I a op b pos
  | .UnaryOp .Not a pos => (r.e I a).map fun x => ⟨.nt x.ir, fun hI C => se_nt (x.ok hI C)⟩
  | .UnaryOp .USub a pos => (r.e I a).map fun x => ⟨.neg x.ir, fun hI C => se_neg (x.ok hI C)⟩
  | .BoolOp .And es pos => cAnd r I pos es
  | .BoolOp .Or es pos => cOr r I pos es
  | .IfExp t a b pos => (r.t I t).bind fun c => (r.e I a).bind fun x => (r.e I b).bind fun y => some ⟨.ite c.ir x.ir y.ir, fun hI C => se_ite (c.ok hI C) (x.ok hI C) (y.ok hI C)⟩
  | .Compare a [op] [b] pos => cCmp r I a op b pos
  | .Compare a [op, op'] [b, c] pos => cChain r I a op op' b c pos
  | .Attribute a x pos => (r.e I a).bind fun y => chk (noSuper a) fun h => got (ixOfN cc.nms x) fun f hf => some ⟨.attr y.ir f, fun hI C => se_attr C (y.ok hI C) h (ixOfN_at hf)⟩
  | .Subscript a (.Slice lo hi none p2) pos => (r.a I a).bind fun x => (cO r I lo).bind fun l => (cO r I hi).bind fun h => some ⟨.slc x.ir l.ir h.ir, fun hI C => se_slc (x.ok hI C) (l.ok hI C) (h.ok hI C)⟩
  | .Subscript a b pos => (r.a I a).bind fun x => (r.e I b).bind fun y => chk (notSlice b) fun h => some ⟨.item x.ir y.ir, fun hI C => se_item C (x.ok hI C) (y.ok hI C) h⟩
  | .Call f args kws pos => cCall r I f args kws pos
  | _ => none
/-- tests -/
def cVal (e : Expr) : Option (CT cc T I e) := (r.e I e).bind fun x => chk (plainT e) fun h => some ⟨.t x.ir, fun hI C => sc_val (x.ok hI C) h⟩
def cT : (e : Expr) → Option (CT cc T I e)
  | .UnaryOp .Not a pos => (r.t I a).map fun x => ⟨.not x.ir, fun hI C => sc_not (x.ok hI C)⟩
  | .BoolOp .And es pos => (cAndT r I pos es).map fun x => ⟨x.ir, fun hI C => (x.ok hI C).pt⟩
  | .BoolOp .Or es pos => (cOrT r I pos es).map fun x => ⟨x.ir, fun hI C => (x.ok hI C).pt⟩
  | .Compare a [op] [b] pos => cCmpT r I a op b pos
  | .Compare a [op, op'] [b, c] pos => cChainT r I a op op' b c pos
  | e => cVal r I e
def cIa (tg e : Expr) : Option (CI cc T I tg e) := (r.a I e).map fun x => ⟨.a x.ir, fun hI C => si_a (x.ok hI C)⟩
def cRng (tg : Expr) (p pos : Pos) : (args : List Expr) → Option (CI cc T I tg (.Call (.Name "range" p) args [] pos))
  | [a] => chk (isGlo I "range") fun h1 => chk (!isStar a) fun h2 => (r.e I a).map fun x => ⟨.rng (.con (.int 0)) x.ir, fun hI C => si_rng1 C (gl_of I hI h1) (x.ok hI C) (by simpa using h2)⟩
  | [a, b] => chk (isGlo I "range") fun h1 => chk (!isStar a) fun h2 => chk (!isStar b) fun h3 => (r.e I a).bind fun x => (r.e I b).bind fun y => some ⟨.rng x.ir y.ir, fun hI C => si_rng2 C (gl_of I hI h1) (x.ok hI C) (y.ok hI C) (by simpa using h2) (by simpa using h3)⟩
  | [a, b, c] => chk (isGlo I "range") fun h1 => chk (!isStar a) fun h2 => chk (!isStar b) fun h3 => chk (!isStar c) fun h4 => (r.e I a).bind fun x => (r.e I b).bind fun y => (r.e I c).bind fun z =>
      some ⟨.rng3 x.ir y.ir z.ir, fun hI C => si_rng3 C (gl_of I hI h1) (x.ok hI C) (y.ok hI C) (z.ok hI C) (by simpa using h2) (by simpa using h3) (by simpa using h4)⟩
  | _ => none
/-- what loops walk -/
def cI : (tg e : Expr) → Option (CI cc T I tg e)
  | tg, .Call (.Name x p) args [] pos => if h : x = "range" then (cRng r I tg p pos args).map fun y => ⟨y.ir, fun hI C => by rw [h]; exact y.ok hI C⟩ else
    match tg, args with
    | .Tuple elts kk tpos, [a] => if h : x = "enumerate" then chk (isGlo I "enumerate") fun h1 => chk (!isStar a) fun h2 => (r.a I a).map fun y => ⟨.enum y.ir, fun hI C => by rw [h]; exact si_enum C (gl_of I hI h1) (y.ok hI C) (by simpa using h2)⟩
        else cIa r I (.Tuple elts kk tpos) (.Call (.Name x p) [a] [] pos)
    | .Tuple elts kk tpos, [a, b] => if h : x = "zip" then chk (isGlo I "zip") fun h1 => chk (!isStar a) fun h2 => chk (!isStar b) fun h3 => (r.a I a).bind fun y => (r.a I b).bind fun z => some ⟨.zip y.ir z.ir, fun hI C => by rw [h]; exact si_zip C (gl_of I hI h1) (y.ok hI C) (z.ok hI C) (by simpa using h2) (by simpa using h3)⟩
        else cIa r I (.Tuple elts kk tpos) (.Call (.Name x p) [a, b] [] pos)
    | tg, args => cIa r I tg (.Call (.Name x p) args [] pos)
  | tg, e => cIa r I tg e
end
/-- by fuel -/
def rec (cc : CC) (T : Tb) : Nat → Rc cc T
  | 0 => ⟨fun _ _ => none, fun _ _ => none, fun _ _ => none, fun _ _ _ => none⟩
  | n + 1 => ⟨fun I e => cE (rec cc T n) I e, fun I e => cA (rec cc T n) I e, fun I e => cT (rec cc T n) I e, fun I tg e => cI (rec cc T n) I tg e⟩
end DL

set_option linter.all false
set_option maxRecDepth 100000
set_option maxHeartbeats 2000000
set_option autoImplicit false
/-! DL19M: several targets at once. -/
namespace DL
open PySem PySem.Spec PyProof.Rows L2

def gAttr (K : PySem.W.Frag) (o : Nat) (f : Str) : TG := fun v σ H Q => ∃ a C dx fs, σ[o]? = some (some (.ref a)) ∧ H a = some (.ins C dx fs) ∧ L2.Cls K C ∧ NoAttr K C f ∧ fs.length < 1000 ∧ Q σ (upd H a (.ins C dx (L2.putF f v fs)))
section
variable {X : Cx}
theorem pg_attr {o : Nat} {x f : Str} {pos pos' : Pos} (ho : X.N[o]? = some x) (hv : Vis X.env.scope x) (hd : (x == ("__debug__" : Str)) = false) (hc : (x == ("__classdict__" : Str)) = false) : PG X (.Attribute (.Name x pos') f pos) (gAttr X.K o f) := by
  refine ⟨fun pins s σ H v u Q I r h => ?_⟩
  obtain ⟨a, C, dx, fs, h1, h2, h3, h4, h5, q⟩ := h
  rw [assign_Attribute]
  refine wpAny_bind (wpAny_holding (thn ((pe_var (X := X) ho hv hd hc).run pins s σ H (fun y H1 => y = .ref a ∧ H1 = H) I ⟨_, h1, rfl, rfl⟩) fun ov s1 ⟨y, H1, I1, r1, e1, e2⟩ => ?_))
  subst e1 e2
  obtain rfl : ov = Value.ref a := r1
  refine wpAny_bind (wpAny_standAt (wpAny_bind (wpAny_holding ?_)))
  exact setattr_ok I1 h2 h3 h4 h5 r fun s3 I3 => wpAny_release ⟨σ, _, I3, q⟩
end
/-- targets: names, attributes of names -/
def mixT (cc : CC) (I : Inf) : List Expr → Option (List (Nat ⊕ (Nat × Nat)))
  | [] => some []
  | .Name x _ :: es => (match stoN I x, mixT cc I es with
    | some i, some ts => some (.inl i :: ts)
    | _, _ => none)
  | .Attribute (.Name x _) f _ :: es => (match isVis I x && nodbg x, ixOfN I.N x, ixOfN cc.nms f, mixT cc I es with
    | true, some o, some i, some ts => some (.inr (o, i) :: ts)
    | _, _, _, _ => none)
  | _ => none
section
variable {cc : CC} {T : Tb} {cl : Orc} {N : Nm} {W : WX} {k : Nat} {X : Cx} {I : Inf}
/-- behind all stores -/
def mixQ (K : PySem.W.Frag) (N : Nm) (r : RS) (ρ : List Addr) (H : Hp) (Q : L2.St → Hp → Prop) : Prop := match r with
  | .ok (.nx Γ) S => ∀ σ' H' ρ', Ext K ρ ρ' H H' → MS K ρ' H' N S → RelE K ρ' H' Γ σ' → Q σ' H'
  | _ => False
theorem mixQ.mono {K : PySem.W.Frag} {r : RS} {ρ ρ1 : List Addr} {H H1 : Hp} {Q : L2.St → Hp → Prop} (h : mixQ K N r ρ H Q) (e : Ext K ρ ρ1 H H1) : mixQ K N r ρ1 H1 Q := by
  cases r with
  | ok f S => cases f with
    | nx Γ => exact fun σ' H' ρ' e' ms rel => h σ' H' ρ' (e.trans e') ms rel
    | _ => exact h
  | _ => exact h
def gMix (K : PySem.W.Frag) (T : Tb) (N : Nm) (ts : List (Nat ⊕ (Nat × Nat))) : TGs := fun vs σ H Q => ∃ ρ Γ S ds, RelE K ρ H Γ σ ∧ MS K ρ H N S ∧ Reps K ρ H vs ds ∧ mixQ K N (mixL T ts ds Γ S) ρ H Q
theorem rel_set {K : PySem.W.Frag} {ρ : List Addr} {H : Hp} {Γ : Ev} {σ : L2.St} {i : Nat} {v : V} {d : D} (rel : RelE K ρ H Γ σ) (r : Rep K ρ H v d) : RelE K ρ H (Γ.set i (some d)) (σ.set i (some v)) := by
  refine ⟨by simp [rel.1], fun j x hj => ?_⟩
  by_cases hij : i = j
  · subst hij
    have hlt : i < Γ.length := by
      have := (List.getElem?_eq_some_iff.mp hj).1
      simpa using this
    rw [List.getElem?_set_self hlt] at hj
    cases hj
    exact ⟨v, List.getElem?_set_self (by rw [← rel.1]; exact hlt), r⟩
  · rw [List.getElem?_set_ne hij] at hj ⊢
    exact rel.2 j x hj
theorem setAttr_inv {S S' : Sto} {x v : D} {f : Nat} (h : setAttr T S x f v = some S') : ∃ n c fs, x = .ref n ∧ S[n]? = some (.ins c fs) ∧ fs.length < 900 ∧ fldOk T c f = true ∧ S' = S.set n (.ins c (putF f v fs)) := by
  unfold setAttr at h
  split at h
  · rename_i n
    split at h
    · rename_i c fs hS
      split at h
      · rename_i hc
        simp only [Bool.and_eq_true, decide_eq_true_eq] at hc
        cases h
        exact ⟨n, c, fs, rfl, hS, hc.1, hc.2, rfl⟩
      · cases h
    · cases h
  · cases h
theorem mixT_ok (C : Cok cc T cl N W k X) (hI : I.Is X) : ∀ {es : List Expr} {ts : List (Nat ⊕ (Nat × Nat))}, mixT cc I es = some ts → PGs X es (gMix X.K T N ts) ∧ (assignEach es X.env).length = ts.length ∧ (assignEach es X.env).findIdx? (·.1) = none
  | [], ts, h => by
    cases h
    refine ⟨⟨fun pins s σ H vs us Q I r q => pgs_nil.run pins s σ H vs us Q I r ?_⟩, rfl, rfl⟩
    obtain ⟨ρ, Γ, S, ds, rel, ms, rs, p⟩ := q
    cases rs with
    | nil => exact ⟨rfl, p σ H ρ .refl ms rel⟩
    | cons _ _ => exact (show False from p).elim
  | e :: es, ts, h => by
    cases e with
    | Name x pos =>
      simp only [mixT] at h
      cases h1 : stoN I x with
      | none => rw [h1] at h; cases h
      | some i =>
        cases h2 : mixT cc I es with
        | none => rw [h1, h2] at h; cases h
        | some ts' =>
          rw [h1, h2] at h
          cases h
          obtain ⟨g1, g2, g3⟩ := mixT_ok C hI h2
          refine ⟨⟨fun pins s σ H vs us Q I' r q => (pgs_cons (pg_sto hI C.nd h1) g1).run pins s σ H vs us Q I' r ?_⟩, ?_, ?_⟩
          · obtain ⟨ρ, Γ, S, ds, rel, ms, rs, p⟩ := q
            cases rs with
            | nil => exact (show False from p).elim
            | cons r1 r2 => exact ⟨_, _, rfl, ρ, _, S, _, rel_set rel r1, ms, r2, p⟩
          · show (assignEach es X.env).length + 1 = _
            rw [g2]; rfl
          · show List.findIdx? (·.1) ((false, _) :: assignEach es X.env) = none
            rw [List.findIdx?_cons]
            simp only [g3]
            rfl
    | Attribute o f pos =>
      cases o with
      | Name x pos' =>
        simp only [mixT] at h
        cases h0 : (isVis I x && nodbg x) with
        | false => rw [h0] at h; cases h
        | true =>
          cases h1 : ixOfN I.N x with
          | none => rw [h0, h1] at h; cases h
          | some oi =>
            cases h3 : ixOfN cc.nms f with
            | none => rw [h0, h1, h3] at h; cases h
            | some fi =>
              cases h2 : mixT cc I es with
              | none => rw [h0, h1, h3, h2] at h; cases h
              | some ts' =>
                rw [h0, h1, h3, h2] at h
                cases h
                simp only [Bool.and_eq_true] at h0
                obtain ⟨g1, g2, g3⟩ := mixT_ok C hI h2
                obtain ⟨hfn, hfe⟩ := C.ko.nms fi f (ixOfN_at h3)
                refine ⟨⟨fun pins s σ H vs us Q I' r q => (pgs_cons (pg_attr (o := oi) (by rw [hI.N]; exact ixOfN_at h1) (vis_of I hI h0.1) (nodbg1 h0.2) (nodbg2 h0.2)) g1).run pins s σ H vs us Q I' r ?_⟩, ?_, ?_⟩
                · obtain ⟨ρ, Γ, S, ds, rel, ms, rs, p⟩ := q
                  cases rs with
                  | nil => exact (show False from p).elim
                  | @cons w d ws ds r1 r2 =>
                    simp only [mixL] at p
                    cases hg : Γ[oi]? with
                    | none => rw [hg] at p; exact (show False from p).elim
                    | some ox =>
                      cases ox with
                      | none => rw [hg] at p; exact (show False from p).elim
                      | some x =>
                        rw [hg] at p
                        simp only at p
                        cases hs : setAttr T S x fi d with
                        | none => rw [hs] at p; exact (show False from p).elim
                        | some S' =>
                          rw [hs] at p
                          simp only at p
                          obtain ⟨n, c, fs, rfl, hS, hl, hfl, rfl⟩ := setAttr_inv hs
                          obtain ⟨v, hv1, hv2⟩ := rel.2 oi _ hg
                          cases hv2 with
                          | @ref _ a hr =>
                            obtain ⟨ob, hob, ro⟩ := ms.lookup hr
                            rw [hS] at hob; cases hob
                            obtain ⟨dx, gs, ha, hdx, hfs⟩ := ro
                            obtain ⟨cd, hcd, hmem⟩ := fldOk_ok hfl
                            refine ⟨_, _, rfl, a, _, dx, gs, hv1, ha, (C.ko.cls c cd hcd).cl, ?_, by rw [hfs.length]; omega, ?_⟩
                            · have := C.ko.fld c cd fi hcd hmem
                              rw [hfe] at this
                              exact this
                            · have hin := List.mem_of_getElem? hr
                              have ex := Ext.wr (K := X.K) (o := .ins (N.ca c) dx (L2.putF f w gs)) ms hin
                              have ms' : MS X.K ρ (upd H a (.ins (N.ca c) dx (L2.putF f w gs))) N (S.set n (.ins c (putF fi d fs))) := by
                                refine ms.set hr ⟨dx, _, upd_same, ?_, ?_⟩
                                · rw [upd_ne (fun z => by subst z; rw [ha] at hdx; cases hdx)]; exact hdx
                                · have := Fs.mono ex (Fs.put C.ko.inj hfn r1 hfs)
                                  rw [hfe] at this
                                  exact this
                              exact ⟨ρ, Γ, _, ds, rel.mono ex, ms', r2.mono ex, p.mono ex⟩
                · show (assignEach es X.env).length + 1 = _
                  rw [g2]; rfl
                · show List.findIdx? (·.1) ((false, _) :: assignEach es X.env) = none
                  rw [List.findIdx?_cons]
                  simp only [g3]
                  rfl
      | _ => cases h
    | _ => cases h
theorem ss_mix (C : Cok cc T cl N W k X) (hI : I.Is X) {es : List Expr} {ts : List (Nat ⊕ (Nat × Nat))} {kk : Nat} {e : Expr} {ie : E} {pos tp : Pos} (h : mixT cc I es = some ts) (he : SE N W X e (ev T cl ie)) (hn : noComp e = true) (hw : swappedStores [.Tuple es kk tp] e X.env = pure none) :
    SS N W X (.Assign [.Tuple es kk tp] e pos) (exec T cl (.mix ts ie)) := by
  obtain ⟨g1, g2, g3⟩ := mixT_ok C hI h
  refine psImp (ps_asg he (pg_tup C.calm g1 g2 g3) (swaps_no hn (some (.Tuple es kk tp)) pos.line X.env) hw) fun D σ H hq => ?_
  obtain ⟨ρ, Γ, S, rel, ms, p⟩ := hq
  unfold exec at p
  refine stepS rel ms p fun d S1 v H1 ρ1 _ e1 ms1 rel1 r1 p1 => ?_
  cases r1 with
  | @tup a vs ds sq rs =>
    have p2 : PstS X.K N W (mixL T ts ds Γ S1) ρ1 H1 D := p1
    have hlen : ∀ (ts : List (Nat ⊕ (Nat × Nat))) (ds : List DL.D) (Γ : Ev) (S : Sto), mixL T ts ds Γ S ≠ .stuck → ds.length = ts.length ∧ ∃ Γ' S', mixL T ts ds Γ S = .ok (.nx Γ') S' := by
      intro ts
      induction ts with
      | nil =>
        intro ds Γ S hne
        cases ds with
        | nil => exact ⟨rfl, Γ, S, rfl⟩
        | cons _ _ => exact absurd rfl hne
      | cons t ts ih =>
        intro ds Γ S hne
        cases ds with
        | nil => cases t <;> exact absurd rfl hne
        | cons d ds =>
          cases t with
          | inl i =>
            obtain ⟨h1, h2⟩ := ih ds (Γ.set i (some d)) S hne
            exact ⟨by simp [h1], h2⟩
          | inr of =>
            obtain ⟨o, f⟩ := of
            simp only [mixL] at hne ⊢
            cases hg : Γ[o]? with
            | none => rw [hg] at hne; exact absurd rfl hne
            | some ox =>
              cases ox with
              | none => rw [hg] at hne; exact absurd rfl hne
              | some x =>
                rw [hg] at hne
                simp only at hne ⊢
                cases hs : setAttr T S x f d with
                | none => rw [hs] at hne; exact absurd rfl hne
                | some S' =>
                  rw [hs] at hne
                  simp only at hne ⊢
                  obtain ⟨h1, h2⟩ := ih ds Γ S' hne
                  exact ⟨by simp [h1], h2⟩
    have hne : mixL T ts ds Γ S1 ≠ .stuck := fun z => by rw [z] at p2; exact p2
    obtain ⟨hl, Γ', S', hm⟩ := hlen ts ds Γ S1 hne
    refine ⟨a, vs, rfl, sq, by rw [rs.length]; exact hl, ρ1, Γ, S1, ds, rel1, ms1, rs, ?_⟩
    rw [hm] at p2 ⊢
    exact fun σ' H' ρ' e' ms' rel' => p2 σ' H' ρ' e' ms' rel'
  | _ => exact (show False from p1).elim
end
end DL

set_option linter.all false
set_option maxRecDepth 100000
set_option maxHeartbeats 2000000
set_option autoImplicit false
/-! DL19P: a, b = x, y. -/
namespace DL
open PySem PySem.Spec PyProof.Rows L2

def isNameE : Expr → Bool
  | .Name .. => true
  | _ => false
theorem filterMap_lt {α β : Type} {f : α → Option β} : ∀ {l : List α}, (∃ a ∈ l, f a = none) → (l.filterMap f).length < l.length
  | [], h => by obtain ⟨a, h, _⟩ := h; cases h
  | x :: l, h => by
    obtain ⟨a, ha, hf⟩ := h
    have hle := List.length_filterMap_le f l
    rcases List.mem_cons.mp ha with rfl | ha
    · rw [List.filterMap_cons, hf]; simp only [List.length_cons]; omega
    · have ih := filterMap_lt ⟨a, ha, hf⟩
      cases hx : f x with
      | none => rw [List.filterMap_cons, hx]; simp only [List.length_cons]; omega
      | some b => rw [List.filterMap_cons, hx]; simp only [List.length_cons]; omega
/-- no exchange of stores -/
theorem swapped_none {es vs : List Expr} {kk k : Nat} {tp p : Pos} {env : Env} (h : (es.any fun e => !isNameE e) = true ∨ vs.all (foldedForSure 8) = true ∨ (es.length ≠ 2 ∧ es.length ≠ 3)) : swappedStores [.Tuple es kk tp] (.Tuple vs k p) env = pure none := by
  unfold swappedStores
  simp only
  by_cases c1 : (!(es.length == 2 || es.length == 3) || vs.length != es.length || env.blockKind != .function) = true
  · rw [if_pos c1]
  · rw [if_neg c1]
    rcases h with h | h | h
    · split
      · rfl
      · try simp only [pure_bind]
        rw [if_pos]
        simp only [Bool.or_eq_true]
        left
        obtain ⟨e, he, hn⟩ := List.any_eq_true.mp h
        have := filterMap_lt (f := fun e => (match e with
          | .Name id pos => if env.kindOf id == some .local && pos.line == ((es.head?.map (·.pos.line)).getD 0) then some id else none
          | _ => none : Option Str)) (l := es) ⟨e, he, by cases e <;> first | rfl | cases hn⟩
        rw [bne_iff_ne]
        exact Nat.ne_of_lt this
    · split
      · rfl
      · try simp only [pure_bind]
        split
        · rfl
        · simp only [h, if_true]
    · exfalso
      simp only [Bool.or_eq_true, Bool.not_eq_true', Bool.or_eq_false_iff, beq_eq_false_iff_ne] at c1
      exact c1 (.inl (.inl h))
theorem star_any2 {vs : List Expr} (h : vs.all (fun e => !isStar e) = true) : (vs.any fun | .Starred .. => true | _ => false) = false := by
  rw [List.any_eq_false]
  intro e he
  have := List.all_eq_true.mp h e he
  cases e <;> first | exact Bool.false_ne_true | cases this
theorem swapped_two {x y : Str} {px py tp p : Pos} {a b : Expr} {kk k : Nat} {env : Env} (hk : env.blockKind = .function) (hx : env.kindOf x = some .local) (hy : env.kindOf y = some .local) (hl : (py.line == px.line) = true) (hne : x ≠ y) (hs : [a, b].all (fun e => !isStar e) = true) (hf : [a, b].all (foldedForSure 8) = false) (hc : [a, b].all (constantsAlone 8) = false) :
    swappedStores [.Tuple [.Name x px, .Name y py] kk tp] (.Tuple [a, b] k p) env = pure (some [x, y]) := by
  have hs' := star_any2 hs
  unfold swappedStores
  simp only [List.length_cons, List.length_nil, hk]
  rw [if_neg (by decide)]
  split
  · rename_i z
    exact absurd (hs'.symm.trans z) Bool.false_ne_true
  · simp only [List.head?_cons, Option.map_some, Option.getD_some, Expr.pos, List.filterMap_cons, List.filterMap_nil, hx, hy, beq_self_eq_true, Bool.true_and, if_true, hl]
    rw [if_neg ?_, hf, hc]
    · rfl
    · simp [List.eraseDups_cons, hne, Ne.symm hne]
theorem q_tup {T : Tb} {cl : Orc} {irs : Es} {is : List Nat} {Γ : Ev} {S : Sto} : RS.of (ev T cl (.tup irs) Γ S) Γ (fun d S => RS.opt (asg (.tp is) d Γ) S) = RS.of (evs T cl irs Γ S) Γ fun ds S => RS.opt (setAll is ds Γ) S := by
  unfold ev
  cases evs T cl irs Γ S <;> rfl
section
variable {cc : CC} {T : Tb} {cl : Orc} {N : Nm} {W : WX} {k : Nat} {X : Cx} {I : Inf}
def swTwo (I : Inf) (x y : Str) (px py : Pos) (a b : Expr) : Bool := decide (I.sc.kind = .function) && (decide (I.sc.names.lookup x = some .local) && (decide (I.sc.names.lookup y = some .local) && ((py.line == px.line) && (!decide (x = y) && ([a, b].all (fun e => !isStar e) && (!([a, b].all (foldedForSure 8)) && !([a, b].all (constantsAlone 8))))))))
theorem ss_par2 (C : Cok cc T cl N W k X) (hI : I.Is X) {x y : Str} {px py tp p pos : Pos} {a b : Expr} {kk k2 i j : Nat} {irs : Es} (h1 : ixOfN I.N x = some i) (h2 : ixOfN I.N y = some j) (hs : swTwo I x y px py a b = true) (ha : SEs N W X [a, b] (evs T cl irs)) :
    SS N W X (.Assign [.Tuple [.Name x px, .Name y py] kk tp] (.Tuple [a, b] k2 p) pos) (exec T cl (.set (.tp [i, j]) (.tup irs))) := by
  unfold swTwo at hs
  simp only [Bool.and_eq_true, decide_eq_true_eq, Bool.not_eq_true', decide_eq_false_iff_not] at hs
  obtain ⟨s1, s2, s3, s4, s5, s6, s7, s8⟩ := hs
  have e1 : X.N[i]? = some x := by rw [hI.N]; exact ixOfN_at h1
  have e2 : X.N[j]? = some y := by rw [hI.N]; exact ixOfN_at h2
  have hij : i ≠ j := fun z => by rw [z, e2] at e1; exact s5 (Option.some.inj e1).symm
  have l1 : X.env.scope.names.lookup x = some .local := by rw [hI.sc]; exact s2
  have l2 : X.env.scope.names.lookup y = some .local := by rw [hI.sc]; exact s3
  have hk : X.env.blockKind = .function := by unfold Env.blockKind; rw [hI.sc, s1]; rfl
  refine psImp (ps_par C.calm C.nd e1 e2 hij l1 l2 ha (swapped_two hk l1 l2 s4 s5 s6 s7 s8)) fun D σ H hq => ?_
  obtain ⟨ρ, Γ, S, rel, ms, q⟩ := hq
  unfold exec at q
  have q' : PstS X.K N W (RS.of (evs T cl irs Γ S) Γ fun ds S => RS.opt (setAll [i, j] ds Γ) S) ρ H D := by
    rw [q_tup] at q
    exact q
  refine stepS rel ms q' fun ds S1 vs H1 ρ1 _ f1 ms1 rel1 r1 p1 => ?_
  cases r1 with
  | nil => exact (show False from p1).elim
  | cons ra rs => cases rs with
    | nil => exact (show False from p1).elim
    | cons rb rs => cases rs with
      | cons _ _ => exact (show False from p1).elim
      | nil =>
        refine ⟨_, _, rfl, ?_⟩
        exact PstS.nx p1 ms1 (rel_set (rel_set rel1 ra) rb)
end
end DL

set_option linter.all false
set_option maxRecDepth 100000
set_option maxHeartbeats 2000000
set_option autoImplicit false
/-! DL19D: dict comprehensions. -/
namespace DL
open PySem PySem.Spec PyProof.Rows L2

section
variable {ks : List (Nat × List D)} {t : Tg} {fk fv : Ev → Sto → R D} {Γ : Ev}
theorem dcompL_nil {S Sf : Sto} {kvs zs : List (D × D)} (h : dcompL ks t fk fv Γ [] kvs S = .ok zs Sf) : stays S ks = true ∧ zs = kvs ∧ Sf = S := by
  unfold dcompL at h
  obtain ⟨h1, h2⟩ := gd_is h
  cases h2
  exact ⟨h1, rfl, rfl⟩
theorem dcompL_cons {x : D} {xs : List D} {S Sf : Sto} {kvs zs : List (D × D)} (h : dcompL ks t fk fv Γ (x :: xs) kvs S = .ok zs Sf) :
    stays S ks = true ∧ ∃ Γ' k S' v S'', asg t x Γ = some Γ' ∧ fk Γ' S = .ok k S' ∧ fv Γ' S' = .ok v S'' ∧ keyD k = true ∧ kvs.length < 1000 ∧ dcompL ks t fk fv Γ xs (dput k v kvs) S'' = .ok zs Sf := by
  unfold dcompL at h
  obtain ⟨h1, h2⟩ := gd_is h
  refine ⟨h1, ?_⟩
  cases ha : asg t x Γ with
  | none => rw [ha] at h2; cases h2
  | some Γ' =>
    rw [ha] at h2
    simp only at h2
    cases hk : fk Γ' S with
    | stuck => rw [hk] at h2; cases h2
    | exc _ _ _ => rw [hk] at h2; cases h2
    | ok k S' =>
      rw [hk] at h2
      simp only at h2
      cases hv : fv Γ' S' with
      | stuck => rw [hv] at h2; cases h2
      | exc _ _ _ => rw [hv] at h2; cases h2
      | ok v S'' =>
        rw [hv] at h2
        obtain ⟨h3, h4⟩ := gd_is h2
        simp only [Bool.and_eq_true] at h3
        exact ⟨Γ', k, S', v, S'', rfl, hk, hv, h3.1, Nat.le_of_ble_eq_true h3.2, h4⟩
theorem dcompL_exc : ∀ {xs : List D} {kvs : List (D × D)} {S Sf : Sto} {c : Nat} {fs : List D}, dcompL ks t fk fv Γ xs kvs S ≠ .exc c fs Sf
  | [], kvs, S, Sf, c, fs, h => by
    unfold dcompL at h
    have := gd_exc h
    cases this
  | x :: xs, kvs, S, Sf, c, fs, h => by
    unfold dcompL at h
    have h2 := gd_exc h
    cases ha : asg t x Γ with
    | none => rw [ha] at h2; cases h2
    | some Γ' =>
      rw [ha] at h2
      simp only at h2
      cases hk : fk Γ' S with
      | stuck => rw [hk] at h2; cases h2
      | exc _ _ _ => rw [hk] at h2; cases h2
      | ok k S' =>
        rw [hk] at h2
        simp only at h2
        cases hv : fv Γ' S' with
        | stuck => rw [hv] at h2; cases h2
        | exc _ _ _ => rw [hv] at h2; cases h2
        | ok v S'' =>
          rw [hv] at h2
          exact dcompL_exc (gd_exc h2)
end
section
variable {cc : CC} {T : Tb} {cl : Orc} {N : Nm} {W : WX} {k : Nat} {X : Cx} {K : PySem.W.Frag}
theorem dc_pred {it : It} {t : Tg} {ek e : E} {σ : L2.St} {H : Hp} {Q : VK} (h : tG K N W (pD K) (ev T cl (.dcomp it t ek e)) σ H Q) :
    tDc (tG K N W (pW K N) (evI T cl it)) (gT K t) (tG K N WF (pQ Bool) (tstO T cl .no)) (tG K N WF (pD K) (ev T cl ek)) (tG K N WF (pD K) (ev T cl e)) (slots t) σ H Q := by
  obtain ⟨ρ, Γ, S, rel, ms, p⟩ := h
  simp only [ev] at p
  refine step pmD rel ms p fun w S1 J H1 ρ1 q1 e1 ms1 rel1 dw p1 D hD => ?_
  clear p q1 e1 ms rel
  cases e0 : dcompL w.ks t (ev T cl ek) (ev T cl e) Γ w.xs [] S1 with
  | stuck => rw [e0] at p1; exact (show False from p1).elim
  | exc x fs S2 => exact absurd e0 dcompL_exc
  | ok total Sf =>
    rw [e0] at p1
    refine ⟨fun i m H => m = w.xs.length - i ∧ i ≤ w.xs.length ∧ ∃ ρ S acc ds, Ext K ρ1 ρ H1 H ∧ MS K ρ H N S ∧ D ∉ ρ ∧ H D = some (.dK acc) ∧ Kvs K ρ H acc ds ∧ dcompL w.ks t (ev T cl ek) (ev T cl e) Γ (w.xs.drop i) ds S = .ok total Sf, ?_, ?_⟩
    · exact ⟨_, rfl, Nat.zero_le _, ρ1, S1, [], [], Ext.tmp hD, ms1.tmp hD, ms1.fresh hD, upd_same, .nil, e0⟩
    · rintro i m H ⟨rfl, hi, ρ, S, acc, ds, e1, m, hDρ, hDH, ra, hc⟩
      by_cases hlt : i < w.xs.length
      · right
        rw [List.drop_eq_getElem_cons hlt] at hc
        obtain ⟨hst, Γ', kd, S', vd, S'', ha, hfk, hfv, hkd, hl1000, hc'⟩ := dcompL_cons hc
        refine ⟨dw.go i H ρ S hlt e1.lt m hst, fun H' => i + 1 ≤ w.xs.length ∧ ∃ ρ S acc ds, Ext K ρ1 ρ H1 H' ∧ MS K ρ H' N S ∧ D ∉ ρ ∧ H' D = some (.dK acc) ∧ Kvs K ρ H' acc ds ∧ dcompL w.ks t (ev T cl ek) (ev T cl e) Γ (w.xs.drop (i + 1)) ds S = .ok total Sf, fun H' hN => ⟨w.xs.length - (i + 1), by omega, rfl, hN⟩, fun x H' y => ?_⟩
        obtain ⟨d, hd, e2, m2, rd⟩ := dw.yld i H ρ S x H' hlt e1.lt m hst y
        have hd' : w.xs[i] = d := by
          rw [List.getElem?_eq_getElem hlt] at hd; exact Option.some.inj hd
        subst hd'
        have hDH' := e2.keep D _ hDH hDρ
        have rel' : RelE K ρ H' Γ σ := rel1.mono (e1.trans e2)
        refine ⟨ρ, Γ, w.xs[i], Γ', ⟨by rw [wipe_length]; exact rel'.1, fun j d hj q => by rw [wipe_out hj]; exact rel'.2 j d q⟩, rd, ha, fun σ2 rel2 out => ⟨?_, ?_⟩⟩
        · refine wipe_eq ?_ fun j hj => (out j hj).trans (wipe_out hj)
          rw [← rel2.1, asg_len ha, rel'.1]
        · refine ⟨ρ, Γ', S, rel2, m2, ?_⟩
          unfold tstO
          intro b' H3 ρ3 e3 m3 hb
          have hb' : b' = true := hb
          subst hb'
          have hDρ3 := e3.notin hDH' hDρ
          have hDH3 := e3.keep D _ hDH' hDρ
          rw [if_pos rfl]
          refine ⟨ρ3, Γ', S, rel2.mono e3, m3, ?_⟩
          rw [hfk]
          intro ky H4 ρ4 e4 m4 rk
          have hDρ4 := e4.notin hDH3 hDρ3
          have hDH4 := e4.keep D _ hDH3 hDρ3
          refine ⟨ρ4, Γ', S', (rel2.mono e3).mono e4, m4, ?_⟩
          rw [hfv]
          intro z H5 ρ5 e5 m5 rz
          have hDρ5 := e5.notin hDH4 hDρ4
          have hDH5 := e5.keep D _ hDH4 hDρ4
          have etot := (((e1.trans e2).trans e3).trans e4).trans e5
          obtain ⟨key, rfl, rfl⟩ := keyD_of rk hkd
          refine ⟨acc, key, rfl, hDH5, by rw [ra.length, sizeLine_eq]; omega, hlt, ρ5, S'', putK acc key z, dput (kD key) vd ds, etot.retmp hD hDH5 pln_dK, m5.retmp hDH5 pln_dK hDρ5, hDρ5, upd_same, ?_, hc'⟩
          have sq := sq_retmp (K := K) (o' := .dK (putK acc key z)) hDH5 pln_dK
          exact Kvs.put (rz.mg (fun _ _ h => h) sq) ((ra.mono (((e2.trans e3).trans e4).trans e5)).mg (fun _ _ h => h) sq)
      · left
        have hi' : i = w.xs.length := by omega
        subst hi'
        rw [List.drop_length] at hc
        obtain ⟨hst, rfl, rfl⟩ := dcompL_nil hc
        have p' : Pst K N W (pD K) (.ok (.ref Sf.length) (Sf ++ [.dic total])) ρ1 H1 σ Q := p1
        have pre : ∀ (n : Nat) (b : Addr), ρ[n]? = some b → (ρ ++ [D])[n]? = some b := fun n b e => by rw [List.getElem?_append_left (List.getElem?_eq_some_iff.mp e).1]; exact e
        refine ⟨dw.stop H ρ Sf e1.lt m hst, p' (.ref D) H (ρ ++ [D]) (e1.adopt hD) (m.adopt hDρ ⟨acc, hDH, ra.mg pre fun _ _ z => z⟩) (.ref ?_)⟩
        rw [← m.len]; simp
theorem se_dc (C : Cok cc T cl N W k X) {kx vx tg iter : Expr} {scope : Scope} {own : List (Str × Nat)} {pos : Pos} {it : It} {t : Tg} {ek e : E} (hi : SI N W X tg iter (evI T cl it)) (ok : BlkOk X.N X.env.scope scope own) (ho : own.map (·.2) = slots t)
    (hg : Blk X scope fun Y => SG Y tg t) (hk : Blk X scope fun Y => SE N WF Y kx (ev T cl ek)) (he : Blk X scope fun Y => SE N WF Y vx (ev T cl e)) (hs : ∀ x, foldedSetIterable iter X.env x = pure x) :
    SE N W X (.DictComp kx vx [⟨tg, iter, [], 0⟩] scope pos) (ev T cl (.dcomp it t ek e)) :=
  peImp (pe_dc C.calm C.nd hi ok hg (fun _ _ _ _ _ => sts_no) hk he hs) fun σ H Q h => by
    rw [ho]
    exact dc_pred h
theorem ps_setDc {i : Nat} {y : Str} {py : Pos} {kx vx tg iter : Expr} {ifs : List Expr} {scope : Scope} {own : List (Str × Nat)} {pos spos : Pos} {wi : TI} {g : TG} {tt : TT} {tk tv : TE} (hc : X.calm = true) (hN : X.N.Nodup) (hy : X.N[i]? = some y) (hyl : X.env.scope.names.lookup y = some .local)
    (hsw : swapsWith (.DictComp kx vx [⟨tg, iter, ifs, 0⟩] scope pos) (some (.Name y py)) spos.line X.env = pure true) (hi : PI X tg iter wi) (ok : BlkOk X.N X.env.scope scope own)
    (hg : Blk X scope fun Y => PG Y tg g) (ht : Blk X scope fun Y => PTs Y ifs tt) (hk : Blk X scope fun Y => PE Y kx tk) (he : Blk X scope fun Y => PE Y vx tv) (hs : ∀ x, foldedSetIterable iter X.env x = pure x) :
    PS X (.Assign [.Name y py] (.DictComp kx vx [⟨tg, iter, ifs, 0⟩] scope pos) spos) (tAsg (tDc wi g tt tk tv (own.map (·.2))) (gName i)) := by
  refine ⟨fun pins s σ H D I h => ?_⟩
  rw [exec_Assign_Name_used _ _ _ _ hsw]
  refine wpAny_bind (wpAny_standAt (wpAny_bind ?_))
  show wpAny _ X.A (do let _ ← comprehension (.DictComp kx vx [⟨tg, iter, ifs, 0⟩] scope pos) scope X.env (firstIterPos [⟨tg, iter, ifs, 0⟩] pos) newDict false (eval iter X.env) (some (assign (.Name y py) X.env))) _ _ s
  have h : tDc wi g tt tk tv (own.map (·.2)) σ H (fun x H1 => gName i x σ H1 D.nx) := h
  refine wpAny_bind (thn (dc_core (Qf := fun _ s' => SP X pins D .next s') hc hN I hi ok hg ht hk he hs h fun L C s' m H' I' q hn f => ?_) fun _ s' hq => wpAny_pure (wpAny_pure hq))
  show wpAny _ _ (assign (.Name y py) X.env (.ref L)) _ _ _
  refine wpAny_assign_Name (store_ok2 (v := V.ref L) I' hN hy (.inl hyl) rfl (fun s2 I2 ⟨a, sb, ha⟩ => ?_) (.inr hyl))
  obtain ⟨f0, f1, f2, f3, f4, f5⟩ := f
  have haC : C ≠ a := by
    rcases ha with z | z
    · rw [z]; exact f1
    · exact fun e => f4 y a z e.symm
  refine ⟨m, hn.sameBut sb haC, fun h3 sb3 => ?_⟩
  exact ⟨_, H', I2.turned (t' := s2.toks) (fun b o hb e => (sb3.2 b hb).trans e) f0 f1 f3 f4 f5, q⟩
theorem ss_setDc (C : Cok cc T cl N W k X) {i : Nat} {y : Str} {py : Pos} {kx vx tg iter : Expr} {scope : Scope} {own : List (Str × Nat)} {pos spos : Pos} {it : It} {t : Tg} {ek e : E} (hy : X.N[i]? = some y) (hyl : X.env.scope.names.lookup y = some .local)
    (hsw : swapsWith (.DictComp kx vx [⟨tg, iter, [], 0⟩] scope pos) (some (.Name y py)) spos.line X.env = pure true) (hi : SI N W X tg iter (evI T cl it)) (ok : BlkOk X.N X.env.scope scope own) (ho : own.map (·.2) = slots t)
    (hg : Blk X scope fun Y => SG Y tg t) (hk : Blk X scope fun Y => SE N WF Y kx (ev T cl ek)) (he : Blk X scope fun Y => SE N WF Y vx (ev T cl e)) (hs : ∀ x, foldedSetIterable iter X.env x = pure x) :
    SS N W X (.Assign [.Name y py] (.DictComp kx vx [⟨tg, iter, [], 0⟩] scope pos) spos) (exec T cl (.set (.nm i) (.dcomp it t ek e))) :=
  psImp (ps_setDc C.calm C.nd hy hyl hsw hi ok hg (fun _ _ _ _ _ => sts_no) hk he hs) fun D σ H h => by
    rw [ho]
    exact dc_pred (set_pred h)
end
end DL

set_option linter.all false
set_option maxRecDepth 100000
set_option maxHeartbeats 2000000
set_option autoImplicit false
/-! DL20: statements turned. -/
namespace DL
open PySem PySem.Spec PyProof.Rows L2

section
variable (cc : CC) (T : Tb)
structure CS (I : Inf) (st : Stmt) where
  ir : S
  ok : ∀ {cl : Orc} {N : Nm} {W : WX} {k : Nat} {X : Cx}, I.Is X → Cok cc T cl N W k X → PassesOwn (model X.prog X.w) X.A X.env X.xe → SS N W X st (exec T cl ir)
structure CSs (I : Inf) (sts : List Stmt) where
  ir : Ss
  ok : ∀ {cl : Orc} {N : Nm} {W : WX} {k : Nat} {X : Cx}, I.Is X → Cok cc T cl N W k X → PassesOwn (model X.prog X.w) X.A X.env X.xe → SSs N W X sts (execs T cl ir)
end
section
variable {cc : CC} {T : Tb} (r : Rc cc T) (I : Inf)
/-- name = [..]: the model's store of a comprehension -/
def swB (I : Inf) (scope : Scope) (y : Str) (py pos : Pos) : Bool := decide (I.sc.kind = .function) && decide (I.sc.names.lookup y = some .local) && (py.line == pos.line) && !(scope.names.any fun (n, k) => n == y && (k == .local || k == .cell))
theorem swB_ok {X : Cx} {I : Inf} (hI : I.Is X) {scope : Scope} {elt : Expr} {gs : List Comprehension} {y : Str} {py pos : Pos} {l : Nat} (h : swB I scope y py pos = true) : X.env.scope.names.lookup y = some .local ∧ swapsWith (.ListComp elt gs scope pos) (some (.Name y py)) l X.env = pure true := by
  unfold swB at h
  simp only [Bool.and_eq_true, decide_eq_true_eq, Bool.not_eq_true'] at h
  obtain ⟨⟨⟨h1, h2⟩, h3⟩, h4⟩ := h
  have e : X.env.scope.names.lookup y = some .local := by rw [hI.sc]; exact h2
  exact ⟨e, sw_true (by rw [hI.sc]; exact h1) e h3 h4⟩
theorem swD_ok {X : Cx} {I : Inf} (hI : I.Is X) {scope : Scope} {kx vx : Expr} {gs : List Comprehension} {y : Str} {py pos : Pos} {l : Nat} (h : swB I scope y py pos = true) : X.env.scope.names.lookup y = some .local ∧ swapsWith (.DictComp kx vx gs scope pos) (some (.Name y py)) l X.env = pure true := by
  unfold swB at h
  simp only [Bool.and_eq_true, decide_eq_true_eq, Bool.not_eq_true'] at h
  obtain ⟨⟨⟨h1, h2⟩, h3⟩, h4⟩ := h
  have e : X.env.scope.names.lookup y = some .local := by rw [hI.sc]; exact h2
  refine ⟨e, ?_⟩
  have ky : X.env.kindOf y = some .local := e
  have hb : X.env.blockKind = .function := by unfold Env.blockKind; rw [hI.sc, h1]; rfl
  unfold swapsWith
  simp only [hb, ky, h4, Expr.pos, h3]
  rfl
def swF (I : Inf) (scope : Scope) (y : Str) (py pos : Pos) : Bool := !(py.line == pos.line) || !decide (I.sc.names.lookup y = some .local) || (scope.names.any fun (n, k) => n == y && (k == .local || k == .cell))
theorem swF_ok {X : Cx} {I : Inf} (hI : I.Is X) {scope : Scope} {elt : Expr} {gs : List Comprehension} {y : Str} {py pos : Pos} {l : Nat} (h : swF I scope y py pos = true) : swapsWith (.ListComp elt gs scope pos) (some (.Name y py)) l X.env = pure false := by
  unfold swF at h
  have e : (X.env.blockKind == .function && X.env.kindOf y == some .local && py.line == (Expr.ListComp elt gs scope pos).pos.line && !(scope.names.any fun (n, k) => n == y && (k == .local || k == .cell))) = false := by
    simp only [Bool.or_eq_true, Bool.not_eq_true', decide_eq_false_iff_not] at h
    rcases h with (h | h) | h
    · have : (py.line == (Expr.ListComp elt gs scope pos).pos.line) = false := h
      rw [this]; simp
    · have : (X.env.kindOf y == some .local) = false := by
        unfold Env.kindOf
        rw [hI.sc]
        rw [beq_eq_false_iff_ne]
        exact h
      rw [this]; simp
    · rw [h]; simp
  unfold swapsWith
  show pure (X.env.blockKind == .function && X.env.kindOf y == some .local && py.line == (Expr.ListComp elt gs scope pos).pos.line && !(scope.names.any fun (n, k) => n == y && (k == .local || k == .cell))) = _
  rw [e]
theorem swFD_ok {X : Cx} {I : Inf} (hI : I.Is X) {scope : Scope} {kx vx : Expr} {gs : List Comprehension} {y : Str} {py pos : Pos} {l : Nat} (h : swF I scope y py pos = true) : swapsWith (.DictComp kx vx gs scope pos) (some (.Name y py)) l X.env = pure false := by
  unfold swF at h
  have e : (X.env.blockKind == .function && X.env.kindOf y == some .local && py.line == (Expr.DictComp kx vx gs scope pos).pos.line && !(scope.names.any fun (n, k) => n == y && (k == .local || k == .cell))) = false := by
    simp only [Bool.or_eq_true, Bool.not_eq_true', decide_eq_false_iff_not] at h
    rcases h with (h | h) | h
    · have : (py.line == (Expr.DictComp kx vx gs scope pos).pos.line) = false := h
      rw [this]; simp
    · have : (X.env.kindOf y == some .local) = false := by
        unfold Env.kindOf
        rw [hI.sc]
        rw [beq_eq_false_iff_ne]
        exact h
      rw [this]; simp
    · rw [h]; simp
  unfold swapsWith
  show pure (X.env.blockKind == .function && X.env.kindOf y == some .local && py.line == (Expr.DictComp kx vx gs scope pos).pos.line && !(scope.names.any fun (n, k) => n == y && (k == .local || k == .cell))) = _
  rw [e]
def isTupE : Expr → Bool
  | .Tuple .. => true
  | _ => false
theorem isTupE_ok {e : Expr} (h : isTupE e = false) (xs : List Expr) (k : Nat) (p : Pos) : e ≠ .Tuple xs k p := fun z => by subst z; cases h
def alt {α : Type} : Option α → Option α → Option α
  | some a, _ => some a
  | none, b => b
def cAsgL (y : Str) (py : Pos) : (elt : Expr) → (gs : List Comprehension) → (scope : Scope) → (cp pos : Pos) → Option (CS cc T I (.Assign [.Name y py] (.ListComp elt gs scope cp) pos))
  | elt, [⟨tg, iter, ifs, 0⟩], scope, cp, pos => chk (swB I scope y py cp) fun hs => got (stoN I y) fun i hi => (cLc r I elt tg iter ifs scope).map fun L => ⟨.set (.nm i) (.new (.lc L.it.ir L.t L.c.ir L.e.ir)), fun hI C _ =>
          ss_setLc C (sto_facts hI hi).1 (swB_ok (elt := elt) (gs := []) (l := 0) hI hs).1 (swB_ok hI hs).2 (L.it.ok hI C) (blk_is hI L.ok) L.ho (fun _ _ _ _ _ => sg_of hI.blk C.blk.calm C.blk.nd L.ht) (fun _ _ _ _ _ => L.c.ok hI.blk C.blk) (fun _ _ _ _ _ => L.e.ok hI.blk C.blk) (fun x => noSet_ok L.hs _ x)⟩
  | elt, [⟨tg, iter, ifs, 0⟩, ⟨tg1, iter1, ifs1, 0⟩], scope, cp, pos => chk (swB I scope y py cp) fun hs => got (stoN I y) fun i hi => (cLc2 r I elt tg iter tg1 iter1 ifs ifs1 scope).map fun L => ⟨.set (.nm i) (.new (.lc2 L.it.ir L.t L.c.ir L.it1.ir L.t1 L.c1.ir L.e.ir)), fun hI C _ =>
          ss_setLc2 C (sto_facts hI hi).1 (swB_ok (elt := elt) (gs := []) (l := 0) hI hs).1 (swB_ok hI hs).2 (L.it.ok hI C) (blk_is hI L.ok) L.ho (fun _ _ _ _ _ => sg_of hI.blk C.blk.calm C.blk.nd L.ht) (fun _ _ _ _ _ => L.c.ok hI.blk C.blk) (fun _ _ _ _ _ => L.it1.ok hI.blk C.blk)
            (fun _ _ _ _ _ => sg_of hI.blk C.blk.calm C.blk.nd L.ht1) (fun _ _ _ _ _ => L.c1.ok hI.blk C.blk) (fun _ _ _ _ _ => L.e.ok hI.blk C.blk) (fun x => noSet_ok L.hs _ x) (fun _ x => noSet_ok L.hs1 _ x)⟩
  | _, _, _, _, _ => none
def cAsgN (y : Str) (py : Pos) : (e : Expr) → (pos : Pos) → Option (CS cc T I (.Assign [.Name y py] e pos))
  | .ListComp elt gs scope cp, pos => alt (chk (swF I scope y py cp) fun hw => got (stoN I y) fun i hi => (r.e I (.ListComp elt gs scope cp)).map fun x => ⟨.set (.nm i) x.ir, fun hI C _ => ss_set C hI hi (x.ok hI C) (swF_ok hI hw)⟩) (cAsgL r I y py elt gs scope cp pos)
  | .DictComp kx vx [⟨tg, iter, [], 0⟩] scope cp, pos => alt (chk (swF I scope y py cp) fun hw => got (stoN I y) fun i hi => (cLc r I vx tg iter [] scope).bind fun L => (r.e (I.blk scope) kx).map fun q => ⟨.set (.nm i) (.dcomp L.it.ir L.t q.ir L.e.ir), fun hI C _ =>
      ss_set C hI hi (se_dc C (L.it.ok hI C) (blk_is hI L.ok) L.ho (fun _ _ _ _ _ => sg_of hI.blk C.blk.calm C.blk.nd L.ht) (fun _ _ _ _ _ => q.ok hI.blk C.blk) (fun _ _ _ _ _ => L.e.ok hI.blk C.blk) (fun x => noSet_ok L.hs _ x)) (swFD_ok hI hw)⟩) (chk (swB I scope y py cp) fun hs => got (stoN I y) fun i hi => (cLc r I vx tg iter [] scope).bind fun L => (r.e (I.blk scope) kx).map fun q => ⟨.set (.nm i) (.dcomp L.it.ir L.t q.ir L.e.ir), fun hI C _ =>
      ss_setDc C (sto_facts hI hi).1 (swD_ok (kx := kx) (vx := vx) (gs := []) (l := 0) hI hs).1 (swD_ok hI hs).2 (L.it.ok hI C) (blk_is hI L.ok) L.ho (fun _ _ _ _ _ => sg_of hI.blk C.blk.calm C.blk.nd L.ht) (fun _ _ _ _ _ => q.ok hI.blk C.blk) (fun _ _ _ _ _ => L.e.ok hI.blk C.blk) (fun x => noSet_ok L.hs _ x)⟩)
  | e, pos => got (stoN I y) fun i hi => chk (noComp e) fun hn => (r.e I e).map fun x => ⟨.set (.nm i) x.ir, fun hI C _ => ss_set C hI hi (x.ok hI C) (swaps_no hn _ _ _)⟩
def noSwap (es vs : List Expr) : Bool := (es.any fun e => !isNameE e) || vs.all (foldedForSure 8) || !(Nat.beq es.length 2 || Nat.beq es.length 3)
theorem noSwap_ok {es vs : List Expr} (h : noSwap es vs = true) : (es.any fun e => !isNameE e) = true ∨ vs.all (foldedForSure 8) = true ∨ (es.length ≠ 2 ∧ es.length ≠ 3) := by
  unfold noSwap at h
  simp only [Bool.or_eq_true, Bool.not_eq_true', Bool.or_eq_false_iff] at h
  rcases h with (h | h) | ⟨h1, h2⟩
  · exact .inl h
  · exact .inr (.inl h)
  · exact .inr (.inr ⟨(fun z => by rw [z] at h1; cases h1), (fun z => by rw [z] at h2; cases h2)⟩)
def cTup2 (x y : Str) (px py : Pos) (kk : Nat) (tp : Pos) (a b : Expr) (k2 : Nat) (p pos : Pos) : Option (CS cc T I (.Assign [.Tuple [.Name x px, .Name y py] kk tp] (.Tuple [a, b] k2 p) pos)) :=
  got (ixOfN I.N x) fun i h1 => got (ixOfN I.N y) fun j h2 => chk (swTwo I x y px py a b) fun hs => (cEs r I [a, b]).map fun v => ⟨.set (.tp [i, j]) (.tup v.ir), fun hI C _ => ss_par2 C hI h1 h2 hs (v.ok hI C)⟩
def cMix (ts : List Expr) (kk : Nat) (tp : Pos) (vs : List Expr) (k2 : Nat) (p pos : Pos) : Option (CS cc T I (.Assign [.Tuple ts kk tp] (.Tuple vs k2 p) pos)) :=
  got (mixT cc I ts) fun m hm => chk (noSwap ts vs) fun hs => (r.e I (.Tuple vs k2 p)).map fun x => ⟨.mix m x.ir, fun hI C _ => ss_mix C hI hm (x.ok hI C) rfl (swapped_none (noSwap_ok hs))⟩
def cTup : (ts : List Expr) → (kk : Nat) → (tp : Pos) → (e : Expr) → (pos : Pos) → Option (CS cc T I (.Assign [.Tuple ts kk tp] e pos))
  | [.Name x px, .Name y py], kk, tp, .Tuple [a, b] k2 p, pos => alt (cTup2 r I x y px py kk tp a b k2 p pos) (cMix r I [.Name x px, .Name y py] kk tp [a, b] k2 p pos)
  | ts, kk, tp, .Tuple vs k2 p, pos => cMix r I ts kk tp vs k2 p pos
  | ts, kk, tp, e, pos => alt (got (tgNames I ts) fun is hi => chk (noComp e) fun hn => chk (!isTupE e) fun ht => (r.e I e).map fun x => ⟨.set (.tp is) x.ir, fun hI C _ => ss_tup C hI hi (x.ok hI C) hn (isTupE_ok (by simpa using ht))⟩)
      (got (mixT cc I ts) fun m hm => chk (noComp e) fun hn => chk (!isTupE e) fun ht => (r.e I e).map fun x => ⟨.mix m x.ir, fun hI C _ => ss_mix C hI hm (x.ok hI C) hn (swapped_no (fun _ _ _ _ xs k p => isTupE_ok (by simpa using ht) xs k p) (fun _ _ z => by cases z))⟩)
def cAsg : (tgs : List Expr) → (e : Expr) → (pos : Pos) → Option (CS cc T I (.Assign tgs e pos))
  | [.Name y py], e, pos => cAsgN r I y py e pos
  | [.Tuple ts kk tp], e, pos => cTup r I ts kk tp e pos
  | [.Attribute o f p'], e, pos => got (ixOfN cc.nms f) fun i hi => chk (noComp e) fun hn => (r.e I o).bind fun x => (r.e I e).map fun y => ⟨.atr x.ir i y.ir, fun hI C _ => ss_atr C (ixOfN_at hi) (x.ok hI C) (y.ok hI C) hn⟩
  | [.Subscript o i p'], e, pos => chk (noComp e) fun hn => chk (notSlice i) fun hs => (r.e I o).bind fun x => (r.e I i).bind fun z => (r.e I e).map fun y => ⟨.itm x.ir z.ir y.ir, fun hI C _ => ss_itm C (x.ok hI C) (z.ok hI C) (y.ok hI C) hn hs⟩
  | _, _, _ => none
def cAug : (tg : Expr) → (op : Operator) → (e : Expr) → (pos : Pos) → Option (CS cc T I (.AugAssign tg op e pos))
  | .Name y py, op, e, pos => got (stoN I y) fun i hi => got (augO op) fun o ho => (r.e I e).map fun x => ⟨.aug i o x.ir, fun hI C _ => ss_aug C hI hi (x.ok hI C) ho⟩
  | .Attribute o f p', op, e, pos => got (ixOfN cc.nms f) fun i hi => got (augO op) fun o' ho => (r.e I o).bind fun x => (r.e I e).map fun y => ⟨.auga x.ir i o' y.ir, fun hI C _ => ss_auga C (ixOfN_at hi) (x.ok hI C) (y.ok hI C) ho⟩
  | _, _, _, _ => none
/-- one statement; cs: what stands inside -/
def cS1 (cs : (I : Inf) → (sts : List Stmt) → CSs cc T I sts) : (st : Stmt) → Option (CS cc T I st)
  | .Expr (.Constant (.str x) j p) pos => some ⟨.pass, fun _ _ _ => ss_doc⟩
  | .Expr e pos => chk (noComp e) fun hn => (r.e I e).map fun x => ⟨.ex x.ir, fun hI C _ => ss_ex (x.ok hI C) hn⟩
  | .Return (some e) pos => (r.e I e).map fun x => ⟨.ret x.ir, fun hI C _ => ss_ret (x.ok hI C)⟩
  | .Return none pos => some ⟨.retN, fun _ _ _ => ss_retN⟩
  | .If c a b pos => (r.t I c).map fun x => ⟨.ife x.ir (cs I a).ir (cs I b).ir, fun hI C hp => ss_if (x.ok hI C) ((cs I a).ok hI C hp) ((cs I b).ok hI C hp)⟩
  | .For tg it b [] pos => (r.i I tg it).bind fun x => got (cmpTg I tg) fun t ht => chk (noSet it) fun hs => some ⟨.for t x.ir (cs I b).ir, fun hI C hp => ss_for C hp (x.ok hI C) (sg_of hI C.calm C.nd ht) ((cs I b).ok hI C hp) (fun x => noSet_ok hs _ x)⟩
  | .While c b [] pos => (r.t I c).map fun x => ⟨.whl x.ir (cs I b).ir, fun hI C hp => ss_whl hp (x.ok hI C) ((cs I b).ok hI C hp)⟩
  | .Assign tgs e pos => cAsg r I tgs e pos
  | .AugAssign tg op e pos => cAug r I tg op e pos
  | .Pass pos => some ⟨.pass, fun _ _ _ => ss_pass⟩
  | .Break pos => some ⟨.brk, fun _ _ _ => ss_brk⟩
  | .Continue pos => some ⟨.cont, fun _ _ _ => ss_cont⟩
  | _ => none
end
section
variable {cc : CC} {T : Tb}
def cS (r : Rc cc T) (cs : (I : Inf) → (sts : List Stmt) → CSs cc T I sts) (I : Inf) (st : Stmt) : CS cc T I st := match cS1 r I cs st with
  | some x => x
  | none => ⟨.no, fun _ _ _ => ss_no⟩
def cSsL {I : Inf} (f : (st : Stmt) → CS cc T I st) : (sts : List Stmt) → CSs cc T I sts
  | [] => ⟨.nil, fun _ _ _ => sss_nil⟩
  | st :: sts => ⟨.cons (f st).ir (cSsL f sts).ir, fun hI C hp => sss_cons ((f st).ok hI C hp) ((cSsL f sts).ok hI C hp)⟩
end
theorem sss_no {cc : CC} {T : Tb} {cl : Orc} {N : Nm} {W : WX} {X : Cx} {sts : List Stmt} : SSs N W X sts (execs T cl (.cons .no .nil)) := ⟨fun pins s σ H D I h => by
  obtain ⟨ρ, Γ, S, rel, ms, p⟩ := h
  unfold execs exec at p
  exact (show False from p).elim⟩
/-- by fuel: the depth of suites -/
def cSs (cc : CC) (T : Tb) (r : Rc cc T) : Nat → (I : Inf) → (sts : List Stmt) → CSs cc T I sts
  | 0, I, sts => ⟨.cons .no .nil, fun _ _ _ => sss_no (cc := cc)⟩
  | n + 1, I, sts => cSsL (fun st => cS r (cSs cc T r n) I st) sts
end DL

set_option linter.all false
set_option maxRecDepth 100000
set_option maxHeartbeats 2000000
set_option autoImplicit false
/-! DL21: defs keep what the interpreter says. -/
namespace DL
open PySem PySem.Spec PyProof.Rows L2

structure Dfs (cc : CC) (T : Tb) (N : Nm) (K : PySem.W.Frag) (f : Nat) (fn : Fn) (fd : FuncData) (ps : List Str) : Prop where
  df : ∃ (Nl : List Str) (x qual : Str) (params : Arguments) (body : List Stmt) (scope : Scope) (dvs : List V) (kws : List (Str × V)), FunD K x qual params body scope dvs kws (N.fa f) fd ∧ FnScope Nl ps scope ∧ Nl.length = fn.nl ∧ (cSs cc T (rec cc T 60) 60 ⟨Nl, scope, fun _ => true⟩ body).ir = fn.body
  np : ps.length = fn.np
  bn : fn.kw = false → Binds K fd ps []
  sb : ∀ n ks g, (f, n, ks, g) ∈ cc.shp → SB K fd ps (fn.np - g.length) n ks g
section
variable {cc : CC} {T : Tb} {N : Nm} {K : PySem.W.Frag} {mg : Str → Option Value} {P : Program} {w : World} {base : Heap}
theorem start_rel {ρ : List Addr} {H : Hp} {Nl : List Str} {vs : List V} {ds : List D} (r : Reps K ρ H vs ds) : RelE K ρ H (ds.map some ++ List.replicate (Nl.length - ds.length) none) (start Nl vs) := by
  refine ⟨by simp [L2.start, r.length], fun i d h => ?_⟩
  by_cases hi : i < ds.length
  · rw [List.getElem?_append_left (by simpa using hi), List.getElem?_map] at h
    cases e : ds[i]? with
    | none => rw [e] at h; cases h
    | some d' =>
      rw [e] at h
      cases h
      obtain ⟨v, h1, h2⟩ := r.get e
      refine ⟨v, ?_, h2⟩
      unfold L2.start
      rw [List.getElem?_append_left (by simpa [r.length] using hi), List.getElem?_map, h1]; rfl
  · rw [List.getElem?_append_right (by simpa using hi), List.getElem?_replicate] at h
    split at h <;> cases h
theorem callT_cl {n : Nat} : ∀ f ds S, callT T n f ds S ≠ .stuck → ∃ fn, T.fns[f]? = some fn ∧ ds.length = fn.np := by
  intro f ds S h
  cases n with
  | zero => exact absurd rfl h
  | succ n =>
    unfold callT at h
    cases e : T.fns[f]? with
    | none => rw [e] at h; exact absurd rfl h
    | some fn =>
      rw [e] at h
      simp only at h
      cases q : Nat.beq ds.length fn.np with
      | false => rw [q] at h; exact absurd rfl h
      | true => exact ⟨fn, rfl, Nat.eq_of_beq_eq_true q⟩
theorem callT_ok (ko : KOk cc T N K mg) (mok : ∀ (c : Nat) (cd : Cls) (m f : Nat), T.cls[c]? = some cd → lku cd.meths m = some f → ∃ fn, T.fns[f]? = some fn ∧ (m ≠ iInit → fn.kw = false))
    (hd : ∀ f fn, T.fns[f]? = some fn → ∃ fd ps, Dfs cc T N K f fn fd ps) : ∀ n f fn fd ps, T.fns[f]? = some fn → Dfs cc T N K f fn fd ps → FnOk P w K mg base (L2.CX P w) (2 * n) (N.fa f) fd ps (spD N K (callT T n) f fn.np)
  | 0, f, fn, fd, ps, hf, d => by
    refine ⟨fun vs H Q E h => by rw [h.1, d.np], fun A outer s H args us vs Q E _ _ _ _ h => ?_⟩
    obtain ⟨_, ρ, ds, S, _, _, p⟩ := h
    exact (show False from p).elim
  | n + 1, f, fn, fd, ps, hf, d => by
    obtain ⟨Nl, x, qual, params, body, scope, dvs, kws, F, sc, hnl, hir⟩ := d.df
    have ih := callT_ok ko mok hd n
    refine F.ok (k := 2 * n + 1) sc (fun vs H Q E h => by rw [h.1, d.np]) fun cdv A outer s H vs Q E hr h => ?_
    refine ⟨tGS K N (fun cls d _ H' => E cls d H') (execs T (callT T n) fn.body), ?_, ?_⟩
    · rw [← hir]
      refine (cSs cc T (rec cc T 60) 60 ⟨Nl, scope, fun _ => true⟩ body).ok (k := 2 * n) ⟨rfl, rfl, rfl⟩ ?_ (passes_of rfl)
      refine ⟨rfl, sc.nd, hr, ko, takes_of rfl rfl rfl rfl, callT_cl, mok, fun f' fn' hf' => ?_⟩
      obtain ⟨fd', ps', d'⟩ := hd f' fn' hf'
      exact ⟨fd', ps', d'.np, ih f' fn' fd' ps' hf' d', d'.bn, d'.sb⟩
    · obtain ⟨hl, ρ, ds, S, rs, ms, p⟩ := h
      refine ⟨ρ, _, S, start_rel rs, ms, ?_⟩
      unfold callT at p
      rw [hf] at p
      have hb : Nat.beq ds.length fn.np = true := by rw [← rs.length, hl]; exact Nat.beq_refl _
      simp only [hb, runF] at p
      rw [hnl]
      cases e : execs T (callT T n) fn.body (ds.map some ++ List.replicate (fn.nl - ds.length) none) S with
      | ok fl S1 =>
        rw [e] at p
        cases fl with
        | nx Γ => exact fun σ' H' ρ' e' ms' rel' => p .non H' ρ' e' ms' .non
        | rt v => exact p
        | bk Γ => exact (show False from p).elim
        | ct Γ => exact (show False from p).elim
      | exc c fs Γ S1 =>
        rw [e] at p
        exact fun cls dd σ' H' ρ' e' ms' rel' x => p cls dd H' ρ' e' ms' x
      | stuck => rw [e] at p; exact (show False from p).elim
end
end DL

set_option linter.all false
set_option maxRecDepth 100000
set_option maxHeartbeats 2000000
set_option autoImplicit false
/-! DL22: what the head tells of the module's objects. -/
namespace DL
open PySem PySem.Spec PyProof.Rows L2 He

def all2 {α β : Type} (f : α → β → Bool) : List α → List β → Bool
  | [], [] => true
  | a :: as, b :: bs => f a b && all2 f as bs
  | _, _ => false
/-- a value of the module is such data -/
def gloD (K : PySem.W.Frag) : Nat → Value → D → Bool
  | 0, _, _ => false
  | n + 1, u, d => match u, d with
    | .none, .non => true
    | .bool b, .bl c => b == c
    | .int i _, .int j => decide (i = j)
    | .str x _, .str s => decide (x = sOf s)
    | .ref a, .tup ds => (match K.lookup a with
      | some ⟨.type c, _, .seq its _, _⟩ => decide (c = "tuple") && (decide (its.size ≤ sizeLine) && all2 (gloD K n) its.toList ds)
      | _ => false)
    | _, _ => false
def RepA (K : PySem.W.Frag) (u : Value) (d : D) : Prop := ∃ v, RelV v u ∧ ∀ ρ H, Rep K ρ H v d
theorem all2_reps {K : PySem.W.Frag} {f : Value → D → Bool} (h : ∀ u d, f u d = true → RepA K u d) : ∀ {us : List Value} {ds : List D}, all2 f us ds = true → ∃ vs, Vals vs us ∧ ∀ ρ H, Reps K ρ H vs ds
  | [], [], _ => ⟨[], .nil, fun _ _ => .nil⟩
  | [], _ :: _, e => by cases e
  | _ :: _, [], e => by cases e
  | u :: us, d :: ds, e => by
    obtain ⟨e1, e2⟩ := ba (show (f u d && all2 f us ds) = true from e)
    obtain ⟨v, r, p⟩ := h u d e1
    obtain ⟨vs, rs, ps⟩ := all2_reps h e2
    exact ⟨v :: vs, .cons r rs, fun ρ H => .cons (p ρ H) (ps ρ H)⟩
theorem gloD_ok {K : PySem.W.Frag} : ∀ (n : Nat) (u : Value) (d : D), gloD K n u d = true → RepA K u d
  | 0, _, _, h => by cases h
  | n + 1, u, d, h => by
    unfold gloD at h
    split at h
    · exact ⟨.non, rfl, fun _ _ => .non⟩
    · rename_i b c
      have e : b = c := eq_of_beq h
      subst e
      exact ⟨.bl b, rfl, fun _ _ => .bl b⟩
    · rename_i i t j
      have e : i = j := of_decide_eq_true h
      subst e
      exact ⟨.int i, ⟨t, rfl⟩, fun _ _ => .int i⟩
    · rename_i x t s
      have e : x = sOf s := of_decide_eq_true h
      subst e
      exact ⟨.str (sOf s), ⟨t, rfl⟩, fun _ _ => .str s⟩
    · rename_i a ds
      split at h
      · rename_i c od its k osl q
        obtain ⟨h1, h2⟩ := ba h
        obtain ⟨h3, h4⟩ := ba h2
        obtain ⟨vs, r, p⟩ := all2_reps (fun u d => gloD_ok n u d) h4
        exact ⟨.ref a, rfl, fun ρ H => .tup (.inr ⟨_, its, k, q, congrArg Value.type (of_decide_eq_true h1), rfl, of_decide_eq_true h3, r⟩) (p ρ H)⟩
      · cases h
    · cases h
/-- one def -/
structure Df where
  at_ : Str × Option Str
  name : Str
  qual : Str
  params : Arguments
  body : List Stmt
  scope : Scope
  dfl : List D
  kwd : List (Str × D)
  nl : List Str
  ps : List Str
def Df.val (d : Df) : FnW := some (d.name, d.qual, d.params, .stmts d.body, d.scope, mainGlobals, [], builtinsNs)
def dflX (K : PySem.W.Frag) (dV : Value) : List D → Bool
  | [] => (match dV with
    | .none => true
    | _ => false)
  | d :: ds => (match dV with
    | .ref T => (match K.lookup T with
      | some ⟨_, _, .seq its _, _⟩ => all2 (gloD K 4) its.toList (d :: ds)
      | _ => false)
    | _ => false)
theorem dflX_ok {K : PySem.W.Frag} {dV : Value} {ds : List D} (h : dflX K dV ds = true) : ∃ dvs, DflV K dV dvs ∧ ∀ ρ H, Reps K ρ H dvs ds := by
  cases ds with
  | nil =>
    cases dV with
    | none => exact ⟨[], .inl ⟨rfl, rfl⟩, fun _ _ => .nil⟩
    | _ => cases h
  | cons d ds =>
    cases dV with
    | ref T =>
      have h1 : (match K.lookup T with
        | some ⟨_, _, .seq its _, _⟩ => all2 (gloD K 4) its.toList (d :: ds)
        | _ => false) = true := h
      cases q : K.lookup T with
      | none => rw [q] at h1; cases h1
      | some o =>
        obtain ⟨oc, od, dt, osl⟩ := o
        rw [q] at h1
        cases dt with
        | seq its n =>
          obtain ⟨vs, r, p⟩ := all2_reps (fun u d => gloD_ok 4 u d) h1
          refine ⟨vs, .inr ⟨?_, T, _, its.toList, n, rfl, q, by simp, r⟩, p⟩
          intro z
          have := p [] (fun _ => none)
          rw [z] at this
          cases this
        | _ => cases h1
    | _ => cases h
def kwdX (K : PySem.W.Frag) (kV : Value) : List (Str × D) → Bool
  | [] => true
  | q :: qs => (match kV with
    | .ref D => (q :: qs).all fun q => (match PySem.W.nsIn K D q.1 with
      | some (some u) => gloD K 4 u q.2
      | _ => false)
    | _ => false)
/-- the same names; each value stands for its data -/
inductive KwR (K : PySem.W.Frag) : List (Str × V) → List (Str × D) → Prop
  | nil : KwR K [] []
  | cons {x : Str} {v : V} {d : D} {vs : List (Str × V)} {ds : List (Str × D)} : (∀ ρ H, Rep K ρ H v d) → KwR K vs ds → KwR K ((x, v) :: vs) ((x, d) :: ds)
theorem kwdX_ok {K : PySem.W.Frag} {kV : Value} {ds : List (Str × D)} (h : kwdX K kV ds = true) : ∃ kws, KwdV K kV kws ∧ KwR K kws ds := by
  cases ds with
  | nil => exact ⟨[], .inl rfl, .nil⟩
  | cons q qs =>
    cases kV with
    | ref D =>
      have h1 : ((q :: qs).all fun q => (match PySem.W.nsIn K D q.1 with
        | some (some u) => gloD K 4 u q.2
        | _ => false)) = true := h
      have key : ∀ (l : List (Str × DL.D)), (l.all fun q => (match PySem.W.nsIn K D q.1 with
        | some (some u) => gloD K 4 u q.2
        | _ => false)) = true → ∃ kws, (∀ q ∈ kws, ∃ u, PySem.W.nsIn K D q.1 = some (some u) ∧ RelV q.2 u) ∧ KwR K kws l := by
        intro l
        induction l with
        | nil => exact fun _ => ⟨[], ⟨fun q hq => (by cases hq), .nil⟩⟩
        | cons p l ih =>
          intro hl
          obtain ⟨x, d⟩ := p
          rw [List.all_cons] at hl
          obtain ⟨a1, a2⟩ := ba hl
          obtain ⟨kws, k1, k2⟩ := ih a2
          cases e : PySem.W.nsIn K D x with
          | none => simp only [e] at a1; cases a1
          | some r =>
            cases r with
            | none => simp only [e] at a1; cases a1
            | some u =>
              simp only [e] at a1
              obtain ⟨v, r1, r2⟩ := gloD_ok 4 u d a1
              refine ⟨(x, v) :: kws, fun q hq => ?_, .cons r2 k2⟩
              rcases List.mem_cons.mp hq with rfl | hq
              · exact ⟨u, e, r1⟩
              · exact k1 q hq
      obtain ⟨kws, k1, k2⟩ := key _ h1
      exact ⟨kws, .inr ⟨D, rfl, k1⟩, k2⟩
    | _ => cases h
def Df.ok (K : PySem.W.Frag) (d : Df) : Bool := PySem.W.keepIn K (.ref (fAd K d.at_)) && (match K.lookup (fAd K d.at_) with
  | some ⟨_, _, .func fd, _⟩ => PySem.W.codeIn K fd.code d.qual && (dflX K fd.defaults d.dfl && kwdX K fd.kwdefaults d.kwd)
  | _ => false)
theorem Df.funD {K : PySem.W.Frag} {d : Df} (e : fnW K d.at_ = d.val) (c : d.ok K = true) : ∃ fd dvs kws, FunD K d.name d.qual d.params d.body d.scope dvs kws (fAd K d.at_) fd ∧ (∀ ρ H, Reps K ρ H dvs d.dfl) ∧ KwR K kws d.kwd := by
  obtain ⟨kp, c2⟩ := ba c
  unfold fnW at e
  cases q : K.lookup (fAd K d.at_) with
  | none => rw [q] at c2; cases c2
  | some o =>
    obtain ⟨oc, od, dt, osl⟩ := o
    rw [q] at c2 e
    cases dt with
    | func fd =>
      obtain ⟨n1, n2, n3, n4, n5, n6, n7, n8, n9, n10, n11, n12, n13, n14, n15⟩ := fd
      have e2 : (some (n1, n2, n3, n4, n5, n6, n7, n15) : FnW) = some (d.name, d.qual, d.params, .stmts d.body, d.scope, mainGlobals, [], builtinsNs) := e
      simp only [Option.some.injEq, Prod.mk.injEq] at e2
      obtain ⟨h1, h2, h3, h4, h5, h6, h7, h8⟩ := e2
      subst h1 h2 h3 h4 h5 h6 h7 h8
      have c3 : (PySem.W.codeIn K n13 d.qual && (dflX K n8 d.dfl && kwdX K n9 d.kwd)) = true := c2
      obtain ⟨k1, k2⟩ := ba c3
      obtain ⟨k3, k4⟩ := ba k2
      obtain ⟨dvs, r1, r2⟩ := dflX_ok k3
      obtain ⟨kws, r3, r4⟩ := kwdX_ok k4
      exact ⟨_, dvs, kws, ⟨⟨oc, od, n8, n9, n10, n11, n12, n13, n14, osl, rfl, q, k1, r1, r3⟩, kp⟩, r2, r4⟩
    | _ => cases c2
/-! ### the program -/
structure Pg where
  cc : CC
  T : Tb
  cn : List Str
  ds : List Df
  xn : List (Str × List Str)
def eps : Str := ⟨#[]⟩
def Pg.nm (p : Pg) (K : PySem.W.Frag) : Nm where
  ca := fun c => ga K (p.cn.getD c eps)
  fa := fun f => match p.ds[f]? with
    | some d => fAd K d.at_
    | none => 0
  nn := p.cc.nms.length
  nm := fun f => p.cc.nms.getD f eps
  xa := fun c => ga K (p.xn.getD c (eps, [])).1
  xf := fun c => (p.xn.getD c (eps, [])).2
/-- of the text alone -/
def Pg.stB (p : Pg) : Bool :=
  decide p.cc.nms.Nodup && decide (p.cn.Nodup ∧ p.cc.nms[0]? = some ("__init__" : Str)) && (p.cc.fns.all fun q => (match p.ds[q.2]? with
    | some d => decide (d.at_ = (q.1, none))
    | none => false)) && (p.cc.cls.all fun q => decide (p.cn[q.2]? = some q.1) && p.T.cls[q.2]?.isSome) && Nat.beq p.T.cls.length p.cn.length && Nat.beq p.T.fns.length p.ds.length &&
  (all2 (fun (cd : Cls) (x : Str) => (cd.flds.all fun f => Nat.blt f p.cc.nms.length) && cd.meths.all fun q => Nat.blt q.1 p.cc.nms.length && (match p.ds[q.2]?, p.T.fns[q.2]? with
    | some d, some fn => decide (d.at_ = (x, some (p.cc.nms.getD q.1 eps))) && (Nat.beq q.1 iInit || !fn.kw)
    | _, _ => false)) p.T.cls p.cn) && (p.cc.glo.all fun q => p.T.glo[q.2]?.isSome)
def clsB (K : PySem.W.Frag) (x : Str) : Bool := (Fa.cls x).ok K && (decide (PySem.W.findIn K (.ref (ga K x)) "__class__" = some (some (.builtin "object.__class__"))) && (decide (PySem.W.specialIn K (.builtin "object.__class__") "__get__" = some (some (.builtin "getset_descriptor.__get__"))) && (decide (PySem.W.takesIn K (.builtin "object.__class__") = some true) && (decide (PySem.W.mroIn K (ga K x) (.type "object") = some true)))))
/-- of the heap behind the top -/
def noLst (K : PySem.W.Frag) : Bool := K.all fun q => !decide (q.2.cls = .type "list")
def Pg.dyB (p : Pg) (K : PySem.W.Frag) : Bool :=
  noLst K && ((bltns.all fun x => (Fa.free x).ok K) && ((p.cc.fns.all fun q => (Fa.glo q.1).ok K && (Fa.keep q.1).ok K) && ((p.cc.cls.all fun q => (Fa.glo q.1).ok K) && ((p.cc.glo.all fun q => (match PySem.W.nsIn K mainGlobals q.1, p.T.glo[q.2]? with
    | some (some u), some d => gloD K 6 u d
    | _, _ => false)) && ((p.cn.all fun x => clsB K x) &&
  ((all2 (fun (cd : Cls) (x : Str) => (cd.flds.all fun f => (Fa.noat x (p.cc.nms.getD f eps)).ok K) && cd.meths.all fun q => (Fa.meth x (p.cc.nms.getD q.1 eps)).ok K && (!Nat.beq q.1 iInit || (Fa.mkr x).ok K)) p.T.cls p.cn) &&
  ((p.cn.all fun x => p.cn.all fun y => decide (PySem.W.kitOne K (.ref (ga K x)) (.ref (ga K y)) = some (decide (x = y)))) &&
  ((p.cn.all fun x => tyNames.all fun t => decide (PySem.W.kitOne K (.ref (ga K x)) (.type t) = some false)) && (p.cn.all fun x => tyNames.all fun t => decide (PySem.W.kitOne K (.type t) (.ref (ga K x)) = some false))))))))))
section
variable {p : Pg} {K : PySem.W.Frag} {h : Heap} {mg : Str → Option Value}
theorem clsB_ok {x : Str} (c : clsB K x = true) : ClsOk K (ga K x) := by
  obtain ⟨c1, c⟩ := ba c
  obtain ⟨c2, c⟩ := ba c
  obtain ⟨c3, c⟩ := ba c
  obtain ⟨c4, c5⟩ := ba c
  exact ⟨cls_ok c1, of_decide_eq_true c2, of_decide_eq_true c3, of_decide_eq_true c4, of_decide_eq_true c5⟩
theorem all2_get {α β : Type} {f : α → β → Bool} : ∀ {as : List α} {bs : List β} {i : Nat} {a : α}, all2 f as bs = true → as[i]? = some a → ∃ b, bs[i]? = some b ∧ f a b = true
  | [], [], _, _, _, h => by simp at h
  | [], _ :: _, _, _, e, _ => by cases e
  | _ :: _, [], _, _, e, _ => by cases e
  | a :: as, b :: bs, 0, _, e, h => by
    cases h
    exact ⟨b, rfl, (ba (show (f a b && all2 f as bs) = true from e)).1⟩
  | a :: as, b :: bs, i + 1, c, e, h => by
    obtain ⟨b', h1, h2⟩ := all2_get (as := as) (bs := bs) (i := i) (a := c) (ba (show (f a b && all2 f as bs) = true from e)).2 (by simpa using h)
    exact ⟨b', by simpa using h1, h2⟩
theorem getD_of {α : Type} {l : List α} {i : Nat} {a z : α} (h : l[i]? = some a) : l.getD i z = a := by simp [List.getD, h]
theorem lookup_all {β : Type} {f : Str × β → Bool} {l : List (Str × β)} {x : Str} {b : β} (h : l.all f = true) (e : l.lookup x = some b) : f (x, b) = true := List.all_eq_true.mp h _ (PySem.mem_of_lookup e)
theorem blt_of {a b : Nat} (h : Nat.blt a b = true) : a < b := Nat.le_of_ble_eq_true h
theorem lku_mem {α : Type} : ∀ {l : List (Nat × α)} {n : Nat} {a : α}, lku l n = some a → (n, a) ∈ l
  | [], _, _, h => by cases h
  | (k, v) :: r, n, a, h => by
    unfold lku at h
    cases q : Nat.beq n k with
    | true => rw [q, if_pos rfl] at h; cases h; rw [Nat.eq_of_beq_eq_true q]; exact List.mem_cons_self
    | false => rw [q, if_neg Bool.false_ne_true] at h; exact List.mem_cons_of_mem _ (lku_mem h)
theorem Pg.ko (s : p.stB = true) (d : p.dyB K = true) (X : K.In h) (G : h.Ns mainGlobals mg) : KOk p.cc p.T (p.nm K) K mg := by
  unfold Pg.stB at s
  simp only [Bool.and_eq_true] at s
  obtain ⟨⟨⟨⟨⟨⟨⟨s1, s0⟩, s2⟩, s3⟩, s4⟩, s5⟩, s6⟩, s7⟩ := s
  unfold Pg.dyB at d
  have d := (ba d).2
  obtain ⟨d1, d⟩ := ba d
  obtain ⟨d2, d⟩ := ba d
  obtain ⟨d3, d⟩ := ba d
  obtain ⟨d4, d⟩ := ba d
  obtain ⟨d5, d⟩ := ba d
  obtain ⟨d6, d⟩ := ba d
  obtain ⟨d7, d⟩ := ba d
  obtain ⟨d8, d9⟩ := ba d
  have nd := of_decide_eq_true s1
  have ndc := (of_decide_eq_true s0).1
  have ini := (of_decide_eq_true s0).2
  have cat : ∀ (c : Nat) (cd : Cls), p.T.cls[c]? = some cd → ∃ x, p.cn[c]? = some x ∧ (p.nm K).ca c = ga K x := fun c cd hc => by
    obtain ⟨x, hx, _⟩ := all2_get s6 hc
    exact ⟨x, hx, by show ga K (p.cn.getD c eps) = _; rw [getD_of hx]⟩
  refine ⟨?_, ?_, ?_, ?_, ?_, ?_, ?_, ?_, ?_, ?_, ?_, ?_, ?_⟩
  · intro f g hf hg e
    have e' : p.cc.nms.getD f eps = p.cc.nms.getD g eps := e
    have hf' : f < p.cc.nms.length := hf
    have hg' : g < p.cc.nms.length := hg
    rw [getD_of (List.getElem?_eq_getElem hf'), getD_of (List.getElem?_eq_getElem hg')] at e'
    exact (List.getElem_inj nd).mp e'
  · intro f x hx
    exact ⟨(List.getElem?_eq_some_iff.mp hx).1, getD_of hx⟩
  · intro x hx
    exact free_ok X G (List.all_eq_true.mp d1 x hx)
  · intro x f hf
    obtain ⟨a0, a1⟩ := ba (lookup_all d2 hf)
    have a := glo_ok X G (x := x) a0
    have b := lookup_all s2 hf
    simp only at b
    have e : (p.nm K).fa f = ga K x := by
      show (match p.ds[f]? with
        | some d => fAd K d.at_
        | none => 0) = ga K x
      cases q : p.ds[f]? with
      | none => rw [q] at b; cases b
      | some d =>
        rw [q] at b
        have b := of_decide_eq_true b
        simp only [b]
        rfl
    rw [e]
    exact ⟨a, keep_ok (x := x) a1⟩
  · intro x c hc
    have a := glo_ok X G (x := x) (lookup_all (f := fun q => (Fa.glo q.1).ok K) d3 hc)
    obtain ⟨b1, b2⟩ := ba (lookup_all s3 hc)
    have b1 := of_decide_eq_true b1
    obtain ⟨cd, hcd⟩ := Option.isSome_iff_exists.mp b2
    refine ⟨?_, cd, hcd⟩
    show mg x = some (.ref (ga K (p.cn.getD c eps)))
    rw [getD_of b1]; exact a
  · intro x g hg
    have a := lookup_all d4 hg
    simp only at a
    cases e : PySem.W.nsIn K mainGlobals x with
    | none => simp only [e] at a; cases a
    | some r =>
      cases r with
      | none => simp only [e] at a; cases a
      | some u =>
        cases e2 : p.T.glo[g]? with
        | none => simp only [e, e2] at a; cases a
        | some d =>
          simp only [e, e2] at a
          obtain ⟨v, r1, r2⟩ := gloD_ok 6 u d a
          exact ⟨u, v, d, PySem.W.mg_of X G e, r1, rfl, r2⟩
  · intro c cd hc
    obtain ⟨x, hx, e⟩ := cat c cd hc
    rw [e]
    exact clsB_ok (List.all_eq_true.mp d5 x (List.mem_of_getElem? hx))
  · intro c cd f hc hf
    obtain ⟨x, hx, e⟩ := cat c cd hc
    obtain ⟨x', hx', q⟩ := all2_get d6 hc
    rw [hx] at hx'; cases hx'
    rw [e]
    exact noat_ok (List.all_eq_true.mp (ba q).1 f hf)
  · intro c cd m f hc hm
    obtain ⟨x, hx, e⟩ := cat c cd hc
    obtain ⟨x', hx', q⟩ := all2_get d6 hc
    rw [hx] at hx'; cases hx'
    obtain ⟨x'', hx'', q2⟩ := all2_get s6 hc
    rw [hx] at hx''; cases hx''
    have m1 := lku_mem hm
    have a := meth_ok (ba (List.all_eq_true.mp (ba q).2 (m, f) m1)).1
    have b := (ba (List.all_eq_true.mp (ba q2).2 (m, f) m1)).2
    simp only at b
    have e2 : (p.nm K).fa f = ma K (ga K x) (p.cc.nms.getD m eps) := by
      show (match p.ds[f]? with
        | some d => fAd K d.at_
        | none => 0) = _
      cases z : p.ds[f]? with
      | none => rw [z] at b; cases b
      | some d =>
        cases z2 : p.T.fns[f]? with
        | none => rw [z, z2] at b; cases b
        | some fn =>
          rw [z, z2] at b
          have b := of_decide_eq_true (ba b).1
          simp only [b]
          rfl
    rw [e, e2]
    exact a
  · intro c cd f hc hm
    obtain ⟨x, hx, e⟩ := cat c cd hc
    obtain ⟨x', hx', q⟩ := all2_get d6 hc
    rw [hx] at hx'; cases hx'
    obtain ⟨x'', hx'', q2⟩ := all2_get s6 hc
    rw [hx] at hx''; cases hx''
    have m1 := lku_mem hm
    have a : (Fa.mkr x).ok K = true := by
      have a := (ba (List.all_eq_true.mp (ba q).2 (iInit, f) m1)).2
      simpa using a
    have a := mkr_ok a
    have b := (ba (List.all_eq_true.mp (ba q2).2 (iInit, f) m1)).2
    simp only at b
    have e2 : (p.nm K).fa f = ma K (ga K x) "__init__" := by
      show (match p.ds[f]? with
        | some d => fAd K d.at_
        | none => 0) = _
      cases z : p.ds[f]? with
      | none => rw [z] at b; cases b
      | some d =>
        cases z2 : p.T.fns[f]? with
        | none => rw [z, z2] at b; cases b
        | some fn =>
          rw [z, z2] at b
          have b := of_decide_eq_true (ba b).1
          rw [getD_of ini] at b
          simp only [b]
          rfl
    rw [e, e2]
    exact a
  · intro c c' cd cd' hc hc'
    obtain ⟨x, hx, e⟩ := cat c cd hc
    obtain ⟨y, hy, e'⟩ := cat c' cd' hc'
    have a := of_decide_eq_true (List.all_eq_true.mp (List.all_eq_true.mp d7 x (List.mem_of_getElem? hx)) y (List.mem_of_getElem? hy))
    rw [e, e', a]
    congr 1
    by_cases z : c = c'
    · subst z
      rw [hx] at hy; cases hy
      simp
    · have : x ≠ y := fun w => z (by
        obtain ⟨l1, e1⟩ := List.getElem?_eq_some_iff.mp hx
        obtain ⟨l2, e2⟩ := List.getElem?_eq_some_iff.mp hy
        exact (List.getElem_inj ndc).mp (e1.trans (w.trans e2.symm)))
      rw [decide_eq_false this]
      cases w : Nat.beq c c' with
      | false => rfl
      | true => exact absurd (Nat.eq_of_beq_eq_true w) z
  · intro c cd t hc ht
    obtain ⟨x, hx, e⟩ := cat c cd hc
    rw [e]
    exact of_decide_eq_true (List.all_eq_true.mp (List.all_eq_true.mp d8 x (List.mem_of_getElem? hx)) t ht)
  · intro c cd t hc ht
    obtain ⟨x, hx, e⟩ := cat c cd hc
    rw [e]
    exact of_decide_eq_true (List.all_eq_true.mp (List.all_eq_true.mp d9 x (List.mem_of_getElem? hx)) t ht)
end
end DL

set_option linter.all false
set_option maxRecDepth 100000
set_option maxHeartbeats 2000000
set_option autoImplicit false
/-! DL23: how arguments are bound. -/
namespace DL
open PySem PySem.Spec PyProof.Rows L2 He

section
variable {α : Type}
theorem zip_look : ∀ {ns : List Str} {us : List α} {n : Str}, us.length = ns.length → n ∈ ns → ((ns.zip us).lookup n).isNone = false
  | [], _, _, _, h => by cases h
  | m :: ns, [], _, h, _ => by cases h
  | m :: ns, u :: us, n, hl, h => by
    show (List.lookup n ((m, u) :: ns.zip us)).isNone = false
    rw [List.lookup_cons]
    cases q : (n == m) with
    | true => rfl
    | false =>
      rcases List.mem_cons.mp h with e | h
      · subst e; simp at q
      · exact zip_look (by simpa using hl) h
theorem zip_all {β : Type} (f : α → β) : ∀ {ns : List Str} {us : List α}, us.length = ns.length → ns.Nodup → ∀ pre : List (Str × α), (∀ p ∈ pre, p.1 ∉ ns) → ns.filterMap (fun n => ((pre ++ ns.zip us).lookup n).map fun v => (n, f v)) = (ns.zip us).map fun p => (p.1, f p.2)
  | [], _, _, _, _, _ => rfl
  | m :: ns, [], h, _, _, _ => by cases h
  | m :: ns, u :: us, hl, nd, pre, hp => by
    obtain ⟨n1, n2⟩ := List.nodup_cons.mp nd
    have e : (pre ++ (m :: ns).zip (u :: us)).lookup m = some u := by
      clear n1 n2 nd hl
      induction pre with
      | nil => show List.lookup m ((m, u) :: ns.zip us) = _; rw [List.lookup_cons, beq_self_eq_true]
      | cons p pre ih =>
        rw [List.cons_append, List.lookup_cons]
        have : (m == p.1) = false := by
          rw [beq_eq_false_iff_ne]
          exact fun z => hp p (by simp) (by rw [← z]; simp)
        rw [this]
        exact ih fun q hq => hp q (by simp [hq])
    rw [List.filterMap_cons, e]
    show (m, f u) :: _ = (m, f u) :: _
    congr 1
    have := zip_all f (ns := ns) (us := us) (by simpa using hl) n2 (pre ++ [(m, u)]) fun p hp' => by
      rcases List.mem_append.mp hp' with h | h
      · exact fun z => hp p h (by simp [z])
      · rw [List.mem_singleton.mp h]; exact n1
    rw [List.append_assoc] at this
    exact this
end
theorem forIn_same {β γ : Type} {f : β → γ → Sem (ForInStep γ)} : ∀ {l : List β} {s : γ}, (∀ x ∈ l, f x s = pure (.yield s)) → forIn l s f = pure s
  | [], _, _ => by rw [List.forIn_nil]
  | x :: l, s, h => by
    rw [List.forIn_cons, h x (by simp)]
    exact forIn_same fun y hy => h y (by simp [hy])
/-- every parameter is given, by its place -/
theorem bind_plain {x qual : Str} {A : List Arg} {df : List Expr} {body : List Stmt} {scope : Scope} {dV kV doc pm : Value} {an : Option Addr} {cdv ct : Value} {us : List Value} (nd : (A.map (·.arg)).Nodup) (hl : us.length = (A.map (·.arg)).length) :
    ∃ k, bindArgs (PySem.W.fnOf x qual ⟨[], A, none, [], [], none, df⟩ body scope dV kV doc pm an cdv ct) ⟨us, []⟩ = seqItems? dV >>= k ∧ ∀ o, k o = pure ((A.map (·.arg)).zip us) := by
  unfold bindArgs PySem.W.fnOf
  simp only [List.map_nil, List.nil_append, List.append_nil, List.forIn_nil]
  simp only [pure_bind, bind_pure, bind_assoc]
  refine ⟨_, rfl, fun o => ?_⟩
  generalize (A.map (·.arg)) = ns at nd hl
  have h1 : (decide (us.length > ns.length) && (none : Option Arg).isNone) = false := by
    rw [decide_eq_false (by omega)]; rfl
  rw [h1, if_neg Bool.false_ne_true]
  have h2 : ∀ m, (List.filter (fun n => (List.lookup n (ns.zip us)).isNone) (List.take m ns)) = [] := fun m => by
    rw [List.filter_eq_nil_iff]
    intro n hn
    rw [zip_look hl (List.mem_of_mem_take hn)]
    exact Bool.false_ne_true
  rw [h2]
  have h3 : (!(([] : List Str).isEmpty)) = false := rfl
  simp only [h3, Bool.false_eq_true, if_false]
  rw [forIn_same fun y hy => ?_]
  · rw [pure_bind]
    have z := zip_all (fun v : Value => v) hl nd [] (fun p hp => by cases hp)
    simp only [List.nil_append] at z
    have e : (ns.zip us).map (fun p => (p.1, p.2)) = ns.zip us := by simp
    rw [e] at z
    exact congrArg pure z
  · have hm : y.1 ∈ ns := List.mem_of_mem_drop (List.of_mem_zip (a := y.1) (b := y.2) (by simpa using hy)).1
    rw [zip_look hl hm, if_neg Bool.false_ne_true]
theorem seqItems_none : seqItems? .none = pure none := rfl
theorem binds_plain {K : PySem.W.Frag} {x qual : Str} {A : List Arg} {df : List Expr} {body : List Stmt} {scope : Scope} {dvs : List V} {kws : List (Str × V)} {f : Addr} {fd : FuncData} (F : FunD K x qual ⟨[], A, none, [], [], none, df⟩ body scope dvs kws f fd) (nd : (A.map (·.arg)).Nodup) : Binds K fd (A.map (·.arg)) [] := by
  obtain ⟨oc, od, dV, kV, doc, pm, an, cdv, ct, osl, rfl, lk, hcd, hD, hK⟩ := F.ex
  intro s us X hl
  rw [List.append_nil] at hl ⊢
  obtain ⟨k, e1, e2⟩ := bind_plain (x := x) (qual := qual) (df := df) (body := body) (scope := scope) (dV := dV) (kV := kV) (doc := doc) (pm := pm) (an := an) (cdv := cdv) (ct := ct) nd hl
  refine BindsTo.of_looks fun M => ?_
  rw [e1]
  rcases hD with ⟨_, rfl⟩ | ⟨_, T, o, its, m, rfl, lT, oT, rT⟩
  · rw [seqItems_none, pure_bind]
    exact PySem.W.Looks.of_pure (e2 _)
  · exact looks_items X lT oT (PySem.W.Looks.of_pure (e2 _))
/-! ### keywords, defaults -/
def duOf {α : Type} (z : α) : List D → List α → D → α
  | e :: es, a :: as, d => if same e d = true then a else duOf z es as d
  | _, _, _ => z
theorem duOf_ok {K : PySem.W.Frag} {d : D} : ∀ {ds : List D} {vs : List V} {us : List Value}, (∀ ρ H, Reps K ρ H vs ds) → Vals vs us → (ds.any fun e => same e d) = true → RelV (duOf .non ds vs d) (duOf .none ds us d) ∧ ∀ ρ H, Rep K ρ H (duOf .non ds vs d) d
  | [], _, _, _, _, h => by cases h
  | e :: es, [], _, r, _, _ => by have := r [] (fun _ => none); cases this
  | e :: es, v :: vs, [], _, r, _ => by cases r
  | e :: es, v :: vs, u :: us, r, rv, h => by
    have hr : ∀ ρ H, Rep K ρ H v e ∧ Reps K ρ H vs es := fun ρ H => by
      have := r ρ H
      cases this with
      | cons a b => exact ⟨a, b⟩
    cases rv with
    | cons r1 r2 =>
      cases q : same e d with
      | true =>
        have e1 := same_eq e d q
        subst e1
        simp only [duOf, q, if_true]
        exact ⟨r1, fun ρ H => (hr ρ H).1⟩
      | false =>
        simp only [duOf, q, Bool.false_eq_true, if_false]
        rw [List.any_cons, q, Bool.false_or] at h
        exact duOf_ok (fun ρ H => (hr ρ H).2) r2 h
section
variable {K : PySem.W.Frag} {x qual : Str} {params : Arguments} {body : List Stmt} {scope : Scope} {dvs : List V} {kws : List (Str × V)} {f : Addr} {fd : FuncData} {ps : List Str} {fst n : Nat} {ks : List Str} {g : List (Nat ⊕ D)} {dfl : List D} {kwd : List (Str × D)}
def gIn (g : List (Nat ⊕ D)) (m : Nat) (ds : List D) : Bool := g.all fun q => match q with
  | .inl i => Nat.blt i m
  | .inr d => ds.any fun e => same e d
theorem gIn1 {m : Nat} {ds : List D} (h : gIn g m ds = true) (i : Nat) (hi : Sum.inl i ∈ g) : i < m := blt_of (List.all_eq_true.mp h _ hi)
theorem gIn2 {m : Nat} {ds : List D} (h : gIn g m ds = true) (d : D) (hd : Sum.inr d ∈ g) : (ds.any fun e => same e d) = true := List.all_eq_true.mp h _ hd
/-- no default is asked -/
theorem sbA (F : FunD K x qual params body scope [] kws f fd) (hl : g.length + fst = ps.length) (hg : gIn g (n + ks.length) [] = true)
    (h : ∀ (kV doc pm : Value) (an : Option Addr) (cdv ct : Value) (fs us ws : List Value), fs.length = fst → us.length = n → ws.length = ks.length → bindArgs (PySem.W.fnOf x qual params body scope .none kV doc pm an cdv ct) ⟨fs ++ us, ks.zip ws⟩ = pure (ps.zip (fs ++ g.map (pick .none (duOf .none [] []) (us ++ ws))))) : SB K fd ps fst n ks g := by
  obtain ⟨oc, od, dV, kV, doc, pm, an, cdv, ct, osl, rfl, lk, hcd, hD, hK⟩ := F.ex
  refine ⟨hl, gIn1 hg, duOf .non [] [], duOf .none [] [], fun d hd => (by have := gIn2 hg d hd; cases this), fun s fs us ws X l1 l2 l3 => ?_⟩
  rcases hD with ⟨_, rfl⟩ | ⟨e, _⟩
  · exact .of_eq (h kV doc pm an cdv ct fs us ws l1 l2 l3)
  · exact absurd rfl e
/-- defaults of parameters by place -/
theorem sbB (F : FunD K x qual params body scope dvs kws f fd) (rd : ∀ ρ H, Reps K ρ H dvs dfl) (hd : dfl ≠ []) (hl : g.length + fst = ps.length) (hg : gIn g (n + ks.length) dfl = true)
    (h : ∀ (T : Addr) (kV doc pm : Value) (an : Option Addr) (cdv ct : Value) (fs us ws its : List Value), fs.length = fst → us.length = n → ws.length = ks.length → its.length = dfl.length →
      ∃ k, bindArgs (PySem.W.fnOf x qual params body scope (.ref T) kV doc pm an cdv ct) ⟨fs ++ us, ks.zip ws⟩ = seqItems? (.ref T) >>= k ∧ k (some its.toArray) = pure (ps.zip (fs ++ g.map (pick .none (duOf .none dfl its) (us ++ ws))))) : SB K fd ps fst n ks g := by
  obtain ⟨oc, od, dV, kV, doc, pm, an, cdv, ct, osl, rfl, lk, hcd, hD, hK⟩ := F.ex
  have hl2 : dvs.length = dfl.length := (rd [] (fun _ => none)).length
  rcases hD with ⟨e, rfl⟩ | ⟨_, T, o, its, m, rfl, lT, oT, rT⟩
  · rw [e] at hl2
    exact absurd (List.eq_nil_of_length_eq_zero hl2.symm) hd
  · refine ⟨hl, gIn1 hg, duOf .non dfl dvs, duOf .none dfl its, fun d hd => duOf_ok rd rT (gIn2 hg d hd), fun s fs us ws X l1 l2 l3 => ?_⟩
    obtain ⟨k, e1, e2⟩ := h T kV doc pm an cdv ct fs us ws its l1 l2 l3 (by rw [← rT.length, hl2])
    refine BindsTo.of_looks fun M => ?_
    rw [e1]
    exact looks_items X lT oT (PySem.W.Looks.of_pure e2)
theorem KwR.nms : ∀ {kws : List (Str × V)} {kwd : List (Str × D)}, KwR K kws kwd → kws.map (·.1) = kwd.map (·.1)
  | _, _, .nil => rfl
  | _, _, .cons _ b => congrArg (_ :: ·) b.nms
theorem KwR.reps : ∀ {kws : List (Str × V)} {kwd : List (Str × D)}, KwR K kws kwd → ∀ ρ H, Reps K ρ H (kws.map (·.2)) (kwd.map (·.2))
  | _, _, .nil, _, _ => .nil
  | _, _, .cons a b, ρ, H => .cons (a ρ H) (b.reps ρ H)
/-- those by keyword that are in ms -/
def pickK (ms : List Str) (l : List (Str × D)) : List (Str × D) := l.filter fun q => decide (q.1 ∈ ms)
theorem KwR.pick {ms : List Str} : ∀ {kws : List (Str × V)} {kwd : List (Str × D)}, KwR K kws kwd → ∃ kws', KwR K kws' (pickK ms kwd) ∧ ∀ q ∈ kws', q ∈ kws
  | _, _, .nil => ⟨[], .nil, fun _ h => h⟩
  | _, _, .cons (x := x) (v := v) (d := d) a b => by
    obtain ⟨kws', h1, h2⟩ := b.pick (ms := ms)
    unfold pickK at h1 ⊢
    by_cases q : x ∈ ms
    · rw [List.filter_cons_of_pos (by simpa using q)]
      refine ⟨(x, v) :: kws', .cons a h1, fun q hq => ?_⟩
      rcases List.mem_cons.mp hq with rfl | hq
      · exact List.mem_cons_self
      · exact List.mem_cons_of_mem _ (h2 q hq)
    · rw [List.filter_cons_of_neg (by simpa using q)]
      exact ⟨kws', h1, fun q hq => List.mem_cons_of_mem _ (h2 q hq)⟩
/-- defaults of keyword-only parameters ms -/
theorem sbC (F : FunD K x qual params body scope [] kws f fd) (rk : KwR K kws kwd) (ms : List Str) (hk : kwd ≠ []) (hl : g.length + fst = ps.length) (hg : gIn g (n + ks.length) ((pickK ms kwd).map (·.2)) = true)
    (h : ∀ (D : Addr) (doc pm : Value) (an : Option Addr) (cdv ct : Value) (fs us ws mv : List Value), fs.length = fst → us.length = n → ws.length = ks.length → mv.length = (pickK ms kwd).length →
      KwChain D (((pickK ms kwd).map (·.1)).zip mv) (bindArgs (PySem.W.fnOf x qual params body scope .none (.ref D) doc pm an cdv ct) ⟨fs ++ us, ks.zip ws⟩) (ps.zip (fs ++ g.map (pick .none (duOf .none ((pickK ms kwd).map (·.2)) mv) (us ++ ws))))) : SB K fd ps fst n ks g := by
  obtain ⟨oc, od, dV, kV, doc, pm, an, cdv, ct, osl, rfl, lk, hcd, hD, hK⟩ := F.ex
  rcases hD with ⟨_, rfl⟩ | ⟨e, _⟩
  · rcases hK with e | ⟨D, rfl, hq⟩
    · subst e
      cases rk
      exact absurd rfl hk
    · obtain ⟨kws', r1, r2⟩ := rk.pick (ms := ms)
      obtain ⟨mv, hlm, rv, hks⟩ := kwd_vals (ms := kws') fun q hm => hq q (r2 q hm)
      have e1 := r1.nms
      have e2 : kws'.length = (pickK ms kwd).length := by simpa using congrArg List.length e1
      refine ⟨hl, gIn1 hg, duOf .non ((pickK ms kwd).map (·.2)) (kws'.map (·.2)), duOf .none ((pickK ms kwd).map (·.2)) mv, fun d hd => duOf_ok r1.reps rv (gIn2 hg d hd), fun s fs us ws X l1 l2 l3 => ?_⟩
      rw [e1] at hks
      exact BindsTo.of_looks fun M => KwChain.looks X hks (h D doc pm an cdv ct fs us ws mv l1 l2 l3 (by rw [hlm, e2]))
  · exact absurd rfl e
end
end DL

set_option linter.all false
set_option maxRecDepth 100000
set_option maxHeartbeats 2000000
set_option autoImplicit false
/-! DL24: the law from the interpreter's answer. -/
namespace DL
open PySem PySem.Spec PyProof.Rows L2 He

def Pg.obs (p : Pg) (K : PySem.W.Frag) : AlD := (p.dyB K && p.ds.all fun d => d.ok K, p.ds.map fun d => fnW K d.at_)
def Pg.val (p : Pg) : AlD := (true, p.ds.map Df.val)
def Pg.obsG (p : Pg) (n : Nat) (g : Addr → Option Obj) : AlD := p.obs (frG g (asD g n))
def Pg.hook (p : Pg) (n : Nat) : PySem.W.Hook where
  α := AlD
  obs := fun s => p.obsG n s.heap.get?
  val := fun _ => p.val
  says := fun _ h => ∃ K : PySem.W.Frag, K.In h ∧ p.obs K = p.val
  of := fun _ _ e => ⟨_, frG_in, e⟩
  keeps := fun _ _ _ ⟨K, hK, c⟩ k => ⟨K, PySem.W.Frag.In.keeps hK k, c⟩
theorem Pg.obsG_eq {p : Pg} {n : Nat} {g : Addr → Option Obj} {s : Shared} (h : ∀ a, g a = s.heap.get? a) : p.obsG n g = (p.hook n).obs s := by
  have e : g = s.heap.get? := funext h
  rw [e] <;> rfl
def scB (N P : List Str) (sc : Scope) : Bool := decide (sc.kind = .function) && (!sc.isCoroutine && (!sc.isGenerator && (decide N.Nodup && (decide (N.take P.length = P) && ((P.all fun x => decide (sc.names.lookup x = some .local) || decide (sc.names.lookup x = some .cell)) && sc.names.all fun y => !decide (y.2 = .free))))))
theorem scB_ok {N P : List Str} {sc : Scope} (h : scB N P sc = true) : FnScope N P sc := by
  obtain ⟨h1, h⟩ := ba h
  obtain ⟨h2, h⟩ := ba h
  obtain ⟨h3, h⟩ := ba h
  obtain ⟨h4, h⟩ := ba h
  obtain ⟨h5, h⟩ := ba h
  obtain ⟨h6, h7⟩ := ba h
  refine ⟨of_decide_eq_true h1, by simpa using h2, by simpa using h3, of_decide_eq_true h4, of_decide_eq_true h5, fun x hx => ?_, fun y hy => ?_⟩
  · have := List.all_eq_true.mp h6 x hx
    simp only [Bool.or_eq_true, decide_eq_true_eq] at this
    exact this
  · have := List.all_eq_true.mp h7 y hy
    simpa using this
def plainPs (a : Arguments) (ps : List Str) : Bool := a.posonlyargs.isEmpty && (a.vararg.isNone && (a.kwonlyargs.isEmpty && (a.kw_defaults.isEmpty && (a.kwarg.isNone && decide (a.args.map (·.arg) = ps)))))
theorem plainPs_ok {a : Arguments} {ps : List Str} (h : plainPs a ps = true) : ∃ A df, a = ⟨[], A, none, [], [], none, df⟩ ∧ A.map (·.arg) = ps := by
  obtain ⟨p1, p2, p3, p4, p5, p6, p7⟩ := a
  obtain ⟨h1, h⟩ := ba h
  obtain ⟨h2, h⟩ := ba h
  obtain ⟨h3, h⟩ := ba h
  obtain ⟨h4, h⟩ := ba h
  obtain ⟨h5, h6⟩ := ba h
  simp only [List.isEmpty_iff] at h1 h3 h4
  simp only [Option.isNone_iff_eq_none] at h2 h5
  subst h1 h2 h3 h4 h5
  exact ⟨p2, p7, rfl, of_decide_eq_true h6⟩
def Pg.stD (p : Pg) : Bool := all2 (fun (d : Df) (fn : Fn) => scB d.nl d.ps d.scope && (Nat.beq d.ps.length fn.np && (Nat.beq d.nl.length fn.nl && (fn.kw || plainPs d.params d.ps)))) p.ds p.T.fns
def Pg.cmp (p : Pg) (d : Df) : Ss := (cSs p.cc p.T (DL.rec p.cc p.T 60) 60 ⟨d.nl, d.scope, fun _ => true⟩ d.body).ir
/-- a shape of calls -/
def ShOk (p : Pg) (K : PySem.W.Frag) (q : Nat × Nat × List Str × List (Nat ⊕ D)) : Prop := ∀ (d : Df) (fn : Fn) (fd : FuncData) (dvs : List V) (kws : List (Str × V)), p.ds[q.1]? = some d → p.T.fns[q.1]? = some fn →
  FunD K d.name d.qual d.params d.body d.scope dvs kws (fAd K d.at_) fd → (∀ ρ H, Reps K ρ H dvs d.dfl) → KwR K kws d.kwd → SB K fd d.ps (fn.np - q.2.2.2.length) q.2.1 q.2.2.1 q.2.2.2
theorem all2_len {α β : Type} {f : α → β → Bool} : ∀ {as : List α} {bs : List β}, all2 f as bs = true → as.length = bs.length
  | [], [], _ => rfl
  | [], _ :: _, e => by cases e
  | _ :: _, [], e => by cases e
  | a :: as, b :: bs, e => congrArg Nat.succ (all2_len (ba (show (f a b && all2 f as bs) = true from e)).2)
structure Pg.Ok (p : Pg) : Prop where
  st : p.stB = true
  sd : p.stD = true
  cm : p.ds.map p.cmp = p.T.fns.map (·.body)
  sh : ∀ (K : PySem.W.Frag) q, q ∈ p.cc.shp → ShOk p K q
section
variable {p : Pg} {K : PySem.W.Frag} {h : Heap} {mg : Str → Option Value}
theorem Pg.def_ (c : p.obs K = p.val) {f : Nat} {d : Df} (hd : p.ds[f]? = some d) : ∃ fd dvs kws, FunD K d.name d.qual d.params d.body d.scope dvs kws (fAd K d.at_) fd ∧ (∀ ρ H, Reps K ρ H dvs d.dfl) ∧ KwR K kws d.kwd := by
  have c2 := (ba (show (p.dyB K && p.ds.all fun d => d.ok K) = true from congrArg (fun z : AlD => z.1) c)).2
  have e : p.ds.map (fun d => fnW K d.at_) = p.ds.map Df.val := congrArg (fun z : AlD => z.2) c
  have e2 : (p.ds.map fun d => fnW K d.at_)[f]? = (p.ds.map Df.val)[f]? := by rw [e]
  rw [List.getElem?_map, List.getElem?_map, hd] at e2
  exact Df.funD (Option.some.inj e2) (List.all_eq_true.mp c2 d (List.mem_of_getElem? hd))
theorem Pg.dfs (o : p.Ok) (c : p.obs K = p.val) {f : Nat} {fn : Fn} (hf : p.T.fns[f]? = some fn) : ∃ d fd, p.ds[f]? = some d ∧ (p.nm K).fa f = fAd K d.at_ ∧ Dfs p.cc p.T (p.nm K) K f fn fd d.ps ∧ ∃ dvs kws, FunD K d.name d.qual d.params d.body d.scope dvs kws (fAd K d.at_) fd ∧ ∀ ρ H, Reps K ρ H dvs d.dfl := by
  have hlen := all2_len o.sd
  have hlt : f < p.ds.length := by rw [hlen]; exact (List.getElem?_eq_some_iff.mp hf).1
  have hd : p.ds[f]? = some p.ds[f] := List.getElem?_eq_getElem hlt
  generalize p.ds[f] = d at hd
  obtain ⟨fn', hf', q⟩ := all2_get o.sd hd
  rw [hf] at hf'; cases hf'
  obtain ⟨q1, q⟩ := ba q
  obtain ⟨q2, q⟩ := ba q
  obtain ⟨q3, q4⟩ := ba q
  obtain ⟨fd, dvs, kws, F, r1, r2⟩ := Pg.def_ c hd
  have hfa : (p.nm K).fa f = fAd K d.at_ := by
    show (match p.ds[f]? with
      | some d => fAd K d.at_
      | none => 0) = _
    rw [hd]
  have hsc := scB_ok q1
  refine ⟨d, fd, hd, hfa, ⟨⟨d.nl, d.name, d.qual, d.params, d.body, d.scope, dvs, kws, by rw [hfa]; exact F, hsc, Nat.eq_of_beq_eq_true q3, ?_⟩, Nat.eq_of_beq_eq_true q2, fun hk => ?_, fun n ks g hm => ?_⟩, dvs, kws, F, r1⟩
  · have e : (p.ds.map p.cmp)[f]? = (p.T.fns.map (·.body))[f]? := by rw [o.cm]
    rw [List.getElem?_map, List.getElem?_map, hd, hf] at e
    exact Option.some.inj e
  · rw [hk, Bool.false_or] at q4
    obtain ⟨A, df, e1, e2⟩ := plainPs_ok q4
    rw [e1] at F
    rw [← e2]
    have ndP : d.ps.Nodup := by rw [← hsc.pre]; exact hsc.nd.sublist (List.take_sublist _ _)
    exact binds_plain F (by rw [e2]; exact ndP)
  · exact o.sh K (f, n, ks, g) hm d fn fd dvs kws hd hf F r1 r2
theorem Pg.mok (o : p.Ok) (c : Nat) (cd : Cls) (m f : Nat) (hc : p.T.cls[c]? = some cd) (hm : lku cd.meths m = some f) : ∃ fn, p.T.fns[f]? = some fn ∧ (m ≠ iInit → fn.kw = false) := by
  have s := o.st
  unfold Pg.stB at s
  simp only [Bool.and_eq_true] at s
  obtain ⟨⟨_, s6⟩, _⟩ := s
  obtain ⟨x, _, q⟩ := all2_get s6 hc
  have b := (ba (List.all_eq_true.mp (ba q).2 (m, f) (lku_mem hm))).2
  simp only at b
  cases z : p.ds[f]? with
  | none => rw [z] at b; cases b
  | some d =>
    cases z2 : p.T.fns[f]? with
    | none => rw [z, z2] at b; cases b
    | some fn =>
      rw [z, z2] at b
      have b := (ba b).2
      refine ⟨fn, rfl, fun hne => ?_⟩
      cases w : Nat.beq m iInit with
      | true => exact absurd (Nat.eq_of_beq_eq_true w) hne
      | false => rw [w, Bool.false_or] at b; simpa using b
theorem Pg.fnOk (o : p.Ok) (c : p.obs K = p.val) (X : K.In h) (G : h.Ns mainGlobals mg) {f : Nat} {fn : Fn} (hf : p.T.fns[f]? = some fn) (n : Nat) :
    ∃ d fd, p.ds[f]? = some d ∧ (p.nm K).fa f = fAd K d.at_ ∧ (∃ dvs kws, FunD K d.name d.qual d.params d.body d.scope dvs kws (fAd K d.at_) fd ∧ ∀ ρ H, Reps K ρ H dvs d.dfl) ∧ ∀ (P : Program) (w : World) (base : Heap), FnOk P w K mg base (L2.CX P w) (2 * n) (fAd K d.at_) fd d.ps (spD (p.nm K) K (callT p.T n) f fn.np) := by
  have dy := (ba (show (p.dyB K && p.ds.all fun d => d.ok K) = true from congrArg (fun z : AlD => z.1) c)).1
  have ko := Pg.ko o.st dy X G
  obtain ⟨d, fd, hd, hfa, D, hF⟩ := Pg.dfs o c hf
  refine ⟨d, fd, hd, hfa, hF, fun P w base => ?_⟩
  rw [← hfa]
  exact callT_ok ko (Pg.mok o) (fun f' fn' hf' => by
    obtain ⟨d', fd', _, _, D', _⟩ := Pg.dfs o c hf'
    exact ⟨fd', d'.ps, D'⟩) n f fn fd d.ps hf D
theorem lookup_mem {α : Type} : ∀ {l : List (Addr × α)} {x : Addr} {b : α}, l.lookup x = some b → (x, b) ∈ l
  | [], _, _, h => by cases h
  | (k, v) :: r, x, b, h => by
    rw [List.lookup_cons] at h
    cases q : (x == k) with
    | true => rw [q] at h; cases h; rw [beq_iff_eq.mp q]; exact List.mem_cons_self
    | false => rw [q] at h; exact List.mem_cons_of_mem _ (lookup_mem h)
/-- the script -/
theorem Pg.script (c : p.obs K = p.val) {H : Hp} {a : Addr} {ns : List Int} (hO : Only H) (hS : SqL K H a (ns.map V.int)) : ∃ o, H a = some (.frz o (.lst (ns.map V.int))) := by
  have dy := (ba (show (p.dyB K && p.ds.all fun d => d.ok K) = true from congrArg (fun z : AlD => z.1) c)).1
  have nl := (ba dy).1
  rcases hS with hS | ⟨o, its, n, h1, h2, _⟩
  · rcases hS with hS | ⟨o, hS⟩
    · rcases hO a with h | ⟨o, xs, h⟩
      · rw [h] at hS; cases hS
      · rw [h] at hS; cases hS
    · exact ⟨o, hS⟩
  · have hm : (a, o) ∈ K := lookup_mem h1
    have := List.all_eq_true.mp nl _ hm
    simp [h2] at this
theorem reps_ints {ρ : List Addr} {H : Hp} : ∀ ns : List Int, Reps K ρ H (ns.map V.int) (ns.map D.int)
  | [] => .nil
  | i :: ns => .cons (.int i) (reps_ints ns)
end
open PySem.W in
/-- the law holds if the interpreter says True at every script -/
theorem Pg.walk {p : Pg} (o : p.Ok) {l : OpenLaw} {n m f : Nat} {q : Program} {loose : List Str} {XP : (Str → Option Value) → Heap → Prop} {d : DefRec} {x : Str} {fn : Fn} {df : Df}
    (hn : l.most = some n) (hn2 : n ≤ sizeLine) (hdf : d.params.defaults = []) (hr : Room (2 * m) callerA) (hf : p.T.fns[f]? = some fn) (hd : p.ds[f]? = some df) (hps : df.ps = [x]) (hlk : p.cc.fns.lookup d.name = some f) (hnp : fn.np = 1) (hpl : plainPs df.params [x] = true) (hdl : df.dfl = []) {j : Nat}
    (pure_ : ∀ ns : List Int, ns.length ≤ n → ∃ S, callT p.T m f [.ref 0] [.ro (ns.map D.int)] = .ok (.bl true) S) :
    WalkO q loose XP (p.hook j).says l.row.toRowW d [] (fun f vs => PySem.call f vs) := by
  refine Att.attach_call hn hdf fun w s₀ s₁ mg mb fa ob pm cd doc a vs ns G Y ho hd0 hcd hmg hobj hints hlen hg => ?_
  obtain ⟨K, KX, c⟩ := Y
  obtain ⟨df', fd, hd', hfa', ⟨dvs, kws, FD, rd⟩, F⟩ := Pg.fnOk o c KX G.T.g hf m
  rw [hd] at hd'; cases hd'
  have dy := (ba (show (p.dyB K && p.ds.all fun d => d.ok K) = true from congrArg (fun z : AlD => z.1) c)).1
  have hfa : fAd K df.at_ = fa := by
    have e := ((Pg.ko o.st dy KX G.T.g).fn d.name f hlk).1
    rw [hmg, hfa'] at e
    injection e with e
    injection e with e
    exact e.symm
  rw [hfa, hps] at F
  refine law_call KX G.T.g G.T.b G.T.builtins G.T.nolimit hg hobj hints (Nat.le_trans hlen hn2) hr (fun base _ _ => F l.prog w base) (fun s u => ?_) (fun H hO hS => ?_) fun H e s' hx => ?_
  · obtain ⟨A, dfx, e1, e2⟩ := plainPs_ok hpl
    rw [hdl] at rd
    have hdv : dvs = [] := by
      have := rd [] (fun _ => none)
      cases this
      rfl
    subst hdv
    rw [e1] at FD
    have b := FunD.bindsA (ps := [x]) FD (fun kV doc pm an cdv ct us hl => ?_) s [u] rfl
    · exact b
    · obtain ⟨k, z1, z2⟩ := bind_plain (x := df.name) (qual := df.qual) (A := A) (df := dfx) (body := df.body) (scope := df.scope) (dV := .none) (kV := kV) (doc := doc) (pm := pm) (an := an) (cdv := cdv) (ct := ct) (us := us) (by rw [e2]; simp) (by rw [e2]; exact hl)
      rw [z1, seqItems_none, pure_bind, z2, e2]
  · obtain ⟨ob, hH⟩ := Pg.script c hO hS
    obtain ⟨S, hp⟩ := pure_ ns hlen
    refine ⟨by rw [hnp]; rfl, [a], [.ref 0], [.ro (ns.map D.int)], .cons (.ref rfl) .nil, ⟨rfl, by simp, fun i b ob' h1 h2 => ?_⟩, ?_⟩
    · cases i with
      | zero =>
        cases h1; cases h2
        exact ⟨ob, _, hH, reps_ints ns⟩
      | succ i => simp at h1
    · rw [hp]
      intro v H' ρ' _ _ r
      cases r
      rfl
  · obtain ⟨_, _, _, _, _, _, _, _, _, _, _, _, z⟩ := hx
    exact z
end DL

set_option linter.all false
set_option maxRecDepth 100000
set_option maxHeartbeats 2000000
set_option autoImplicit false
/-! DP1: reckoning with the interpreter: what must hold behind a run. -/
namespace DL
def okR {α : Type} (r : R α) (Q : α → Sto → Prop) : Prop := match r with
  | .ok a S => Q a S
  | _ => False
def okS (r : RS) (Q : F → Sto → Prop) : Prop := match r with
  | .ok f S => Q f S
  | _ => False
section
variable {α β : Type} {T : Tb} {cl : Orc}
@[simp] theorem okR_ok {a : α} {S : Sto} {Q : α → Sto → Prop} : okR (.ok a S) Q = Q a S := propext Iff.rfl
@[simp] theorem okS_ok {f : F} {S : Sto} {Q : F → Sto → Prop} : okS (.ok f S) Q = Q f S := propext Iff.rfl
@[simp] theorem okR_stuck {Q : α → Sto → Prop} : okR .stuck Q = False := rfl
@[simp] theorem okS_stuck {Q : F → Sto → Prop} : okS .stuck Q = False := rfl
@[simp] theorem okR_bind {r : R α} {k : α → Sto → R β} {Q : β → Sto → Prop} : okR (r.bind k) Q = okR r fun a S => okR (k a S) Q := by cases r <;> rfl
@[simp] theorem okR_gd {b : Bool} {r : R α} {Q : α → Sto → Prop} : okR (gd b r) Q = (b = true ∧ okR r Q) := by cases b <;> simp [gd, okR]
@[simp] theorem okS_of {r : R α} {Γ : Ev} {k : α → Sto → RS} {Q : F → Sto → Prop} : okS (RS.of r Γ k) Q = okR r fun a S => okS (k a S) Q := by cases r <;> rfl
/-- behind one statement -/
def nxQ (k : Ev → Sto → RS) (Q : F → Sto → Prop) (f : F) (S : Sto) : Prop := match f with
  | .nx Γ => okS (k Γ S) Q
  | f => Q f S
@[simp] theorem okS_nx {r : RS} {k : Ev → Sto → RS} {Q : F → Sto → Prop} : okS (RS.nx r k) Q = okS r (nxQ k Q) := by
  cases r with
  | ok f S => cases f <;> rfl
  | exc c fs Γ S => rfl
  | stuck => rfl
@[simp] theorem nxQ_nx {k : Ev → Sto → RS} {Q : F → Sto → Prop} {Γ : Ev} {S : Sto} : nxQ k Q (.nx Γ) S = okS (k Γ S) Q := propext Iff.rfl
@[simp] theorem nxQ_rt {k : Ev → Sto → RS} {Q : F → Sto → Prop} {d : D} {S : Sto} : nxQ k Q (.rt d) S = Q (.rt d) S := propext Iff.rfl
@[simp] theorem nxQ_bk {k : Ev → Sto → RS} {Q : F → Sto → Prop} {Γ : Ev} {S : Sto} : nxQ k Q (.bk Γ) S = Q (.bk Γ) S := propext Iff.rfl
@[simp] theorem nxQ_ct {k : Ev → Sto → RS} {Q : F → Sto → Prop} {Γ : Ev} {S : Sto} : nxQ k Q (.ct Γ) S = Q (.ct Γ) S := propext Iff.rfl
theorem okR_ex {r : R α} {Q : α → Sto → Prop} (h : okR r Q) : ∃ a S, r = .ok a S ∧ Q a S := by
  cases r with
  | ok a S => exact ⟨a, S, rfl, h⟩
  | exc _ _ _ => exact h.elim
  | stuck => exact h.elim
theorem okR_imp {r : R α} {Q Q' : α → Sto → Prop} (h : okR r Q) (i : ∀ a S, Q a S → Q' a S) : okR r Q' := by
  cases r with
  | ok a S => exact i a S h
  | exc _ _ _ => exact h.elim
  | stuck => exact h.elim
theorem okS_imp {r : RS} {Q Q' : F → Sto → Prop} (h : okS r Q) (i : ∀ a S, Q a S → Q' a S) : okS r Q' := by
  cases r with
  | ok a S => exact i a S h
  | exc _ _ _ _ => exact h.elim
  | stuck => exact h.elim
/-- what a def's body must give -/
def rtQ (Q : D → Sto → Prop) (f : F) (S : Sto) : Prop := match f with
  | .nx _ => Q .non S
  | .rt d => Q d S
  | _ => False
@[simp] theorem rtQ_nx {Q : D → Sto → Prop} {Γ : Ev} {S : Sto} : rtQ Q (.nx Γ) S = Q .non S := propext Iff.rfl
@[simp] theorem rtQ_rt {Q : D → Sto → Prop} {d : D} {S : Sto} : rtQ Q (.rt d) S = Q d S := propext Iff.rfl
@[simp] theorem rtQ_bk {Q : D → Sto → Prop} {Γ : Ev} {S : Sto} : rtQ Q (.bk Γ) S = False := rfl
@[simp] theorem rtQ_ct {Q : D → Sto → Prop} {Γ : Ev} {S : Sto} : rtQ Q (.ct Γ) S = False := rfl
theorem callT_def {n f : Nat} {fn : Fn} {ds : List D} {S : Sto} (hf : T.fns[f]? = some fn) (hl : Nat.beq ds.length fn.np = true) : callT T (n + 1) f ds S = runF T (callT T n) fn ds S := by
  conv => lhs; unfold callT
  rw [hf]
  simp only [hl]
theorem okR_runF {fn : Fn} {ds : List D} {S : Sto} {Q : D → Sto → Prop} : okR (runF T cl fn ds S) Q = okS (execs T cl fn.body (ds.map some ++ List.replicate (fn.nl - ds.length) none) S) (rtQ Q) := by
  unfold runF
  cases execs T cl fn.body (ds.map some ++ List.replicate (fn.nl - ds.length) none) S with
  | ok f S => cases f <;> rfl
  | exc _ _ _ _ => rfl
  | stuck => rfl
theorem okR_call {n f : Nat} {fn : Fn} {ds : List D} {S : Sto} {Q : D → Sto → Prop} (hf : T.fns[f]? = some fn) (hl : Nat.beq ds.length fn.np = true) (h : okS (execs T (callT T n) fn.body (ds.map some ++ List.replicate (fn.nl - ds.length) none) S) (rtQ Q)) : okR (callT T (n + 1) f ds S) Q := by
  rw [callT_def hf hl, okR_runF]
  exact h
theorem okR_eq {r : R α} {a : α} {S : Sto} (h : okR r fun b S' => b = a ∧ S' = S) : r = .ok a S := by
  obtain ⟨b, S', e, rfl, rfl⟩ := okR_ex h
  exact e
theorem okR_of {r : R α} {a : α} {S : Sto} {Q : α → Sto → Prop} (h : r = .ok a S) (q : Q a S) : okR r Q := by rw [h]; exact q
/-! ### loops -/
/-- what a turn of a loop must give -/
def lpQ (I : Ev → Sto → Prop) (Q : F → Sto → Prop) (f : F) (S : Sto) : Prop := match f with
  | .nx Γ => I Γ S
  | .ct Γ => I Γ S
  | .bk Γ => Q (.nx Γ) S
  | f => Q f S
@[simp] theorem lpQ_nx {I : Ev → Sto → Prop} {Q : F → Sto → Prop} {Γ : Ev} {S : Sto} : lpQ I Q (.nx Γ) S = I Γ S := propext Iff.rfl
@[simp] theorem lpQ_ct {I : Ev → Sto → Prop} {Q : F → Sto → Prop} {Γ : Ev} {S : Sto} : lpQ I Q (.ct Γ) S = I Γ S := propext Iff.rfl
@[simp] theorem lpQ_bk {I : Ev → Sto → Prop} {Q : F → Sto → Prop} {Γ : Ev} {S : Sto} : lpQ I Q (.bk Γ) S = Q (.nx Γ) S := propext Iff.rfl
@[simp] theorem lpQ_rt {I : Ev → Sto → Prop} {Q : F → Sto → Prop} {d : D} {S : Sto} : lpQ I Q (.rt d) S = Q (.rt d) S := propext Iff.rfl
theorem okS_for {ks : List (Nat × List D)} {t : Tg} {body : Ev → Sto → RS} {Q : F → Sto → Prop} (I : Nat → Ev → Sto → Prop) : ∀ (xs : List D) (i : Nat) (Γ : Ev) (S : Sto),
    I i Γ S → (∀ j Γ S, I j Γ S → stays S ks = true) →
    (∀ j x Γ S, xs[j]? = some x → I (i + j) Γ S → ∃ Γ', asg t x Γ = some Γ' ∧ okS (body Γ' S) (lpQ (I (i + j + 1)) Q)) → (∀ Γ S, I (i + xs.length) Γ S → Q (.nx Γ) S) → okS (forL ks t body xs Γ S) Q
  | [], i, Γ, S, h0, hst, _, he => by
    unfold forL
    rw [hst i Γ S h0]
    exact he Γ S (by simpa using h0)
  | x :: xs, i, Γ, S, h0, hst, hs, he => by
    unfold forL
    rw [hst i Γ S h0]
    simp only
    obtain ⟨Γ', h1, h2⟩ := hs 0 x Γ S rfl h0
    rw [h1]
    simp only
    have ih := fun Γ S h => okS_for I xs (i + 1) Γ S h hst (fun j y Γ S hj hI => by
      have := hs (j + 1) y Γ S (by simpa using hj) (by rw [show i + (j + 1) = i + 1 + j by omega]; exact hI)
      rw [show i + (j + 1) + 1 = i + 1 + j + 1 by omega] at this
      exact this) fun Γ S h => he Γ S (by rw [List.length_cons, show i + (xs.length + 1) = i + 1 + xs.length by omega]; exact h)
    cases e : body Γ' S with
    | ok f S2 =>
      rw [e] at h2
      cases f with
      | nx Γ2 => exact ih Γ2 S2 h2
      | ct Γ2 => exact ih Γ2 S2 h2
      | bk Γ2 => exact h2
      | rt d => exact h2
    | exc _ _ _ _ => rw [e] at h2; exact h2.elim
    | stuck => rw [e] at h2; exact h2.elim
theorem okS_while {c : Ev → Sto → R Bool} {body : Ev → Sto → RS} {Q : F → Sto → Prop} (I : Nat → Ev → Sto → Prop)
    (hs : ∀ m Γ S, I m Γ S → okR (c Γ S) fun b S => match b with
      | false => Q (.nx Γ) S
      | true => okS (body Γ S) (lpQ (fun Γ S => ∃ m', m' < m ∧ I m' Γ S) Q)) : ∀ (n m : Nat) (Γ : Ev) (S : Sto), m < n → I m Γ S → okS (whlL c body n Γ S) Q
  | 0, _, _, _, h, _ => by omega
  | n + 1, m, Γ, S, h, hI => by
    unfold whlL
    rw [okS_of]
    refine okR_imp (hs m Γ S hI) fun b S h1 => ?_
    cases b with
    | false => exact h1
    | true =>
      simp only at h1 ⊢
      cases e : body Γ S with
      | ok f S2 =>
        rw [e] at h1
        cases f with
        | nx Γ2 => obtain ⟨m', hm, h2⟩ := h1; exact okS_while I hs n m' Γ2 S2 (by omega) h2
        | ct Γ2 => obtain ⟨m', hm, h2⟩ := h1; exact okS_while I hs n m' Γ2 S2 (by omega) h2
        | bk Γ2 => exact h1
        | rt d => exact h1
      | exc _ _ _ _ => rw [e] at h1; exact h1.elim
      | stuck => rw [e] at h1; exact h1.elim
/-- a comprehension: I (turn) (made so far) (store) -/
theorem okR_comp {ks : List (Nat × List D)} {t : Tg} {f : Ev → Sto → R (List D)} {Γ : Ev} {Q : List D → Sto → Prop} (I : Nat → List D → Sto → Prop) : ∀ (xs : List D) (i : Nat) (acc : List D) (S : Sto),
    I i acc S → (∀ j acc S, I j acc S → stays S ks = true) →
    (∀ j x acc S, xs[j]? = some x → I (i + j) acc S → ∃ Γ', asg t x Γ = some Γ' ∧ okR (f Γ' S) fun ys S' => I (i + j + 1) (acc ++ ys) S') →
    (∀ acc' S, I (i + xs.length) (acc ++ acc') S → acc'.length ≤ big ∧ Q acc' S) → (∀ j acc S, I j acc S → acc.length ≤ big) → okR (compL ks t f Γ xs S) Q
  | [], i, acc, S, h0, hst, _, he, _ => by
    unfold compL
    rw [okR_gd, hst i acc S h0]
    exact ⟨rfl, (he [] S (by simpa using h0)).2⟩
  | x :: xs, i, acc, S, h0, hst, hs, he, hb => by
    unfold compL
    rw [okR_gd, hst i acc S h0]
    refine ⟨rfl, ?_⟩
    obtain ⟨Γ', h1, h2⟩ := hs 0 x acc S rfl h0
    rw [h1]
    simp only
    obtain ⟨ys, S1, e1, h3⟩ := okR_ex h2
    rw [e1]
    simp only
    have ih := okR_comp (Q := fun zs S => (ys.length + zs.length ≤ big) ∧ Q (ys ++ zs) S) I xs (i + 1) (acc ++ ys) S1 h3 hst (fun j y acc S hj hI => by
      have := hs (j + 1) y acc S (by simpa using hj) (by rw [show i + (j + 1) = i + 1 + j by omega]; exact hI)
      rw [show i + (j + 1) + 1 = i + 1 + j + 1 by omega] at this
      exact this) (fun acc' S h => by
        have := he (ys ++ acc') S (by rw [List.length_cons, show i + (xs.length + 1) = i + 1 + xs.length by omega, ← List.append_assoc]; exact h)
        rw [List.length_append] at this
        exact ⟨by omega, this.1, this.2⟩) hb
    obtain ⟨zs, S2, e2, h4, h5⟩ := okR_ex ih
    rw [e2]
    simp only
    rw [okR_gd]
    exact ⟨Nat.ble_eq_true_of_le h4, h5⟩
end
end DL

set_option linter.all false
set_option maxRecDepth 100000
set_option maxHeartbeats 2000000
set_option autoImplicit false
/-! DP2: the interpreter's equations for simp (printed by eqs.py). -/
namespace DL
variable {T : Tb} {cl : Orc}
@[simp] theorem q_ev1 {i} (Γ : Ev) (S : Sto) : ev T cl (.var i) Γ S = (match Γ[i]? with
    | some (some d) => .ok d S
    | _ => .stuck) := by rw [ev] <;> rfl
@[simp] theorem q_ev2 {d} (Γ : Ev) (S : Sto) : ev T cl (.con d) Γ S = .ok d S := by rw [ev] <;> rfl
@[simp] theorem q_ev3 {g} (Γ : Ev) (S : Sto) : ev T cl (.glo g) Γ S = optR T.glo[g]? S := by rw [ev] <;> rfl
@[simp] theorem q_ev4 {es} (Γ : Ev) (S : Sto) : ev T cl (.tup es) Γ S = (evs T cl es Γ S).bind fun ds S => .ok (.tup ds) S := by rw [ev] <;> rfl
@[simp] theorem q_ev5 {a} (Γ : Ev) (S : Sto) : ev T cl (.new a) Γ S = (evA T cl a Γ S).bind fun v S => (match v with
    | .l xs => .ok (.ref S.length) (S ++ [.lst xs])
    | _ => .stuck) := by rw [ev] <;> rfl
@[simp] theorem q_ev6 {a b o} (Γ : Ev) (S : Sto) : ev T cl (.op2 o a b) Γ S = (evA T cl a Γ S).bind fun x S => (evA T cl b Γ S).bind fun y S => op2 T cl o x y S := by rw [ev] <;> rfl
@[simp] theorem q_ev7 {a} (Γ : Ev) (S : Sto) : ev T cl (.neg a) Γ S = (ev T cl a Γ S).bind fun d S => (match d with
    | .int i => .ok (.int (-i)) S
    | _ => .stuck) := by rw [ev] <;> rfl
@[simp] theorem q_ev8 {a} (Γ : Ev) (S : Sto) : ev T cl (.nt a) Γ S = (ev T cl a Γ S).bind fun d S => (match d with
    | .bl b => .ok (.bl (!b)) S
    | _ => .stuck) := by rw [ev] <;> rfl
@[simp] theorem q_ev9 {a b} (Γ : Ev) (S : Sto) : ev T cl (.and a b) Γ S = (ev T cl a Γ S).bind fun d S => (match d with
    | .bl true => ev T cl b Γ S
    | .bl false => .ok (.bl false) S
    | _ => .stuck) := by rw [ev] <;> rfl
@[simp] theorem q_ev10 {a b} (Γ : Ev) (S : Sto) : ev T cl (.or a b) Γ S = (ev T cl a Γ S).bind fun d S => (match d with
    | .bl true => .ok (.bl true) S
    | .bl false => ev T cl b Γ S
    | _ => .stuck) := by rw [ev] <;> rfl
@[simp] theorem q_ev11 {a b c} (Γ : Ev) (S : Sto) : ev T cl (.ite c a b) Γ S = (tst T cl c Γ S).bind fun k S => (match k with
    | true => ev T cl a Γ S
    | false => ev T cl b Γ S) := by rw [ev] <;> rfl
@[simp] theorem q_ev12 {a b c o o'} (Γ : Ev) (S : Sto) : ev T cl (.chain o o' a b c) Γ S = (ev T cl a Γ S).bind fun x S => (ev T cl b Γ S).bind fun y S => (op2 T cl o (.d x) (.d y) S).bind fun k S => (match k with
    | .bl true => (ev T cl c Γ S).bind fun z S => op2 T cl o' (.d y) (.d z) S
    | .bl false => .ok (.bl false) S
    | _ => .stuck) := by rw [ev] <;> rfl
@[simp] theorem q_ev13 {a n} (Γ : Ev) (S : Sto) : ev T cl (.isN n a) Γ S = (ev T cl a Γ S).bind fun d S => .ok (.bl (match d with
    | .non => !n
    | _ => n)) S := by rw [ev] <;> rfl
@[simp] theorem q_ev14 {a b n} (Γ : Ev) (S : Sto) : ev T cl (.isB n b a) Γ S = (ev T cl a Γ S).bind fun d S => (match d with
    | .bl c => .ok (.bl (if n then !(c == b) else c == b)) S
    | _ => .stuck) := by rw [ev] <;> rfl
@[simp] theorem q_ev15 {a t} (Γ : Ev) (S : Sto) : ev T cl (.isi a t) Γ S = (ev T cl a Γ S).bind fun d S => okB (tyT T S t d) S := by rw [ev] <;> rfl
@[simp] theorem q_ev16 {a f} (Γ : Ev) (S : Sto) : ev T cl (.attr a f) Γ S = (ev T cl a Γ S).bind fun d S => attrT T S f d := by rw [ev] <;> rfl
@[simp] theorem q_ev17 {a i} (Γ : Ev) (S : Sto) : ev T cl (.item a i) Γ S = (evA T cl a Γ S).bind fun x S => (ev T cl i Γ S).bind fun y S => itemT T cl x y S := by rw [ev] <;> rfl
@[simp] theorem q_ev18 {a hi lo} (Γ : Ev) (S : Sto) : ev T cl (.slc a lo hi) Γ S = (evA T cl a Γ S).bind fun x S => (evO T cl lo Γ S).bind fun l S => (evO T cl hi Γ S).bind fun h S => slcT x l h S := by rw [ev] <;> rfl
@[simp] theorem q_ev19 {a f} (Γ : Ev) (S : Sto) : ev T cl (.bf f a) Γ S = (evA T cl a Γ S).bind fun x S => bfT T cl f x S := by rw [ev] <;> rfl
@[simp] theorem q_ev20 {a b mx} (Γ : Ev) (S : Sto) : ev T cl (.mnx mx a b) Γ S = (ev T cl a Γ S).bind fun x S => (ev T cl b Γ S).bind fun y S => (match x, y with
    | .int i, .int j => .ok (.int (if mx then (if j > i then j else i) else (if j < i then j else i))) S
    | _, _ => .stuck) := by rw [ev] <;> rfl
@[simp] theorem q_ev21 {es f} (Γ : Ev) (S : Sto) : ev T cl (.call f es) Γ S = (evs T cl es Γ S).bind fun ds S => cl f ds S := by rw [ev] <;> rfl
@[simp] theorem q_ev22 {a es m} (Γ : Ev) (S : Sto) : ev T cl (.meth a m es) Γ S = (ev T cl a Γ S).bind fun x S => (match mthT T S x m with
    | some f => (evs T cl es Γ S).bind fun ds S => cl f (x :: ds) S
    | none => .stuck) := by rw [ev] <;> rfl
@[simp] theorem q_ev23 {c es} (Γ : Ev) (S : Sto) : ev T cl (.make c es) Γ S = (evs T cl es Γ S).bind fun ds S => (match mth T c iInit with
    | some f => (cl f (.ref S.length :: ds) (S ++ [.ins c []])).bind fun d S' => (match d with
      | .non => .ok (.ref S.length) S'
      | _ => .stuck)
    | none => .stuck) := by rw [ev] <;> rfl
@[simp] theorem q_ev24 {es f g} (Γ : Ev) (S : Sto) : ev T cl (.callS f es g) Γ S = (evs T cl es Γ S).bind fun ds S => cl f (g.map (pick .non id ds)) S := by rw [ev] <;> rfl
@[simp] theorem q_ev25 {c es g} (Γ : Ev) (S : Sto) : ev T cl (.makeS c es g) Γ S = (evs T cl es Γ S).bind fun ds S => (match mth T c iInit with
    | some f => (cl f (.ref S.length :: g.map (pick .non id ds)) (S ++ [.ins c []])).bind fun d S' => (match d with
      | .non => .ok (.ref S.length) S'
      | _ => .stuck)
    | none => .stuck) := by rw [ev] <;> rfl
@[simp] theorem q_ev26 {a b m} (Γ : Ev) (S : Sto) : ev T cl (.mt m a b) Γ S = (ev T cl a Γ S).bind fun x S => gd (rcv S m x) ((evA T cl b Γ S).bind fun y S => mtT m x y S) := by rw [ev] <;> rfl
@[simp] theorem q_ev27 {a m} (Γ : Ev) (S : Sto) : ev T cl (.mt0 m a) Γ S = (ev T cl a Γ S).bind fun x S => gd (rcv S m x) (mt0T m x S) := by rw [ev] <;> rfl
@[simp] theorem q_ev28 (Γ : Ev) (S : Sto) : ev T cl (.dnew) Γ S = .ok (.ref S.length) (S ++ [.dic []]) := by rw [ev] <;> rfl
@[simp] theorem q_ev29 {it k t v} (Γ : Ev) (S : Sto) : ev T cl (.dcomp it t k v) Γ S = (evI T cl it Γ S).bind fun w S => (dcompL w.ks t (ev T cl k) (ev T cl v) Γ w.xs [] S).bind fun kvs S => .ok (.ref S.length) (S ++ [.dic kvs]) := by rw [ev] <;> rfl
@[simp] theorem q_evs30 (Γ : Ev) (S : Sto) : evs T cl (.nil) Γ S = .ok [] S := by rw [evs] <;> rfl
@[simp] theorem q_evs31 {e es} (Γ : Ev) (S : Sto) : evs T cl (.cons e es) Γ S = (ev T cl e Γ S).bind fun d S => (evs T cl es Γ S).bind fun ds S => .ok (d :: ds) S := by rw [evs] <;> rfl
@[simp] theorem q_evO32 (Γ : Ev) (S : Sto) : evO T cl (.no) Γ S = .ok none S := by rw [evO] <;> rfl
@[simp] theorem q_evO33 {e} (Γ : Ev) (S : Sto) : evO T cl (.yes e) Γ S = (ev T cl e Γ S).bind fun d S => (match d with
    | .int i => .ok (some i) S
    | _ => .stuck) := by rw [evO] <;> rfl
@[simp] theorem q_tst34 {e} (Γ : Ev) (S : Sto) : tst T cl (.t e) Γ S = (ev T cl e Γ S).bind fun d S => optR (truth S d) S := by rw [tst] <;> rfl
@[simp] theorem q_tst35 {c} (Γ : Ev) (S : Sto) : tst T cl (.not c) Γ S = (tst T cl c Γ S).bind fun b S => .ok (!b) S := by rw [tst] <;> rfl
@[simp] theorem q_tst36 {c d} (Γ : Ev) (S : Sto) : tst T cl (.and c d) Γ S = (tst T cl c Γ S).bind fun b S => (match b with
    | true => tst T cl d Γ S
    | false => .ok false S) := by rw [tst] <;> rfl
@[simp] theorem q_tst37 {c d} (Γ : Ev) (S : Sto) : tst T cl (.or c d) Γ S = (tst T cl c Γ S).bind fun b S => (match b with
    | true => .ok true S
    | false => tst T cl d Γ S) := by rw [tst] <;> rfl
@[simp] theorem q_tst38 {a b c} (Γ : Ev) (S : Sto) : tst T cl (.ite c a b) Γ S = (tst T cl c Γ S).bind fun k S => (match k with
    | true => tst T cl a Γ S
    | false => tst T cl b Γ S) := by rw [tst] <;> rfl
@[simp] theorem q_tstO39 (Γ : Ev) (S : Sto) : tstO T cl (.no) Γ S = .ok true S := by rw [tstO] <;> rfl
@[simp] theorem q_tstO40 {c} (Γ : Ev) (S : Sto) : tstO T cl (.yes c) Γ S = tst T cl c Γ S := by rw [tstO] <;> rfl
@[simp] theorem q_evA41 {e} (Γ : Ev) (S : Sto) : evA T cl (.e e) Γ S = (ev T cl e Γ S).bind fun d S => .ok (.d d) S := by rw [evA] <;> rfl
@[simp] theorem q_evA42 {es} (Γ : Ev) (S : Sto) : evA T cl (.lst es) Γ S = (evs T cl es Γ S).bind fun ds S => .ok (.l ds) S := by rw [evA] <;> rfl
@[simp] theorem q_evA43 {c e it t} (Γ : Ev) (S : Sto) : evA T cl (.lc it t c e) Γ S = (evI T cl it Γ S).bind fun w S => (compL w.ks t (fun Γ S => (tstO T cl c Γ S).bind fun b S => (match b with
    | true => (ev T cl e Γ S).bind fun d S => .ok [d] S
    | false => .ok [] S)) Γ w.xs S).bind fun ds S => .ok (.l ds) S := by rw [evA] <;> rfl
@[simp] theorem q_evA44 {c c2 e it it2 t t2} (Γ : Ev) (S : Sto) : evA T cl (.lc2 it t c it2 t2 c2 e) Γ S = (evI T cl it Γ S).bind fun w S => (compL w.ks t (fun Γ S => (tstO T cl c Γ S).bind fun b S => (match b with
    | true => (evI T cl it2 Γ S).bind fun w2 S => compL w2.ks t2 (fun Γ S => (tstO T cl c2 Γ S).bind fun b S => (match b with
      | true => (ev T cl e Γ S).bind fun d S => .ok [d] S
      | false => .ok [] S)) Γ w2.xs S
    | false => .ok [] S)) (clr Γ (slots t2)) w.xs S).bind fun ds S => .ok (.l ds) S := by rw [evA] <;> rfl
@[simp] theorem q_evA45 {e it t} (Γ : Ev) (S : Sto) : evA T cl (.sc it t e) Γ S = (evI T cl it Γ S).bind fun w S => (compL w.ks t (fun Γ S => (ev T cl e Γ S).bind fun d S => .ok [d] S) Γ w.xs S).bind fun ds S => .ok (.l ds) S := by rw [evA] <;> rfl
@[simp] theorem q_evI46 {a} (Γ : Ev) (S : Sto) : evI T cl (.a a) Γ S = (evA T cl a Γ S).bind fun x S => optR (wkA S x) S := by rw [evI] <;> rfl
@[simp] theorem q_evI47 {hi lo} (Γ : Ev) (S : Sto) : evI T cl (.rng lo hi) Γ S = (ev T cl lo Γ S).bind fun x S => (ev T cl hi Γ S).bind fun y S => rngT x y S := by rw [evI] <;> rfl
@[simp] theorem q_evI48 {hi lo st} (Γ : Ev) (S : Sto) : evI T cl (.rng3 lo hi st) Γ S = (ev T cl lo Γ S).bind fun x S => (ev T cl hi Γ S).bind fun y S => (ev T cl st Γ S).bind fun z S => rng3T x y z S := by rw [evI] <;> rfl
@[simp] theorem q_evI49 {a} (Γ : Ev) (S : Sto) : evI T cl (.enum a) Γ S = (evA T cl a Γ S).bind fun x S => enumT x S := by rw [evI] <;> rfl
@[simp] theorem q_evI50 {a b} (Γ : Ev) (S : Sto) : evI T cl (.zip a b) Γ S = (evA T cl a Γ S).bind fun x S => (evA T cl b Γ S).bind fun y S => zipT x y S := by rw [evI] <;> rfl
@[simp] theorem q_exec51 {e t} (Γ : Ev) (S : Sto) : exec T cl (.set t e) Γ S = RS.of (ev T cl e Γ S) Γ fun d S => RS.opt (asg t d Γ) S := by rw [exec] <;> rfl
@[simp] theorem q_exec52 {es is} (Γ : Ev) (S : Sto) : exec T cl (.par is es) Γ S = RS.of (evs T cl es Γ S) Γ fun ds S => RS.opt (setAll is ds Γ) S := by rw [exec] <;> rfl
@[simp] theorem q_exec53 {e f o} (Γ : Ev) (S : Sto) : exec T cl (.atr o f e) Γ S = RS.of (ev T cl e Γ S) Γ fun v S => RS.of (ev T cl o Γ S) Γ fun x S => oSto (setAttr T S x f v) Γ := by rw [exec] <;> rfl
@[simp] theorem q_exec54 {e ts} (Γ : Ev) (S : Sto) : exec T cl (.mix ts e) Γ S = RS.of (ev T cl e Γ S) Γ fun v S => (match v with
    | .tup ds => mixL T ts ds Γ S
    | _ => .stuck) := by rw [exec] <;> rfl
@[simp] theorem q_exec55 {e i o} (Γ : Ev) (S : Sto) : exec T cl (.itm o i e) Γ S = RS.of (ev T cl e Γ S) Γ fun v S => RS.of (ev T cl o Γ S) Γ fun x S => RS.of (ev T cl i Γ S) Γ fun y S => oSto (setItem S x y v) Γ := by rw [exec] <;> rfl
@[simp] theorem q_exec56 {e i o} (Γ : Ev) (S : Sto) : exec T cl (.aug i o e) Γ S = (match Γ[i]? with
    | some (some x) => RS.of (ev T cl e Γ S) Γ fun y S => RS.of (augT o x y S) Γ fun z S => .ok (.nx (Γ.set i (some z))) S
    | _ => .stuck) := by rw [exec] <;> rfl
@[simp] theorem q_exec57 {e f o op} (Γ : Ev) (S : Sto) : exec T cl (.auga o f op e) Γ S = RS.of (ev T cl o Γ S) Γ fun x S => RS.of (attrT T S f x) Γ fun v S => RS.of (ev T cl e Γ S) Γ fun y S2 => RS.of (gd (sameCls S S2 x) (augT op v y S2)) Γ fun z S => oSto (setAttr T S x f z) Γ := by rw [exec] <;> rfl
@[simp] theorem q_exec58 {e} (Γ : Ev) (S : Sto) : exec T cl (.ex e) Γ S = RS.of (ev T cl e Γ S) Γ fun _ S => .ok (.nx Γ) S := by rw [exec] <;> rfl
@[simp] theorem q_exec59 {e} (Γ : Ev) (S : Sto) : exec T cl (.ret e) Γ S = RS.of (ev T cl e Γ S) Γ fun d S => .ok (.rt d) S := by rw [exec] <;> rfl
@[simp] theorem q_exec60 (Γ : Ev) (S : Sto) : exec T cl (.retN) Γ S = .ok (.rt .non) S := by rw [exec] <;> rfl
@[simp] theorem q_exec61 {a b c} (Γ : Ev) (S : Sto) : exec T cl (.ife c a b) Γ S = RS.of (tst T cl c Γ S) Γ fun k S => (match k with
    | true => execs T cl a Γ S
    | false => execs T cl b Γ S) := by rw [exec] <;> rfl
@[simp] theorem q_exec62 {b it t} (Γ : Ev) (S : Sto) : exec T cl (.for t it b) Γ S = RS.of (evI T cl it Γ S) Γ fun w S => forL w.ks t (execs T cl b) w.xs Γ S := by rw [exec] <;> rfl
@[simp] theorem q_exec63 {b c} (Γ : Ev) (S : Sto) : exec T cl (.whl c b) Γ S = whlL (tst T cl c) (execs T cl b) most Γ S := by rw [exec] <;> rfl
@[simp] theorem q_exec64 {c es} (Γ : Ev) (S : Sto) : exec T cl (.raise c es) Γ S = RS.of (evs T cl es Γ S) Γ fun ds S => .exc c ds Γ S := by rw [exec] <;> rfl
@[simp] theorem q_exec65 (Γ : Ev) (S : Sto) : exec T cl (.pass) Γ S = .ok (.nx Γ) S := by rw [exec] <;> rfl
@[simp] theorem q_exec66 (Γ : Ev) (S : Sto) : exec T cl (.brk) Γ S = .ok (.bk Γ) S := by rw [exec] <;> rfl
@[simp] theorem q_exec67 (Γ : Ev) (S : Sto) : exec T cl (.cont) Γ S = .ok (.ct Γ) S := by rw [exec] <;> rfl
@[simp] theorem q_exec68 (Γ : Ev) (S : Sto) : exec T cl (.no) Γ S = .stuck := by rw [exec] <;> rfl
@[simp] theorem q_execs69 (Γ : Ev) (S : Sto) : execs T cl (.nil) Γ S = .ok (.nx Γ) S := by rw [execs] <;> rfl
@[simp] theorem q_execs70 {s ss} (Γ : Ev) (S : Sto) : execs T cl (.cons s ss) Γ S = RS.nx (exec T cl s Γ S) fun Γ S => execs T cl ss Γ S := by rw [execs] <;> rfl
end DL

set_option linter.all false
set_option maxRecDepth 100000
set_option maxHeartbeats 2000000
set_option autoImplicit false
/-! DP3: the operations for simp. -/
namespace DL
section
variable {α β : Type} {T : Tb} {cl : Orc} {S : Sto}
@[simp] theorem R_bind_ok {a : α} {k : α → Sto → R β} : R.bind (.ok a S) k = k a S := Eq.trans rfl rfl
@[simp] theorem gd_true {r : R α} : gd true r = r := Eq.trans rfl rfl
@[simp] theorem optR_some {a : α} : optR (some a) S = .ok a S := rfl
@[simp] theorem optR_none : optR (none : Option α) S = .stuck := rfl
@[simp] theorem okB_some {b : Bool} : okB (some b) S = .ok (.bl b) S := rfl
@[simp] theorem nokB_some {b : Bool} : nokB (some b) S = .ok (.bl (!b)) S := rfl
theorem okR_optR {o : Option α} {Q : α → Sto → Prop} : okR (optR o S) Q = ∃ a, o = some a ∧ Q a S := by cases o <;> simp
@[simp] theorem RS_opt_some {Γ : Ev} : RS.opt (some Γ) S = .ok (.nx Γ) S := rfl
@[simp] theorem oSto_some {Γ : Ev} : oSto (some S) Γ = .ok (.nx Γ) S := rfl
@[simp] theorem RS_of_ok {a : α} {Γ : Ev} {k : α → Sto → RS} : RS.of (.ok a S) Γ k = k a S := Eq.trans rfl rfl
@[simp] theorem RS_nx_nx {Γ : Ev} {k : Ev → Sto → RS} : RS.nx (.ok (.nx Γ) S) k = k Γ S := Eq.trans rfl rfl
@[simp] theorem RS_nx_rt {d : D} {k : Ev → Sto → RS} : RS.nx (.ok (.rt d) S) k = .ok (.rt d) S := Eq.trans rfl rfl
@[simp] theorem asg_nm {i : Nat} {d : D} {Γ : Ev} : asg (.nm i) d Γ = some (Γ.set i (some d)) := rfl
@[simp] theorem asg_tp {is : List Nat} {ds : List D} {Γ : Ev} : asg (.tp is) (.tup ds) Γ = setAll is ds Γ := rfl
@[simp] theorem setAll_nil {Γ : Ev} : setAll [] [] Γ = some Γ := rfl
@[simp] theorem setAll_cons {i : Nat} {is : List Nat} {d : D} {ds : List D} {Γ : Ev} : setAll (i :: is) (d :: ds) Γ = setAll is ds (Γ.set i (some d)) := rfl
@[simp] theorem slots_nm {i : Nat} : slots (.nm i) = [i] := rfl
@[simp] theorem slots_tp {is : List Nat} : slots (.tp is) = is := rfl
@[simp] theorem clr_nil {Γ : Ev} : clr Γ [] = Γ := rfl
@[simp] theorem clr_cons {Γ : Ev} {i : Nat} {is : List Nat} : clr Γ (i :: is) = (clr Γ is).set i none := rfl
/-! operators -/
@[simp] theorem op_add {a b : TV} : op2 T cl .add a b S = addT S a b := rfl
@[simp] theorem add_ii {i j : Int} : addT S (.d (.int i)) (.d (.int j)) = .ok (.int (i + j)) S := rfl
@[simp] theorem add_ss {s t : List Nat} : addT S (.d (.str s)) (.d (.str t)) = gd (Nat.ble (s.length + t.length) big) (.ok (.str (s ++ t)) S) := by simp only [addT]
@[simp] theorem add_tt {s t : List D} : addT S (.d (.tup s)) (.d (.tup t)) = gd (Nat.ble (s.length + t.length) big) (.ok (.tup (s ++ t)) S) := by simp only [addT]
@[simp] theorem op_sub {i j : Int} : op2 T cl .sub (.d (.int i)) (.d (.int j)) S = .ok (.int (i - j)) S := rfl
@[simp] theorem op_mul {i j : Int} : op2 T cl .mul (.d (.int i)) (.d (.int j)) S = gd (mulOk i j) (.ok (.int (i * j)) S) := by simp only [op2, int2]
@[simp] theorem op_fdiv {i j : Int} : op2 T cl .fdiv (.d (.int i)) (.d (.int j)) S = gd (decide (0 < j) && decide (j < 1073741824)) (.ok (.int (i / j)) S) := by simp only [op2, int2]
@[simp] theorem op_mod {i j : Int} : op2 T cl .mod (.d (.int i)) (.d (.int j)) S = gd (decide (0 < j)) (.ok (.int (i % j)) S) := by simp only [op2, int2]
@[simp] theorem op_pow {i j : Int} : op2 T cl .pow (.d (.int i)) (.d (.int j)) S = gd (decide (0 ≤ j) && decide (j ≤ 1000) && (decide (0 ≤ i) && decide (i < 1000))) (.ok (.int (i ^ j.toNat)) S) := by simp only [op2, int2]
@[simp] theorem op_lt {i j : Int} : op2 T cl .lt (.d (.int i)) (.d (.int j)) S = .ok (.bl (decide (i < j))) S := rfl
@[simp] theorem op_le {i j : Int} : op2 T cl .le (.d (.int i)) (.d (.int j)) S = .ok (.bl (decide (i ≤ j))) S := rfl
@[simp] theorem op_gt {i j : Int} : op2 T cl .gt (.d (.int i)) (.d (.int j)) S = .ok (.bl (decide (j < i))) S := rfl
@[simp] theorem op_ge {i j : Int} : op2 T cl .ge (.d (.int i)) (.d (.int j)) S = .ok (.bl (decide (j ≤ i))) S := rfl
@[simp] theorem op_eq {a b : TV} : op2 T cl .eq a b S = okB (eqT S a b) S := rfl
@[simp] theorem op_ne {a b : TV} : op2 T cl .ne a b S = nokB (eqT S a b) S := rfl
@[simp] theorem op_isin {a b : TV} : op2 T cl .isin a b S = okB (inT S a b) S := rfl
@[simp] theorem op_notin {a b : TV} : op2 T cl .notin a b S = nokB (inT S a b) S := rfl
@[simp] theorem eq_ii {i j : Int} : eqT S (.d (.int i)) (.d (.int j)) = some (decide (i = j)) := rfl
@[simp] theorem eq_ss {s t : List Nat} : eqT S (.d (.str s)) (.d (.str t)) = some (decide (s = t)) := rfl
@[simp] theorem eq_bb {a b : Bool} : eqT S (.d (.bl a)) (.d (.bl b)) = some (a == b) := rfl
theorem eq_flat' {x y : D} (hx : flatD x = true) (hy : flatD y = true) : eqT S (.d x) (.d y) = some (eqv x y) := by simp [eqT, hx, hy]
theorem eq_tup {xs ys : List D} (hx : okD 20 (.tup xs) = true) (hy : okD 20 (.tup ys) = true) : eqT S (.d (.tup xs)) (.d (.tup ys)) = some (eqvs xs ys) := by
  unfold eqT
  dsimp only
  rw [if_neg (by simp [flatD]), if_pos (by rw [hx, hy]; rfl)]
  rfl
theorem eq_lst {n m : Nat} {xs ys : List D} (h1 : S[n]? = some (.lst xs)) (h2 : S[m]? = some (.lst ys)) (hx : xs.all (okD 20) = true) (hy : ys.all (okD 20) = true) : eqT S (.d (.ref n)) (.d (.ref m)) = some (eqvs xs ys) := by
  unfold eqT
  dsimp only
  rw [if_neg (by simp [flatD]), if_neg (by simp [okD])]
  simp only [lsts, h1, h2, hx, hy, Bool.and_self, if_true]
@[simp] theorem in_str {c : Nat} {t : List Nat} : inT S (.d (.str [c])) (.d (.str t)) = some (t.contains c) := rfl
theorem in_tup {x : D} {ys : List D} (h : flatD x = true) (h2 : ys.all flatD = true) : inT S (.d x) (.d (.tup ys)) = some (ys.any fun z => eqv z x) := by
  simp only [inT, h, h2, Bool.and_self, if_true]
theorem in_lst {x : D} {n : Nat} {ys : List D} (hn : S[n]? = some (.lst ys)) (h : flatD x = true) (h2 : ys.all flatD = true) : inT S (.d x) (.d (.ref n)) = some (ys.any fun z => eqv z x) := by
  simp only [inT, lsts, hn, h, h2, Bool.and_self, if_true]
theorem in_l {x : D} {ys : List D} (h : flatD x = true) (h2 : ys.all flatD = true) : inT S (.d x) (.l ys) = some (ys.any fun z => eqv z x) := by
  simp only [inT, lsts, h, h2, Bool.and_self, if_true]
theorem in_lstD {x : D} {n : Nat} {ys : List D} (hn : S[n]? = some (.lst ys)) (h : okD 20 x = true) (h2 : ys.all (okD 20) = true) : inT S (.d x) (.d (.ref n)) = some (ys.any fun z => eqv z x) := by
  simp only [inT, lsts, hn]
  split
  · rfl
  · rw [if_pos (by rw [h, h2]; rfl)]
/-! truth -/
@[simp] theorem truth_bl {b : Bool} : truth S (.bl b) = some b := rfl
@[simp] theorem truth_int {i : Int} : truth S (.int i) = some (!decide (i = 0)) := rfl
@[simp] theorem truth_non : truth S .non = some false := rfl
@[simp] theorem truth_tup {xs : List D} : truth S (.tup xs) = some (!xs.isEmpty) := rfl
/-! items -/
@[simp] theorem its_l {xs : List D} : its S (.l xs) = some xs := rfl
@[simp] theorem its_tup {xs : List D} : its S (.d (.tup xs)) = some xs := rfl
theorem its_lst {n : Nat} {xs : List D} (h : S[n]? = some (.lst xs)) : its S (.d (.ref n)) = some xs := by simp [its, h]
theorem its_ro {n : Nat} {xs : List D} (h : S[n]? = some (.ro xs)) : its S (.d (.ref n)) = some xs := by simp [its, h]
@[simp] theorem lsts_l {xs : List D} : lsts S (.l xs) = some xs := rfl
theorem lsts_lst {n : Nat} {xs : List D} (h : S[n]? = some (.lst xs)) : lsts S (.d (.ref n)) = some xs := by simp [lsts, h]
@[simp] theorem item_tup {xs : List D} {i : Int} : itemT T cl (.d (.tup xs)) (.int i) S = optR (L2.atI xs i) S := rfl
@[simp] theorem item_l {xs : List D} {i : Int} : itemT T cl (.l xs) (.int i) S = optR (L2.atI xs i) S := rfl
@[simp] theorem item_str {s : List Nat} {i : Int} : itemT T cl (.d (.str s)) (.int i) S = gd (Nat.ble s.length big) (optR ((L2.atI s i).map fun c => .str [c]) S) := by simp only [itemT]
theorem item_lst {n : Nat} {xs : List D} {i : Int} (h : S[n]? = some (.lst xs)) : itemT T cl (.d (.ref n)) (.int i) S = optR (L2.atI xs i) S := by
  simp [itemT, itemG, its_lst h, ixD]
theorem item_ro {n : Nat} {xs : List D} {i : Int} (h : S[n]? = some (.ro xs)) : itemT T cl (.d (.ref n)) (.int i) S = optR (L2.atI xs i) S := by
  simp [itemT, itemG, its_ro h, ixD]
theorem atI_nat {xs : List α} {n : Nat} : L2.atI xs (n : Int) = xs[n]? := by
  unfold L2.atI L2.ixN
  rw [if_pos (by omega)]
  by_cases h : n < xs.length
  · rw [if_pos (by omega)]; simp
  · rw [if_neg (by omega), List.getElem?_eq_none (by omega)]; rfl
theorem atI_at {xs : List α} {i : Int} (h : 0 ≤ i) : L2.atI xs i = xs[i.toNat]? := by
  have e : i = (i.toNat : Int) := by omega
  conv => lhs; rw [e]
  exact atI_nat
@[simp] theorem atI_0 {xs : List α} : L2.atI xs 0 = xs[0]? := atI_nat (n := 0)
@[simp] theorem atI_1 {xs : List α} : L2.atI xs 1 = xs[1]? := atI_nat (n := 1)
@[simp] theorem atI_2 {xs : List α} : L2.atI xs 2 = xs[2]? := atI_nat (n := 2)
@[simp] theorem atI_3 {xs : List α} : L2.atI xs 3 = xs[3]? := atI_nat (n := 3)
@[simp] theorem atI_4 {xs : List α} : L2.atI xs 4 = xs[4]? := atI_nat (n := 4)
@[simp] theorem atI_5 {xs : List α} : L2.atI xs 5 = xs[5]? := atI_nat (n := 5)
@[simp] theorem atI_6 {xs : List α} : L2.atI xs 6 = xs[6]? := atI_nat (n := 6)
theorem atI_m1 {xs : List α} : L2.atI xs (-1) = xs[xs.length - 1]? := by
  unfold L2.atI L2.ixN
  rw [if_neg (by omega)]
  by_cases h : 1 ≤ xs.length
  · rw [if_pos (by omega)]
    show xs[((-1 : Int) + xs.length).toNat]? = _
    congr 1; omega
  · rw [if_neg (by omega)]
    have : xs = [] := List.eq_nil_of_length_eq_zero (by omega)
    subst this; rfl
/-! built-ins -/
@[simp] theorem bf_len_str {s : List Nat} : bfT T cl .len (.d (.str s)) S = gd (Nat.ble s.length big) (.ok (.int s.length) S) := by simp only [bfT]
@[simp] theorem bf_len_tup {xs : List D} : bfT T cl .len (.d (.tup xs)) S = .ok (.int xs.length) S := rfl
@[simp] theorem bf_len_l {xs : List D} : bfT T cl .len (.l xs) S = .ok (.int xs.length) S := rfl
theorem bf_len_ref {n : Nat} {xs : List D} (h : its S (.d (.ref n)) = some xs) : bfT T cl .len (.d (.ref n)) S = .ok (.int xs.length) S := by simp only [bfT, h]
@[simp] theorem bf_int_int {i : Int} : bfT T cl .int (.d (.int i)) S = .ok (.int i) S := rfl
@[simp] theorem bf_int_bl {b : Bool} : bfT T cl .int (.d (.bl b)) S = .ok (.int (if b then 1 else 0)) S := rfl
@[simp] theorem bf_list_l {xs : List D} : bfT T cl .list (.l xs) S = .ok (.ref S.length) (S ++ [.lst xs]) := rfl
@[simp] theorem bf_list_tup {xs : List D} : bfT T cl .list (.d (.tup xs)) S = .ok (.ref S.length) (S ++ [.lst xs]) := rfl
theorem bf_list_ref {n : Nat} {xs : List D} (h : its S (.d (.ref n)) = some xs) : bfT T cl .list (.d (.ref n)) S = .ok (.ref S.length) (S ++ [.lst xs]) := by simp only [bfT, h]
@[simp] theorem bf_tuple_l {xs : List D} : bfT T cl .tuple (.l xs) S = .ok (.tup xs) S := rfl
@[simp] theorem bf_tuple_tup {xs : List D} : bfT T cl .tuple (.d (.tup xs)) S = .ok (.tup xs) S := rfl
theorem bf_tuple_ref {n : Nat} {xs : List D} (h : its S (.d (.ref n)) = some xs) : bfT T cl .tuple (.d (.ref n)) S = .ok (.tup xs) S := by simp only [bfT, h]
theorem bf_all_l {xs : List D} {bs : List Bool} (h : blsD xs = some bs) : bfT T cl .all (.l xs) S = .ok (.bl (bs.all id)) S := by simp [bfT, isTup, h]
theorem bf_any_l {xs : List D} {bs : List Bool} (h : blsD xs = some bs) : bfT T cl .any (.l xs) S = .ok (.bl (bs.any id)) S := by simp [bfT, isTup, h]
theorem blsD_map (bs : List Bool) : blsD (bs.map D.bl) = some bs := by
  induction bs with
  | nil => rfl
  | cons b bs ih => simp [blsD, ih]
theorem blsD_comp {f : α → Bool} (xs : List α) : blsD (xs.map (D.bl ∘ f)) = some (xs.map f) := by
  rw [← List.map_map]; exact blsD_map _
@[simp] theorem bf_all_comp {f : α → Bool} {xs : List α} : bfT T cl .all (.l (xs.map (D.bl ∘ f))) S = .ok (.bl (xs.all f)) S := by
  rw [bf_all_l (blsD_comp xs)]; simp [List.all_map]
@[simp] theorem bf_any_comp {f : α → Bool} {xs : List α} : bfT T cl .any (.l (xs.map (D.bl ∘ f))) S = .ok (.bl (xs.any f)) S := by
  rw [bf_any_l (blsD_comp xs)]; simp [List.any_map]
theorem strsD_map (ss : List (List Nat)) : strsD (ss.map D.str) = some ss := by
  induction ss with
  | nil => rfl
  | cons b bs ih => simp [strsD, ih]
/-! kinds -/
@[simp] theorem ty_non {t : Ty} : tyT T S t .non = some false := rfl
@[simp] theorem ty_bl {t : Ty} {b : Bool} : tyT T S t (.bl b) = some (match t with | .bool => true | .int => true | _ => false) := rfl
@[simp] theorem ty_int {t : Ty} {i : Int} : tyT T S t (.int i) = some (match t with | .int => true | _ => false) := rfl
@[simp] theorem ty_str {t : Ty} {s : List Nat} : tyT T S t (.str s) = some (match t with | .str => true | _ => false) := rfl
@[simp] theorem ty_tup {t : Ty} {xs : List D} : tyT T S t (.tup xs) = some (match t with | .tuple => true | _ => false) := rfl
theorem ty_lstT {t : Ty} {n : Nat} {xs : List D} (h : S[n]? = some (.lst xs)) : tyT T S t (.ref n) = some (match t with | .list => true | _ => false) := by simp only [tyT, h] <;> cases t <;> rfl
/-! slices -/
@[simp] theorem slc_tup {xs : List D} {lo hi : Option Int} : slcT (.d (.tup xs)) lo hi S = .ok (.tup (cutL xs lo hi)) S := rfl
@[simp] theorem slc_str {s : List Nat} {lo hi : Option Int} : slcT (.d (.str s)) lo hi S = gd (Nat.ble s.length big) (.ok (.str (cutL s lo hi)) S) := by simp only [slcT]
@[simp] theorem slc_l {xs : List D} {lo hi : Option Int} : slcT (.l xs) lo hi S = .ok (.ref S.length) (S ++ [.lst (cutL xs lo hi)]) := rfl
theorem slc_ref {n : Nat} {xs : List D} {lo hi : Option Int} (h : its S (.d (.ref n)) = some xs) : slcT (.d (.ref n)) lo hi S = .ok (.ref S.length) (S ++ [.lst (cutL xs lo hi)]) := by simp only [slcT, h]
theorem cut_hi {xs : List α} {k : Int} (h : 0 ≤ k) : cutL xs none (some k) = xs.take k.toNat := by
  unfold cutL HT.sIx
  simp only
  rw [if_neg (by omega)]
  simp only [List.drop_zero, Nat.sub_zero]
  by_cases q : k.toNat ≤ xs.length
  · rw [Nat.min_eq_left q]
  · rw [Nat.min_eq_right (by omega), List.take_length, List.take_of_length_le (by omega)]
theorem cut_lo {xs : List α} {k : Int} (h : 0 ≤ k) : cutL xs (some k) none = xs.drop k.toNat := by
  unfold cutL HT.sIx
  simp only
  rw [if_neg (by omega)]
  by_cases q : k.toNat ≤ xs.length
  · rw [Nat.min_eq_left q, List.take_of_length_le (by simp)]
  · rw [Nat.min_eq_right (by omega), List.drop_length, List.drop_eq_nil_of_le (by omega)]; simp
theorem cut_neg {xs : List α} {k : Int} (h : k < 0) : cutL xs (some k) none = xs.drop (k + xs.length).toNat := by
  unfold cutL HT.sIx
  simp only
  rw [if_pos h, List.take_of_length_le (by simp)]
/-! walks -/
@[simp] theorem wk_tup {xs : List D} : wkA S (.d (.tup xs)) = some ⟨xs, []⟩ := rfl
@[simp] theorem wk_l {xs : List D} : wkA S (.l xs) = some ⟨xs, []⟩ := rfl
theorem wk_lst {n : Nat} {xs : List D} (h : S[n]? = some (.lst xs)) : wkA S (.d (.ref n)) = some ⟨xs, [(n, xs)]⟩ := by simp [wkA, h]
theorem wk_ro {n : Nat} {xs : List D} (h : S[n]? = some (.ro xs)) : wkA S (.d (.ref n)) = some ⟨xs, [(n, xs)]⟩ := by simp [wkA, h]
theorem wk_str {s : List Nat} (h : s.length ≤ big) : wkA S (.d (.str s)) = some ⟨s.map fun c => .str [c], []⟩ := by simp [wkA, h]
@[simp] theorem stays_nil : stays S [] = true := rfl
theorem stays_lst {n : Nat} {xs : List D} (h : S[n]? = some (.lst xs)) : stays S [(n, xs)] = true := by simp [stays, h, sames_refl]
theorem stays_ro {n : Nat} {xs : List D} (h : S[n]? = some (.ro xs)) : stays S [(n, xs)] = true := by simp [stays, h, sames_refl]
@[simp] theorem rngT_ii {i j : Int} : rngT (.int i) (.int j) S = gd (smallI i && smallI j) (.ok ⟨rngL i (j - i).toNat, []⟩ S) := by simp only [rngT]
theorem smallI_ok {i : Int} (h : -4611686018427387904 ≤ i) (h2 : i < 4611686018427387904) : smallI i = true := by simp [smallI, h, h2]
@[simp] theorem enumT_tup {xs : List D} : enumT (.d (.tup xs)) S = .ok ⟨enumL 0 xs, []⟩ S := rfl
@[simp] theorem zipT_tup {xs ys : List D} : zipT (.d (.tup xs)) (.d (.tup ys)) S = .ok ⟨zipL xs ys, []⟩ S := rfl
/-! stores -/
theorem setItem_lst {n : Nat} {xs : List D} {i : Int} {v : D} (h : S[n]? = some (.lst xs)) (h0 : 0 ≤ i) (h1 : i < xs.length) : setItem S (.ref n) (.int i) v = some (S.set n (.lst (xs.set i.toNat v))) := by
  simp only [setItem, h, L2.ixN]
  rw [if_pos h0, if_pos h1]; rfl
theorem append_ok {n : Nat} {xs : List D} {y : D} (h : S[n]? = some (.lst xs)) (hb : xs.length < big) : mtT .append (.ref n) (.d y) S = .ok .non (S.set n (.lst (xs ++ [y]))) := by
  have : Nat.blt xs.length big = true := Nat.ble_eq_true_of_le hb
  simp [mtT, h, this]
theorem rcv_append {n : Nat} {xs : List D} (h : S[n]? = some (.lst xs)) : rcv S .append (.ref n) = true := by simp [rcv, lsts, h]
theorem rcv_extend {n : Nat} {xs : List D} (h : S[n]? = some (.lst xs)) : rcv S .extend (.ref n) = true := by simp [rcv, lsts, h]
theorem extend_ok {n : Nat} {xs ys : List D} {b : TV} (h : S[n]? = some (.lst xs)) (hb : lsts S b = some ys) (hl : xs.length + ys.length ≤ big) : mtT .extend (.ref n) b S = .ok .non (S.set n (.lst (xs ++ ys))) := by
  have : Nat.ble (xs.length + ys.length) big = true := Nat.ble_eq_true_of_le hl
  simp [mtT, h, hb, this]
theorem mulOk_r {i j : Int} (h : -18446744073709551616 < j) (h2 : j < 18446744073709551616) : mulOk i j = true := by simp [mulOk, h, h2]
theorem mulOk_l {i j : Int} (h : -18446744073709551616 < i) (h2 : i < 18446744073709551616) : mulOk i j = true := by simp [mulOk, h, h2]
/-- a store with an object at its end -/
theorem at_end {X : Sto} {o : O} : (X ++ [o])[X.length]? = some o := by simp
theorem at_old {X Y : Sto} {i : Nat} {o : O} (h : X[i]? = some o) : (X ++ Y)[i]? = some o := by
  rw [List.getElem?_append_left (List.getElem?_eq_some_iff.mp h).1]; exact h
theorem at_set {X : Sto} {i : Nat} {o o' : O} (h : X[i]? = some o) : (X.set i o')[i]? = some o' := List.getElem?_set_self (List.getElem?_eq_some_iff.mp h).1
theorem at_set_ne {X : Sto} {i j : Nat} {o : O} (h : i ≠ j) : (X.set i o)[j]? = X[j]? := List.getElem?_set_ne h
end
end DL
namespace DL
section
variable {S : Sto}
/-- a comprehension that changes nothing -/
theorem compL_pure {ks : List (Nat × List D)} {t : Tg} {f : Ev → Sto → R (List D)} {Γ : Ev} (g : D → List D) (hst : stays S ks = true) : ∀ (xs : List D), (∀ x ∈ xs, ∃ Γ', asg t x Γ = some Γ' ∧ f Γ' S = .ok (g x) S ∧ (g x).length ≤ 1) → xs.length ≤ big → compL ks t f Γ xs S = .ok (xs.flatMap g) S
  | [], _, _ => by simp [compL, hst]
  | x :: xs, h, hl => by
    obtain ⟨Γ', h1, h2, h3⟩ := h x (by simp)
    have ih := compL_pure g hst xs (fun y hy => h y (by simp [hy])) (by simp at hl; omega)
    have hlen : ∀ ys : List D, (∀ y ∈ ys, (g y).length ≤ 1) → (ys.flatMap g).length ≤ ys.length := by
      intro ys
      induction ys with
      | nil => simp
      | cons y ys ihy =>
        intro hy
        have := hy y (by simp)
        have := ihy fun z hz => hy z (by simp [hz])
        rw [List.flatMap_cons, List.length_append, List.length_cons]; omega
    have h4 : (g x).length + (xs.flatMap g).length ≤ big := by
      have := hlen xs fun y hy => by
        obtain ⟨_, _, _, q⟩ := h y (by simp [hy])
        exact q
      simp at hl; omega
    have h5 : Nat.ble ((g x).length + (xs.flatMap g).length) big = true := Nat.ble_eq_true_of_le h4
    simp only [compL, hst, gd_true, h1, h2, ih, h5, List.flatMap_cons]
theorem compL_map {ks : List (Nat × List D)} {t : Tg} {f : Ev → Sto → R (List D)} {Γ : Ev} (g : D → D) (hst : stays S ks = true) (xs : List D) (h : ∀ x ∈ xs, ∃ Γ', asg t x Γ = some Γ' ∧ f Γ' S = .ok [g x] S) (hl : xs.length ≤ big) : compL ks t f Γ xs S = .ok (xs.map g) S := by
  rw [compL_pure (fun x => [g x]) hst xs (fun x hx => by
    obtain ⟨Γ', h1, h2⟩ := h x hx
    exact ⟨Γ', h1, h2, by simp⟩) hl]
  congr 1
  induction xs with
  | nil => rfl
  | cons x xs ih => simp [ih (fun y hy => h y (by simp [hy])) (by simp at hl; omega)]
theorem okR_map {ks : List (Nat × List D)} {t : Tg} {f : Ev → Sto → R (List D)} {Γ : Ev} {xs : List D} {Q : List D → Sto → Prop} (g : D → D) (hst : stays S ks = true) (h : ∀ x ∈ xs, ∃ Γ', asg t x Γ = some Γ' ∧ f Γ' S = .ok [g x] S) (hl : xs.length ≤ big) (q : Q (xs.map g) S) : okR (compL ks t f Γ xs S) Q := by
  rw [compL_map g hst xs h hl]; exact q
theorem okR_flat {ks : List (Nat × List D)} {t : Tg} {f : Ev → Sto → R (List D)} {Γ : Ev} {xs : List D} {Q : List D → Sto → Prop} (g : D → List D) (hst : stays S ks = true) (h : ∀ x ∈ xs, ∃ Γ', asg t x Γ = some Γ' ∧ f Γ' S = .ok (g x) S ∧ (g x).length ≤ 1) (hl : xs.length ≤ big) (q : Q (xs.flatMap g) S) : okR (compL ks t f Γ xs S) Q := by
  rw [compL_pure g hst xs h hl]; exact q
end
end DL

set_option linter.all false
set_option maxRecDepth 100000
set_option maxHeartbeats 2000000
set_option autoImplicit false
/-! DP4: is, several targets. -/
namespace DL
variable {T : Tb} {cl : Orc} {S : Sto}
@[simp] theorem op_iss {i j : Bool} : op2 T cl .iss (.d (.bl i)) (.d (.bl j)) S = .ok (.bl (decide (i = j))) S := by simp only [op2, bl2]
@[simp] theorem op_isnot {i j : Bool} : op2 T cl .isnot (.d (.bl i)) (.d (.bl j)) S = .ok (.bl (!decide (i = j))) S := by simp only [op2, bl2]
@[simp] theorem mixL_nil {Γ : Ev} : mixL T [] [] Γ S = .ok (.nx Γ) S := by simp only [mixL]
@[simp] theorem mixL_inl {i : Nat} {ts} {d : D} {ds} {Γ : Ev} : mixL T (.inl i :: ts) (d :: ds) Γ S = mixL T ts ds (Γ.set i (some d)) S := by simp only [mixL]
end DL

set_option linter.all false
set_option maxRecDepth 100000
set_option autoImplicit false
/-! the defs that laws share, in the small language (printed by gen.py base) -/
namespace G
open DL
structure Lk where
  f_is_integer : Nat
  f_is_name : Nat
  f_is_one_of : Nat
  f_are_names : Nat
  f_are_bits : Nat
  f_is_page : Nat
  f_are_pages : Nat
  f_branches : Nat
  f_two_tuples : Nat
  f_row_fits : Nat
  f_first_unfit : Nat
  f_rows_in_order : Nat
  f_check_guard : Nat
  f_Site___init__ : Nat
  f_Site___eq__ : Nat
  f_Site_page_names : Nat
  f_Site_page_parts : Nat
  f_Site_guard : Nat
  f_Site_loads : Nat
  f__law_mix : Nat
  f__law_box : Nat
  f__law_draw : Nat
  f__law_names : Nat
  f__law_word : Nat
  f__law_rows : Nat
  f__law_row : Nat
  f__law_parts : Nat
  f__law_same : Nat
  f_law : Nat
  c_Site : Nat
  g_LETTERS : Nat
  g_SIDES : Nat
  g_MOST_ROWS : Nat
  g_DEEPEST : Nat
  x_LedError : Nat
  x_InvalidSite : Nat
  x_InvalidSide : Nat
  x_UnknownPage : Nat
  f__law_put : Nat
  x_InvalidPath : Nat
  f_replaced : Nat
  f_Site_guard_paths : Nat
  f_Site_row_paths : Nat
  f_Site_has_path : Nat
  f_Site_row_at : Nat
  f_Site_with_row : Nat
  f_Site_with_guard : Nat
  f__law_told : Nat
  f_Site_is_quiet : Nat
  f_Walk___init__ : Nat
  f_are_flags : Nat
  f_check_guard_call : Nat
  f_entries : Nat
  f_inside : Nat
  f_walk_entries : Nat
  f_walk_guard : Nat
  f_run_guard : Nat
  f__law_entries : Nat
  f__law_branch : Nat
  f__law_value : Nat
  f__law_guard : Nat
  c_Walk : Nat
  x_InvalidFlags : Nat
  f_pending_after : Nat
  f_walk_on : Nat
  f_is_ask_position : Nat
  f_resume_guard : Nat
  f__law_parted : Nat
  x_InvalidPosition : Nat
  f_all_ends : Nat
  f_letting_answers : Nat
  f_lets : Nat
  f__law_asks : Nat
  f_fits_part : Nat
  f_Rule___init__ : Nat
  f_Rule___eq__ : Nat
  f_Rule___str__ : Nat
  f_Rule_five : Nat
  c_Rule : Nat
  g_PARTS : Nat
  g_TURNS : Nat
  g_NEWERS : Nat
  g_LEADS : Nat
  x_InvalidRule : Nat
  f_all_rules : Nat
  f__law_five : Nat
  f_Rule_with_part : Nat
  f_put_page : Nat
  f_all_flags : Nat
  f_is_deed : Nat
  f_deeds : Nat
  g_PLAIN_DEEDS : Nat
  g_LATE_DEEDS : Nat
  g_MOST_LATE : Nat
  f_are_pages_of : Nat
  f_is_place : Nat
  f_is_way : Nat
  f_is_standing : Nat
  f__law_rule : Nat
  f__law_deed : Nat
  f__law_flags : Nat
  f__law_suits : Nat
  f__law_way : Nat
  f__law_stand : Nat
  g_STAGES : Nat
  g_MOST_LEADS : Nat
  f_Step___init__ : Nat
  f_begin : Nat
  c_Step : Nat
  f_Course___init__ : Nat
  f_Course_standing_now : Nat
  f_Course_tell : Nat
  f_Course_target : Nat
  f_Course_wait : Nat
  f_Course_end_way : Nat
  f_Course_begin_way : Nat
  f_Course_guard_at : Nat
  f_Course_settle : Nat
  f_Course_enter : Nat
  f_Course_follow : Nat
  f_Course_turn_address : Nat
  f_Course_go_on : Nat
  f_Course_arrive : Nat
  f_Course_answer_ask : Nat
  f_Course_end_load : Nat
  f_Course_take_late : Nat
  f_Course_flip_bit : Nat
  f_Course_drop_way : Nat
  f_Course_move : Nat
  f_step : Nat
  c_Course : Nat
  x_InvalidStanding : Nat
  x_InvalidDeed : Nat
  x_TooManyLeads : Nat
  f__law_page : Nat
  f__law_wait : Nat
  f__law_led : Nat
  f__law_after_ask : Nat
  f__law_did : Nat
  f_pair_of : Nat
  f_first_standing : Nat
  f_Live___init__ : Nat
  f_Live_standing : Nat
  f_Live_further_steps : Nat
  f_Live_perform : Nat
  f_Live_click : Nat
  f_Live_back : Nat
  f_Live_forward : Nat
  f_Live_answer : Nat
  f_Live_load : Nat
  f_Live_late : Nat
  f_Live___getitem__ : Nat
  f_Live___setitem__ : Nat
  f_Live___contains__ : Nat
  f_Live___iter__ : Nat
  f_Live___len__ : Nat
  f_Live___iadd__ : Nat
  f_Live_last_events : Nat
  f_Live_deeds_done : Nat
  f_Live_seen : Nat
  f__law_perform : Nat
  c_Live : Nat
  x_UnknownBit : Nat
  f_newly_shown : Nat
  f_found_words : Nat
  f_faults_at_rest : Nat
  f_was_asked : Nat
  f_is_step_way : Nat
  f_written_over : Nat
  f_faults_of_showing : Nat
  f_faults : Nat
  g_KINDS : Nat
  f__law_found : Nat
  f_Live_undo : Nat
  f_Live_fork : Nat
  x_NothingToUndo : Nat
  f_Live_trial : Nat
  f_row_lines : Nat
  f_joined : Nat
  f_format_site : Nat
  f_PageReader___init__ : Nat
  f_PageReader_is_complete : Nat
  f_PageReader_close_page : Nat
  f_PageReader_read_page : Nat
  f_PageReader_read_part : Nat
  f_PageReader_read_else : Nat
  f_PageReader_read_end : Nat
  f_PageReader_open_row : Nat
  f_PageReader_read_row : Nat
  f_PageReader_read : Nat
  f_plain_row : Nat
  f_head_fits : Nat
  f_split_lines : Nat
  f_parse_site : Nat
  f__law_lines : Nat
  f__law_text : Nat
  c_PageReader : Nat
  x_InvalidText : Nat
  f_flag_word : Nat
  f_deed_line : Nat
  f_format_deeds : Nat
  f_read_deed : Nat
  f_parse_deeds : Nat
  x_NothingToRedo : Nat
  x_InvalidBound : Nat
  x_LimitExceeded : Nat
  x_NoStanding : Nat
  x_NoFault : Nat
  x_InvalidKind : Nat
  x_NotComparable : Nat
  x_InvalidChange : Nat
  x_InvalidRules : Nat
  f_check_bound : Nat
  f_outcome : Nat
  f_run_to : Nat
  f_Book___init__ : Nat
  f_Book_note : Nat
  f_Book_look_from : Nat
  f_Book_place_of : Nat
  f_Book___len__ : Nat
  f_Book___contains__ : Nat
  f_Book_moves : Nat
  f_Book_standings : Nat
  f_Book_least_run : Nat
  f_Book_follow : Nat
  f_Book_faults : Nat
  f__law_cell : Nat
  f__law_draws : Nat
  f__law_leaf : Nat
  f__law_page_names : Nat
  f__law_site_bits : Nat
  f__law_site : Nat
  f__law_book : Nat
  c_Book : Nat
  f__law_after : Nat
  f__law_key : Nat
  f__law_reach : Nat
  f_Book_deeds_between : Nat
  f_look : Nat
  f_parts_ways : Nat
  f_parting : Nat
  f_row_or_none : Nat
  f_check_kind : Nat
  f_Verdict___init__ : Nat
  f_Verdict_pairs : Nat
  f_Verdict_kinds : Nat
  f_Verdict___or__ : Nat
  f_Verdict___and__ : Nat
  f_Verdict___sub__ : Nat
  f_Verdict___xor__ : Nat
  f_Verdict___eq__ : Nat
  f_Verdict___len__ : Nat
  f_Verdict___contains__ : Nat
  f_Verdict___bool__ : Nat
  f_Book_is_free : Nat
  f_Book_verdict : Nat
  f__law_faults_of : Nat
  c_Verdict : Nat
  f_Book_least_fault : Nat
  f_closed_kinds : Nat
  f_is_closed : Nat
  f__law_small_book : Nat
  f__law_start : Nat
  f_shows_free : Nat
  f_Verdict_only : Nat
  f_moved : Nat
  f_check_comparable : Nat
  f_Comparison___init__ : Nat
  f_Comparison_keep_tuple : Nat
  f_Comparison_do_starts : Nat
  f_Comparison_go_on : Nat
  f_difference : Nat
  f_alike : Nat
  f__law_second : Nat
  f__law_two : Nat
  f__law_look : Nat
  c_Comparison : Nat
  f_pairing : Nat
  f_is_joined : Nat
  f_is_pairing : Nat
  f_grouped : Nat
  f_numbered : Nat
  f_refined : Nat
  f_classes : Nat
  f_check_rules : Nat
  f_rules_alike : Nat
  f_most_leads : Nat
  f_never_done : Nat
  f_least_shown : Nat
  f_is_settled : Nat
  f_lost : Nat
  f_is_rule_change : Nat
  f_is_guard_change : Nat
  f_is_change : Nat
  f_aim : Nat
  f_with_changes : Nat
  f_fault_kinds : Nat
  f_check_candidates : Nat
  f_sets_of : Nat
  f_heals : Nat
  f_rules_free : Nat
  f_Desk___init__ : Nat
  f_Desk_set_bound : Nat
  f_Desk___ior__ : Nat
  f_Desk___isub__ : Nat
  f_Desk___iter__ : Nat
  f_Desk___getitem__ : Nat
  f_Desk___setitem__ : Nat
  f_Desk___len__ : Nat
  f_Desk_put_guard : Nat
  f_Desk_put_site : Nat
  f_Desk_undo : Nat
  f_Desk_redo : Nat
  c_Desk : Nat
  f_Desk_verdicts : Nat
  f_Desk_attempt : Nat
/-- is_integer: 0 value -/
def F_is_integer (ix : Lk) : Fn := ⟨1, 1, false, (.cons (.ret (.and (.isi (.var 0) .int) (.nt (.isi (.var 0) .bool)))) .nil)⟩
/-- is_name: 0 value, 1 sign -/
def F_is_name (ix : Lk) : Fn := ⟨1, 2, false, (.cons (.ife (.or (.not (.t (.isi (.var 0) .str))) (.not (.t (.chain .le .le (.con (.int 1)) (.bf .len (.e (.var 0))) (.con (.int 8)))))) (.cons (.ret (.con (.bl false))) .nil) .nil) (.cons (.ret (.bf .all (.lc (.a (.e (.var 0))) (.nm 1) .no (.op2 .isin (.e (.var 1)) (.e (.glo ix.g_LETTERS)))))) .nil))⟩
/-- is_one_of: 0 value, 1 names -/
def F_is_one_of (ix : Lk) : Fn := ⟨2, 2, false, (.cons (.ret (.and (.isi (.var 0) .str) (.op2 .isin (.e (.var 0)) (.e (.var 1))))) .nil)⟩
/-- are_names: 0 value, 1 item -/
def F_are_names (ix : Lk) : Fn := ⟨1, 2, false, (.cons (.ret (.and (.bf .all (.lc (.a (.e (.var 0))) (.nm 1) .no (.call ix.f_is_name (.cons (.var 1) .nil)))) (.op2 .eq (.e (.bf .setlen (.e (.var 0)))) (.e (.bf .len (.e (.var 0))))))) .nil)⟩
/-- are_names_v2: 0 words, 1 word -/
def F_are_names_v2 (ix : Lk) : Fn := ⟨1, 2, false, (.cons (.ret (.bf .all (.lc (.a (.e (.var 0))) (.nm 1) .no (.call ix.f_is_name (.cons (.var 1) .nil))))) .nil)⟩
/-- are_bits: 0 value -/
def F_are_bits (ix : Lk) : Fn := ⟨1, 1, false, (.cons (.ret (.and (.isi (.var 0) .tuple) (.and (.op2 .le (.e (.bf .len (.e (.var 0)))) (.e (.con (.int 3)))) (.call ix.f_are_names (.cons (.var 0) .nil))))) .nil)⟩
/-- are_bits_v2: 0 value -/
def F_are_bits_v2 (ix : Lk) : Fn := ⟨1, 1, false, (.cons .no .nil)⟩
/-- is_page: 0 value -/
def F_is_page (ix : Lk) : Fn := ⟨1, 1, false, (.cons (.ret (.and (.isi (.var 0) .tuple) (.and (.op2 .eq (.e (.bf .len (.e (.var 0)))) (.e (.con (.int 3)))) (.isi (.item (.e (.var 0)) (.con (.int 2))) .bool)))) .nil)⟩
/-- are_pages: 0 value, 1 pair -/
def F_are_pages (ix : Lk) : Fn := ⟨1, 2, false, (.cons (.ife (.or (.not (.t (.isi (.var 0) .tuple))) (.not (.t (.chain .le .le (.con (.int 2)) (.bf .len (.e (.var 0))) (.con (.int 5)))))) (.cons (.ret (.con (.bl false))) .nil) .nil) (.cons (.for (.nm 1) (.a (.e (.var 0))) (.cons (.ife (.or (.not (.t (.isi (.var 1) .tuple))) (.or (.t (.op2 .ne (.e (.bf .len (.e (.var 1)))) (.e (.con (.int 2))))) (.not (.t (.call ix.f_is_name (.cons (.item (.e (.var 1)) (.con (.int 0))) .nil)))))) (.cons (.ret (.con (.bl false))) .nil) .nil) (.cons (.ife (.not (.t (.call ix.f_is_page (.cons (.item (.e (.var 1)) (.con (.int 1))) .nil)))) (.cons (.ret (.con (.bl false))) .nil) .nil) .nil))) (.cons (.ret (.op2 .eq (.e (.bf .setlen (.sc (.a (.e (.var 0))) (.nm 1) (.item (.e (.var 1)) (.con (.int 0)))))) (.e (.bf .len (.e (.var 0)))))) .nil)))⟩
/-- branches: 0 row -/
def F_branches (ix : Lk) : Fn := ⟨1, 1, false, (.cons (.ife (.t (.op2 .eq (.e (.item (.e (.var 0)) (.con (.int 0)))) (.e (.con (.str [105, 102]))))) (.cons (.ret (.tup (.cons (.item (.e (.var 0)) (.con (.int 2))) (.cons (.item (.e (.var 0)) (.con (.int 3))) .nil)))) .nil) .nil) (.cons (.ife (.t (.op2 .eq (.e (.item (.e (.var 0)) (.con (.int 0)))) (.e (.con (.str [97, 115, 107]))))) (.cons (.ret (.tup (.cons (.item (.e (.var 0)) (.con (.int 1))) (.cons (.item (.e (.var 0)) (.con (.int 2))) .nil)))) .nil) .nil) (.cons (.ret (.tup .nil)) .nil)))⟩
/-- two_tuples: 0 values -/
def F_two_tuples (ix : Lk) : Fn := ⟨1, 1, false, (.cons (.ret (.and (.isi (.item (.e (.var 0)) (.con (.int 0))) .tuple) (.isi (.item (.e (.var 0)) (.con (.int 1))) .tuple))) .nil)⟩
/-- row_fits: 0 row, 1 depth, 2 side, 3 bits, 4 names, 5 word -/
def F_row_fits (ix : Lk) : Fn := ⟨5, 6, false, (.cons (.ife (.or (.not (.t (.isi (.var 0) .tuple))) (.or (.t (.op2 .eq (.e (.bf .len (.e (.var 0)))) (.e (.con (.int 0))))) (.not (.t (.isi (.item (.e (.var 0)) (.con (.int 0))) .str))))) (.cons (.ret (.con (.bl false))) .nil) .nil) (.cons (.set (.nm 5) (.item (.e (.var 0)) (.con (.int 0)))) (.cons (.ife (.t (.op2 .eq (.e (.var 5)) (.e (.con (.str [105, 102]))))) (.cons (.ret (.and (.op2 .eq (.e (.bf .len (.e (.var 0)))) (.e (.con (.int 4)))) (.and (.op2 .le (.e (.var 1)) (.e (.glo ix.g_DEEPEST))) (.and (.call ix.f_is_one_of (.cons (.item (.e (.var 0)) (.con (.int 1))) (.cons (.var 3) .nil))) (.call ix.f_two_tuples (.cons (.slc (.e (.var 0)) (.yes (.con (.int 2))) .no) .nil)))))) .nil) .nil) (.cons (.ife (.t (.op2 .eq (.e (.var 5)) (.e (.con (.str [97, 115, 107]))))) (.cons (.ret (.and (.op2 .eq (.e (.bf .len (.e (.var 0)))) (.e (.con (.int 3)))) (.and (.op2 .le (.e (.var 1)) (.e (.glo ix.g_DEEPEST))) (.call ix.f_two_tuples (.cons (.slc (.e (.var 0)) (.yes (.con (.int 1))) .no) .nil))))) .nil) .nil) (.cons (.ife (.t (.op2 .eq (.e (.var 5)) (.e (.con (.str [115, 101, 116]))))) (.cons (.ret (.and (.op2 .eq (.e (.bf .len (.e (.var 0)))) (.e (.con (.int 3)))) (.and (.call ix.f_is_one_of (.cons (.item (.e (.var 0)) (.con (.int 1))) (.cons (.var 3) .nil))) (.isi (.item (.e (.var 0)) (.con (.int 2))) .bool)))) .nil) .nil) (.cons (.ife (.t (.op2 .eq (.e (.var 5)) (.e (.con (.str [114, 101, 102, 117, 115, 101]))))) (.cons (.ret (.op2 .eq (.e (.bf .len (.e (.var 0)))) (.e (.con (.int 1))))) .nil) .nil) (.cons (.ret (.and (.op2 .eq (.e (.var 5)) (.e (.con (.str [108, 101, 97, 100])))) (.and (.op2 .eq (.e (.bf .len (.e (.var 0)))) (.e (.con (.int 2)))) (.and (.op2 .eq (.e (.var 2)) (.e (.con (.str [101, 110, 116, 101, 114])))) (.call ix.f_is_one_of (.cons (.item (.e (.var 0)) (.con (.int 1))) (.cons (.var 4) .nil))))))) .nil)))))))⟩
/-- first_unfit: 0 rows, 1 prefix, 2 side, 3 bits, 4 names, 5 index, 6 row, 7 position, 8 branch, 9 inner, 10 found -/
def F_first_unfit (ix : Lk) : Fn := ⟨5, 11, false, (.cons (.for (.tp [5, 6]) (.enum (.e (.var 0))) (.cons (.set (.nm 7) (.op2 .add (.e (.var 1)) (.e (.tup (.cons (.var 5) .nil))))) (.cons (.ife (.not (.t (.call ix.f_row_fits (.cons (.var 6) (.cons (.op2 .add (.e (.op2 .fdiv (.e (.bf .len (.e (.var 7)))) (.e (.con (.int 2))))) (.e (.con (.int 1)))) (.cons (.var 2) (.cons (.var 3) (.cons (.var 4) .nil)))))))) (.cons (.ret (.var 7)) .nil) .nil) (.cons (.for (.tp [8, 9]) (.enum (.e (.call ix.f_branches (.cons (.var 6) .nil)))) (.cons (.set (.nm 10) (.call ix.f_first_unfit (.cons (.var 9) (.cons (.op2 .add (.e (.var 7)) (.e (.tup (.cons (.var 8) .nil)))) (.cons (.var 2) (.cons (.var 3) (.cons (.var 4) .nil))))))) (.cons (.ife (.t (.isN true (.var 10))) (.cons (.ret (.var 10)) .nil) .nil) .nil))) .nil)))) (.cons (.ret (.con .non)) .nil))⟩
/-- rows_in_order: 0 rows, 1 prefix, 2 pairs, 3 index, 4 row, 5 position, 6 branch, 7 inner -/
def F_rows_in_order (ix : Lk) : Fn := ⟨2, 8, false, (.cons (.set (.nm 2) (.new (.lst .nil))) (.cons (.for (.tp [3, 4]) (.enum (.e (.var 0))) (.cons (.set (.nm 5) (.op2 .add (.e (.var 1)) (.e (.tup (.cons (.var 3) .nil))))) (.cons (.ex (.mt .append (.var 2) (.e (.tup (.cons (.var 5) (.cons (.var 4) .nil)))))) (.cons (.for (.tp [6, 7]) (.enum (.e (.call ix.f_branches (.cons (.var 4) .nil)))) (.cons (.ex (.mt .extend (.var 2) (.e (.call ix.f_rows_in_order (.cons (.var 7) (.cons (.op2 .add (.e (.var 5)) (.e (.tup (.cons (.var 6) .nil)))) .nil)))))) .nil)) .nil)))) (.cons (.ret (.var 2)) .nil)))⟩
/-- check_guard: 0 rows, 1 path, 2 bits, 3 names, 4 found, 5 page, 6 side, 7 start -/
def F_check_guard (ix : Lk) : Fn := ⟨4, 8, false, (.cons (.set (.tp [5, 6, 7]) (.var 1)) (.cons (.ife (.not (.t (.isi (.var 0) .tuple))) (.cons .no .nil) .nil) (.cons (.set (.nm 4) (.call ix.f_first_unfit (.cons (.var 0) (.cons (.var 7) (.cons (.var 6) (.cons (.var 2) (.cons (.var 3) .nil))))))) (.cons (.ife (.t (.isN true (.var 4))) (.cons .no .nil) .nil) (.cons (.ife (.t (.op2 .gt (.e (.bf .len (.e (.callS ix.f_rows_in_order (.cons (.var 0) .nil) [.inl 0, .inr (.tup [])])))) (.e (.glo ix.g_MOST_ROWS)))) (.cons .no .nil) .nil) .nil)))))⟩
/-- Site___init__: 0 self, 1 bits, 2 pages, 3 start, 4 keep, 5 names, 6 name, 7 page, 8 pair -/
def F_Site___init__ (ix : Lk) : Fn := ⟨5, 9, true, (.cons (.ife (.not (.t (.call ix.f_are_bits (.cons (.var 1) .nil)))) (.cons .no .nil) .nil) (.cons (.ife (.not (.t (.call ix.f_are_pages (.cons (.var 2) .nil)))) (.cons .no .nil) .nil) (.cons (.set (.nm 5) (.new (.lc (.a (.e (.var 2))) (.nm 8) .no (.item (.e (.var 8)) (.con (.int 0)))))) (.cons (.for (.tp [6, 7]) (.a (.e (.var 2))) (.cons (.ex (.call ix.f_check_guard (.cons (.item (.e (.var 7)) (.con (.int 0))) (.cons (.tup (.cons (.var 6) (.cons (.con (.str [101, 110, 116, 101, 114])) (.cons (.tup .nil) .nil)))) (.cons (.var 1) (.cons (.var 5) .nil)))))) (.cons (.ex (.call ix.f_check_guard (.cons (.item (.e (.var 7)) (.con (.int 1))) (.cons (.tup (.cons (.var 6) (.cons (.con (.str [108, 101, 97, 118, 101])) (.cons (.tup .nil) .nil)))) (.cons (.var 1) (.cons (.var 5) .nil)))))) .nil))) (.cons (.ife (.not (.t (.call ix.f_is_one_of (.cons (.var 3) (.cons (.var 5) .nil))))) (.cons .no .nil) .nil) (.cons (.ife (.or (.not (.t (.call ix.f_is_integer (.cons (.var 4) .nil)))) (.not (.t (.chain .le .le (.con (.int 2)) (.var 4) (.con (.int 4)))))) (.cons .no .nil) .nil) (.cons (.atr (.var 0) 29 (.var 1)) (.cons (.atr (.var 0) 106 (.var 2)) (.cons (.atr (.var 0) 144 (.var 3)) (.cons (.atr (.var 0) 70 (.var 4)) .nil))))))))))⟩
/-- Site___eq__: 0 self, 1 other -/
def F_Site___eq__ (ix : Lk) : Fn := ⟨2, 2, false, (.cons (.ife (.not (.t (.isi (.var 1) (.cls ix.c_Site)))) (.cons (.ret (.con (.bl false))) .nil) .nil) (.cons (.ret (.op2 .eq (.e (.tup (.cons (.attr (.var 0) 29) (.cons (.attr (.var 0) 106) (.cons (.attr (.var 0) 144) (.cons (.attr (.var 0) 70) .nil)))))) (.e (.tup (.cons (.attr (.var 1) 29) (.cons (.attr (.var 1) 106) (.cons (.attr (.var 1) 144) (.cons (.attr (.var 1) 70) .nil)))))))) .nil))⟩
/-- Site_page_names: 0 self, 1 pair -/
def F_Site_page_names (ix : Lk) : Fn := ⟨1, 2, false, (.cons (.ret (.bf .tuple (.lc (.a (.e (.attr (.var 0) 106))) (.nm 1) .no (.item (.e (.var 1)) (.con (.int 0)))))) .nil)⟩
/-- Site_page_parts: 0 self, 1 page, 2 name, 3 parts -/
def F_Site_page_parts (ix : Lk) : Fn := ⟨2, 4, false, (.cons (.for (.tp [2, 3]) (.a (.e (.attr (.var 0) 106))) (.cons (.ife (.and (.t (.isi (.var 1) .str)) (.t (.op2 .eq (.e (.var 2)) (.e (.var 1))))) (.cons (.ret (.var 3)) .nil) .nil) .nil)) (.cons .no .nil))⟩
/-- Site_guard: 0 self, 1 page, 2 side, 3 parts -/
def F_Site_guard (ix : Lk) : Fn := ⟨3, 4, false, (.cons (.set (.nm 3) (.meth (.var 0) 105 (.cons (.var 1) .nil))) (.cons (.ife (.not (.t (.call ix.f_is_one_of (.cons (.var 2) (.cons (.glo ix.g_SIDES) .nil))))) (.cons .no .nil) .nil) (.cons (.ife (.t (.op2 .eq (.e (.var 2)) (.e (.con (.str [101, 110, 116, 101, 114]))))) (.cons (.ret (.item (.e (.var 3)) (.con (.int 0)))) .nil) .nil) (.cons (.ret (.item (.e (.var 3)) (.con (.int 1)))) .nil))))⟩
/-- Site_loads: 0 self, 1 page -/
def F_Site_loads (ix : Lk) : Fn := ⟨2, 2, false, (.cons (.ret (.item (.e (.meth (.var 0) 105 (.cons (.var 1) .nil))) (.con (.int 2)))) .nil)⟩
/-- _law_mix: 0 _law_value, 1 _law_k, 2 _law_number -/
def F__law_mix (ix : Lk) : Fn := ⟨2, 3, false, (.cons (.set (.nm 2) (.op2 .mod (.e (.op2 .mul (.e (.op2 .add (.e (.op2 .add (.e (.bf .int (.e (.var 0)))) (.e (.op2 .mul (.e (.con (.int 7919))) (.e (.var 1)))))) (.e (.con (.int 1))))) (.e (.con (.int 48271))))) (.e (.con (.int 2147483647))))) (.cons (.set (.nm 2) (.op2 .mod (.e (.op2 .mul (.e (.var 2)) (.e (.op2 .add (.e (.op2 .fdiv (.e (.var 2)) (.e (.con (.int 1009))))) (.e (.con (.int 69621))))))) (.e (.con (.int 2147483647))))) (.cons (.ret (.op2 .mod (.e (.op2 .mul (.e (.var 2)) (.e (.op2 .add (.e (.op2 .fdiv (.e (.var 2)) (.e (.con (.int 2003))))) (.e (.con (.int 40692))))))) (.e (.con (.int 2147483399))))) .nil)))⟩
/-- _law_mix_v2: 0 _law_value_here, 1 _law_k, 2 _law_number -/
def F__law_mix_v2 (ix : Lk) : Fn := ⟨2, 3, false, (.cons (.set (.nm 2) (.op2 .mod (.e (.op2 .mul (.e (.op2 .add (.e (.op2 .add (.e (.bf .int (.e (.var 0)))) (.e (.op2 .mul (.e (.con (.int 7919))) (.e (.var 1)))))) (.e (.con (.int 1))))) (.e (.con (.int 48271))))) (.e (.con (.int 2147483647))))) (.cons (.set (.nm 2) (.op2 .mod (.e (.op2 .mul (.e (.var 2)) (.e (.op2 .add (.e (.op2 .fdiv (.e (.var 2)) (.e (.con (.int 1009))))) (.e (.con (.int 69621))))))) (.e (.con (.int 2147483647))))) (.cons (.ret (.op2 .mod (.e (.op2 .mul (.e (.var 2)) (.e (.op2 .add (.e (.op2 .fdiv (.e (.var 2)) (.e (.con (.int 2003))))) (.e (.con (.int 40692))))))) (.e (.con (.int 2147483399))))) .nil)))⟩
/-- _law_box: 0 _law_script, 1 _law_cells, 2 _law_seed, 3 _law_cell -/
def F__law_box (ix : Lk) : Fn := ⟨1, 4, false, (.cons (.set (.nm 1) (.new (.lc (.a (.e (.slc (.e (.var 0)) .no (.yes (.con (.int 63)))))) (.nm 3) .no (.bf .int (.e (.var 3)))))) (.cons (.set (.nm 2) (.con (.int 11))) (.cons (.for (.nm 3) (.a (.e (.var 1))) (.cons (.set (.nm 2) (.call ix.f__law_mix (.cons (.op2 .add (.e (.var 2)) (.e (.var 3))) (.cons (.con (.int 3)) .nil)))) .nil)) (.cons (.ret (.new (.lst (.cons (.var 1) (.cons (.con (.int 0)) (.cons (.con (.int 0)) (.cons (.var 2) (.cons (.con (.int 0)) .nil)))))))) .nil))))⟩
/-- _law_draw: 0 _law_box_here, 1 _law_many, 2 _law_digit, 3 _law_cell -/
def F__law_draw (ix : Lk) : Fn := ⟨2, 4, false, (.cons (.itm (.var 0) (.con (.int 4)) (.op2 .add (.e (.item (.e (.var 0)) (.con (.int 4)))) (.e (.con (.int 1))))) (.cons (.ife (.and (.t (.op2 .eq (.e (.item (.e (.var 0)) (.con (.int 2)))) (.e (.con (.int 0))))) (.t (.op2 .lt (.e (.item (.e (.var 0)) (.con (.int 1)))) (.e (.bf .len (.e (.item (.e (.var 0)) (.con (.int 0))))))))) (.cons (.set (.nm 3) (.item (.e (.item (.e (.var 0)) (.con (.int 0)))) (.item (.e (.var 0)) (.con (.int 1))))) (.cons (.itm (.var 0) (.con (.int 1)) (.op2 .add (.e (.item (.e (.var 0)) (.con (.int 1)))) (.e (.con (.int 1))))) (.cons (.ife (.t (.op2 .lt (.e (.var 3)) (.e (.op2 .pow (.e (.con (.int 10))) (.e (.con (.int 18))))))) (.cons (.ret (.op2 .mod (.e (.bf .int (.e (.call ix.f__law_mix (.cons (.var 3) (.cons (.item (.e (.var 0)) (.con (.int 4))) .nil)))))) (.e (.var 1)))) .nil) .nil) (.cons (.itm (.var 0) (.con (.int 2)) (.var 3)) .nil)))) .nil) (.cons (.ife (.t (.op2 .eq (.e (.item (.e (.var 0)) (.con (.int 2)))) (.e (.con (.int 0))))) (.cons (.ret (.op2 .mod (.e (.bf .int (.e (.call ix.f__law_mix (.cons (.item (.e (.var 0)) (.con (.int 3))) (.cons (.item (.e (.var 0)) (.con (.int 4))) .nil)))))) (.e (.var 1)))) .nil) .nil) (.cons (.set (.nm 2) (.op2 .mod (.e (.bf .int (.e (.item (.e (.var 0)) (.con (.int 2)))))) (.e (.var 1)))) (.cons (.itm (.var 0) (.con (.int 2)) (.op2 .fdiv (.e (.bf .int (.e (.item (.e (.var 0)) (.con (.int 2)))))) (.e (.var 1)))) (.cons (.ret (.var 2)) .nil))))))⟩
/-- _law_names: 0 _law_box_here, 1 _law_many, 2 _law_names_here, 3 _law_k, 4 _law_word_here, 5 _law_at, 6 _law_free, 7 _law_sign -/
def F__law_names (ix : Lk) : Fn := ⟨2, 8, false, (.cons (.set (.nm 2) (.new (.lst .nil))) (.cons (.for (.nm 3) (.rng (.con (.int 0)) (.var 1)) (.cons (.set (.nm 4) (.con (.str []))) (.cons (.for (.nm 5) (.rng (.con (.int 0)) (.op2 .add (.e (.con (.int 1))) (.e (.call ix.f__law_draw (.cons (.var 0) (.cons (.con (.int 8)) .nil)))))) (.cons (.set (.nm 4) (.op2 .add (.e (.var 4)) (.e (.item (.e (.con (.str [97, 98, 99, 100, 101, 102, 103, 104, 105, 106, 107, 108, 109, 110, 111, 112, 113, 114, 115, 116, 117, 118, 119, 120, 121, 122]))) (.call ix.f__law_draw (.cons (.var 0) (.cons (.con (.int 26)) .nil))))))) .nil)) (.cons (.ife (.t (.op2 .isin (.e (.var 4)) (.e (.var 2)))) (.cons (.set (.nm 6) (.new (.lc (.a (.e (.con (.str [97, 98, 99, 100, 101, 102, 103, 104, 105, 106, 107, 108, 109, 110, 111, 112, 113, 114, 115, 116, 117, 118, 119, 120, 121, 122])))) (.nm 7) (.yes (.t (.op2 .notin (.e (.op2 .add (.e (.slc (.e (.var 4)) .no (.yes (.con (.int 7))))) (.e (.var 7)))) (.e (.var 2))))) (.op2 .add (.e (.slc (.e (.var 4)) .no (.yes (.con (.int 7))))) (.e (.var 7)))))) (.cons (.set (.nm 4) (.item (.e (.var 6)) (.con (.int 0)))) .nil)) .nil) (.cons (.ex (.mt .append (.var 2) (.e (.var 4)))) .nil))))) (.cons (.ret (.var 2)) .nil)))⟩
/-- _law_names_v2: 0 _law_box_here, 1 _law_many, 2 _law_names_here, 3 _law_k, 4 _law_word_here, 5 _law_at, 6 _law_menu, 7 _law_free, 8 _law_sign -/
def F__law_names_v2 (ix : Lk) : Fn := ⟨2, 9, false, (.cons (.set (.nm 2) (.new (.lst .nil))) (.cons (.for (.nm 3) (.rng (.con (.int 0)) (.var 1)) (.cons (.set (.nm 4) (.con (.str []))) (.cons (.for (.nm 5) (.rng (.con (.int 0)) (.op2 .add (.e (.con (.int 1))) (.e (.call ix.f__law_draw (.cons (.var 0) (.cons (.con (.int 8)) .nil)))))) (.cons (.set (.nm 4) (.op2 .add (.e (.var 4)) (.e (.item (.e (.con (.str [97, 98, 99, 100, 101, 102, 103, 104, 105, 106, 107, 108, 109, 110, 111, 112, 113, 114, 115, 116, 117, 118, 119, 120, 121, 122]))) (.call ix.f__law_draw (.cons (.var 0) (.cons (.con (.int 26)) .nil))))))) .nil)) (.cons (.ife (.t (.op2 .eq (.e (.call ix.f__law_draw (.cons (.var 0) (.cons (.con (.int 6)) .nil)))) (.e (.con (.int 0))))) (.cons (.set (.nm 6) (.new (.lst (.cons (.con (.str [108, 111, 97, 100, 115])) (.cons (.con (.str [101, 110, 116, 101, 114])) (.cons (.con (.str [108, 101, 97, 118, 101])) (.cons (.con (.str [101, 108, 115, 101])) (.cons (.con (.str [101, 110, 100])) (.cons (.con (.str [105, 102])) (.cons (.con (.str [97, 115, 107])) (.cons (.con (.str [115, 101, 116])) (.cons (.con (.str [108, 101, 97, 100])) (.cons (.con (.str [112, 97, 103, 101])) (.cons (.con (.str [111, 110])) (.cons (.con (.str [111, 102, 102])) (.cons (.con (.str [98, 105, 116, 115])) .nil)))))))))))))))) (.cons (.set (.nm 4) (.item (.e (.var 6)) (.call ix.f__law_draw (.cons (.var 0) (.cons (.con (.int 13)) .nil))))) .nil)) .nil) (.cons (.ife (.t (.op2 .isin (.e (.var 4)) (.e (.var 2)))) (.cons (.set (.nm 7) (.new (.lc (.a (.e (.con (.str [97, 98, 99, 100, 101, 102, 103, 104, 105, 106, 107, 108, 109, 110, 111, 112, 113, 114, 115, 116, 117, 118, 119, 120, 121, 122])))) (.nm 8) (.yes (.t (.op2 .notin (.e (.op2 .add (.e (.slc (.e (.var 4)) .no (.yes (.con (.int 7))))) (.e (.var 8)))) (.e (.var 2))))) (.op2 .add (.e (.slc (.e (.var 4)) .no (.yes (.con (.int 7))))) (.e (.var 8)))))) (.cons (.set (.nm 4) (.item (.e (.var 7)) (.con (.int 0)))) .nil)) .nil) (.cons (.ex (.mt .append (.var 2) (.e (.var 4)))) .nil)))))) (.cons (.ret (.var 2)) .nil)))⟩
/-- _law_word: 0 _law_box_here, 1 _law_bits, 2 _law_side, 3 _law_depth, 4 _law_word_here -/
def F__law_word (ix : Lk) : Fn := ⟨4, 5, false, (.cons (.set (.nm 4) (.item (.lst (.cons (.con (.str [105, 102])) (.cons (.con (.str [97, 115, 107])) (.cons (.con (.str [115, 101, 116])) (.cons (.con (.str [108, 101, 97, 100])) (.cons (.con (.str [114, 101, 102, 117, 115, 101])) (.cons (.con (.str [97, 115, 107])) (.cons (.con (.str [105, 102])) (.cons (.con (.str [115, 101, 116])) .nil))))))))) (.call ix.f__law_draw (.cons (.var 0) (.cons (.con (.int 8)) .nil))))) (.cons (.ife (.and (.t (.op2 .eq (.e (.var 4)) (.e (.con (.str [108, 101, 97, 100]))))) (.t (.op2 .eq (.e (.var 2)) (.e (.con (.str [108, 101, 97, 118, 101])))))) (.cons (.set (.nm 4) (.con (.str [97, 115, 107]))) .nil) .nil) (.cons (.ife (.and (.t (.op2 .isin (.e (.var 4)) (.e (.tup (.cons (.con (.str [105, 102])) (.cons (.con (.str [115, 101, 116])) .nil)))))) (.t (.op2 .eq (.e (.bf .len (.e (.var 1)))) (.e (.con (.int 0)))))) (.cons (.set (.nm 4) (.con (.str [97, 115, 107]))) .nil) .nil) (.cons (.ife (.and (.t (.op2 .isin (.e (.var 4)) (.e (.tup (.cons (.con (.str [105, 102])) (.cons (.con (.str [97, 115, 107])) .nil)))))) (.t (.op2 .eq (.e (.var 3)) (.e (.con (.int 4)))))) (.cons (.set (.nm 4) (.con (.str [114, 101, 102, 117, 115, 101]))) .nil) .nil) (.cons (.ret (.var 4)) .nil)))))⟩
/-- _law_rows: 0 _law_box_here, 1 _law_bits, 2 _law_names_here, 3 _law_side, 4 _law_depth, 5 _law_room, 6 _law_many, 7 _law_rows_here, 8 _law_k -/
def F__law_rows (ix : Lk) : Fn := ⟨6, 9, false, (.cons (.set (.nm 6) (.call ix.f__law_draw (.cons (.var 0) (.cons (.con (.int 12)) .nil)))) (.cons (.ife (.t (.op2 .gt (.e (.var 6)) (.e (.con (.int 8))))) (.cons (.set (.nm 6) (.op2 .sub (.e (.var 6)) (.e (.con (.int 8))))) .nil) .nil) (.cons (.set (.nm 7) (.new (.lst .nil))) (.cons (.for (.nm 8) (.rng (.con (.int 0)) (.var 6)) (.cons (.ife (.t (.op2 .gt (.e (.item (.e (.var 5)) (.con (.int 0)))) (.e (.con (.int 0))))) (.cons (.itm (.var 5) (.con (.int 0)) (.op2 .sub (.e (.item (.e (.var 5)) (.con (.int 0)))) (.e (.con (.int 1))))) (.cons (.ex (.mt .append (.var 7) (.e (.call ix.f__law_row (.cons (.var 0) (.cons (.var 1) (.cons (.var 2) (.cons (.var 3) (.cons (.var 4) (.cons (.var 5) .nil)))))))))) .nil)) .nil) .nil)) (.cons (.ret (.bf .tuple (.e (.var 7)))) .nil)))))⟩
/-- _law_row: 0 _law_box_here, 1 _law_bits, 2 _law_names_here, 3 _law_side, 4 _law_depth, 5 _law_room, 6 _law_word_here, 7 _law_head, 8 _law_first, 9 _law_second -/
def F__law_row (ix : Lk) : Fn := ⟨6, 10, false, (.cons (.set (.nm 6) (.call ix.f__law_word (.cons (.var 0) (.cons (.var 1) (.cons (.var 3) (.cons (.var 4) .nil)))))) (.cons (.ife (.t (.op2 .eq (.e (.var 6)) (.e (.con (.str [114, 101, 102, 117, 115, 101]))))) (.cons (.ret (.tup (.cons (.con (.str [114, 101, 102, 117, 115, 101])) .nil))) .nil) .nil) (.cons (.ife (.t (.op2 .eq (.e (.var 6)) (.e (.con (.str [108, 101, 97, 100]))))) (.cons (.ret (.tup (.cons (.con (.str [108, 101, 97, 100])) (.cons (.item (.e (.var 2)) (.call ix.f__law_draw (.cons (.var 0) (.cons (.bf .len (.e (.var 2))) .nil)))) .nil)))) .nil) .nil) (.cons (.ife (.t (.op2 .eq (.e (.var 6)) (.e (.con (.str [115, 101, 116]))))) (.cons (.ret (.tup (.cons (.con (.str [115, 101, 116])) (.cons (.item (.e (.var 1)) (.call ix.f__law_draw (.cons (.var 0) (.cons (.bf .len (.e (.var 1))) .nil)))) (.cons (.op2 .eq (.e (.call ix.f__law_draw (.cons (.var 0) (.cons (.con (.int 2)) .nil)))) (.e (.con (.int 1)))) .nil))))) .nil) .nil) (.cons (.set (.nm 7) (.tup (.cons (.con (.str [97, 115, 107])) .nil))) (.cons (.ife (.t (.op2 .eq (.e (.var 6)) (.e (.con (.str [105, 102]))))) (.cons (.set (.nm 7) (.tup (.cons (.con (.str [105, 102])) (.cons (.item (.e (.var 1)) (.call ix.f__law_draw (.cons (.var 0) (.cons (.bf .len (.e (.var 1))) .nil)))) .nil)))) .nil) .nil) (.cons (.set (.nm 8) (.call ix.f__law_rows (.cons (.var 0) (.cons (.var 1) (.cons (.var 2) (.cons (.var 3) (.cons (.op2 .add (.e (.var 4)) (.e (.con (.int 1)))) (.cons (.var 5) .nil)))))))) (.cons (.set (.nm 9) (.call ix.f__law_rows (.cons (.var 0) (.cons (.var 1) (.cons (.var 2) (.cons (.var 3) (.cons (.op2 .add (.e (.var 4)) (.e (.con (.int 1)))) (.cons (.var 5) .nil)))))))) (.cons (.ret (.op2 .add (.e (.var 7)) (.e (.tup (.cons (.var 8) (.cons (.var 9) .nil)))))) .nil)))))))))⟩
/-- _law_parts: 0 _law_box_here, 1 _law_size, 2 _law_bits, 3 _law_names_here, 4 _law_pages, 5 _law_name, 6 _law_first, 7 _law_heavy, 8 _law_rooms, 9 _law_enter, 10 _law_leave -/
def F__law_parts (ix : Lk) : Fn := ⟨1, 11, false, (.cons (.set (.nm 1) (.op2 .add (.e (.con (.int 2))) (.e (.call ix.f__law_draw (.cons (.var 0) (.cons (.con (.int 3)) .nil)))))) (.cons (.set (.nm 2) (.bf .tuple (.e (.call ix.f__law_names (.cons (.var 0) (.cons (.call ix.f__law_draw (.cons (.var 0) (.cons (.con (.int 4)) .nil))) .nil)))))) (.cons (.set (.nm 3) (.call ix.f__law_names (.cons (.var 0) (.cons (.op2 .add (.e (.con (.int 2))) (.e (.call ix.f__law_draw (.cons (.var 0) (.cons (.con (.int 4)) .nil))))) .nil)))) (.cons (.ife (.and (.t (.op2 .eq (.e (.call ix.f__law_draw (.cons (.var 0) (.cons (.con (.int 4)) .nil)))) (.e (.con (.int 0))))) (.and (.t (.op2 .gt (.e (.bf .len (.e (.var 2)))) (.e (.con (.int 0))))) (.t (.op2 .notin (.e (.item (.e (.var 2)) (.con (.int 0)))) (.e (.var 3)))))) (.cons (.itm (.var 3) (.con (.int 0)) (.item (.e (.var 2)) (.con (.int 0)))) .nil) .nil) (.cons (.set (.nm 4) (.new (.lst .nil))) (.cons (.for (.nm 5) (.a (.e (.var 3))) (.cons (.set (.nm 7) (.op2 .eq (.e (.call ix.f__law_draw (.cons (.var 0) (.cons (.con (.int 2)) .nil)))) (.e (.con (.int 1))))) (.cons (.set (.nm 8) (.new (.lst (.cons (.con (.int 0)) (.cons (.con (.int 1)) (.cons (.con (.int 2)) (.cons (.con (.int 3)) (.cons (.con (.int 8)) (.cons (.con (.int 0)) (.cons (.con (.int 5)) (.cons (.con (.int 1)) .nil))))))))))) (.cons (.set (.nm 9) (.call ix.f__law_rows (.cons (.var 0) (.cons (.var 2) (.cons (.var 3) (.cons (.con (.str [101, 110, 116, 101, 114])) (.cons (.con (.int 1)) (.cons (.new (.lst (.cons (.item (.e (.var 8)) (.call ix.f__law_draw (.cons (.var 0) (.cons (.con (.int 8)) .nil)))) .nil))) .nil)))))))) (.cons (.set (.nm 10) (.call ix.f__law_rows (.cons (.var 0) (.cons (.var 2) (.cons (.var 3) (.cons (.con (.str [108, 101, 97, 118, 101])) (.cons (.con (.int 1)) (.cons (.new (.lst (.cons (.item (.e (.var 8)) (.call ix.f__law_draw (.cons (.var 0) (.cons (.con (.int 8)) .nil)))) .nil))) .nil)))))))) (.cons (.ex (.mt .append (.var 4) (.e (.tup (.cons (.var 5) (.cons (.tup (.cons (.var 9) (.cons (.var 10) (.cons (.var 7) .nil)))) .nil)))))) .nil)))))) (.cons (.set (.nm 6) (.item (.e (.var 3)) (.call ix.f__law_draw (.cons (.var 0) (.cons (.bf .len (.e (.var 3))) .nil))))) (.cons (.ret (.tup (.cons (.var 2) (.cons (.bf .tuple (.e (.var 4))) (.cons (.var 6) (.cons (.var 1) .nil)))))) .nil))))))))⟩
/-- _law_same: 0 _law_told, 1 _law_due, 2 _law_k -/
def F__law_same (ix : Lk) : Fn := ⟨2, 3, false, (.cons (.ife (.or (.t (.isi (.var 1) .tuple)) (.t (.isi (.var 1) .list))) (.cons (.ife (.or (.t (.op2 .ne (.e (.isi (.var 1) .tuple)) (.e (.isi (.var 0) .tuple)))) (.t (.op2 .ne (.e (.isi (.var 1) .list)) (.e (.isi (.var 0) .list))))) (.cons (.ret (.con (.bl false))) .nil) .nil) (.cons (.ife (.t (.op2 .ne (.e (.bf .len (.e (.var 0)))) (.e (.bf .len (.e (.var 1)))))) (.cons (.ret (.con (.bl false))) .nil) .nil) (.cons (.ret (.bf .all (.lc (.rng (.con (.int 0)) (.bf .len (.e (.var 1)))) (.nm 2) .no (.call ix.f__law_same (.cons (.item (.e (.var 0)) (.var 2)) (.cons (.item (.e (.var 1)) (.var 2)) .nil)))))) .nil))) .nil) (.cons (.ife (.t (.isN false (.var 1))) (.cons (.ret (.isN false (.var 0))) .nil) .nil) (.cons (.ife (.or (.t (.isi (.var 1) .bool)) (.t (.isi (.var 0) .bool))) (.cons (.ret (.and (.isi (.var 1) .bool) (.and (.isi (.var 0) .bool) (.op2 .eq (.e (.var 1)) (.e (.var 0)))))) .nil) .nil) (.cons (.ife (.t (.isi (.var 1) .int)) (.cons (.ret (.and (.isi (.var 0) .int) (.op2 .eq (.e (.var 0)) (.e (.var 1))))) .nil) .nil) (.cons (.ret (.and (.isi (.var 0) .str) (.op2 .eq (.e (.var 0)) (.e (.var 1))))) .nil)))))⟩
/-- _law_same_v2: 0 _law_one, 1 _law_two, 2 _law_k -/
def F__law_same_v2 (ix : Lk) : Fn := ⟨2, 3, false, (.cons .no (.cons (.ret (.and (.op2 .eq (.e (.isi (.var 0) .bool)) (.e (.isi (.var 1) .bool))) (.op2 .eq (.e (.var 0)) (.e (.var 1))))) .nil))⟩
/-- _law_same_v3: 0 _law_told_here, 1 _law_due, 2 _law_k -/
def F__law_same_v3 (ix : Lk) : Fn := ⟨2, 3, false, (.cons (.ife (.or (.t (.isi (.var 1) .tuple)) (.t (.isi (.var 1) .list))) (.cons (.ife (.or (.t (.op2 .ne (.e (.isi (.var 1) .tuple)) (.e (.isi (.var 0) .tuple)))) (.t (.op2 .ne (.e (.isi (.var 1) .list)) (.e (.isi (.var 0) .list))))) (.cons (.ret (.con (.bl false))) .nil) .nil) (.cons (.ife (.t (.op2 .ne (.e (.bf .len (.e (.var 0)))) (.e (.bf .len (.e (.var 1)))))) (.cons (.ret (.con (.bl false))) .nil) .nil) (.cons (.ret (.bf .all (.lc (.rng (.con (.int 0)) (.bf .len (.e (.var 1)))) (.nm 2) .no (.call ix.f__law_same (.cons (.item (.e (.var 0)) (.var 2)) (.cons (.item (.e (.var 1)) (.var 2)) .nil)))))) .nil))) .nil) (.cons (.ife (.t (.isN false (.var 1))) (.cons (.ret (.isN false (.var 0))) .nil) .nil) (.cons (.ife (.or (.t (.isi (.var 1) .bool)) (.t (.isi (.var 0) .bool))) (.cons (.ret (.and (.isi (.var 1) .bool) (.and (.isi (.var 0) .bool) (.op2 .eq (.e (.var 1)) (.e (.var 0)))))) .nil) .nil) (.cons (.ife (.t (.isi (.var 1) .int)) (.cons (.ret (.and (.isi (.var 0) .int) (.op2 .eq (.e (.var 0)) (.e (.var 1))))) .nil) .nil) (.cons (.ret (.and (.isi (.var 0) .str) (.op2 .eq (.e (.var 0)) (.e (.var 1))))) .nil)))))⟩
/-- _law_same_v4: 0 _law_told, 1 _law_due_here, 2 _law_k -/
def F__law_same_v4 (ix : Lk) : Fn := ⟨2, 3, false, (.cons (.ife (.or (.t (.isi (.var 1) .tuple)) (.t (.isi (.var 1) .list))) (.cons (.ife (.or (.t (.op2 .ne (.e (.isi (.var 1) .tuple)) (.e (.isi (.var 0) .tuple)))) (.t (.op2 .ne (.e (.isi (.var 1) .list)) (.e (.isi (.var 0) .list))))) (.cons (.ret (.con (.bl false))) .nil) .nil) (.cons (.ife (.t (.op2 .ne (.e (.bf .len (.e (.var 0)))) (.e (.bf .len (.e (.var 1)))))) (.cons (.ret (.con (.bl false))) .nil) .nil) (.cons (.ret (.bf .all (.lc (.rng (.con (.int 0)) (.bf .len (.e (.var 1)))) (.nm 2) .no (.call ix.f__law_same (.cons (.item (.e (.var 0)) (.var 2)) (.cons (.item (.e (.var 1)) (.var 2)) .nil)))))) .nil))) .nil) (.cons (.ife (.t (.isN false (.var 1))) (.cons (.ret (.isN false (.var 0))) .nil) .nil) (.cons (.ife (.or (.t (.isi (.var 1) .bool)) (.t (.isi (.var 0) .bool))) (.cons (.ret (.and (.isi (.var 1) .bool) (.and (.isi (.var 0) .bool) (.op2 .eq (.e (.var 1)) (.e (.var 0)))))) .nil) .nil) (.cons (.ife (.t (.isi (.var 1) .int)) (.cons (.ret (.and (.isi (.var 0) .int) (.op2 .eq (.e (.var 0)) (.e (.var 1))))) .nil) .nil) (.cons (.ret (.and (.isi (.var 0) .str) (.op2 .eq (.e (.var 0)) (.e (.var 1))))) .nil)))))⟩
/-- _law_same_v5: 0 _law_one, 1 _law_two_here, 2 _law_k -/
def F__law_same_v5 (ix : Lk) : Fn := ⟨2, 3, false, (.cons .no (.cons (.ret (.and (.op2 .eq (.e (.isi (.var 0) .bool)) (.e (.isi (.var 1) .bool))) (.op2 .eq (.e (.var 0)) (.e (.var 1))))) .nil))⟩
/-- _law_same_v6: 0 _law_told_here, 1 _law_due_here, 2 _law_k -/
def F__law_same_v6 (ix : Lk) : Fn := ⟨2, 3, false, (.cons (.ife (.or (.t (.isi (.var 1) .tuple)) (.t (.isi (.var 1) .list))) (.cons (.ife (.or (.t (.op2 .ne (.e (.isi (.var 1) .tuple)) (.e (.isi (.var 0) .tuple)))) (.t (.op2 .ne (.e (.isi (.var 1) .list)) (.e (.isi (.var 0) .list))))) (.cons (.ret (.con (.bl false))) .nil) .nil) (.cons (.ife (.t (.op2 .ne (.e (.bf .len (.e (.var 0)))) (.e (.bf .len (.e (.var 1)))))) (.cons (.ret (.con (.bl false))) .nil) .nil) (.cons (.ret (.bf .all (.lc (.rng (.con (.int 0)) (.bf .len (.e (.var 1)))) (.nm 2) .no (.call ix.f__law_same (.cons (.item (.e (.var 0)) (.var 2)) (.cons (.item (.e (.var 1)) (.var 2)) .nil)))))) .nil))) .nil) (.cons (.ife (.t (.isN false (.var 1))) (.cons (.ret (.isN false (.var 0))) .nil) .nil) (.cons (.ife (.or (.t (.isi (.var 1) .bool)) (.t (.isi (.var 0) .bool))) (.cons (.ret (.and (.isi (.var 1) .bool) (.and (.isi (.var 0) .bool) (.op2 .eq (.e (.var 1)) (.e (.var 0)))))) .nil) .nil) (.cons (.ife (.t (.isi (.var 1) .int)) (.cons (.ret (.and (.isi (.var 0) .int) (.op2 .eq (.e (.var 0)) (.e (.var 1))))) .nil) .nil) (.cons (.ret (.and (.isi (.var 0) .str) (.op2 .eq (.e (.var 0)) (.e (.var 1))))) .nil)))))⟩
/-- _law_put: 0 _law_parts_here, 1 _law_history, 2 _law_place, 3 _law_name, 4 _law_made -/
def F__law_put (ix : Lk) : Fn := ⟨4, 5, false, (.cons (.set (.nm 4) (.op2 .add (.e (.slc (.e (.var 1)) .no (.yes (.op2 .add (.e (.var 2)) (.e (.con (.int 1))))))) (.e (.tup (.cons (.var 3) .nil))))) (.cons (.ife (.t (.op2 .gt (.e (.bf .len (.e (.var 4)))) (.e (.item (.e (.var 0)) (.con (.int 3)))))) (.cons (.set (.nm 4) (.slc (.e (.var 4)) (.yes (.con (.int 1))) .no)) .nil) .nil) (.cons (.ret (.tup (.cons (.var 4) (.cons (.op2 .sub (.e (.bf .len (.e (.var 4)))) (.e (.con (.int 1)))) .nil)))) .nil)))⟩
/-- _law_put_v2: 0 _law_history, 1 _law_place, 2 _law_name, 3 _law_size, 4 _law_made -/
def F__law_put_v2 (ix : Lk) : Fn := ⟨4, 5, false, (.cons (.set (.nm 4) (.op2 .add (.e (.slc (.e (.var 0)) .no (.yes (.op2 .add (.e (.var 1)) (.e (.con (.int 1))))))) (.e (.tup (.cons (.var 2) .nil))))) (.cons (.ife (.t (.op2 .gt (.e (.bf .len (.e (.var 4)))) (.e (.var 3)))) (.cons (.set (.nm 4) (.slc (.e (.var 4)) (.yes (.con (.int 1))) .no)) .nil) .nil) (.cons (.ret (.tup (.cons (.var 4) (.cons (.op2 .sub (.e (.bf .len (.e (.var 4)))) (.e (.con (.int 1)))) .nil)))) .nil)))⟩
/-- replaced: 0 rows, 1 position, 2 row, 3 index, 4 sides, 5 old -/
def F_replaced (ix : Lk) : Fn := ⟨3, 6, false, (.cons (.set (.nm 3) (.item (.e (.var 1)) (.con (.int 0)))) (.cons (.ife (.t (.op2 .gt (.e (.bf .len (.e (.var 1)))) (.e (.con (.int 1))))) (.cons (.set (.nm 4) (.bf .list (.e (.call ix.f_branches (.cons (.item (.e (.var 0)) (.var 3)) .nil))))) (.cons (.itm (.var 4) (.item (.e (.var 1)) (.con (.int 1))) (.call ix.f_replaced (.cons (.item (.e (.var 4)) (.item (.e (.var 1)) (.con (.int 1)))) (.cons (.slc (.e (.var 1)) (.yes (.con (.int 2))) .no) (.cons (.var 2) .nil))))) (.cons (.set (.nm 5) (.item (.e (.var 0)) (.var 3))) (.cons (.set (.nm 2) (.op2 .add (.e (.slc (.e (.var 5)) .no (.yes (.op2 .sub (.e (.bf .len (.e (.var 5)))) (.e (.con (.int 2))))))) (.e (.tup (.cons (.item (.e (.var 4)) (.con (.int 0))) (.cons (.item (.e (.var 4)) (.con (.int 1))) .nil)))))) .nil)))) .nil) (.cons (.ret (.op2 .add (.e (.op2 .add (.e (.slc (.e (.var 0)) .no (.yes (.var 3)))) (.e (.tup (.cons (.var 2) .nil))))) (.e (.slc (.e (.var 0)) (.yes (.op2 .add (.e (.var 3)) (.e (.con (.int 1))))) .no)))) .nil)))⟩
/-- Site_guard_paths: 0 self, 1 name, 2 side -/
def F_Site_guard_paths (ix : Lk) : Fn := ⟨1, 3, false, (.cons (.ret (.new (.lc2 (.a (.e (.meth (.var 0) 103 .nil))) (.nm 1) .no (.a (.e (.glo ix.g_SIDES))) (.nm 2) .no (.tup (.cons (.var 1) (.cons (.var 2) .nil)))))) .nil)⟩
/-- Site_row_paths: 0 self, 1 paths, 2 name, 3 side, 4 pair -/
def F_Site_row_paths (ix : Lk) : Fn := ⟨1, 5, false, (.cons (.set (.nm 1) (.new (.lst .nil))) (.cons (.for (.tp [2, 3]) (.a (.e (.meth (.var 0) 63 .nil))) (.cons (.ex (.mt .extend (.var 1) (.lc (.a (.e (.callS ix.f_rows_in_order (.cons (.meth (.var 0) 61 (.cons (.var 2) (.cons (.var 3) .nil))) .nil) [.inl 0, .inr (.tup [])]))) (.nm 4) .no (.tup (.cons (.var 2) (.cons (.var 3) (.cons (.item (.e (.var 4)) (.con (.int 0))) .nil))))))) .nil)) (.cons (.ret (.var 1)) .nil)))⟩
/-- Site_has_path: 0 self, 1 path, 2 item -/
def F_Site_has_path (ix : Lk) : Fn := ⟨2, 3, false, (.cons (.ife (.or (.not (.t (.isi (.var 1) .tuple))) (.t (.op2 .ne (.e (.bf .len (.e (.var 1)))) (.e (.con (.int 3)))))) (.cons (.ret (.con (.bl false))) .nil) .nil) (.cons (.ife (.or (.not (.t (.call ix.f_is_one_of (.cons (.item (.e (.var 1)) (.con (.int 0))) (.cons (.meth (.var 0) 103 .nil) .nil))))) (.not (.t (.call ix.f_is_one_of (.cons (.item (.e (.var 1)) (.con (.int 1))) (.cons (.glo ix.g_SIDES) .nil)))))) (.cons (.ret (.con (.bl false))) .nil) .nil) (.cons (.ife (.or (.not (.t (.isi (.item (.e (.var 1)) (.con (.int 2))) .tuple))) (.not (.t (.bf .all (.lc (.a (.e (.item (.e (.var 1)) (.con (.int 2))))) (.nm 2) .no (.call ix.f_is_integer (.cons (.var 2) .nil))))))) (.cons (.ret (.con (.bl false))) .nil) .nil) (.cons (.ret (.op2 .isin (.e (.var 1)) (.e (.meth (.var 0) 129 .nil)))) .nil))))⟩
/-- Site_row_at: 0 self, 1 path, 2 rows, 3 position, 4 row -/
def F_Site_row_at (ix : Lk) : Fn := ⟨2, 5, false, (.cons (.ife (.not (.t (.meth (.var 0) 64 (.cons (.var 1) .nil)))) (.cons .no .nil) .nil) (.cons (.set (.nm 2) (.meth (.var 0) 61 (.cons (.item (.e (.var 1)) (.con (.int 0))) (.cons (.item (.e (.var 1)) (.con (.int 1))) .nil)))) (.cons (.ret (.item (.lc (.a (.e (.callS ix.f_rows_in_order (.cons (.var 2) .nil) [.inl 0, .inr (.tup [])]))) (.tp [3, 4]) (.yes (.t (.op2 .eq (.e (.var 3)) (.e (.item (.e (.var 1)) (.con (.int 2))))))) (.var 4)) (.con (.int 0)))) .nil)))⟩
/-- Site_with_row: 0 self, 1 path, 2 row, 3 page, 4 side, 5 position -/
def F_Site_with_row (ix : Lk) : Fn := ⟨3, 6, false, (.cons (.ife (.not (.t (.meth (.var 0) 64 (.cons (.var 1) .nil)))) (.cons .no .nil) .nil) (.cons (.set (.tp [3, 4, 5]) (.var 1)) (.cons (.ret (.meth (.var 0) 164 (.cons (.var 3) (.cons (.var 4) (.cons (.call ix.f_replaced (.cons (.meth (.var 0) 61 (.cons (.var 3) (.cons (.var 4) .nil))) (.cons (.var 5) (.cons (.var 2) .nil)))) .nil))))) .nil)))⟩
/-- Site_with_guard: 0 self, 1 page, 2 side, 3 rows, 4 pages, 5 name, 6 parts -/
def F_Site_with_guard (ix : Lk) : Fn := ⟨4, 7, false, (.cons (.ex (.meth (.var 0) 61 (.cons (.var 1) (.cons (.var 2) .nil)))) (.cons (.set (.nm 4) (.new (.lst .nil))) (.cons (.for (.tp [5, 6]) (.a (.e (.attr (.var 0) 106))) (.cons (.ife (.and (.t (.op2 .eq (.e (.var 5)) (.e (.var 1)))) (.t (.op2 .eq (.e (.var 2)) (.e (.con (.str [101, 110, 116, 101, 114])))))) (.cons (.set (.nm 6) (.tup (.cons (.var 3) (.cons (.item (.e (.var 6)) (.con (.int 1))) (.cons (.item (.e (.var 6)) (.con (.int 2))) .nil))))) .nil) (.cons (.ife (.t (.op2 .eq (.e (.var 5)) (.e (.var 1)))) (.cons (.set (.nm 6) (.tup (.cons (.item (.e (.var 6)) (.con (.int 0))) (.cons (.var 3) (.cons (.item (.e (.var 6)) (.con (.int 2))) .nil))))) .nil) .nil) .nil)) (.cons (.ex (.mt .append (.var 4) (.e (.tup (.cons (.var 5) (.cons (.var 6) .nil)))))) .nil))) (.cons (.ret (.makeS ix.c_Site (.cons (.attr (.var 0) 29) (.cons (.bf .tuple (.e (.var 4))) (.cons (.attr (.var 0) 144) (.cons (.attr (.var 0) 70) .nil)))) [.inl 0, .inl 1, .inl 2, .inl 3])) .nil))))⟩
/-- _law_told: 0 _law_desk, 1 _law_found, 2 _law_verdict -/
def F__law_told (ix : Lk) : Fn := ⟨1, 3, false, (.cons (.set (.nm 1) (.new (.lst .nil))) (.cons (.for (.nm 2) (.a (.e (.meth (.var 0) 158 .nil))) (.cons (.ife (.t (.isN false (.var 2))) (.cons (.ex (.mt .append (.var 1) (.e (.con .non)))) .nil) (.cons (.ex (.mt .append (.var 1) (.e (.meth (.var 2) 107 .nil)))) .nil)) .nil)) (.cons (.ret (.var 1)) .nil)))⟩
/-- _law_told_v2: 0 _law_first, 1 _law_second_here, 2 _law_told_here -/
def F__law_told_v2 (ix : Lk) : Fn := ⟨2, 3, false, (.cons (.set (.nm 2) (.con .non)) (.cons .no (.cons (.ret (.var 2)) .nil)))⟩
/-- _law_told_v3: 0 _law_site, 1 _law_rule_here, 2 _law_value, 3 _law_deed_here, 4 error, 5 _law_made -/
def F__law_told_v3 (ix : Lk) : Fn := ⟨4, 6, false, (.cons .no (.cons (.ret (.tup (.cons (.con (.str [115, 116, 101, 112])) (.cons (.attr (.var 5) 17) (.cons (.attr (.var 5) 48) (.cons (.attr (.var 5) 41) .nil)))))) .nil))⟩
/-- _law_told_v4: 0 _law_site, 1 _law_rule_here, 2 _law_value, 3 _law_deed_here, 4 error, 5 _law_made -/
def F__law_told_v4 (ix : Lk) : Fn := ⟨4, 6, false, (.cons .no (.cons (.ret (.tup (.cons (.con (.str [115, 116, 97, 110, 100])) (.cons (.attr (.var 5) 17) .nil)))) .nil))⟩
/-- Site_is_quiet: 0 self, 1 name, 2 side, 3 position, 4 row -/
def F_Site_is_quiet (ix : Lk) : Fn := ⟨1, 5, false, (.cons (.for (.tp [1, 2]) (.a (.e (.meth (.var 0) 63 .nil))) (.cons (.for (.tp [3, 4]) (.a (.e (.callS ix.f_rows_in_order (.cons (.meth (.var 0) 61 (.cons (.var 1) (.cons (.var 2) .nil))) .nil) [.inl 0, .inr (.tup [])]))) (.cons (.ife (.t (.op2 .eq (.e (.item (.e (.var 4)) (.con (.int 0)))) (.e (.con (.str [115, 101, 116]))))) (.cons (.ret (.con (.bl false))) .nil) .nil) .nil)) .nil)) (.cons (.ret (.con (.bl true))) .nil))⟩
/-- Walk___init__: 0 self, 1 outcome, 2 where, 3 flags, 4 done, 5 changes -/
def F_Walk___init__ (ix : Lk) : Fn := ⟨6, 6, false, (.cons (.atr (.var 0) 101 (.var 1)) (.cons (.atr (.var 0) 163 (.var 2)) (.cons (.atr (.var 0) 53 (.var 3)) (.cons (.atr (.var 0) 41 (.var 4)) (.cons (.atr (.var 0) 32 (.var 5)) .nil)))))⟩
/-- are_flags: 0 site, 1 value, 2 item -/
def F_are_flags (ix : Lk) : Fn := ⟨2, 3, false, (.cons (.ife (.or (.not (.t (.isi (.var 1) .tuple))) (.t (.op2 .ne (.e (.bf .len (.e (.var 1)))) (.e (.bf .len (.e (.attr (.var 0) 29))))))) (.cons (.ret (.con (.bl false))) .nil) .nil) (.cons (.ret (.bf .all (.lc (.a (.e (.var 1))) (.nm 2) .no (.isi (.var 2) .bool)))) .nil))⟩
/-- check_guard_call: 0 site, 1 page, 2 side, 3 flags, 4 rows -/
def F_check_guard_call (ix : Lk) : Fn := ⟨4, 5, false, (.cons (.set (.nm 4) (.meth (.var 0) 61 (.cons (.var 1) (.cons (.var 2) .nil)))) (.cons (.ife (.not (.t (.call ix.f_are_flags (.cons (.var 0) (.cons (.var 3) .nil))))) (.cons .no .nil) .nil) (.cons (.ret (.var 4)) .nil)))⟩
/-- entries: 0 rows, 1 prefix, 2 index, 3 row -/
def F_entries (ix : Lk) : Fn := ⟨2, 4, false, (.cons (.ret (.new (.lc (.enum (.e (.var 0))) (.tp [2, 3]) .no (.tup (.cons (.op2 .add (.e (.var 1)) (.e (.tup (.cons (.var 2) .nil)))) (.cons (.var 3) .nil)))))) .nil)⟩
/-- inside: 0 position, 1 row, 2 flag -/
def F_inside (ix : Lk) : Fn := ⟨3, 3, false, (.cons (.ife (.t (.var 2)) (.cons (.ret (.call ix.f_entries (.cons (.item (.e (.call ix.f_branches (.cons (.var 1) .nil))) (.con (.int 0))) (.cons (.op2 .add (.e (.var 0)) (.e (.tup (.cons (.con (.int 0)) .nil)))) .nil)))) .nil) .nil) (.cons (.ret (.call ix.f_entries (.cons (.item (.e (.call ix.f_branches (.cons (.var 1) .nil))) (.con (.int 1))) (.cons (.op2 .add (.e (.var 0)) (.e (.tup (.cons (.con (.int 1)) .nil)))) .nil)))) .nil))⟩
/-- walk_entries: 0 bits, 1 pending, 2 flags, 3 answers, 4 values, 5 used, 6 done, 7 changes, 8 outcome, 9 where, 10 position, 11 row, 12 index, 13 flag, 14 bit -/
def F_walk_entries (ix : Lk) : Fn := ⟨4, 15, false, (.cons (.set (.nm 1) (.bf .list (.e (.var 1)))) (.cons (.set (.nm 4) (.dcomp (.enum (.e (.var 2))) (.tp [12, 13]) (.item (.e (.var 0)) (.var 12)) (.var 13))) (.cons (.set (.nm 5) (.con (.int 0))) (.cons (.set (.nm 6) (.new (.lst .nil))) (.cons (.set (.nm 7) (.new (.lst .nil))) (.cons (.mix [.inl 8, .inl 9] (.tup (.cons (.con (.str [108, 101, 116])) (.cons (.con .non) .nil)))) (.cons (.whl (.and (.t (.var 1)) (.t (.op2 .eq (.e (.var 8)) (.e (.con (.str [108, 101, 116])))))) (.cons (.set (.tp [10, 11]) (.item (.e (.var 1)) (.con (.int 0)))) (.cons (.set (.nm 1) (.slc (.e (.var 1)) (.yes (.con (.int 1))) .no)) (.cons (.ex (.mt .append (.var 6) (.e (.var 10)))) (.cons (.ife (.t (.op2 .eq (.e (.item (.e (.var 11)) (.con (.int 0)))) (.e (.con (.str [115, 101, 116]))))) (.cons (.itm (.var 4) (.item (.e (.var 11)) (.con (.int 1))) (.item (.e (.var 11)) (.con (.int 2)))) (.cons (.ex (.mt .append (.var 7) (.e (.tup (.cons (.con (.str [98, 105, 116])) (.cons (.item (.e (.var 11)) (.con (.int 1))) (.cons (.item (.e (.var 11)) (.con (.int 2))) .nil))))))) .nil)) (.cons (.ife (.t (.op2 .eq (.e (.item (.e (.var 11)) (.con (.int 0)))) (.e (.con (.str [105, 102]))))) (.cons (.set (.nm 1) (.op2 .add (.e (.call ix.f_inside (.cons (.var 10) (.cons (.var 11) (.cons (.item (.e (.var 4)) (.item (.e (.var 11)) (.con (.int 1)))) .nil))))) (.e (.var 1)))) .nil) (.cons (.ife (.and (.t (.op2 .eq (.e (.item (.e (.var 11)) (.con (.int 0)))) (.e (.con (.str [97, 115, 107]))))) (.t (.op2 .lt (.e (.var 5)) (.e (.bf .len (.e (.var 3))))))) (.cons (.set (.nm 1) (.op2 .add (.e (.call ix.f_inside (.cons (.var 10) (.cons (.var 11) (.cons (.item (.e (.var 3)) (.var 5)) .nil))))) (.e (.var 1)))) (.cons (.aug 5 .add (.con (.int 1))) .nil)) (.cons (.ife (.t (.op2 .eq (.e (.item (.e (.var 11)) (.con (.int 0)))) (.e (.con (.str [97, 115, 107]))))) (.cons (.set (.tp [8, 9]) (.tup (.cons (.con (.str [119, 97, 105, 116])) (.cons (.var 10) .nil)))) .nil) (.cons (.ife (.t (.op2 .eq (.e (.item (.e (.var 11)) (.con (.int 0)))) (.e (.con (.str [108, 101, 97, 100]))))) (.cons (.set (.tp [8, 9]) (.tup (.cons (.con (.str [108, 101, 97, 100])) (.cons (.item (.e (.var 11)) (.con (.int 1))) .nil)))) .nil) (.cons (.set (.nm 8) (.con (.str [114, 101, 102, 117, 115, 101]))) .nil)) .nil)) .nil)) .nil)) .nil)) .nil))))) (.cons (.ret (.make ix.c_Walk (.cons (.var 8) (.cons (.var 9) (.cons (.bf .tuple (.lc (.a (.e (.var 0))) (.nm 14) .no (.item (.e (.var 4)) (.var 14)))) (.cons (.var 6) (.cons (.var 7) .nil))))))) .nil))))))))⟩
/-- walk_guard: 0 site, 1 page, 2 side, 3 flags, 4 answers -/
def F_walk_guard (ix : Lk) : Fn := ⟨5, 5, false, (.cons (.ret (.call ix.f_walk_entries (.cons (.attr (.var 0) 29) (.cons (.call ix.f_entries (.cons (.meth (.var 0) 61 (.cons (.var 1) (.cons (.var 2) .nil))) (.cons (.tup .nil) .nil))) (.cons (.var 3) (.cons (.var 4) .nil)))))) .nil)⟩
/-- run_guard: 0 site, 1 page, 2 side, 3 flags, 4 answers, 5 walk -/
def F_run_guard (ix : Lk) : Fn := ⟨5, 6, false, (.cons (.ex (.call ix.f_check_guard_call (.cons (.var 0) (.cons (.var 1) (.cons (.var 2) (.cons (.var 3) .nil)))))) (.cons (.set (.nm 5) (.call ix.f_walk_guard (.cons (.var 0) (.cons (.var 1) (.cons (.var 2) (.cons (.var 3) (.cons (.var 4) .nil))))))) (.cons (.ret (.tup (.cons (.attr (.var 5) 101) (.cons (.attr (.var 5) 53) (.cons (.attr (.var 5) 163) .nil))))) .nil)))⟩
/-- _law_entries: 0 _law_rows_here, 1 _law_prefix, 2 _law_k -/
def F__law_entries (ix : Lk) : Fn := ⟨2, 3, false, (.cons (.ret (.new (.lc (.rng (.con (.int 0)) (.bf .len (.e (.var 0)))) (.nm 2) .no (.tup (.cons (.op2 .add (.e (.var 1)) (.e (.tup (.cons (.var 2) .nil)))) (.cons (.item (.e (.var 0)) (.var 2)) .nil)))))) .nil)⟩
/-- _law_branch: 0 _law_spot, 1 _law_row_here, 2 _law_flag -/
def F__law_branch (ix : Lk) : Fn := ⟨3, 3, false, (.cons (.ife (.t (.var 2)) (.cons (.ret (.call ix.f__law_entries (.cons (.item (.e (.var 1)) (.op2 .sub (.e (.bf .len (.e (.var 1)))) (.e (.con (.int 2))))) (.cons (.op2 .add (.e (.var 0)) (.e (.tup (.cons (.con (.int 0)) .nil)))) .nil)))) .nil) .nil) (.cons (.ret (.call ix.f__law_entries (.cons (.item (.e (.var 1)) (.op2 .sub (.e (.bf .len (.e (.var 1)))) (.e (.con (.int 1))))) (.cons (.op2 .add (.e (.var 0)) (.e (.tup (.cons (.con (.int 1)) .nil)))) .nil)))) .nil))⟩
/-- _law_value: 0 _law_bits, 1 _law_flags, 2 _law_bit, 3 _law_k -/
def F__law_value (ix : Lk) : Fn := ⟨3, 4, false, (.cons (.ret (.item (.lc (.rng (.con (.int 0)) (.bf .len (.e (.var 0)))) (.nm 3) (.yes (.t (.op2 .eq (.e (.item (.e (.var 0)) (.var 3))) (.e (.var 2))))) (.item (.e (.var 1)) (.var 3))) (.con (.int 0)))) .nil)⟩
/-- _law_value_v2: 0 _law_bits, 1 _law_flags_here, 2 _law_bit, 3 _law_k -/
def F__law_value_v2 (ix : Lk) : Fn := ⟨3, 4, false, (.cons (.ret (.item (.lc (.rng (.con (.int 0)) (.bf .len (.e (.var 0)))) (.nm 3) (.yes (.t (.op2 .eq (.e (.item (.e (.var 0)) (.var 3))) (.e (.var 2))))) (.item (.e (.var 1)) (.var 3))) (.con (.int 0)))) .nil)⟩
/-- _law_guard: 0 _law_draws_here, 1 _law_at, 2 _law_side, 3 _law_names, 4 _law_bits, 5 _law_leaf_here, 6 _law_rest, 7 _law_shape, 8 _law_bit -/
def F__law_guard (ix : Lk) : Fn := ⟨5, 9, false, (.cons (.set (.nm 5) (.call ix.f__law_leaf (.cons (.item (.e (.var 0)) (.op2 .add (.e (.var 1)) (.e (.con (.int 1))))) (.cons (.var 2) (.cons (.var 3) (.cons (.var 4) .nil)))))) (.cons (.set (.nm 6) (.tup (.cons (.call ix.f__law_leaf (.cons (.item (.e (.var 0)) (.op2 .add (.e (.var 1)) (.e (.con (.int 2))))) (.cons (.var 2) (.cons (.var 3) (.cons (.var 4) .nil))))) .nil))) (.cons (.ife (.t (.op2 .eq (.e (.var 6)) (.e (.tup (.cons (.tup (.cons (.con (.str [114, 101, 102, 117, 115, 101])) .nil)) .nil))))) (.cons (.set (.nm 6) (.tup .nil)) .nil) .nil) (.cons (.set (.nm 7) (.op2 .mod (.e (.bf .int (.e (.item (.e (.var 0)) (.var 1))))) (.e (.con (.int 12))))) (.cons (.ife (.or (.t (.op2 .lt (.e (.var 7)) (.e (.con (.int 4))))) (.and (.t (.op2 .eq (.e (.var 2)) (.e (.con (.str [108, 101, 97, 118, 101]))))) (.and (.t (.op2 .eq (.e (.var 7)) (.e (.con (.int 4))))) (.t (.op2 .gt (.e (.bf .int (.e (.op2 .fdiv (.e (.item (.e (.var 0)) (.var 1))) (.e (.con (.int 12))))))) (.e (.con (.int 0)))))))) (.cons (.ret (.tup .nil)) .nil) .nil) (.cons (.ife (.t (.op2 .eq (.e (.var 7)) (.e (.con (.int 4))))) (.cons (.ret (.tup (.cons (.var 5) .nil))) .nil) .nil) (.cons (.ife (.t (.op2 .eq (.e (.var 7)) (.e (.con (.int 5))))) (.cons (.ret (.tup (.cons (.tup (.cons (.con (.str [97, 115, 107])) (.cons (.tup .nil) (.cons (.tup (.cons (.var 5) .nil)) .nil)))) .nil))) .nil) .nil) (.cons (.ife (.t (.op2 .eq (.e (.var 7)) (.e (.con (.int 6))))) (.cons (.ret (.tup (.cons (.tup (.cons (.con (.str [97, 115, 107])) (.cons (.tup (.cons (.var 5) .nil)) (.cons (.var 6) .nil)))) .nil))) .nil) .nil) (.cons (.ife (.t (.op2 .eq (.e (.var 7)) (.e (.con (.int 7))))) (.cons (.ret (.tup (.cons (.tup (.cons (.con (.str [97, 115, 107])) (.cons (.tup (.cons (.tup (.cons (.con (.str [97, 115, 107])) (.cons (.tup .nil) (.cons (.tup (.cons (.var 5) .nil)) .nil)))) .nil)) (.cons (.var 6) .nil)))) .nil))) .nil) .nil) (.cons (.ife (.t (.op2 .eq (.e (.bf .len (.e (.var 4)))) (.e (.con (.int 0))))) (.cons (.ret (.op2 .add (.e (.tup (.cons (.tup (.cons (.con (.str [97, 115, 107])) (.cons (.tup (.cons (.var 5) .nil)) (.cons (.tup .nil) .nil)))) .nil))) (.e (.var 6)))) .nil) .nil) (.cons (.set (.nm 8) (.item (.e (.var 4)) (.op2 .mod (.e (.bf .int (.e (.op2 .fdiv (.e (.item (.e (.var 0)) (.var 1))) (.e (.con (.int 12))))))) (.e (.bf .len (.e (.var 4))))))) (.cons (.ife (.t (.op2 .eq (.e (.var 7)) (.e (.con (.int 8))))) (.cons (.ret (.tup (.cons (.tup (.cons (.con (.str [105, 102])) (.cons (.var 8) (.cons (.tup (.cons (.var 5) .nil)) (.cons (.tup .nil) .nil))))) .nil))) .nil) .nil) (.cons (.ife (.t (.op2 .eq (.e (.var 7)) (.e (.con (.int 9))))) (.cons (.ret (.op2 .add (.e (.tup (.cons (.tup (.cons (.con (.str [105, 102])) (.cons (.var 8) (.cons (.tup .nil) (.cons (.tup (.cons (.var 5) .nil)) .nil))))) .nil))) (.e (.var 6)))) .nil) .nil) (.cons (.ife (.t (.op2 .eq (.e (.var 7)) (.e (.con (.int 10))))) (.cons (.ret (.tup (.cons (.tup (.cons (.con (.str [105, 102])) (.cons (.var 8) (.cons (.tup (.cons (.tup (.cons (.con (.str [97, 115, 107])) (.cons (.tup .nil) (.cons (.tup (.cons (.var 5) .nil)) .nil)))) .nil)) (.cons (.var 6) .nil))))) .nil))) .nil) .nil) (.cons (.ret (.tup (.cons (.tup (.cons (.con (.str [115, 101, 116])) (.cons (.var 8) (.cons (.op2 .eq (.e (.op2 .mod (.e (.bf .int (.e (.op2 .fdiv (.e (.item (.e (.var 0)) (.var 1))) (.e (.con (.int 24))))))) (.e (.con (.int 2))))) (.e (.con (.int 0)))) .nil)))) (.cons (.tup (.cons (.con (.str [97, 115, 107])) (.cons (.tup .nil) (.cons (.tup (.cons (.var 5) .nil)) .nil)))) .nil)))) .nil)))))))))))))))⟩
/-- _law_guard_v2: 0 _law_bits, 1 _law_pending, 2 _law_flags_here, 3 _law_answers, 4 _law_values, 5 _law_used, 6 _law_changes, 7 _law_done, 8 _law_k, 9 _law_spot, 10 _law_row_here, 11 _law_j -/
def F__law_guard_v2 (ix : Lk) : Fn := ⟨4, 12, false, (.cons (.set (.nm 4) (.bf .list (.e (.var 2)))) (.cons (.set (.nm 5) (.con (.int 0))) (.cons (.set (.nm 6) (.new (.lst .nil))) (.cons (.set (.nm 7) (.new (.lst .nil))) (.cons (.for (.nm 8) (.rng (.con (.int 0)) (.con (.int 12))) (.cons (.ife (.t (.op2 .eq (.e (.bf .len (.e (.var 1)))) (.e (.con (.int 0))))) (.cons (.ret (.tup (.cons (.con (.str [108, 101, 116])) (.cons (.bf .tuple (.e (.var 4))) (.cons (.con .non) (.cons (.var 6) (.cons (.var 7) .nil))))))) .nil) .nil) (.cons (.set (.tp [9, 10]) (.item (.e (.var 1)) (.con (.int 0)))) (.cons (.set (.nm 1) (.slc (.e (.var 1)) (.yes (.con (.int 1))) .no)) (.cons (.ex (.mt .append (.var 7) (.e (.var 9)))) (.cons (.ife (.t (.op2 .eq (.e (.item (.e (.var 10)) (.con (.int 0)))) (.e (.con (.str [114, 101, 102, 117, 115, 101]))))) (.cons (.ret (.tup (.cons (.con (.str [114, 101, 102, 117, 115, 101])) (.cons (.bf .tuple (.e (.var 4))) (.cons (.con .non) (.cons (.var 6) (.cons (.var 7) .nil))))))) .nil) .nil) (.cons (.ife (.t (.op2 .eq (.e (.item (.e (.var 10)) (.con (.int 0)))) (.e (.con (.str [108, 101, 97, 100]))))) (.cons (.ret (.tup (.cons (.con (.str [108, 101, 97, 100])) (.cons (.bf .tuple (.e (.var 4))) (.cons (.item (.e (.var 10)) (.con (.int 1))) (.cons (.var 6) (.cons (.var 7) .nil))))))) .nil) .nil) (.cons (.ife (.t (.op2 .eq (.e (.item (.e (.var 10)) (.con (.int 0)))) (.e (.con (.str [115, 101, 116]))))) (.cons (.set (.nm 4) (.new (.lc (.rng (.con (.int 0)) (.bf .len (.e (.var 0)))) (.nm 11) .no (.ite (.t (.op2 .eq (.e (.item (.e (.var 0)) (.var 11))) (.e (.item (.e (.var 10)) (.con (.int 1)))))) (.item (.e (.var 10)) (.con (.int 2))) (.item (.e (.var 4)) (.var 11)))))) (.cons (.ex (.mt .append (.var 6) (.e (.tup (.cons (.con (.str [98, 105, 116])) (.cons (.item (.e (.var 10)) (.con (.int 1))) (.cons (.item (.e (.var 10)) (.con (.int 2))) .nil))))))) .nil)) (.cons (.ife (.t (.op2 .eq (.e (.item (.e (.var 10)) (.con (.int 0)))) (.e (.con (.str [105, 102]))))) (.cons (.set (.nm 1) (.op2 .add (.e (.call ix.f__law_branch (.cons (.var 9) (.cons (.var 10) (.cons (.call ix.f__law_value (.cons (.var 0) (.cons (.var 4) (.cons (.item (.e (.var 10)) (.con (.int 1))) .nil)))) .nil))))) (.e (.var 1)))) .nil) (.cons (.ife (.t (.op2 .eq (.e (.var 5)) (.e (.bf .len (.e (.var 3)))))) (.cons (.ret (.tup (.cons (.con (.str [119, 97, 105, 116])) (.cons (.bf .tuple (.e (.var 4))) (.cons (.var 9) (.cons (.var 6) (.cons (.var 7) .nil))))))) .nil) (.cons (.set (.nm 1) (.op2 .add (.e (.call ix.f__law_branch (.cons (.var 9) (.cons (.var 10) (.cons (.item (.e (.var 3)) (.var 5)) .nil))))) (.e (.var 1)))) (.cons (.set (.nm 5) (.op2 .add (.e (.var 5)) (.e (.con (.int 1))))) .nil))) .nil)) .nil)) .nil)))))))) (.cons (.ret (.tup (.cons (.con (.str [108, 101, 116])) (.cons (.bf .tuple (.e (.var 4))) (.cons (.con .non) (.cons (.var 6) (.cons (.var 7) .nil))))))) .nil))))))⟩
/-- _law_guard_v3: 0 _law_bits, 1 _law_pending, 2 _law_flags, 3 _law_answers, 4 _law_values, 5 _law_used, 6 _law_changes, 7 _law_done, 8 _law_k, 9 _law_spot, 10 _law_row_here, 11 _law_j -/
def F__law_guard_v3 (ix : Lk) : Fn := ⟨4, 12, false, (.cons (.set (.nm 4) (.bf .list (.e (.var 2)))) (.cons (.set (.nm 5) (.con (.int 0))) (.cons (.set (.nm 6) (.new (.lst .nil))) (.cons (.set (.nm 7) (.new (.lst .nil))) (.cons (.for (.nm 8) (.rng (.con (.int 0)) (.con (.int 12))) (.cons (.ife (.t (.op2 .eq (.e (.bf .len (.e (.var 1)))) (.e (.con (.int 0))))) (.cons (.ret (.tup (.cons (.con (.str [108, 101, 116])) (.cons (.bf .tuple (.e (.var 4))) (.cons (.con .non) (.cons (.var 6) (.cons (.var 7) .nil))))))) .nil) .nil) (.cons (.set (.tp [9, 10]) (.item (.e (.var 1)) (.con (.int 0)))) (.cons (.set (.nm 1) (.slc (.e (.var 1)) (.yes (.con (.int 1))) .no)) (.cons (.ex (.mt .append (.var 7) (.e (.var 9)))) (.cons (.ife (.t (.op2 .eq (.e (.item (.e (.var 10)) (.con (.int 0)))) (.e (.con (.str [114, 101, 102, 117, 115, 101]))))) (.cons (.ret (.tup (.cons (.con (.str [114, 101, 102, 117, 115, 101])) (.cons (.bf .tuple (.e (.var 4))) (.cons (.con .non) (.cons (.var 6) (.cons (.var 7) .nil))))))) .nil) .nil) (.cons (.ife (.t (.op2 .eq (.e (.item (.e (.var 10)) (.con (.int 0)))) (.e (.con (.str [108, 101, 97, 100]))))) (.cons (.ret (.tup (.cons (.con (.str [108, 101, 97, 100])) (.cons (.bf .tuple (.e (.var 4))) (.cons (.item (.e (.var 10)) (.con (.int 1))) (.cons (.var 6) (.cons (.var 7) .nil))))))) .nil) .nil) (.cons (.ife (.t (.op2 .eq (.e (.item (.e (.var 10)) (.con (.int 0)))) (.e (.con (.str [115, 101, 116]))))) (.cons (.set (.nm 4) (.new (.lc (.rng (.con (.int 0)) (.bf .len (.e (.var 0)))) (.nm 11) .no (.ite (.t (.op2 .eq (.e (.item (.e (.var 0)) (.var 11))) (.e (.item (.e (.var 10)) (.con (.int 1)))))) (.item (.e (.var 10)) (.con (.int 2))) (.item (.e (.var 4)) (.var 11)))))) (.cons (.ex (.mt .append (.var 6) (.e (.tup (.cons (.con (.str [98, 105, 116])) (.cons (.item (.e (.var 10)) (.con (.int 1))) (.cons (.item (.e (.var 10)) (.con (.int 2))) .nil))))))) .nil)) (.cons (.ife (.t (.op2 .eq (.e (.item (.e (.var 10)) (.con (.int 0)))) (.e (.con (.str [105, 102]))))) (.cons (.set (.nm 1) (.op2 .add (.e (.call ix.f__law_branch (.cons (.var 9) (.cons (.var 10) (.cons (.call ix.f__law_value (.cons (.var 0) (.cons (.var 4) (.cons (.item (.e (.var 10)) (.con (.int 1))) .nil)))) .nil))))) (.e (.var 1)))) .nil) (.cons (.ife (.t (.op2 .eq (.e (.var 5)) (.e (.bf .len (.e (.var 3)))))) (.cons (.ret (.tup (.cons (.con (.str [119, 97, 105, 116])) (.cons (.bf .tuple (.e (.var 4))) (.cons (.var 9) (.cons (.var 6) (.cons (.var 7) .nil))))))) .nil) (.cons (.set (.nm 1) (.op2 .add (.e (.call ix.f__law_branch (.cons (.var 9) (.cons (.var 10) (.cons (.item (.e (.var 3)) (.var 5)) .nil))))) (.e (.var 1)))) (.cons (.set (.nm 5) (.op2 .add (.e (.var 5)) (.e (.con (.int 1))))) .nil))) .nil)) .nil)) .nil)))))))) (.cons (.ret (.tup (.cons (.con (.str [108, 101, 116])) (.cons (.bf .tuple (.e (.var 4))) (.cons (.con .non) (.cons (.var 6) (.cons (.var 7) .nil))))))) .nil))))))⟩
/-- pending_after: 0 rows, 1 position, 2 answer, 3 pending, 4 prefix, 5 level, 6 depth, 7 index, 8 row, 9 branch -/
def F_pending_after (ix : Lk) : Fn := ⟨3, 10, false, (.cons (.set (.nm 3) (.new (.lst .nil))) (.cons (.set (.nm 4) (.tup .nil)) (.cons (.set (.nm 5) (.var 0)) (.cons (.for (.nm 6) (.rng3 (.con (.int 0)) (.bf .len (.e (.var 1))) (.con (.int 2))) (.cons (.set (.nm 7) (.item (.e (.var 1)) (.var 6))) (.cons (.set (.nm 8) (.item (.e (.var 5)) (.var 7))) (.cons (.set (.nm 3) (.op2 .add (.e (.slc (.e (.call ix.f_entries (.cons (.var 5) (.cons (.var 4) .nil)))) (.yes (.op2 .add (.e (.var 7)) (.e (.con (.int 1))))) .no)) (.e (.var 3)))) (.cons (.set (.nm 4) (.op2 .add (.e (.var 4)) (.e (.tup (.cons (.var 7) .nil))))) (.cons (.ife (.t (.op2 .lt (.e (.op2 .add (.e (.var 6)) (.e (.con (.int 1))))) (.e (.bf .len (.e (.var 1)))))) (.cons (.set (.nm 9) (.item (.e (.var 1)) (.op2 .add (.e (.var 6)) (.e (.con (.int 1)))))) (.cons (.set (.nm 5) (.item (.e (.call ix.f_branches (.cons (.var 8) .nil))) (.var 9))) (.cons (.set (.nm 4) (.op2 .add (.e (.var 4)) (.e (.tup (.cons (.var 9) .nil))))) .nil))) (.cons (.set (.nm 3) (.op2 .add (.e (.call ix.f_inside (.cons (.var 1) (.cons (.var 8) (.cons (.var 2) .nil))))) (.e (.var 3)))) .nil)) .nil)))))) (.cons (.ret (.var 3)) .nil)))))⟩
/-- walk_on: 0 site, 1 page, 2 side, 3 flags, 4 position, 5 answers, 6 pending -/
def F_walk_on (ix : Lk) : Fn := ⟨6, 7, false, (.cons (.set (.nm 6) (.call ix.f_pending_after (.cons (.meth (.var 0) 61 (.cons (.var 1) (.cons (.var 2) .nil))) (.cons (.var 4) (.cons (.item (.e (.var 5)) (.con (.int 0))) .nil))))) (.cons (.ret (.call ix.f_walk_entries (.cons (.attr (.var 0) 29) (.cons (.var 6) (.cons (.var 3) (.cons (.slc (.e (.var 5)) (.yes (.con (.int 1))) .no) .nil)))))) .nil))⟩
/-- is_ask_position: 0 rows, 1 value, 2 position, 3 row, 4 item -/
def F_is_ask_position (ix : Lk) : Fn := ⟨2, 5, false, (.cons (.ife (.or (.not (.t (.isi (.var 1) .tuple))) (.not (.t (.bf .all (.lc (.a (.e (.var 1))) (.nm 4) .no (.call ix.f_is_integer (.cons (.var 4) .nil))))))) (.cons (.ret (.con (.bl false))) .nil) .nil) (.cons (.ret (.op2 .isin (.e (.var 1)) (.lc (.a (.e (.callS ix.f_rows_in_order (.cons (.var 0) .nil) [.inl 0, .inr (.tup [])]))) (.tp [2, 3]) (.yes (.t (.op2 .eq (.e (.item (.e (.var 3)) (.con (.int 0)))) (.e (.con (.str [97, 115, 107])))))) (.var 2)))) .nil))⟩
/-- resume_guard: 0 site, 1 page, 2 side, 3 flags, 4 position, 5 answers, 6 rows, 7 walk -/
def F_resume_guard (ix : Lk) : Fn := ⟨6, 8, false, (.cons (.set (.nm 6) (.call ix.f_check_guard_call (.cons (.var 0) (.cons (.var 1) (.cons (.var 2) (.cons (.var 3) .nil)))))) (.cons (.ife (.not (.t (.call ix.f_is_ask_position (.cons (.var 6) (.cons (.var 4) .nil))))) (.cons .no .nil) .nil) (.cons (.ife (.t (.op2 .eq (.e (.bf .len (.e (.var 5)))) (.e (.con (.int 0))))) (.cons (.ret (.tup (.cons (.con (.str [119, 97, 105, 116])) (.cons (.var 3) (.cons (.var 4) .nil))))) .nil) .nil) (.cons (.set (.nm 7) (.call ix.f_walk_on (.cons (.var 0) (.cons (.var 1) (.cons (.var 2) (.cons (.var 3) (.cons (.var 4) (.cons (.var 5) .nil)))))))) (.cons (.ret (.tup (.cons (.attr (.var 7) 101) (.cons (.attr (.var 7) 53) (.cons (.attr (.var 7) 163) .nil))))) .nil)))))⟩
/-- _law_parted: 0 _law_one, 1 _law_two_here -/
def F__law_parted (ix : Lk) : Fn := ⟨2, 2, false, (.cons (.ife (.or (.t (.isN false (.var 0))) (.t (.isN false (.var 1)))) (.cons (.ret (.or (.isN true (.var 0)) (.isN true (.var 1)))) .nil) .nil) (.cons (.ret (.op2 .ne (.e (.call ix.f__law_look (.cons (.var 0) .nil))) (.e (.call ix.f__law_look (.cons (.var 1) .nil))))) .nil))⟩
/-- _law_parted_v2: 0 _law_one, 1 _law_two -/
def F__law_parted_v2 (ix : Lk) : Fn := ⟨2, 2, false, (.cons (.ife (.or (.t (.isN false (.var 0))) (.t (.isN false (.var 1)))) (.cons (.ret (.or (.isN true (.var 0)) (.isN true (.var 1)))) .nil) .nil) (.cons (.ret (.op2 .ne (.e (.call ix.f__law_look (.cons (.var 0) .nil))) (.e (.call ix.f__law_look (.cons (.var 1) .nil))))) .nil))⟩
/-- all_ends: 0 site, 1 page, 2 side, 3 flags, 4 ends, 5 waiting, 6 answers, 7 walk -/
def F_all_ends (ix : Lk) : Fn := ⟨4, 8, false, (.cons (.ex (.call ix.f_check_guard_call (.cons (.var 0) (.cons (.var 1) (.cons (.var 2) (.cons (.var 3) .nil)))))) (.cons (.set (.nm 4) (.new (.lst .nil))) (.cons (.set (.nm 5) (.new (.lst (.cons (.tup .nil) .nil)))) (.cons (.whl (.t (.var 5)) (.cons (.set (.nm 6) (.item (.e (.var 5)) (.con (.int 0)))) (.cons (.set (.nm 5) (.slc (.e (.var 5)) (.yes (.con (.int 1))) .no)) (.cons (.set (.nm 7) (.call ix.f_walk_guard (.cons (.var 0) (.cons (.var 1) (.cons (.var 2) (.cons (.var 3) (.cons (.var 6) .nil))))))) (.cons (.ife (.t (.op2 .eq (.e (.attr (.var 7) 101)) (.e (.con (.str [119, 97, 105, 116]))))) (.cons (.set (.nm 5) (.op2 .add (.lst (.cons (.op2 .add (.e (.var 6)) (.e (.tup (.cons (.con (.bl false)) .nil)))) (.cons (.op2 .add (.e (.var 6)) (.e (.tup (.cons (.con (.bl true)) .nil)))) .nil))) (.e (.var 5)))) .nil) (.cons (.ex (.mt .append (.var 4) (.e (.tup (.cons (.var 6) (.cons (.attr (.var 7) 101) (.cons (.attr (.var 7) 53) (.cons (.attr (.var 7) 163) .nil)))))))) .nil)) .nil))))) (.cons (.ret (.var 4)) .nil)))))⟩
/-- letting_answers: 0 site, 1 page, 2 side, 3 flags, 4 best, 5 answers, 6 outcome, 7 after, 8 where -/
def F_letting_answers (ix : Lk) : Fn := ⟨4, 9, false, (.cons (.set (.nm 4) (.con .non)) (.cons (.for (.tp [5, 6, 7, 8]) (.a (.e (.call ix.f_all_ends (.cons (.var 0) (.cons (.var 1) (.cons (.var 2) (.cons (.var 3) .nil))))))) (.cons (.ife (.and (.t (.op2 .eq (.e (.var 6)) (.e (.con (.str [108, 101, 116]))))) (.or (.t (.isN false (.var 4))) (.t (.op2 .lt (.e (.bf .len (.e (.var 5)))) (.e (.bf .len (.e (.var 4)))))))) (.cons (.set (.nm 4) (.var 5)) .nil) .nil) .nil)) (.cons (.ret (.var 4)) .nil)))⟩
/-- lets: 0 site, 1 page, 2 side, 3 flags -/
def F_lets (ix : Lk) : Fn := ⟨4, 4, false, (.cons (.ret (.isN true (.call ix.f_letting_answers (.cons (.var 0) (.cons (.var 1) (.cons (.var 2) (.cons (.var 3) .nil))))))) .nil)⟩
/-- _law_asks: 0 _law_rows_here, 1 _law_prefix, 2 _law_found, 3 _law_k, 4 _law_branch, 5 _law_inner -/
def F__law_asks (ix : Lk) : Fn := ⟨2, 6, false, (.cons (.set (.nm 2) (.new (.lst .nil))) (.cons (.for (.nm 3) (.rng (.con (.int 0)) (.bf .len (.e (.var 0)))) (.cons (.ife (.t (.op2 .eq (.e (.item (.e (.item (.e (.var 0)) (.var 3))) (.con (.int 0)))) (.e (.con (.str [97, 115, 107]))))) (.cons (.ex (.mt .append (.var 2) (.e (.op2 .add (.e (.var 1)) (.e (.tup (.cons (.var 3) .nil))))))) .nil) .nil) (.cons (.ife (.t (.op2 .isin (.e (.item (.e (.item (.e (.var 0)) (.var 3))) (.con (.int 0)))) (.e (.tup (.cons (.con (.str [105, 102])) (.cons (.con (.str [97, 115, 107])) .nil)))))) (.cons (.for (.nm 4) (.rng (.con (.int 0)) (.con (.int 2))) (.cons (.set (.nm 5) (.item (.e (.item (.e (.var 0)) (.var 3))) (.op2 .add (.e (.op2 .sub (.e (.bf .len (.e (.item (.e (.var 0)) (.var 3))))) (.e (.con (.int 2))))) (.e (.var 4))))) (.cons (.ex (.mt .extend (.var 2) (.e (.call ix.f__law_asks (.cons (.var 5) (.cons (.op2 .add (.e (.var 1)) (.e (.tup (.cons (.var 3) (.cons (.var 4) .nil))))) .nil)))))) .nil))) .nil) .nil) .nil))) (.cons (.ret (.var 2)) .nil)))⟩
/-- _law_asks_v2: 0 _law_rows_here, 1 _law_prefix, 2 _law_found, 3 _law_k, 4 _law_branch_here, 5 _law_inner -/
def F__law_asks_v2 (ix : Lk) : Fn := ⟨2, 6, false, (.cons (.set (.nm 2) (.new (.lst .nil))) (.cons (.for (.nm 3) (.rng (.con (.int 0)) (.bf .len (.e (.var 0)))) (.cons (.ife (.t (.op2 .eq (.e (.item (.e (.item (.e (.var 0)) (.var 3))) (.con (.int 0)))) (.e (.con (.str [97, 115, 107]))))) (.cons (.ex (.mt .append (.var 2) (.e (.op2 .add (.e (.var 1)) (.e (.tup (.cons (.var 3) .nil))))))) .nil) .nil) (.cons (.ife (.t (.op2 .isin (.e (.item (.e (.item (.e (.var 0)) (.var 3))) (.con (.int 0)))) (.e (.tup (.cons (.con (.str [105, 102])) (.cons (.con (.str [97, 115, 107])) .nil)))))) (.cons (.for (.nm 4) (.rng (.con (.int 0)) (.con (.int 2))) (.cons (.set (.nm 5) (.item (.e (.item (.e (.var 0)) (.var 3))) (.op2 .add (.e (.op2 .sub (.e (.bf .len (.e (.item (.e (.var 0)) (.var 3))))) (.e (.con (.int 2))))) (.e (.var 4))))) (.cons (.ex (.mt .extend (.var 2) (.e (.call ix.f__law_asks (.cons (.var 5) (.cons (.op2 .add (.e (.var 1)) (.e (.tup (.cons (.var 3) (.cons (.var 4) .nil))))) .nil)))))) .nil))) .nil) .nil) .nil))) (.cons (.ret (.var 2)) .nil)))⟩
/-- fits_part: 0 part, 1 value -/
def F_fits_part (ix : Lk) : Fn := ⟨2, 2, false, (.cons (.ife (.t (.op2 .eq (.e (.var 0)) (.e (.con (.str [116, 117, 114, 110]))))) (.cons (.ret (.and (.isi (.var 1) .str) (.op2 .isin (.e (.var 1)) (.e (.glo ix.g_TURNS))))) .nil) .nil) (.cons (.ife (.t (.op2 .eq (.e (.var 0)) (.e (.con (.str [110, 101, 119, 101, 114]))))) (.cons (.ret (.and (.isi (.var 1) .str) (.op2 .isin (.e (.var 1)) (.e (.glo ix.g_NEWERS))))) .nil) .nil) (.cons (.ife (.t (.op2 .eq (.e (.var 0)) (.e (.con (.str [108, 101, 97, 100]))))) (.cons (.ret (.and (.isi (.var 1) .str) (.op2 .isin (.e (.var 1)) (.e (.glo ix.g_LEADS))))) .nil) .nil) (.cons (.ret (.isi (.var 1) .bool)) .nil))))⟩
/-- Rule___init__: 0 self, 1 turn, 2 newer, 3 lead, 4 again, 5 backs, 6 values, 7 part, 8 value -/
def F_Rule___init__ (ix : Lk) : Fn := ⟨6, 9, true, (.cons (.set (.nm 6) (.tup (.cons (.var 1) (.cons (.var 2) (.cons (.var 3) (.cons (.var 4) (.cons (.var 5) .nil))))))) (.cons (.for (.tp [7, 8]) (.zip (.e (.glo ix.g_PARTS)) (.e (.var 6))) (.cons (.ife (.not (.t (.call ix.f_fits_part (.cons (.var 7) (.cons (.var 8) .nil))))) (.cons .no .nil) .nil) .nil)) (.cons (.atr (.var 0) 152 (.var 1)) (.cons (.atr (.var 0) 95 (.var 2)) (.cons (.atr (.var 0) 78 (.var 3)) (.cons (.atr (.var 0) 18 (.var 4)) (.cons (.atr (.var 0) 24 (.var 5)) .nil)))))))⟩
/-- Rule___eq__: 0 self, 1 other -/
def F_Rule___eq__ (ix : Lk) : Fn := ⟨2, 2, false, (.cons (.ife (.not (.t (.isi (.var 1) (.cls ix.c_Rule)))) (.cons (.ret (.con (.bl false))) .nil) .nil) (.cons (.ret (.op2 .eq (.e (.meth (.var 0) 52 .nil)) (.e (.meth (.var 1) 52 .nil)))) .nil))⟩
/-- Rule___str__: 0 self, 1 again_word, 2 backs_word -/
def F_Rule___str__ (ix : Lk) : Fn := ⟨1, 3, false, (.cons (.set (.nm 1) (.ite (.t (.attr (.var 0) 18)) (.con (.str [97, 103, 97, 105, 110])) (.con (.str [111, 110, 99, 101])))) (.cons (.set (.nm 2) (.ite (.t (.attr (.var 0) 24)) (.con (.str [98, 97, 99, 107, 115])) (.con (.str [99, 108, 105, 99, 107, 115])))) (.cons .no .nil)))⟩
/-- Rule_five: 0 self -/
def F_Rule_five (ix : Lk) : Fn := ⟨1, 1, false, (.cons (.ret (.tup (.cons (.attr (.var 0) 152) (.cons (.attr (.var 0) 95) (.cons (.attr (.var 0) 78) (.cons (.attr (.var 0) 18) (.cons (.attr (.var 0) 24) .nil))))))) .nil)⟩
/-- all_rules: 0 rules, 1 turn, 2 newer, 3 lead, 4 again, 5 backs -/
def F_all_rules (ix : Lk) : Fn := ⟨0, 6, false, (.cons (.set (.nm 0) (.new (.lst .nil))) (.cons (.for (.nm 1) (.a (.e (.glo ix.g_TURNS))) (.cons (.for (.nm 2) (.a (.e (.glo ix.g_NEWERS))) (.cons (.for (.nm 3) (.a (.e (.glo ix.g_LEADS))) (.cons (.for (.nm 4) (.a (.e (.tup (.cons (.con (.bl false)) (.cons (.con (.bl true)) .nil))))) (.cons (.for (.nm 5) (.a (.e (.tup (.cons (.con (.bl false)) (.cons (.con (.bl true)) .nil))))) (.cons (.ex (.mt .append (.var 0) (.e (.makeS ix.c_Rule (.cons (.var 1) (.cons (.var 2) (.cons (.var 3) (.cons (.var 4) (.cons (.var 5) .nil))))) [.inl 0, .inl 1, .inl 2, .inl 3, .inl 4])))) .nil)) .nil)) .nil)) .nil)) .nil)) (.cons (.ret (.var 0)) .nil)))⟩
/-- _law_five: 0 _law_rule -/
def F__law_five (ix : Lk) : Fn := ⟨1, 1, false, (.cons (.ret (.tup (.cons (.attr (.var 0) 152) (.cons (.attr (.var 0) 95) (.cons (.attr (.var 0) 78) (.cons (.attr (.var 0) 18) (.cons (.attr (.var 0) 24) .nil))))))) .nil)⟩
/-- Rule_with_part: 0 self, 1 part, 2 value, 3 parts -/
def F_Rule_with_part (ix : Lk) : Fn := ⟨3, 4, false, (.cons (.ife (.or (.not (.t (.isi (.var 1) .str))) (.or (.t (.op2 .notin (.e (.var 1)) (.e (.glo ix.g_PARTS)))) (.not (.t (.call ix.f_fits_part (.cons (.var 1) (.cons (.var 2) .nil))))))) (.cons .no .nil) .nil) (.cons .no (.cons (.itm (.var 3) (.var 1) (.var 2)) (.cons (.ret (.makeS ix.c_Rule (.cons (.item (.e (.var 3)) (.con (.str [116, 117, 114, 110]))) (.cons (.item (.e (.var 3)) (.con (.str [110, 101, 119, 101, 114]))) (.cons (.item (.e (.var 3)) (.con (.str [108, 101, 97, 100]))) (.cons (.item (.e (.var 3)) (.con (.str [97, 103, 97, 105, 110]))) (.cons (.item (.e (.var 3)) (.con (.str [98, 97, 99, 107, 115]))) .nil))))) [.inl 0, .inl 1, .inl 2, .inl 3, .inl 4])) .nil))))⟩
/-- put_page: 0 site, 1 history, 2 place, 3 page, 4 entries -/
def F_put_page (ix : Lk) : Fn := ⟨4, 5, false, (.cons (.set (.nm 4) (.op2 .add (.e (.slc (.e (.var 1)) .no (.yes (.op2 .add (.e (.var 2)) (.e (.con (.int 1))))))) (.e (.tup (.cons (.var 3) .nil))))) (.cons (.set (.nm 4) (.slc (.e (.var 4)) (.yes (.neg (.attr (.var 0) 70))) .no)) (.cons (.ret (.tup (.cons (.var 4) (.cons (.op2 .sub (.e (.bf .len (.e (.var 4)))) (.e (.con (.int 1)))) .nil)))) .nil)))⟩
/-- all_flags: 0 site, 1 found, 2 bit, 3 flags, 4 flag -/
def F_all_flags (ix : Lk) : Fn := ⟨1, 5, false, (.cons (.set (.nm 1) (.new (.lst (.cons (.tup .nil) .nil)))) (.cons (.for (.nm 2) (.a (.e (.attr (.var 0) 29))) (.cons (.set (.nm 1) (.new (.lc2 (.a (.e (.var 1))) (.nm 3) .no (.a (.e (.tup (.cons (.con (.bl false)) (.cons (.con (.bl true)) .nil))))) (.nm 4) .no (.op2 .add (.e (.var 3)) (.e (.tup (.cons (.var 4) .nil))))))) .nil)) (.cons (.ret (.var 1)) .nil)))⟩
/-- is_deed: 0 site, 1 value, 2 word, 3 rest -/
def F_is_deed (ix : Lk) : Fn := ⟨2, 4, false, (.cons (.ife (.or (.not (.t (.isi (.var 1) .tuple))) (.or (.t (.op2 .eq (.e (.bf .len (.e (.var 1)))) (.e (.con (.int 0))))) (.not (.t (.isi (.item (.e (.var 1)) (.con (.int 0))) .str))))) (.cons (.ret (.con (.bl false))) .nil) .nil) (.cons (.set (.nm 2) (.item (.e (.var 1)) (.con (.int 0)))) (.cons (.set (.nm 3) (.slc (.e (.var 1)) (.yes (.con (.int 1))) .no)) (.cons (.ife (.or (.t (.op2 .eq (.e (.var 2)) (.e (.con (.str [98, 97, 99, 107]))))) (.t (.op2 .eq (.e (.var 2)) (.e (.con (.str [102, 111, 114, 119, 97, 114, 100])))))) (.cons (.ret (.op2 .eq (.e (.bf .len (.e (.var 3)))) (.e (.con (.int 0))))) .nil) .nil) (.cons (.ife (.t (.op2 .eq (.e (.var 2)) (.e (.con (.str [99, 108, 105, 99, 107]))))) (.cons (.ret (.and (.op2 .eq (.e (.bf .len (.e (.var 3)))) (.e (.con (.int 1)))) (.call ix.f_is_one_of (.cons (.item (.e (.var 3)) (.con (.int 0))) (.cons (.meth (.var 0) 103 .nil) .nil))))) .nil) .nil) (.cons (.ife (.or (.t (.op2 .eq (.e (.var 2)) (.e (.con (.str [97, 110, 115, 119, 101, 114]))))) (.t (.op2 .eq (.e (.var 2)) (.e (.con (.str [108, 111, 97, 100])))))) (.cons (.ret (.and (.op2 .eq (.e (.bf .len (.e (.var 3)))) (.e (.con (.int 1)))) (.isi (.item (.e (.var 3)) (.con (.int 0))) .bool))) .nil) .nil) (.cons (.ife (.t (.op2 .eq (.e (.var 2)) (.e (.con (.str [108, 97, 116, 101]))))) (.cons (.ret (.and (.op2 .eq (.e (.bf .len (.e (.var 3)))) (.e (.con (.int 2)))) (.and (.call ix.f_is_integer (.cons (.item (.e (.var 3)) (.con (.int 0))) .nil)) (.and (.chain .le .lt (.con (.int 0)) (.item (.e (.var 3)) (.con (.int 0))) (.glo ix.g_MOST_LATE)) (.isi (.item (.e (.var 3)) (.con (.int 1))) .bool))))) .nil) .nil) (.cons (.ret (.and (.op2 .eq (.e (.var 2)) (.e (.con (.str [102, 108, 105, 112])))) (.and (.op2 .eq (.e (.bf .len (.e (.var 3)))) (.e (.con (.int 1)))) (.call ix.f_is_one_of (.cons (.item (.e (.var 3)) (.con (.int 0))) (.cons (.attr (.var 0) 29) .nil)))))) .nil))))))))⟩
/-- deeds: 0 site, 1 flips, 2 found, 3 name, 4 bit -/
def F_deeds (ix : Lk) : Fn := ⟨2, 5, true, (.cons (.set (.nm 2) (.new (.lc (.a (.e (.meth (.var 0) 103 .nil))) (.nm 3) .no (.tup (.cons (.con (.str [99, 108, 105, 99, 107])) (.cons (.var 3) .nil)))))) (.cons (.ex (.mt .extend (.var 2) (.e (.op2 .add (.e (.bf .list (.e (.glo ix.g_PLAIN_DEEDS)))) (.e (.bf .list (.e (.glo ix.g_LATE_DEEDS)))))))) (.cons (.ife (.t (.var 1)) (.cons (.ex (.mt .extend (.var 2) (.lc (.a (.e (.attr (.var 0) 29))) (.nm 4) .no (.tup (.cons (.con (.str [102, 108, 105, 112])) (.cons (.var 4) .nil)))))) .nil) .nil) (.cons (.ret (.var 2)) .nil))))⟩
/-- are_pages_of: 0 site, 1 value, 2 least, 3 most, 4 names, 5 item -/
def F_are_pages_of (ix : Lk) : Fn := ⟨4, 6, false, (.cons (.ife (.or (.not (.t (.isi (.var 1) .tuple))) (.not (.t (.chain .le .le (.var 2) (.bf .len (.e (.var 1))) (.var 3))))) (.cons (.ret (.con (.bl false))) .nil) .nil) (.cons (.set (.nm 4) (.meth (.var 0) 103 .nil)) (.cons (.ret (.bf .all (.lc (.a (.e (.var 1))) (.nm 5) .no (.call ix.f_is_one_of (.cons (.var 5) (.cons (.var 4) .nil)))))) .nil)))⟩
/-- is_place: 0 value, 1 row -/
def F_is_place (ix : Lk) : Fn := ⟨2, 2, false, (.cons (.ret (.and (.call ix.f_is_integer (.cons (.var 0) .nil)) (.chain .le .lt (.con (.int 0)) (.var 0) (.bf .len (.e (.var 1)))))) .nil)⟩
/-- is_way: 0 site, 1 rule, 2 value, 3 target, 4 kind, 5 stage, 6 position, 7 left, 8 plan, 9 spot, 10 led -/
def F_is_way (ix : Lk) : Fn := ⟨3, 11, false, (.cons (.ife (.or (.not (.t (.isi (.var 2) .tuple))) (.t (.op2 .ne (.e (.bf .len (.e (.var 2)))) (.e (.con (.int 7)))))) (.cons (.ret (.con (.bl false))) .nil) .nil) (.cons (.set (.tp [4, 5, 6, 7, 8, 9, 10]) (.var 2)) (.cons (.ife (.or (.not (.t (.call ix.f_is_one_of (.cons (.var 4) (.cons (.tup (.cons (.con (.str [99, 108, 105, 99, 107])) (.cons (.con (.str [115, 116, 101, 112])) .nil))) .nil))))) (.not (.t (.call ix.f_is_one_of (.cons (.var 5) (.cons (.glo ix.g_STAGES) .nil)))))) (.cons (.ret (.con (.bl false))) .nil) .nil) (.cons (.ife (.or (.not (.t (.call ix.f_is_one_of (.cons (.var 7) (.cons (.meth (.var 0) 103 .nil) .nil))))) (.not (.t (.call ix.f_are_pages_of (.cons (.var 0) (.cons (.var 8) (.cons (.con (.int 1)) (.cons (.attr (.var 0) 70) .nil)))))))) (.cons (.ret (.con (.bl false))) .nil) .nil) (.cons (.ife (.or (.not (.t (.call ix.f_is_place (.cons (.var 9) (.cons (.var 8) .nil))))) (.or (.not (.t (.call ix.f_is_integer (.cons (.var 10) .nil)))) (.not (.t (.chain .le .le (.con (.int 0)) (.var 10) (.glo ix.g_MOST_LEADS)))))) (.cons (.ret (.con (.bl false))) .nil) .nil) (.cons (.ife (.t (.op2 .eq (.e (.var 5)) (.e (.con (.str [108, 101, 97, 118, 101]))))) (.cons (.ret (.call ix.f_is_ask_position (.cons (.meth (.var 0) 61 (.cons (.var 7) (.cons (.con (.str [108, 101, 97, 118, 101])) .nil))) (.cons (.var 6) .nil)))) .nil) .nil) (.cons (.set (.nm 3) (.item (.e (.var 8)) (.var 9))) (.cons (.ife (.t (.op2 .eq (.e (.var 5)) (.e (.con (.str [108, 111, 97, 100]))))) (.cons (.ret (.and (.isi (.var 6) .tuple) (.and (.op2 .eq (.e (.bf .len (.e (.var 6)))) (.e (.con (.int 0)))) (.meth (.var 0) 86 (.cons (.var 3) .nil))))) .nil) .nil) (.cons (.ife (.and (.t (.op2 .eq (.e (.var 5)) (.e (.con (.str [97, 110, 101, 119]))))) (.not (.and (.t (.attr (.var 1) 18)) (.t (.meth (.var 0) 86 (.cons (.var 3) .nil)))))) (.cons (.ret (.con (.bl false))) .nil) .nil) (.cons (.ret (.call ix.f_is_ask_position (.cons (.meth (.var 0) 61 (.cons (.var 3) (.cons (.con (.str [101, 110, 116, 101, 114])) .nil))) (.cons (.var 6) .nil)))) .nil))))))))))⟩
/-- is_standing: 0 site, 1 rule, 2 value, 3 most, 4 flags, 5 shown, 6 history, 7 place, 8 way, 9 late -/
def F_is_standing (ix : Lk) : Fn := ⟨3, 10, false, (.cons (.ife (.or (.not (.t (.isi (.var 2) .tuple))) (.t (.op2 .ne (.e (.bf .len (.e (.var 2)))) (.e (.con (.int 6)))))) (.cons (.ret (.con (.bl false))) .nil) .nil) (.cons (.set (.tp [4, 5, 6, 7, 8, 9]) (.var 2)) (.cons (.ife (.or (.not (.t (.call ix.f_are_flags (.cons (.var 0) (.cons (.var 4) .nil))))) (.not (.t (.call ix.f_is_one_of (.cons (.var 5) (.cons (.meth (.var 0) 103 .nil) .nil)))))) (.cons (.ret (.con (.bl false))) .nil) .nil) (.cons (.ife (.or (.not (.t (.call ix.f_are_pages_of (.cons (.var 0) (.cons (.var 6) (.cons (.con (.int 1)) (.cons (.attr (.var 0) 70) .nil))))))) (.not (.t (.call ix.f_is_place (.cons (.var 7) (.cons (.var 6) .nil)))))) (.cons (.ret (.con (.bl false))) .nil) .nil) (.cons (.ife (.and (.t (.isN true (.var 8))) (.not (.t (.call ix.f_is_way (.cons (.var 0) (.cons (.var 1) (.cons (.var 8) .nil))))))) (.cons (.ret (.con (.bl false))) .nil) .nil) (.cons (.set (.nm 3) (.con (.int 0))) (.cons (.ife (.t (.op2 .eq (.e (.attr (.var 1) 95)) (.e (.con (.str [114, 97, 99, 101]))))) (.cons (.set (.nm 3) (.glo ix.g_MOST_LATE)) .nil) .nil) (.cons (.ret (.call ix.f_are_pages_of (.cons (.var 0) (.cons (.var 9) (.cons (.con (.int 0)) (.cons (.var 3) .nil)))))) .nil))))))))⟩
/-- _law_rule: 0 _law_draws_here, 1 _law_at -/
def F__law_rule (ix : Lk) : Fn := ⟨2, 2, false, (.cons (.ret (.makeS ix.c_Rule (.cons (.item (.lst (.cons (.con (.str [102, 105, 114, 115, 116])) (.cons (.con (.str [108, 97, 115, 116])) .nil))) (.op2 .mod (.e (.bf .int (.e (.item (.e (.var 0)) (.var 1))))) (.e (.con (.int 2))))) (.cons (.item (.lst (.cons (.con (.str [99, 97, 110, 99, 101, 108])) (.cons (.con (.str [105, 103, 110, 111, 114, 101])) (.cons (.con (.str [114, 97, 99, 101])) .nil)))) (.op2 .mod (.e (.bf .int (.e (.op2 .fdiv (.e (.item (.e (.var 0)) (.var 1))) (.e (.con (.int 2))))))) (.e (.con (.int 3))))) (.cons (.item (.lst (.cons (.con (.str [112, 117, 116])) (.cons (.con (.str [105, 110, 115, 116, 101, 97, 100])) .nil))) (.op2 .mod (.e (.bf .int (.e (.item (.e (.var 0)) (.op2 .add (.e (.var 1)) (.e (.con (.int 1)))))))) (.e (.con (.int 2))))) (.cons (.op2 .eq (.e (.op2 .mod (.e (.bf .int (.e (.op2 .fdiv (.e (.item (.e (.var 0)) (.op2 .add (.e (.var 1)) (.e (.con (.int 1)))))) (.e (.con (.int 2))))))) (.e (.con (.int 2))))) (.e (.con (.int 1)))) (.cons (.op2 .gt (.e (.op2 .mod (.e (.bf .int (.e (.op2 .fdiv (.e (.item (.e (.var 0)) (.op2 .add (.e (.var 1)) (.e (.con (.int 1)))))) (.e (.con (.int 4))))))) (.e (.con (.int 3))))) (.e (.con (.int 0)))) .nil))))) [.inl 0, .inl 1, .inl 2, .inl 3, .inl 4])) .nil)⟩
/-- _law_rule_v2: 0 _law_box_here, 1 _law_turn, 2 _law_newer, 3 _law_leading, 4 _law_anew, 5 _law_both -/
def F__law_rule_v2 (ix : Lk) : Fn := ⟨1, 6, false, (.cons (.set (.nm 1) (.item (.lst (.cons (.con (.str [102, 105, 114, 115, 116])) (.cons (.con (.str [108, 97, 115, 116])) .nil))) (.call ix.f__law_draw (.cons (.var 0) (.cons (.con (.int 2)) .nil))))) (.cons (.set (.nm 2) (.item (.lst (.cons (.con (.str [99, 97, 110, 99, 101, 108])) (.cons (.con (.str [105, 103, 110, 111, 114, 101])) (.cons (.con (.str [114, 97, 99, 101])) .nil)))) (.call ix.f__law_draw (.cons (.var 0) (.cons (.con (.int 3)) .nil))))) (.cons (.set (.nm 3) (.item (.lst (.cons (.con (.str [112, 117, 116])) (.cons (.con (.str [105, 110, 115, 116, 101, 97, 100])) .nil))) (.call ix.f__law_draw (.cons (.var 0) (.cons (.con (.int 2)) .nil))))) (.cons (.set (.nm 4) (.op2 .eq (.e (.call ix.f__law_draw (.cons (.var 0) (.cons (.con (.int 2)) .nil)))) (.e (.con (.int 1))))) (.cons (.set (.nm 5) (.op2 .eq (.e (.call ix.f__law_draw (.cons (.var 0) (.cons (.con (.int 2)) .nil)))) (.e (.con (.int 1))))) (.cons (.ret (.makeS ix.c_Rule (.cons (.var 1) (.cons (.var 2) (.cons (.var 3) (.cons (.var 4) (.cons (.var 5) .nil))))) [.inl 0, .inl 1, .inl 2, .inl 3, .inl 4])) .nil))))))⟩
/-- _law_deed: 0 _law_box_here, 1 _law_bits, 2 _law_names_here, 3 _law_kind -/
def F__law_deed (ix : Lk) : Fn := ⟨3, 4, false, (.cons (.set (.nm 3) (.call ix.f__law_draw (.cons (.var 0) (.cons (.con (.int 13)) .nil)))) (.cons (.ife (.t (.op2 .lt (.e (.var 3)) (.e (.con (.int 3))))) (.cons (.ret (.tup (.cons (.con (.str [99, 108, 105, 99, 107])) (.cons (.item (.e (.var 2)) (.call ix.f__law_draw (.cons (.var 0) (.cons (.bf .len (.e (.var 2))) .nil)))) .nil)))) .nil) .nil) (.cons (.ife (.t (.op2 .lt (.e (.var 3)) (.e (.con (.int 5))))) (.cons (.ret (.item (.lst (.cons (.tup (.cons (.con (.str [98, 97, 99, 107])) .nil)) (.cons (.tup (.cons (.con (.str [102, 111, 114, 119, 97, 114, 100])) .nil)) .nil))) (.op2 .sub (.e (.var 3)) (.e (.con (.int 3)))))) .nil) .nil) (.cons (.ife (.t (.op2 .lt (.e (.var 3)) (.e (.con (.int 8))))) (.cons (.ret (.tup (.cons (.con (.str [97, 110, 115, 119, 101, 114])) (.cons (.op2 .eq (.e (.call ix.f__law_draw (.cons (.var 0) (.cons (.con (.int 2)) .nil)))) (.e (.con (.int 1)))) .nil)))) .nil) .nil) (.cons (.ife (.t (.op2 .lt (.e (.var 3)) (.e (.con (.int 11))))) (.cons (.ret (.tup (.cons (.con (.str [108, 111, 97, 100])) (.cons (.op2 .gt (.e (.call ix.f__law_draw (.cons (.var 0) (.cons (.con (.int 3)) .nil)))) (.e (.con (.int 0)))) .nil)))) .nil) .nil) (.cons (.ife (.t (.op2 .eq (.e (.var 3)) (.e (.con (.int 11))))) (.cons (.ret (.tup (.cons (.con (.str [108, 97, 116, 101])) (.cons (.call ix.f__law_draw (.cons (.var 0) (.cons (.con (.int 2)) .nil))) (.cons (.op2 .eq (.e (.call ix.f__law_draw (.cons (.var 0) (.cons (.con (.int 2)) .nil)))) (.e (.con (.int 1)))) .nil))))) .nil) .nil) (.cons (.ife (.t (.op2 .eq (.e (.bf .len (.e (.var 1)))) (.e (.con (.int 0))))) (.cons (.ret (.tup (.cons (.con (.str [97, 110, 115, 119, 101, 114])) (.cons (.con (.bl true)) .nil)))) .nil) .nil) (.cons (.ret (.tup (.cons (.con (.str [102, 108, 105, 112])) (.cons (.item (.e (.var 1)) (.call ix.f__law_draw (.cons (.var 0) (.cons (.bf .len (.e (.var 1))) .nil)))) .nil)))) .nil))))))))⟩
/-- _law_flags: 0 _law_box_here, 1 _law_bits, 2 _law_bit -/
def F__law_flags (ix : Lk) : Fn := ⟨2, 3, false, (.cons (.ret (.bf .tuple (.lc (.a (.e (.var 1))) (.nm 2) .no (.op2 .eq (.e (.call ix.f__law_draw (.cons (.var 0) (.cons (.con (.int 2)) .nil)))) (.e (.con (.int 1))))))) .nil)⟩
/-- _law_flags_v2: 0 _law_site_here -/
def F__law_flags_v2 (ix : Lk) : Fn := ⟨1, 1, false, (.cons (.ife (.t (.op2 .eq (.e (.bf .len (.e (.attr (.var 0) 29)))) (.e (.con (.int 0))))) (.cons (.ret (.new (.lst (.cons (.tup .nil) .nil)))) .nil) .nil) (.cons (.ife (.t (.op2 .eq (.e (.bf .len (.e (.attr (.var 0) 29)))) (.e (.con (.int 1))))) (.cons (.ret (.new (.lst (.cons (.tup (.cons (.con (.bl false)) .nil)) (.cons (.tup (.cons (.con (.bl true)) .nil)) .nil))))) .nil) .nil) (.cons (.ret (.new (.lst (.cons (.tup (.cons (.con (.bl false)) (.cons (.con (.bl false)) .nil))) (.cons (.tup (.cons (.con (.bl false)) (.cons (.con (.bl true)) .nil))) (.cons (.tup (.cons (.con (.bl true)) (.cons (.con (.bl false)) .nil))) (.cons (.tup (.cons (.con (.bl true)) (.cons (.con (.bl true)) .nil))) .nil))))))) .nil)))⟩
/-- _law_suits: 0 _law_stage, 1 _law_page, 2 _law_rule_here -/
def F__law_suits (ix : Lk) : Fn := ⟨3, 3, false, (.cons (.ife (.t (.op2 .eq (.e (.var 0)) (.e (.con (.str [108, 111, 97, 100]))))) (.cons (.ret (.item (.e (.var 1)) (.con (.int 2)))) .nil) .nil) (.cons (.ife (.t (.op2 .eq (.e (.var 0)) (.e (.con (.str [108, 101, 97, 118, 101]))))) (.cons (.ret (.op2 .gt (.e (.bf .len (.e (.call ix.f__law_asks (.cons (.item (.e (.var 1)) (.con (.int 1))) (.cons (.tup .nil) .nil)))))) (.e (.con (.int 0))))) .nil) .nil) (.cons (.ife (.and (.t (.op2 .eq (.e (.var 0)) (.e (.con (.str [97, 110, 101, 119]))))) (.not (.and (.t (.attr (.var 2) 18)) (.t (.item (.e (.var 1)) (.con (.int 2))))))) (.cons (.ret (.con (.bl false))) .nil) .nil) (.cons (.ret (.op2 .gt (.e (.bf .len (.e (.call ix.f__law_asks (.cons (.item (.e (.var 1)) (.con (.int 0))) (.cons (.tup .nil) .nil)))))) (.e (.con (.int 0))))) .nil))))⟩
/-- _law_way: 0 _law_box_here, 1 _law_parts_here, 2 _law_rule_here, 3 _law_names_here, 4 _law_kind, 5 _law_stage, 6 _law_led, 7 _law_left, 8 _law_plan, 9 _law_spot, 10 _law_suited, 11 _law_asks_here, 12 _law_where, 13 _law_name, 14 _law_page, 15 _law_pair, 16 _law_k -/
def F__law_way (ix : Lk) : Fn := ⟨3, 17, false, (.cons (.set (.nm 3) (.new (.lc (.a (.e (.item (.e (.var 1)) (.con (.int 1))))) (.nm 15) .no (.item (.e (.var 15)) (.con (.int 0)))))) (.cons (.set (.nm 4) (.item (.lst (.cons (.con (.str [99, 108, 105, 99, 107])) (.cons (.con (.str [115, 116, 101, 112])) .nil))) (.call ix.f__law_draw (.cons (.var 0) (.cons (.con (.int 2)) .nil))))) (.cons (.set (.nm 5) (.item (.lst (.cons (.con (.str [110, 111, 110, 101])) (.cons (.con (.str [108, 101, 97, 118, 101])) (.cons (.con (.str [101, 110, 116, 101, 114])) (.cons (.con (.str [108, 111, 97, 100])) (.cons (.con (.str [97, 110, 101, 119])) .nil)))))) (.call ix.f__law_draw (.cons (.var 0) (.cons (.con (.int 5)) .nil))))) (.cons (.set (.nm 6) (.call ix.f__law_draw (.cons (.var 0) (.cons (.con (.int 6)) .nil)))) (.cons (.set (.nm 7) (.item (.e (.var 3)) (.call ix.f__law_draw (.cons (.var 0) (.cons (.bf .len (.e (.var 3))) .nil))))) (.cons (.set (.nm 8) (.new (.lc (.rng (.con (.int 0)) (.op2 .add (.e (.con (.int 1))) (.e (.call ix.f__law_draw (.cons (.var 0) (.cons (.item (.e (.var 1)) (.con (.int 3))) .nil)))))) (.nm 16) .no (.item (.e (.var 3)) (.call ix.f__law_draw (.cons (.var 0) (.cons (.bf .len (.e (.var 3))) .nil))))))) (.cons (.set (.nm 9) (.call ix.f__law_draw (.cons (.var 0) (.cons (.bf .len (.e (.var 8))) .nil)))) (.cons (.set (.nm 10) (.new (.lc (.a (.e (.item (.e (.var 1)) (.con (.int 1))))) (.nm 15) (.yes (.and (.t (.op2 .ne (.e (.var 5)) (.e (.con (.str [110, 111, 110, 101]))))) (.t (.call ix.f__law_suits (.cons (.var 5) (.cons (.item (.e (.var 15)) (.con (.int 1))) (.cons (.var 2) .nil))))))) (.var 15)))) (.cons (.ife (.t (.op2 .eq (.e (.bf .len (.e (.var 10)))) (.e (.con (.int 0))))) (.cons (.ret (.con .non)) .nil) .nil) (.cons (.set (.tp [13, 14]) (.item (.e (.var 10)) (.call ix.f__law_draw (.cons (.var 0) (.cons (.bf .len (.e (.var 10))) .nil))))) (.cons (.set (.nm 11) (.call ix.f__law_asks (.cons (.item (.e (.var 14)) (.con (.int 0))) (.cons (.tup .nil) .nil)))) (.cons (.ife (.t (.op2 .eq (.e (.var 5)) (.e (.con (.str [108, 101, 97, 118, 101]))))) (.cons (.set (.nm 7) (.var 13)) (.cons (.set (.nm 11) (.call ix.f__law_asks (.cons (.item (.e (.var 14)) (.con (.int 1))) (.cons (.tup .nil) .nil)))) .nil)) (.cons (.itm (.var 8) (.var 9) (.var 13)) .nil)) (.cons (.set (.nm 12) (.tup .nil)) (.cons (.ife (.t (.op2 .ne (.e (.var 5)) (.e (.con (.str [108, 111, 97, 100]))))) (.cons (.set (.nm 12) (.item (.e (.var 11)) (.call ix.f__law_draw (.cons (.var 0) (.cons (.bf .len (.e (.var 11))) .nil))))) .nil) .nil) (.cons (.ret (.tup (.cons (.var 4) (.cons (.var 5) (.cons (.var 12) (.cons (.var 7) (.cons (.bf .tuple (.e (.var 8))) (.cons (.var 9) (.cons (.var 6) .nil))))))))) .nil)))))))))))))))⟩
/-- _law_stand: 0 _law_box_here, 1 _law_parts_here, 2 _law_rule_here, 3 _law_names_here, 4 _law_flags_here, 5 _law_seen, 6 _law_many, 7 _law_history, 8 _law_place, 9 _law_way_here, 10 _law_loose, 11 _law_pair, 12 _law_bit, 13 _law_k -/
def F__law_stand (ix : Lk) : Fn := ⟨3, 14, false, (.cons (.set (.nm 3) (.new (.lc (.a (.e (.item (.e (.var 1)) (.con (.int 1))))) (.nm 11) .no (.item (.e (.var 11)) (.con (.int 0)))))) (.cons (.set (.nm 4) (.bf .tuple (.lc (.a (.e (.item (.e (.var 1)) (.con (.int 0))))) (.nm 12) .no (.op2 .eq (.e (.call ix.f__law_draw (.cons (.var 0) (.cons (.con (.int 2)) .nil)))) (.e (.con (.int 1))))))) (.cons (.set (.nm 5) (.item (.e (.var 3)) (.call ix.f__law_draw (.cons (.var 0) (.cons (.bf .len (.e (.var 3))) .nil))))) (.cons (.set (.nm 6) (.op2 .add (.e (.con (.int 1))) (.e (.call ix.f__law_draw (.cons (.var 0) (.cons (.item (.e (.var 1)) (.con (.int 3))) .nil)))))) (.cons (.set (.nm 7) (.bf .tuple (.lc (.rng (.con (.int 0)) (.var 6)) (.nm 13) .no (.item (.e (.var 3)) (.call ix.f__law_draw (.cons (.var 0) (.cons (.bf .len (.e (.var 3))) .nil))))))) (.cons (.set (.nm 8) (.call ix.f__law_draw (.cons (.var 0) (.cons (.var 6) .nil)))) (.cons (.set (.nm 9) (.call ix.f__law_way (.cons (.var 0) (.cons (.var 1) (.cons (.var 2) .nil))))) (.cons (.set (.nm 10) (.tup .nil)) (.cons (.ife (.t (.op2 .eq (.e (.attr (.var 2) 95)) (.e (.con (.str [114, 97, 99, 101]))))) (.cons (.set (.nm 10) (.bf .tuple (.lc (.rng (.con (.int 0)) (.call ix.f__law_draw (.cons (.var 0) (.cons (.con (.int 3)) .nil)))) (.nm 13) .no (.item (.e (.var 3)) (.call ix.f__law_draw (.cons (.var 0) (.cons (.bf .len (.e (.var 3))) .nil))))))) .nil) .nil) (.cons (.ret (.tup (.cons (.var 4) (.cons (.var 5) (.cons (.var 7) (.cons (.var 8) (.cons (.var 9) (.cons (.var 10) .nil)))))))) .nil))))))))))⟩
/-- Step___init__: 0 self, 1 deed, 2 before, 3 after, 4 events, 5 done -/
def F_Step___init__ (ix : Lk) : Fn := ⟨6, 6, false, (.cons (.atr (.var 0) 36 (.var 1)) (.cons (.atr (.var 0) 25 (.var 2)) (.cons (.atr (.var 0) 17 (.var 3)) (.cons (.atr (.var 0) 48 (.var 4)) (.cons (.atr (.var 0) 41 (.var 5)) .nil)))))⟩
/-- begin: 0 site, 1 rule, 2 flags -/
def F_begin (ix : Lk) : Fn := ⟨3, 3, false, (.cons (.ife (.not (.t (.call ix.f_are_flags (.cons (.var 0) (.cons (.var 2) .nil))))) (.cons .no .nil) .nil) (.cons (.ret (.make ix.c_Step (.cons (.con .non) (.cons (.con .non) (.cons (.tup (.cons (.var 2) (.cons (.attr (.var 0) 144) (.cons (.tup (.cons (.attr (.var 0) 144) .nil)) (.cons (.con (.int 0)) (.cons (.con .non) (.cons (.tup .nil) .nil))))))) (.cons (.tup .nil) (.cons (.tup .nil) .nil))))))) .nil))⟩
/-- Course___init__: 0 self, 1 site, 2 rule, 3 standing, 4 stage, 5 position -/
def F_Course___init__ (ix : Lk) : Fn := ⟨4, 6, false, (.cons (.atr (.var 0) 139 (.var 1)) (.cons (.atr (.var 0) 131 (.var 2)) (.cons (.mix [.inr (0, 53), .inr (0, 104), .inr (0, 65), .inr (0, 113), .inr (0, 162), .inr (0, 77)] (.var 3)) (.cons (.mix [.inr (0, 72), .inr (0, 82), .inr (0, 116), .inr (0, 140), .inr (0, 81)] (.tup (.cons (.con (.str [])) (.cons (.con (.str [])) (.cons (.tup .nil) (.cons (.con (.int 0)) (.cons (.con (.int 0)) .nil))))))) (.cons (.ife (.t (.isN true (.attr (.var 0) 162))) (.cons (.mix [.inr (0, 72), .inl 4, .inl 5, .inr (0, 82), .inr (0, 116), .inr (0, 140), .inr (0, 81)] (.attr (.var 0) 162)) .nil) .nil) (.cons (.atr (.var 0) 150 (.new (.lst .nil))) (.cons (.atr (.var 0) 111 (.new (.lst .nil))) .nil)))))))⟩
/-- Course_standing_now: 0 self -/
def F_Course_standing_now (ix : Lk) : Fn := ⟨1, 1, false, (.cons (.ret (.tup (.cons (.attr (.var 0) 53) (.cons (.attr (.var 0) 104) (.cons (.attr (.var 0) 65) (.cons (.attr (.var 0) 113) (.cons (.attr (.var 0) 162) (.cons (.attr (.var 0) 77) .nil)))))))) .nil)⟩
/-- Course_tell: 0 self, 1 event -/
def F_Course_tell (ix : Lk) : Fn := ⟨2, 2, false, (.cons (.ex (.mt .append (.attr (.var 0) 150) (.e (.var 1)))) .nil)⟩
/-- Course_target: 0 self -/
def F_Course_target (ix : Lk) : Fn := ⟨1, 1, false, (.cons (.ret (.item (.e (.attr (.var 0) 116)) (.attr (.var 0) 140))) .nil)⟩
/-- Course_wait: 0 self, 1 stage, 2 position -/
def F_Course_wait (ix : Lk) : Fn := ⟨3, 3, false, (.cons (.atr (.var 0) 162 (.tup (.cons (.attr (.var 0) 72) (.cons (.var 1) (.cons (.var 2) (.cons (.attr (.var 0) 82) (.cons (.attr (.var 0) 116) (.cons (.attr (.var 0) 140) (.cons (.attr (.var 0) 81) .nil))))))))) .nil)⟩
/-- Course_end_way: 0 self -/
def F_Course_end_way (ix : Lk) : Fn := ⟨1, 1, false, (.cons (.atr (.var 0) 162 (.con .non)) (.cons (.ex (.meth (.var 0) 149 (.cons (.tup (.cons (.con (.str [111, 118, 101, 114])) .nil)) .nil))) .nil))⟩
/-- Course_begin_way: 0 self, 1 kind, 2 plan, 3 spot -/
def F_Course_begin_way (ix : Lk) : Fn := ⟨4, 4, false, (.cons (.mix [.inr (0, 72), .inr (0, 82), .inr (0, 116), .inr (0, 140), .inr (0, 81)] (.tup (.cons (.var 1) (.cons (.attr (.var 0) 104) (.cons (.var 2) (.cons (.var 3) (.cons (.con (.int 0)) .nil))))))) (.cons (.ife (.or (.t (.op2 .eq (.e (.var 1)) (.e (.con (.str [99, 108, 105, 99, 107]))))) (.t (.attr (.attr (.var 0) 131) 24))) (.cons (.ex (.meth (.var 0) 136 (.cons (.con (.str [108, 101, 97, 118, 101])) (.cons (.callS ix.f_walk_guard (.cons (.attr (.var 0) 139) (.cons (.attr (.var 0) 82) (.cons (.con (.str [108, 101, 97, 118, 101])) (.cons (.attr (.var 0) 53) .nil)))) [.inl 0, .inl 1, .inl 2, .inl 3, .inr (.tup [])]) .nil)))) .nil) (.cons (.ex (.meth (.var 0) 46 .nil)) .nil)) .nil))⟩
/-- Course_guard_at: 0 self, 1 stage -/
def F_Course_guard_at (ix : Lk) : Fn := ⟨2, 2, false, (.cons (.ife (.t (.op2 .eq (.e (.var 1)) (.e (.con (.str [108, 101, 97, 118, 101]))))) (.cons (.ret (.tup (.cons (.attr (.var 0) 82) (.cons (.con (.str [108, 101, 97, 118, 101])) .nil)))) .nil) .nil) (.cons (.ret (.tup (.cons (.meth (.var 0) 147 .nil) (.cons (.con (.str [101, 110, 116, 101, 114])) .nil)))) .nil))⟩
/-- Course_settle: 0 self, 1 stage, 2 walk, 3 page, 4 side, 5 position -/
def F_Course_settle (ix : Lk) : Fn := ⟨3, 6, false, (.cons (.set (.tp [3, 4]) (.meth (.var 0) 62 (.cons (.var 1) .nil))) (.cons (.atr (.var 0) 53 (.attr (.var 2) 53)) (.cons (.ex (.mt .extend (.attr (.var 0) 150) (.e (.attr (.var 2) 32)))) (.cons (.ex (.mt .extend (.attr (.var 0) 111) (.lc (.a (.e (.attr (.var 2) 41))) (.nm 5) .no (.tup (.cons (.var 3) (.cons (.var 4) (.cons (.var 5) .nil))))))) (.cons (.ife (.t (.op2 .eq (.e (.attr (.var 2) 101)) (.e (.con (.str [119, 97, 105, 116]))))) (.cons (.ex (.meth (.var 0) 149 (.cons (.tup (.cons (.con (.str [97, 115, 107, 101, 100])) (.cons (.var 3) (.cons (.var 4) .nil)))) .nil))) (.cons (.ex (.meth (.var 0) 159 (.cons (.var 1) (.cons (.attr (.var 2) 163) .nil)))) (.cons .retN .nil))) .nil) (.cons (.ex (.meth (.var 0) 149 (.cons (.tup (.cons (.con (.str [103, 117, 97, 114, 100])) (.cons (.var 3) (.cons (.var 4) (.cons (.attr (.var 2) 101) .nil))))) .nil))) (.cons (.ife (.t (.op2 .eq (.e (.attr (.var 2) 101)) (.e (.con (.str [114, 101, 102, 117, 115, 101]))))) (.cons (.ex (.meth (.var 0) 45 .nil)) .nil) (.cons (.ife (.t (.op2 .eq (.e (.attr (.var 2) 101)) (.e (.con (.str [108, 101, 97, 100]))))) (.cons (.ex (.meth (.var 0) 56 (.cons (.attr (.var 2) 163) .nil))) .nil) (.cons (.ife (.t (.op2 .eq (.e (.var 1)) (.e (.con (.str [108, 101, 97, 118, 101]))))) (.cons (.ex (.meth (.var 0) 46 .nil)) .nil) (.cons (.ife (.t (.op2 .eq (.e (.var 1)) (.e (.con (.str [101, 110, 116, 101, 114]))))) (.cons (.ex (.meth (.var 0) 60 .nil)) .nil) (.cons (.ex (.meth (.var 0) 21 .nil)) .nil)) .nil)) .nil)) .nil)) .nil)))))))⟩
/-- Course_enter: 0 self -/
def F_Course_enter (ix : Lk) : Fn := ⟨1, 1, false, (.cons (.ife (.or (.t (.op2 .eq (.e (.attr (.var 0) 72)) (.e (.con (.str [99, 108, 105, 99, 107]))))) (.or (.t (.attr (.attr (.var 0) 131) 24)) (.t (.op2 .gt (.e (.attr (.var 0) 81)) (.e (.con (.int 0))))))) (.cons (.ex (.meth (.var 0) 136 (.cons (.con (.str [101, 110, 116, 101, 114])) (.cons (.callS ix.f_walk_guard (.cons (.attr (.var 0) 139) (.cons (.meth (.var 0) 147 .nil) (.cons (.con (.str [101, 110, 116, 101, 114])) (.cons (.attr (.var 0) 53) .nil)))) [.inl 0, .inl 1, .inl 2, .inl 3, .inr (.tup [])]) .nil)))) .nil) (.cons (.ex (.meth (.var 0) 60 .nil)) .nil)) .nil)⟩
/-- Course_follow: 0 self, 1 page -/
def F_Course_follow (ix : Lk) : Fn := ⟨2, 2, false, (.cons (.ife (.t (.op2 .eq (.e (.attr (.var 0) 81)) (.e (.glo ix.g_MOST_LEADS)))) (.cons .no .nil) .nil) (.cons (.auga (.var 0) 81 .add (.con (.int 1))) (.cons (.ife (.t (.op2 .eq (.e (.attr (.attr (.var 0) 131) 78)) (.e (.con (.str [112, 117, 116]))))) (.cons (.mix [.inr (0, 116), .inr (0, 140)] (.call ix.f_put_page (.cons (.attr (.var 0) 139) (.cons (.attr (.var 0) 116) (.cons (.attr (.var 0) 140) (.cons (.var 1) .nil)))))) .nil) (.cons (.atr (.var 0) 116 (.op2 .add (.e (.op2 .add (.e (.slc (.e (.attr (.var 0) 116)) .no (.yes (.attr (.var 0) 140)))) (.e (.tup (.cons (.var 1) .nil))))) (.e (.slc (.e (.attr (.var 0) 116)) (.yes (.op2 .add (.e (.attr (.var 0) 140)) (.e (.con (.int 1))))) .no)))) .nil)) (.cons (.ex (.meth (.var 0) 149 (.cons (.tup (.cons (.con (.str [108, 101, 100])) (.cons (.var 1) .nil))) .nil))) (.cons (.ex (.meth (.var 0) 46 .nil)) .nil)))))⟩
/-- Course_turn_address: 0 self -/
def F_Course_turn_address (ix : Lk) : Fn := ⟨1, 1, false, (.cons (.mix [.inr (0, 65), .inr (0, 113)] (.tup (.cons (.attr (.var 0) 116) (.cons (.attr (.var 0) 140) .nil)))) (.cons (.ex (.meth (.var 0) 149 (.cons (.tup (.cons (.con (.str [116, 117, 114, 110, 101, 100])) (.cons (.attr (.var 0) 65) (.cons (.attr (.var 0) 113) .nil)))) .nil))) .nil))⟩
/-- Course_go_on: 0 self -/
def F_Course_go_on (ix : Lk) : Fn := ⟨1, 1, false, (.cons (.ife (.t (.op2 .eq (.e (.attr (.attr (.var 0) 131) 152)) (.e (.con (.str [102, 105, 114, 115, 116]))))) (.cons (.ex (.meth (.var 0) 153 .nil)) .nil) .nil) (.cons (.ife (.t (.meth (.attr (.var 0) 139) 86 (.cons (.meth (.var 0) 147 .nil) .nil))) (.cons (.ex (.meth (.var 0) 159 (.cons (.con (.str [108, 111, 97, 100])) (.cons (.tup .nil) .nil)))) (.cons (.ex (.meth (.var 0) 149 (.cons (.tup (.cons (.con (.str [108, 111, 97, 100, 115])) (.cons (.meth (.var 0) 147 .nil) .nil))) .nil))) .nil)) (.cons (.ex (.meth (.var 0) 21 .nil)) .nil)) .nil))⟩
/-- Course_arrive: 0 self -/
def F_Course_arrive (ix : Lk) : Fn := ⟨1, 1, false, (.cons (.ife (.t (.op2 .eq (.e (.attr (.attr (.var 0) 131) 152)) (.e (.con (.str [108, 97, 115, 116]))))) (.cons (.ex (.meth (.var 0) 153 .nil)) .nil) .nil) (.cons (.atr (.var 0) 104 (.meth (.var 0) 147 .nil)) (.cons (.atr (.var 0) 162 (.con .non)) (.cons (.ex (.meth (.var 0) 149 (.cons (.tup (.cons (.con (.str [115, 104, 111, 119, 110])) (.cons (.attr (.var 0) 104) .nil))) .nil))) .nil))))⟩
/-- Course_answer_ask: 0 self, 1 flag, 2 stage, 3 page, 4 side -/
def F_Course_answer_ask (ix : Lk) : Fn := ⟨2, 5, false, (.cons (.ife (.or (.t (.isN false (.attr (.var 0) 162))) (.t (.op2 .eq (.e (.item (.e (.attr (.var 0) 162)) (.con (.int 1)))) (.e (.con (.str [108, 111, 97, 100])))))) (.cons .retN .nil) .nil) (.cons (.set (.nm 2) (.item (.e (.attr (.var 0) 162)) (.con (.int 1)))) (.cons (.set (.tp [3, 4]) (.meth (.var 0) 62 (.cons (.var 2) .nil))) (.cons (.ex (.meth (.var 0) 136 (.cons (.var 2) (.cons (.call ix.f_walk_on (.cons (.attr (.var 0) 139) (.cons (.var 3) (.cons (.var 4) (.cons (.attr (.var 0) 53) (.cons (.item (.e (.attr (.var 0) 162)) (.con (.int 2))) (.cons (.tup (.cons (.var 1) .nil)) .nil))))))) .nil)))) .nil))))⟩
/-- Course_end_load: 0 self, 1 flag -/
def F_Course_end_load (ix : Lk) : Fn := ⟨2, 2, false, (.cons (.ife (.or (.t (.isN false (.attr (.var 0) 162))) (.t (.op2 .ne (.e (.item (.e (.attr (.var 0) 162)) (.con (.int 1)))) (.e (.con (.str [108, 111, 97, 100])))))) (.cons .retN .nil) .nil) (.cons (.ife (.not (.t (.var 1))) (.cons (.ex (.meth (.var 0) 45 .nil)) .nil) (.cons (.ife (.t (.attr (.attr (.var 0) 131) 18)) (.cons (.ex (.meth (.var 0) 136 (.cons (.con (.str [97, 110, 101, 119])) (.cons (.callS ix.f_walk_guard (.cons (.attr (.var 0) 139) (.cons (.meth (.var 0) 147 .nil) (.cons (.con (.str [101, 110, 116, 101, 114])) (.cons (.attr (.var 0) 53) .nil)))) [.inl 0, .inl 1, .inl 2, .inl 3, .inr (.tup [])]) .nil)))) .nil) (.cons (.ex (.meth (.var 0) 21 .nil)) .nil)) .nil)) .nil))⟩
/-- Course_take_late: 0 self, 1 index, 2 flag, 3 page -/
def F_Course_take_late (ix : Lk) : Fn := ⟨3, 4, false, (.cons (.ife (.t (.op2 .ge (.e (.var 1)) (.e (.bf .len (.e (.attr (.var 0) 77)))))) (.cons .retN .nil) .nil) (.cons (.set (.nm 3) (.item (.e (.attr (.var 0) 77)) (.var 1))) (.cons (.atr (.var 0) 77 (.op2 .add (.e (.slc (.e (.attr (.var 0) 77)) .no (.yes (.var 1)))) (.e (.slc (.e (.attr (.var 0) 77)) (.yes (.op2 .add (.e (.var 1)) (.e (.con (.int 1))))) .no)))) (.cons (.ife (.t (.var 2)) (.cons (.atr (.var 0) 104 (.var 3)) .nil) .nil) (.cons (.ex (.meth (.var 0) 149 (.cons (.tup (.cons (.con (.str [108, 97, 116, 101])) (.cons (.var 3) (.cons (.var 2) .nil)))) .nil))) .nil)))))⟩
/-- Course_flip_bit: 0 self, 1 bit, 2 flags, 3 name, 4 flag -/
def F_Course_flip_bit (ix : Lk) : Fn := ⟨2, 5, false, (.cons (.set (.nm 2) (.new (.lst .nil))) (.cons (.for (.tp [3, 4]) (.zip (.e (.attr (.attr (.var 0) 139) 29)) (.e (.attr (.var 0) 53))) (.cons (.ife (.t (.op2 .eq (.e (.var 3)) (.e (.var 1)))) (.cons (.set (.nm 4) (.nt (.var 4))) (.cons (.ex (.meth (.var 0) 149 (.cons (.tup (.cons (.con (.str [98, 105, 116])) (.cons (.var 1) (.cons (.var 4) .nil)))) .nil))) .nil)) .nil) (.cons (.ex (.mt .append (.var 2) (.e (.var 4)))) .nil))) (.cons (.atr (.var 0) 53 (.bf .tuple (.e (.var 2)))) .nil)))⟩
/-- Course_drop_way: 0 self, 1 stage -/
def F_Course_drop_way (ix : Lk) : Fn := ⟨1, 2, false, (.cons (.set (.nm 1) (.item (.e (.attr (.var 0) 162)) (.con (.int 1)))) (.cons (.ife (.and (.t (.op2 .eq (.e (.attr (.attr (.var 0) 131) 95)) (.e (.con (.str [114, 97, 99, 101]))))) (.t (.op2 .eq (.e (.var 1)) (.e (.con (.str [108, 111, 97, 100])))))) (.cons (.atr (.var 0) 77 (.slc (.e (.op2 .add (.e (.attr (.var 0) 77)) (.e (.tup (.cons (.meth (.var 0) 147 .nil) .nil))))) (.yes (.neg (.glo ix.g_MOST_LATE))) .no)) .nil) .nil) (.cons (.atr (.var 0) 162 (.con .non)) (.cons (.ex (.meth (.var 0) 149 (.cons (.tup (.cons (.con (.str [100, 114, 111, 112, 112, 101, 100])) (.cons (.var 1) .nil))) .nil))) .nil))))⟩
/-- Course_move: 0 self, 1 deed, 2 plan, 3 spot -/
def F_Course_move (ix : Lk) : Fn := ⟨2, 4, false, (.cons (.ife (.t (.isN true (.attr (.var 0) 162))) (.cons (.ife (.t (.op2 .eq (.e (.attr (.attr (.var 0) 131) 95)) (.e (.con (.str [105, 103, 110, 111, 114, 101]))))) (.cons .retN .nil) .nil) (.cons (.ex (.meth (.var 0) 42 .nil)) .nil)) .nil) (.cons (.ife (.t (.op2 .eq (.e (.item (.e (.var 1)) (.con (.int 0)))) (.e (.con (.str [98, 97, 99, 107]))))) (.cons (.ife (.t (.op2 .gt (.e (.attr (.var 0) 113)) (.e (.con (.int 0))))) (.cons (.ex (.meth (.var 0) 26 (.cons (.con (.str [115, 116, 101, 112])) (.cons (.attr (.var 0) 65) (.cons (.op2 .sub (.e (.attr (.var 0) 113)) (.e (.con (.int 1)))) .nil))))) .nil) .nil) .nil) (.cons (.ife (.t (.op2 .eq (.e (.item (.e (.var 1)) (.con (.int 0)))) (.e (.con (.str [102, 111, 114, 119, 97, 114, 100]))))) (.cons (.ife (.t (.op2 .lt (.e (.op2 .add (.e (.attr (.var 0) 113)) (.e (.con (.int 1))))) (.e (.bf .len (.e (.attr (.var 0) 65)))))) (.cons (.ex (.meth (.var 0) 26 (.cons (.con (.str [115, 116, 101, 112])) (.cons (.attr (.var 0) 65) (.cons (.op2 .add (.e (.attr (.var 0) 113)) (.e (.con (.int 1)))) .nil))))) .nil) .nil) .nil) (.cons (.ife (.t (.op2 .ne (.e (.item (.e (.var 1)) (.con (.int 1)))) (.e (.item (.e (.attr (.var 0) 65)) (.attr (.var 0) 113))))) (.cons (.set (.tp [2, 3]) (.call ix.f_put_page (.cons (.attr (.var 0) 139) (.cons (.attr (.var 0) 65) (.cons (.attr (.var 0) 113) (.cons (.item (.e (.var 1)) (.con (.int 1))) .nil)))))) (.cons (.ex (.meth (.var 0) 26 (.cons (.con (.str [99, 108, 105, 99, 107])) (.cons (.var 2) (.cons (.var 3) .nil))))) .nil)) .nil) .nil)) .nil)) .nil))⟩
/-- step: 0 site, 1 rule, 2 standing, 3 deed, 4 course, 5 done, 6 path -/
def F_step (ix : Lk) : Fn := ⟨4, 7, false, (.cons (.ife (.not (.t (.call ix.f_is_standing (.cons (.var 0) (.cons (.var 1) (.cons (.var 2) .nil)))))) (.cons .no .nil) .nil) (.cons (.ife (.not (.t (.call ix.f_is_deed (.cons (.var 0) (.cons (.var 3) .nil))))) (.cons .no .nil) .nil) (.cons (.set (.nm 4) (.make ix.c_Course (.cons (.var 0) (.cons (.var 1) (.cons (.var 2) .nil))))) (.cons (.ife (.t (.op2 .eq (.e (.item (.e (.var 3)) (.con (.int 0)))) (.e (.con (.str [97, 110, 115, 119, 101, 114]))))) (.cons (.ex (.meth (.var 4) 20 (.cons (.item (.e (.var 3)) (.con (.int 1))) .nil))) .nil) (.cons (.ife (.t (.op2 .eq (.e (.item (.e (.var 3)) (.con (.int 0)))) (.e (.con (.str [108, 111, 97, 100]))))) (.cons (.ex (.meth (.var 4) 44 (.cons (.item (.e (.var 3)) (.con (.int 1))) .nil))) .nil) (.cons (.ife (.t (.op2 .eq (.e (.item (.e (.var 3)) (.con (.int 0)))) (.e (.con (.str [108, 97, 116, 101]))))) (.cons (.ex (.meth (.var 4) 146 (.cons (.item (.e (.var 3)) (.con (.int 1))) (.cons (.item (.e (.var 3)) (.con (.int 2))) .nil)))) .nil) (.cons (.ife (.t (.op2 .eq (.e (.item (.e (.var 3)) (.con (.int 0)))) (.e (.con (.str [102, 108, 105, 112]))))) (.cons (.ex (.meth (.var 4) 54 (.cons (.item (.e (.var 3)) (.con (.int 1))) .nil))) .nil) (.cons (.ex (.meth (.var 4) 91 (.cons (.var 3) .nil))) .nil)) .nil)) .nil)) .nil)) (.cons (.set (.nm 5) (.bf .tuple (.lc (.a (.e (.meth (.var 0) 129 .nil))) (.nm 6) (.yes (.t (.op2 .isin (.e (.var 6)) (.e (.attr (.var 4) 111))))) (.var 6)))) (.cons (.ret (.make ix.c_Step (.cons (.var 3) (.cons (.var 2) (.cons (.meth (.var 4) 142 .nil) (.cons (.bf .tuple (.e (.attr (.var 4) 150))) (.cons (.var 5) .nil))))))) .nil))))))⟩
/-- _law_page: 0 _law_parts_here, 1 _law_name, 2 _law_pair -/
def F__law_page (ix : Lk) : Fn := ⟨2, 3, false, (.cons (.ret (.item (.lc (.a (.e (.item (.e (.var 0)) (.con (.int 1))))) (.nm 2) (.yes (.t (.op2 .eq (.e (.item (.e (.var 2)) (.con (.int 0)))) (.e (.var 1))))) (.item (.e (.var 2)) (.con (.int 1)))) (.con (.int 0)))) .nil)⟩
/-- _law_wait: 0 _law_state, 1 _law_trip, 2 _law_stage_here, 3 _law_where -/
def F__law_wait (ix : Lk) : Fn := ⟨4, 4, false, (.cons (.itm (.var 0) (.con (.int 4)) (.tup (.cons (.item (.e (.var 1)) (.con (.int 0))) (.cons (.var 2) (.cons (.var 3) (.cons (.item (.e (.var 1)) (.con (.int 1))) (.cons (.item (.e (.var 1)) (.con (.int 2))) (.cons (.item (.e (.var 1)) (.con (.int 3))) (.cons (.item (.e (.var 1)) (.con (.int 4))) .nil))))))))) .nil)⟩
/-- _law_led: 0 _law_parts_here, 1 _law_rule_here, 2 _law_trip, 3 _law_name -/
def F__law_led (ix : Lk) : Fn := ⟨4, 4, false, (.cons (.itm (.var 2) (.con (.int 4)) (.op2 .add (.e (.item (.e (.var 2)) (.con (.int 4)))) (.e (.con (.int 1))))) (.cons (.ife (.t (.op2 .eq (.e (.attr (.var 1) 78)) (.e (.con (.str [112, 117, 116]))))) (.cons .no .nil) (.cons (.itm (.var 2) (.con (.int 2)) (.op2 .add (.e (.op2 .add (.e (.slc (.e (.item (.e (.var 2)) (.con (.int 2)))) .no (.yes (.item (.e (.var 2)) (.con (.int 3)))))) (.e (.tup (.cons (.var 3) .nil))))) (.e (.slc (.e (.item (.e (.var 2)) (.con (.int 2)))) (.yes (.op2 .add (.e (.item (.e (.var 2)) (.con (.int 3)))) (.e (.con (.int 1))))) .no)))) .nil)) .nil))⟩
/-- _law_after_ask: 0 _law_rows_here, 1 _law_where, 2 _law_answer, 3 _law_pending, 4 _law_prefix, 5 _law_k, 6 _law_row_here -/
def F__law_after_ask (ix : Lk) : Fn := ⟨3, 7, false, (.cons (.set (.nm 3) (.new (.lst .nil))) (.cons (.set (.nm 4) (.tup .nil)) (.cons (.for (.nm 5) (.rng3 (.con (.int 0)) (.bf .len (.e (.var 1))) (.con (.int 2))) (.cons (.set (.nm 3) (.op2 .add (.e (.slc (.e (.call ix.f__law_entries (.cons (.var 0) (.cons (.var 4) .nil)))) (.yes (.op2 .add (.e (.item (.e (.var 1)) (.var 5))) (.e (.con (.int 1))))) .no)) (.e (.var 3)))) (.cons (.set (.nm 6) (.item (.e (.var 0)) (.item (.e (.var 1)) (.var 5)))) (.cons (.set (.nm 4) (.op2 .add (.e (.var 4)) (.e (.tup (.cons (.item (.e (.var 1)) (.var 5)) .nil))))) (.cons (.ife (.t (.op2 .lt (.e (.op2 .add (.e (.var 5)) (.e (.con (.int 1))))) (.e (.bf .len (.e (.var 1)))))) (.cons (.set (.nm 0) (.item (.e (.var 6)) (.op2 .add (.e (.op2 .sub (.e (.bf .len (.e (.var 6)))) (.e (.con (.int 2))))) (.e (.item (.e (.var 1)) (.op2 .add (.e (.var 5)) (.e (.con (.int 1))))))))) (.cons (.set (.nm 4) (.op2 .add (.e (.var 4)) (.e (.tup (.cons (.item (.e (.var 1)) (.op2 .add (.e (.var 5)) (.e (.con (.int 1))))) .nil))))) .nil)) (.cons (.set (.nm 3) (.op2 .add (.e (.call ix.f__law_branch (.cons (.var 4) (.cons (.var 6) (.cons (.var 2) .nil))))) (.e (.var 3)))) .nil)) .nil))))) (.cons (.ret (.var 3)) .nil))))⟩
/-- _law_did: 0 _law_site, 1 _law_rule_here, 2 _law_value, 3 _law_deed_here -/
def F__law_did (ix : Lk) : Fn := ⟨4, 4, false, (.cons .no .nil)⟩
/-- _law_did_v2: 0 _law_site, 1 _law_rule_here, 2 _law_value_here, 3 _law_deed_here -/
def F__law_did_v2 (ix : Lk) : Fn := ⟨4, 4, false, (.cons .no .nil)⟩
/-- pair_of: 0 standing -/
def F_pair_of (ix : Lk) : Fn := ⟨1, 1, false, (.cons (.ret (.tup (.cons (.item (.e (.item (.e (.var 0)) (.con (.int 2)))) (.item (.e (.var 0)) (.con (.int 3)))) (.cons (.item (.e (.var 0)) (.con (.int 1))) .nil)))) .nil)⟩
/-- first_standing: 0 site, 1 rule, 2 flags, 3 standing, 4 bit -/
def F_first_standing (ix : Lk) : Fn := ⟨4, 5, false, (.cons (.ife (.t (.isN true (.var 3))) (.cons (.ife (.not (.t (.call ix.f_is_standing (.cons (.var 0) (.cons (.var 1) (.cons (.var 3) .nil)))))) (.cons .no .nil) .nil) (.cons (.ife (.t (.isN true (.var 2))) (.cons .no .nil) .nil) (.cons (.ret (.var 3)) .nil))) .nil) (.cons (.ife (.t (.isN false (.var 2))) (.cons (.set (.nm 2) (.bf .tuple (.lc (.a (.e (.attr (.var 0) 29))) (.nm 4) .no (.con (.bl false))))) .nil) .nil) (.cons (.ret (.attr (.call ix.f_begin (.cons (.var 0) (.cons (.var 1) (.cons (.var 2) .nil)))) 17)) .nil)))⟩
/-- Live___init__: 0 self, 1 site, 2 rule, 3 flags, 4 standing -/
def F_Live___init__ (ix : Lk) : Fn := ⟨5, 5, true, (.cons (.atr (.var 0) 27 (.call ix.f_first_standing (.cons (.var 1) (.cons (.var 2) (.cons (.var 3) (.cons (.var 4) .nil)))))) (.cons (.atr (.var 0) 139 (.var 1)) (.cons (.atr (.var 0) 131 (.var 2)) (.cons (.atr (.var 0) 145 (.new (.lst .nil))) .nil))))⟩
/-- Live_standing: 0 self -/
def F_Live_standing (ix : Lk) : Fn := ⟨1, 1, false, (.cons (.ife (.t (.op2 .eq (.e (.bf .len (.e (.attr (.var 0) 145)))) (.e (.con (.int 0))))) (.cons (.ret (.attr (.var 0) 27)) .nil) .nil) (.cons (.ret (.attr (.item (.e (.attr (.var 0) 145)) (.neg (.con (.int 1)))) 17)) .nil))⟩
/-- Live_further_steps: 0 self, 1 deeds, 2 standing, 3 steps, 4 deed -/
def F_Live_further_steps (ix : Lk) : Fn := ⟨2, 5, false, (.cons (.set (.nm 2) (.meth (.var 0) 141 .nil)) (.cons (.set (.nm 3) (.new (.lst .nil))) (.cons (.for (.nm 4) (.a (.e (.var 1))) (.cons (.ife (.not (.t (.call ix.f_is_deed (.cons (.attr (.var 0) 139) (.cons (.var 4) .nil))))) (.cons .no .nil) .nil) (.cons (.ex (.mt .append (.var 3) (.e (.call ix.f_step (.cons (.attr (.var 0) 139) (.cons (.attr (.var 0) 131) (.cons (.var 2) (.cons (.var 4) .nil)))))))) (.cons (.set (.nm 2) (.attr (.item (.e (.var 3)) (.neg (.con (.int 1)))) 17)) .nil)))) (.cons (.ret (.var 3)) .nil))))⟩
/-- Live_perform: 0 self, 1 deed, 2 steps -/
def F_Live_perform (ix : Lk) : Fn := ⟨2, 3, false, (.cons (.set (.nm 2) (.meth (.var 0) 59 (.cons (.new (.lst (.cons (.var 1) .nil))) .nil))) (.cons (.ex (.mt .extend (.attr (.var 0) 145) (.e (.var 2)))) (.cons (.ret (.attr (.item (.e (.var 2)) (.con (.int 0))) 48)) .nil)))⟩
/-- Live_click: 0 self, 1 page -/
def F_Live_click (ix : Lk) : Fn := ⟨2, 2, false, (.cons (.ife (.not (.t (.call ix.f_is_one_of (.cons (.var 1) (.cons (.meth (.attr (.var 0) 139) 103 .nil) .nil))))) (.cons .no .nil) .nil) (.cons (.ret (.meth (.var 0) 112 (.cons (.tup (.cons (.con (.str [99, 108, 105, 99, 107])) (.cons (.var 1) .nil))) .nil))) .nil))⟩
/-- Live_back: 0 self -/
def F_Live_back (ix : Lk) : Fn := ⟨1, 1, false, (.cons (.ret (.meth (.var 0) 112 (.cons (.tup (.cons (.con (.str [98, 97, 99, 107])) .nil)) .nil))) .nil)⟩
/-- Live_forward: 0 self -/
def F_Live_forward (ix : Lk) : Fn := ⟨1, 1, false, (.cons (.ret (.meth (.var 0) 112 (.cons (.tup (.cons (.con (.str [102, 111, 114, 119, 97, 114, 100])) .nil)) .nil))) .nil)⟩
/-- Live_answer: 0 self, 1 flag -/
def F_Live_answer (ix : Lk) : Fn := ⟨2, 2, false, (.cons (.ret (.meth (.var 0) 112 (.cons (.tup (.cons (.con (.str [97, 110, 115, 119, 101, 114])) (.cons (.var 1) .nil))) .nil))) .nil)⟩
/-- Live_load: 0 self, 1 flag -/
def F_Live_load (ix : Lk) : Fn := ⟨2, 2, false, (.cons (.ret (.meth (.var 0) 112 (.cons (.tup (.cons (.con (.str [108, 111, 97, 100])) (.cons (.var 1) .nil))) .nil))) .nil)⟩
/-- Live_late: 0 self, 1 k, 2 flag -/
def F_Live_late (ix : Lk) : Fn := ⟨3, 3, false, (.cons (.ret (.meth (.var 0) 112 (.cons (.tup (.cons (.con (.str [108, 97, 116, 101])) (.cons (.var 1) (.cons (.var 2) .nil)))) .nil))) .nil)⟩
/-- Live___getitem__: 0 self, 1 bit, 2 name, 3 flag -/
def F_Live___getitem__ (ix : Lk) : Fn := ⟨2, 4, false, (.cons (.for (.tp [2, 3]) (.zip (.e (.attr (.attr (.var 0) 139) 29)) (.e (.item (.e (.meth (.var 0) 141 .nil)) (.con (.int 0))))) (.cons (.ife (.and (.t (.isi (.var 1) .str)) (.t (.op2 .eq (.e (.var 2)) (.e (.var 1))))) (.cons (.ret (.var 3)) .nil) .nil) .nil)) (.cons .no .nil))⟩
/-- Live___setitem__: 0 self, 1 bit, 2 flag, 3 old -/
def F_Live___setitem__ (ix : Lk) : Fn := ⟨3, 4, false, (.cons (.set (.nm 3) (.item (.e (.var 0)) (.var 1))) (.cons (.ife (.not (.t (.isi (.var 2) .bool))) (.cons .no .nil) .nil) (.cons (.ife (.t (.op2 .ne (.e (.var 3)) (.e (.var 2)))) (.cons (.ex (.meth (.var 0) 112 (.cons (.tup (.cons (.con (.str [102, 108, 105, 112])) (.cons (.var 1) .nil))) .nil))) .nil) .nil) .nil)))⟩
/-- Live___contains__: 0 self, 1 bit -/
def F_Live___contains__ (ix : Lk) : Fn := ⟨2, 2, false, (.cons (.ret (.call ix.f_is_one_of (.cons (.var 1) (.cons (.attr (.attr (.var 0) 139) 29) .nil)))) .nil)⟩
/-- Live___iter__: 0 self -/
def F_Live___iter__ (ix : Lk) : Fn := ⟨1, 1, false, (.cons .no .nil)⟩
/-- Live___len__: 0 self -/
def F_Live___len__ (ix : Lk) : Fn := ⟨1, 1, false, (.cons (.ret (.bf .len (.e (.attr (.var 0) 145)))) .nil)⟩
/-- Live___iadd__: 0 self, 1 deeds -/
def F_Live___iadd__ (ix : Lk) : Fn := ⟨2, 2, false, (.cons (.ex (.mt .extend (.attr (.var 0) 145) (.e (.meth (.var 0) 59 (.cons (.var 1) .nil))))) (.cons (.ret (.var 0)) .nil))⟩
/-- Live_last_events: 0 self -/
def F_Live_last_events (ix : Lk) : Fn := ⟨1, 1, false, (.cons (.ife (.t (.op2 .eq (.e (.bf .len (.e (.attr (.var 0) 145)))) (.e (.con (.int 0))))) (.cons (.ret (.tup .nil)) .nil) .nil) (.cons (.ret (.attr (.item (.e (.attr (.var 0) 145)) (.neg (.con (.int 1)))) 48)) .nil))⟩
/-- Live_deeds_done: 0 self, 1 done -/
def F_Live_deeds_done (ix : Lk) : Fn := ⟨1, 2, false, (.cons (.ret (.new (.lc (.a (.e (.attr (.var 0) 145))) (.nm 1) .no (.attr (.var 1) 36)))) .nil)⟩
/-- Live_seen: 0 self, 1 done -/
def F_Live_seen (ix : Lk) : Fn := ⟨1, 2, false, (.cons (.ret (.op2 .add (.lst (.cons (.call ix.f_pair_of (.cons (.attr (.var 0) 27) .nil)) .nil)) (.lc (.a (.e (.attr (.var 0) 145))) (.nm 1) .no (.call ix.f_pair_of (.cons (.attr (.var 1) 17) .nil))))) .nil)⟩
/-- _law_perform: 0 _law_live, 1 _law_deed_here -/
def F__law_perform (ix : Lk) : Fn := ⟨2, 2, false, (.cons .no (.cons (.ret (.con (.bl true))) .nil))⟩
/-- newly_shown: 0 events, 1 page, 2 event -/
def F_newly_shown (ix : Lk) : Fn := ⟨1, 3, false, (.cons (.set (.nm 1) (.con .non)) (.cons (.for (.nm 2) (.a (.e (.var 0))) (.cons (.ife (.or (.t (.op2 .eq (.e (.item (.e (.var 2)) (.con (.int 0)))) (.e (.con (.str [115, 104, 111, 119, 110]))))) (.and (.t (.op2 .eq (.e (.item (.e (.var 2)) (.con (.int 0)))) (.e (.con (.str [108, 97, 116, 101]))))) (.t (.item (.e (.var 2)) (.con (.int 2)))))) (.cons (.set (.nm 1) (.item (.e (.var 2)) (.con (.int 1)))) .nil) .nil) .nil)) (.cons (.ret (.var 1)) .nil)))⟩
/-- found_words: 0 events, 1 event -/
def F_found_words (ix : Lk) : Fn := ⟨1, 2, false, (.cons (.ret (.new (.lc (.a (.e (.var 0))) (.nm 1) .no (.item (.e (.var 1)) (.con (.int 0)))))) .nil)⟩
/-- faults_at_rest: 0 after, 1 found, 2 flags, 3 shown, 4 history, 5 place, 6 way, 7 late, 8 first, 9 second -/
def F_faults_at_rest (ix : Lk) : Fn := ⟨1, 10, false, (.cons (.set (.tp [2, 3, 4, 5, 6, 7]) (.var 0)) (.cons (.ife (.t (.isN true (.var 6))) (.cons (.ret (.new (.lst .nil))) .nil) .nil) (.cons (.set (.nm 1) (.new (.lst .nil))) (.cons (.ife (.t (.op2 .ne (.e (.var 3)) (.e (.item (.e (.var 4)) (.var 5))))) (.cons (.ex (.mt .append (.var 1) (.e (.tup (.cons (.con (.str [97, 112, 97, 114, 116])) (.cons (.var 3) .nil)))))) .nil) .nil) (.cons (.for (.tp [8, 9]) (.zip (.e (.var 4)) (.e (.slc (.e (.var 4)) (.yes (.con (.int 1))) .no))) (.cons (.ife (.t (.op2 .eq (.e (.var 8)) (.e (.var 9)))) (.cons (.ex (.mt .append (.var 1) (.e (.tup (.cons (.con (.str [100, 111, 117, 98, 108, 101, 100])) (.cons (.var 8) .nil)))))) .nil) .nil) .nil)) (.cons (.ret (.var 1)) .nil))))))⟩
/-- was_asked: 0 rule, 1 step, 2 event, 3 way -/
def F_was_asked (ix : Lk) : Fn := ⟨2, 4, false, (.cons (.for (.nm 2) (.a (.e (.attr (.var 1) 48))) (.cons (.ife (.and (.t (.op2 .eq (.e (.item (.e (.var 2)) (.con (.int 0)))) (.e (.con (.str [103, 117, 97, 114, 100]))))) (.and (.t (.op2 .eq (.e (.item (.e (.var 2)) (.con (.int 2)))) (.e (.con (.str [101, 110, 116, 101, 114]))))) (.t (.op2 .eq (.e (.item (.e (.var 2)) (.con (.int 3)))) (.e (.con (.str [108, 101, 116]))))))) (.cons (.ret (.con (.bl true))) .nil) .nil) .nil)) (.cons (.set (.nm 3) (.item (.e (.attr (.var 1) 25)) (.con (.int 4)))) (.cons (.ife (.or (.t (.op2 .ne (.e (.item (.e (.attr (.var 1) 36)) (.con (.int 0)))) (.e (.con (.str [108, 111, 97, 100]))))) (.t (.isN false (.var 3)))) (.cons (.ret (.con (.bl false))) .nil) .nil) (.cons (.ret (.or (.op2 .eq (.e (.item (.e (.var 3)) (.con (.int 0)))) (.e (.con (.str [99, 108, 105, 99, 107])))) (.or (.attr (.var 0) 24) (.op2 .gt (.e (.item (.e (.var 3)) (.con (.int 6)))) (.e (.con (.int 0))))))) .nil))))⟩
/-- is_step_way: 0 step, 1 way -/
def F_is_step_way (ix : Lk) : Fn := ⟨1, 2, false, (.cons (.ife (.or (.t (.op2 .eq (.e (.item (.e (.attr (.var 0) 36)) (.con (.int 0)))) (.e (.con (.str [97, 110, 115, 119, 101, 114]))))) (.t (.op2 .eq (.e (.item (.e (.attr (.var 0) 36)) (.con (.int 0)))) (.e (.con (.str [108, 111, 97, 100])))))) (.cons (.set (.nm 1) (.item (.e (.attr (.var 0) 25)) (.con (.int 4)))) (.cons (.ret (.and (.isN true (.var 1)) (.op2 .eq (.e (.item (.e (.var 1)) (.con (.int 0)))) (.e (.con (.str [115, 116, 101, 112])))))) .nil)) .nil) (.cons (.ret (.or (.op2 .eq (.e (.item (.e (.attr (.var 0) 36)) (.con (.int 0)))) (.e (.con (.str [98, 97, 99, 107])))) (.op2 .eq (.e (.item (.e (.attr (.var 0) 36)) (.con (.int 0)))) (.e (.con (.str [102, 111, 114, 119, 97, 114, 100])))))) .nil))⟩
/-- written_over: 0 rule, 1 step, 2 history, 3 pages, 4 event -/
def F_written_over (ix : Lk) : Fn := ⟨2, 5, false, (.cons (.ife (.or (.t (.op2 .ne (.e (.attr (.var 0) 78)) (.e (.con (.str [105, 110, 115, 116, 101, 97, 100]))))) (.not (.t (.call ix.f_is_step_way (.cons (.var 1) .nil))))) (.cons (.ret (.new (.lst .nil))) .nil) .nil) (.cons (.set (.nm 2) (.item (.e (.attr (.var 1) 25)) (.con (.int 2)))) (.cons (.set (.nm 3) (.new (.lst .nil))) (.cons (.for (.nm 4) (.a (.e (.attr (.var 1) 48))) (.cons (.ife (.and (.t (.op2 .eq (.e (.item (.e (.var 4)) (.con (.int 0)))) (.e (.con (.str [116, 117, 114, 110, 101, 100]))))) (.t (.op2 .lt (.e (.item (.e (.var 4)) (.con (.int 2)))) (.e (.bf .len (.e (.var 2))))))) (.cons (.ife (.t (.op2 .ne (.e (.item (.e (.var 2)) (.item (.e (.var 4)) (.con (.int 2))))) (.e (.item (.e (.item (.e (.var 4)) (.con (.int 1)))) (.item (.e (.var 4)) (.con (.int 2))))))) (.cons (.ex (.mt .append (.var 3) (.e (.item (.e (.var 2)) (.item (.e (.var 4)) (.con (.int 2))))))) .nil) .nil) .nil) .nil) .nil)) (.cons (.ret (.var 3)) .nil)))))⟩
/-- faults_of_showing: 0 site, 1 rule, 2 step, 3 page, 4 found, 5 flags, 6 elder, 7 words -/
def F_faults_of_showing (ix : Lk) : Fn := ⟨3, 8, false, (.cons (.set (.nm 3) (.call ix.f_newly_shown (.cons (.attr (.var 2) 48) .nil))) (.cons (.ife (.t (.isN false (.var 3))) (.cons (.ret (.new (.lst .nil))) .nil) .nil) (.cons (.set (.nm 4) (.new (.lst .nil))) (.cons (.set (.nm 5) (.item (.e (.attr (.var 2) 17)) (.con (.int 0)))) (.cons (.set (.nm 6) (.item (.e (.attr (.var 2) 25)) (.con (.int 1)))) (.cons (.set (.nm 7) (.call ix.f_found_words (.cons (.attr (.var 2) 48) .nil))) (.cons (.ife (.not (.t (.call ix.f_lets (.cons (.var 0) (.cons (.var 3) (.cons (.con (.str [101, 110, 116, 101, 114])) (.cons (.var 5) .nil))))))) (.cons (.ex (.mt .append (.var 4) (.e (.tup (.cons (.con (.str [98, 97, 114, 114, 101, 100])) (.cons (.var 3) .nil)))))) .nil) .nil) (.cons (.ife (.and (.t (.op2 .ne (.e (.var 6)) (.e (.var 3)))) (.not (.t (.call ix.f_lets (.cons (.var 0) (.cons (.var 6) (.cons (.con (.str [108, 101, 97, 118, 101])) (.cons (.var 5) .nil)))))))) (.cons (.ex (.mt .append (.var 4) (.e (.tup (.cons (.con (.str [112, 97, 115, 115, 101, 100])) (.cons (.var 6) .nil)))))) .nil) .nil) (.cons (.ife (.t (.op2 .isin (.e (.con (.str [108, 97, 116, 101]))) (.e (.var 7)))) (.cons (.ex (.mt .append (.var 4) (.e (.tup (.cons (.con (.str [108, 97, 116, 101])) (.cons (.var 3) .nil)))))) .nil) .nil) (.cons (.ife (.and (.t (.op2 .isin (.e (.con (.str [115, 104, 111, 119, 110]))) (.e (.var 7)))) (.and (.t (.op2 .gt (.e (.bf .len (.e (.meth (.var 0) 61 (.cons (.var 3) (.cons (.con (.str [101, 110, 116, 101, 114])) .nil)))))) (.e (.con (.int 0))))) (.not (.t (.call ix.f_was_asked (.cons (.var 1) (.cons (.var 2) .nil))))))) (.cons (.ex (.mt .append (.var 4) (.e (.tup (.cons (.con (.str [117, 110, 97, 115, 107, 101, 100])) (.cons (.var 3) .nil)))))) .nil) .nil) (.cons (.ret (.var 4)) .nil)))))))))))⟩
/-- faults: 0 site, 1 rule, 2 step, 3 found, 4 kind, 5 page -/
def F_faults (ix : Lk) : Fn := ⟨3, 6, false, (.cons (.set (.nm 3) (.call ix.f_faults_at_rest (.cons (.attr (.var 2) 17) .nil))) (.cons (.ife (.t (.isN true (.attr (.var 2) 36))) (.cons (.set (.nm 3) (.op2 .add (.e (.var 3)) (.e (.call ix.f_faults_of_showing (.cons (.var 0) (.cons (.var 1) (.cons (.var 2) .nil))))))) (.cons (.set (.nm 3) (.op2 .add (.e (.var 3)) (.lc (.a (.e (.call ix.f_written_over (.cons (.var 1) (.cons (.var 2) .nil))))) (.nm 5) .no (.tup (.cons (.con (.str [119, 114, 105, 116, 116, 101, 110])) (.cons (.var 5) .nil)))))) .nil)) .nil) (.cons (.ret (.new (.lc2 (.a (.e (.glo ix.g_KINDS))) (.nm 4) .no (.a (.e (.meth (.var 0) 103 .nil))) (.nm 5) (.yes (.t (.op2 .isin (.e (.tup (.cons (.var 4) (.cons (.var 5) .nil)))) (.e (.var 3))))) (.tup (.cons (.var 4) (.cons (.var 5) .nil)))))) .nil)))⟩
/-- _law_found: 0 _law_site, 1 _law_rule_here, 2 _law_flags_here, 3 _law_todo, 4 _law_value, 5 _law_found_here, 6 _law_deed_here, 7 _law_made, 8 _law_pair -/
def F__law_found (ix : Lk) : Fn := ⟨4, 9, false, (.cons (.set (.nm 4) (.attr (.call ix.f_begin (.cons (.var 0) (.cons (.var 1) (.cons (.var 2) .nil)))) 17)) (.cons (.set (.nm 5) (.new (.lst .nil))) (.cons (.for (.nm 6) (.a (.e (.var 3))) (.cons (.set (.nm 7) (.call ix.f__law_did (.cons (.var 0) (.cons (.var 1) (.cons (.var 4) (.cons (.var 6) .nil)))))) (.cons (.ife (.t (.isN true (.var 7))) (.cons (.ex (.mt .extend (.var 5) (.lc (.a (.e (.call ix.f_faults (.cons (.var 0) (.cons (.var 1) (.cons (.var 7) .nil)))))) (.nm 8) .no (.item (.e (.var 8)) (.con (.int 0)))))) (.cons (.set (.nm 4) (.attr (.var 7) 17)) .nil)) .nil) .nil))) (.cons (.ret (.var 5)) .nil))))⟩
/-- _law_found_v2: 0 _law_site, 1 _law_rule_here, 2 _law_flags_here, 3 _law_todo, 4 _law_value_here, 5 _law_found_here, 6 _law_deed_here, 7 _law_made, 8 _law_pair -/
def F__law_found_v2 (ix : Lk) : Fn := ⟨4, 9, false, (.cons (.set (.nm 4) (.attr (.call ix.f_begin (.cons (.var 0) (.cons (.var 1) (.cons (.var 2) .nil)))) 17)) (.cons (.set (.nm 5) (.new (.lst .nil))) (.cons (.for (.nm 6) (.a (.e (.var 3))) (.cons (.set (.nm 7) (.call ix.f__law_did (.cons (.var 0) (.cons (.var 1) (.cons (.var 4) (.cons (.var 6) .nil)))))) (.cons (.ife (.t (.isN true (.var 7))) (.cons (.ex (.mt .extend (.var 5) (.lc (.a (.e (.call ix.f_faults (.cons (.var 0) (.cons (.var 1) (.cons (.var 7) .nil)))))) (.nm 8) .no (.item (.e (.var 8)) (.con (.int 0)))))) (.cons (.set (.nm 4) (.attr (.var 7) 17)) .nil)) .nil) .nil))) (.cons (.ret (.var 5)) .nil))))⟩
/-- Live_undo: 0 self -/
def F_Live_undo (ix : Lk) : Fn := ⟨1, 1, false, (.cons (.ife (.t (.op2 .eq (.e (.bf .len (.e (.attr (.var 0) 145)))) (.e (.con (.int 0))))) (.cons .no .nil) .nil) (.cons (.ret (.attr (.mt0 .pop (.attr (.var 0) 145)) 36)) .nil))⟩
/-- Live_fork: 0 self, 1 other -/
def F_Live_fork (ix : Lk) : Fn := ⟨1, 2, false, (.cons (.set (.nm 1) (.makeS ix.c_Live (.cons (.attr (.var 0) 139) (.cons (.attr (.var 0) 131) (.cons (.attr (.var 0) 27) .nil))) [.inl 0, .inl 1, .inr (.non), .inl 2])) (.cons (.atr (.var 1) 145 (.bf .list (.e (.attr (.var 0) 145)))) (.cons (.ret (.var 1)) .nil)))⟩
/-- Live_trial: 0 self, 1 deeds, 2 done -/
def F_Live_trial (ix : Lk) : Fn := ⟨2, 3, false, (.cons (.ret (.new (.lc (.a (.e (.meth (.var 0) 59 (.cons (.var 1) .nil)))) (.nm 2) .no (.call ix.f_pair_of (.cons (.attr (.var 2) 17) .nil))))) .nil)⟩
/-- row_lines: 0 rows, 1 lines, 2 row, 3 first, 4 second -/
def F_row_lines (ix : Lk) : Fn := ⟨1, 5, false, (.cons (.set (.nm 1) (.new (.lst .nil))) (.cons (.for (.nm 2) (.a (.e (.var 0))) (.cons (.ife (.and (.t (.op2 .eq (.e (.item (.e (.var 2)) (.con (.int 0)))) (.e (.con (.str [115, 101, 116]))))) (.t (.item (.e (.var 2)) (.con (.int 2))))) (.cons (.ex (.mt .append (.var 1) (.e (.op2 .add (.e (.op2 .add (.e (.con (.str [115, 101, 116, 32]))) (.e (.item (.e (.var 2)) (.con (.int 1)))))) (.e (.con (.str [32, 111, 110]))))))) .nil) (.cons (.ife (.t (.op2 .eq (.e (.item (.e (.var 2)) (.con (.int 0)))) (.e (.con (.str [115, 101, 116]))))) (.cons (.ex (.mt .append (.var 1) (.e (.op2 .add (.e (.op2 .add (.e (.con (.str [115, 101, 116, 32]))) (.e (.item (.e (.var 2)) (.con (.int 1)))))) (.e (.con (.str [32, 111, 102, 102]))))))) .nil) (.cons (.ife (.t (.op2 .eq (.e (.item (.e (.var 2)) (.con (.int 0)))) (.e (.con (.str [114, 101, 102, 117, 115, 101]))))) (.cons (.ex (.mt .append (.var 1) (.e (.con (.str [114, 101, 102, 117, 115, 101]))))) .nil) (.cons (.ife (.t (.op2 .eq (.e (.item (.e (.var 2)) (.con (.int 0)))) (.e (.con (.str [108, 101, 97, 100]))))) (.cons (.ex (.mt .append (.var 1) (.e (.op2 .add (.e (.con (.str [108, 101, 97, 100, 32]))) (.e (.item (.e (.var 2)) (.con (.int 1)))))))) .nil) (.cons (.set (.tp [3, 4]) (.call ix.f_branches (.cons (.var 2) .nil))) (.cons .no (.cons (.ex (.mt .extend (.var 1) (.e (.op2 .add (.e (.op2 .add (.e (.op2 .add (.e (.call ix.f_row_lines (.cons (.var 3) .nil))) (.lst (.cons (.con (.str [101, 108, 115, 101])) .nil)))) (.e (.call ix.f_row_lines (.cons (.var 4) .nil))))) (.lst (.cons (.con (.str [101, 110, 100])) .nil)))))) .nil)))) .nil)) .nil)) .nil)) .nil)) (.cons (.ret (.var 1)) .nil)))⟩
/-- joined: 0 lines, 1 line -/
def F_joined (ix : Lk) : Fn := ⟨1, 2, false, (.cons .no .nil)⟩
/-- format_site: 0 site, 1 lines, 2 name, 3 parts -/
def F_format_site (ix : Lk) : Fn := ⟨1, 4, false, (.cons .no (.cons (.for (.tp [2, 3]) (.a (.e (.attr (.var 0) 106))) (.cons (.ife (.t (.item (.e (.var 3)) (.con (.int 2)))) (.cons (.ex (.mt .append (.var 1) (.e (.op2 .add (.e (.op2 .add (.e (.con (.str [112, 97, 103, 101, 32]))) (.e (.var 2)))) (.e (.con (.str [32, 108, 111, 97, 100, 115]))))))) .nil) (.cons (.ex (.mt .append (.var 1) (.e (.op2 .add (.e (.con (.str [112, 97, 103, 101, 32]))) (.e (.var 2)))))) .nil)) (.cons (.ex (.mt .extend (.var 1) (.e (.op2 .add (.e (.op2 .add (.e (.op2 .add (.lst (.cons (.con (.str [101, 110, 116, 101, 114])) .nil)) (.e (.call ix.f_row_lines (.cons (.item (.e (.var 3)) (.con (.int 0))) .nil))))) (.lst (.cons (.con (.str [108, 101, 97, 118, 101])) .nil)))) (.e (.call ix.f_row_lines (.cons (.item (.e (.var 3)) (.con (.int 1))) .nil))))))) .nil))) (.cons (.ret (.call ix.f_joined (.cons (.var 1) .nil))) .nil)))⟩
/-- PageReader___init__: 0 self -/
def F_PageReader___init__ (ix : Lk) : Fn := ⟨1, 1, false, (.cons (.atr (.var 0) 106 (.new (.lst .nil))) (.cons (.atr (.var 0) 108 (.con (.str [110, 111, 110, 101]))) (.cons (.atr (.var 0) 93 (.con (.str []))) (.cons (.atr (.var 0) 87 (.con (.bl false))) (.cons (.atr (.var 0) 47 (.tup .nil)) (.cons (.atr (.var 0) 99 (.new (.lst .nil))) (.cons (.atr (.var 0) 130 (.new (.lst .nil))) .nil)))))))⟩
/-- PageReader_is_complete: 0 self -/
def F_PageReader_is_complete (ix : Lk) : Fn := ⟨1, 1, false, (.cons (.ret (.or (.op2 .eq (.e (.attr (.var 0) 108)) (.e (.con (.str [110, 111, 110, 101])))) (.and (.op2 .eq (.e (.attr (.var 0) 108)) (.e (.con (.str [108, 101, 97, 118, 101])))) (.op2 .eq (.e (.bf .len (.e (.attr (.var 0) 99)))) (.e (.con (.int 0))))))) .nil)⟩
/-- PageReader_close_page: 0 self -/
def F_PageReader_close_page (ix : Lk) : Fn := ⟨1, 1, false, (.cons (.ife (.t (.op2 .eq (.e (.attr (.var 0) 108)) (.e (.con (.str [108, 101, 97, 118, 101]))))) (.cons (.ex (.mt .append (.attr (.var 0) 106) (.e (.tup (.cons (.attr (.var 0) 93) (.cons (.tup (.cons (.attr (.var 0) 47) (.cons (.bf .tuple (.e (.attr (.var 0) 130))) (.cons (.attr (.var 0) 87) .nil)))) .nil)))))) (.cons (.atr (.var 0) 130 (.new (.lst .nil))) (.cons (.atr (.var 0) 108 (.con (.str [110, 111, 110, 101]))) .nil))) .nil) .nil)⟩
/-- PageReader_read_page: 0 self, 1 words, 2 fits -/
def F_PageReader_read_page (ix : Lk) : Fn := ⟨2, 3, false, (.cons (.set (.nm 2) (.or (.op2 .eq (.e (.bf .len (.e (.var 1)))) (.e (.con (.int 2)))) (.and (.op2 .eq (.e (.bf .len (.e (.var 1)))) (.e (.con (.int 3)))) (.op2 .eq (.e (.item (.e (.var 1)) (.con (.int 2)))) (.e (.con (.str [108, 111, 97, 100, 115]))))))) (.cons (.ife (.or (.not (.t (.var 2))) (.or (.not (.t (.call ix.f_is_name (.cons (.item (.e (.var 1)) (.con (.int 1))) .nil)))) (.not (.t (.meth (.var 0) 66 .nil))))) (.cons (.ret (.con (.bl false))) .nil) .nil) (.cons (.ex (.meth (.var 0) 34 .nil)) (.cons (.atr (.var 0) 93 (.item (.e (.var 1)) (.con (.int 1)))) (.cons (.atr (.var 0) 87 (.op2 .eq (.e (.bf .len (.e (.var 1)))) (.e (.con (.int 3))))) (.cons (.atr (.var 0) 108 (.con (.str [112, 97, 103, 101]))) (.cons (.ret (.con (.bl true))) .nil)))))))⟩
/-- PageReader_read_part: 0 self, 1 word -/
def F_PageReader_read_part (ix : Lk) : Fn := ⟨2, 2, false, (.cons (.ife (.and (.t (.op2 .eq (.e (.var 1)) (.e (.con (.str [101, 110, 116, 101, 114]))))) (.t (.op2 .eq (.e (.attr (.var 0) 108)) (.e (.con (.str [112, 97, 103, 101])))))) (.cons (.atr (.var 0) 108 (.con (.str [101, 110, 116, 101, 114]))) (.cons (.ret (.con (.bl true))) .nil)) .nil) (.cons (.ife (.and (.t (.op2 .eq (.e (.var 1)) (.e (.con (.str [108, 101, 97, 118, 101]))))) (.and (.t (.op2 .eq (.e (.attr (.var 0) 108)) (.e (.con (.str [101, 110, 116, 101, 114]))))) (.t (.op2 .eq (.e (.bf .len (.e (.attr (.var 0) 99)))) (.e (.con (.int 0))))))) (.cons (.atr (.var 0) 47 (.bf .tuple (.e (.attr (.var 0) 130)))) (.cons (.atr (.var 0) 130 (.new (.lst .nil))) (.cons (.atr (.var 0) 108 (.con (.str [108, 101, 97, 118, 101]))) (.cons (.ret (.con (.bl true))) .nil)))) .nil) (.cons (.ret (.con (.bl false))) .nil)))⟩
/-- PageReader_read_else: 0 self, 1 head, 2 around, 3 first -/
def F_PageReader_read_else (ix : Lk) : Fn := ⟨1, 4, false, (.cons (.ife (.or (.t (.op2 .eq (.e (.bf .len (.e (.attr (.var 0) 99)))) (.e (.con (.int 0))))) (.t (.isN true (.item (.e (.item (.e (.attr (.var 0) 99)) (.neg (.con (.int 1))))) (.con (.int 2)))))) (.cons (.ret (.con (.bl false))) .nil) .nil) (.cons (.set (.tp [1, 2, 3]) (.mt0 .pop (.attr (.var 0) 99))) (.cons (.ex (.mt .append (.attr (.var 0) 99) (.e (.tup (.cons (.var 1) (.cons (.var 2) (.cons (.bf .tuple (.e (.attr (.var 0) 130))) .nil))))))) (.cons (.atr (.var 0) 130 (.new (.lst .nil))) (.cons (.ret (.con (.bl true))) .nil)))))⟩
/-- PageReader_read_end: 0 self, 1 row, 2 head, 3 around, 4 first -/
def F_PageReader_read_end (ix : Lk) : Fn := ⟨1, 5, false, (.cons (.ife (.or (.t (.op2 .eq (.e (.bf .len (.e (.attr (.var 0) 99)))) (.e (.con (.int 0))))) (.t (.isN false (.item (.e (.item (.e (.attr (.var 0) 99)) (.neg (.con (.int 1))))) (.con (.int 2)))))) (.cons (.ret (.con (.bl false))) .nil) .nil) (.cons (.set (.tp [2, 3, 4]) (.mt0 .pop (.attr (.var 0) 99))) (.cons (.set (.nm 1) (.op2 .add (.e (.var 2)) (.e (.tup (.cons (.var 4) (.cons (.bf .tuple (.e (.attr (.var 0) 130))) .nil)))))) (.cons (.atr (.var 0) 130 (.op2 .add (.e (.var 3)) (.lst (.cons (.var 1) .nil)))) (.cons (.ret (.con (.bl true))) .nil)))))⟩
/-- PageReader_open_row: 0 self, 1 head -/
def F_PageReader_open_row (ix : Lk) : Fn := ⟨2, 2, false, (.cons (.ex (.mt .append (.attr (.var 0) 99) (.e (.tup (.cons (.var 1) (.cons (.attr (.var 0) 130) (.cons (.con .non) .nil))))))) (.cons (.atr (.var 0) 130 (.new (.lst .nil))) (.cons (.ret (.con (.bl true))) .nil)))⟩
/-- PageReader_read_row: 0 self, 1 words, 2 row -/
def F_PageReader_read_row (ix : Lk) : Fn := ⟨2, 3, false, (.cons (.ife (.t (.op2 .notin (.e (.attr (.var 0) 108)) (.e (.tup (.cons (.con (.str [101, 110, 116, 101, 114])) (.cons (.con (.str [108, 101, 97, 118, 101])) .nil)))))) (.cons (.ret (.con (.bl false))) .nil) .nil) (.cons (.ife (.t (.op2 .eq (.e (.var 1)) (.lst (.cons (.con (.str [101, 108, 115, 101])) .nil)))) (.cons (.ret (.meth (.var 0) 122 .nil)) .nil) .nil) (.cons (.ife (.t (.op2 .eq (.e (.var 1)) (.lst (.cons (.con (.str [101, 110, 100])) .nil)))) (.cons (.ret (.meth (.var 0) 123 .nil)) .nil) .nil) (.cons (.ife (.t (.op2 .eq (.e (.var 1)) (.lst (.cons (.con (.str [97, 115, 107])) .nil)))) (.cons (.ret (.meth (.var 0) 98 (.cons (.tup (.cons (.con (.str [97, 115, 107])) .nil)) .nil))) .nil) .nil) (.cons (.ife (.and (.t (.op2 .eq (.e (.bf .len (.e (.var 1)))) (.e (.con (.int 2))))) (.and (.t (.op2 .eq (.e (.item (.e (.var 1)) (.con (.int 0)))) (.e (.con (.str [105, 102]))))) (.t (.call ix.f_is_name (.cons (.item (.e (.var 1)) (.con (.int 1))) .nil))))) (.cons (.ret (.meth (.var 0) 98 (.cons (.tup (.cons (.con (.str [105, 102])) (.cons (.item (.e (.var 1)) (.con (.int 1))) .nil))) .nil))) .nil) .nil) (.cons (.set (.nm 2) (.call ix.f_plain_row (.cons (.var 1) .nil))) (.cons (.ife (.t (.isN true (.var 2))) (.cons (.ex (.mt .append (.attr (.var 0) 130) (.e (.var 2)))) .nil) .nil) (.cons (.ret (.isN true (.var 2))) .nil))))))))⟩
/-- PageReader_read: 0 self, 1 words -/
def F_PageReader_read (ix : Lk) : Fn := ⟨2, 2, false, (.cons (.ife (.t (.op2 .eq (.e (.item (.e (.var 1)) (.con (.int 0)))) (.e (.con (.str [112, 97, 103, 101]))))) (.cons (.ret (.meth (.var 0) 124 (.cons (.var 1) .nil))) .nil) .nil) (.cons (.ife (.or (.t (.op2 .eq (.e (.var 1)) (.lst (.cons (.con (.str [101, 110, 116, 101, 114])) .nil)))) (.t (.op2 .eq (.e (.var 1)) (.lst (.cons (.con (.str [108, 101, 97, 118, 101])) .nil))))) (.cons (.ret (.meth (.var 0) 125 (.cons (.item (.e (.var 1)) (.con (.int 0))) .nil))) .nil) .nil) (.cons (.ret (.meth (.var 0) 126 (.cons (.var 1) .nil))) .nil)))⟩
/-- plain_row: 0 words -/
def F_plain_row (ix : Lk) : Fn := ⟨1, 1, false, (.cons (.ife (.t (.op2 .eq (.e (.var 0)) (.lst (.cons (.con (.str [114, 101, 102, 117, 115, 101])) .nil)))) (.cons (.ret (.tup (.cons (.con (.str [114, 101, 102, 117, 115, 101])) .nil))) .nil) .nil) (.cons (.ife (.and (.t (.op2 .eq (.e (.bf .len (.e (.var 0)))) (.e (.con (.int 2))))) (.and (.t (.op2 .eq (.e (.item (.e (.var 0)) (.con (.int 0)))) (.e (.con (.str [108, 101, 97, 100]))))) (.t (.call ix.f_is_name (.cons (.item (.e (.var 0)) (.con (.int 1))) .nil))))) (.cons (.ret (.tup (.cons (.con (.str [108, 101, 97, 100])) (.cons (.item (.e (.var 0)) (.con (.int 1))) .nil)))) .nil) .nil) (.cons .no (.cons (.ret (.con .non)) .nil))))⟩
/-- head_fits: 0 index, 1 words -/
def F_head_fits (ix : Lk) : Fn := ⟨2, 2, false, (.cons (.ife (.t (.op2 .eq (.e (.var 0)) (.e (.con (.int 0))))) (.cons .no .nil) .nil) (.cons (.ife (.t (.op2 .eq (.e (.var 0)) (.e (.con (.int 1))))) (.cons (.ret (.and (.op2 .eq (.e (.bf .len (.e (.var 1)))) (.e (.con (.int 2)))) (.and (.op2 .eq (.e (.item (.e (.var 1)) (.con (.int 0)))) (.e (.con (.str [115, 116, 97, 114, 116])))) (.call ix.f_is_name (.cons (.item (.e (.var 1)) (.con (.int 1))) .nil))))) .nil) .nil) (.cons .no .nil)))⟩
/-- split_lines: 0 text, 1 line -/
def F_split_lines (ix : Lk) : Fn := ⟨1, 2, false, (.cons .no .nil)⟩
/-- parse_site: 0 text, 1 rows, 2 reader, 3 index, 4 words, 5 fits -/
def F_parse_site (ix : Lk) : Fn := ⟨1, 6, false, (.cons (.ife (.or (.t (.op2 .eq (.e (.var 0)) (.e (.con (.str []))))) (.t (.op2 .ne (.e (.item (.e (.var 0)) (.neg (.con (.int 1))))) (.e (.con (.str [10])))))) (.cons .no .nil) .nil) (.cons (.set (.nm 1) (.call ix.f_split_lines (.cons (.var 0) .nil))) (.cons .no (.cons (.for (.tp [3, 4]) (.enum (.e (.var 1))) (.cons (.set (.nm 5) (.ite (.t (.op2 .lt (.e (.var 3)) (.e (.con (.int 3))))) (.call ix.f_head_fits (.cons (.var 3) (.cons (.var 4) .nil))) (.meth (.var 2) 121 (.cons (.var 4) .nil)))) (.cons (.ife (.or (.not (.t (.var 5))) (.and (.t (.op2 .eq (.e (.var 3)) (.e (.con (.int 3))))) (.t (.op2 .ne (.e (.item (.e (.var 4)) (.con (.int 0)))) (.e (.con (.str [112, 97, 103, 101]))))))) (.cons .no .nil) .nil) .nil))) (.cons (.ife (.or (.t (.op2 .lt (.e (.bf .len (.e (.var 1)))) (.e (.con (.int 3))))) (.not (.t (.meth (.var 2) 66 .nil)))) (.cons .no .nil) .nil) (.cons (.ex (.meth (.var 2) 34 .nil)) (.cons .no .nil)))))))⟩
/-- _law_lines: 0 _law_rows_here, 1 _law_lines_here, 2 _law_row_here, 3 _law_head -/
def F__law_lines (ix : Lk) : Fn := ⟨1, 4, false, (.cons (.set (.nm 1) (.new (.lst .nil))) (.cons (.for (.nm 2) (.a (.e (.var 0))) (.cons (.ife (.t (.op2 .eq (.e (.item (.e (.var 2)) (.con (.int 0)))) (.e (.con (.str [114, 101, 102, 117, 115, 101]))))) (.cons (.ex (.mt .append (.var 1) (.e (.con (.str [114, 101, 102, 117, 115, 101]))))) .nil) (.cons (.ife (.t (.op2 .eq (.e (.item (.e (.var 2)) (.con (.int 0)))) (.e (.con (.str [108, 101, 97, 100]))))) (.cons (.ex (.mt .append (.var 1) (.e (.op2 .add (.e (.con (.str [108, 101, 97, 100, 32]))) (.e (.item (.e (.var 2)) (.con (.int 1)))))))) .nil) (.cons (.ife (.t (.op2 .eq (.e (.item (.e (.var 2)) (.con (.int 0)))) (.e (.con (.str [115, 101, 116]))))) (.cons (.ex (.mt .append (.var 1) (.e (.op2 .add (.e (.op2 .add (.e (.con (.str [115, 101, 116, 32]))) (.e (.item (.e (.var 2)) (.con (.int 1)))))) (.e (.item (.lst (.cons (.con (.str [32, 111, 102, 102])) (.cons (.con (.str [32, 111, 110])) .nil))) (.bf .int (.e (.item (.e (.var 2)) (.con (.int 2))))))))))) .nil) (.cons (.set (.nm 3) (.con (.str [97, 115, 107]))) (.cons (.ife (.t (.op2 .eq (.e (.item (.e (.var 2)) (.con (.int 0)))) (.e (.con (.str [105, 102]))))) (.cons (.set (.nm 3) (.op2 .add (.e (.con (.str [105, 102, 32]))) (.e (.item (.e (.var 2)) (.con (.int 1)))))) .nil) .nil) (.cons (.ex (.mt .append (.var 1) (.e (.var 3)))) (.cons (.ex (.mt .extend (.var 1) (.e (.call ix.f__law_lines (.cons (.item (.e (.var 2)) (.op2 .sub (.e (.bf .len (.e (.var 2)))) (.e (.con (.int 2))))) .nil))))) (.cons (.ex (.mt .append (.var 1) (.e (.con (.str [101, 108, 115, 101]))))) (.cons (.ex (.mt .extend (.var 1) (.e (.call ix.f__law_lines (.cons (.item (.e (.var 2)) (.op2 .sub (.e (.bf .len (.e (.var 2)))) (.e (.con (.int 1))))) .nil))))) (.cons (.ex (.mt .append (.var 1) (.e (.con (.str [101, 110, 100]))))) .nil)))))))) .nil)) .nil)) .nil)) (.cons (.ret (.var 1)) .nil)))⟩
/-- _law_text: 0 _law_parts_here, 1 _law_lines_here, 2 _law_name, 3 _law_page, 4 _law_line, 5 _law_bit -/
def F__law_text (ix : Lk) : Fn := ⟨1, 6, false, (.cons .no (.cons (.for (.tp [2, 3]) (.a (.e (.item (.e (.var 0)) (.con (.int 1))))) (.cons (.ex (.mt .append (.var 1) (.e (.op2 .add (.e (.op2 .add (.e (.con (.str [112, 97, 103, 101, 32]))) (.e (.var 2)))) (.e (.item (.lst (.cons (.con (.str [])) (.cons (.con (.str [32, 108, 111, 97, 100, 115])) .nil))) (.bf .int (.e (.item (.e (.var 3)) (.con (.int 2))))))))))) (.cons (.ex (.mt .append (.var 1) (.e (.con (.str [101, 110, 116, 101, 114]))))) (.cons (.ex (.mt .extend (.var 1) (.e (.call ix.f__law_lines (.cons (.item (.e (.var 3)) (.con (.int 0))) .nil))))) (.cons (.ex (.mt .append (.var 1) (.e (.con (.str [108, 101, 97, 118, 101]))))) (.cons (.ex (.mt .extend (.var 1) (.e (.call ix.f__law_lines (.cons (.item (.e (.var 3)) (.con (.int 1))) .nil))))) .nil)))))) (.cons .no .nil)))⟩
/-- flag_word: 0 flag -/
def F_flag_word (ix : Lk) : Fn := ⟨1, 1, false, (.cons (.ife (.t (.var 0)) (.cons (.ret (.con (.str [121, 101, 115]))) .nil) .nil) (.cons (.ret (.con (.str [110, 111]))) .nil))⟩
/-- deed_line: 0 deed -/
def F_deed_line (ix : Lk) : Fn := ⟨1, 1, false, (.cons (.ife (.t (.op2 .eq (.e (.item (.e (.var 0)) (.con (.int 0)))) (.e (.con (.str [108, 97, 116, 101]))))) (.cons (.ret (.op2 .add (.e (.op2 .add (.e (.op2 .add (.e (.con (.str [108, 97, 116, 101, 32]))) (.e (.bf .str (.e (.item (.e (.var 0)) (.con (.int 1)))))))) (.e (.con (.str [32]))))) (.e (.call ix.f_flag_word (.cons (.item (.e (.var 0)) (.con (.int 2))) .nil))))) .nil) .nil) (.cons (.ife (.or (.t (.op2 .eq (.e (.item (.e (.var 0)) (.con (.int 0)))) (.e (.con (.str [97, 110, 115, 119, 101, 114]))))) (.t (.op2 .eq (.e (.item (.e (.var 0)) (.con (.int 0)))) (.e (.con (.str [108, 111, 97, 100])))))) (.cons (.ret (.op2 .add (.e (.op2 .add (.e (.item (.e (.var 0)) (.con (.int 0)))) (.e (.con (.str [32]))))) (.e (.call ix.f_flag_word (.cons (.item (.e (.var 0)) (.con (.int 1))) .nil))))) .nil) .nil) (.cons .no .nil)))⟩
/-- format_deeds: 0 deeds, 1 deed -/
def F_format_deeds (ix : Lk) : Fn := ⟨1, 2, false, (.cons (.ret (.call ix.f_joined (.cons (.new (.lc (.a (.e (.var 0))) (.nm 1) .no (.call ix.f_deed_line (.cons (.var 1) .nil)))) .nil))) .nil)⟩
/-- read_deed: 0 words, 1 word, 2 rest -/
def F_read_deed (ix : Lk) : Fn := ⟨1, 3, false, (.cons (.set (.nm 1) (.item (.e (.var 0)) (.con (.int 0)))) (.cons (.set (.nm 2) (.slc (.e (.var 0)) (.yes (.con (.int 1))) .no)) (.cons (.ife (.and (.t (.op2 .isin (.e (.var 1)) (.e (.tup (.cons (.con (.str [98, 97, 99, 107])) (.cons (.con (.str [102, 111, 114, 119, 97, 114, 100])) .nil)))))) (.t (.op2 .eq (.e (.bf .len (.e (.var 2)))) (.e (.con (.int 0)))))) (.cons (.ret (.tup (.cons (.var 1) .nil))) .nil) .nil) (.cons (.ife (.and (.t (.op2 .isin (.e (.var 1)) (.e (.tup (.cons (.con (.str [99, 108, 105, 99, 107])) (.cons (.con (.str [102, 108, 105, 112])) .nil)))))) (.and (.t (.op2 .eq (.e (.bf .len (.e (.var 2)))) (.e (.con (.int 1))))) (.t (.call ix.f_is_name (.cons (.item (.e (.var 2)) (.con (.int 0))) .nil))))) (.cons (.ret (.tup (.cons (.var 1) (.cons (.item (.e (.var 2)) (.con (.int 0))) .nil)))) .nil) .nil) (.cons .no (.cons .no (.cons (.ret (.con .non)) .nil)))))))⟩
/-- parse_deeds: 0 text, 1 found, 2 index, 3 words, 4 deed -/
def F_parse_deeds (ix : Lk) : Fn := ⟨1, 5, false, (.cons (.ife (.and (.t (.op2 .ne (.e (.var 0)) (.e (.con (.str []))))) (.t (.op2 .ne (.e (.item (.e (.var 0)) (.neg (.con (.int 1))))) (.e (.con (.str [10])))))) (.cons .no .nil) .nil) (.cons (.set (.nm 1) (.new (.lst .nil))) (.cons (.for (.tp [2, 3]) (.enum (.e (.call ix.f_split_lines (.cons (.var 0) .nil)))) (.cons (.set (.nm 4) (.call ix.f_read_deed (.cons (.var 3) .nil))) (.cons (.ife (.t (.isN false (.var 4))) (.cons .no .nil) .nil) (.cons (.ex (.mt .append (.var 1) (.e (.var 4)))) .nil)))) (.cons (.ret (.var 1)) .nil))))⟩
/-- check_bound: 0 value, 1 most -/
def F_check_bound (ix : Lk) : Fn := ⟨2, 2, false, (.cons (.ife (.or (.t (.isi (.var 0) .bool)) (.not (.t (.isi (.var 0) .int)))) (.cons .no .nil) .nil) (.cons (.ife (.or (.t (.op2 .lt (.e (.var 0)) (.e (.con (.int 1))))) (.t (.op2 .gt (.e (.var 0)) (.e (.var 1))))) (.cons .no .nil) .nil) .nil))⟩
/-- outcome: 0 site, 1 rule, 2 standing, 3 deed, 4 e, 5 made -/
def F_outcome (ix : Lk) : Fn := ⟨4, 6, false, (.cons .no (.cons (.ret (.tup (.cons (.var 5) (.cons (.call ix.f_faults (.cons (.var 0) (.cons (.var 1) (.cons (.var 5) .nil)))) .nil)))) .nil))⟩
/-- run_to: 0 origins, 1 index, 2 reversed_deeds -/
def F_run_to (ix : Lk) : Fn := ⟨2, 3, false, (.cons (.set (.nm 2) (.new (.lst .nil))) (.cons (.whl (.t (.op2 .ge (.e (.item (.e (.item (.e (.var 0)) (.var 1))) (.con (.int 0)))) (.e (.con (.int 0))))) (.cons (.ex (.mt .append (.var 2) (.e (.item (.e (.item (.e (.var 0)) (.var 1))) (.con (.int 1)))))) (.cons (.set (.nm 1) (.item (.e (.item (.e (.var 0)) (.var 1))) (.con (.int 0)))) .nil))) (.cons .no .nil)))⟩
/-- Book___init__: 0 self, 1 site, 2 rule, 3 flips, 4 limit, 5 flags, 6 index -/
def F_Book___init__ (ix : Lk) : Fn := ⟨5, 7, true, (.cons (.ex (.call ix.f_check_bound (.cons (.var 4) (.cons (.con (.int 10000)) .nil)))) (.cons (.atr (.var 0) 139 (.var 1)) (.cons (.atr (.var 0) 131 (.var 2)) (.cons (.atr (.var 0) 55 (.var 3)) (.cons (.atr (.var 0) 83 (.var 4)) (.cons (.atr (.var 0) 37 (.callS ix.f_deeds (.cons (.var 1) (.cons (.var 3) .nil)) [.inl 0, .inl 1])) (.cons (.atr (.var 0) 130 (.new (.lst .nil))) (.cons .no (.cons (.atr (.var 0) 100 (.new (.lst .nil))) (.cons (.atr (.var 0) 148 (.new (.lst .nil))) (.cons .no (.cons (.for (.nm 5) (.a (.e (.call ix.f_all_flags (.cons (.var 1) .nil)))) (.cons (.ex (.meth (.var 0) 96 (.cons (.attr (.call ix.f_begin (.cons (.var 1) (.cons (.var 2) (.cons (.var 5) .nil)))) 17) (.cons (.tup (.cons (.neg (.con (.int 1))) (.cons (.var 5) .nil))) .nil)))) .nil)) (.cons (.set (.nm 6) (.con (.int 0))) (.cons (.whl (.t (.op2 .lt (.e (.var 6)) (.e (.bf .len (.e (.attr (.var 0) 130)))))) (.cons (.ex (.mt .append (.attr (.var 0) 148) (.e (.meth (.var 0) 88 (.cons (.var 6) .nil))))) (.cons (.aug 6 .add (.con (.int 1))) .nil))) .nil))))))))))))))⟩
/-- Book_note: 0 self, 1 standing, 2 origin -/
def F_Book_note (ix : Lk) : Fn := ⟨3, 3, false, (.cons (.ife (.t (.op2 .notin (.e (.var 1)) (.e (.attr (.var 0) 115)))) (.cons (.ife (.t (.op2 .eq (.e (.bf .len (.e (.attr (.var 0) 130)))) (.e (.attr (.var 0) 83)))) (.cons .no .nil) .nil) (.cons (.itm (.attr (.var 0) 115) (.var 1) (.bf .len (.e (.attr (.var 0) 130)))) (.cons (.ex (.mt .append (.attr (.var 0) 130) (.e (.var 1)))) (.cons (.ex (.mt .append (.attr (.var 0) 100) (.e (.var 2)))) .nil)))) .nil) (.cons (.ret (.item (.e (.attr (.var 0) 115)) (.var 1))) .nil))⟩
/-- Book_look_from: 0 self, 1 index, 2 found, 3 deed, 4 pair, 5 made, 6 pairs -/
def F_Book_look_from (ix : Lk) : Fn := ⟨2, 7, false, (.cons (.set (.nm 2) (.new (.lst .nil))) (.cons (.for (.nm 3) (.a (.e (.attr (.var 0) 37))) (.cons (.set (.tp [5, 6]) (.call ix.f_outcome (.cons (.attr (.var 0) 139) (.cons (.attr (.var 0) 131) (.cons (.item (.e (.attr (.var 0) 130)) (.var 1)) (.cons (.var 3) .nil)))))) (.cons (.for (.nm 4) (.a (.e (.var 6))) (.cons (.ife (.t (.op2 .notin (.e (.var 4)) (.e (.attr (.var 0) 51)))) (.cons (.itm (.attr (.var 0) 51) (.var 4) (.tup (.cons (.var 1) (.cons (.var 3) .nil)))) .nil) .nil) .nil)) (.cons (.ife (.t (.isN false (.var 5))) (.cons (.ex (.mt .append (.var 2) (.e (.con .non)))) .nil) (.cons (.ex (.mt .append (.var 2) (.e (.meth (.var 0) 96 (.cons (.attr (.var 5) 17) (.cons (.tup (.cons (.var 1) (.cons (.var 3) .nil))) .nil)))))) .nil)) .nil)))) (.cons (.ret (.var 2)) .nil)))⟩
/-- Book_place_of: 0 self, 1 standing -/
def F_Book_place_of (ix : Lk) : Fn := ⟨2, 2, false, (.cons (.ife (.t (.op2 .notin (.e (.var 1)) (.e (.var 0)))) (.cons .no .nil) .nil) (.cons (.ret (.item (.e (.attr (.var 0) 115)) (.var 1))) .nil))⟩
/-- Book___len__: 0 self -/
def F_Book___len__ (ix : Lk) : Fn := ⟨1, 1, false, (.cons (.ret (.bf .len (.e (.attr (.var 0) 130)))) .nil)⟩
/-- Book___contains__: 0 self, 1 value -/
def F_Book___contains__ (ix : Lk) : Fn := ⟨2, 2, false, (.cons (.ret (.and (.call ix.f_is_standing (.cons (.attr (.var 0) 139) (.cons (.attr (.var 0) 131) (.cons (.var 1) .nil)))) (.op2 .isin (.e (.var 1)) (.e (.attr (.var 0) 115))))) .nil)⟩
/-- Book_moves: 0 self -/
def F_Book_moves (ix : Lk) : Fn := ⟨1, 1, false, (.cons (.ret (.bf .list (.e (.attr (.var 0) 37)))) .nil)⟩
/-- Book_standings: 0 self -/
def F_Book_standings (ix : Lk) : Fn := ⟨1, 1, false, (.cons (.ret (.bf .list (.e (.attr (.var 0) 130)))) .nil)⟩
/-- Book_least_run: 0 self, 1 standing -/
def F_Book_least_run (ix : Lk) : Fn := ⟨2, 2, false, (.cons (.ret (.call ix.f_run_to (.cons (.attr (.var 0) 100) (.cons (.meth (.var 0) 114 (.cons (.var 1) .nil)) .nil)))) .nil)⟩
/-- Book_follow: 0 self, 1 standing, 2 deed, 3 index, 4 target -/
def F_Book_follow (ix : Lk) : Fn := ⟨3, 5, false, (.cons (.set (.nm 3) (.meth (.var 0) 114 (.cons (.var 1) .nil))) (.cons (.ife (.or (.not (.t (.call ix.f_is_deed (.cons (.attr (.var 0) 139) (.cons (.var 2) .nil))))) (.t (.op2 .notin (.e (.var 2)) (.e (.attr (.var 0) 37))))) (.cons .no .nil) .nil) (.cons (.set (.nm 4) (.item (.e (.item (.e (.attr (.var 0) 148)) (.var 3))) (.mt .index (.attr (.var 0) 37) (.e (.var 2))))) (.cons (.ife (.t (.isN false (.var 4))) (.cons (.ret (.con .non)) .nil) .nil) (.cons (.ret (.item (.e (.attr (.var 0) 130)) (.var 4))) .nil)))))⟩
/-- Book_faults: 0 self, 1 pairs, 2 kind, 3 page, 4 pair -/
def F_Book_faults (ix : Lk) : Fn := ⟨1, 5, false, (.cons (.set (.nm 1) (.new (.lc2 (.a (.e (.glo ix.g_KINDS))) (.nm 2) .no (.a (.e (.meth (.attr (.var 0) 139) 103 .nil))) (.nm 3) .no (.tup (.cons (.var 2) (.cons (.var 3) .nil)))))) (.cons (.ret (.new (.lc (.a (.e (.var 1))) (.nm 4) (.yes (.t (.op2 .isin (.e (.var 4)) (.e (.attr (.var 0) 51))))) (.var 4)))) .nil))⟩
/-- _law_cell: 0 _law_script, 1 _law_k -/
def F__law_cell (ix : Lk) : Fn := ⟨2, 2, false, (.cons (.ife (.t (.op2 .lt (.e (.var 1)) (.e (.bf .len (.e (.var 0)))))) (.cons (.ret (.item (.e (.var 0)) (.var 1))) .nil) .nil) (.cons (.ret (.con (.int 0))) .nil))⟩
/-- _law_draws: 0 _law_script, 1 _law_k, 2 _law_many, 3 _law_cell_here, 4 _law_found, 5 _law_at, 6 _law_rest, 7 _law_one -/
def F__law_draws (ix : Lk) : Fn := ⟨3, 8, false, (.cons (.set (.nm 3) (.call ix.f__law_cell (.cons (.var 0) (.cons (.var 1) .nil)))) (.cons (.set (.nm 4) (.new (.lst .nil))) (.cons (.ife (.t (.op2 .ge (.e (.var 3)) (.e (.op2 .pow (.e (.con (.int 10))) (.e (.con (.int 18))))))) (.cons (.set (.nm 6) (.op2 .sub (.e (.var 3)) (.e (.op2 .pow (.e (.con (.int 10))) (.e (.con (.int 18))))))) (.cons (.for (.nm 5) (.rng (.con (.int 0)) (.var 2)) (.cons (.ex (.mt .append (.var 4) (.e (.op2 .mod (.e (.bf .int (.e (.var 6)))) (.e (.con (.int 60))))))) (.cons (.set (.nm 6) (.op2 .fdiv (.e (.var 6)) (.e (.con (.int 60))))) .nil))) (.cons (.ret (.var 4)) .nil))) .nil) (.cons (.for (.nm 5) (.rng (.con (.int 0)) (.var 2)) (.cons (.set (.nm 7) (.op2 .mod (.e (.bf .int (.e (.op2 .mul (.e (.op2 .add (.e (.op2 .add (.e (.op2 .mod (.e (.bf .int (.e (.var 3)))) (.e (.op2 .pow (.e (.con (.int 10))) (.e (.con (.int 18))))))) (.e (.op2 .mul (.e (.con (.int 7919))) (.e (.op2 .add (.e (.var 5)) (.e (.con (.int 1))))))))) (.e (.op2 .mul (.e (.con (.int 104729))) (.e (.var 1)))))) (.e (.con (.int 48271))))))) (.e (.con (.int 2147483647))))) (.cons (.set (.nm 7) (.op2 .mod (.e (.bf .int (.e (.op2 .mul (.e (.var 7)) (.e (.op2 .add (.e (.op2 .fdiv (.e (.var 7)) (.e (.con (.int 1009))))) (.e (.con (.int 69621))))))))) (.e (.con (.int 2147483647))))) (.cons (.set (.nm 7) (.op2 .mod (.e (.bf .int (.e (.op2 .mul (.e (.var 7)) (.e (.op2 .add (.e (.op2 .fdiv (.e (.var 7)) (.e (.con (.int 2003))))) (.e (.con (.int 40692))))))))) (.e (.con (.int 2147483399))))) (.cons (.ex (.mt .append (.var 4) (.e (.op2 .mod (.e (.bf .int (.e (.op2 .fdiv (.e (.var 7)) (.e (.con (.int 16))))))) (.e (.con (.int 60))))))) .nil))))) (.cons (.ret (.var 4)) .nil)))))⟩
/-- _law_leaf: 0 _law_one, 1 _law_side, 2 _law_names, 3 _law_bits -/
def F__law_leaf (ix : Lk) : Fn := ⟨4, 4, false, (.cons (.ife (.and (.t (.op2 .eq (.e (.var 1)) (.e (.con (.str [101, 110, 116, 101, 114]))))) (.t (.op2 .eq (.e (.op2 .mod (.e (.bf .int (.e (.var 0)))) (.e (.con (.int 3))))) (.e (.con (.int 0)))))) (.cons (.ret (.tup (.cons (.con (.str [108, 101, 97, 100])) (.cons (.item (.e (.var 2)) (.op2 .mod (.e (.bf .int (.e (.op2 .fdiv (.e (.var 0)) (.e (.con (.int 3))))))) (.e (.bf .len (.e (.var 2)))))) .nil)))) .nil) .nil) (.cons (.ife (.and (.t (.op2 .eq (.e (.op2 .mod (.e (.bf .int (.e (.var 0)))) (.e (.con (.int 3))))) (.e (.con (.int 1))))) (.t (.op2 .gt (.e (.bf .len (.e (.var 3)))) (.e (.con (.int 0)))))) (.cons (.ret (.tup (.cons (.con (.str [115, 101, 116])) (.cons (.item (.e (.var 3)) (.op2 .mod (.e (.bf .int (.e (.op2 .fdiv (.e (.var 0)) (.e (.con (.int 3))))))) (.e (.bf .len (.e (.var 3)))))) (.cons (.op2 .eq (.e (.op2 .mod (.e (.bf .int (.e (.op2 .fdiv (.e (.var 0)) (.e (.con (.int 6))))))) (.e (.con (.int 2))))) (.e (.con (.int 0)))) .nil))))) .nil) .nil) (.cons (.ret (.tup (.cons (.con (.str [114, 101, 102, 117, 115, 101])) .nil))) .nil)))⟩
/-- _law_page_names: 0 _law_draws_here, 1 _law_letters, 2 _law_one, 3 _law_two, 4 _law_rest, 5 _law_base, 6 _law_names, 7 _law_k, 8 _law_size, 9 _law_at, 10 _law_sign -/
def F__law_page_names (ix : Lk) : Fn := ⟨1, 11, false, (.cons (.set (.nm 1) (.con (.str [97, 98, 99, 100, 101, 102, 103, 104, 105, 106, 107, 108, 109, 110, 111, 112, 113, 114, 115, 116, 117, 118, 119, 120, 121, 122]))) (.cons (.set (.nm 2) (.item (.e (.var 1)) (.op2 .mod (.e (.bf .int (.e (.item (.e (.var 0)) (.con (.int 34)))))) (.e (.con (.int 26)))))) (.cons (.set (.nm 3) (.item (.e (.var 1)) (.op2 .mod (.e (.bf .int (.e (.op2 .add (.e (.op2 .add (.e (.item (.e (.var 0)) (.con (.int 34)))) (.e (.con (.int 1))))) (.e (.op2 .mod (.e (.bf .int (.e (.item (.e (.var 0)) (.con (.int 35)))))) (.e (.con (.int 25))))))))) (.e (.con (.int 26)))))) (.cons (.set (.nm 4) (.new (.lc (.a (.e (.var 1))) (.nm 10) (.yes (.t (.op2 .notin (.e (.var 10)) (.e (.tup (.cons (.var 2) (.cons (.var 3) .nil))))))) (.var 10)))) (.cons .no (.cons (.set (.nm 6) (.new (.lst .nil))) (.cons (.for (.nm 7) (.rng (.con (.int 0)) (.con (.int 3))) (.cons (.set (.nm 8) (.op2 .mod (.e (.bf .int (.e (.item (.e (.var 0)) (.con (.int 42)))))) (.e (.con (.int 5))))) (.cons (.ife (.t (.op2 .eq (.e (.op2 .mod (.e (.bf .int (.e (.item (.e (.var 0)) (.con (.int 41)))))) (.e (.con (.int 2))))) (.e (.con (.int 1))))) (.cons (.set (.nm 8) (.op2 .mod (.e (.bf .int (.e (.item (.e (.var 0)) (.op2 .add (.e (.con (.int 42))) (.e (.var 7))))))) (.e (.con (.int 5))))) .nil) .nil) (.cons (.set (.nm 9) (.op2 .mod (.e (.bf .int (.e (.item (.e (.var 0)) (.con (.int 45)))))) (.e (.op2 .add (.e (.var 8)) (.e (.con (.int 1))))))) (.cons (.ex (.mt .append (.var 6) (.e (.op2 .add (.e (.op2 .add (.e (.slc (.e (.var 5)) .no (.yes (.var 9)))) (.e (.item (.lst (.cons (.var 2) (.cons (.var 3) (.cons (.item (.e (.var 4)) (.op2 .mod (.e (.bf .int (.e (.item (.e (.var 0)) (.con (.int 36)))))) (.e (.con (.int 24))))) .nil)))) (.var 7))))) (.e (.slc (.e (.var 5)) (.yes (.var 9)) (.yes (.var 8)))))))) .nil))))) (.cons (.ret (.bf .tuple (.e (.var 6)))) .nil))))))))⟩
/-- _law_page_names_v2: 0 _law_draws_here, 1 _law_letters, 2 _law_one, 3 _law_two_here, 4 _law_rest, 5 _law_base, 6 _law_names, 7 _law_k, 8 _law_size, 9 _law_at, 10 _law_sign -/
def F__law_page_names_v2 (ix : Lk) : Fn := ⟨1, 11, false, (.cons (.set (.nm 1) (.con (.str [97, 98, 99, 100, 101, 102, 103, 104, 105, 106, 107, 108, 109, 110, 111, 112, 113, 114, 115, 116, 117, 118, 119, 120, 121, 122]))) (.cons (.set (.nm 2) (.item (.e (.var 1)) (.op2 .mod (.e (.bf .int (.e (.item (.e (.var 0)) (.con (.int 34)))))) (.e (.con (.int 26)))))) (.cons (.set (.nm 3) (.item (.e (.var 1)) (.op2 .mod (.e (.bf .int (.e (.op2 .add (.e (.op2 .add (.e (.item (.e (.var 0)) (.con (.int 34)))) (.e (.con (.int 1))))) (.e (.op2 .mod (.e (.bf .int (.e (.item (.e (.var 0)) (.con (.int 35)))))) (.e (.con (.int 25))))))))) (.e (.con (.int 26)))))) (.cons (.set (.nm 4) (.new (.lc (.a (.e (.var 1))) (.nm 10) (.yes (.t (.op2 .notin (.e (.var 10)) (.e (.tup (.cons (.var 2) (.cons (.var 3) .nil))))))) (.var 10)))) (.cons .no (.cons (.set (.nm 6) (.new (.lst .nil))) (.cons (.for (.nm 7) (.rng (.con (.int 0)) (.con (.int 3))) (.cons (.set (.nm 8) (.op2 .mod (.e (.bf .int (.e (.item (.e (.var 0)) (.con (.int 42)))))) (.e (.con (.int 5))))) (.cons (.ife (.t (.op2 .eq (.e (.op2 .mod (.e (.bf .int (.e (.item (.e (.var 0)) (.con (.int 41)))))) (.e (.con (.int 2))))) (.e (.con (.int 1))))) (.cons (.set (.nm 8) (.op2 .mod (.e (.bf .int (.e (.item (.e (.var 0)) (.op2 .add (.e (.con (.int 42))) (.e (.var 7))))))) (.e (.con (.int 5))))) .nil) .nil) (.cons (.set (.nm 9) (.op2 .mod (.e (.bf .int (.e (.item (.e (.var 0)) (.con (.int 45)))))) (.e (.op2 .add (.e (.var 8)) (.e (.con (.int 1))))))) (.cons (.ex (.mt .append (.var 6) (.e (.op2 .add (.e (.op2 .add (.e (.slc (.e (.var 5)) .no (.yes (.var 9)))) (.e (.item (.lst (.cons (.var 2) (.cons (.var 3) (.cons (.item (.e (.var 4)) (.op2 .mod (.e (.bf .int (.e (.item (.e (.var 0)) (.con (.int 36)))))) (.e (.con (.int 24))))) .nil)))) (.var 7))))) (.e (.slc (.e (.var 5)) (.yes (.var 9)) (.yes (.var 8)))))))) .nil))))) (.cons (.ret (.bf .tuple (.e (.var 6)))) .nil))))))))⟩
/-- _law_site_bits: 0 _law_draws_here, 1 _law_names, 2 _law_one, 3 _law_two -/
def F__law_site_bits (ix : Lk) : Fn := ⟨2, 4, false, (.cons (.set (.nm 2) (.op2 .add (.e (.item (.e (.con (.str [97, 98, 99, 100, 101, 102, 103, 104, 105, 106, 107, 108, 109, 110, 111, 112, 113, 114, 115, 116, 117, 118, 119, 120, 121, 122]))) (.op2 .mod (.e (.bf .int (.e (.item (.e (.var 0)) (.con (.int 46)))))) (.e (.con (.int 26)))))) (.e (.slc (.e (.item (.e (.var 1)) (.con (.int 0)))) (.yes (.con (.int 1))) .no)))) (.cons (.ife (.t (.op2 .eq (.e (.op2 .mod (.e (.bf .int (.e (.item (.e (.var 0)) (.con (.int 47)))))) (.e (.con (.int 4))))) (.e (.con (.int 0))))) (.cons (.set (.nm 2) (.item (.e (.var 1)) (.neg (.con (.int 1))))) .nil) .nil) (.cons (.set (.nm 3) (.op2 .add (.e (.var 2)) (.e (.item (.e (.con (.str [97, 98, 99, 100, 101, 102, 103, 104, 105, 106, 107, 108, 109, 110, 111, 112, 113, 114, 115, 116, 117, 118, 119, 120, 121, 122]))) (.op2 .mod (.e (.bf .int (.e (.item (.e (.var 0)) (.con (.int 47)))))) (.e (.con (.int 26)))))))) (.cons (.ret (.slc (.e (.tup (.cons (.var 2) (.cons (.var 3) .nil)))) .no (.yes (.item (.lst (.cons (.con (.int 0)) (.cons (.con (.int 0)) (.cons (.con (.int 0)) (.cons (.con (.int 1)) (.cons (.con (.int 1)) (.cons (.con (.int 2)) .nil))))))) (.op2 .mod (.e (.bf .int (.e (.item (.e (.var 0)) (.con (.int 2)))))) (.e (.con (.int 6)))))))) .nil))))⟩
/-- _law_site_bits_v2: 0 _law_draws_here, 1 _law_names, 2 _law_one, 3 _law_two_here -/
def F__law_site_bits_v2 (ix : Lk) : Fn := ⟨2, 4, false, (.cons (.set (.nm 2) (.op2 .add (.e (.item (.e (.con (.str [97, 98, 99, 100, 101, 102, 103, 104, 105, 106, 107, 108, 109, 110, 111, 112, 113, 114, 115, 116, 117, 118, 119, 120, 121, 122]))) (.op2 .mod (.e (.bf .int (.e (.item (.e (.var 0)) (.con (.int 46)))))) (.e (.con (.int 26)))))) (.e (.slc (.e (.item (.e (.var 1)) (.con (.int 0)))) (.yes (.con (.int 1))) .no)))) (.cons (.ife (.t (.op2 .eq (.e (.op2 .mod (.e (.bf .int (.e (.item (.e (.var 0)) (.con (.int 47)))))) (.e (.con (.int 4))))) (.e (.con (.int 0))))) (.cons (.set (.nm 2) (.item (.e (.var 1)) (.neg (.con (.int 1))))) .nil) .nil) (.cons (.set (.nm 3) (.op2 .add (.e (.var 2)) (.e (.item (.e (.con (.str [97, 98, 99, 100, 101, 102, 103, 104, 105, 106, 107, 108, 109, 110, 111, 112, 113, 114, 115, 116, 117, 118, 119, 120, 121, 122]))) (.op2 .mod (.e (.bf .int (.e (.item (.e (.var 0)) (.con (.int 47)))))) (.e (.con (.int 26)))))))) (.cons (.ret (.slc (.e (.tup (.cons (.var 2) (.cons (.var 3) .nil)))) .no (.yes (.item (.lst (.cons (.con (.int 0)) (.cons (.con (.int 0)) (.cons (.con (.int 0)) (.cons (.con (.int 1)) (.cons (.con (.int 1)) (.cons (.con (.int 2)) .nil))))))) (.op2 .mod (.e (.bf .int (.e (.item (.e (.var 0)) (.con (.int 2)))))) (.e (.con (.int 6)))))))) .nil))))⟩
/-- _law_site: 0 _law_draws_here, 1 _law_names, 2 _law_bits, 3 _law_pages, 4 _law_k, 5 _law_start, 6 _law_enter, 7 _law_leave -/
def F__law_site (ix : Lk) : Fn := ⟨1, 8, false, (.cons (.set (.nm 1) (.slc (.e (.call ix.f__law_page_names (.cons (.var 0) .nil))) .no (.yes (.item (.lst (.cons (.con (.int 2)) (.cons (.con (.int 2)) (.cons (.con (.int 2)) (.cons (.con (.int 2)) (.cons (.con (.int 3)) .nil)))))) (.op2 .mod (.e (.bf .int (.e (.item (.e (.var 0)) (.con (.int 1)))))) (.e (.con (.int 5)))))))) (.cons (.set (.nm 2) (.call ix.f__law_site_bits (.cons (.var 0) (.cons (.var 1) .nil)))) (.cons (.set (.nm 3) (.new (.lst .nil))) (.cons (.for (.nm 4) (.rng (.con (.int 0)) (.bf .len (.e (.var 1)))) (.cons (.set (.nm 6) (.call ix.f__law_guard (.cons (.var 0) (.cons (.op2 .add (.e (.con (.int 5))) (.e (.op2 .mul (.e (.con (.int 7))) (.e (.var 4))))) (.cons (.con (.str [101, 110, 116, 101, 114])) (.cons (.var 1) (.cons (.var 2) .nil))))))) (.cons (.set (.nm 7) (.call ix.f__law_guard (.cons (.var 0) (.cons (.op2 .add (.e (.con (.int 8))) (.e (.op2 .mul (.e (.con (.int 7))) (.e (.var 4))))) (.cons (.con (.str [108, 101, 97, 118, 101])) (.cons (.var 1) (.cons (.var 2) .nil))))))) (.cons (.ex (.mt .append (.var 3) (.e (.tup (.cons (.item (.e (.var 1)) (.var 4)) (.cons (.tup (.cons (.var 6) (.cons (.var 7) (.cons (.op2 .lt (.e (.op2 .mod (.e (.bf .int (.e (.item (.e (.var 0)) (.op2 .add (.e (.con (.int 11))) (.e (.op2 .mul (.e (.con (.int 7))) (.e (.var 4))))))))) (.e (.con (.int 5))))) (.e (.con (.int 2)))) .nil)))) .nil)))))) .nil)))) (.cons (.set (.nm 5) (.item (.e (.var 1)) (.op2 .mod (.e (.bf .int (.e (.item (.e (.var 0)) (.con (.int 3)))))) (.e (.bf .len (.e (.var 1))))))) (.cons (.ret (.makeS ix.c_Site (.cons (.var 2) (.cons (.bf .tuple (.e (.var 3))) (.cons (.var 5) (.cons (.item (.lst (.cons (.con (.int 2)) (.cons (.con (.int 2)) (.cons (.con (.int 2)) (.cons (.con (.int 3)) .nil))))) (.op2 .mod (.e (.bf .int (.e (.item (.e (.var 0)) (.con (.int 4)))))) (.e (.con (.int 4))))) .nil)))) [.inl 0, .inl 1, .inl 2, .inl 3])) .nil))))))⟩
/-- _law_site_v2: 0 _law_draws_here, 1 _law_names, 2 _law_bits, 3 _law_pages, 4 _law_k, 5 _law_start_here, 6 _law_enter, 7 _law_leave -/
def F__law_site_v2 (ix : Lk) : Fn := ⟨1, 8, false, (.cons (.set (.nm 1) (.slc (.e (.call ix.f__law_page_names (.cons (.var 0) .nil))) .no (.yes (.item (.lst (.cons (.con (.int 2)) (.cons (.con (.int 2)) (.cons (.con (.int 2)) (.cons (.con (.int 2)) (.cons (.con (.int 3)) .nil)))))) (.op2 .mod (.e (.bf .int (.e (.item (.e (.var 0)) (.con (.int 1)))))) (.e (.con (.int 5)))))))) (.cons (.set (.nm 2) (.call ix.f__law_site_bits (.cons (.var 0) (.cons (.var 1) .nil)))) (.cons (.set (.nm 3) (.new (.lst .nil))) (.cons (.for (.nm 4) (.rng (.con (.int 0)) (.bf .len (.e (.var 1)))) (.cons (.set (.nm 6) (.call ix.f__law_guard (.cons (.var 0) (.cons (.op2 .add (.e (.con (.int 5))) (.e (.op2 .mul (.e (.con (.int 7))) (.e (.var 4))))) (.cons (.con (.str [101, 110, 116, 101, 114])) (.cons (.var 1) (.cons (.var 2) .nil))))))) (.cons (.set (.nm 7) (.call ix.f__law_guard (.cons (.var 0) (.cons (.op2 .add (.e (.con (.int 8))) (.e (.op2 .mul (.e (.con (.int 7))) (.e (.var 4))))) (.cons (.con (.str [108, 101, 97, 118, 101])) (.cons (.var 1) (.cons (.var 2) .nil))))))) (.cons (.ex (.mt .append (.var 3) (.e (.tup (.cons (.item (.e (.var 1)) (.var 4)) (.cons (.tup (.cons (.var 6) (.cons (.var 7) (.cons (.op2 .lt (.e (.op2 .mod (.e (.bf .int (.e (.item (.e (.var 0)) (.op2 .add (.e (.con (.int 11))) (.e (.op2 .mul (.e (.con (.int 7))) (.e (.var 4))))))))) (.e (.con (.int 5))))) (.e (.con (.int 2)))) .nil)))) .nil)))))) .nil)))) (.cons (.set (.nm 5) (.item (.e (.var 1)) (.op2 .mod (.e (.bf .int (.e (.item (.e (.var 0)) (.con (.int 3)))))) (.e (.bf .len (.e (.var 1))))))) (.cons (.ret (.makeS ix.c_Site (.cons (.var 2) (.cons (.bf .tuple (.e (.var 3))) (.cons (.var 5) (.cons (.item (.lst (.cons (.con (.int 2)) (.cons (.con (.int 2)) (.cons (.con (.int 2)) (.cons (.con (.int 3)) .nil))))) (.op2 .mod (.e (.bf .int (.e (.item (.e (.var 0)) (.con (.int 4)))))) (.e (.con (.int 4))))) .nil)))) [.inl 0, .inl 1, .inl 2, .inl 3])) .nil))))))⟩
/-- _law_book: 0 _law_site_here, 1 _law_rule_here, 2 _law_book_here -/
def F__law_book (ix : Lk) : Fn := ⟨2, 3, false, (.cons (.set (.nm 2) (.con .non)) (.cons .no (.cons (.ret (.var 2)) .nil)))⟩
/-- _law_book_v2: 0 _law_site_here, 1 _law_rule_here, 2 _law_flag, 3 _law_book_here -/
def F__law_book_v2 (ix : Lk) : Fn := ⟨3, 4, false, (.cons (.set (.nm 3) (.con .non)) (.cons .no (.cons (.ret (.var 3)) .nil)))⟩
/-- _law_after: 0 _law_site_here, 1 _law_rule_here, 2 _law_standing, 3 _law_deed, 4 _law_made -/
def F__law_after (ix : Lk) : Fn := ⟨4, 5, false, (.cons (.set (.nm 4) (.con .non)) (.cons .no (.cons (.ife (.t (.isN false (.var 4))) (.cons (.ret (.con .non)) .nil) .nil) (.cons (.ret (.attr (.var 4) 17)) .nil))))⟩
/-- _law_key: 0 _law_run, 1 _law_flags_here, 2 _law_moves, 3 _law_deed -/
def F__law_key (ix : Lk) : Fn := ⟨3, 4, false, (.cons (.ret (.op2 .add (.lst (.cons (.bf .len (.e (.item (.e (.var 0)) (.con (.int 1))))) (.cons (.mt .index (.var 1) (.e (.item (.e (.var 0)) (.con (.int 0))))) .nil))) (.lc (.a (.e (.item (.e (.var 0)) (.con (.int 1))))) (.nm 3) .no (.mt .index (.var 2) (.e (.var 3)))))) .nil)⟩
/-- _law_reach: 0 _law_site_here, 1 _law_rule_here, 2 _law_moves, 3 _law_most, 4 _law_found, 5 _law_runs, 6 _law_known, 7 _law_flags_here, 8 _law_at, 9 _law_standing, 10 _law_deed, 11 _law_after_here -/
def F__law_reach (ix : Lk) : Fn := ⟨4, 12, false, (.cons (.set (.nm 4) (.new (.lst .nil))) (.cons (.set (.nm 5) (.new (.lst .nil))) (.cons .no (.cons (.for (.nm 7) (.a (.e (.call ix.f__law_flags (.cons (.var 0) .nil)))) (.cons (.set (.nm 9) (.attr (.call ix.f_begin (.cons (.var 0) (.cons (.var 1) (.cons (.var 7) .nil)))) 17)) (.cons (.itm (.var 6) (.var 9) (.con (.bl true))) (.cons (.ex (.mt .append (.var 4) (.e (.var 9)))) (.cons (.ex (.mt .append (.var 5) (.e (.tup (.cons (.var 7) (.cons (.tup .nil) .nil)))))) .nil))))) (.cons (.for (.nm 8) (.rng (.con (.int 0)) (.op2 .add (.e (.var 3)) (.e (.con (.int 1))))) (.cons (.ife (.and (.t (.op2 .lt (.e (.var 8)) (.e (.bf .len (.e (.var 4)))))) (.t (.op2 .le (.e (.bf .len (.e (.var 4)))) (.e (.var 3))))) (.cons (.for (.nm 10) (.a (.e (.var 2))) (.cons (.set (.nm 11) (.call ix.f__law_after (.cons (.var 0) (.cons (.var 1) (.cons (.item (.e (.var 4)) (.var 8)) (.cons (.var 10) .nil)))))) (.cons (.ife (.and (.t (.isN true (.var 11))) (.t (.op2 .notin (.e (.var 11)) (.e (.var 6))))) (.cons (.itm (.var 6) (.var 11) (.con (.bl true))) (.cons (.ex (.mt .append (.var 4) (.e (.var 11)))) (.cons (.ex (.mt .append (.var 5) (.e (.tup (.cons (.item (.e (.item (.e (.var 5)) (.var 8))) (.con (.int 0))) (.cons (.op2 .add (.e (.item (.e (.item (.e (.var 5)) (.var 8))) (.con (.int 1)))) (.e (.tup (.cons (.var 10) .nil)))) .nil)))))) .nil))) .nil) .nil))) .nil) .nil) .nil)) (.cons (.ret (.new (.lst (.cons (.var 4) (.cons (.var 5) .nil))))) .nil))))))⟩
/-- Book_deeds_between: 0 self, 1 first, 2 second, 3 routes, 4 waiting_list, 5 index, 6 start, 7 goal, 8 here, 9 deed, 10 target -/
def F_Book_deeds_between (ix : Lk) : Fn := ⟨3, 11, false, (.cons (.set (.tp [6, 7]) (.tup (.cons (.meth (.var 0) 114 (.cons (.var 1) .nil)) (.cons (.meth (.var 0) 114 (.cons (.var 2) .nil)) .nil)))) (.cons .no (.cons (.set (.nm 4) (.new (.lst (.cons (.var 6) .nil)))) (.cons (.set (.nm 5) (.con (.int 0))) (.cons (.whl (.and (.t (.op2 .lt (.e (.var 5)) (.e (.bf .len (.e (.var 4)))))) (.t (.op2 .notin (.e (.var 7)) (.e (.var 3))))) (.cons (.set (.nm 8) (.item (.e (.var 4)) (.var 5))) (.cons (.for (.tp [9, 10]) (.zip (.e (.attr (.var 0) 37)) (.e (.item (.e (.attr (.var 0) 148)) (.var 8)))) (.cons (.ife (.and (.t (.isN true (.var 10))) (.t (.op2 .notin (.e (.var 10)) (.e (.var 3))))) (.cons .no (.cons (.ex (.mt .append (.var 4) (.e (.var 10)))) .nil)) .nil) .nil)) (.cons (.aug 5 .add (.con (.int 1))) .nil)))) (.cons .no .nil))))))⟩
/-- look: 0 standing -/
def F_look (ix : Lk) : Fn := ⟨1, 1, false, (.cons (.ret (.tup (.cons (.item (.e (.item (.e (.var 0)) (.con (.int 2)))) (.item (.e (.var 0)) (.con (.int 3)))) (.cons (.item (.e (.var 0)) (.con (.int 1))) .nil)))) .nil)⟩
/-- parts_ways: 0 one, 1 two -/
def F_parts_ways (ix : Lk) : Fn := ⟨2, 2, false, (.cons (.ife (.or (.t (.isN false (.var 0))) (.t (.isN false (.var 1)))) (.cons (.ret (.or (.isN true (.var 0)) (.isN true (.var 1)))) .nil) .nil) (.cons (.ret (.op2 .ne (.e (.call ix.f_look (.cons (.var 0) .nil))) (.e (.call ix.f_look (.cons (.var 1) .nil))))) .nil))⟩
/-- parting: 0 book, 1 first, 2 second, 3 start, 4 routes, 5 waiting_list, 6 index, 7 here, 8 at, 9 deed, 10 one, 11 two -/
def F_parting (ix : Lk) : Fn := ⟨3, 12, false, (.cons (.set (.nm 3) (.tup (.cons (.meth (.var 0) 114 (.cons (.var 1) .nil)) (.cons (.meth (.var 0) 114 (.cons (.var 2) .nil)) .nil)))) (.cons (.ife (.t (.op2 .ne (.e (.call ix.f_look (.cons (.var 1) .nil))) (.e (.call ix.f_look (.cons (.var 2) .nil))))) (.cons (.ret (.tup .nil)) .nil) .nil) (.cons .no (.cons (.set (.nm 5) (.new (.lst (.cons (.var 3) .nil)))) (.cons (.set (.nm 6) (.con (.int 0))) (.cons (.whl (.t (.op2 .lt (.e (.var 6)) (.e (.bf .len (.e (.var 5)))))) (.cons (.set (.nm 7) (.item (.e (.var 5)) (.var 6))) (.cons (.for (.tp [8, 9]) (.enum (.e (.attr (.var 0) 37))) (.cons (.set (.tp [10, 11]) (.tup (.cons (.item (.e (.item (.e (.attr (.var 0) 148)) (.item (.e (.var 7)) (.con (.int 0))))) (.var 8)) (.cons (.item (.e (.item (.e (.attr (.var 0) 148)) (.item (.e (.var 7)) (.con (.int 1))))) (.var 8)) .nil)))) (.cons (.ife (.t (.call ix.f_parts_ways (.cons (.call ix.f_row_or_none (.cons (.var 0) (.cons (.var 10) .nil))) (.cons (.call ix.f_row_or_none (.cons (.var 0) (.cons (.var 11) .nil))) .nil)))) (.cons .no .nil) .nil) (.cons (.ife (.and (.t (.isN true (.var 10))) (.t (.op2 .notin (.e (.tup (.cons (.var 10) (.cons (.var 11) .nil)))) (.e (.var 4))))) (.cons .no (.cons (.ex (.mt .append (.var 5) (.e (.tup (.cons (.var 10) (.cons (.var 11) .nil)))))) .nil)) .nil) .nil)))) (.cons (.aug 6 .add (.con (.int 1))) .nil)))) (.cons (.ret (.con .non)) .nil)))))))⟩
/-- row_or_none: 0 book, 1 index -/
def F_row_or_none (ix : Lk) : Fn := ⟨2, 2, false, (.cons (.ife (.t (.isN false (.var 1))) (.cons (.ret (.con .non)) .nil) .nil) (.cons (.ret (.item (.e (.attr (.var 0) 130)) (.var 1))) .nil))⟩
/-- check_kind: 0 kind -/
def F_check_kind (ix : Lk) : Fn := ⟨1, 1, false, (.cons (.ife (.t (.op2 .notin (.e (.var 0)) (.e (.glo ix.g_KINDS)))) (.cons .no .nil) .nil) .nil)⟩
/-- Verdict___init__: 0 self, 1 pairs, 2 pair, 3 kind, 4 page -/
def F_Verdict___init__ (ix : Lk) : Fn := ⟨2, 5, false, (.cons (.for (.nm 2) (.a (.e (.var 1))) (.cons (.ex (.call ix.f_check_kind (.cons (.item (.e (.var 2)) (.con (.int 0))) .nil))) .nil)) (.cons .no .nil))⟩
/-- Verdict_pairs: 0 self -/
def F_Verdict_pairs (ix : Lk) : Fn := ⟨1, 1, false, (.cons (.ret (.bf .list (.e (.attr (.var 0) 130)))) .nil)⟩
/-- Verdict_kinds: 0 self, 1 kind, 2 pair -/
def F_Verdict_kinds (ix : Lk) : Fn := ⟨1, 3, false, (.cons (.ret (.new (.lc (.a (.e (.glo ix.g_KINDS))) (.nm 1) (.yes (.t (.op2 .isin (.e (.var 1)) (.lc (.a (.e (.attr (.var 0) 130))) (.nm 2) .no (.item (.e (.var 2)) (.con (.int 0))))))) (.var 1)))) .nil)⟩
/-- Verdict___or__: 0 self, 1 other -/
def F_Verdict___or__ (ix : Lk) : Fn := ⟨2, 2, false, (.cons .no .nil)⟩
/-- Verdict___and__: 0 self, 1 other, 2 pair -/
def F_Verdict___and__ (ix : Lk) : Fn := ⟨2, 3, false, (.cons (.ret (.make ix.c_Verdict (.cons (.new (.lc (.a (.e (.attr (.var 0) 130))) (.nm 2) (.yes (.t (.op2 .isin (.e (.var 2)) (.e (.attr (.var 1) 130))))) (.var 2))) .nil))) .nil)⟩
/-- Verdict___sub__: 0 self, 1 other, 2 pair -/
def F_Verdict___sub__ (ix : Lk) : Fn := ⟨2, 3, false, (.cons (.ret (.make ix.c_Verdict (.cons (.new (.lc (.a (.e (.attr (.var 0) 130))) (.nm 2) (.yes (.t (.op2 .notin (.e (.var 2)) (.e (.attr (.var 1) 130))))) (.var 2))) .nil))) .nil)⟩
/-- Verdict___xor__: 0 self, 1 other, 2 mine, 3 yours, 4 pair -/
def F_Verdict___xor__ (ix : Lk) : Fn := ⟨2, 5, false, (.cons (.set (.nm 2) (.new (.lc (.a (.e (.attr (.var 0) 130))) (.nm 4) (.yes (.t (.op2 .notin (.e (.var 4)) (.e (.attr (.var 1) 130))))) (.var 4)))) (.cons (.set (.nm 3) (.new (.lc (.a (.e (.attr (.var 1) 130))) (.nm 4) (.yes (.t (.op2 .notin (.e (.var 4)) (.e (.attr (.var 0) 130))))) (.var 4)))) (.cons .no .nil)))⟩
/-- Verdict___eq__: 0 self, 1 other -/
def F_Verdict___eq__ (ix : Lk) : Fn := ⟨2, 2, false, (.cons (.ret (.and (.isi (.var 1) (.cls ix.c_Verdict)) (.op2 .eq (.e (.attr (.var 0) 130)) (.e (.attr (.var 1) 130))))) .nil)⟩
/-- Verdict___len__: 0 self -/
def F_Verdict___len__ (ix : Lk) : Fn := ⟨1, 1, false, (.cons (.ret (.bf .len (.e (.attr (.var 0) 130)))) .nil)⟩
/-- Verdict___contains__: 0 self, 1 pair -/
def F_Verdict___contains__ (ix : Lk) : Fn := ⟨2, 2, false, (.cons (.ret (.op2 .isin (.e (.var 1)) (.e (.attr (.var 0) 130)))) .nil)⟩
/-- Verdict___bool__: 0 self -/
def F_Verdict___bool__ (ix : Lk) : Fn := ⟨1, 1, false, (.cons (.ret (.bf .bool (.e (.attr (.var 0) 130)))) .nil)⟩
/-- Book_is_free: 0 self, 1 kind, 2 pair -/
def F_Book_is_free (ix : Lk) : Fn := ⟨2, 3, false, (.cons (.ex (.call ix.f_check_kind (.cons (.var 1) .nil))) (.cons (.ret (.op2 .notin (.e (.var 1)) (.lc (.a (.e (.attr (.var 0) 51))) (.nm 2) .no (.item (.e (.var 2)) (.con (.int 0)))))) .nil))⟩
/-- Book_verdict: 0 self -/
def F_Book_verdict (ix : Lk) : Fn := ⟨1, 1, false, (.cons (.ret (.make ix.c_Verdict (.cons (.meth (.var 0) 49 .nil) .nil))) .nil)⟩
/-- _law_faults_of: 0 _law_site_here, 1 _law_rule_here, 2 _law_standing, 3 _law_deed, 4 _law_made, 5 _law_page, 6 e -/
def F__law_faults_of (ix : Lk) : Fn := ⟨4, 7, false, (.cons (.set (.nm 4) (.con .non)) (.cons (.set (.nm 5) (.con .non)) (.cons .no (.cons (.ife (.t (.isN false (.var 4))) (.cons (.ret (.new (.lst (.cons (.tup (.cons (.con (.str [114, 111, 117, 110, 100])) (.cons (.var 5) .nil))) .nil)))) .nil) .nil) (.cons (.ret (.call ix.f_faults (.cons (.var 0) (.cons (.var 1) (.cons (.var 4) .nil))))) .nil)))))⟩
/-- Book_least_fault: 0 self, 1 kind, 2 page, 3 index, 4 deed, 5 flags, 6 done_before -/
def F_Book_least_fault (ix : Lk) : Fn := ⟨3, 7, false, (.cons (.ife (.t (.op2 .notin (.e (.tup (.cons (.var 1) (.cons (.var 2) .nil)))) (.e (.attr (.var 0) 51)))) (.cons .no .nil) .nil) (.cons (.set (.tp [3, 4]) (.item (.e (.attr (.var 0) 51)) (.tup (.cons (.var 1) (.cons (.var 2) .nil))))) (.cons (.set (.tp [5, 6]) (.call ix.f_run_to (.cons (.attr (.var 0) 100) (.cons (.var 3) .nil)))) (.cons .no .nil))))⟩
/-- closed_kinds: 0 site, 1 rule, 2 value, 3 flips, 4 held, 5 standing, 6 flags, 7 kinds, 8 deed, 9 pair, 10 made, 11 pairs -/
def F_closed_kinds (ix : Lk) : Fn := ⟨4, 12, false, (.cons (.ife (.not (.t (.isi (.var 2) .list))) (.cons (.ret (.con .non)) .nil) .nil) (.cons .no (.cons (.for (.nm 5) (.a (.e (.var 2))) (.cons (.ife (.not (.t (.call ix.f_is_standing (.cons (.var 0) (.cons (.var 1) (.cons (.var 5) .nil)))))) (.cons (.ret (.con .non)) .nil) .nil) (.cons (.itm (.var 4) (.var 5) (.con (.bl true))) .nil))) (.cons (.for (.nm 6) (.a (.e (.call ix.f_all_flags (.cons (.var 0) .nil)))) (.cons (.ife (.t (.op2 .notin (.e (.attr (.call ix.f_begin (.cons (.var 0) (.cons (.var 1) (.cons (.var 6) .nil)))) 17)) (.e (.var 4)))) (.cons (.ret (.con .non)) .nil) .nil) .nil)) (.cons (.set (.nm 7) (.new (.lst .nil))) (.cons (.for (.nm 5) (.a (.e (.bf .list (.e (.var 4))))) (.cons (.for (.nm 8) (.a (.e (.callS ix.f_deeds (.cons (.var 0) (.cons (.var 3) .nil)) [.inl 0, .inl 1]))) (.cons (.set (.tp [10, 11]) (.call ix.f_outcome (.cons (.var 0) (.cons (.var 1) (.cons (.var 5) (.cons (.var 8) .nil)))))) (.cons (.ife (.and (.t (.isN true (.var 10))) (.t (.op2 .notin (.e (.attr (.var 10) 17)) (.e (.var 4))))) (.cons (.ret (.con .non)) .nil) .nil) (.cons (.for (.nm 9) (.a (.e (.var 11))) (.cons (.ex (.mt .append (.var 7) (.e (.item (.e (.var 9)) (.con (.int 0)))))) .nil)) .nil)))) .nil)) (.cons (.ret (.var 7)) .nil)))))))⟩
/-- is_closed: 0 site, 1 rule, 2 value, 3 flips -/
def F_is_closed (ix : Lk) : Fn := ⟨4, 4, true, (.cons (.ret (.isN true (.call ix.f_closed_kinds (.cons (.var 0) (.cons (.var 1) (.cons (.var 2) (.cons (.var 3) .nil))))))) .nil)⟩
/-- _law_small_book: 0 _law_site_here, 1 _law_rule_here, 2 _law_book -/
def F__law_small_book (ix : Lk) : Fn := ⟨2, 3, false, (.cons (.set (.nm 2) (.con .non)) (.cons .no (.cons (.ret (.var 2)) .nil)))⟩
/-- _law_small_book_v2: 0 _law_site_here, 1 _law_rule_here, 2 _law_flag, 3 _law_book -/
def F__law_small_book_v2 (ix : Lk) : Fn := ⟨3, 4, false, (.cons (.set (.nm 3) (.con .non)) (.cons .no (.cons (.ret (.var 3)) .nil)))⟩
/-- _law_start: 0 _law_site_here, 1 _law_rule_here, 2 _law_draws_here, 3 _law_names, 4 _law_flags_here, 5 _law_history, 6 _law_late, 7 _law_shown, 8 _law_place, 9 _law_plan, 10 _law_spot, 11 _law_way, 12 _law_left, 13 _law_k -/
def F__law_start (ix : Lk) : Fn := ⟨3, 14, false, (.cons (.set (.nm 3) (.meth (.var 0) 103 .nil)) (.cons (.set (.nm 4) (.call ix.f__law_flags (.cons (.var 0) .nil))) (.cons (.set (.nm 5) (.bf .tuple (.lc (.rng (.con (.int 0)) (.op2 .add (.e (.con (.int 1))) (.e (.op2 .mod (.e (.bf .int (.e (.item (.e (.var 2)) (.con (.int 0)))))) (.e (.con (.int 2))))))) (.nm 13) .no (.item (.e (.var 3)) (.op2 .mod (.e (.bf .int (.e (.item (.e (.var 2)) (.op2 .add (.e (.con (.int 1))) (.e (.var 13))))))) (.e (.bf .len (.e (.var 3))))))))) (.cons (.set (.nm 6) (.tup .nil)) (.cons (.ife (.t (.op2 .eq (.e (.attr (.var 1) 95)) (.e (.con (.str [114, 97, 99, 101]))))) (.cons (.set (.nm 6) (.bf .tuple (.lc (.rng (.con (.int 0)) (.op2 .mod (.e (.bf .int (.e (.item (.e (.var 2)) (.con (.int 3)))))) (.e (.con (.int 3))))) (.nm 13) .no (.item (.e (.var 3)) (.op2 .mod (.e (.bf .int (.e (.item (.e (.var 2)) (.op2 .add (.e (.con (.int 4))) (.e (.var 13))))))) (.e (.bf .len (.e (.var 3))))))))) .nil) .nil) (.cons (.set (.nm 7) (.item (.e (.var 3)) (.op2 .mod (.e (.bf .int (.e (.item (.e (.var 2)) (.con (.int 6)))))) (.e (.bf .len (.e (.var 3))))))) (.cons (.set (.nm 8) (.op2 .mod (.e (.bf .int (.e (.item (.e (.var 2)) (.con (.int 7)))))) (.e (.bf .len (.e (.var 5)))))) (.cons (.set (.nm 9) (.bf .tuple (.lc (.rng (.con (.int 0)) (.op2 .add (.e (.con (.int 1))) (.e (.op2 .mod (.e (.bf .int (.e (.item (.e (.var 2)) (.con (.int 8)))))) (.e (.con (.int 2))))))) (.nm 13) .no (.item (.e (.var 3)) (.op2 .mod (.e (.bf .int (.e (.item (.e (.var 2)) (.op2 .add (.e (.con (.int 9))) (.e (.var 13))))))) (.e (.bf .len (.e (.var 3))))))))) (.cons (.set (.nm 10) (.op2 .mod (.e (.bf .int (.e (.item (.e (.var 2)) (.con (.int 11)))))) (.e (.bf .len (.e (.var 9)))))) (.cons (.set (.nm 11) (.con .non)) (.cons (.ife (.and (.t (.meth (.var 0) 86 (.cons (.item (.e (.var 9)) (.var 10)) .nil))) (.t (.op2 .gt (.e (.op2 .mod (.e (.bf .int (.e (.item (.e (.var 2)) (.con (.int 12)))))) (.e (.con (.int 3))))) (.e (.con (.int 0)))))) (.cons (.set (.nm 12) (.item (.e (.var 3)) (.op2 .mod (.e (.bf .int (.e (.item (.e (.var 2)) (.con (.int 13)))))) (.e (.bf .len (.e (.var 3))))))) (.cons (.set (.nm 11) (.tup (.cons (.item (.lst (.cons (.con (.str [99, 108, 105, 99, 107])) (.cons (.con (.str [115, 116, 101, 112])) .nil))) (.op2 .mod (.e (.bf .int (.e (.item (.e (.var 2)) (.con (.int 14)))))) (.e (.con (.int 2))))) (.cons (.con (.str [108, 111, 97, 100])) (.cons (.tup .nil) (.cons (.var 12) (.cons (.var 9) (.cons (.var 10) (.cons (.op2 .mod (.e (.bf .int (.e (.item (.e (.var 2)) (.con (.int 15)))))) (.e (.con (.int 6)))) .nil))))))))) .nil)) .nil) (.cons (.ret (.tup (.cons (.item (.e (.var 4)) (.op2 .mod (.e (.bf .int (.e (.item (.e (.var 2)) (.con (.int 16)))))) (.e (.bf .len (.e (.var 4)))))) (.cons (.var 7) (.cons (.var 5) (.cons (.var 8) (.cons (.var 11) (.cons (.var 6) .nil)))))))) .nil))))))))))))⟩
/-- shows_free: 0 site, 1 rule, 2 value, 3 kind, 4 flips, 5 kinds -/
def F_shows_free (ix : Lk) : Fn := ⟨5, 6, true, (.cons (.ex (.call ix.f_check_kind (.cons (.var 3) .nil))) (.cons (.set (.nm 5) (.call ix.f_closed_kinds (.cons (.var 0) (.cons (.var 1) (.cons (.var 2) (.cons (.var 4) .nil)))))) (.cons (.ret (.and (.isN true (.var 5)) (.op2 .notin (.e (.var 3)) (.e (.var 5))))) .nil)))⟩
/-- Verdict_only: 0 self, 1 kinds, 2 pair -/
def F_Verdict_only (ix : Lk) : Fn := ⟨2, 3, false, (.cons (.ret (.make ix.c_Verdict (.cons (.new (.lc (.a (.e (.attr (.var 0) 130))) (.nm 2) (.yes (.t (.op2 .isin (.e (.item (.e (.var 2)) (.con (.int 0)))) (.e (.var 1))))) (.var 2))) .nil))) .nil)⟩
/-- moved: 0 pair, 1 standing, 2 deed, 3 made -/
def F_moved (ix : Lk) : Fn := ⟨3, 4, false, (.cons .no (.cons (.ret (.attr (.var 3) 17)) .nil))⟩
/-- check_comparable: 0 first, 1 second -/
def F_check_comparable (ix : Lk) : Fn := ⟨2, 2, false, (.cons (.ife (.t (.op2 .ne (.e (.attr (.item (.e (.var 0)) (.con (.int 0))) 29)) (.e (.attr (.item (.e (.var 1)) (.con (.int 0))) 29)))) (.cons .no .nil) .nil) (.cons (.ife (.t (.op2 .ne (.e (.meth (.item (.e (.var 0)) (.con (.int 0))) 103 .nil)) (.e (.meth (.item (.e (.var 1)) (.con (.int 0))) 103 .nil)))) (.cons .no .nil) .nil) .nil))⟩
/-- Comparison___init__: 0 self, 1 first, 2 second, 3 flips, 4 limit, 5 moves, 6 index -/
def F_Comparison___init__ (ix : Lk) : Fn := ⟨5, 7, false, (.cons (.ex (.call ix.f_check_bound (.cons (.var 4) (.cons (.con (.int 20000)) .nil)))) (.cons (.ex (.call ix.f_check_comparable (.cons (.var 1) (.cons (.var 2) .nil)))) (.cons (.atr (.var 0) 50 (.var 1)) (.cons (.atr (.var 0) 133 (.var 2)) (.cons (.atr (.var 0) 31 (.var 4)) (.cons (.atr (.var 0) 69 (.new (.lst .nil))) (.cons .no (.cons (.atr (.var 0) 100 (.new (.lst .nil))) (.cons (.atr (.var 0) 109 (.con .non)) (.cons (.ex (.meth (.var 0) 40 .nil)) (.cons (.set (.nm 5) (.callS ix.f_deeds (.cons (.item (.e (.var 1)) (.con (.int 0))) (.cons (.var 3) .nil)) [.inl 0, .inl 1])) (.cons (.set (.nm 6) (.con (.int 0))) (.cons (.whl (.and (.t (.isN false (.attr (.var 0) 109))) (.t (.op2 .lt (.e (.var 6)) (.e (.bf .len (.e (.attr (.var 0) 69))))))) (.cons (.ex (.meth (.var 0) 60 (.cons (.var 6) (.cons (.var 5) .nil)))) (.cons (.aug 6 .add (.con (.int 1))) .nil))) .nil)))))))))))))⟩
/-- Comparison_keep_tuple: 0 self, 1 one, 2 two, 3 origin -/
def F_Comparison_keep_tuple (ix : Lk) : Fn := ⟨4, 4, false, (.cons (.ife (.t (.op2 .isin (.e (.tup (.cons (.var 1) (.cons (.var 2) .nil)))) (.e (.attr (.var 0) 74)))) (.cons .retN .nil) .nil) (.cons (.ife (.t (.op2 .eq (.e (.bf .len (.e (.attr (.var 0) 69)))) (.e (.attr (.var 0) 31)))) (.cons .no .nil) .nil) (.cons (.itm (.attr (.var 0) 74) (.tup (.cons (.var 1) (.cons (.var 2) .nil))) (.con (.bl true))) (.cons (.ex (.mt .append (.attr (.var 0) 69) (.e (.tup (.cons (.var 1) (.cons (.var 2) .nil)))))) (.cons (.ex (.mt .append (.attr (.var 0) 100) (.e (.var 3)))) .nil)))))⟩
/-- Comparison_do_starts: 0 self, 1 flags, 2 one, 3 two -/
def F_Comparison_do_starts (ix : Lk) : Fn := ⟨1, 4, false, (.cons (.for (.nm 1) (.a (.e (.call ix.f_all_flags (.cons (.item (.e (.attr (.var 0) 50)) (.con (.int 0))) .nil)))) (.cons (.set (.nm 2) (.attr (.call ix.f_begin (.cons (.item (.e (.attr (.var 0) 50)) (.con (.int 0))) (.cons (.item (.e (.attr (.var 0) 50)) (.con (.int 1))) (.cons (.var 1) .nil)))) 17)) (.cons (.set (.nm 3) (.attr (.call ix.f_begin (.cons (.item (.e (.attr (.var 0) 133)) (.con (.int 0))) (.cons (.item (.e (.attr (.var 0) 133)) (.con (.int 1))) (.cons (.var 1) .nil)))) 17)) (.cons (.ife (.t (.call ix.f_parts_ways (.cons (.var 2) (.cons (.var 3) .nil)))) (.cons (.atr (.var 0) 109 (.tup (.cons (.var 1) (.cons (.tup .nil) .nil)))) (.cons .retN .nil)) .nil) (.cons (.ex (.meth (.var 0) 71 (.cons (.var 2) (.cons (.var 3) (.cons (.tup (.cons (.neg (.con (.int 1))) (.cons (.var 1) .nil))) .nil))))) .nil))))) .nil)⟩
/-- Comparison_go_on: 0 self, 1 index, 2 moves, 3 deed, 4 one, 5 two, 6 one_after, 7 two_after, 8 flags, 9 done_before -/
def F_Comparison_go_on (ix : Lk) : Fn := ⟨3, 10, false, (.cons (.set (.tp [4, 5]) (.item (.e (.attr (.var 0) 69)) (.var 1))) (.cons (.for (.nm 3) (.a (.e (.var 2))) (.cons (.set (.nm 6) (.call ix.f_moved (.cons (.attr (.var 0) 50) (.cons (.var 4) (.cons (.var 3) .nil))))) (.cons (.set (.nm 7) (.call ix.f_moved (.cons (.attr (.var 0) 133) (.cons (.var 5) (.cons (.var 3) .nil))))) (.cons (.ife (.t (.call ix.f_parts_ways (.cons (.var 6) (.cons (.var 7) .nil)))) (.cons (.set (.tp [8, 9]) (.call ix.f_run_to (.cons (.attr (.var 0) 100) (.cons (.var 1) .nil)))) (.cons .no (.cons .retN .nil))) .nil) (.cons (.ife (.t (.isN true (.var 6))) (.cons (.ex (.meth (.var 0) 71 (.cons (.var 6) (.cons (.var 7) (.cons (.tup (.cons (.var 1) (.cons (.var 3) .nil))) .nil))))) .nil) .nil) .nil))))) .nil))⟩
/-- difference: 0 first, 1 second, 2 flips, 3 limit -/
def F_difference (ix : Lk) : Fn := ⟨4, 4, true, (.cons (.ret (.attr (.make ix.c_Comparison (.cons (.var 0) (.cons (.var 1) (.cons (.var 2) (.cons (.var 3) .nil))))) 109)) .nil)⟩
/-- alike: 0 first, 1 second, 2 flips, 3 limit -/
def F_alike (ix : Lk) : Fn := ⟨4, 4, true, (.cons (.ret (.isN false (.attr (.make ix.c_Comparison (.cons (.var 0) (.cons (.var 1) (.cons (.var 2) (.cons (.var 3) .nil))))) 109))) .nil)⟩
/-- _law_second: 0 _law_site_here, 1 _law_draws_here, 2 _law_names, 3 _law_kind, 4 _law_pages, 5 _law_at, 6 _law_enter, 7 _law_leave, 8 _law_slow -/
def F__law_second (ix : Lk) : Fn := ⟨2, 9, false, (.cons (.set (.nm 2) (.bf .list (.e (.meth (.var 0) 103 .nil)))) (.cons (.set (.nm 3) (.op2 .mod (.e (.bf .int (.e (.item (.e (.var 1)) (.con (.int 0)))))) (.e (.con (.int 6))))) (.cons (.ife (.t (.op2 .eq (.e (.var 3)) (.e (.con (.int 0))))) (.cons (.ret (.var 0)) .nil) .nil) (.cons (.ife (.t (.op2 .eq (.e (.var 3)) (.e (.con (.int 4))))) (.cons (.ret (.makeS ix.c_Site (.cons (.attr (.var 0) 29) (.cons (.attr (.var 0) 106) (.cons (.item (.e (.var 2)) (.op2 .mod (.e (.bf .int (.e (.item (.e (.var 1)) (.con (.int 3)))))) (.e (.bf .len (.e (.var 2)))))) (.cons (.attr (.var 0) 70) .nil)))) [.inl 0, .inl 1, .inl 2, .inl 3])) .nil) .nil) (.cons (.ife (.t (.op2 .eq (.e (.var 3)) (.e (.con (.int 5))))) (.cons (.ret (.makeS ix.c_Site (.cons (.attr (.var 0) 29) (.cons (.attr (.var 0) 106) (.cons (.attr (.var 0) 144) (.cons (.op2 .sub (.e (.con (.int 5))) (.e (.attr (.var 0) 70))) .nil)))) [.inl 0, .inl 1, .inl 2, .inl 3])) .nil) .nil) (.cons (.set (.nm 4) (.bf .list (.e (.attr (.var 0) 106)))) (.cons (.set (.nm 5) (.op2 .mod (.e (.bf .int (.e (.item (.e (.var 1)) (.con (.int 1)))))) (.e (.bf .len (.e (.var 4)))))) (.cons (.set (.tp [6, 7, 8]) (.item (.e (.item (.e (.var 4)) (.var 5))) (.con (.int 1)))) (.cons (.ife (.t (.op2 .eq (.e (.var 3)) (.e (.con (.int 1))))) (.cons (.set (.nm 6) (.call ix.f__law_guard (.cons (.var 1) (.cons (.con (.int 2)) (.cons (.con (.str [101, 110, 116, 101, 114])) (.cons (.var 2) (.cons (.attr (.var 0) 29) .nil))))))) .nil) .nil) (.cons (.ife (.t (.op2 .eq (.e (.var 3)) (.e (.con (.int 2))))) (.cons (.set (.nm 7) (.call ix.f__law_guard (.cons (.var 1) (.cons (.con (.int 2)) (.cons (.con (.str [108, 101, 97, 118, 101])) (.cons (.var 2) (.cons (.attr (.var 0) 29) .nil))))))) .nil) .nil) (.cons (.ife (.t (.op2 .eq (.e (.var 3)) (.e (.con (.int 3))))) (.cons (.set (.nm 8) (.nt (.var 8))) .nil) .nil) (.cons (.itm (.var 4) (.var 5) (.tup (.cons (.item (.e (.var 2)) (.var 5)) (.cons (.tup (.cons (.var 6) (.cons (.var 7) (.cons (.var 8) .nil)))) .nil)))) (.cons (.ret (.makeS ix.c_Site (.cons (.attr (.var 0) 29) (.cons (.bf .tuple (.e (.var 4))) (.cons (.attr (.var 0) 144) (.cons (.attr (.var 0) 70) .nil)))) [.inl 0, .inl 1, .inl 2, .inl 3])) .nil)))))))))))))⟩
/-- _law_two: 0 _law_script, 1 _law_draws_here, 2 _law_more, 3 _law_site_here, 4 _law_rule_here, 5 _law_other -/
def F__law_two (ix : Lk) : Fn := ⟨1, 6, false, (.cons (.set (.nm 1) (.call ix.f__law_draws (.cons (.var 0) (.cons (.con (.int 0)) (.cons (.con (.int 48)) .nil))))) (.cons (.set (.nm 2) (.call ix.f__law_draws (.cons (.var 0) (.cons (.con (.int 1)) (.cons (.con (.int 8)) .nil))))) (.cons (.set (.nm 3) (.call ix.f__law_site (.cons (.var 1) .nil))) (.cons (.set (.nm 4) (.call ix.f__law_rule (.cons (.var 1) (.cons (.con (.int 26)) .nil)))) (.cons (.set (.nm 5) (.var 4)) (.cons (.ife (.t (.op2 .gt (.e (.op2 .mod (.e (.bf .int (.e (.item (.e (.var 2)) (.con (.int 5)))))) (.e (.con (.int 3))))) (.e (.con (.int 0))))) (.cons (.set (.nm 5) (.call ix.f__law_rule (.cons (.var 2) (.cons (.con (.int 6)) .nil)))) .nil) .nil) (.cons (.ret (.new (.lst (.cons (.tup (.cons (.var 3) (.cons (.var 4) .nil))) (.cons (.tup (.cons (.call ix.f__law_second (.cons (.var 3) (.cons (.var 2) .nil))) (.cons (.var 5) .nil))) .nil))))) .nil)))))))⟩
/-- _law_look: 0 _law_standing -/
def F__law_look (ix : Lk) : Fn := ⟨1, 1, false, (.cons (.ret (.tup (.cons (.item (.e (.item (.e (.var 0)) (.con (.int 2)))) (.item (.e (.var 0)) (.con (.int 3)))) (.cons (.item (.e (.var 0)) (.con (.int 1))) .nil)))) .nil)⟩
/-- pairing: 0 first, 1 second, 2 flips, 3 limit, 4 made -/
def F_pairing (ix : Lk) : Fn := ⟨4, 5, true, (.cons (.set (.nm 4) (.make ix.c_Comparison (.cons (.var 0) (.cons (.var 1) (.cons (.var 2) (.cons (.var 3) .nil)))))) (.cons (.ife (.t (.isN true (.attr (.var 4) 109))) (.cons (.ret (.con .non)) .nil) .nil) (.cons (.ret (.bf .list (.e (.attr (.var 4) 69)))) .nil)))⟩
/-- is_joined: 0 first, 1 second, 2 value -/
def F_is_joined (ix : Lk) : Fn := ⟨3, 3, false, (.cons (.ife (.or (.not (.t (.isi (.var 2) .tuple))) (.t (.op2 .ne (.e (.bf .len (.e (.var 2)))) (.e (.con (.int 2)))))) (.cons (.ret (.con (.bl false))) .nil) .nil) (.cons (.ife (.not (.t (.call ix.f_is_standing (.cons (.item (.e (.var 0)) (.con (.int 0))) (.cons (.item (.e (.var 0)) (.con (.int 1))) (.cons (.item (.e (.var 2)) (.con (.int 0))) .nil)))))) (.cons (.ret (.con (.bl false))) .nil) .nil) (.cons (.ife (.not (.t (.call ix.f_is_standing (.cons (.item (.e (.var 1)) (.con (.int 0))) (.cons (.item (.e (.var 1)) (.con (.int 1))) (.cons (.item (.e (.var 2)) (.con (.int 1))) .nil)))))) (.cons (.ret (.con (.bl false))) .nil) .nil) (.cons (.ret (.op2 .eq (.e (.call ix.f_look (.cons (.item (.e (.var 2)) (.con (.int 0))) .nil))) (.e (.call ix.f_look (.cons (.item (.e (.var 2)) (.con (.int 1))) .nil))))) .nil))))⟩
/-- is_pairing: 0 first, 1 second, 2 value, 3 flips, 4 held, 5 item, 6 flags, 7 moves, 8 one, 9 two, 10 deed, 11 one_after, 12 two_after -/
def F_is_pairing (ix : Lk) : Fn := ⟨4, 13, true, (.cons (.ex (.call ix.f_check_comparable (.cons (.var 0) (.cons (.var 1) .nil)))) (.cons (.ife (.not (.t (.isi (.var 2) .list))) (.cons (.ret (.con (.bl false))) .nil) .nil) (.cons .no (.cons (.for (.nm 5) (.a (.e (.var 2))) (.cons (.ife (.not (.t (.call ix.f_is_joined (.cons (.var 0) (.cons (.var 1) (.cons (.var 5) .nil)))))) (.cons (.ret (.con (.bl false))) .nil) .nil) (.cons (.itm (.var 4) (.var 5) (.con (.bl true))) .nil))) (.cons (.for (.nm 6) (.a (.e (.call ix.f_all_flags (.cons (.item (.e (.var 0)) (.con (.int 0))) .nil)))) (.cons (.set (.nm 8) (.attr (.call ix.f_begin (.cons (.item (.e (.var 0)) (.con (.int 0))) (.cons (.item (.e (.var 0)) (.con (.int 1))) (.cons (.var 6) .nil)))) 17)) (.cons (.ife (.t (.op2 .notin (.e (.tup (.cons (.var 8) (.cons (.attr (.call ix.f_begin (.cons (.item (.e (.var 1)) (.con (.int 0))) (.cons (.item (.e (.var 1)) (.con (.int 1))) (.cons (.var 6) .nil)))) 17) .nil)))) (.e (.var 4)))) (.cons (.ret (.con (.bl false))) .nil) .nil) .nil))) (.cons (.set (.nm 7) (.callS ix.f_deeds (.cons (.item (.e (.var 0)) (.con (.int 0))) (.cons (.var 3) .nil)) [.inl 0, .inl 1])) (.cons (.for (.tp [8, 9]) (.a (.e (.bf .list (.e (.var 4))))) (.cons (.for (.nm 10) (.a (.e (.var 7))) (.cons (.set (.tp [11, 12]) (.tup (.cons (.call ix.f_moved (.cons (.var 0) (.cons (.var 8) (.cons (.var 10) .nil)))) (.cons (.call ix.f_moved (.cons (.var 1) (.cons (.var 9) (.cons (.var 10) .nil)))) .nil)))) (.cons (.ife (.and (.t (.isN false (.var 11))) (.t (.isN false (.var 12)))) (.cons .cont .nil) .nil) (.cons (.ife (.t (.op2 .notin (.e (.tup (.cons (.var 11) (.cons (.var 12) .nil)))) (.e (.var 4)))) (.cons (.ret (.con (.bl false))) .nil) .nil) .nil)))) .nil)) (.cons (.ret (.con (.bl true))) .nil))))))))⟩
/-- grouped: 0 marks, 1 groups, 2 index, 3 mark, 4 group -/
def F_grouped (ix : Lk) : Fn := ⟨1, 5, false, (.cons .no (.cons (.for (.tp [2, 3]) (.enum (.e (.var 0))) (.cons .no (.cons (.ex (.mt .append (.var 4) (.e (.var 2)))) .nil))) (.cons .no .nil)))⟩
/-- numbered: 0 signs, 1 numbers, 2 sign -/
def F_numbered (ix : Lk) : Fn := ⟨1, 3, false, (.cons .no (.cons (.for (.nm 2) (.a (.e (.var 0))) (.cons (.ife (.t (.op2 .notin (.e (.var 2)) (.e (.var 1)))) (.cons (.itm (.var 1) (.var 2) (.bf .len (.e (.var 1)))) .nil) .nil) .nil)) (.cons (.ret (.new (.lc (.a (.e (.var 0))) (.nm 2) .no (.item (.e (.var 1)) (.var 2))))) .nil)))⟩
/-- refined: 0 book, 1 marks, 2 signs, 3 index, 4 mark, 5 behind, 6 target -/
def F_refined (ix : Lk) : Fn := ⟨2, 7, false, (.cons (.set (.nm 2) (.new (.lst .nil))) (.cons (.for (.tp [3, 4]) (.enum (.e (.var 1))) (.cons (.set (.nm 5) (.new (.lst .nil))) (.cons (.for (.nm 6) (.a (.e (.item (.e (.attr (.var 0) 148)) (.var 3)))) (.cons (.ife (.t (.isN false (.var 6))) (.cons (.ex (.mt .append (.var 5) (.e (.neg (.con (.int 1)))))) .nil) (.cons (.ex (.mt .append (.var 5) (.e (.item (.e (.var 1)) (.var 6))))) .nil)) .nil)) (.cons (.ex (.mt .append (.var 2) (.e (.tup (.cons (.var 4) (.cons (.bf .tuple (.e (.var 5))) .nil)))))) .nil)))) (.cons (.ret (.call ix.f_numbered (.cons (.var 2) .nil))) .nil)))⟩
/-- classes: 0 book, 1 marks, 2 finer, 3 standing -/
def F_classes (ix : Lk) : Fn := ⟨1, 4, false, (.cons (.set (.nm 1) (.call ix.f_numbered (.cons (.new (.lc (.a (.e (.attr (.var 0) 130))) (.nm 3) .no (.call ix.f_look (.cons (.var 3) .nil)))) .nil))) (.cons (.set (.nm 2) (.call ix.f_refined (.cons (.var 0) (.cons (.var 1) .nil)))) (.cons (.whl (.t (.op2 .gt (.e (.bf .setlen (.e (.var 2)))) (.e (.bf .setlen (.e (.var 1)))))) (.cons (.set (.nm 1) (.var 2)) (.cons (.set (.nm 2) (.call ix.f_refined (.cons (.var 0) (.cons (.var 1) .nil)))) .nil))) (.cons (.ret (.call ix.f_grouped (.cons (.var 1) .nil))) .nil))))⟩
/-- check_rules: 0 rules -/
def F_check_rules (ix : Lk) : Fn := ⟨1, 1, false, (.cons (.ife (.or (.t (.op2 .lt (.e (.bf .len (.e (.var 0)))) (.e (.con (.int 1))))) (.t (.op2 .gt (.e (.bf .len (.e (.var 0)))) (.e (.con (.int 6)))))) (.cons .no .nil) .nil) .nil)⟩
/-- rules_alike: 0 site, 1 rules, 2 flips, 3 limit, 4 leaders, 5 low, 6 high, 7 same -/
def F_rules_alike (ix : Lk) : Fn := ⟨4, 8, true, (.cons (.ex (.call ix.f_check_bound (.cons (.var 3) (.cons (.con (.int 20000)) .nil)))) (.cons (.ex (.call ix.f_check_rules (.cons (.var 1) .nil))) (.cons .no (.cons (.for (.nm 5) (.rng (.con (.int 0)) (.bf .len (.e (.var 1)))) (.cons (.for (.nm 6) (.rng (.op2 .add (.e (.var 5)) (.e (.con (.int 1)))) (.bf .len (.e (.var 1)))) (.cons (.set (.nm 7) (.callS ix.f_alike (.cons (.tup (.cons (.var 0) (.cons (.item (.e (.var 1)) (.var 5)) .nil))) (.cons (.tup (.cons (.var 0) (.cons (.item (.e (.var 1)) (.var 6)) .nil))) (.cons (.var 2) (.cons (.var 3) .nil)))) [.inl 0, .inl 1, .inl 2, .inl 3])) (.cons (.ife (.and (.t (.var 7)) (.t (.op2 .eq (.e (.item (.e (.var 4)) (.var 6))) (.e (.var 6))))) (.cons (.itm (.var 4) (.var 6) (.var 5)) .nil) .nil) .nil))) .nil)) (.cons (.ret (.call ix.f_grouped (.cons (.var 4) .nil))) .nil)))))⟩
/-- most_leads: 0 book, 1 standing, 2 most, 3 best, 4 deed, 5 made, 6 many, 7 flags, 8 done_before, 9 event -/
def F_most_leads (ix : Lk) : Fn := ⟨1, 10, false, (.cons (.mix [.inl 2, .inl 3] (.tup (.cons (.con (.int 0)) (.cons (.con .non) .nil)))) (.cons (.for (.nm 1) (.a (.e (.meth (.var 0) 143 .nil))) (.cons (.for (.nm 4) (.a (.e (.meth (.var 0) 92 .nil))) (.cons (.set (.nm 5) (.item (.e (.call ix.f_outcome (.cons (.attr (.var 0) 139) (.cons (.attr (.var 0) 131) (.cons (.var 1) (.cons (.var 4) .nil)))))) (.con (.int 0)))) (.cons (.ife (.t (.isN true (.var 5))) (.cons (.set (.nm 6) (.bf .len (.lc (.a (.e (.attr (.var 5) 48))) (.nm 9) (.yes (.t (.op2 .eq (.e (.item (.e (.var 9)) (.con (.int 0)))) (.e (.con (.str [108, 101, 100])))))) (.var 9)))) (.cons (.ife (.t (.op2 .gt (.e (.var 6)) (.e (.var 2)))) (.cons (.set (.nm 2) (.var 6)) (.cons (.set (.tp [7, 8]) (.meth (.var 0) 80 (.cons (.var 1) .nil))) (.cons .no .nil))) .nil) .nil)) .nil) .nil))) .nil)) (.cons (.ret (.tup (.cons (.var 2) (.cons (.var 3) .nil)))) .nil)))⟩
/-- never_done: 0 book, 1 paths_done, 2 standing, 3 deed, 4 made, 5 path -/
def F_never_done (ix : Lk) : Fn := ⟨1, 6, false, (.cons .no (.cons (.for (.nm 2) (.a (.e (.meth (.var 0) 143 .nil))) (.cons (.for (.nm 3) (.a (.e (.meth (.var 0) 92 .nil))) (.cons (.set (.nm 4) (.item (.e (.call ix.f_outcome (.cons (.attr (.var 0) 139) (.cons (.attr (.var 0) 131) (.cons (.var 2) (.cons (.var 3) .nil)))))) (.con (.int 0)))) (.cons (.ife (.t (.isN true (.var 4))) (.cons (.for (.nm 5) (.a (.e (.attr (.var 4) 41))) (.cons (.itm (.var 1) (.var 5) (.con (.bl true))) .nil)) .nil) .nil) .nil))) .nil)) (.cons (.ret (.new (.lc (.a (.e (.meth (.attr (.var 0) 139) 129 .nil))) (.nm 5) (.yes (.t (.op2 .notin (.e (.var 5)) (.e (.var 1))))) (.var 5)))) .nil)))⟩
/-- least_shown: 0 book, 1 page, 2 standing -/
def F_least_shown (ix : Lk) : Fn := ⟨2, 3, false, (.cons (.ife (.t (.op2 .notin (.e (.var 1)) (.e (.meth (.attr (.var 0) 139) 103 .nil)))) (.cons .no .nil) .nil) (.cons (.for (.nm 2) (.a (.e (.meth (.var 0) 143 .nil))) (.cons (.ife (.t (.op2 .eq (.e (.item (.e (.var 2)) (.con (.int 1)))) (.e (.var 1)))) (.cons (.ret (.meth (.var 0) 80 (.cons (.var 2) .nil))) .nil) .nil) .nil)) (.cons (.ret (.con .non)) .nil)))⟩
/-- is_settled: 0 standing -/
def F_is_settled (ix : Lk) : Fn := ⟨1, 1, false, (.cons (.ret (.and (.isN false (.item (.e (.var 0)) (.con (.int 4)))) (.op2 .eq (.e (.item (.e (.var 0)) (.con (.int 1)))) (.e (.item (.e (.item (.e (.var 0)) (.con (.int 2)))) (.item (.e (.var 0)) (.con (.int 3)))))))) .nil)⟩
/-- lost: 0 book, 1 sources, 2 found, 3 safe, 4 at, 5 index, 6 targets, 7 target, 8 source, 9 standing -/
def F_lost (ix : Lk) : Fn := ⟨1, 10, false, (.cons (.set (.nm 1) (.new (.lc (.a (.e (.attr (.var 0) 130))) (.nm 9) .no (.new (.lst .nil))))) (.cons (.for (.tp [5, 6]) (.enum (.e (.attr (.var 0) 148))) (.cons (.for (.nm 7) (.a (.e (.var 6))) (.cons (.ife (.t (.isN true (.var 7))) (.cons (.ex (.mt .append (.item (.e (.var 1)) (.var 7)) (.e (.var 5)))) .nil) .nil) .nil)) .nil)) (.cons (.set (.nm 2) (.new (.lc (.enum (.e (.attr (.var 0) 130))) (.tp [5, 9]) (.yes (.t (.call ix.f_is_settled (.cons (.var 9) .nil)))) (.var 5)))) (.cons (.set (.nm 3) (.dcomp (.a (.e (.var 2))) (.nm 5) (.var 5) (.con (.bl true)))) (.cons (.set (.nm 4) (.con (.int 0))) (.cons (.whl (.t (.op2 .lt (.e (.var 4)) (.e (.bf .len (.e (.var 2)))))) (.cons (.for (.nm 8) (.a (.e (.item (.e (.var 1)) (.item (.e (.var 2)) (.var 4))))) (.cons (.ife (.t (.op2 .notin (.e (.var 8)) (.e (.var 3)))) (.cons (.itm (.var 3) (.var 8) (.con (.bl true))) (.cons (.ex (.mt .append (.var 2) (.e (.var 8)))) .nil)) .nil) .nil)) (.cons (.aug 4 .add (.con (.int 1))) .nil))) (.cons (.ret (.new (.lc (.enum (.e (.attr (.var 0) 130))) (.tp [5, 9]) (.yes (.t (.op2 .notin (.e (.var 5)) (.e (.var 3))))) (.var 9)))) .nil)))))))⟩
/-- is_rule_change: 0 rule, 1 part, 2 value -/
def F_is_rule_change (ix : Lk) : Fn := ⟨3, 3, false, (.cons .no (.cons (.ret (.con (.bl true))) .nil))⟩
/-- is_guard_change: 0 site, 1 page, 2 side, 3 rows -/
def F_is_guard_change (ix : Lk) : Fn := ⟨4, 4, false, (.cons .no (.cons (.ret (.con (.bl true))) .nil))⟩
/-- is_change: 0 site, 1 rule, 2 value -/
def F_is_change (ix : Lk) : Fn := ⟨3, 3, false, (.cons (.ife (.or (.not (.t (.isi (.var 2) .tuple))) (.t (.op2 .lt (.e (.bf .len (.e (.var 2)))) (.e (.con (.int 3)))))) (.cons (.ret (.con (.bl false))) .nil) .nil) (.cons (.ife (.and (.t (.op2 .eq (.e (.item (.e (.var 2)) (.con (.int 0)))) (.e (.con (.str [114, 117, 108, 101]))))) (.t (.op2 .eq (.e (.bf .len (.e (.var 2)))) (.e (.con (.int 3)))))) (.cons (.ret (.call ix.f_is_rule_change (.cons (.var 1) (.cons (.item (.e (.var 2)) (.con (.int 1))) (.cons (.item (.e (.var 2)) (.con (.int 2))) .nil))))) .nil) .nil) (.cons (.ife (.and (.t (.op2 .eq (.e (.item (.e (.var 2)) (.con (.int 0)))) (.e (.con (.str [103, 117, 97, 114, 100]))))) (.t (.op2 .eq (.e (.bf .len (.e (.var 2)))) (.e (.con (.int 4)))))) (.cons (.ret (.call ix.f_is_guard_change (.cons (.var 0) (.cons (.item (.e (.var 2)) (.con (.int 1))) (.cons (.item (.e (.var 2)) (.con (.int 2))) (.cons (.item (.e (.var 2)) (.con (.int 3))) .nil)))))) .nil) .nil) (.cons (.ret (.con (.bl false))) .nil))))⟩
/-- aim: 0 change -/
def F_aim (ix : Lk) : Fn := ⟨1, 1, false, (.cons (.ife (.t (.op2 .eq (.e (.item (.e (.var 0)) (.con (.int 0)))) (.e (.con (.str [114, 117, 108, 101]))))) (.cons (.ret (.slc (.e (.var 0)) .no (.yes (.con (.int 2))))) .nil) .nil) (.cons (.ret (.slc (.e (.var 0)) .no (.yes (.con (.int 3))))) .nil))⟩
/-- with_changes: 0 site, 1 rule, 2 changes, 3 aims, 4 change, 5 index -/
def F_with_changes (ix : Lk) : Fn := ⟨3, 6, false, (.cons (.set (.nm 3) (.new (.lst .nil))) (.cons (.for (.tp [5, 4]) (.enum (.e (.var 2))) (.cons (.ife (.or (.not (.t (.call ix.f_is_change (.cons (.var 0) (.cons (.var 1) (.cons (.var 4) .nil)))))) (.t (.op2 .isin (.e (.call ix.f_aim (.cons (.var 4) .nil))) (.e (.var 3))))) (.cons .no .nil) .nil) (.cons (.ex (.mt .append (.var 3) (.e (.call ix.f_aim (.cons (.var 4) .nil))))) .nil))) (.cons (.for (.nm 4) (.a (.e (.var 2))) (.cons (.ife (.t (.op2 .eq (.e (.item (.e (.var 4)) (.con (.int 0)))) (.e (.con (.str [114, 117, 108, 101]))))) (.cons (.set (.nm 1) (.meth (.var 1) 165 (.cons (.item (.e (.var 4)) (.con (.int 1))) (.cons (.item (.e (.var 4)) (.con (.int 2))) .nil)))) .nil) (.cons (.set (.nm 0) (.meth (.var 0) 164 (.cons (.item (.e (.var 4)) (.con (.int 1))) (.cons (.item (.e (.var 4)) (.con (.int 2))) (.cons (.item (.e (.var 4)) (.con (.int 3))) .nil))))) .nil)) .nil)) (.cons (.ret (.tup (.cons (.var 0) (.cons (.var 1) .nil)))) .nil))))⟩
/-- fault_kinds: 0 site, 1 rule, 2 flips, 3 limit -/
def F_fault_kinds (ix : Lk) : Fn := ⟨4, 4, false, (.cons (.ret (.meth (.meth (.makeS ix.c_Book (.cons (.var 0) (.cons (.var 1) (.cons (.var 2) (.cons (.var 3) .nil)))) [.inl 0, .inl 1, .inl 2, .inl 3]) 157 .nil) 73 .nil)) .nil)⟩
/-- check_candidates: 0 site, 1 rule, 2 candidates, 3 index, 4 change -/
def F_check_candidates (ix : Lk) : Fn := ⟨3, 5, false, (.cons (.for (.tp [3, 4]) (.enum (.e (.var 2))) (.cons (.ife (.or (.t (.op2 .gt (.e (.var 3)) (.e (.con (.int 5))))) (.or (.not (.t (.call ix.f_is_change (.cons (.var 0) (.cons (.var 1) (.cons (.var 4) .nil)))))) (.t (.op2 .isin (.e (.var 4)) (.e (.slc (.e (.var 2)) .no (.yes (.var 3)))))))) (.cons .no .nil) .nil) .nil)) .nil)⟩
/-- sets_of: 0 candidates, 1 size, 2 found, 3 index, 4 change, 5 other -/
def F_sets_of (ix : Lk) : Fn := ⟨2, 6, false, (.cons (.ife (.t (.op2 .eq (.e (.var 1)) (.e (.con (.int 1))))) (.cons (.ret (.new (.lc (.a (.e (.var 0))) (.nm 4) .no (.tup (.cons (.var 4) .nil))))) .nil) .nil) (.cons (.set (.nm 2) (.new (.lst .nil))) (.cons (.for (.tp [3, 4]) (.enum (.e (.var 0))) (.cons (.for (.nm 5) (.a (.e (.slc (.e (.var 0)) (.yes (.op2 .add (.e (.var 3)) (.e (.con (.int 1))))) .no))) (.cons (.ife (.t (.op2 .ne (.e (.call ix.f_aim (.cons (.var 4) .nil))) (.e (.call ix.f_aim (.cons (.var 5) .nil))))) (.cons (.ex (.mt .append (.var 2) (.e (.tup (.cons (.var 4) (.cons (.var 5) .nil)))))) .nil) .nil) .nil)) .nil)) (.cons (.ret (.var 2)) .nil))))⟩
/-- heals: 0 site, 1 rule, 2 kind, 3 candidates, 4 flips, 5 limit, 6 elder, 7 size, 8 healing, 9 changes, 10 kinds, 11 changed_site, 12 changed_rule, 13 found -/
def F_heals (ix : Lk) : Fn := ⟨6, 14, true, (.cons (.ex (.call ix.f_check_bound (.cons (.var 5) (.cons (.con (.int 10000)) .nil)))) (.cons (.ex (.call ix.f_check_kind (.cons (.var 2) .nil))) (.cons (.ex (.call ix.f_check_candidates (.cons (.var 0) (.cons (.var 1) (.cons (.var 3) .nil))))) (.cons (.set (.nm 6) (.call ix.f_fault_kinds (.cons (.var 0) (.cons (.var 1) (.cons (.var 4) (.cons (.var 5) .nil)))))) (.cons (.ife (.t (.op2 .notin (.e (.var 2)) (.e (.var 6)))) (.cons (.ret (.new (.lst (.cons (.tup .nil) .nil)))) .nil) .nil) (.cons (.for (.nm 7) (.a (.e (.tup (.cons (.con (.int 1)) (.cons (.con (.int 2)) .nil))))) (.cons (.set (.nm 8) (.new (.lst .nil))) (.cons (.for (.nm 9) (.a (.e (.call ix.f_sets_of (.cons (.var 3) (.cons (.var 7) .nil))))) (.cons (.set (.tp [11, 12]) (.call ix.f_with_changes (.cons (.var 0) (.cons (.var 1) (.cons (.var 9) .nil))))) (.cons (.set (.nm 10) (.call ix.f_fault_kinds (.cons (.var 11) (.cons (.var 12) (.cons (.var 4) (.cons (.var 5) .nil)))))) (.cons (.ife (.and (.t (.op2 .notin (.e (.var 2)) (.e (.var 10)))) (.t (.bf .all (.lc (.a (.e (.var 10))) (.nm 13) .no (.op2 .isin (.e (.var 13)) (.e (.var 6))))))) (.cons (.ex (.mt .append (.var 8) (.e (.var 9)))) .nil) .nil) .nil)))) (.cons (.ife (.t (.var 8)) (.cons (.ret (.var 8)) .nil) .nil) .nil)))) (.cons (.ret (.new (.lst .nil))) .nil)))))))⟩
/-- rules_free: 0 site, 1 kinds, 2 rules, 3 flips, 4 limit, 5 kind, 6 free, 7 index, 8 rule, 9 found -/
def F_rules_free (ix : Lk) : Fn := ⟨5, 10, true, (.cons (.ex (.call ix.f_check_bound (.cons (.var 4) (.cons (.con (.int 10000)) .nil)))) (.cons (.for (.nm 5) (.a (.e (.var 1))) (.cons (.ex (.call ix.f_check_kind (.cons (.var 5) .nil))) .nil)) (.cons (.ex (.call ix.f_check_rules (.cons (.var 2) .nil))) (.cons (.set (.nm 6) (.new (.lst .nil))) (.cons (.for (.tp [7, 8]) (.enum (.e (.var 2))) (.cons (.set (.nm 9) (.call ix.f_fault_kinds (.cons (.var 0) (.cons (.var 8) (.cons (.var 3) (.cons (.var 4) .nil)))))) (.cons (.ife (.not (.t (.new (.lc (.a (.e (.var 1))) (.nm 5) (.yes (.t (.op2 .isin (.e (.var 5)) (.e (.var 9))))) (.var 5))))) (.cons (.ex (.mt .append (.var 6) (.e (.var 7)))) .nil) .nil) .nil))) (.cons (.ret (.var 6)) .nil))))))⟩
/-- Desk___init__: 0 self, 1 site, 2 rules, 3 flips, 4 limit -/
def F_Desk___init__ (ix : Lk) : Fn := ⟨5, 5, true, (.cons (.ex (.call ix.f_check_bound (.cons (.var 4) (.cons (.con (.int 10000)) .nil)))) (.cons (.ex (.call ix.f_check_rules (.cons (.var 2) .nil))) (.cons (.atr (.var 0) 118 (.var 1)) (.cons (.atr (.var 0) 132 (.bf .list (.e (.var 2)))) (.cons (.atr (.var 0) 55 (.var 3)) (.cons (.atr (.var 0) 90 (.var 4)) (.cons (.atr (.var 0) 89 (.new (.lst .nil))) (.cons (.atr (.var 0) 43 (.new (.lst .nil))) (.cons (.atr (.var 0) 155 (.new (.lst .nil))) .nil)))))))))⟩
/-- Desk_set_bound: 0 self, 1 value -/
def F_Desk_set_bound (ix : Lk) : Fn := ⟨2, 2, false, (.cons (.ex (.call ix.f_check_bound (.cons (.var 1) (.cons (.con (.int 10000)) .nil)))) (.cons (.atr (.var 0) 90 (.var 1)) .nil))⟩
/-- Desk___ior__: 0 self, 1 kind -/
def F_Desk___ior__ (ix : Lk) : Fn := ⟨2, 2, false, (.cons (.ex (.call ix.f_check_kind (.cons (.var 1) .nil))) (.cons (.ife (.t (.op2 .notin (.e (.var 1)) (.e (.attr (.var 0) 89)))) (.cons (.ex (.mt .append (.attr (.var 0) 89) (.e (.var 1)))) .nil) .nil) (.cons (.ret (.var 0)) .nil)))⟩
/-- Desk___isub__: 0 self, 1 kind, 2 other -/
def F_Desk___isub__ (ix : Lk) : Fn := ⟨2, 3, false, (.cons (.ex (.call ix.f_check_kind (.cons (.var 1) .nil))) (.cons .no (.cons (.ret (.var 0)) .nil)))⟩
/-- Desk___iter__: 0 self -/
def F_Desk___iter__ (ix : Lk) : Fn := ⟨1, 1, false, (.cons .no .nil)⟩
/-- Desk___getitem__: 0 self, 1 path -/
def F_Desk___getitem__ (ix : Lk) : Fn := ⟨2, 2, false, (.cons (.ret (.meth (.attr (.var 0) 118) 128 (.cons (.var 1) .nil))) .nil)⟩
/-- Desk___setitem__: 0 self, 1 path, 2 row -/
def F_Desk___setitem__ (ix : Lk) : Fn := ⟨3, 3, false, (.cons (.ex (.meth (.var 0) 120 (.cons (.meth (.attr (.var 0) 118) 166 (.cons (.var 1) (.cons (.var 2) .nil))) .nil))) .nil)⟩
/-- Desk___len__: 0 self -/
def F_Desk___len__ (ix : Lk) : Fn := ⟨1, 1, false, (.cons (.ret (.bf .len (.e (.attr (.var 0) 43)))) .nil)⟩
/-- Desk_put_guard: 0 self, 1 page, 2 side, 3 rows -/
def F_Desk_put_guard (ix : Lk) : Fn := ⟨4, 4, false, (.cons (.ex (.meth (.var 0) 120 (.cons (.meth (.attr (.var 0) 118) 164 (.cons (.var 1) (.cons (.var 2) (.cons (.var 3) .nil)))) .nil))) .nil)⟩
/-- Desk_put_site: 0 self, 1 site -/
def F_Desk_put_site (ix : Lk) : Fn := ⟨2, 2, false, (.cons (.ex (.mt .append (.attr (.var 0) 43) (.e (.attr (.var 0) 118)))) (.cons (.atr (.var 0) 118 (.var 1)) (.cons (.atr (.var 0) 155 (.new (.lst .nil))) .nil)))⟩
/-- Desk_undo: 0 self -/
def F_Desk_undo (ix : Lk) : Fn := ⟨1, 1, false, (.cons (.ife (.t (.op2 .eq (.e (.bf .len (.e (.attr (.var 0) 43)))) (.e (.con (.int 0))))) (.cons .no .nil) .nil) (.cons (.ex (.mt .append (.attr (.var 0) 155) (.e (.attr (.var 0) 118)))) (.cons (.atr (.var 0) 118 (.mt0 .pop (.attr (.var 0) 43))) .nil)))⟩
/-- Desk_redo: 0 self -/
def F_Desk_redo (ix : Lk) : Fn := ⟨1, 1, false, (.cons (.ife (.t (.op2 .eq (.e (.bf .len (.e (.attr (.var 0) 155)))) (.e (.con (.int 0))))) (.cons .no .nil) .nil) (.cons (.ex (.mt .append (.attr (.var 0) 43) (.e (.attr (.var 0) 118)))) (.cons (.atr (.var 0) 118 (.mt0 .pop (.attr (.var 0) 155))) .nil)))⟩
/-- Desk_verdicts: 0 self, 1 found, 2 rule, 3 book -/
def F_Desk_verdicts (ix : Lk) : Fn := ⟨1, 4, false, (.cons (.set (.nm 1) (.new (.lst .nil))) (.cons (.for (.nm 2) (.a (.e (.attr (.var 0) 132))) (.cons .no .nil)) (.cons (.ret (.var 1)) .nil)))⟩
/-- Desk_attempt: 0 self, 1 edits, 2 present, 3 earlier, 4 undone, 5 path, 6 row -/
def F_Desk_attempt (ix : Lk) : Fn := ⟨2, 7, false, (.cons .no (.cons .no .nil))⟩
end G

set_option linter.all false
set_option maxRecDepth 100000
set_option autoImplicit false
/-! the defs of a program in the small language (printed by gen.py) -/
namespace G
open DL
structure Lx extends Lk where

/-- law: 0 _law_script, 1 _law_box_here, 2 _law_many, 3 _law_answers, 4 _law_tosses, 5 _law_parts_here, 6 _law_bits, 7 _law_site, 8 _law_flags, 9 _law_name, 10 _law_page, 11 _law_half, 12 _law_k, 13 _law_side, 14 _law_spot, 15 _law_pending, 16 _law_due -/
def X_law (ix : Lx) : Fn := ⟨1, 17, false, (.cons (.set (.nm 1) (.call ix.f__law_box (.cons (.var 0) .nil))) (.cons (.set (.nm 2) (.op2 .add (.e (.con (.int 1))) (.e (.call ix.f__law_draw (.cons (.var 1) (.cons (.con (.int 9)) .nil)))))) (.cons (.set (.nm 3) (.new (.lc (.rng (.con (.int 0)) (.var 2)) (.nm 12) .no (.op2 .eq (.e (.call ix.f__law_draw (.cons (.var 1) (.cons (.con (.int 2)) .nil)))) (.e (.con (.int 1))))))) (.cons (.set (.nm 4) (.new (.lc (.rng (.con (.int 0)) (.con (.int 3))) (.nm 12) .no (.op2 .eq (.e (.call ix.f__law_draw (.cons (.var 1) (.cons (.con (.int 2)) .nil)))) (.e (.con (.int 1))))))) (.cons (.set (.nm 5) (.call ix.f__law_parts (.cons (.var 1) .nil))) (.cons (.set (.nm 6) (.item (.e (.var 5)) (.con (.int 0)))) (.cons (.set (.nm 7) (.makeS ix.c_Site (.cons (.var 6) (.cons (.item (.e (.var 5)) (.con (.int 1))) (.cons (.item (.e (.var 5)) (.con (.int 2))) (.cons (.item (.e (.var 5)) (.con (.int 3))) .nil)))) [.inl 0, .inl 1, .inl 2, .inl 3])) (.cons (.set (.nm 8) (.bf .tuple (.e (.slc (.e (.var 4)) .no (.yes (.bf .len (.e (.var 6)))))))) (.cons (.for (.tp [9, 10]) (.a (.e (.item (.e (.var 5)) (.con (.int 1))))) (.cons (.for (.nm 11) (.rng (.con (.int 0)) (.con (.int 2))) (.cons (.set (.nm 13) (.item (.lst (.cons (.con (.str [101, 110, 116, 101, 114])) (.cons (.con (.str [108, 101, 97, 118, 101])) .nil))) (.var 11))) (.cons (.for (.nm 14) (.a (.e (.call ix.f__law_asks (.cons (.item (.e (.var 10)) (.var 11)) (.cons (.tup .nil) .nil))))) (.cons (.set (.nm 15) (.call ix.f__law_after_ask (.cons (.item (.e (.var 10)) (.var 11)) (.cons (.var 14) (.cons (.item (.e (.var 3)) (.con (.int 0))) .nil))))) (.cons (.set (.nm 16) (.slc (.e (.call ix.f__law_guard (.cons (.var 6) (.cons (.var 15) (.cons (.var 8) (.cons (.slc (.e (.var 3)) (.yes (.con (.int 1))) .no) .nil)))))) .no (.yes (.con (.int 3))))) (.cons (.ife (.not (.t (.call ix.f__law_same (.cons (.call ix.f_resume_guard (.cons (.var 7) (.cons (.var 9) (.cons (.var 13) (.cons (.var 8) (.cons (.var 14) (.cons (.var 3) .nil))))))) (.cons (.var 16) .nil))))) (.cons (.ret (.con (.bl false))) .nil) .nil) (.cons (.ife (.not (.t (.call ix.f__law_same (.cons (.callS ix.f_resume_guard (.cons (.var 7) (.cons (.var 9) (.cons (.var 13) (.cons (.var 8) (.cons (.var 14) .nil))))) [.inl 0, .inl 1, .inl 2, .inl 3, .inl 4, .inr (.tup [])]) (.cons (.tup (.cons (.con (.str [119, 97, 105, 116])) (.cons (.var 8) (.cons (.var 14) .nil)))) .nil))))) (.cons (.ret (.con (.bl false))) .nil) .nil) .nil))))) .nil))) .nil)) (.cons (.ret (.con (.bl true))) .nil))))))))))⟩
end G

set_option linter.all false
set_option maxRecDepth 100000
set_option maxHeartbeats 1000000
set_option autoImplicit false
/-! LB1: the law's own draws. -/
namespace G
open DL
section
variable {T : Tb} {ix : Lk} {n : Nat} {S : Sto}
def mixI (v k : Int) : Int :=
  let a := (v + 7919 * k + 1) * 48271 % 2147483647
  let b := a * (a / 1009 + 69621) % 2147483647
  b * (b / 2003 + 40692) % 2147483399
theorem mix_ok (h : T.fns[ix.f__law_mix]? = some (F__law_mix ix)) (v k : Int) : callT T (n + 1) ix.f__law_mix [.int v, .int k] S = .ok (.int (mixI v k)) S := by
  rw [callT_def h rfl]
  have m1 : mulOk 7919 k = true := mulOk_l (by decide) (by decide)
  have m2 : mulOk (v + 7919 * k + 1) 48271 = true := mulOk_r (by decide) (by decide)
  have m3 : ∀ a : Int, mulOk (a % 2147483647) ((a % 2147483647) / 1009 + 69621) = true := fun a => mulOk_l (by omega) (by omega)
  have m4 : ∀ a : Int, mulOk (a % 2147483647) ((a % 2147483647) / 2003 + 40692) = true := fun a => mulOk_l (by omega) (by omega)
  simp [runF, F__law_mix, m1, m2, m3, m4, mixI]
/-- the law's box -/
structure Bx where
  c : Nat
  cells : List Int
  i : Nat
  rest : Int
  seed : Int
  cnt : Int
def Bx.o (b : Bx) : O := .lst [.ref b.c, .int b.i, .int b.rest, .int b.seed, .int b.cnt]
structure BoxAt (S : Sto) (k : Nat) (b : Bx) : Prop where
  at_ : S[k]? = some b.o
  cs : S[b.c]? = some (.lst (b.cells.map .int))
  ne : b.c ≠ k
/-- the box k (its cells at c) has changed, new things may stand behind -/
structure Ef (k c : Nat) (S S' : Sto) : Prop where
  len : S.length ≤ S'.length
  old : ∀ (i : Nat), i ≠ k → i < S.length → S'[i]? = S[i]?
  bx : ∃ b, b.c = c ∧ BoxAt S' k b
  lt : k < S.length ∧ c < S.length
theorem Ef.trans {k c : Nat} {S S' S'' : Sto} (a : Ef k c S S') (b : Ef k c S' S'') : Ef k c S S'' := ⟨Nat.le_trans a.len b.len, fun i hk hi => (b.old i hk (Nat.lt_of_lt_of_le hi a.len)).trans (a.old i hk hi), b.bx, a.lt⟩
theorem Ef.at {k c i : Nat} {S S' : Sto} {o : O} (a : Ef k c S S') (hk : i ≠ k) (h : S[i]? = some o) : S'[i]? = some o := (a.old i hk (List.getElem?_eq_some_iff.mp h).1).trans h
theorem Ef.self {k c : Nat} {S S' : Sto} (a : Ef k c S S') : Ef k c S' S' := ⟨Nat.le_refl _, fun _ _ _ => rfl, a.bx, Nat.lt_of_lt_of_le a.lt.1 a.len, Nat.lt_of_lt_of_le a.lt.2 a.len⟩
/-- something new -/
theorem Ef.push {k c : Nat} {S S' X : Sto} (a : Ef k c S S') : Ef k c S (S' ++ X) := by
  obtain ⟨b, hc, hb⟩ := a.bx
  exact ⟨by simp; have := a.len; omega, fun i hk hi => (List.getElem?_append_left (Nat.lt_of_lt_of_le hi a.len)).trans (a.old i hk hi), ⟨b, hc, at_old hb.at_, at_old hb.cs, hb.ne⟩, a.lt⟩
/-- a new thing changed -/
theorem Ef.set {k c j : Nat} {S S' : Sto} {o : O} (a : Ef k c S S') (hj : S.length ≤ j) : Ef k c S (S'.set j o) := by
  obtain ⟨b, hc, hb⟩ := a.bx
  have := a.lt
  exact ⟨by simpa using a.len, fun i hk hi => (List.getElem?_set_ne (by omega)).trans (a.old i hk hi), ⟨b, hc, by rw [List.getElem?_set_ne (by omega)]; exact hb.at_, by rw [List.getElem?_set_ne (by omega)]; exact hb.cs, hb.ne⟩, a.lt⟩
theorem draw_ok (hm : T.fns[ix.f__law_mix]? = some (F__law_mix ix)) (h : T.fns[ix.f__law_draw]? = some (F__law_draw ix)) {k : Nat} {b : Bx} (hb : BoxAt S k b) {m : Int} (h0 : 0 < m) (h1 : m < 1073741824) :
    ∃ (v : Int) (b' : Bx), 0 ≤ v ∧ v < m ∧ b'.c = b.c ∧ b'.cells = b.cells ∧ callT T (n + 2) ix.f__law_draw [.ref k, .int m] S = .ok (.int v) (S.set k b'.o) := by
  rw [callT_def h rfl]
  obtain ⟨c, cells, i, rest, seed, cnt⟩ := b
  obtain ⟨hk, hc, hne⟩ := hb
  simp only [Bx.o] at hk hc hne
  have hlt : k < S.length := (List.getElem?_eq_some_iff.mp hk).1
  have hs : ∀ o : O, (S.set k o)[k]? = some o := fun o => List.getElem?_set_self hlt
  have hs2 : ∀ o : O, (S.set k o)[c]? = some (.lst (cells.map .int)) := fun o => by rw [List.getElem?_set_ne (Ne.symm hne)]; exact hc
  have ge : ∀ a : Int, 0 ≤ a % m := fun a => Int.emod_nonneg a (by omega)
  have lt : ∀ a : Int, a % m < m := fun a => Int.emod_lt_of_pos a h0
  by_cases hr : rest = 0
  · subst hr
    by_cases hi : i < cells.length
    · have hcell : (cells.map D.int)[i]? = some (.int cells[i]) := by simp [hi]
      by_cases hbig : cells[i] < 1000000000000000000
      · refine ⟨mixI cells[i] (cnt + 1) % m, ⟨c, cells, i + 1, 0, seed, cnt + 1⟩, ge _, lt _, rfl, rfl, ?_⟩
        simp [runF, F__law_draw, item_lst hk, setItem_lst hk, item_lst (hs _), setItem_lst (hs _), item_lst (hs2 _), bf_len_ref (its_lst (hs2 _)), mix_ok hm, h0, hi, atI_nat, hbig, Bx.o]
      · have hne0 : cells[i] ≠ 0 := by omega
        refine ⟨cells[i] % m, ⟨c, cells, i + 1, cells[i] / m, seed, cnt + 1⟩, ge _, lt _, rfl, rfl, ?_⟩
        simp [runF, F__law_draw, item_lst hk, setItem_lst hk, item_lst (hs _), setItem_lst (hs _), item_lst (hs2 _), bf_len_ref (its_lst (hs2 _)), mix_ok hm, h0, h1, hi, atI_nat, hbig, hne0, Bx.o]
    · refine ⟨mixI seed (cnt + 1) % m, ⟨c, cells, i, 0, seed, cnt + 1⟩, ge _, lt _, rfl, rfl, ?_⟩
      simp [runF, F__law_draw, item_lst hk, setItem_lst hk, item_lst (hs _), setItem_lst (hs _), item_lst (hs2 _), bf_len_ref (its_lst (hs2 _)), mix_ok hm, h0, h1, hi, atI_nat, Bx.o]
  · refine ⟨rest % m, ⟨c, cells, i, rest / m, seed, cnt + 1⟩, ge _, lt _, rfl, rfl, ?_⟩
    simp [runF, F__law_draw, item_lst hk, setItem_lst hk, item_lst (hs _), setItem_lst (hs _), item_lst (hs2 _), bf_len_ref (its_lst (hs2 _)), mix_ok hm, h0, h1, hr, atI_nat, Bx.o]
/-- a draw, as a step -/
theorem draw_ef (hm : T.fns[ix.f__law_mix]? = some (F__law_mix ix)) (h : T.fns[ix.f__law_draw]? = some (F__law_draw ix)) {k c : Nat} {S0 : Sto} (e : Ef k c S0 S) {m : Int} (h0 : 0 < m) (h1 : m < 1073741824) :
    ∃ (v : Int) (S' : Sto), 0 ≤ v ∧ v < m ∧ S'.length = S.length ∧ Ef k c S S' ∧ callT T (n + 2) ix.f__law_draw [.ref k, .int m] S = .ok (.int v) S' := by
  obtain ⟨b, hc, hb⟩ := e.bx
  obtain ⟨v, b', v0, v1, e1, e2, e3⟩ := draw_ok (n := n) hm h hb h0 h1
  have hlt : k < S.length := (List.getElem?_eq_some_iff.mp hb.at_).1
  refine ⟨v, _, v0, v1, by simp, ⟨by simp, fun i hi _ => List.getElem?_set_ne (Ne.symm hi), ⟨b', e1.trans hc, List.getElem?_set_self hlt, ?_, by rw [e1]; exact hb.ne⟩, e.self.lt⟩, e3⟩
  rw [e1, e2, List.getElem?_set_ne (Ne.symm hb.ne)]
  exact hb.cs
theorem box_ok (hm : T.fns[ix.f__law_mix]? = some (F__law_mix ix)) (h : T.fns[ix.f__law_box]? = some (F__law_box ix)) (ns : List Int) (hl : ns.length ≤ 63) :
    ∃ S, callT T (n + 2) ix.f__law_box [.ref 0] [.ro (ns.map .int)] = .ok (.ref 3) S ∧ S.length = 4 ∧ Ef 3 2 S S := by
  have key : okR (callT T (n + 2) ix.f__law_box [.ref 0] [.ro (ns.map .int)]) fun d S => d = .ref 3 ∧ S.length = 4 ∧ Ef 3 2 S S := by
    refine okR_call h rfl ?_
    have hcut : cutL (ns.map D.int) none (some 63) = ns.map D.int := by
      rw [cut_hi (by decide), List.take_of_length_le (by simp; omega)]
    have hro : ([O.ro (ns.map D.int)] : Sto)[0]? = some (.ro (ns.map D.int)) := rfl
    have hl1 : ([O.ro (ns.map D.int), O.lst (ns.map D.int)] : Sto)[1]? = some (.lst (ns.map D.int)) := rfl
    simp [F__law_box, slc_ref (its_ro hro), hcut, wk_lst hl1]
    refine okR_map id (stays_lst hl1) (fun x hx => ?_) (by simp [big]; omega) ?_
    · obtain ⟨i, _, rfl⟩ := List.mem_map.mp hx
      exact ⟨_, rfl, by simp⟩
    · have hl2 : ([O.ro (ns.map D.int), O.lst (ns.map D.int), O.lst (ns.map D.int)] : Sto)[2]? = some (.lst (ns.map D.int)) := rfl
      simp [wk_lst hl2]
      refine okS_for (fun i Γ S => ∃ (s : Int) (o : Option D), Γ = [some (.ref 0), some (.ref 2), some (.int s), o] ∧ S = [O.ro (ns.map D.int), O.lst (ns.map D.int), O.lst (ns.map D.int)]) _ 0 _ _ ⟨11, none, rfl, rfl⟩ (fun j Γ S hI => ?_) (fun j x Γ S hx hI => ?_) (fun Γ S hI => ?_)
      · obtain ⟨_, _, _, rfl⟩ := hI
        exact stays_lst hl2
      · obtain ⟨s, o, rfl, rfl⟩ := hI
        rw [List.getElem?_map] at hx
        cases hi : ns[j]? with
        | none => rw [hi] at hx; cases hx
        | some v =>
          rw [hi] at hx
          cases hx
          exact ⟨_, rfl, by simp [mix_ok hm]⟩
      · obtain ⟨s, o, rfl, rfl⟩ := hI
        simp
        exact ⟨Nat.le_refl _, fun i _ _ => rfl, ⟨⟨2, ns, 0, 0, s, 0⟩, rfl, rfl, rfl, by show (2 : Nat) ≠ 3; decide⟩, by simp⟩
  obtain ⟨d, S, e, rfl, h1, h2⟩ := okR_ex key
  exact ⟨S, e, h1, h2⟩
end
end G

set_option linter.all false
set_option maxRecDepth 100000
set_option maxHeartbeats 1000000
set_option autoImplicit false
/-! LB2: the law's own names. -/
namespace G
open DL
section
variable {T : Tb} {ix : Lk} {n : Nat} {S : Sto}
structure HD (T : Tb) (ix : Lk) : Prop where
  mix : T.fns[ix.f__law_mix]? = some (F__law_mix ix)
  draw : T.fns[ix.f__law_draw]? = some (F__law_draw ix)
theorem okR_draw (H : HD T ix) {k c : Nat} {S0 : Sto} (e : Ef k c S0 S) {m : Int} (h0 : 0 < m) (h1 : m < 1073741824) {Q : D → Sto → Prop} (q : ∀ (v : Int) (S' : Sto), 0 ≤ v → v < m → S'.length = S.length → Ef k c S S' → Q (.int v) S') :
    okR (callT T (n + 2) ix.f__law_draw [.ref k, .int m] S) Q := by
  obtain ⟨v, S', v0, v1, l, e1, e2⟩ := draw_ef (n := n) H.mix H.draw e h0 h1
  exact okR_of e2 (q v S' v0 v1 l e1)
def isNm (w : List Nat) : Prop := 1 ≤ w.length ∧ w.length ≤ 8 ∧ ∀ c ∈ w, 97 ≤ c ∧ c ≤ 122
def alpha : List Nat := [97, 98, 99, 100, 101, 102, 103, 104, 105, 106, 107, 108, 109, 110, 111, 112, 113, 114, 115, 116, 117, 118, 119, 120, 121, 122]
theorem alpha_at {v : Int} (h0 : 0 ≤ v) (h1 : v < 26) : ∃ c : Nat, L2.atI alpha v = some c ∧ 97 ≤ c ∧ c ≤ 122 := by
  rw [atI_at h0]
  have hl : v.toNat < alpha.length := by show v.toNat < 26; omega
  refine ⟨alpha[v.toNat], List.getElem?_eq_getElem hl, ?_⟩
  have : ∀ c ∈ alpha, 97 ≤ c ∧ c ≤ 122 := by decide
  exact this _ (List.getElem_mem hl)
theorem eqv_str {s t : List Nat} : eqv (.str s) (.str t) = decide (s = t) := rfl
theorem any_str {w : List Nat} {ws : List (List Nat)} : ((ws.map D.str).any fun z => eqv z (.str w)) = decide (w ∈ ws) := by
  induction ws with
  | nil => rfl
  | cons x xs ih =>
    rw [List.map_cons, List.any_cons, ih, eqv_str]
    simp only [List.mem_cons]
    by_cases h : x = w
    · subst h; simp
    · have h' : ¬ w = x := fun z => h z.symm
      simp [h, h']
theorem all_flat_str {ws : List (List Nat)} : (ws.map D.str).all flatD = true := by simp [flatD]
theorem in_strs {w : List Nat} {ws : List (List Nat)} {i : Nat} (h : S[i]? = some (.lst (ws.map .str))) : inT S (.d (.str w)) (.d (.ref i)) = some (decide (w ∈ ws)) := by
  rw [in_lst (x := .str w) h rfl all_flat_str, any_str]
theorem in_strsT {w : List Nat} {ws : List (List Nat)} : inT S (.d (.str w)) (.d (.tup (ws.map .str))) = some (decide (w ∈ ws)) := by
  rw [in_tup (x := .str w) rfl all_flat_str, any_str]
theorem nodup_le {α : Type} [DecidableEq α] : ∀ {l ws : List α}, l.Nodup → (∀ x ∈ l, x ∈ ws) → l.length ≤ ws.length
  | [], _, _, _ => Nat.zero_le _
  | a :: l, ws, nd, h => by
    obtain ⟨n1, n2⟩ := List.nodup_cons.mp nd
    have ha := h a (by simp)
    have ih := nodup_le (l := l) (ws := ws.erase a) n2 fun x hx => by
      rw [List.mem_erase_of_ne (fun (z : x = a) => n1 (z ▸ hx))]
      exact h x (by simp [hx])
    rw [List.length_erase_of_mem ha] at ih
    have : 0 < ws.length := List.length_pos_of_mem ha
    rw [List.length_cons]; omega
/-- one of the 26 is free -/
theorem free_one {p : List Nat} {ws : List (List Nat)} (hl : ws.length < 26) : ∃ c, c ∈ alpha ∧ p ++ [c] ∉ ws := by
  false_or_by_contra
  rename_i h
  have h' : ∀ c ∈ alpha, p ++ [c] ∈ ws := fun c hc => by
    false_or_by_contra
    exact h ⟨c, hc, by assumption⟩
  have nd : (alpha.map fun c => p ++ [c]).Nodup := by
    have : alpha.Nodup := by decide
    rw [List.nodup_iff_pairwise_ne] at this ⊢
    rw [List.pairwise_map]
    exact this.imp fun hab z => hab (by simpa using z)
  have := nodup_le nd (ws := ws) fun x hx => by
    obtain ⟨c, hc, rfl⟩ := List.mem_map.mp hx
    exact h' c hc
  simp [alpha] at this
  omega
theorem rngL_get' {lo : Int} {m j : Nat} {x : D} (h : (rngL lo m)[j]? = some x) : j < m ∧ x = .int (lo + j) := by
  have hj : j < m := by
    have := (List.getElem?_eq_some_iff.mp h).1
    rwa [rngL_len] at this
  rw [rngL_get m lo j hj] at h
  exact ⟨hj, (Option.some.inj h).symm⟩
theorem names_ok (H : HD T ix) (h : T.fns[ix.f__law_names]? = some (F__law_names ix)) {k c : Nat} {S0 : Sto} (e : Ef k c S0 S) {m : Int} (h0 : 0 ≤ m) (h1 : m ≤ 5) :
    okR (callT T (n + 3) ix.f__law_names [.ref k, .int m] S) fun d S' => ∃ ws : List (List Nat), d = .ref S.length ∧ S'[S.length]? = some (.lst (ws.map .str)) ∧ ws.length = m.toNat ∧ ws.Nodup ∧ (∀ w ∈ ws, isNm w) ∧ Ef k c S S' := by
  refine okR_call h rfl ?_
  have hkS : k < S.length := e.self.lt.1
  simp [F__law_names, smallI, h0, (by omega : m < 4611686018427387904), (by omega : -4611686018427387904 ≤ m)]
  refine okS_for (fun i Γ S' => ∃ (ws : List (List Nat)) (o3 o4 o5 o6 o7 : Option D), Γ = [some (.ref k), some (.int m), some (.ref S.length), o3, o4, o5, o6, o7] ∧ S'[S.length]? = some (.lst (ws.map .str)) ∧ ws.length = i ∧ ws.Nodup ∧ (∀ w ∈ ws, isNm w) ∧ Ef k c S S') _ 0 _ _ ?_ (fun _ _ _ _ => rfl) ?_ ?_
  · refine ⟨[], none, none, none, none, none, rfl, at_end, rfl, List.nodup_nil, (fun w hw => by cases hw), e.self.push⟩
  · rintro j x Γ S1 hx ⟨ws, o3, o4, o5, o6, o7, rfl, hw, hl, nd, hn, e1⟩
    obtain ⟨hj, rfl⟩ := rngL_get' hx
    refine ⟨_, rfl, ?_⟩
    simp
    refine okR_draw H e1 (by decide) (by decide) fun v S2 v0 v1 l2 e2 => ?_
    simp [smallI, (by omega : 1 + v < 4611686018427387904), (by omega : -4611686018427387904 ≤ 1 + v)]
    have hj5 : j < 5 := by omega
    clear hx
    refine okS_for (fun i Γ S' => ∃ (w : List Nat) (o5 : Option D), Γ = [some (.ref k), some (.int m), some (.ref S.length), some (.int j), some (.str w), o5, o6, o7] ∧ w.length = i ∧ (∀ c ∈ w, 97 ≤ c ∧ c ≤ 122) ∧ S'[S.length]? = some (.lst (ws.map .str)) ∧ Ef k c S S') _ 0 _ _ ?_ (fun _ _ _ _ => rfl) ?_ ?_
    · exact ⟨[], o5, rfl, rfl, (fun c hc => by cases hc), e2.at (by omega) hw, e1.trans e2⟩
    · rintro i x Γ S3 hx ⟨w, o5, rfl, hlw, hc, hw3, e3⟩
      obtain ⟨hi, rfl⟩ := rngL_get' hx
      refine ⟨_, rfl, ?_⟩
      simp
      refine okR_draw H e3 (by decide) (by decide) fun v3 S4 z0 z1 l4 e4 => ?_
      obtain ⟨c, hc1, hc2, hc3⟩ := alpha_at z0 z1
      have hc1' : L2.atI [97, 98, 99, 100, 101, 102, 103, 104, 105, 106, 107, 108, 109, 110, 111, 112, 113, 114, 115, 116, 117, 118, 119, 120, 121, 122] v3 = some c := hc1
      simp [hc1', big, (by omega : w.length + 1 ≤ 16777216)]
      refine ⟨by omega, fun x hx => ?_, e4.at (by omega) hw3, e3.trans e4⟩
      rcases hx with hx | rfl
      · exact hc x hx
      · exact ⟨hc2, hc3⟩
    · rintro Γ S3 ⟨w, o5, rfl, hlw, hc, hw3, e3⟩
      rw [rngL_len] at hlw
      have hw8 : isNm w := ⟨by omega, by omega, hc⟩
      simp [in_strs hw3]
      have fin : ∀ (w' : List Nat) (S5 : Sto), isNm w' → w' ∉ ws → S5[S.length]? = some (.lst (ws.map .str)) → Ef k c S S5 →
          ∃ x : List (List Nat), (S5.set S.length (O.lst (ws.map D.str ++ [D.str w'])))[S.length]? = some (O.lst (x.map D.str)) ∧ x.length = j + 1 ∧ x.Nodup ∧ (∀ w ∈ x, isNm w) ∧ Ef k c S (S5.set S.length (O.lst (ws.map D.str ++ [D.str w']))) := fun w' S5 h1 h2 h3 e5 => by
        refine ⟨ws ++ [w'], ?_, by simp [hl], ?_, fun z hz => ?_, e5.set (Nat.le_refl _)⟩
        · rw [at_set h3]; simp
        · rw [List.nodup_append]
          exact ⟨nd, by simp, fun x hx y hy => by rw [List.mem_singleton.mp hy]; exact fun (z : x = w') => h2 (z ▸ hx)⟩
        · rcases List.mem_append.mp hz with hz | hz
          · exact hn z hz
          · rw [List.mem_singleton.mp hz]; exact h1
      by_cases hin : w ∈ ws
      · simp [hin, wk_str (S := S3) (s := [97, 98, 99, 100, 101, 102, 103, 104, 105, 106, 107, 108, 109, 110, 111, 112, 113, 114, 115, 116, 117, 118, 119, 120, 121, 122]) (by decide)]
        have hcut : cutL w none (some 7) = w.take 7 := cut_hi (by decide)
        refine okR_flat (fun d => match d with
          | .str [c] => if w.take 7 ++ [c] ∈ ws then [] else [.str (w.take 7 ++ [c])]
          | _ => []) rfl (fun x hx => ?_) (by simp [big]) ?_
        · obtain ⟨c, hc, rfl⟩ : ∃ c, c ∈ alpha ∧ x = .str [c] := by
            have hx' : x ∈ alpha.map fun c => D.str [c] := hx
            obtain ⟨c, hc, e⟩ := List.mem_map.mp hx'
            exact ⟨c, hc, e.symm⟩
          refine ⟨_, rfl, ?_, ?_⟩
          · have hb1 : Nat.ble w.length big = true := Nat.ble_eq_true_of_le (by simp [big]; omega)
            have hb2 : Nat.ble (min 7 w.length + 1) big = true := Nat.ble_eq_true_of_le (by simp [big]; omega)
            by_cases hm : w.take 7 ++ [c] ∈ ws
            · simp [hcut, in_strs hw3, hm, hb1, hb2]
            · simp [hcut, in_strs hw3, hm, hb1, hb2]
          · dsimp only
            split <;> simp
        · obtain ⟨c, hc1, hc2⟩ := free_one (p := w.take 7) (ws := ws) (by omega)
          generalize hL : (List.flatMap _ _ : List D) = L
          have hmem : ∀ d ∈ L, ∃ w', d = .str w' ∧ isNm w' ∧ w' ∉ ws := fun d hd => by
            rw [← hL] at hd
            obtain ⟨x, hx, hd⟩ := List.mem_flatMap.mp hd
            have hx' : x ∈ alpha.map fun c => D.str [c] := hx
            obtain ⟨c', hc', rfl⟩ := List.mem_map.mp hx'
            dsimp only at hd
            split at hd
            · cases hd
            · rename_i hni
              rw [List.mem_singleton.mp hd]
              refine ⟨_, rfl, ⟨by simp, by simp; omega, fun z hz => ?_⟩, hni⟩
              rcases List.mem_append.mp hz with hz | hz
              · exact hw8.2.2 z (List.mem_of_mem_take hz)
              · rw [List.mem_singleton.mp hz]
                have : ∀ c ∈ alpha, 97 ≤ c ∧ c ≤ 122 := by decide
                exact this c' hc'
          have hne : L ≠ [] := fun z => by
            have : D.str (w.take 7 ++ [c]) ∈ L := by
              rw [← hL]
              refine List.mem_flatMap.mpr ⟨.str [c], ?_, ?_⟩
              · have : D.str [c] ∈ alpha.map fun c => D.str [c] := List.mem_map.mpr ⟨c, hc1, rfl⟩
                exact this
              · simp [hc2]
            rw [z] at this; cases this
          obtain ⟨d, L', rfl⟩ := List.exists_cons_of_ne_nil hne
          obtain ⟨w', rfl, hw1, hw2⟩ := hmem d (by simp)
          have hS3 : (S3 ++ [O.lst (.str w' :: L')])[S.length]? = some (.lst (ws.map .str)) := at_old hw3
          simp [item_lst (at_end (X := S3) (o := .lst (.str w' :: L'))), rcv_append hS3, append_ok hS3 (y := .str w') (by simp [big]; omega)]
          exact fin w' _ hw1 hw2 hS3 e3.push
      · simp [hin, rcv_append hw3, append_ok hw3 (y := .str w) (by simp [big]; omega)]
        exact fin w S3 hw8 hin hw3 e3
  · rintro Γ S1 ⟨ws, o3, o4, o5, o6, o7, rfl, hw, hl, nd, hn, e1⟩
    simp
    refine ⟨ws, hw, ?_, nd, hn, e1⟩
    rw [rngL_len] at hl
    simpa using hl
end
end G

set_option linter.all false
set_option maxRecDepth 100000
set_option maxHeartbeats 1000000
set_option autoImplicit false
/-! LB3: rows of guards; the law's own rows. -/
namespace G
open DL
mutual
inductive Rw where
  | iff (b : List Nat) (x y : Rws)
  | ask (x y : Rws)
  | set (b : List Nat) (f : Bool)
  | lead (p : List Nat)
  | refuse
inductive Rws where
  | nil
  | cons (r : Rw) (rs : Rws)
end
mutual
def Rw.d : Rw → D
  | .iff b x y => .tup [.str [105, 102], .str b, .tup x.l, .tup y.l]
  | .ask x y => .tup [.str [97, 115, 107], .tup x.l, .tup y.l]
  | .set b f => .tup [.str [115, 101, 116], .str b, .bl f]
  | .lead p => .tup [.str [108, 101, 97, 100], .str p]
  | .refuse => .tup [.str [114, 101, 102, 117, 115, 101]]
def Rws.l : Rws → List D
  | .nil => []
  | .cons r rs => r.d :: rs.l
end
mutual
/-- a row that is right at a depth -/
def Rw.ok (en : Bool) (bits names : List (List Nat)) : Nat → Rw → Prop
  | k, .iff b x y => k ≤ 3 ∧ b ∈ bits ∧ x.ok en bits names (k + 1) ∧ y.ok en bits names (k + 1)
  | k, .ask x y => k ≤ 3 ∧ x.ok en bits names (k + 1) ∧ y.ok en bits names (k + 1)
  | _, .set b _ => b ∈ bits
  | _, .lead p => en = true ∧ p ∈ names
  | _, .refuse => True
def Rws.ok (en : Bool) (bits names : List (List Nat)) : Nat → Rws → Prop
  | _, .nil => True
  | k, .cons r rs => r.ok en bits names k ∧ rs.ok en bits names k
end
mutual
def Rw.cnt : Rw → Nat
  | .iff _ x y => 1 + x.cnt + y.cnt
  | .ask x y => 1 + x.cnt + y.cnt
  | _ => 1
def Rws.cnt : Rws → Nat
  | .nil => 0
  | .cons r rs => r.cnt + rs.cnt
end
def Rws.app : Rws → Rws → Rws
  | .nil, b => b
  | .cons r a, b => .cons r (a.app b)
theorem Rws.app_l : ∀ (a b : Rws), (a.app b).l = a.l ++ b.l
  | .nil, b => by simp [Rws.app, Rws.l]
  | .cons r a, b => by simp [Rws.app, Rws.l, Rws.app_l a b]
theorem Rws.app_cnt : ∀ (a b : Rws), (a.app b).cnt = a.cnt + b.cnt
  | .nil, b => by simp [Rws.app, Rws.cnt]
  | .cons r a, b => by simp [Rws.app, Rws.cnt, Rws.app_cnt a b]; omega
theorem Rws.app_ok {en : Bool} {bits names : List (List Nat)} {k : Nat} : ∀ (a b : Rws), a.ok en bits names k → b.ok en bits names k → (a.app b).ok en bits names k
  | .nil, b, _, h => h
  | .cons r a, b, h, h2 => by
    simp only [Rws.ok] at h
    simp only [Rws.app, Rws.ok]
    exact ⟨h.1, Rws.app_ok a b h.2 h2⟩
def sideS (en : Bool) : List Nat := if en then [101, 110, 116, 101, 114] else [108, 101, 97, 118, 101]
section
variable {T : Tb} {ix : Lk} {n : Nat} {S : Sto}
/-- which words may come -/
def WordOk (en : Bool) (bits : List (List Nat)) (depth : Nat) (w : List Nat) : Prop :=
  (w = [105, 102] ∧ bits ≠ [] ∧ depth ≠ 4) ∨ (w = [97, 115, 107] ∧ depth ≠ 4) ∨ (w = [115, 101, 116] ∧ bits ≠ []) ∨ (w = [108, 101, 97, 100] ∧ en = true) ∨ w = [114, 101, 102, 117, 115, 101]
theorem word_ok (H : HD T ix) (h : T.fns[ix.f__law_word]? = some (F__law_word ix)) {k c : Nat} {S0 : Sto} (e : Ef k c S0 S) {en : Bool} {bits : List (List Nat)} {depth : Nat} {Q : D → Sto → Prop} (q : ∀ w S', WordOk en bits depth w → S'.length = S.length → Ef k c S S' → Q (.str w) S') :
    okR (callT T (n + 3) ix.f__law_word [.ref k, .tup (bits.map .str), .str (sideS en), .int depth] S) Q := by
  refine okR_call h rfl ?_
  simp [F__law_word]
  refine okR_draw H e (by decide) (by decide) fun v S2 v0 v1 l2 e2 => ?_
  have hin : ∀ (a b w : List Nat), inT S2 (.d (.str w)) (.d (.tup [.str a, .str b])) = some (decide (w = a ∨ w = b)) := fun a b w => by
    have := in_strsT (S := S2) (w := w) (ws := [a, b])
    simpa using this
  have hd4 : ((depth : Int) = 4) = (depth = 4) := by simp; omega
  have hv : v = 0 ∨ v = 1 ∨ v = 2 ∨ v = 3 ∨ v = 4 ∨ v = 5 ∨ v = 6 ∨ v = 7 := by omega
  have h7 : ∀ xs : List D, L2.atI xs 7 = xs[7]? := fun xs => atI_nat (n := 7)
  cases hb : bits with
  | nil =>
    subst hb
    rcases hv with rfl | rfl | rfl | rfl | rfl | rfl | rfl | rfl <;> cases en <;> by_cases hd : depth = 4 <;> simp [hin, hd4, hd, sideS, h7] <;> (refine q _ _ ?_ l2 e2; simp [WordOk, hd])
  | cons b bs =>
    subst hb
    have hz : ¬ ((bs.length : Int) + 1 = 0) := by omega
    rcases hv with rfl | rfl | rfl | rfl | rfl | rfl | rfl | rfl <;> cases en <;> by_cases hd : depth = 4 <;> simp [hin, hd4, hd, sideS, h7, hz] <;> (refine q _ _ ?_ l2 e2; simp [WordOk, hd])
/-- the box and the room may have changed -/
structure Er (k c r : Nat) (S S' : Sto) : Prop where
  len : S.length ≤ S'.length
  old : ∀ (i : Nat), i ≠ k → i ≠ r → i < S.length → S'[i]? = S[i]?
  bx : ∃ b, b.c = c ∧ BoxAt S' k b
  lt : k < S.length ∧ c < S.length ∧ r < S.length ∧ k ≠ r ∧ c ≠ r
theorem Er.trans {k c r : Nat} {S S' S'' : Sto} (a : Er k c r S S') (b : Er k c r S' S'') : Er k c r S S'' := ⟨Nat.le_trans a.len b.len, fun i hk hr hi => (b.old i hk hr (Nat.lt_of_lt_of_le hi a.len)).trans (a.old i hk hr hi), b.bx, a.lt⟩
theorem Er.at {k c r i : Nat} {S S' : Sto} {o : O} (a : Er k c r S S') (hk : i ≠ k) (hr : i ≠ r) (h : S[i]? = some o) : S'[i]? = some o := (a.old i hk hr (List.getElem?_eq_some_iff.mp h).1).trans h
theorem Er.ef {k c r : Nat} {S S' : Sto} (a : Er k c r S S') : Ef k c S' S' := ⟨Nat.le_refl _, fun _ _ _ => rfl, a.bx, Nat.lt_of_lt_of_le a.lt.1 a.len, Nat.lt_of_lt_of_le a.lt.2.1 a.len⟩
theorem Er.self {k c r : Nat} {S S' : Sto} (a : Er k c r S S') : Er k c r S' S' := ⟨Nat.le_refl _, fun _ _ _ _ => rfl, a.bx, Nat.lt_of_lt_of_le a.lt.1 a.len, Nat.lt_of_lt_of_le a.lt.2.1 a.len, Nat.lt_of_lt_of_le a.lt.2.2.1 a.len, a.lt.2.2.2⟩
theorem Er.of {k c r : Nat} {S S' : Sto} (a : Er k c r S S) (e : Ef k c S S') : Er k c r S S' := ⟨e.len, fun i hk _ hi => e.old i hk hi, e.bx, a.lt⟩
theorem Er.push {k c r : Nat} {S S' X : Sto} (a : Er k c r S S') : Er k c r S (S' ++ X) := by
  obtain ⟨b, hc, hb⟩ := a.bx
  exact ⟨by simp; have := a.len; omega, fun i hk hr hi => (List.getElem?_append_left (Nat.lt_of_lt_of_le hi a.len)).trans (a.old i hk hr hi), ⟨b, hc, at_old hb.at_, at_old hb.cs, hb.ne⟩, a.lt⟩
theorem Er.set {k c r j : Nat} {S S' : Sto} {o : O} (a : Er k c r S S') (hj : S.length ≤ j ∨ j = r) : Er k c r S (S'.set j o) := by
  obtain ⟨b, hc, hb⟩ := a.bx
  have := a.lt
  exact ⟨by simpa using a.len, fun i hk hr hi => (List.getElem?_set_ne (by omega)).trans (a.old i hk hr hi), ⟨b, hc, by rw [List.getElem?_set_ne (by omega)]; exact hb.at_, by rw [List.getElem?_set_ne (by omega)]; exact hb.cs, hb.ne⟩, a.lt⟩
/-- behind the room's making -/
theorem Er.out {k c : Nat} {S S' : Sto} {o : O} (a : Er k c S.length (S ++ [o]) S') (h : k < S.length ∧ c < S.length) : Ef k c S S' := ⟨by have := a.len; simp at this; omega, fun i hk hi => (a.old i hk (by omega) (by simp; omega)).trans (List.getElem?_append_left hi), a.bx, h⟩
structure HR (T : Tb) (ix : Lk) : Prop extends HD T ix where
  word : T.fns[ix.f__law_word]? = some (F__law_word ix)
  rows : T.fns[ix.f__law_rows]? = some (F__law_rows ix)
  row : T.fns[ix.f__law_row]? = some (F__law_row ix)
/-- what the rows of a depth ask -/
def RowsP (T : Tb) (ix : Lk) (bits names : List (List Nat)) (en : Bool) (N depth : Nat) : Prop := ∀ (k c r nl : Nat) (S : Sto) (q : Nat), Er k c r S S → S[r]? = some (.lst [.int q]) → S[nl]? = some (.lst (names.map .str)) → nl ≠ k → nl ≠ r →
  okR (callT T N ix.f__law_rows [.ref k, .tup (bits.map .str), .ref nl, .str (sideS en), .int depth, .ref r] S) fun d S' => ∃ (rs : Rws) (q' : Nat), d = .tup rs.l ∧ rs.ok en bits names depth ∧ rs.cnt + q' = q ∧ S'[r]? = some (.lst [.int q']) ∧ Er k c r S S'
def RowP (T : Tb) (ix : Lk) (bits names : List (List Nat)) (en : Bool) (N depth : Nat) : Prop := ∀ (k c r nl : Nat) (S : Sto) (q : Nat), Er k c r S S → S[r]? = some (.lst [.int q]) → S[nl]? = some (.lst (names.map .str)) → nl ≠ k → nl ≠ r →
  okR (callT T N ix.f__law_row [.ref k, .tup (bits.map .str), .ref nl, .str (sideS en), .int depth, .ref r] S) fun d S' => ∃ (rw : Rw) (q' : Nat), d = rw.d ∧ rw.ok en bits names depth ∧ rw.cnt + q' = q + 1 ∧ S'[r]? = some (.lst [.int q']) ∧ Er k c r S S'
theorem at_strs {ws : List (List Nat)} {v : Int} (h0 : 0 ≤ v) (h1 : v < ws.length) : ∃ w, L2.atI (ws.map D.str) v = some (.str w) ∧ w ∈ ws := by
  rw [atI_at h0]
  have : v.toNat < ws.length := by omega
  exact ⟨ws[v.toNat], by simp [this], List.getElem_mem this⟩
theorem row_step (H : HR T ix) {bits names : List (List Nat)} {en : Bool} {N depth : Nat} (hb : bits.length ≤ 1000) (hn : names.length ≤ 1000) (hne : names ≠ []) (h4 : depth ≤ 4) (hN : 3 ≤ N) (ih : depth ≠ 4 → RowsP T ix bits names en N (depth + 1)) : RowP T ix bits names en (N + 1) depth := by
  intro k c r nl S q e hr hnl hk1 hk2
  obtain ⟨m, rfl⟩ : ∃ m, N = m + 3 := ⟨N - 3, by omega⟩
  refine okR_call H.row rfl ?_
  simp [F__law_row]
  refine word_ok H.toHD H.word e.ef fun w S1 hw l1 e1 => ?_
  have er1 := e.of e1
  have hr1 := e1.at (by have := e.lt; omega) hr
  have hnl1 := e1.at hk1 hnl
  rcases hw with ⟨rfl, hbn, hd⟩ | ⟨rfl, hd⟩ | ⟨rfl, hbn⟩ | ⟨rfl, hen⟩ | rfl
  · simp
    have hbl : 0 < bits.length := List.length_pos_iff.mpr hbn
    refine okR_draw H.toHD e1.self (by omega) (by omega) fun v S2 v0 v1 l2 e2 => ?_
    obtain ⟨b, hb1, hb2⟩ := at_strs v0 v1
    have er2 := er1.trans (er1.self.of e2)
    have hr2 := e2.at (by have := e.lt; omega) hr1
    have hnl2 := e2.at hk1 hnl1
    simp [hb1]
    refine okR_imp (ih hd k c r nl S2 q er2.self hr2 hnl2 hk1 hk2) ?_
    rintro d S3 ⟨x, q1, rfl, hx, hq1, hr3, er3⟩
    have hnl3 := er3.at hk1 hk2 hnl2
    try simp
    refine okR_imp (ih hd k c r nl S3 q1 er3.self hr3 hnl3 hk1 hk2) ?_
    rintro d S4 ⟨y, q2, rfl, hy, hq2, hr4, er4⟩
    simp [big]
    refine ⟨.iff b x y, by simp [Rw.d], ?_, q2, ?_, hr4, (er2.trans er3).trans er4⟩
    · simp only [Rw.ok]; exact ⟨by omega, hb2, hx, hy⟩
    · simp only [Rw.cnt]; omega
  · simp
    refine okR_imp (ih hd k c r nl S1 q er1.self hr1 hnl1 hk1 hk2) ?_
    rintro d S3 ⟨x, q1, rfl, hx, hq1, hr3, er3⟩
    have hnl3 := er3.at hk1 hk2 hnl1
    try simp
    refine okR_imp (ih hd k c r nl S3 q1 er3.self hr3 hnl3 hk1 hk2) ?_
    rintro d S4 ⟨y, q2, rfl, hy, hq2, hr4, er4⟩
    simp [big]
    refine ⟨.ask x y, by simp [Rw.d], ?_, q2, ?_, hr4, (er1.trans er3).trans er4⟩
    · simp only [Rw.ok]; exact ⟨by omega, hx, hy⟩
    · simp only [Rw.cnt]; omega
  · simp
    have hbl : 0 < bits.length := List.length_pos_iff.mpr hbn
    refine okR_draw H.toHD e1.self (by omega) (by omega) fun v S2 v0 v1 l2 e2 => ?_
    obtain ⟨b, hb1, hb2⟩ := at_strs v0 v1
    have er2 := er1.trans (er1.self.of e2)
    have hr2 := e2.at (by have := e.lt; omega) hr1
    simp [hb1]
    refine okR_draw H.toHD e2.self (by decide) (by decide) fun v3 S3 z0 z1 l3 e3 => ?_
    have er3 := er2.trans (er2.self.of e3)
    have hr3 := e3.at (by have := e.lt; omega) hr2
    simp
    refine ⟨.set b (decide (v3 = 1)), by simp [Rw.d], ?_, q, ?_, hr3, er3⟩
    · simp only [Rw.ok]; exact hb2
    · simp only [Rw.cnt]; omega
  · simp [bf_len_ref (its_lst hnl1)]
    have hnl0 : 0 < names.length := List.length_pos_iff.mpr hne
    refine okR_draw H.toHD e1.self (by omega) (by omega) fun v S2 v0 v1 l2 e2 => ?_
    obtain ⟨b, hb1, hb2⟩ := at_strs v0 v1
    have er2 := er1.trans (er1.self.of e2)
    have hr2 := e2.at (by have := e.lt; omega) hr1
    have hnl2 := e2.at hk1 hnl1
    simp [item_lst hnl2, hb1]
    refine ⟨.lead b, by simp [Rw.d], ?_, q, ?_, hr2, er2⟩
    · simp only [Rw.ok]; exact ⟨hen, hb2⟩
    · simp only [Rw.cnt]; omega
  · simp
    refine ⟨.refuse, by simp [Rw.d], ?_, q, ?_, hr1, er1⟩
    · simp only [Rw.ok]
    · simp only [Rw.cnt]; omega
theorem Er.ne {k c r nl : Nat} {S S' : Sto} (a : Er k c r S S') {o : O} (h : S[nl]? = some o) : nl < S.length := (List.getElem?_eq_some_iff.mp h).1
theorem rows_step (H : HR T ix) {bits names : List (List Nat)} {en : Bool} {N depth : Nat} (hN : 2 ≤ N) (ih : RowP T ix bits names en N depth) : RowsP T ix bits names en (N + 1) depth := by
  intro k c r nl S q e hr hnl hk1 hk2
  obtain ⟨m, rfl⟩ : ∃ m, N = m + 2 := ⟨N - 2, by omega⟩
  refine okR_call H.rows rfl ?_
  simp [F__law_rows]
  refine okR_draw H.toHD e.ef (by decide) (by decide) fun v S1 v0 v1 l1 e1 => ?_
  have er1 := e.of e1
  have hr1 := e1.at (by have := e.lt; omega) hr
  have hnl1 := e1.at hk1 hnl
  have hlt := e.lt
  have main : ∀ (u : Int), 0 ≤ u → u ≤ 8 → okS (forL [] (.nm 8) (execs T (callT T (m + 2)) (.cons (.ife (.t (.op2 .gt (.e (.item (.e (.var 5)) (.con (.int 0)))) (.e (.con (.int 0))))) (.cons (.itm (.var 5) (.con (.int 0)) (.op2 .sub (.e (.item (.e (.var 5)) (.con (.int 0)))) (.e (.con (.int 1))))) (.cons (.ex (.mt .append (.var 7) (.e (.call ix.f__law_row (.cons (.var 0) (.cons (.var 1) (.cons (.var 2) (.cons (.var 3) (.cons (.var 4) (.cons (.var 5) .nil)))))))))) .nil)) .nil) .nil)) (rngL 0 u.toNat)
      [some (.ref k), some (.tup (bits.map .str)), some (.ref nl), some (.str (sideS en)), some (.int depth), some (.ref r), some (.int u), some (.ref S1.length), none] (S1 ++ [.lst []]))
      (fun f S' => ∃ (rs : Rws) (q' : Nat) (o : Option D), f = .nx [some (.ref k), some (.tup (bits.map .str)), some (.ref nl), some (.str (sideS en)), some (.int depth), some (.ref r), some (.int u), some (.ref S1.length), o] ∧ S'[S1.length]? = some (.lst rs.l) ∧ rs.ok en bits names depth ∧ rs.cnt + q' = q ∧ S'[r]? = some (.lst [.int q']) ∧ Er k c r S S') := fun u u0 u8 => by
    refine okS_for (fun i Γ S' => ∃ (rs : Rws) (q' : Nat) (o : Option D), Γ = [some (.ref k), some (.tup (bits.map .str)), some (.ref nl), some (.str (sideS en)), some (.int depth), some (.ref r), some (.int u), some (.ref S1.length), o] ∧ S'[S1.length]? = some (.lst rs.l) ∧ rs.l.length ≤ i ∧ rs.ok en bits names depth ∧ rs.cnt + q' = q ∧ S'[r]? = some (.lst [.int q']) ∧ Er k c r S S') _ 0 _ _ ?_ (fun _ _ _ _ => rfl) ?_ ?_
    · exact ⟨.nil, q, none, rfl, at_end, by simp [Rws.l], by simp [Rws.ok], by simp [Rws.cnt], at_old hr1, er1.push⟩
    · rintro j x Γ S2 hx ⟨rs, q', o, rfl, hL, hlen, hok, hc, hr2, er2⟩
      obtain ⟨hj, rfl⟩ := rngL_get' hx
      refine ⟨_, rfl, ?_⟩
      have hL2 : S1.length < S2.length := (List.getElem?_eq_some_iff.mp hL).1
      have hnl2 := er2.at hk1 hk2 hnl
      by_cases hq : q' = 0
      · subst hq
        simp [item_lst hr2]
        exact ⟨rs, hL, by omega, hok, 0, by simpa using hc, hr2, er2⟩
      · obtain ⟨q2, rfl⟩ : ∃ z, q' = z + 1 := ⟨q' - 1, by omega⟩
        have hpos : (0 : Int) < (q2 : Int) + 1 := by omega
        have hset : (S2.set r (.lst [.int q2]))[S1.length]? = some (.lst rs.l) := by rw [at_set_ne (by omega)]; exact hL
        have hsr : (S2.set r (.lst [.int q2]))[r]? = some (.lst [.int q2]) := at_set hr2
        have hsn : (S2.set r (.lst [.int q2]))[nl]? = some (.lst (names.map .str)) := by rw [at_set_ne (Ne.symm hk2)]; exact hnl2
        have hi : ((q2 : Int) + 1 - 1) = q2 := by omega
        simp [item_lst hr2, hpos, setItem_lst hr2, hi, rcv_append hset]
        have er3 : Er k c r S (S2.set r (.lst [.int q2])) := er2.set (.inr rfl)
        refine okR_imp (ih k c r nl _ q2 er3.self hsr hsn hk1 hk2) ?_
        rintro d S4 ⟨rw, q4, rfl, hok4, hc4, hr4, er4⟩
        have hL4 := er4.at (by omega) (by omega) hset
        simp [append_ok hL4 (y := rw.d) (by simp [big]; omega)]
        refine ⟨rs.app (.cons rw .nil), ?_, ?_, ?_, ?_⟩
        · rw [at_set hL4, Rws.app_l]; simp [Rws.l]
        · rw [Rws.app_l]; simp [Rws.l]; omega
        · exact Rws.app_ok _ _ hok (by simp [Rws.ok, hok4])
        · refine ⟨q4, ?_, ?_, (er3.trans er4).set (.inl (by omega))⟩
          · rw [Rws.app_cnt]; simp [Rws.cnt]; omega
          · rw [at_set_ne (by omega)]; exact hr4
    · rintro Γ S2 ⟨rs, q', o, rfl, hL, hlen, hok, hc, hr2, er2⟩
      exact ⟨rs, q', o, rfl, hL, hok, hc, hr2, er2⟩
  by_cases h8 : (8 : Int) < v
  · simp [h8, smallI, (by omega : v - 8 < 4611686018427387904), (by omega : -4611686018427387904 ≤ v - 8)]
    refine okS_imp (main (v - 8) (by omega) (by omega)) ?_
    rintro f S2 ⟨rs, q', o, rfl, hL, hok, hc, hr2, er2⟩
    simp [bf_tuple_ref (its_lst hL)]
    exact ⟨rs, rfl, hok, q', hc, hr2, er2⟩
  · simp [h8, smallI, (by omega : v < 4611686018427387904), (by omega : -4611686018427387904 ≤ v)]
    refine okS_imp (main v (by omega) (by omega)) ?_
    rintro f S2 ⟨rs, q', o, rfl, hL, hok, hc, hr2, er2⟩
    simp [bf_tuple_ref (its_lst hL)]
    exact ⟨rs, rfl, hok, q', hc, hr2, er2⟩
theorem rows_all (H : HR T ix) {bits names : List (List Nat)} {en : Bool} (hb : bits.length ≤ 1000) (hn : names.length ≤ 1000) (hne : names ≠ []) : ∀ (g depth N : Nat), depth + g = 4 → 5 + 2 * g ≤ N → RowsP T ix bits names en N depth
  | 0, depth, N, hd, hN => by
    obtain ⟨M, rfl⟩ : ∃ M, N = M + 2 := ⟨N - 2, by omega⟩
    exact rows_step H (by omega) (row_step H hb hn hne (by omega) (by omega) fun h => by omega)
  | g + 1, depth, N, hd, hN => by
    obtain ⟨M, rfl⟩ : ∃ M, N = M + 2 := ⟨N - 2, by omega⟩
    exact rows_step H (by omega) (row_step H hb hn hne (by omega) (by omega) fun _ => rows_all H hb hn hne g (depth + 1) M (by omega) (by omega))
end
end G

set_option linter.all false
set_option maxRecDepth 100000
set_option maxHeartbeats 1000000
set_option autoImplicit false
/-! LB4: sites; the law's own parts of a site. -/
namespace G
open DL
structure Pge where
  name : List Nat
  en : Rws
  lv : Rws
  ld : Bool
def Pge.d (p : Pge) : D := .tup [.str p.name, .tup [.tup p.en.l, .tup p.lv.l, .bl p.ld]]
structure Si where
  bits : List (List Nat)
  pages : List Pge
  start : List Nat
  keep : Nat
def Si.names (s : Si) : List (List Nat) := s.pages.map Pge.name
structure PgeOk (bits names : List (List Nat)) (p : Pge) : Prop where
  nm : isNm p.name
  en : p.en.ok true bits names 1
  lv : p.lv.ok false bits names 1
  enc : p.en.cnt ≤ 8
  lvc : p.lv.cnt ≤ 8
structure SiOk (s : Si) : Prop where
  bl : s.bits.length ≤ 3
  bn : s.bits.Nodup
  bo : ∀ b ∈ s.bits, isNm b
  p2 : 2 ≤ s.pages.length
  p5 : s.pages.length ≤ 5
  pn : s.names.Nodup
  pg : ∀ p ∈ s.pages, PgeOk s.bits s.names p
  st : s.start ∈ s.names
  k2 : 2 ≤ s.keep
  k4 : s.keep ≤ 4
def Si.bd (s : Si) : D := .tup (s.bits.map .str)
def Si.pd (s : Si) : D := .tup (s.pages.map Pge.d)
section
variable {T : Tb} {ix : Lk} {n : Nat} {S : Sto}
theorem Ef.room {k c : Nat} {S0 : Sto} {o : O} (e : Ef k c S0 S) : Er k c S.length (S ++ [o]) (S ++ [o]) := by
  have h := e.self.push (X := [o])
  have := e.self.lt
  exact ⟨Nat.le_refl _, fun _ _ _ _ => rfl, h.bx, by simp; omega⟩
structure HP (T : Tb) (ix : Lk) : Prop extends HR T ix where
  names : T.fns[ix.f__law_names]? = some (F__law_names ix)
  parts : T.fns[ix.f__law_parts]? = some (F__law_parts ix)
theorem room_at {v : Int} (h0 : 0 ≤ v) (h1 : v < 8) : ∃ q : Nat, L2.atI [D.int 0, D.int 1, D.int 2, D.int 3, D.int 8, D.int 0, D.int 5, D.int 1] v = some (.int q) ∧ q ≤ 8 := by
  have hv : v = 0 ∨ v = 1 ∨ v = 2 ∨ v = 3 ∨ v = 4 ∨ v = 5 ∨ v = 6 ∨ v = 7 := by omega
  have h7 : ∀ xs : List D, L2.atI xs 7 = xs[7]? := fun xs => atI_nat (n := 7)
  rcases hv with rfl | rfl | rfl | rfl | rfl | rfl | rfl | rfl
  · exact ⟨0, by simp, by decide⟩
  · exact ⟨1, by simp, by decide⟩
  · exact ⟨2, by simp, by decide⟩
  · exact ⟨3, by simp, by decide⟩
  · exact ⟨8, by simp, by decide⟩
  · exact ⟨0, by simp, by decide⟩
  · exact ⟨5, by simp, by decide⟩
  · exact ⟨1, by simp [h7], by decide⟩
theorem parts_ok (H : HP T ix) {k c : Nat} {S0 : Sto} (e : Ef k c S0 S) {N : Nat} (hN : 11 ≤ N) {Q : D → Sto → Prop} (fin : ∀ (s : Si) (S' : Sto), SiOk s → Ef k c S S' → Q (.tup [s.bd, s.pd, .str s.start, .int s.keep]) S') : okR (callT T (N + 1) ix.f__law_parts [.ref k] S) Q := by
  obtain ⟨m, rfl⟩ : ∃ m, N = m + 11 := ⟨N - 11, by omega⟩
  refine okR_call H.parts rfl ?_
  simp [F__law_parts]
  refine okR_draw H.toHD e (by decide) (by decide) fun v1 S1 a1 b1 l1 e1 => ?_
  try simp
  refine okR_draw H.toHD e1 (by decide) (by decide) fun v2 S2 a2 b2 l2 e2 => ?_
  try simp
  refine okR_imp (names_ok H.toHD H.names e2 a2 (by omega)) ?_
  rintro d S3 ⟨bits, rfl, hb3, hbl, hbn, hbo, e3⟩
  simp [bf_tuple_ref (its_lst hb3)]
  refine okR_draw H.toHD e3 (by decide) (by decide) fun v4 S4 a4 b4 l4 e4 => ?_
  try simp
  refine okR_imp (names_ok H.toHD H.names e4 (m := 2 + v4) (by omega) (by omega)) ?_
  rintro d S5 ⟨ws, rfl, hw5, hwl, hwn, hwo, e5⟩
  try simp
  refine okR_draw H.toHD e5 (by decide) (by decide) fun v6 S6 a6 b6 l6 e6 => ?_
  have ea : Ef k c S S6 := ((((e1.trans e2).trans e3).trans e4).trans e5).trans e6
  have hlt := ea.lt
  have hSl : S.length ≤ S4.length := (((e1.trans e2).trans e3).trans e4).len
  have hw6 := e6.at (by omega) hw5
  -- the pages, whatever the names are
  have main : ∀ (ws : List (List Nat)) (S6 : Sto), S6[S4.length]? = some (.lst (ws.map .str)) → ws.length = (2 + v4).toNat → ws.Nodup → (∀ w ∈ ws, isNm w) → Ef k c S S6 →
      okS (execs T (callT T (m + 11)) (.cons (.set (.nm 4) (.new (.lst .nil))) (.cons (.for (.nm 5) (.a (.e (.var 3))) (.cons (.set (.nm 7) (.op2 .eq (.e (.call ix.f__law_draw (.cons (.var 0) (.cons (.con (.int 2)) .nil)))) (.e (.con (.int 1))))) (.cons (.set (.nm 8) (.new (.lst (.cons (.con (.int 0)) (.cons (.con (.int 1)) (.cons (.con (.int 2)) (.cons (.con (.int 3)) (.cons (.con (.int 8)) (.cons (.con (.int 0)) (.cons (.con (.int 5)) (.cons (.con (.int 1)) .nil))))))))))) (.cons (.set (.nm 9) (.call ix.f__law_rows (.cons (.var 0) (.cons (.var 2) (.cons (.var 3) (.cons (.con (.str [101, 110, 116, 101, 114])) (.cons (.con (.int 1)) (.cons (.new (.lst (.cons (.item (.e (.var 8)) (.call ix.f__law_draw (.cons (.var 0) (.cons (.con (.int 8)) .nil)))) .nil))) .nil)))))))) (.cons (.set (.nm 10) (.call ix.f__law_rows (.cons (.var 0) (.cons (.var 2) (.cons (.var 3) (.cons (.con (.str [108, 101, 97, 118, 101])) (.cons (.con (.int 1)) (.cons (.new (.lst (.cons (.item (.e (.var 8)) (.call ix.f__law_draw (.cons (.var 0) (.cons (.con (.int 8)) .nil)))) .nil))) .nil)))))))) (.cons (.ex (.mt .append (.var 4) (.e (.tup (.cons (.var 5) (.cons (.tup (.cons (.var 9) (.cons (.var 10) (.cons (.var 7) .nil)))) .nil)))))) .nil)))))) (.cons (.set (.nm 6) (.item (.e (.var 3)) (.call ix.f__law_draw (.cons (.var 0) (.cons (.bf .len (.e (.var 3))) .nil))))) (.cons (.ret (.tup (.cons (.var 2) (.cons (.bf .tuple (.e (.var 4))) (.cons (.var 6) (.cons (.var 1) .nil)))))) .nil))))
        [some (.ref k), some (.int (2 + v1)), some (.tup (bits.map .str)), some (.ref S4.length), none, none, none, none, none, none, none] S6) (rtQ Q) := by
    clear hw5 hwl hwn hwo e5 e6 l6 hw6 ea a6 b6 S6 S5 ws
    intro ws S6 hw6 hwl hwn hwo ea
    have hws : S4.length < S6.length := (List.getElem?_eq_some_iff.mp hw6).1
    have hw7 : (S6 ++ [O.lst []])[S4.length]? = some (.lst (ws.map .str)) := at_old hw6
    have hne : ws ≠ [] := fun z => by rw [z] at hwl; simp at hwl; omega
    simp [wk_lst hw7]
    refine okS_for (fun i Γ S' => ∃ (ps : List Pge) (o5 o7 o8 o9 o10 : Option D), Γ = [some (.ref k), some (.int (2 + v1)), some (.tup (bits.map .str)), some (.ref S4.length), some (.ref S6.length), o5, none, o7, o8, o9, o10] ∧ ps.map Pge.name = ws.take i ∧ (∀ p ∈ ps, PgeOk bits ws p) ∧ ps.length = i ∧ S'[S6.length]? = some (.lst (ps.map Pge.d)) ∧ S'[S4.length]? = some (.lst (ws.map .str)) ∧ Ef k c S S') _ 0 _ _ ?_ ?_ ?_ ?_
    · exact ⟨[], none, none, none, none, none, rfl, by simp, (fun p hp => by cases hp), rfl, at_end, hw7, ea.push⟩
    · rintro j Γ S' ⟨ps, o5, o7, o8, o9, o10, rfl, _, _, _, _, h, _⟩
      exact stays_lst h
    · rintro j x Γ S7 hx ⟨ps, o5, o7, o8, o9, o10, rfl, hpn, hpo, hpl, hp7, hw7, e7⟩
      rw [List.getElem?_map] at hx
      cases hj : ws[j]? with
      | none => rw [hj] at hx; cases hx
      | some w =>
        rw [hj] at hx
        cases hx
        have hjl : j < ws.length := (List.getElem?_eq_some_iff.mp hj).1
        refine ⟨_, rfl, ?_⟩
        try simp
        refine okR_draw H.toHD e7 (by decide) (by decide) fun v8 S8 a8 b8 l8 e8 => ?_
        have f8 := e7.trans e8
        have hp8 := e8.at (by omega) hp7
        have hw8 := e8.at (by omega) hw7
        try simp
        have hS6 : S6.length < S8.length := (List.getElem?_eq_some_iff.mp hp8).1
        refine okR_draw H.toHD f8.push (by decide) (by decide) fun v9 S9 a9 b9 l9 e9 => ?_
        have f9 := (f8.push (X := [.lst [D.int 0, D.int 1, D.int 2, D.int 3, D.int 8, D.int 0, D.int 5, D.int 1]])).trans e9
        have hr9 : S9[S8.length]? = some (.lst [D.int 0, D.int 1, D.int 2, D.int 3, D.int 8, D.int 0, D.int 5, D.int 1]) := e9.at (by omega) at_end
        have hp9 := e9.at (by omega) (at_old hp8)
        have hw9 := e9.at (by omega) (at_old hw8)
        obtain ⟨q1, hq1, hq1b⟩ := room_at a9 b9
        simp [item_lst hr9, hq1]
        have hS8 : S8.length < S9.length := (List.getElem?_eq_some_iff.mp hr9).1
        refine okR_imp (rows_all H.toHR (en := true) (by omega) (by omega) hne 3 1 (m + 11) rfl (by omega) k c S9.length S4.length (S9 ++ [.lst [.int q1]]) q1 f9.room at_end (at_old hw9) (by omega) (by omega)) ?_
        rintro d S10 ⟨en, q1', rfl, hen, hcn, _, er10⟩
        have e10 := er10.out (by omega)
        have f10 := f9.trans e10
        have hr10 := e10.at (by omega) hr9
        have hp10 := e10.at (by omega) hp9
        have hw10 := e10.at (by omega) hw9
        try simp
        refine okR_draw H.toHD f10 (by decide) (by decide) fun v11 S11 a11 b11 l11 e11 => ?_
        have f11 := f10.trans e11
        have hr11 := e11.at (by omega) hr10
        have hp11 := e11.at (by omega) hp10
        have hw11 := e11.at (by omega) hw10
        obtain ⟨q2, hq2, hq2b⟩ := room_at a11 b11
        simp [item_lst hr11, hq2]
        have hS11 : S8.length < S11.length := (List.getElem?_eq_some_iff.mp hr11).1
        refine okR_imp (rows_all H.toHR (en := false) (by omega) (by omega) hne 3 1 (m + 11) rfl (by omega) k c S11.length S4.length (S11 ++ [.lst [.int q2]]) q2 f11.room at_end (at_old hw11) (by omega) (by omega)) ?_
        rintro d S12 ⟨lv, q2', rfl, hlv, hcl, _, er12⟩
        have e12 := er12.out (by omega)
        have f12 := f11.trans e12
        have hp12 := e12.at (by omega) hp11
        have hw12 := e12.at (by omega) hw11
        simp [rcv_append hp12, append_ok hp12 (y := .tup [.str w, .tup [.tup en.l, .tup lv.l, .bl (decide (v8 = 1))]]) (by simp [big]; omega)]
        refine ⟨ps ++ [⟨w, en, lv, decide (v8 = 1)⟩], ?_, ?_, by simp [hpl], ?_, ?_, f12.set (by omega)⟩
        · simp [hpn, List.take_add_one, hj]
        · intro p hp
          rcases List.mem_append.mp hp with hp | hp
          · exact hpo p hp
          · rw [List.mem_singleton.mp hp]
            exact ⟨hwo w (List.mem_of_getElem? hj), hen, hlv, by show en.cnt ≤ 8; omega, by show lv.cnt ≤ 8; omega⟩
        · rw [at_set hp12]; simp [Pge.d]
        · rw [at_set_ne (by omega)]; exact hw12
    · rintro Γ S7 ⟨ps, o5, o7, o8, o9, o10, rfl, hpn, hpo, hpl, hp7, hw7, e7⟩
      have hpn' : ps.map Pge.name = ws := by rw [hpn]; simp
      simp [bf_len_ref (its_lst hw7)]
      refine okR_draw H.toHD e7 (by omega) (by omega) fun v8 S8 a8 b8 l8 e8 => ?_
      have hp8 := e8.at (by omega) hp7
      have hw8 := e8.at (by omega) hw7
      obtain ⟨st, hs1, hs2⟩ := at_strs a8 b8
      simp [item_lst hw8, hs1, bf_tuple_ref (its_lst hp8)]
      have hk : (2 + v1) = ((2 + v1).toNat : Int) := by omega
      rw [hk]
      have hlen : ps.length = ws.length := by rw [← hpn']; simp
      refine fin ⟨bits, ps, st, (2 + v1).toNat⟩ S8 ⟨?_, hbn, hbo, ?_, ?_, ?_, ?_, ?_, ?_, ?_⟩ (e7.trans e8)
      · simp only; omega
      · simp only; omega
      · simp only; omega
      · show (ps.map Pge.name).Nodup; rw [hpn']; exact hwn
      · show ∀ p ∈ ps, PgeOk bits (ps.map Pge.name) p; rw [hpn']; exact hpo
      · show st ∈ ps.map Pge.name; rw [hpn']; exact hs2
      · simp only; omega
      · simp only; omega
  simp at main
  by_cases hv6 : v6 = 0
  · subst hv6
    try simp
    cases hbits : bits with
    | nil =>
      subst hbits
      try simp
      exact main ws S6 hw6 hwl hwn hwo ea
    | cons b bs =>
      subst hbits
      simp [in_strs hw6]
      by_cases hin : b ∈ ws
      · simp [hin]
        exact main ws S6 hw6 hwl hwn hwo ea
      · have h0 : (0 : Int) < (ws.map D.str).length := by simp; omega
        simp [hin, setItem_lst hw6 (i := 0) (v := .str b) (by decide) h0]
        have z := main (ws.set 0 b) (S6.set S4.length (.lst ((ws.set 0 b).map .str))) (at_set hw6) (by simpa using hwl) ?_ ?_ (ea.set hSl)
        · simpa using z
        · cases ws with
          | nil => simp at hwl; omega
          | cons w ws =>
            simp only [List.set_cons_zero, List.nodup_cons] at hwn ⊢
            exact ⟨fun z => hin (by simp [z]), hwn.2⟩
        · intro w hw
          rcases List.mem_or_eq_of_mem_set hw with hw | rfl
          · exact hwo w hw
          · exact hbo _ (by simp)
  · simp [hv6]
    exact main ws S6 hw6 hwl hwn hwo ea
end
end G

set_option linter.all false
set_option maxRecDepth 100000
set_option maxHeartbeats 1000000
set_option autoImplicit false
/-! LB5: a site is made. -/
namespace G
open DL
def Rws.toL : Rws → List Rw
  | .nil => []
  | .cons r rs => r :: rs.toL
theorem Rws.l_eq : ∀ rs : Rws, rs.l = rs.toL.map Rw.d
  | .nil => by simp [Rws.l, Rws.toL]
  | .cons r rs => by simp [Rws.l, Rws.toL, Rws.l_eq rs]
theorem Rws.ok_mem {en : Bool} {bits names : List (List Nat)} {k : Nat} : ∀ {rs : Rws}, rs.ok en bits names k → ∀ r ∈ rs.toL, r.ok en bits names k
  | .nil, _, r, h => by cases h
  | .cons r rs, h, x, hx => by
    simp only [Rws.ok] at h
    rcases List.mem_cons.mp hx with rfl | hx
    · exact h.1
    · exact Rws.ok_mem h.2 x hx
theorem Rws.len_cnt : ∀ rs : Rws, rs.toL.length ≤ rs.cnt
  | .nil => by simp [Rws.toL]
  | .cons r rs => by
    have := Rws.len_cnt rs
    have h1 : 1 ≤ r.cnt := by cases r <;> simp [Rw.cnt] <;> omega
    simp [Rws.toL, Rws.cnt]; omega
/-- the two lists inside a row -/
def Rw.two : Rw → List Rws
  | .iff _ x y => [x, y]
  | .ask x y => [x, y]
  | _ => []
theorem Rw.two_ok {en : Bool} {bits names : List (List Nat)} {k : Nat} {r : Rw} (h : r.ok en bits names k) : ∀ x ∈ r.two, k ≤ 3 ∧ x.ok en bits names (k + 1) := by
  cases r <;> simp [Rw.two, Rw.ok] at h ⊢
  · exact ⟨⟨h.1, h.2.2.1⟩, h.1, h.2.2.2⟩
  · exact ⟨⟨h.1, h.2.1⟩, h.1, h.2.2⟩
mutual
/-- rows with their positions, in site order -/
def Rws.ord (pre : List Int) : Nat → Rws → List (List Int × Rw)
  | _, .nil => []
  | i, .cons r rs => (pre ++ [(i : Int)], r) :: (r.inn (pre ++ [(i : Int)]) ++ rs.ord pre (i + 1))
def Rw.inn (pos : List Int) : Rw → List (List Int × Rw)
  | .iff _ x y => x.ord (pos ++ [0]) 0 ++ y.ord (pos ++ [1]) 0
  | .ask x y => x.ord (pos ++ [0]) 0 ++ y.ord (pos ++ [1]) 0
  | .set _ _ => []
  | .lead _ => []
  | .refuse => []
end
mutual
theorem Rws.ord_len : ∀ (rs : Rws) (pre : List Int) (i : Nat), (rs.ord pre i).length = rs.cnt
  | .nil, _, _ => by simp [Rws.ord, Rws.cnt]
  | .cons r rs, pre, i => by simp [Rws.ord, Rws.cnt, Rw.inn_len r, Rws.ord_len rs]; have : 1 ≤ r.cnt := by cases r <;> simp [Rw.cnt] <;> omega
                             omega
theorem Rw.inn_len : ∀ (r : Rw) (pos : List Int), (r.inn pos).length = r.cnt - 1
  | .iff _ x y, pos => by simp [Rw.inn, Rw.cnt, Rws.ord_len x, Rws.ord_len y]; omega
  | .ask x y, pos => by simp [Rw.inn, Rw.cnt, Rws.ord_len x, Rws.ord_len y]; omega
  | .set _ _, _ => by simp [Rw.inn, Rw.cnt]
  | .lead _, _ => by simp [Rw.inn, Rw.cnt]
  | .refuse, _ => by simp [Rw.inn, Rw.cnt]
end
/-- a position and a row, as data -/
def posD (p : List Int) : D := .tup (p.map .int)
def prD (p : List Int × Rw) : D := .tup [posD p.1, p.2.d]
section
variable {T : Tb} {ix : Lk} {n : Nat} {S : Sto}
structure HS (T : Tb) (ix : Lk) : Prop where
  is_integer : T.fns[ix.f_is_integer]? = some (F_is_integer ix)
  is_name : T.fns[ix.f_is_name]? = some (F_is_name ix)
  is_one_of : T.fns[ix.f_is_one_of]? = some (F_is_one_of ix)
  are_names : T.fns[ix.f_are_names]? = some (F_are_names ix)
  are_bits : T.fns[ix.f_are_bits]? = some (F_are_bits ix)
  is_page : T.fns[ix.f_is_page]? = some (F_is_page ix)
  are_pages : T.fns[ix.f_are_pages]? = some (F_are_pages ix)
  branches : T.fns[ix.f_branches]? = some (F_branches ix)
  two_tuples : T.fns[ix.f_two_tuples]? = some (F_two_tuples ix)
  row_fits : T.fns[ix.f_row_fits]? = some (F_row_fits ix)
  first_unfit : T.fns[ix.f_first_unfit]? = some (F_first_unfit ix)
  rows_in_order : T.fns[ix.f_rows_in_order]? = some (F_rows_in_order ix)
  check_guard : T.fns[ix.f_check_guard]? = some (F_check_guard ix)
  init : T.fns[ix.f_Site___init__]? = some (F_Site___init__ ix)
  letters : T.glo[ix.g_LETTERS]? = some (.str alpha)
  most : T.glo[ix.g_MOST_ROWS]? = some (.int 8)
  deepest : T.glo[ix.g_DEEPEST]? = some (.int 3)
  cls : ∃ cd, T.cls[ix.c_Site]? = some cd ∧ lku cd.meths iInit = some ix.f_Site___init__ ∧ cd.flds.contains 29 = true ∧ cd.flds.contains 106 = true ∧ cd.flds.contains 144 = true ∧ cd.flds.contains 70 = true
@[simp] theorem all_tt {α : Type} {xs : List α} : (xs.all fun _ => true) = true := by rw [List.all_eq_true]; exact fun _ _ => rfl
theorem alpha_mem {c : Nat} (h : 97 ≤ c ∧ c ≤ 122) : alpha.contains c = true := by
  have : ∀ c, c < 123 → 97 ≤ c → alpha.contains c = true := by decide
  exact this c (by omega) h.1
theorem is_name_ok (H : HS T ix) {w : List Nat} (h : isNm w) : callT T (n + 1) ix.f_is_name [.str w] S = .ok (.bl true) S := by
  refine okR_eq (okR_call H.is_name rfl ?_)
  obtain ⟨h1, h2, h3⟩ := h
  have e1 : (1 : Int) ≤ w.length := by omega
  have e2 : (w.length : Int) ≤ 8 := by omega
  simp [F_is_name, e1, e2, big, (by omega : w.length ≤ 16777216), wk_str (S := S) (s := w) (by simp [big]; omega)]
  refine okR_map (fun _ => .bl true) rfl (fun x hx => ?_) (by simp [big]; omega) ?_
  · obtain ⟨c, hc, rfl⟩ := List.mem_map.mp hx
    refine ⟨_, rfl, ?_⟩
    have := alpha_mem (h3 c hc)
    simp [H.letters]
    simpa using this
  · have e : (List.map (fun _ => D.bl true) (w.map fun c => D.str [c])) = (w.map fun _ => true).map D.bl := by simp
    rw [e]
    simp
theorem one_of_tup (H : HS T ix) {w : List Nat} {ws : List (List Nat)} : callT T (n + 1) ix.f_is_one_of [.str w, .tup (ws.map .str)] S = .ok (.bl (decide (w ∈ ws))) S := by
  rw [callT_def H.is_one_of rfl]
  simp [runF, F_is_one_of, in_strsT]
theorem one_of_lst (H : HS T ix) {w : List Nat} {ws : List (List Nat)} {i : Nat} (h : S[i]? = some (.lst (ws.map .str))) : callT T (n + 1) ix.f_is_one_of [.str w, .ref i] S = .ok (.bl (decide (w ∈ ws))) S := by
  rw [callT_def H.is_one_of rfl]
  simp [runF, F_is_one_of, in_strs h]
theorem is_integer_int (H : HS T ix) {i : Int} : callT T (n + 1) ix.f_is_integer [.int i] S = .ok (.bl true) S := by
  rw [callT_def H.is_integer rfl]
  simp [runF, F_is_integer]
theorem cntL_eq : ∀ (ws seen : List (List Nat)), ws.Nodup → (∀ w ∈ ws, w ∉ seen) → cntL seen ws = ws.length
  | [], _, _, _ => rfl
  | w :: ws, seen, nd, h => by
    obtain ⟨n1, n2⟩ := List.nodup_cons.mp nd
    have hw : seen.contains w = false := by simpa using h w (by simp)
    unfold cntL
    rw [hw, if_neg Bool.false_ne_true, cntL_eq ws (w :: seen) n2 fun x hx => ?_]
    · simp
    · intro z
      rcases List.mem_cons.mp z with rfl | z
      · exact n1 hx
      · exact h x (by simp [hx]) z
theorem setlen_ok {a : TV} {ws : List (List Nat)} (hi : its S a = some (ws.map .str)) (hs : setOk a = true) (nd : ws.Nodup) (hl : ws.length ≤ 1000) {cl : Orc} : bfT T cl .setlen a S = .ok (.int ws.length) S := by
  have h1 : Nat.ble ws.length 1000 = true := Nat.ble_eq_true_of_le hl
  simp only [bfT, hi, Option.bind_some, strsD_map, hs, h1, cntL_eq ws [] nd (fun _ _ h => by cases h), Bool.and_self, gd_true]
theorem are_names_ok (H : HS T ix) {ws : List (List Nat)} (h : ∀ w ∈ ws, isNm w) (nd : ws.Nodup) (hl : ws.length ≤ 1000) : callT T (n + 2) ix.f_are_names [.tup (ws.map .str)] S = .ok (.bl true) S := by
  refine okR_eq (okR_call H.are_names rfl ?_)
  simp [F_are_names]
  refine okR_map (fun _ => .bl true) rfl (fun x hx => ?_) (by simp [big]; omega) ?_
  · obtain ⟨w, hw, rfl⟩ := List.mem_map.mp hx
    exact ⟨_, rfl, by simp [is_name_ok H (h w hw)]⟩
  · have e : (List.map (fun _ => D.bl true) (ws.map D.str)) = (ws.map fun _ => true).map D.bl := by simp
    rw [e]
    simp [setlen_ok (a := .d (.tup (ws.map .str))) rfl rfl nd hl]
theorem are_bits_ok (H : HS T ix) {ws : List (List Nat)} (h : ∀ w ∈ ws, isNm w) (nd : ws.Nodup) (hl : ws.length ≤ 3) : callT T (n + 3) ix.f_are_bits [.tup (ws.map .str)] S = .ok (.bl true) S := by
  rw [callT_def H.are_bits rfl]
  have : (ws.length : Int) ≤ 3 := by omega
  simp [runF, F_are_bits, this, are_names_ok H h nd (by omega)]
theorem is_page_ok (H : HS T ix) {p : Pge} : callT T (n + 1) ix.f_is_page [.tup [.tup p.en.l, .tup p.lv.l, .bl p.ld]] S = .ok (.bl true) S := by
  rw [callT_def H.is_page rfl]
  simp [runF, F_is_page]
theorem are_pages_ok (H : HS T ix) {bits names : List (List Nat)} {ps : List Pge} (h : ∀ p ∈ ps, PgeOk bits names p) (nd : (ps.map Pge.name).Nodup) (h2 : 2 ≤ ps.length) (h5 : ps.length ≤ 5) : callT T (n + 2) ix.f_are_pages [.tup (ps.map Pge.d)] S = .ok (.bl true) S := by
  refine okR_eq (okR_call H.are_pages rfl ?_)
  have e1 : (2 : Int) ≤ ps.length := by omega
  have e2 : (ps.length : Int) ≤ 5 := by omega
  simp [F_are_pages, e1, e2]
  refine okS_for (fun i Γ S' => ∃ o, Γ = [some (.tup (ps.map Pge.d)), o] ∧ S' = S) _ 0 _ _ ⟨none, rfl, rfl⟩ (fun _ _ _ _ => rfl) ?_ ?_
  · rintro j x Γ S' hx ⟨o, rfl, rfl⟩
    obtain ⟨p, hp, rfl⟩ := List.mem_map.mp (List.mem_of_getElem? hx)
    refine ⟨_, rfl, ?_⟩
    simp [Pge.d, is_name_ok H (h p hp).nm, is_page_ok H]
  · rintro Γ S' ⟨o, rfl, rfl⟩
    simp
    refine okR_map (fun d => match d with
      | .tup (a :: _) => a
      | _ => .non) rfl (fun x hx => ?_) (by simp [big]; omega) ?_
    · obtain ⟨p, hp, rfl⟩ := List.mem_map.mp hx
      exact ⟨_, rfl, by simp [Pge.d]⟩
    · have e : List.map (fun d => match d with
        | .tup (a :: _) => a
        | _ => .non) (ps.map Pge.d) = (ps.map Pge.name).map D.str := by simp [Pge.d]
      rw [e, setlen_ok (a := .l ((ps.map Pge.name).map D.str)) rfl rfl nd (by simp; omega)]
      simp
theorem branches_ok (H : HS T ix) (r : Rw) : callT T (n + 1) ix.f_branches [r.d] S = .ok (.tup (r.two.map fun x => .tup x.l)) S := by
  rw [callT_def H.branches rfl]
  cases r <;> simp [runF, F_branches, Rw.d, Rw.two]
theorem two_tuples_ok (H : HS T ix) (x y : List D) : callT T (n + 1) ix.f_two_tuples [.tup [.tup x, .tup y]] S = .ok (.bl true) S := by
  rw [callT_def H.two_tuples rfl]
  simp [runF, F_two_tuples]
theorem row_fits_ok (H : HS T ix) {bits names : List (List Nat)} {en : Bool} {k nl : Nat} {r : Rw} (h : r.ok en bits names k) (hn : S[nl]? = some (.lst (names.map .str))) : callT T (n + 2) ix.f_row_fits [r.d, .int k, .str (sideS en), .tup (bits.map .str), .ref nl] S = .ok (.bl true) S := by
  rw [callT_def H.row_fits rfl]
  have c1 : ∀ a b c d : D, cutL [a, b, c, d] (some 2) none = [c, d] := fun a b c d => by rw [cut_lo (by decide)]; rfl
  have c2 : ∀ a b c : D, cutL [a, b, c] (some 1) none = [b, c] := fun a b c => by rw [cut_lo (by decide)]; rfl
  cases r with
  | iff b x y =>
    simp only [Rw.ok] at h
    have : (k : Int) ≤ 3 := by omega
    simp [runF, F_row_fits, Rw.d, H.deepest, this, one_of_tup H, h.2.1, c1, two_tuples_ok H]
  | ask x y =>
    simp only [Rw.ok] at h
    have : (k : Int) ≤ 3 := by omega
    simp [runF, F_row_fits, Rw.d, H.deepest, this, c2, two_tuples_ok H]
  | set b f =>
    simp only [Rw.ok] at h
    simp [runF, F_row_fits, Rw.d, one_of_tup H, h]
  | lead p =>
    simp only [Rw.ok] at h
    obtain ⟨rfl, h⟩ := h
    simp [runF, F_row_fits, Rw.d, one_of_lst H hn, h, sideS]
  | refuse => simp [runF, F_row_fits, Rw.d]
theorem enumL_get' {xs : List D} {lo : Int} {j : Nat} {x : D} (h : (enumL lo xs)[j]? = some x) : ∃ d, xs[j]? = some d ∧ x = .tup [.int (lo + j), d] := by
  have hj : j < xs.length := by
    have := (List.getElem?_eq_some_iff.mp h).1
    rwa [enumL_len] at this
  have e := List.getElem?_eq_getElem hj
  rw [enumL_get xs lo j _ e] at h
  exact ⟨_, e, (Option.some.inj h).symm⟩
theorem map_get {α : Type} {f : α → D} {xs : List α} {j : Nat} {x : D} (h : (xs.map f)[j]? = some x) : ∃ a, xs[j]? = some a ∧ x = f a := by
  rw [List.getElem?_map] at h
  cases e : xs[j]? with
  | none => rw [e] at h; cases h
  | some a => rw [e] at h; exact ⟨a, rfl, (Option.some.inj h).symm⟩
/-- no row is unfit -/
def FuP (T : Tb) (ix : Lk) (bits names : List (List Nat)) (en : Bool) (nl N k : Nat) : Prop := ∀ (rs : Rws) (pre : List Int) (S : Sto), rs.ok en bits names k → pre.length = 2 * (k - 1) → S[nl]? = some (.lst (names.map .str)) →
  callT T N ix.f_first_unfit [.tup rs.l, posD pre, .str (sideS en), .tup (bits.map .str), .ref nl] S = .ok .non S
theorem fu_step (H : HS T ix) {bits names : List (List Nat)} {en : Bool} {nl N k : Nat} (hk : 1 ≤ k) (hk4 : k ≤ 4) (hN : 2 ≤ N) (ih : k ≤ 3 → FuP T ix bits names en nl N (k + 1)) : FuP T ix bits names en nl (N + 1) k := by
  intro rs pre S hok hpre hnl
  obtain ⟨m, rfl⟩ : ∃ m, N = m + 2 := ⟨N - 2, by omega⟩
  refine okR_eq (okR_call H.first_unfit rfl ?_)
  simp [F_first_unfit, posD]
  refine okS_for (fun i Γ S' => ∃ o5 o6 o7 o8 o9 o10, Γ = [some (.tup rs.l), some (.tup (pre.map .int)), some (.str (sideS en)), some (.tup (bits.map .str)), some (.ref nl), o5, o6, o7, o8, o9, o10] ∧ S' = S) _ 0 _ _ ⟨none, none, none, none, none, none, rfl, rfl⟩ (fun _ _ _ _ => rfl) ?_ ?_
  · rintro j x Γ S' hx ⟨o5, o6, o7, o8, o9, o10, rfl, rfl⟩
    obtain ⟨d, hd, rfl⟩ := enumL_get' hx
    rw [Rws.l_eq] at hd
    obtain ⟨r, hr, rfl⟩ := map_get hd
    have hrok := Rws.ok_mem hok r (List.mem_of_getElem? hr)
    refine ⟨_, rfl, ?_⟩
    have hd : (((pre.length : Int) + 1) / 2 + 1) = (k : Int) := by omega
    simp [big, (by omega : pre.length + 1 ≤ 16777216), hd, row_fits_ok H hrok hnl, branches_ok H]
    refine okS_for (fun i Γ S'' => ∃ o8 o9 o10, Γ = [some (.tup rs.l), some (.tup (pre.map .int)), some (.str (sideS en)), some (.tup (bits.map .str)), some (.ref nl), some (.int j), some r.d, some (.tup (pre.map D.int ++ [.int j])), o8, o9, o10] ∧ S'' = S') _ 0 _ _ ⟨o8, o9, o10, rfl, rfl⟩ (fun _ _ _ _ => rfl) ?_ ?_
    · rintro i x Γ S'' hx ⟨o8, o9, o10, rfl, rfl⟩
      obtain ⟨d, hd, rfl⟩ := enumL_get' hx
      obtain ⟨y, hy, rfl⟩ := map_get hd
      obtain ⟨hk3, hyok⟩ := Rw.two_ok hrok y (List.mem_of_getElem? hy)
      refine ⟨_, rfl, ?_⟩
      have e := ih hk3 y (pre ++ [(j : Int), (i : Int)]) S'' hyok (by simp [hpre]; omega) hnl
      simp [posD] at e
      simp [big, (by omega : pre.length + 1 + 1 ≤ 16777216), e]
    · rintro Γ S'' ⟨o8, o9, o10, rfl, rfl⟩
      simp
  · rintro Γ S' ⟨o5, o6, o7, o8, o9, o10, rfl, rfl⟩
    simp
theorem fu_all (H : HS T ix) {bits names : List (List Nat)} {en : Bool} {nl : Nat} : ∀ (g k N : Nat), k + g = 4 → 1 ≤ k → 3 + g ≤ N → FuP T ix bits names en nl N k
  | 0, k, N, h, h1, hN => by
    obtain ⟨M, rfl⟩ : ∃ M, N = M + 1 := ⟨N - 1, by omega⟩
    exact fu_step H h1 (by omega) (by omega) fun h => by omega
  | g + 1, k, N, h, h1, hN => by
    obtain ⟨M, rfl⟩ : ∃ M, N = M + 1 := ⟨N - 1, by omega⟩
    exact fu_step H h1 (by omega) (by omega) fun _ => fu_all H g (k + 1) M (by omega) (by omega) (by omega)
end
end G

set_option linter.all false
set_option maxRecDepth 100000
set_option maxHeartbeats 1000000
set_option autoImplicit false
/-! LB6: rows in order; a site is made. -/
namespace DL
theorem okS_for_nil {ks : List (Nat × List D)} {t : Tg} {body : Ev → Sto → RS} {Q : F → Sto → Prop} {Γ : Ev} {S : Sto} (hs : stays S ks = true) (h : Q (.nx Γ) S) : okS (forL ks t body [] Γ S) Q := by
  unfold forL; rw [hs]; exact h
theorem okS_for_cons {ks : List (Nat × List D)} {t : Tg} {body : Ev → Sto → RS} {Q : F → Sto → Prop} {Γ Γ' : Ev} {S : Sto} {x : D} {xs : List D} (hs : stays S ks = true) (ha : asg t x Γ = some Γ') (h : okS (body Γ' S) (lpQ (fun Γ2 S2 => okS (forL ks t body xs Γ2 S2) Q) Q)) : okS (forL ks t body (x :: xs) Γ S) Q := by
  unfold forL; rw [hs]; simp only; rw [ha]; simp only
  cases e : body Γ' S with
  | ok f S2 => rw [e] at h; cases f <;> exact h
  | exc _ _ _ _ => rw [e] at h; exact h.elim
  | stuck => rw [e] at h; exact h.elim
theorem okS_for0 {ks : List (Nat × List D)} {t : Tg} {body : Ev → Sto → RS} {Q : F → Sto → Prop} {xs : List D} {Γ : Ev} {S : Sto} (I : Nat → Ev → Sto → Prop) (h0 : I 0 Γ S) (hst : ∀ j Γ S, I j Γ S → stays S ks = true)
    (hs : ∀ j x Γ S, xs[j]? = some x → I j Γ S → ∃ Γ', asg t x Γ = some Γ' ∧ okS (body Γ' S) (lpQ (I (j + 1)) Q)) (he : ∀ Γ S, I xs.length Γ S → Q (.nx Γ) S) : okS (forL ks t body xs Γ S) Q :=
  okS_for I xs 0 Γ S h0 hst (fun j x Γ S hj hI => by
    rw [Nat.zero_add] at hI ⊢
    exact hs j x Γ S hj hI) fun Γ S hI => he Γ S (by rw [Nat.zero_add] at hI; exact hI)
end DL
namespace G
open DL
mutual
def Rw.hgt : Rw → Nat
  | .iff _ x y => 1 + max x.hgt y.hgt
  | .ask x y => 1 + max x.hgt y.hgt
  | _ => 0
def Rws.hgt : Rws → Nat
  | .nil => 0
  | .cons r rs => max r.hgt rs.hgt
end
mutual
theorem Rws.ok_hgt {en : Bool} {bits names : List (List Nat)} : ∀ (rs : Rws) (k : Nat), k ≤ 4 → rs.ok en bits names k → rs.hgt + k ≤ 4
  | .nil, k, hk, _ => by simp [Rws.hgt]; omega
  | .cons r rs, k, hk, h => by
    simp only [Rws.ok] at h
    have h1 := Rw.ok_hgt r k hk h.1
    have h2 := Rws.ok_hgt rs k hk h.2
    simp only [Rws.hgt]; omega
theorem Rw.ok_hgt {en : Bool} {bits names : List (List Nat)} : ∀ (r : Rw) (k : Nat), k ≤ 4 → r.ok en bits names k → r.hgt + k ≤ 4
  | .iff _ x y, k, hk, h => by
    simp only [Rw.ok] at h
    have h1 := Rws.ok_hgt x (k + 1) (by omega) h.2.2.1
    have h2 := Rws.ok_hgt y (k + 1) (by omega) h.2.2.2
    simp only [Rw.hgt]; omega
  | .ask x y, k, hk, h => by
    simp only [Rw.ok] at h
    have h1 := Rws.ok_hgt x (k + 1) (by omega) h.2.1
    have h2 := Rws.ok_hgt y (k + 1) (by omega) h.2.2
    simp only [Rw.hgt]; omega
  | .set _ _, k, hk, _ => by simp [Rw.hgt]; omega
  | .lead _, k, hk, _ => by simp [Rw.hgt]; omega
  | .refuse, k, hk, _ => by simp [Rw.hgt]; omega
end
/-- more stands behind -/
def Gr (S S' : Sto) : Prop := ∃ X, S' = S ++ X
theorem Gr.refl {S : Sto} : Gr S S := ⟨[], by simp⟩
theorem Gr.trans {S S' S'' : Sto} (a : Gr S S') (b : Gr S' S'') : Gr S S'' := by
  obtain ⟨X, rfl⟩ := a
  obtain ⟨Y, rfl⟩ := b
  exact ⟨X ++ Y, by simp⟩
theorem Gr.push {S S' X : Sto} (a : Gr S S') : Gr S (S' ++ X) := a.trans ⟨X, rfl⟩
theorem Gr.at {S S' : Sto} (a : Gr S S') {i : Nat} {o : O} (h : S[i]? = some o) : S'[i]? = some o := by
  obtain ⟨X, rfl⟩ := a
  exact at_old h
theorem Gr.len {S S' : Sto} (a : Gr S S') : S.length ≤ S'.length := by
  obtain ⟨X, rfl⟩ := a
  simp
theorem Gr.set {S S' : Sto} (a : Gr S S') {j : Nat} {o : O} (hj : S.length ≤ j) : Gr S (S'.set j o) := by
  obtain ⟨X, rfl⟩ := a
  exact ⟨X.set (j - S.length) o, by rw [List.set_append_right _ _ hj]⟩
theorem Gr.ef {k c : Nat} {S S' : Sto} {S0 : Sto} (a : Gr S S') (e : Ef k c S0 S) : Ef k c S S' := by
  obtain ⟨X, rfl⟩ := a
  exact e.self.push
section
variable {T : Tb} {ix : Lk} {n : Nat} {S : Sto}
theorem Rws.drop_cons {rest : Rws} {r : Rw} {l : List Rw} (h : rest.toL = r :: l) : ∃ rs, rest = .cons r rs ∧ rs.toL = l := by
  cases rest with
  | nil => cases h
  | cons a b => simp only [Rws.toL, List.cons.injEq] at h; obtain ⟨rfl, rfl⟩ := h; exact ⟨b, rfl, rfl⟩
theorem Rws.hgt_mem : ∀ {rs : Rws} {r : Rw}, r ∈ rs.toL → r.hgt ≤ rs.hgt
  | .nil, _, h => by cases h
  | .cons a b, r, h => by
    simp only [Rws.toL, List.mem_cons] at h
    simp only [Rws.hgt]
    rcases h with rfl | h
    · omega
    · have := Rws.hgt_mem h; omega
theorem Rw.two_cases (r : Rw) : (r.two = [] ∧ ∀ pos, r.inn pos = []) ∨ ∃ x y, r.two = [x, y] ∧ x.hgt + 1 ≤ r.hgt ∧ y.hgt + 1 ≤ r.hgt ∧ (∀ pos, r.inn pos = x.ord (pos ++ [0]) 0 ++ y.ord (pos ++ [1]) 0) ∧ r.cnt = 1 + x.cnt + y.cnt := by
  cases r with
  | iff b x y => exact .inr ⟨x, y, rfl, by simp [Rw.hgt]; omega, by simp [Rw.hgt]; omega, fun _ => by simp [Rw.inn], by simp [Rw.cnt]⟩
  | ask x y => exact .inr ⟨x, y, rfl, by simp [Rw.hgt]; omega, by simp [Rw.hgt]; omega, fun _ => by simp [Rw.inn], by simp [Rw.cnt]⟩
  | set b f => exact .inl ⟨rfl, fun _ => by simp [Rw.inn]⟩
  | lead p => exact .inl ⟨rfl, fun _ => by simp [Rw.inn]⟩
  | refuse => exact .inl ⟨rfl, fun _ => by simp [Rw.inn]⟩
def RioP (T : Tb) (ix : Lk) (N : Nat) (rs : Rws) (pre : List Int) (S : Sto) : Prop := okR (callT T N ix.f_rows_in_order [.tup rs.l, posD pre] S) fun d S' => d = .ref S.length ∧ Gr S S' ∧ S'[S.length]? = some (.lst ((rs.ord pre 0).map prD))
theorem rio_step (H : HS T ix) {M h : Nat} (hM : 1 ≤ M) (ih : ∀ (x : Rws) (pre : List Int) (S : Sto), x.hgt + 1 ≤ h → pre.length + 2 * x.hgt ≤ 1000 → x.cnt ≤ 1000000 → RioP T ix M x pre S) (rs : Rws) (pre : List Int) (S : Sto) (hh : rs.hgt ≤ h) (hp : pre.length + 2 * rs.hgt ≤ 1000) (hc : rs.cnt ≤ 1000000) : RioP T ix (M + 1) rs pre S := by
  obtain ⟨m, rfl⟩ : ∃ m, M = m + 1 := ⟨M - 1, by omega⟩
  refine okR_call H.rows_in_order rfl ?_
  simp [F_rows_in_order, posD]
  refine okS_for0 (fun i Γ S' => ∃ (rest : Rws) (acc : List (List Int × Rw)) (o3 o4 o5 o6 o7 : Option D), Γ = [some (.tup rs.l), some (.tup (pre.map .int)), some (.ref S.length), o3, o4, o5, o6, o7] ∧ rest.toL = rs.toL.drop i ∧ acc ++ rest.ord pre i = rs.ord pre 0 ∧ S'[S.length]? = some (.lst (acc.map prD)) ∧ Gr S S') ?_ (fun _ _ _ _ => rfl) ?_ ?_
  · exact ⟨rs, [], none, none, none, none, none, rfl, by simp, by simp, at_end, Gr.refl.push⟩
  · rintro j x Γ S1 hx ⟨rest, acc, o3, o4, o5, o6, o7, rfl, hrest, hacc, hL, gr⟩
    obtain ⟨d, hd, rfl⟩ := enumL_get' hx
    rw [Rws.l_eq] at hd
    obtain ⟨r, hr, rfl⟩ := map_get hd
    have hjl := (List.getElem?_eq_some_iff.mp hr).1
    have hdrop : rs.toL.drop j = r :: rs.toL.drop (j + 1) := by
      rw [List.drop_eq_getElem_cons hjl]
      congr 1
      rw [List.getElem?_eq_getElem hjl] at hr
      exact Option.some.inj hr
    obtain ⟨rest', rfl, hrest'⟩ := Rws.drop_cons (hrest.trans hdrop)
    have hlen := Rws.ord_len rs pre 0
    rw [← hacc] at hlen
    simp only [Rws.ord, List.length_append, List.length_cons] at hlen hacc
    have hrh := Rws.hgt_mem (List.mem_of_getElem? hr)
    have hSl := gr.len
    refine ⟨_, rfl, ?_⟩
    have hap := append_ok hL (y := .tup [.tup (pre.map D.int ++ [.int j]), r.d]) (by simp [big]; omega)
    simp [big, (by omega : pre.length + 1 ≤ 16777216), rcv_append hL, hap, branches_ok H]
    -- the store behind the append
    have hL2 : (S1.set S.length (.lst (acc.map prD ++ [.tup [.tup (pre.map D.int ++ [.int j]), r.d]])))[S.length]? = some (.lst ((acc ++ [(pre ++ [(j : Int)], r)]).map prD)) := by
      rw [at_set hL]; simp [prD, posD]
    have gr2 : Gr S (S1.set S.length (.lst (acc.map prD ++ [.tup [.tup (pre.map D.int ++ [.int j]), r.d]]))) := gr.set (Nat.le_refl _)
    generalize (S1.set S.length (.lst (acc.map prD ++ [.tup [.tup (pre.map D.int ++ [.int j]), r.d]]))) = S2 at hL2 gr2
    -- one branch
    have one : ∀ (x : Rws) (b : Int) (acc2 : List (List Int × Rw)) (S3 : Sto) (QQ : Ev → Sto → Prop) (QR : F → Sto → Prop), x.hgt + 1 ≤ r.hgt → x.cnt ≤ 1000000 → acc2.length + x.cnt ≤ 2000000 → S3[S.length]? = some (.lst (acc2.map prD)) → Gr S S3 →
        (∀ S4, S4[S.length]? = some (.lst ((acc2 ++ x.ord (pre ++ [(j : Int), b]) 0).map prD)) → Gr S S4 → QQ [some (.tup rs.l), some (.tup (pre.map .int)), some (.ref S.length), some (.int j), some r.d, some (.tup (pre.map D.int ++ [.int j])), some (.int b), some (.tup x.l)] S4) →
        okS (execs T (callT T (m + 1)) (.cons (.ex (.mt .extend (.var 2) (.e (.call ix.f_rows_in_order (.cons (.var 7) (.cons (.op2 .add (.e (.var 5)) (.e (.tup (.cons (.var 6) .nil)))) .nil)))))) .nil)
          [some (.tup rs.l), some (.tup (pre.map .int)), some (.ref S.length), some (.int j), some r.d, some (.tup (pre.map D.int ++ [.int j])), some (.int b), some (.tup x.l)] S3) (lpQ QQ QR) := by
      intro x b acc2 S3 QQ QR hxh hxc hxl hL3 gr3 hQ
      have e := ih x (pre ++ [(j : Int), b]) S3 (by omega) (by simp; omega) hxc
      unfold RioP at e
      simp [posD] at e
      have hl3 : S.length < S3.length := (List.getElem?_eq_some_iff.mp hL3).1
      simp [big, (by omega : pre.length + 1 + 1 ≤ 16777216), rcv_extend hL3]
      refine okR_imp e ?_
      rintro d S4 ⟨rfl, gr4, hL4⟩
      have hL5 := gr4.at hL3
      have hex := extend_ok hL5 (lsts_lst hL4) (by simp [big, Rws.ord_len]; omega)
      simp [hex]
      refine hQ _ ?_ ((gr3.trans gr4).set (Nat.le_refl _))
      rw [at_set hL5]; simp
    have fin : ∀ (S5 : Sto), S5[S.length]? = some (.lst ((acc ++ (pre ++ [(j : Int)], r) :: r.inn (pre ++ [(j : Int)])).map prD)) → Gr S S5 →
        ∃ x : Rws, x.toL = rs.toL.drop (j + 1) ∧ ∃ x_1 : List (List Int × Rw), x_1 ++ x.ord pre (j + 1) = rs.ord pre 0 ∧ S5[S.length]? = some (.lst (x_1.map prD)) ∧ Gr S S5 := fun S5 h5 g5 => ⟨rest', hrest', _, by rw [← hacc]; simp, h5, g5⟩
    have hr1 : r.cnt - 1 = (r.inn (pre ++ [(j : Int)])).length := (Rw.inn_len r _).symm
    rcases Rw.two_cases r with ⟨h1, h2⟩ | ⟨x, y, h1, h2, h3, h4, h5⟩
    · rw [h1]
      refine okS_for_nil rfl ?_
      simp
      refine fin S2 ?_ gr2
      rw [h2]; exact hL2
    · rw [h1]
      have hxy : x.cnt + y.cnt ≤ 1000000 := by omega
      refine okS_for_cons rfl rfl (one x 0 (acc ++ [(pre ++ [(j : Int)], r)]) S2 _ _ h2 (by omega) (by simp; omega) hL2 gr2 fun S4 hL4 gr4 => ?_)
      refine okS_for_cons rfl rfl (one y 1 (acc ++ [(pre ++ [(j : Int)], r)] ++ x.ord (pre ++ [(j : Int), 0]) 0) S4 _ _ h3 (by omega) (by simp [Rws.ord_len]; omega) hL4 gr4 fun S5 hL5 gr5 => ?_)
      refine okS_for_nil rfl ?_
      simp
      refine fin S5 ?_ gr5
      rw [h4]
      rw [hL5]
      simp
  · rintro Γ S1 ⟨rest, acc, o3, o4, o5, o6, o7, rfl, hrest, hacc, hL, gr⟩
    have : rest = .nil := by
      cases rest with
      | nil => rfl
      | cons a b =>
        rw [enumL_len, Rws.l_eq, List.length_map, List.drop_length] at hrest
        cases hrest
    subst this
    simp [Rws.ord] at hacc
    subst hacc
    simp
    exact ⟨gr, by simpa using hL⟩
theorem rio_all (H : HS T ix) : ∀ (h M : Nat), h + 2 ≤ M → ∀ (rs : Rws) (pre : List Int) (S : Sto), rs.hgt ≤ h → pre.length + 2 * rs.hgt ≤ 1000 → rs.cnt ≤ 1000000 → RioP T ix M rs pre S
  | 0, M, hM, rs, pre, S, hh, hp, hc => by
    obtain ⟨m, rfl⟩ : ∃ m, M = m + 1 := ⟨M - 1, by omega⟩
    exact rio_step H (h := 0) (by omega) (fun x pre S hx => by omega) rs pre S hh hp hc
  | h + 1, M, hM, rs, pre, S, hh, hp, hc => by
    obtain ⟨m, rfl⟩ : ∃ m, M = m + 1 := ⟨M - 1, by omega⟩
    exact rio_step H (h := h + 1) (by omega) (fun x pre S hx hp hc => rio_all H h m (by omega) x pre S (by omega) hp hc) rs pre S hh hp hc
/-- a guard is right -/
theorem check_ok (H : HS T ix) {bits names : List (List Nat)} {en : Bool} {nl N : Nat} {rs : Rws} {w : List Nat} (hok : rs.ok en bits names 1) (hc : rs.cnt ≤ 8) (hnl : S[nl]? = some (.lst (names.map .str))) (hN : 6 ≤ N) {Q : D → Sto → Prop} (q : ∀ S', Gr S S' → Q .non S') :
    okR (callT T (N + 1) ix.f_check_guard [.tup rs.l, .tup [.str w, .str (sideS en), .tup []], .tup (bits.map .str), .ref nl] S) Q := by
  refine okR_call H.check_guard rfl ?_
  have e := fu_all H 3 1 N rfl (by omega) (by omega) rs [] S hok rfl hnl
  simp [posD] at e
  have hh := Rws.ok_hgt rs 1 (by omega) hok
  have r := rio_all H 3 N (by omega) rs [] S (by omega) (by simp; omega) (by omega)
  unfold RioP at r
  simp [posD] at r
  simp [F_check_guard, e, pick]
  refine okR_imp r ?_
  rintro d S' ⟨rfl, gr, hL⟩
  have hl : ¬ (8 : Int) < rs.cnt := by omega
  simp [bf_len_ref (its_lst hL), H.most, Rws.ord_len, hl]
  exact q S' gr
end
end G

set_option linter.all false
set_option maxRecDepth 100000
set_option maxHeartbeats 1000000
set_option autoImplicit false
/-! LB7: a site is made. -/
namespace G
open DL
def siteO (ix : Lk) (s : Si) : O := .ins ix.c_Site [(29, s.bd), (106, s.pd), (144, .str s.start), (70, .int s.keep)]
section
variable {T : Tb} {ix : Lk} {n : Nat} {S : Sto}
theorem fld_ok {cd : Cls} {c f : Nat} (h : T.cls[c]? = some cd) (hf : cd.flds.contains f = true) : fldOk T c f = true := by simp only [fldOk, h, hf]
theorem setAttr_ok {c f i : Nat} {fs : List (Nat × D)} {v : D} (h : S[i]? = some (.ins c fs)) (hf : fldOk T c f = true) (hl : fs.length < 900) : setAttr T S (.ref i) f v = some (S.set i (.ins c (putF f v fs))) := by
  simp only [setAttr, h, hf]
  rw [if_pos (by simp [hl])]
theorem attr_ok {c f i : Nat} {fs : List (Nat × D)} {v : D} (h : S[i]? = some (.ins c fs)) (hf : fldOk T c f = true) (hl : lku fs f = some v) : attrT T S f (.ref i) = .ok v S := by
  simp only [attrT, h, hf, hl]
theorem init_ok (H : HS T ix) {s : Si} (ok : SiOk s) {N : Nat} (hN : 7 ≤ N) : okR (callT T (N + 1) ix.f_Site___init__ [.ref S.length, s.bd, s.pd, .str s.start, .int s.keep] (S ++ [.ins ix.c_Site []])) fun d S' => d = .non ∧ Gr S S' ∧ S'[S.length]? = some (siteO ix s) := by
  obtain ⟨m, rfl⟩ : ∃ m, N = m + 7 := ⟨N - 7, by omega⟩
  obtain ⟨cd, hcd, _, f1, f2, f3, f4⟩ := H.cls
  have f1 := fld_ok hcd f1
  have f2 := fld_ok hcd f2
  have f3 := fld_ok hcd f3
  have f4 := fld_ok hcd f4
  refine okR_call H.init rfl ?_
  have ab := are_bits_ok (n := m + 4) (S := S ++ [.ins ix.c_Site []]) H ok.bo ok.bn ok.bl
  have ap := are_pages_ok (n := m + 5) (S := S ++ [.ins ix.c_Site []]) H ok.pg ok.pn ok.p2 ok.p5
  simp [F_Site___init__, Si.bd, Si.pd, ab, ap]
  refine okR_map (fun d => match d with
      | .tup (a :: _) => a
      | _ => .non) rfl (fun x hx => ?_) (by simp [big]; have := ok.p5; omega) ?_
  · obtain ⟨p, hp, rfl⟩ := List.mem_map.mp hx
    exact ⟨_, rfl, by simp [Pge.d]⟩
  · have e : List.map (fun d => match d with
        | .tup (a :: _) => a
        | _ => .non) (s.pages.map Pge.d) = s.names.map D.str := by simp [Pge.d, Si.names]
    rw [e]
    have hS2 : (S ++ [O.ins ix.c_Site []] ++ [O.lst (s.names.map D.str)])[S.length + 1]? = some (.lst (s.names.map .str)) := by
      have := at_end (X := S ++ [O.ins ix.c_Site []]) (o := O.lst (s.names.map D.str))
      simpa using this
    have hS1 : (S ++ [O.ins ix.c_Site []] ++ [O.lst (s.names.map D.str)])[S.length]? = some (.ins ix.c_Site []) := at_old at_end
    generalize hG : (S ++ [O.ins ix.c_Site []] ++ [O.lst (s.names.map D.str)]) = S2 at hS1 hS2
    have g2 : Gr S S2 := ⟨_, by rw [← hG, List.append_assoc]⟩
    simp
    refine okS_for0 (fun i Γ S' => ∃ o6 o7 : Option D, Γ = [some (.ref S.length), some (.tup (s.bits.map .str)), some (.tup (s.pages.map Pge.d)), some (.str s.start), some (.int s.keep), some (.ref (S.length + 1)), o6, o7, none] ∧ Gr S2 S') ⟨none, none, by simp, Gr.refl⟩ (fun _ _ _ _ => rfl) ?_ ?_
    · rintro j x Γ S3 hx ⟨o6, o7, rfl, g3⟩
      obtain ⟨p, hp, rfl⟩ := map_get hx
      have hpo := ok.pg p (List.mem_of_getElem? hp)
      refine ⟨_, rfl, ?_⟩
      try simp
      refine check_ok H (en := true) hpo.en hpo.enc (g3.at hS2) (by omega) fun S4 g4 => ?_
      try simp
      refine check_ok H (en := false) hpo.lv hpo.lvc ((g3.trans g4).at hS2) (by omega) fun S5 g5 => ?_
      try simp
      exact (g3.trans g4).trans g5
    · rintro Γ S3 ⟨o6, o7, rfl, g3⟩
      have h5 := g3.at hS2
      have h1 := g3.at hS1
      have k2 : (2 : Int) ≤ s.keep := by have := ok.k2; omega
      have k4 : (s.keep : Int) ≤ 4 := by have := ok.k4; omega
      have hlt : S.length < S3.length := (List.getElem?_eq_some_iff.mp h1).1
      have hset : ∀ o : O, (S3.set S.length o)[S.length]? = some o := fun o => List.getElem?_set_self hlt
      simp [one_of_lst H h5, ok.st, is_integer_int H, k2, k4, setAttr_ok h1 f1, setAttr_ok (hset _) f2, setAttr_ok (hset _) f3, setAttr_ok (hset _) f4, putF]
      exact ⟨(g2.trans g3).set (Nat.le_refl _), hset _⟩
/-- Site(bits, pages, start, keep=keep) -/
theorem make_ok (H : HS T ix) {s : Si} (ok : SiOk s) {N : Nat} (hN : 7 ≤ N) {Q : D → Sto → Prop} (q : ∀ S', Gr S S' → S'[S.length]? = some (siteO ix s) → Q (.ref S.length) S') :
    okR (match mth T ix.c_Site iInit with
      | some f => (callT T (N + 1) f (.ref S.length :: [s.bd, s.pd, .str s.start, .int s.keep]) (S ++ [.ins ix.c_Site []])).bind fun d S' => (match d with
        | .non => .ok (.ref S.length) S'
        | _ => .stuck)
      | none => .stuck) Q := by
  obtain ⟨cd, hcd, hi, _⟩ := H.cls
  have e : mth T ix.c_Site iInit = some ix.f_Site___init__ := by simp only [mth, hcd, hi]
  rw [e]
  simp only [okR_bind]
  refine okR_imp (init_ok H ok hN) ?_
  rintro d S' ⟨rfl, g, h⟩
  exact q S' g h
end
end G

set_option linter.all false
set_option maxRecDepth 100000
set_option maxHeartbeats 1000000
set_option autoImplicit false
/-! LB8: the law's comparison of plain data. -/
namespace G
open DL
def plainD : Nat → D → Prop
  | _, .non => True
  | _, .bl _ => True
  | _, .int _ => True
  | _, .str _ => True
  | n + 1, .tup xs => (∀ x ∈ xs, plainD n x) ∧ xs.length ≤ 1000
  | 0, .tup _ => False
  | _, .ref _ => False
section
variable {T : Tb} {ix : Lk} {n : Nat} {S : Sto}
theorem same_ok (H : T.fns[ix.f__law_same]? = some (F__law_same ix)) : ∀ (N : Nat) (d : D) (S : Sto), plainD N d → callT T (N + 1) ix.f__law_same [d, d] S = .ok (.bl true) S
  | _, .non, S, _ => by rw [callT_def H rfl]; simp [runF, F__law_same]
  | _, .bl b, S, _ => by rw [callT_def H rfl]; simp [runF, F__law_same]
  | _, .int i, S, _ => by rw [callT_def H rfl]; simp [runF, F__law_same]
  | _, .str s, S, _ => by rw [callT_def H rfl]; simp [runF, F__law_same]
  | 0, .tup _, _, h => by simp [plainD] at h
  | _, .ref _, _, h => by simp [plainD] at h
  | N + 1, .tup xs, S, h => by
    simp only [plainD] at h
    obtain ⟨h1, hl⟩ := h
    refine okR_eq (okR_call H rfl ?_)
    have s1 : smallI (xs.length : Int) = true := smallI_ok (by omega) (by omega)
    have s2 : smallI 0 = true := by simp [smallI]
    simp [F__law_same, s1, s2]
    refine okR_map (fun _ => .bl true) rfl (fun x hx => ?_) (by rw [rngL_len]; simp [big]; omega) ?_
    · obtain ⟨j, hj⟩ := List.getElem?_of_mem hx
      obtain ⟨hj1, rfl⟩ := rngL_get' hj
      have hj2 : xs[j]? = some xs[j] := List.getElem?_eq_getElem hj1
      refine ⟨_, rfl, ?_⟩
      have e := same_ok H N xs[j] S (h1 _ (List.getElem_mem _))
      simp [atI_nat, hj2, e]
    · have e : (List.map (fun _ => D.bl true) (rngL 0 xs.length)) = (List.range xs.length).map (D.bl ∘ fun _ => true) := by
        apply List.ext_getElem
        · simp [rngL_len]
        · intro i h1 h2; simp
      simp [e]
end
end G

set_option linter.all false
set_option maxRecDepth 100000
set_option maxHeartbeats 1000000
set_option autoImplicit false
/-! LC1: values of any kind, page_names, is_deed. -/
namespace G
open DL
section
variable {T : Tb} {ix : Lk} {n : Nat} {S : Sto}
/-- values whose kind is known -/
inductive K1 (S : Sto) : D → Prop
  | int (i : Int) : K1 S (.int i)
  | str (s : List Nat) : K1 S (.str s)
  | bl (b : Bool) : K1 S (.bl b)
  | non : K1 S .non
  | tup (xs : List D) : K1 S (.tup xs)
  | lst (n : Nat) (ys : List D) (h : S[n]? = some (.lst ys)) : K1 S (.ref n)
def isI : D → Bool
  | .int _ => true
  | _ => false
def isB : D → Bool
  | .bl _ => true
  | _ => false
def isS : D → Bool
  | .str _ => true
  | _ => false
def isT : D → Bool
  | .tup _ => true
  | _ => false
def inS (ws : List (List Nat)) : D → Bool
  | .str w => decide (w ∈ ws)
  | _ => false
theorem K1.ty_str {x : D} (h : K1 S x) : tyT T S .str x = some (isS x) := by
  cases h with
  | lst n ys h => rw [ty_lstT h]; rfl
  | _ => rfl
theorem K1.ty_bool {x : D} (h : K1 S x) : tyT T S .bool x = some (isB x) := by
  cases h with
  | lst n ys h => rw [ty_lstT h]; rfl
  | _ => rfl
theorem K1.ty_int {x : D} (h : K1 S x) : tyT T S .int x = some (isI x || isB x) := by
  cases h with
  | lst n ys h => rw [ty_lstT h]; rfl
  | _ => rfl
theorem K1.ty_tup {x : D} (h : K1 S x) : tyT T S .tuple x = some (isT x) := by
  cases h with
  | lst n ys h => rw [ty_lstT h]; rfl
  | _ => rfl
theorem integer_ok (H : HS T ix) {x : D} (h : K1 S x) : callT T (n + 1) ix.f_is_integer [x] S = .ok (.bl (isI x)) S := by
  rw [callT_def H.is_integer rfl]
  simp [runF, F_is_integer, h.ty_int, h.ty_bool]
  cases h <;> simp [isI, isB]
theorem one_of_any (H : HS T ix) {x : D} (h : K1 S x) {ws : List (List Nat)} : callT T (n + 1) ix.f_is_one_of [x, .tup (ws.map .str)] S = .ok (.bl (inS ws x)) S := by
  rw [callT_def H.is_one_of rfl]
  simp [runF, F_is_one_of, h.ty_str]
  cases h <;> simp [isS, inS, in_strsT]
structure HN (T : Tb) (ix : Lk) : Prop where
  names : T.fns[ix.f_Site_page_names]? = some (F_Site_page_names ix)
  mnames : mth T ix.c_Site 103 = some ix.f_Site_page_names
structure HQ (T : Tb) (ix : Lk) : Prop extends HN T ix where
  is_deed : T.fns[ix.f_is_deed]? = some (F_is_deed ix)
  late : T.glo[ix.g_MOST_LATE]? = some (.int 2)
theorem page_names_ok (H : HN T ix) (HS : HS T ix) {s : Si} {i : Nat} (hs : S[i]? = some (siteO ix s)) (h5 : s.pages.length ≤ 5) : callT T (n + 1) ix.f_Site_page_names [.ref i] S = .ok (.tup (s.names.map .str)) S := by
  refine okR_eq ?_
  refine okR_call H.names rfl ?_
  obtain ⟨cd, hcd, _, h29, h106, _⟩ := HS.cls
  simp [F_Site_page_names, attr_ok hs (fld_ok hcd h106) rfl, Si.pd]
  refine okR_map (fun d => match d with
    | .tup (a :: _) => a
    | _ => .non) rfl (fun x hx => ?_) (by simp [big]; omega) ?_
  · obtain ⟨p, hp, rfl⟩ := List.mem_map.mp hx
    exact ⟨_, rfl, by simp [Pge.d]⟩
  · simp [Pge.d, Si.names]
def wBack : List Nat := [98, 97, 99, 107]
def wForward : List Nat := [102, 111, 114, 119, 97, 114, 100]
def wClick : List Nat := [99, 108, 105, 99, 107]
def wAnswer : List Nat := [97, 110, 115, 119, 101, 114]
def wLoad : List Nat := [108, 111, 97, 100]
def wLate : List Nat := [108, 97, 116, 101]
def wFlip : List Nat := [102, 108, 105, 112]
def is01 : D → Bool
  | .int i => decide (i = 0) || decide (i = 1)
  | _ => false
def deedB (bits names : List (List Nat)) : D → Bool
  | .tup [.str w] => decide (w = wBack) || decide (w = wForward)
  | .tup [.str w, x] => (decide (w = wClick) && inS names x) || ((decide (w = wAnswer) || decide (w = wLoad)) && isB x) || (decide (w = wFlip) && inS bits x)
  | .tup [.str w, x, y] => decide (w = wLate) && (is01 x && isB y)
  | _ => false
structure KD (S : Sto) (v : D) : Prop where
  k : K1 S v
  its : ∀ xs, v = .tup xs → ∀ x ∈ xs, K1 S x
theorem word_cases (w : List Nat) : w = wBack ∨ w = wForward ∨ w = wClick ∨ w = wAnswer ∨ w = wLoad ∨ w = wLate ∨ w = wFlip ∨ (w ≠ wBack ∧ w ≠ wForward ∧ w ≠ wClick ∧ w ≠ wAnswer ∧ w ≠ wLoad ∧ w ≠ wLate ∧ w ≠ wFlip) := by
  by_cases h1 : w = wBack
  · exact .inl h1
  by_cases h2 : w = wForward
  · exact .inr (.inl h2)
  by_cases h3 : w = wClick
  · exact .inr (.inr (.inl h3))
  by_cases h4 : w = wAnswer
  · exact .inr (.inr (.inr (.inl h4)))
  by_cases h5 : w = wLoad
  · exact .inr (.inr (.inr (.inr (.inl h5))))
  by_cases h6 : w = wLate
  · exact .inr (.inr (.inr (.inr (.inr (.inl h6)))))
  by_cases h7 : w = wFlip
  · exact .inr (.inr (.inr (.inr (.inr (.inr (.inl h7))))))
  exact .inr (.inr (.inr (.inr (.inr (.inr (.inr ⟨h1, h2, h3, h4, h5, h6, h7⟩))))))
theorem cut_tl {x : D} {xs : List D} : cutL (x :: xs) (some 1) none = xs := by rw [cut_lo (by decide)]; rfl
theorem bl_late {x : D} (h : K1 S x) (h2 : isI x = true) : ∃ i, x = .int i := by
  cases h with
  | int i => exact ⟨i, rfl⟩
  | _ => cases h2
theorem i01 (i : Int) : (decide (0 ≤ i) && decide (i < 2)) = (decide (i = 0) || decide (i = 1)) := by
  by_cases h0 : i = 0
  · subst h0; rfl
  · by_cases h1 : i = 1
    · subst h1; rfl
    · simp [h0, h1]; omega
@[simp] theorem L1_0 {a : Nat} : ((a : Int) + 1 = 0) = False := by simp; omega
@[simp] theorem L4_0 {a : Nat} : ((a : Int) + 1 + 1 + 1 + 1 = 0) = False := by simp; omega
@[simp] theorem L4_1 {a : Nat} : ((a : Int) + 1 + 1 + 1 + 1 = 1) = False := by simp; omega
@[simp] theorem L4_2 {a : Nat} : ((a : Int) + 1 + 1 + 1 + 1 = 2) = False := by simp; omega
@[simp] theorem L4_3 {a : Nat} : ((a : Int) + 1 + 1 + 1 + 1 = 3) = False := by simp; omega
@[simp] theorem L3_0 {a : Nat} : ((a : Int) + 1 + 1 + 1 = 0) = False := by simp; omega
@[simp] theorem L3_1 {a : Nat} : ((a : Int) + 1 + 1 + 1 = 1) = False := by simp; omega
@[simp] theorem L3_2 {a : Nat} : ((a : Int) + 1 + 1 + 1 = 2) = False := by simp; omega
theorem deed_ok (H : HQ T ix) (HS : HS T ix) {s : Si} {i : Nat} (hs : S[i]? = some (siteO ix s)) (h5 : s.pages.length ≤ 5) {v : D} (h : KD S v) : callT T (n + 2) ix.f_is_deed [.ref i, v] S = .ok (.bl (deedB s.bits s.names v)) S := by
  rw [callT_def H.is_deed rfl]
  obtain ⟨cd, hcd, _, h29, _⟩ := HS.cls
  have hm : mthT T S (.ref i) 103 = some ix.f_Site_page_names := by
    have : lku [(29, s.bd), (106, s.pd), (144, D.str s.start), (70, D.int s.keep)] 103 = none := rfl
    simp only [mthT, hs, siteO, this, H.mnames]
  have hb : attrT T S 29 (.ref i) = .ok (.tup (s.bits.map .str)) S := attr_ok hs (fld_ok hcd h29) rfl
  have hp := page_names_ok (n := n) H.toHN HS hs h5
  obtain ⟨hk, hi⟩ := h
  match v, hk with
  | _, .int j => simp [runF, F_is_deed, deedB]
  | _, .str w => simp [runF, F_is_deed, deedB]
  | _, .bl b => simp [runF, F_is_deed, deedB]
  | _, .non => simp [runF, F_is_deed, deedB]
  | _, .lst m ys hm => simp [runF, F_is_deed, deedB, ty_lstT hm]
  | _, .tup [] => simp [runF, F_is_deed, deedB]
  | _, .tup (x :: xs) =>
    have hx := hi _ rfl x (by simp)
    have hxs : ∀ y ∈ xs, K1 S y := fun y hy => hi _ rfl y (by simp [hy])
    match x, hx with
    | _, .int j => simp [runF, F_is_deed, deedB]
    | _, .bl b => simp [runF, F_is_deed, deedB]
    | _, .non => simp [runF, F_is_deed, deedB]
    | _, .tup zs => simp [runF, F_is_deed, deedB]
    | _, .lst m ys hm => simp [runF, F_is_deed, deedB, ty_lstT hm]
    | _, .str w =>
      rcases word_cases w with rfl | rfl | rfl | rfl | rfl | rfl | rfl | ⟨e1, e2, e3, e4, e5, e6, e7⟩
      all_goals simp only [wBack, wForward, wClick, wAnswer, wLoad, wLate, wFlip] at *
      · match xs with
        | [] => simp [runF, F_is_deed, deedB, cut_tl, wBack]
        | [y] => simp [runF, F_is_deed, deedB, cut_tl, wBack, wForward, wClick, wAnswer, wLoad, wLate, wFlip]
        | [y, z] => simp [runF, F_is_deed, deedB, cut_tl, wBack, wForward, wClick, wAnswer, wLoad, wLate, wFlip]
        | y :: z :: u :: r => simp [runF, F_is_deed, deedB, cut_tl, wBack, wForward, wClick, wAnswer, wLoad, wLate, wFlip]
      · match xs with
        | [] => simp [runF, F_is_deed, deedB, cut_tl, wForward]
        | [y] => simp [runF, F_is_deed, deedB, cut_tl, wBack, wForward, wClick, wAnswer, wLoad, wLate, wFlip]
        | [y, z] => simp [runF, F_is_deed, deedB, cut_tl, wBack, wForward, wClick, wAnswer, wLoad, wLate, wFlip]
        | y :: z :: u :: r => simp [runF, F_is_deed, deedB, cut_tl, wBack, wForward, wClick, wAnswer, wLoad, wLate, wFlip]
      · match xs, hxs with
        | [], _ => simp [runF, F_is_deed, deedB, cut_tl, wBack, wForward, wClick, wAnswer, wLoad, wLate, wFlip]
        | [y], hxs => simp [runF, F_is_deed, deedB, cut_tl, hm, hp, one_of_any HS (hxs y (by simp)), wBack, wForward, wClick, wAnswer, wLoad, wLate, wFlip]
        | [y, z], _ => simp [runF, F_is_deed, deedB, cut_tl, wBack, wForward, wClick, wAnswer, wLoad, wLate, wFlip]
        | y :: z :: u :: r, _ => simp [runF, F_is_deed, deedB, cut_tl, wBack, wForward, wClick, wAnswer, wLoad, wLate, wFlip]
      · match xs, hxs with
        | [], _ => simp [runF, F_is_deed, deedB, cut_tl, wBack, wForward, wClick, wAnswer, wLoad, wLate, wFlip]
        | [y], hxs => simp [runF, F_is_deed, deedB, cut_tl, (hxs y (by simp)).ty_bool, wBack, wForward, wClick, wAnswer, wLoad, wLate, wFlip]
        | [y, z], _ => simp [runF, F_is_deed, deedB, cut_tl, wBack, wForward, wClick, wAnswer, wLoad, wLate, wFlip]
        | y :: z :: u :: r, _ => simp [runF, F_is_deed, deedB, cut_tl, wBack, wForward, wClick, wAnswer, wLoad, wLate, wFlip]
      · match xs, hxs with
        | [], _ => simp [runF, F_is_deed, deedB, cut_tl, wBack, wForward, wClick, wAnswer, wLoad, wLate, wFlip]
        | [y], hxs => simp [runF, F_is_deed, deedB, cut_tl, (hxs y (by simp)).ty_bool, wBack, wForward, wClick, wAnswer, wLoad, wLate, wFlip]
        | [y, z], _ => simp [runF, F_is_deed, deedB, cut_tl, wBack, wForward, wClick, wAnswer, wLoad, wLate, wFlip]
        | y :: z :: u :: r, _ => simp [runF, F_is_deed, deedB, cut_tl, wBack, wForward, wClick, wAnswer, wLoad, wLate, wFlip]
      · match xs, hxs with
        | [], _ => simp [runF, F_is_deed, deedB, cut_tl, wBack, wForward, wClick, wAnswer, wLoad, wLate, wFlip]
        | [y], _ => simp [runF, F_is_deed, deedB, cut_tl, wBack, wForward, wClick, wAnswer, wLoad, wLate, wFlip]
        | [y, z], hxs =>
          have hy := hxs y (by simp)
          have hz := hxs z (by simp)
          simp [runF, F_is_deed, deedB, cut_tl, integer_ok HS hy, hz.ty_bool, H.late, wBack, wForward, wClick, wAnswer, wLoad, wLate, wFlip]
          match y, hy with
          | _, .int j => by_cases g0 : 0 ≤ j <;> by_cases g1 : j < 2 <;> simp [isI, is01, ← i01, g0, g1, hz.ty_bool]
          | _, .bl b => simp [isI, is01]
          | _, .non => simp [isI, is01]
          | _, .tup zs => simp [isI, is01]
          | _, .str zs => simp [isI, is01]
          | _, .lst m ys hm => simp [isI, is01]
        | y :: z :: u :: r, _ => simp [runF, F_is_deed, deedB, cut_tl, wBack, wForward, wClick, wAnswer, wLoad, wLate, wFlip]
      · match xs, hxs with
        | [], _ => simp [runF, F_is_deed, deedB, cut_tl, wBack, wForward, wClick, wAnswer, wLoad, wLate, wFlip]
        | [y], hxs => simp [runF, F_is_deed, deedB, cut_tl, hb, one_of_any HS (hxs y (by simp)), wBack, wForward, wClick, wAnswer, wLoad, wLate, wFlip]
        | [y, z], _ => simp [runF, F_is_deed, deedB, cut_tl, wBack, wForward, wClick, wAnswer, wLoad, wLate, wFlip]
        | y :: z :: u :: r, _ => simp [runF, F_is_deed, deedB, cut_tl, wBack, wForward, wClick, wAnswer, wLoad, wLate, wFlip]
      · match xs with
        | [] => simp [runF, F_is_deed, deedB, cut_tl, wBack, wForward, wClick, wAnswer, wLoad, wLate, wFlip, e1, e2, e3, e4, e5, e6, e7]
        | [y] => simp [runF, F_is_deed, deedB, cut_tl, wBack, wForward, wClick, wAnswer, wLoad, wLate, wFlip, e1, e2, e3, e4, e5, e6, e7]
        | [y, z] => simp [runF, F_is_deed, deedB, cut_tl, wBack, wForward, wClick, wAnswer, wLoad, wLate, wFlip, e1, e2, e3, e4, e5, e6, e7]
        | y :: z :: u :: r => simp [runF, F_is_deed, deedB, cut_tl, wBack, wForward, wClick, wAnswer, wLoad, wLate, wFlip, e1, e2, e3, e4, e5, e6, e7]
end
end G

set_option linter.all false
set_option maxRecDepth 100000
set_option maxHeartbeats 4000000
set_option autoImplicit false
/-! LC2: lists compared, all_flags, deeds. -/
namespace G
open DL
section
variable {T : Tb} {ix : Lk} {n : Nat} {S : Sto}
theorem same_lst (H : T.fns[ix.f__law_same]? = some (F__law_same ix)) {N : Nat} {i j : Nat} {xs : List D} (hi : S[i]? = some (.lst xs)) (hj : S[j]? = some (.lst xs)) (h1 : ∀ x ∈ xs, plainD N x) (hl : xs.length ≤ 1000) : callT T (N + 2) ix.f__law_same [.ref i, .ref j] S = .ok (.bl true) S := by
  refine okR_eq (okR_call H rfl ?_)
  have s1 : smallI (xs.length : Int) = true := smallI_ok (by omega) (by omega)
  have s2 : smallI 0 = true := by simp [smallI]
  simp [F__law_same, s1, s2, ty_lstT hi, ty_lstT hj, bf_len_ref (its_lst hi), bf_len_ref (its_lst hj)]
  refine okR_map (fun _ => .bl true) rfl (fun x hx => ?_) (by rw [rngL_len]; simp [big]; omega) ?_
  · obtain ⟨k, hk⟩ := List.getElem?_of_mem hx
    obtain ⟨hk1, rfl⟩ := rngL_get' hk
    have hk2 : xs[k]? = some xs[k] := List.getElem?_eq_getElem hk1
    refine ⟨_, rfl, ?_⟩
    have e := same_ok (ix := ix) H N xs[k] S (h1 _ (List.getElem_mem _))
    simp [item_lst hi, item_lst hj, atI_nat, hk2, e]
  · have e : (List.map (fun _ => D.bl true) (rngL 0 xs.length)) = (List.range xs.length).map (D.bl ∘ fun _ => true) := by
      apply List.ext_getElem
      · simp [rngL_len]
      · intro i h1 h2; simp
    simp [e]
/-- the flags of a number, i bits -/
def lowB (x : Nat) : Nat → List Bool
  | 0 => []
  | i + 1 => decide ((x / 2 ^ i) % 2 = 1) :: lowB x i
def flD (f : List Bool) : D := .tup (f.map .bl)
/-- all flags, the first bit slowest -/
def flagsL : Nat → List (List Bool)
  | 0 => [[]]
  | m + 1 => (flagsL m).flatMap fun f => [f ++ [false], f ++ [true]]
theorem flagsL_eq {m : Nat} (hm : m ≤ 3) : flagsL m = (List.range (2 ^ m)).map fun x => lowB x m := by
  have : m = 0 ∨ m = 1 ∨ m = 2 ∨ m = 3 := by omega
  rcases this with rfl | rfl | rfl | rfl <;> decide
theorem flagsL_len {m : Nat} (hm : m ≤ 3) : (flagsL m).length ≤ 8 := by
  have : m = 0 ∨ m = 1 ∨ m = 2 ∨ m = 3 := by omega
  rcases this with rfl | rfl | rfl | rfl <;> decide
theorem flagsL_row {m : Nat} (hm : m ≤ 3) : ∀ f ∈ flagsL m, f.length ≤ 3 := by
  have : m = 0 ∨ m = 1 ∨ m = 2 ∨ m = 3 := by omega
  rcases this with rfl | rfl | rfl | rfl <;> decide
theorem len2 {α β : Type} {a b : α → β} : ∀ (xs : List α), (xs.flatMap fun f => [a f, b f]).length = 2 * xs.length
  | [] => rfl
  | x :: xs => by rw [List.flatMap_cons, List.length_append, len2 xs]; simp; omega
theorem all_flags_ok (H : T.fns[ix.f_all_flags]? = some (F_all_flags ix)) (HS : HS T ix) {s : Si} {i : Nat} (hs : S[i]? = some (siteO ix s)) (hb3 : s.bits.length ≤ 3) {Q : D → Sto → Prop} (q : ∀ r S', S.length ≤ r → Gr S S' → S'[r]? = some (.lst ((flagsL s.bits.length).map flD)) → Q (.ref r) S') :
    okR (callT T (n + 1) ix.f_all_flags [.ref i] S) Q := by
  refine okR_call H rfl ?_
  obtain ⟨cd, hcd, _, h29, _⟩ := HS.cls
  have hs1 : (S ++ [O.lst [D.tup []]])[i]? = some (siteO ix s) := at_old hs
  simp [F_all_flags, attr_ok hs1 (fld_ok hcd h29) rfl, Si.bd]
  refine okS_for0 (fun j Γ S' => j ≤ s.bits.length ∧ ∃ (r : Nat) (o2 : Option D), Γ = [some (.ref i), some (.ref r), o2, none, none] ∧ S.length ≤ r ∧ Gr S S' ∧ S'[r]? = some (.lst ((flagsL j).map flD))) ⟨by omega, S.length, none, rfl, Nat.le_refl _, ⟨_, rfl⟩, at_end⟩ (fun _ _ _ _ => rfl) ?_ ?_
  · rintro j x Γ S5 hx ⟨_, r, o2, rfl, hr, g5, h5⟩
    obtain ⟨b, hb, rfl⟩ := map_get hx
    have hj : j < s.bits.length := (List.getElem?_eq_some_iff.mp hb).1
    refine ⟨_, rfl, ?_⟩
    simp [wk_lst h5]
    have hfl := flagsL_len (m := j) (by omega)
    refine okR_comp (fun k acc S' => S' = S5 ∧ acc = ((flagsL j).take k).flatMap (fun f => [flD (f ++ [false]), flD (f ++ [true])])) _ 0 [] _ ⟨rfl, by simp⟩ (fun _ _ S' hS => by rw [hS.1]; exact stays_lst h5) ?_ ?_ ?_
    · rintro k x acc S' hx ⟨rfl, rfl⟩
      obtain ⟨f, hf, rfl⟩ := map_get hx
      have hl3 := flagsL_row (m := j) (by omega) f (List.mem_of_getElem? hf)
      have hb : Nat.ble (f.length + 1) big = true := Nat.ble_eq_true_of_le (by simp [big]; omega)
      refine ⟨_, rfl, ?_⟩
      have hb1 : Nat.ble 1 big = true := Nat.ble_eq_true_of_le (by simp [big])
      have hb2 : Nat.ble (1 + 1) big = true := Nat.ble_eq_true_of_le (by simp [big])
      simp only [Nat.reduceAdd] at hb2
      simp [compL, flD, hb, hb1, hb2]
      rw [List.take_succ, hf]; simp
    · rintro acc S6 ⟨rfl, hacc⟩
      simp at hacc
      subst hacc
      exact ⟨by rw [len2]; simp [big]; omega, by omega, g5.len, g5.push, by simp [flagsL, List.map_flatMap]⟩
    · rintro k acc S6 ⟨rfl, rfl⟩
      rw [len2]; simp [big]; omega
  · rintro Γ S6 ⟨_, r, o2, rfl, hr, g6, h6⟩
    simp at h6
    simp
    exact q _ _ hr g6 h6
def clickD (w : List Nat) : D := .tup [.str [99, 108, 105, 99, 107], .str w]
def flipD (w : List Nat) : D := .tup [.str [102, 108, 105, 112], .str w]
def plainL : List D := [.tup [.str [98, 97, 99, 107]], .tup [.str [102, 111, 114, 119, 97, 114, 100]], .tup [.str [97, 110, 115, 119, 101, 114], .bl false], .tup [.str [97, 110, 115, 119, 101, 114], .bl true], .tup [.str [108, 111, 97, 100], .bl false], .tup [.str [108, 111, 97, 100], .bl true]]
def lateL : List D := [.tup [.str [108, 97, 116, 101], .int 0, .bl false], .tup [.str [108, 97, 116, 101], .int 0, .bl true], .tup [.str [108, 97, 116, 101], .int 1, .bl false], .tup [.str [108, 97, 116, 101], .int 1, .bl true]]
def listL (s : Si) : List D := s.names.map clickD ++ (plainL ++ lateL)
def deedL (s : Si) : List D := listL s ++ s.bits.map flipD
theorem extend_l {i : Nat} {xs ys : List D} (h : S[i]? = some (.lst xs)) (hl : xs.length + ys.length ≤ 1000) : mtT .extend (.ref i) (.l ys) S = .ok .non (S.set i (.lst (xs ++ ys))) := extend_ok h rfl (by simp [big]; omega)
theorem set_end {X : Sto} {o o' : O} : (X ++ [o]).set X.length o' = X ++ [o'] := by simp
structure HQ5 (T : Tb) (ix : Lk) : Prop where
  deeds : T.fns[ix.f_deeds]? = some (F_deeds ix)
  plain : T.glo[ix.g_PLAIN_DEEDS]? = some (.tup plainL)
  late : T.glo[ix.g_LATE_DEEDS]? = some (.tup lateL)
theorem deeds_ok (H : HQ5 T ix) (HS : HS T ix) {s : Si} {i : Nat} (hs : S[i]? = some (siteO ix s)) (h5 : s.pages.length ≤ 5) (hb3 : s.bits.length ≤ 3) {fl : Bool} (hm : ∀ S : Sto, S[i]? = some (siteO ix s) → mthT T S (.ref i) 103 = some ix.f_Site_page_names) (hp : ∀ S : Sto, S[i]? = some (siteO ix s) → callT T (n + 1) ix.f_Site_page_names [.ref i] S = .ok (.tup (s.names.map .str)) S) {Q : D → Sto → Prop} (q : ∀ S', Gr S S' → S'[S.length]? = some (.lst (if fl then deedL s else listL s)) → Q (.ref S.length) S') :
    okR (callT T (n + 2) ix.f_deeds [.ref i, .bl fl] S) Q := by
  refine okR_call H.deeds rfl ?_
  have hnl : s.names.length ≤ 5 := by simpa [Si.names] using h5
  obtain ⟨cd, hcd, _, h29, _⟩ := HS.cls
  simp [F_deeds, hm S hs, hp S hs]
  refine okR_map (fun d => match d with
    | .str a => clickD a
    | _ => .non) rfl (fun x hx => ?_) (by simp [big]; omega) ?_
  · obtain ⟨p, hp, rfl⟩ := List.mem_map.mp hx
    exact ⟨_, rfl, by simp [clickD]⟩
  have e : List.map (fun d => match d with
    | .str a => clickD a
    | _ => .non) (s.names.map D.str) = s.names.map clickD := by simp
  rw [e]
  simp [H.plain, H.late]
  refine ⟨rcv_extend at_end, ?_⟩
  have g1 : Gr S (S ++ [O.lst (List.map clickD s.names), O.lst plainL, O.lst lateL]) := ⟨_, rfl⟩
  have a0 : (S ++ [O.lst (List.map clickD s.names), O.lst plainL, O.lst lateL])[S.length]? = some (.lst (List.map clickD s.names)) := by simp
  have a1 : (S ++ [O.lst (List.map clickD s.names), O.lst plainL, O.lst lateL])[S.length + 1]? = some (.lst plainL) := by simp
  have a2 : (S ++ [O.lst (List.map clickD s.names), O.lst plainL, O.lst lateL])[S.length + 2]? = some (.lst lateL) := by simp
  generalize (S ++ [O.lst (List.map clickD s.names), O.lst plainL, O.lst lateL]) = S1 at g1 a0 a1 a2
  have hadd : addT S1 (.d (.ref (S.length + 1))) (.d (.ref (S.length + 2))) = .ok (.ref S1.length) (S1 ++ [.lst (plainL ++ lateL)]) := by
    have hb : Nat.ble (plainL.length + lateL.length) big = true := Nat.ble_eq_true_of_le (by simp [big, plainL, lateL])
    simp only [addT, lsts, a1, a2, hb, gd_true]
  refine okR_of hadd ?_
  have a3 : (S1 ++ [O.lst (plainL ++ lateL)])[S.length]? = some (.lst (List.map clickD s.names)) := at_old a0
  refine okR_of (extend_ok a3 (lsts_lst at_end) (by simp [big, plainL, lateL]; omega)) ?_
  have a4 : ((S1 ++ [O.lst (plainL ++ lateL)]).set S.length (O.lst (List.map clickD s.names ++ (plainL ++ lateL))))[S.length]? = some (.lst (listL s)) := at_set a3
  have g4 : Gr S ((S1 ++ [O.lst (plainL ++ lateL)]).set S.length (O.lst (List.map clickD s.names ++ (plainL ++ lateL)))) := g1.push.set (Nat.le_refl _)
  generalize ((S1 ++ [O.lst (plainL ++ lateL)]).set S.length (O.lst (List.map clickD s.names ++ (plainL ++ lateL)))) = S4 at a4 g4
  cases fl with
  | false =>
    simp
    exact q _ g4 a4
  | true =>
    simp [rcv_extend a4, attr_ok (g4.at hs) (fld_ok hcd h29) rfl, Si.bd]
    refine okR_map (fun d => match d with
      | .str a => flipD a
      | _ => .non) rfl (fun x hx => ?_) (by simp [big]; omega) ?_
    · obtain ⟨p, hp, rfl⟩ := List.mem_map.mp hx
      exact ⟨_, rfl, by simp [flipD]⟩
    have e : List.map (fun d => match d with
      | .str a => flipD a
      | _ => .non) (s.bits.map D.str) = s.bits.map flipD := by simp
    rw [e]
    refine okR_of (extend_l a4 (by simp [listL, plainL, lateL]; omega)) ?_
    try simp only [okS_ok, nxQ_nx, rtQ_rt]
    try simp
    exact q _ (g4.set (Nat.le_refl _)) (at_set a4)
end
end G

set_option linter.all false
set_option maxRecDepth 100000
set_option maxHeartbeats 4000000
set_option autoImplicit false
/-! LC3: the parts of a page, guards. -/
namespace G
open DL
section
variable {T : Tb} {ix : Lk} {n : Nat} {S : Sto}
structure HG (T : Tb) (ix : Lk) : Prop where
  parts : T.fns[ix.f_Site_page_parts]? = some (F_Site_page_parts ix)
  guard : T.fns[ix.f_Site_guard]? = some (F_Site_guard ix)
  sides : T.glo[ix.g_SIDES]? = some (.tup [.str [101, 110, 116, 101, 114], .str [108, 101, 97, 118, 101]])
  mparts : mth T ix.c_Site 105 = some ix.f_Site_page_parts
  mguard : mth T ix.c_Site 61 = some ix.f_Site_guard
def Pge.pd (p : Pge) : D := .tup [.tup p.en.l, .tup p.lv.l, .bl p.ld]
theorem page_parts_ok (H : HG T ix) (HS : HS T ix) {s : Si} {i : Nat} (hs : S[i]? = some (siteO ix s)) (nd : s.names.Nodup) {p : Pge} (hp : p ∈ s.pages) : callT T (n + 1) ix.f_Site_page_parts [.ref i, .str p.name] S = .ok p.pd S := by
  refine okR_eq (okR_call H.parts rfl ?_)
  obtain ⟨cd, hcd, _, h29, h106, _⟩ := HS.cls
  simp [F_Site_page_parts, attr_ok hs (fld_ok hcd h106) rfl, Si.pd]
  refine okS_for0 (fun j Γ S' => S' = S ∧ (∀ q ∈ s.pages.take j, q.name ≠ p.name) ∧ ∃ o2 o3 : Option D, Γ = [some (.ref i), some (.str p.name), o2, o3]) ⟨rfl, by simp, none, none, rfl⟩ (fun _ _ _ _ => rfl) ?_ ?_
  · rintro j x Γ S' hx ⟨rfl, hq, o2, o3, rfl⟩
    obtain ⟨p', hp', rfl⟩ := map_get hx
    by_cases hn : p'.name = p.name
    · have : p' = p := by
        have h2 : ∀ (l : List Pge), (l.map Pge.name).Nodup → p' ∈ l → p ∈ l → p' = p := by
          intro l
          induction l with
          | nil => intro _ h; cases h
          | cons a l ih =>
            intro hnd h1 h2
            simp only [List.map_cons, List.nodup_cons] at hnd
            rcases List.mem_cons.mp h1 with e1 | h1' <;> rcases List.mem_cons.mp h2 with e2 | h2'
            · exact e1.trans e2.symm
            · exact absurd (by rw [← e1, hn]; exact List.mem_map_of_mem h2') hnd.1
            · exact absurd (by rw [← e2, ← hn]; exact List.mem_map_of_mem h1') hnd.1
            · exact ih hnd.2 h1' h2'
        exact h2 _ nd (List.mem_of_getElem? hp') hp
      subst this
      refine ⟨_, by simp [Pge.d]; rfl, ?_⟩
      simp [Pge.pd]
    · refine ⟨_, by simp [Pge.d]; rfl, ?_⟩
      simp [hn]
      intro q hq'
      rw [List.take_succ, hp'] at hq'
      rcases List.mem_append.mp hq' with h | h
      · exact hq q h
      · simp at h; subst h; exact hn
  · rintro Γ S' ⟨rfl, hq, o2, o3, rfl⟩
    rw [List.length_map, List.take_length] at hq
    exact absurd rfl (hq p hp)
theorem mth_site {s : Si} {i m f : Nat} (hs : S[i]? = some (siteO ix s)) (hm : mth T ix.c_Site m = some f) (h : lku [(29, s.bd), (106, s.pd), (144, D.str s.start), (70, D.int s.keep)] m = none) : mthT T S (.ref i) m = some f := by
  simp only [mthT, hs, siteO, h, hm]
def Pge.rows (p : Pge) (en : Bool) : Rws := if en then p.en else p.lv
theorem guard_ok (H : HG T ix) (HS : HS T ix) {s : Si} {i : Nat} (hs : S[i]? = some (siteO ix s)) (nd : s.names.Nodup) {p : Pge} (hp : p ∈ s.pages) {en : Bool} : callT T (n + 2) ix.f_Site_guard [.ref i, .str p.name, .str (sideS en)] S = .ok (.tup (p.rows en).l) S := by
  rw [callT_def H.guard rfl]
  have h1 := mth_site (m := 105) hs H.mparts rfl
  have h2 := page_parts_ok (n := n) H HS hs nd hp
  have h3 := one_of_tup (n := n) (S := S) (w := sideS en) HS (ws := [[101, 110, 116, 101, 114], [108, 101, 97, 118, 101]])
  simp only [List.map_cons, List.map_nil] at h3
  cases en
  · simp [runF, F_Site_guard, h1, h2, H.sides, h3, sideS, Pge.pd, Pge.rows] at h3 ⊢
    simp [h3]
  · simp [runF, F_Site_guard, h1, h2, H.sides, h3, sideS, Pge.pd, Pge.rows] at h3 ⊢
    simp [h3]
end
end G

set_option linter.all false
set_option maxRecDepth 100000
set_option maxHeartbeats 4000000
set_option autoImplicit false
/-! LC4: guard_paths, is_quiet. -/
namespace DL
/-- a comprehension that changes nothing, any number of values a turn -/
theorem compL_many {S : Sto} {ks : List (Nat × List D)} {t : Tg} {f : Ev → Sto → R (List D)} {Γ : Ev} (g : D → List D) (hst : stays S ks = true) : ∀ (xs : List D), (∀ x ∈ xs, ∃ Γ', asg t x Γ = some Γ' ∧ f Γ' S = .ok (g x) S) → (xs.flatMap g).length ≤ big → compL ks t f Γ xs S = .ok (xs.flatMap g) S
  | [], _, _ => by simp [compL, hst]
  | x :: xs, h, hl => by
    obtain ⟨Γ', h1, h2⟩ := h x (by simp)
    rw [List.flatMap_cons, List.length_append] at hl
    have ih := compL_many g hst xs (fun y hy => h y (by simp [hy])) (by omega)
    have h5 : Nat.ble ((g x).length + (xs.flatMap g).length) big = true := Nat.ble_eq_true_of_le hl
    simp only [compL, hst, gd_true, h1, h2, ih, h5, List.flatMap_cons]
theorem okR_many {S : Sto} {ks : List (Nat × List D)} {t : Tg} {f : Ev → Sto → R (List D)} {Γ : Ev} {xs : List D} {Q : List D → Sto → Prop} (g : D → List D) (hst : stays S ks = true) (h : ∀ x ∈ xs, ∃ Γ', asg t x Γ = some Γ' ∧ f Γ' S = .ok (g x) S) (hl : (xs.flatMap g).length ≤ big) (q : Q (xs.flatMap g) S) : okR (compL ks t f Γ xs S) Q := by
  rw [compL_many g hst xs h hl]; exact q
end DL
namespace G
open DL
section
variable {T : Tb} {ix : Lk} {n : Nat} {S : Sto}
def pathD (p : List Nat × Bool) : D := .tup [.str p.1, .str (sideS p.2)]
def Si.paths (s : Si) : List (List Nat × Bool) := s.names.flatMap fun w => [(w, true), (w, false)]
theorem guard_paths_ok (hf : T.fns[ix.f_Site_guard_paths]? = some (F_Site_guard_paths ix)) (HQ : HN T ix) (H : HG T ix) (HS : HS T ix) {s : Si} {i : Nat} (hs : S[i]? = some (siteO ix s)) (h5 : s.pages.length ≤ 5) {Q : D → Sto → Prop} (q : Q (.ref S.length) (S ++ [.lst (s.paths.map pathD)])) :
    okR (callT T (n + 2) ix.f_Site_guard_paths [.ref i] S) Q := by
  refine okR_call hf rfl ?_
  have hnl : s.names.length ≤ 5 := by simpa [Si.names] using h5
  have e : (s.names.map D.str).flatMap (fun d => [.tup [d, .str (sideS true)], .tup [d, .str (sideS false)]]) = s.paths.map pathD := by
    simp [Si.paths, List.map_flatMap, List.flatMap_map, pathD]
  simp [F_Site_guard_paths, mth_site (m := 103) hs HQ.mnames rfl, page_names_ok (n := n) HQ HS hs h5, H.sides]
  refine okR_many (fun d => [.tup [d, .str (sideS true)], .tup [d, .str (sideS false)]]) rfl (fun x hx => ?_) ?_ ?_
  · obtain ⟨w, hw, rfl⟩ := List.mem_map.mp hx
    have hb1 : Nat.ble 1 big = true := Nat.ble_eq_true_of_le (by simp [big])
    have hb2 : Nat.ble 2 big = true := Nat.ble_eq_true_of_le (by simp [big])
    refine ⟨_, rfl, ?_⟩
    simp [compL, hb1, hb2, sideS, H.sides]
  · rw [len2]; simp [big]; omega
  · rw [e]; exact q
end
end G

set_option linter.all false
set_option maxRecDepth 100000
set_option maxHeartbeats 4000000
set_option autoImplicit false
/-! LC5: is_quiet. -/
namespace G
open DL
section
variable {T : Tb} {ix : Lk} {n : Nat} {S : Sto}
def Rw.isSet : Rw → Bool
  | .set _ _ => true
  | _ => false
def Rws.has (rs : Rws) : Bool := (rs.ord [] 0).any fun pr => pr.2.isSet
def Si.quiet (s : Si) : Bool := s.pages.all fun p => !(p.rows true).has && !(p.rows false).has
theorem isSet_ok (r : Rw) : ∃ (w : List Nat) (ds : List D), r.d = .tup (.str w :: ds) ∧ decide (w = [115, 101, 116]) = r.isSet := by
  cases r <;> exact ⟨_, _, rfl, by simp [Rw.isSet]⟩
theorem same_name {l : List Pge} {p' p : Pge} (nd : (l.map Pge.name).Nodup) (h1 : p' ∈ l) (h2 : p ∈ l) (hn : p'.name = p.name) : p' = p := by
  induction l with
  | nil => cases h1
  | cons a l ih =>
    simp only [List.map_cons, List.nodup_cons] at nd
    rcases List.mem_cons.mp h1 with e1 | h1' <;> rcases List.mem_cons.mp h2 with e2 | h2'
    · exact e1.trans e2.symm
    · exact absurd (by rw [← e1, hn]; exact List.mem_map_of_mem h2') nd.1
    · exact absurd (by rw [← e2, ← hn]; exact List.mem_map_of_mem h1') nd.1
    · exact ih nd.2 h1' h2'
theorem path_in {s : Si} {p : Pge} (hp : p ∈ s.pages) (en : Bool) : (p.name, en) ∈ s.paths := by
  refine List.mem_flatMap.mpr ⟨p.name, List.mem_map_of_mem hp, ?_⟩
  cases en <;> simp
theorem in_path {s : Si} {q : List Nat × Bool} (h : q ∈ s.paths) : ∃ p ∈ s.pages, p.name = q.1 := by
  obtain ⟨w, hw, h⟩ := List.mem_flatMap.mp h
  obtain ⟨p, hp, rfl⟩ := List.mem_map.mp hw
  simp at h
  rcases h with rfl | rfl <;> exact ⟨p, hp, rfl⟩
def Si.seen (s : Si) (j : Nat) : Prop := ∀ q ∈ s.paths.take j, ∀ p ∈ s.pages, p.name = q.1 → (p.rows q.2).has = false
def Rws.clean (rs : Rws) (k : Nat) : Prop := ∀ pr ∈ (rs.ord [] 0).take k, pr.2.isSet = false
theorem quiet_not {s : Si} {p : Pge} (hp : p ∈ s.pages) {en : Bool} (h : (p.rows en).has = true) : s.quiet = false := by
  cases hq : s.quiet with
  | false => rfl
  | true =>
    have := List.all_eq_true.mp hq p hp
    cases en <;> simp [h] at this
theorem is_quiet_ok (hq : T.fns[ix.f_Site_is_quiet]? = some (F_Site_is_quiet ix)) (hf : T.fns[ix.f_Site_guard_paths]? = some (F_Site_guard_paths ix)) (hmg : mth T ix.c_Site 63 = some ix.f_Site_guard_paths) (HQ : HN T ix) (H : HG T ix) (HS : HS T ix) {s : Si} (ok : SiOk s) {i : Nat} (hs : S[i]? = some (siteO ix s)) {Q : D → Sto → Prop} (q : ∀ S', Gr S S' → Q (.bl s.quiet) S') :
    okR (callT T (n + 10) ix.f_Site_is_quiet [.ref i] S) Q := by
  refine okR_call hq rfl ?_
  simp [F_Site_is_quiet, mth_site (m := 63) hs hmg rfl]
  refine guard_paths_ok (n := n + 7) hf HQ H HS hs ok.p5 ?_
  have h1 : (S ++ [O.lst (s.paths.map pathD)])[S.length]? = some (.lst (s.paths.map pathD)) := at_end
  simp [wk_lst h1]
  refine okS_for0 (fun j Γ S' => s.seen j ∧ Gr (S ++ [O.lst (s.paths.map pathD)]) S' ∧ ∃ o1 o2 o3 o4 : Option D, Γ = [some (.ref i), o1, o2, o3, o4]) ⟨by simp [Si.seen], Gr.refl, none, none, none, none, rfl⟩ (fun j Γ S' h => stays_lst (h.2.1.at h1)) ?_ ?_
  · rintro j x Γ S5 hx ⟨hq, g5, o1, o2, o3, o4, rfl⟩
    obtain ⟨⟨w, en⟩, hp, rfl⟩ := map_get hx
    have hmem := List.mem_of_getElem? hp
    obtain ⟨p, hpp, rfl⟩ := in_path hmem
    have hs5 := g5.at (at_old hs)
    refine ⟨_, by simp [pathD]; rfl, ?_⟩
    have pok := ok.pg p hpp
    have hgt : (p.rows en).hgt ≤ 3 := by
      cases en
      · have := Rws.ok_hgt p.lv 1 (by omega) pok.lv; simp [Pge.rows]; omega
      · have := Rws.ok_hgt p.en 1 (by omega) pok.en; simp [Pge.rows]; omega
    have hcnt : (p.rows en).cnt ≤ 8 := by
      cases en
      · exact pok.lvc
      · exact pok.enc
    have r := rio_all HS 3 (n + 9) (by omega) (p.rows en) [] S5 hgt (by simp; omega) (by omega)
    unfold RioP at r
    simp [posD] at r
    simp [mth_site (m := 61) hs5 H.mguard rfl, guard_ok (n := n + 7) H HS hs5 ok.pn hpp, pick]
    refine okR_imp r ?_
    rintro d S6 ⟨rfl, g6, hL⟩
    simp [wk_lst hL]
    refine okS_for0 (fun k Γ S' => S' = S6 ∧ (p.rows en).clean k ∧ ∃ o3 o4 : Option D, Γ = [some (.ref i), some (.str p.name), some (.str (sideS en)), o3, o4]) ⟨rfl, by simp [Rws.clean], o3, o4, rfl⟩ (fun k Γ S' h => by rw [h.1]; exact stays_lst hL) ?_ ?_
    · rintro k x Γ S' hx ⟨rfl, hc, o3, o4, rfl⟩
      obtain ⟨⟨pos, r⟩, hr, rfl⟩ := map_get hx
      obtain ⟨w, ds, hd, hw⟩ := isSet_ok r
      refine ⟨_, by simp [prD]; rfl, ?_⟩
      cases hrs : r.isSet with
      | true =>
        rw [hrs] at hw
        have : (p.rows en).has = true := List.any_eq_true.mpr ⟨_, List.mem_of_getElem? hr, hrs⟩
        rw [quiet_not hpp this] at q
        simp [hd, hw]
        exact q _ (Gr.trans ⟨_, rfl⟩ (g5.trans g6))
      | false =>
        rw [hrs] at hw
        simp [hd, hw]
        intro pr hpr
        rw [List.take_succ, hr] at hpr
        rcases List.mem_append.mp hpr with h | h
        · exact hc pr h
        · simp at h; subst h; exact hrs
    · rintro Γ S' ⟨rfl, hc, o3, o4, rfl⟩
      simp
      refine ⟨?_, g5.trans g6⟩
      intro q' hq' p' hp' hn
      rw [List.take_succ, hp] at hq'
      rcases List.mem_append.mp hq' with h | h
      · exact hq q' h p' hp' hn
      · simp at h
        subst h
        have e : p' = p := same_name ok.pn hp' hpp hn
        subst e
        unfold Rws.clean at hc
        rw [List.length_map, List.take_length] at hc
        exact List.any_eq_false.mpr fun pr hpr => by simp [hc pr hpr]
  · rintro Γ S' ⟨hq, g5, o1, o2, o3, o4, rfl⟩
    have : s.quiet = true := by
      unfold Si.seen at hq
      rw [List.length_map, List.take_length] at hq
      refine List.all_eq_true.mpr fun p hp => ?_
      rw [hq _ (path_in hp true) p hp rfl, hq _ (path_in hp false) p hp rfl]; rfl
    rw [this] at q
    simp
    exact q _ (Gr.trans ⟨_, rfl⟩ g5)
end
end G

set_option linter.all false
set_option maxRecDepth 100000
set_option maxHeartbeats 4000000
set_option autoImplicit false
/-! LC6: with_guard. -/
namespace G
open DL
section
variable {T : Tb} {ix : Lk} {n : Nat} {S : Sto}
def Pge.put (w : List Nat) (en : Bool) (rs : Rws) (p : Pge) : Pge := if p.name = w then (if en then { p with en := rs } else { p with lv := rs }) else p
def Si.put (s : Si) (w : List Nat) (en : Bool) (rs : Rws) : Si := { s with pages := s.pages.map (Pge.put w en rs) }
theorem with_guard_ok (hw : T.fns[ix.f_Site_with_guard]? = some (F_Site_with_guard ix)) (H : HG T ix) (HS : HS T ix) {s : Si} (ok : SiOk s) {i : Nat} (hs : S[i]? = some (siteO ix s)) {p : Pge} (hp : p ∈ s.pages) {en : Bool} {rs : Rws} (ok' : SiOk (s.put p.name en rs)) {Q : D → Sto → Prop} (q : ∀ r S', S.length ≤ r → Gr S S' → S'[r]? = some (siteO ix (s.put p.name en rs)) → Q (.ref r) S') :
    okR (callT T (n + 9) ix.f_Site_with_guard [.ref i, .str p.name, .str (sideS en), .tup rs.l] S) Q := by
  refine okR_call hw rfl ?_
  obtain ⟨cd, hcd, _, h29, h106, h144, h70⟩ := HS.cls
  have hs1 : (S ++ [O.lst []])[i]? = some (siteO ix s) := at_old hs
  simp [F_Site_with_guard, mth_site (m := 61) hs H.mguard rfl, guard_ok (n := n + 6) H HS hs ok.pn hp, attr_ok hs1 (fld_ok hcd h106) rfl, Si.pd]
  have p5 := ok.p5
  refine okS_for0 (fun j Γ S' => j ≤ s.pages.length ∧ S' = S ++ [O.lst ((s.pages.take j).map fun p' => (p'.put p.name en rs).d)] ∧ ∃ o5 o6 : Option D, Γ = [some (.ref i), some (.str p.name), some (.str (sideS en)), some (.tup rs.l), some (.ref S.length), o5, o6]) ⟨by omega, by simp, none, none, rfl⟩ (fun _ _ _ _ => rfl) ?_ ?_
  · rintro j x Γ S5 hx ⟨_, rfl, o5, o6, rfl⟩
    obtain ⟨p', hp', rfl⟩ := map_get hx
    have hj : j < s.pages.length := (List.getElem?_eq_some_iff.mp hp').1
    have hT : (s.pages.take (j + 1)).map (fun p' => (p'.put p.name en rs).d) = (s.pages.take j).map (fun p' => (p'.put p.name en rs).d) ++ [(p'.put p.name en rs).d] := by
      rw [List.take_succ, hp']; simp
    have hl : ((s.pages.take j).map fun p' => (p'.put p.name en rs).d).length ≤ 5 := by simp; omega
    rw [hT]
    generalize ((s.pages.take j).map fun p' => (p'.put p.name en rs).d) = L at hl
    have hr := rcv_append (S := S ++ [O.lst L]) (n := S.length) at_end
    have ha := fun y => append_ok (S := S ++ [O.lst L]) (n := S.length) (y := y) at_end (by simp [big]; omega)
    refine ⟨_, by simp [Pge.d]; rfl, ?_⟩
    by_cases hn : p'.name = p.name
    · cases en
      · simp [hn, sideS, hr, ha, Pge.put, Pge.d]
        omega
      · simp [hn, sideS, hr, ha, Pge.put, Pge.d]
        omega
    · simp [hn, hr, ha, Pge.put, Pge.d]
      omega
  · rintro Γ S5 ⟨_, rfl, o5, o6, rfl⟩
    rw [List.length_map, List.take_length]
    have hs5 : (S ++ [O.lst (s.pages.map fun p' => (p'.put p.name en rs).d)])[i]? = some (siteO ix s) := at_old hs
    have hl5 : (S ++ [O.lst (s.pages.map fun p' => (p'.put p.name en rs).d)])[S.length]? = some (.lst (s.pages.map fun p' => (p'.put p.name en rs).d)) := at_end
    have mk := make_ok (S := S ++ [O.lst (s.pages.map fun p' => (p'.put p.name en rs).d)]) HS ok' (N := n + 7) (by omega) (Q := Q) fun S' g h => q _ S' (by simp) (Gr.trans ⟨_, rfl⟩ g) h
    simp [Si.bd, Si.pd, Si.put, Function.comp_def] at mk
    simp [attr_ok hs5 (fld_ok hcd h29) rfl, attr_ok hs5 (fld_ok hcd h144) rfl, attr_ok hs5 (fld_ok hcd h70) rfl, bf_tuple_ref (its_lst hl5), pick, Si.bd]
    exact mk
end
end G

set_option linter.all false
set_option maxRecDepth 100000
set_option maxHeartbeats 2000000
set_option autoImplicit false
/-! DP5: statements one at a time; what comes behind is left as it stands. -/
namespace DL
section
variable {T : Tb} {cl : Orc}
def nxE (T : Tb) (cl : Orc) (ss : Ss) (Q : F → Sto → Prop) (f : F) (S : Sto) : Prop := match f with
  | .nx Γ => okS (execs T cl ss Γ S) Q
  | f => Q f S
@[simp] theorem nxE_nx {ss : Ss} {Q : F → Sto → Prop} {Γ : Ev} {S : Sto} : nxE T cl ss Q (.nx Γ) S = okS (execs T cl ss Γ S) Q := propext Iff.rfl
@[simp] theorem nxE_rt {ss : Ss} {Q : F → Sto → Prop} {d : D} {S : Sto} : nxE T cl ss Q (.rt d) S = Q (.rt d) S := propext Iff.rfl
@[simp] theorem nxE_bk {ss : Ss} {Q : F → Sto → Prop} {Γ : Ev} {S : Sto} : nxE T cl ss Q (.bk Γ) S = Q (.bk Γ) S := propext Iff.rfl
@[simp] theorem nxE_ct {ss : Ss} {Q : F → Sto → Prop} {Γ : Ev} {S : Sto} : nxE T cl ss Q (.ct Γ) S = Q (.ct Γ) S := propext Iff.rfl
@[simp ↓] theorem x_cons {s : S} {ss : Ss} {Q : F → Sto → Prop} {Γ : Ev} {S : Sto} : okS (execs T cl (.cons s ss) Γ S) Q = okS (exec T cl s Γ S) (nxE T cl ss Q) := by
  rw [execs, okS_nx]
  congr 1
@[simp ↓] theorem x_nil {Q : F → Sto → Prop} {Γ : Ev} {S : Sto} : okS (execs T cl .nil Γ S) Q = Q (.nx Γ) S := by
  rw [execs, okS_ok]
def setE (t : Tg) (Γ : Ev) (Q : F → Sto → Prop) (d : D) (S : Sto) : Prop := okS (RS.opt (asg t d Γ) S) Q
@[simp] theorem setE_nm {i : Nat} {Γ : Ev} {Q : F → Sto → Prop} {d : D} {S : Sto} : setE (.nm i) Γ Q d S = Q (.nx (Γ.set i (some d))) S := propext Iff.rfl
@[simp] theorem setE_tp {is : List Nat} {Γ : Ev} {Q : F → Sto → Prop} {ds : List D} {S : Sto} : setE (.tp is) Γ Q (.tup ds) S = okS (RS.opt (setAll is ds Γ) S) Q := propext Iff.rfl
@[simp ↓] theorem x_set {t : Tg} {e : E} {Q : F → Sto → Prop} {Γ : Ev} {S : Sto} : okS (exec T cl (.set t e) Γ S) Q = okR (ev T cl e Γ S) (setE t Γ Q) := by
  rw [exec, okS_of]; rfl
def parE (is : List Nat) (Γ : Ev) (Q : F → Sto → Prop) (ds : List D) (S : Sto) : Prop := okS (RS.opt (setAll is ds Γ) S) Q
@[simp] theorem parE_ok {is : List Nat} {Γ : Ev} {Q : F → Sto → Prop} {ds : List D} {S : Sto} : parE is Γ Q ds S = okS (RS.opt (setAll is ds Γ) S) Q := propext Iff.rfl
@[simp ↓] theorem x_par {is : List Nat} {es : Es} {Q : F → Sto → Prop} {Γ : Ev} {S : Sto} : okS (exec T cl (.par is es) Γ S) Q = okR (evs T cl es Γ S) (parE is Γ Q) := by
  rw [exec, okS_of]; rfl
def ifE (T : Tb) (cl : Orc) (a b : Ss) (Γ : Ev) (Q : F → Sto → Prop) (k : Bool) (S : Sto) : Prop := okS (match k with
  | true => execs T cl a Γ S
  | false => execs T cl b Γ S) Q
@[simp] theorem ifE_t {a b : Ss} {Γ : Ev} {Q : F → Sto → Prop} {S : Sto} : ifE T cl a b Γ Q true S = okS (execs T cl a Γ S) Q := propext Iff.rfl
@[simp] theorem ifE_f {a b : Ss} {Γ : Ev} {Q : F → Sto → Prop} {S : Sto} : ifE T cl a b Γ Q false S = okS (execs T cl b Γ S) Q := propext Iff.rfl
@[simp ↓] theorem x_ife {c : C} {a b : Ss} {Q : F → Sto → Prop} {Γ : Ev} {S : Sto} : okS (exec T cl (.ife c a b) Γ S) Q = okR (tst T cl c Γ S) (ifE T cl a b Γ Q) := by
  rw [exec, okS_of]; rfl
def retE (Q : F → Sto → Prop) (d : D) (S : Sto) : Prop := Q (.rt d) S
@[simp] theorem retE_ok {Q : F → Sto → Prop} {d : D} {S : Sto} : retE Q d S = Q (.rt d) S := propext Iff.rfl
@[simp ↓] theorem x_ret {e : E} {Q : F → Sto → Prop} {Γ : Ev} {S : Sto} : okS (exec T cl (.ret e) Γ S) Q = okR (ev T cl e Γ S) (retE Q) := by
  rw [exec, okS_of]; rfl
def exE (Γ : Ev) (Q : F → Sto → Prop) (d : D) (S : Sto) : Prop := Q (.nx Γ) S
@[simp] theorem exE_ok {Γ : Ev} {Q : F → Sto → Prop} {d : D} {S : Sto} : exE Γ Q d S = Q (.nx Γ) S := propext Iff.rfl
@[simp ↓] theorem x_ex {e : E} {Q : F → Sto → Prop} {Γ : Ev} {S : Sto} : okS (exec T cl (.ex e) Γ S) Q = okR (ev T cl e Γ S) (exE Γ Q) := by
  rw [exec, okS_of]; rfl
def forE (T : Tb) (cl : Orc) (t : Tg) (b : Ss) (Γ : Ev) (Q : F → Sto → Prop) (w : Wk) (S : Sto) : Prop := okS (forL w.ks t (execs T cl b) w.xs Γ S) Q
@[simp] theorem forE_ok {t : Tg} {b : Ss} {Γ : Ev} {Q : F → Sto → Prop} {w : Wk} {S : Sto} : forE T cl t b Γ Q w S = okS (forL w.ks t (execs T cl b) w.xs Γ S) Q := propext Iff.rfl
@[simp ↓] theorem x_for {t : Tg} {it : It} {b : Ss} {Q : F → Sto → Prop} {Γ : Ev} {S : Sto} : okS (exec T cl (.for t it b) Γ S) Q = okR (evI T cl it Γ S) (forE T cl t b Γ Q) := by
  rw [exec, okS_of]; rfl
def itmE (T : Tb) (cl : Orc) (o i : E) (Γ : Ev) (Q : F → Sto → Prop) (v : D) (S : Sto) : Prop := okR (ev T cl o Γ S) fun x S => okR (ev T cl i Γ S) fun y S => okS (oSto (setItem S x y v) Γ) Q
@[simp] theorem itmE_ok {o i : E} {Γ : Ev} {Q : F → Sto → Prop} {v : D} {S : Sto} : itmE T cl o i Γ Q v S = okR (ev T cl o Γ S) fun x S => okR (ev T cl i Γ S) fun y S => okS (oSto (setItem S x y v) Γ) Q := propext Iff.rfl
@[simp ↓] theorem x_itm {o i e : E} {Q : F → Sto → Prop} {Γ : Ev} {S : Sto} : okS (exec T cl (.itm o i e) Γ S) Q = okR (ev T cl e Γ S) (itmE T cl o i Γ Q) := by
  rw [exec, okS_of]; simp only [okS_of]; rfl
def atrE (T : Tb) (cl : Orc) (o : E) (f : Nat) (Γ : Ev) (Q : F → Sto → Prop) (v : D) (S : Sto) : Prop := okR (ev T cl o Γ S) fun x S => okS (oSto (setAttr T S x f v) Γ) Q
@[simp] theorem atrE_ok {o : E} {f : Nat} {Γ : Ev} {Q : F → Sto → Prop} {v : D} {S : Sto} : atrE T cl o f Γ Q v S = okR (ev T cl o Γ S) fun x S => okS (oSto (setAttr T S x f v) Γ) Q := propext Iff.rfl
@[simp ↓] theorem x_atr {o e : E} {f : Nat} {Q : F → Sto → Prop} {Γ : Ev} {S : Sto} : okS (exec T cl (.atr o f e) Γ S) Q = okR (ev T cl e Γ S) (atrE T cl o f Γ Q) := by
  rw [exec, okS_of]; simp only [okS_of]; rfl
end
end DL

set_option linter.all false
set_option maxRecDepth 100000
set_option maxHeartbeats 4000000
set_option autoImplicit false
/-! LD1: guards done, as plain functions; dicts of flags. -/
namespace DL
section
variable {T : Tb} {cl : Orc}
def mixE (T : Tb) (ts : List (Nat ⊕ (Nat × Nat))) (Γ : Ev) (Q : F → Sto → Prop) (v : D) (S : Sto) : Prop := okS (match v with
    | .tup ds => mixL T ts ds Γ S
    | _ => .stuck) Q
@[simp] theorem mixE_tup {ts : List (Nat ⊕ (Nat × Nat))} {Γ : Ev} {Q : F → Sto → Prop} {ds : List D} {S : Sto} : mixE T ts Γ Q (.tup ds) S = okS (mixL T ts ds Γ S) Q := propext Iff.rfl
@[simp ↓] theorem x_mix {ts : List (Nat ⊕ (Nat × Nat))} {e : E} {Q : F → Sto → Prop} {Γ : Ev} {S : Sto} : okS (exec T cl (.mix ts e) Γ S) Q = okR (ev T cl e Γ S) (mixE T ts Γ Q) := by
  rw [exec, okS_of]; rfl
/-- a dict comprehension that changes nothing -/
theorem dcompL_pure {S : Sto} {ks : List (Nat × List D)} {t : Tg} {fk fv : Ev → Sto → R D} {Γ : Ev} (g : D → D × D) (hst : stays S ks = true) : ∀ (xs : List D) (kvs : List (D × D)), (∀ x ∈ xs, ∃ Γ', asg t x Γ = some Γ' ∧ fk Γ' S = .ok (g x).1 S ∧ fv Γ' S = .ok (g x).2 S ∧ keyD (g x).1 = true) → kvs.length + xs.length < 1000 → dcompL ks t fk fv Γ xs kvs S = .ok (xs.foldl (fun kvs x => dput (g x).1 (g x).2 kvs) kvs) S
  | [], kvs, _, _ => by simp [dcompL, hst]
  | x :: xs, kvs, h, hl => by
    obtain ⟨Γ', h1, h2, h3, h4⟩ := h x (by simp)
    have hlen : (dput (g x).1 (g x).2 kvs).length ≤ kvs.length + 1 := by
      unfold dput; split <;> simp
    simp at hl
    have ih := dcompL_pure g hst xs (dput (g x).1 (g x).2 kvs) (fun y hy => h y (by simp [hy])) (by omega)
    have h5 : Nat.blt kvs.length 1000 = true := Nat.ble_eq_true_of_le (by omega)
    simp only [dcompL, hst, gd_true, h1, h2, h3, h4, h5, Bool.and_self, ih, List.foldl_cons]
end
end DL
namespace G
open DL
/-! ### flags -/
def kv (bits : List (List Nat)) (fl : List Bool) : List (D × D) := List.zipWith (fun b f => (D.str b, D.bl f)) bits fl
def getF : List (List Nat) → List Bool → List Nat → Bool
  | b :: bs, f :: fs, w => if b = w then f else getF bs fs w
  | _, _, _ => false
def setF (bits : List (List Nat)) (fl : List Bool) (w : List Nat) (v : Bool) : List Bool := List.zipWith (fun b f => if b = w then v else f) bits fl
theorem setF_len {bits : List (List Nat)} {fl : List Bool} {w : List Nat} {v : Bool} (h : fl.length = bits.length) : (setF bits fl w v).length = bits.length := by simp [setF, h]
theorem kv_len {bits : List (List Nat)} {fl : List Bool} (h : fl.length = bits.length) : (kv bits fl).length = bits.length := by simp [kv, h]
theorem dlk_kv {w : List Nat} : ∀ {bits : List (List Nat)} {fl : List Bool}, fl.length = bits.length → w ∈ bits → dlk (kv bits fl) (.str w) = some (.bl (getF bits fl w))
  | [], _, _, h => by cases h
  | b :: bs, [], h, _ => by simp at h
  | b :: bs, f :: fs, h, hw => by
    unfold dlk kv getF
    rw [List.zipWith_cons_cons, List.find?_cons]
    by_cases e : b = w
    · simp [eqv_str, e]
    · have hw' : w ∈ bs := by
        rcases List.mem_cons.mp hw with z | z
        · exact absurd z.symm e
        · exact z
      have ih := dlk_kv (w := w) (bits := bs) (fl := fs) (by simpa using h) hw'
      simp only [eqv_str, e, decide_false, if_false]
      exact ih
theorem any_kv {w : List Nat} : ∀ {bits : List (List Nat)} {fl : List Bool}, fl.length = bits.length → ((kv bits fl).any fun kv => eqv kv.1 (.str w)) = decide (w ∈ bits)
  | [], _, _ => by simp [kv]
  | b :: bs, [], h => by simp at h
  | b :: bs, f :: fs, h => by
    have ih := any_kv (w := w) (bits := bs) (fl := fs) (by simpa using h)
    unfold kv at ih ⊢
    rw [List.zipWith_cons_cons, List.any_cons, ih, eqv_str]
    simp only [List.mem_cons]
    by_cases e : b = w
    · simp [e]
    · have e' : ¬ w = b := fun z => e z.symm
      simp [e, e']
theorem dput_kv {w : List Nat} {v : Bool} {bits : List (List Nat)} {fl : List Bool} (h : fl.length = bits.length) (hw : w ∈ bits) : dput (.str w) (.bl v) (kv bits fl) = kv bits (setF bits fl w v) := by
  unfold dput
  rw [any_kv h, if_pos (by simpa using hw)]
  clear hw
  induction bits generalizing fl with
  | nil => simp [kv, setF]
  | cons b bs ih =>
    cases fl with
    | nil => simp at h
    | cons f fs =>
      have := ih (fl := fs) (by simpa using h)
      simp only [kv, setF, List.zipWith_cons_cons, List.map_cons, eqv_str, decide_eq_true_eq] at this ⊢
      rw [this]
      by_cases e : b = w <;> simp [e]
theorem dput_new {w : List Nat} {v : Bool} {bits : List (List Nat)} {fl : List Bool} (h : fl.length = bits.length) (hw : w ∉ bits) : dput (.str w) (.bl v) (kv bits fl) = kv (bits ++ [w]) (fl ++ [v]) := by
  unfold dput
  rw [any_kv h, if_neg (by simpa using hw)]
  simp [kv, List.zipWith_append h.symm]
theorem getF_all : ∀ {bits : List (List Nat)} {fl : List Bool}, bits.Nodup → fl.length = bits.length → bits.map (getF bits fl) = fl
  | [], [], _, _ => rfl
  | [], _ :: _, _, h => by simp at h
  | b :: bs, [], _, h => by simp at h
  | b :: bs, f :: fs, nd, h => by
    obtain ⟨n1, n2⟩ := List.nodup_cons.mp nd
    have ih := getF_all (bits := bs) (fl := fs) n2 (by simpa using h)
    rw [List.map_cons]
    have e1 : getF (b :: bs) (f :: fs) b = f := by simp [getF]
    have e2 : bs.map (getF (b :: bs) (f :: fs)) = bs.map (getF bs fs) := List.map_congr_left fun w hw => by
      have : ¬ b = w := fun z => n1 (z ▸ hw)
      simp [getF, this]
    rw [e1, e2, ih]
/-! ### guards -/
def entL (pre : List Int) : Nat → List Rw → List (List Int × Rw)
  | _, [] => []
  | i, r :: l => (pre ++ [(i : Int)], r) :: entL pre (i + 1) l
theorem entL_len {pre : List Int} : ∀ (l : List Rw) (i : Nat), (entL pre i l).length = l.length
  | [], _ => rfl
  | r :: l, i => by simp [entL, entL_len l]
theorem entL_get {pre : List Int} : ∀ (l : List Rw) (i j : Nat), (entL pre i l)[j]? = l[j]?.map fun r => (pre ++ [((i + j : Nat) : Int)], r)
  | [], i, j => by simp [entL]
  | r :: l, i, 0 => by simp [entL]
  | r :: l, i, j + 1 => by
    rw [entL, List.getElem?_cons_succ, List.getElem?_cons_succ, entL_get l (i + 1) j]
    rw [show i + 1 + j = i + (j + 1) by omega]
def inn (pos : List Int) (r : Rw) (f : Bool) : List (List Int × Rw) := match r with
  | .iff _ x y => if f then entL (pos ++ [0]) 0 x.toL else entL (pos ++ [1]) 0 y.toL
  | .ask x y => if f then entL (pos ++ [0]) 0 x.toL else entL (pos ++ [1]) 0 y.toL
  | _ => []
inductive Out where
  | lt | rf | ld (p : List Nat) | wt (pos : List Int)
def Out.d : Out → D
  | .lt => .str [108, 101, 116]
  | .rf => .str [114, 101, 102, 117, 115, 101]
  | .ld _ => .str [108, 101, 97, 100]
  | .wt _ => .str [119, 97, 105, 116]
def Out.w : Out → D
  | .lt => .non
  | .rf => .non
  | .ld p => .str p
  | .wt pos => posD pos
structure WR where
  o : Out
  fl : List Bool
  dn : List (List Int)
  ch : List (List Nat × Bool)
def go (bits : List (List Nat)) : Nat → List (List Int × Rw) → List Bool → List Bool → List (List Int) → List (List Nat × Bool) → WR
  | _, [], fl, _, dn, ch => ⟨.lt, fl, dn, ch⟩
  | 0, _, fl, _, dn, ch => ⟨.lt, fl, dn, ch⟩
  | n + 1, (pos, .set b f) :: p, fl, as, dn, ch => go bits n p (setF bits fl b f) as (dn ++ [pos]) (ch ++ [(b, f)])
  | n + 1, (pos, .iff b x y) :: p, fl, as, dn, ch => go bits n (inn pos (.iff b x y) (getF bits fl b) ++ p) fl as (dn ++ [pos]) ch
  | n + 1, (pos, .ask x y) :: p, fl, a :: as, dn, ch => go bits n (inn pos (.ask x y) a ++ p) fl as (dn ++ [pos]) ch
  | n + 1, (pos, .ask x y) :: p, fl, [], dn, ch => ⟨.wt pos, fl, dn ++ [pos], ch⟩
  | n + 1, (pos, .lead q) :: p, fl, _, dn, ch => ⟨.ld q, fl, dn ++ [pos], ch⟩
  | n + 1, (pos, .refuse) :: p, fl, _, dn, ch => ⟨.rf, fl, dn ++ [pos], ch⟩
def pcnt : List (List Int × Rw) → Nat
  | [] => 0
  | q :: p => q.2.cnt + pcnt p
theorem pcnt_app : ∀ (p q : List (List Int × Rw)), pcnt (p ++ q) = pcnt p + pcnt q
  | [], q => by simp [pcnt]
  | x :: p, q => by simp [pcnt, pcnt_app p q]; omega
theorem pcnt_entL {pre : List Int} : ∀ (rs : Rws) (i : Nat), pcnt (entL pre i rs.toL) = rs.cnt
  | .nil, _ => by simp [Rws.toL, entL, pcnt, Rws.cnt]
  | .cons r rs, i => by simp [Rws.toL, entL, pcnt, Rws.cnt, pcnt_entL rs]
theorem pcnt_inn {pos : List Int} {r : Rw} {f : Bool} : pcnt (inn pos r f) + 1 ≤ r.cnt := by
  cases r <;> cases f <;> simp [inn, pcnt, Rw.cnt, pcnt_entL] <;> omega
theorem cnt_pos (r : Rw) : 1 ≤ r.cnt := by cases r <;> simp [Rw.cnt] <;> omega
/-- enough is enough -/
theorem go_more {bits : List (List Nat)} : ∀ (n m : Nat) (p : List (List Int × Rw)) (fl as : List Bool) (dn : List (List Int)) (ch : List (List Nat × Bool)), pcnt p ≤ n → n ≤ m → go bits n p fl as dn ch = go bits m p fl as dn ch
  | n, m, [], fl, as, dn, ch, _, _ => by simp [go]
  | 0, m, (pos, r) :: p, fl, as, dn, ch, h, _ => by have := cnt_pos r; simp [pcnt] at h; omega
  | n + 1, 0, (pos, r) :: p, fl, as, dn, ch, h, h2 => by omega
  | n + 1, m + 1, (pos, r) :: p, fl, as, dn, ch, h, h2 => by
    have hr := cnt_pos r
    have hi := fun f => pcnt_inn (pos := pos) (r := r) (f := f)
    simp only [pcnt] at h
    cases r with
    | set b f => simp only [go]; exact go_more n m _ _ _ _ _ (by omega) (by omega)
    | iff b x y => simp only [go]; exact go_more n m _ _ _ _ _ (by rw [pcnt_app]; have := hi (getF bits fl b); omega) (by omega)
    | ask x y =>
      cases as with
      | nil => simp only [go]
      | cons a as => simp only [go]; exact go_more n m _ _ _ _ _ (by rw [pcnt_app]; have := hi a; omega) (by omega)
    | lead q => simp only [go]
    | refuse => simp only [go]
end G

set_option linter.all false
set_option maxRecDepth 100000
set_option maxHeartbeats 4000000
set_option autoImplicit false
/-! LD2: entries, inside. -/
namespace G
open DL
section
variable {T : Tb} {ix : Lk} {n : Nat} {S : Sto}
structure HW0 (T : Tb) (ix : Lk) : Prop where
  are_flags : T.fns[ix.f_are_flags]? = some (F_are_flags ix)
  check : T.fns[ix.f_check_guard_call]? = some (F_check_guard_call ix)
  entries : T.fns[ix.f_entries]? = some (F_entries ix)
  inside : T.fns[ix.f_inside]? = some (F_inside ix)
  walk_entries : T.fns[ix.f_walk_entries]? = some (F_walk_entries ix)
  init : T.fns[ix.f_Walk___init__]? = some (F_Walk___init__ ix)
  cls : ∃ cd, T.cls[ix.c_Walk]? = some cd ∧ lku cd.meths iInit = some ix.f_Walk___init__ ∧ cd.flds.contains 101 = true ∧ cd.flds.contains 163 = true ∧ cd.flds.contains 53 = true ∧ cd.flds.contains 41 = true ∧ cd.flds.contains 32 = true
structure HW (T : Tb) (ix : Lk) : Prop extends HW0 T ix where
  walk_guard : T.fns[ix.f_walk_guard]? = some (F_walk_guard ix)
  run_guard : T.fns[ix.f_run_guard]? = some (F_run_guard ix)
theorem entries_ok (H : T.fns[ix.f_entries]? = some (F_entries ix)) {rs : Rws} {pre : List Int} (hl : rs.toL.length ≤ 1000) (hp : pre.length ≤ 1000) : callT T (n + 1) ix.f_entries [.tup rs.l, posD pre] S = .ok (.ref S.length) (S ++ [.lst ((entL pre 0 rs.toL).map prD)]) := by
  refine okR_eq (okR_call H rfl ?_)
  simp only [F_entries]
  simp [posD, Rws.l_eq]
  refine okR_comp (fun k acc S' => S' = S ∧ k ≤ rs.toL.length ∧ acc = ((entL pre 0 rs.toL).take k).map prD) _ 0 [] _ ⟨rfl, by omega, by simp⟩ (fun _ _ _ _ => rfl) ?_ ?_ ?_
  · rintro k x acc S' hx ⟨rfl, _, rfl⟩
    obtain ⟨d, hd, rfl⟩ := enumL_get' hx
    obtain ⟨r, hr, rfl⟩ := map_get hd
    have hk : k < rs.toL.length := (List.getElem?_eq_some_iff.mp hr).1
    refine ⟨_, rfl, ?_⟩
    have hg := entL_get (pre := pre) rs.toL 0 k
    rw [hr] at hg
    have hb : Nat.ble (pre.length + 1) big = true := Nat.ble_eq_true_of_le (by simp [big]; omega)
    simp [hb]
    rw [List.take_succ, List.getElem?_map, hg]
    simp [prD, posD]
    omega
  · rintro acc S' ⟨rfl, _, hacc⟩
    have : (enumL 0 (rs.toL.map Rw.d)).length = rs.toL.length := by simp [enumL_len]
    rw [List.nil_append, Nat.zero_add, this, List.take_of_length_le (by rw [entL_len]; omega)] at hacc
    subst hacc
    exact ⟨by simp [entL_len, big]; omega, by simp⟩
  · rintro k acc S' ⟨rfl, hk, rfl⟩
    simp [big, entL_len]; omega
theorem inside_ok (HS : HS T ix) (H : HW0 T ix) {r : Rw} {pos : List Int} {f : Bool} (hr : r.two ≠ []) (hc : r.cnt ≤ 1000) (hp : pos.length < 1000) : callT T (n + 2) ix.f_inside [posD pos, r.d, .bl f] S = .ok (.ref S.length) (S ++ [.lst ((inn pos r f).map prD)]) := by
  rw [callT_def H.inside rfl]
  have hb : Nat.ble (pos.length + 1) big = true := Nat.ble_eq_true_of_le (by simp [big]; omega)
  have e1 := fun (x : Rws) (q : Int) (h : x.toL.length ≤ 1000) => entries_ok (n := n) (S := S) H.entries (rs := x) (pre := pos ++ [q]) h (by simp; omega)
  simp only [posD, List.map_append, List.map_cons, List.map_nil] at e1
  cases r with
  | iff b x y =>
    have hx := Rws.len_cnt x
    have hy := Rws.len_cnt y
    simp only [Rw.cnt] at hc
    cases f
    · simp [runF, F_inside, branches_ok HS, Rw.two, posD, hb, e1 y 1 (by omega), inn]
    · simp [runF, F_inside, branches_ok HS, Rw.two, posD, hb, e1 x 0 (by omega), inn]
  | ask x y =>
    have hx := Rws.len_cnt x
    have hy := Rws.len_cnt y
    simp only [Rw.cnt] at hc
    cases f
    · simp [runF, F_inside, branches_ok HS, Rw.two, posD, hb, e1 y 1 (by omega), inn]
    · simp [runF, F_inside, branches_ok HS, Rw.two, posD, hb, e1 x 0 (by omega), inn]
  | set b f => exact absurd rfl hr
  | lead p => exact absurd rfl hr
  | refuse => exact absurd rfl hr
end
end G

set_option linter.all false
set_option maxRecDepth 100000
set_option maxHeartbeats 4000000
set_option autoImplicit false
/-! LD3: walk_entries. -/
namespace G
open DL
section
variable {T : Tb} {ix : Lk} {n : Nat} {S : Sto}
theorem truth_lst {i : Nat} {xs : List D} (h : S[i]? = some (.lst xs)) : truth S (.ref i) = some (!xs.isEmpty) := by simp only [truth, h]
theorem item_dic {cl : Orc} {i : Nat} {kvs : List (D × D)} {k : List Nat} (h : S[i]? = some (.dic kvs)) : itemT T cl (.d (.ref i)) (.str k) S = optR (dlk kvs (.str k)) S := by
  simp only [itemT, itemG, its, h, ixDic, keyD, gd_true]
theorem setItem_dic {i : Nat} {kvs : List (D × D)} {k : List Nat} {v : D} (h : S[i]? = some (.dic kvs)) (hl : kvs.length < 1000) : setItem S (.ref i) (.str k) v = some (S.set i (.dic (dput (.str k) v kvs))) := by
  have h2 : Nat.blt kvs.length 1000000 = true := Nat.ble_eq_true_of_le (by omega)
  simp only [setItem, h, keyD, h2, Bool.and_self, if_true]
theorem add_lst {i : Nat} {xs ys : List D} {b : TV} (h : S[i]? = some (.lst xs)) (hb : lsts S b = some ys) (hl : xs.length + ys.length ≤ 100000) : addT S (.d (.ref i)) b = .ok (.ref S.length) (S ++ [.lst (xs ++ ys)]) := by
  have h1 : Nat.ble (xs.length + ys.length) big = true := Nat.ble_eq_true_of_le (by simp [big]; omega)
  have h2 : lsts S (.d (.ref i)) = some xs := lsts_lst h
  simp only [addT, h2, hb, h1, gd_true]
theorem len_pcnt : ∀ (p : List (List Int × Rw)), p.length ≤ pcnt p
  | [] => by simp [pcnt]
  | q :: p => by have := len_pcnt p; have := cnt_pos q.2; simp [pcnt]; omega
/-- the answers, a tuple or a list -/
def AnsAt (S : Sto) (d : D) (as : List Bool) : Prop := d = .tup (as.map .bl) ∨ ∃ i, d = .ref i ∧ S[i]? = some (.lst (as.map .bl))
theorem AnsAt.gr {S S' : Sto} {d : D} {as : List Bool} (h : AnsAt S d as) (g : Gr S S') : AnsAt S' d as := by
  rcases h with h | ⟨i, h, h2⟩
  · exact .inl h
  · exact .inr ⟨i, h, g.at h2⟩
theorem ans_len {cl : Orc} {d : D} {as : List Bool} (h : AnsAt S d as) : bfT T cl .len (.d d) S = .ok (.int as.length) S := by
  rcases h with rfl | ⟨i, rfl, h2⟩
  · simp
  · rw [bf_len_ref (its_lst h2)]; simp
theorem ans_item {cl : Orc} {d : D} {as : List Bool} (h : AnsAt S d as) {k : Nat} {a : Bool} (hk : as[k]? = some a) : itemT T cl (.d d) (.int k) S = .ok (.bl a) S := by
  rcases h with rfl | ⟨i, rfl, h2⟩
  · simp [atI_nat, hk]
  · rw [item_lst h2]; simp [atI_nat, hk]
def enP (bits : List (List Nat)) (x : D) : D × D := match x with
  | .tup [.int i, f] => ((bits.map D.str).getD i.toNat .non, f)
  | _ => (.non, .non)
theorem fold_kv {bits : List (List Nat)} (nd : bits.Nodup) : ∀ (fs gl : List Bool) (j : Nat), gl.length = j → j + fs.length = bits.length → (enumL j (fs.map D.bl)).foldl (fun kvs x => dput (enP bits x).1 (enP bits x).2 kvs) (kv (bits.take j) gl) = kv bits (gl ++ fs)
  | [], gl, j, h1, h2 => by
    simp at h2
    simp [enumL, List.take_of_length_le (show bits.length ≤ j by omega)]
  | f :: fs, gl, j, h1, h2 => by
    simp at h2
    have hj : j < bits.length := by omega
    have e : enP bits (.tup [.int (j : Int), .bl f]) = (.str bits[j], .bl f) := by simp [enP, hj]
    have hn : bits[j] ∉ bits.take j := by
      intro z
      obtain ⟨k, hk, hk2⟩ := List.getElem_of_mem z
      simp at hk
      rw [List.getElem_take] at hk2
      have := (List.getElem_inj nd).mp hk2
      omega
    have ih := fold_kv nd fs (gl ++ [f]) (j + 1) (by simp [h1]) (by omega)
    rw [List.map_cons, enumL, List.foldl_cons, e, dput_new (by simp [h1]; omega) hn]
    have ht : bits.take j ++ [bits[j]] = bits.take (j + 1) := by rw [List.take_add_one, List.getElem?_eq_getElem hj]; rfl
    rw [ht]
    have hc : ((j : Int) + 1) = ((j + 1 : Nat) : Int) := by omega
    rw [hc, ih]
    simp
/-- rows that are to be done -/
def PdOk (en : Bool) (bits names : List (List Nat)) (p : List (List Int × Rw)) : Prop := ∀ q ∈ p, ∃ k, q.2.ok en bits names k ∧ q.1.length + 1 = 2 * k
theorem PdOk.app {en : Bool} {bits names : List (List Nat)} {p q : List (List Int × Rw)} (h : PdOk en bits names p) (h2 : PdOk en bits names q) : PdOk en bits names (p ++ q) := fun x hx => by
  rcases List.mem_append.mp hx with hx | hx
  · exact h x hx
  · exact h2 x hx
theorem PdOk.ent {en : Bool} {bits names : List (List Nat)} {pre : List Int} {rs : Rws} {k : Nat} (h : rs.ok en bits names k) (hp : pre.length + 2 = 2 * k) (i : Nat) : PdOk en bits names (entL pre i rs.toL) := by
  intro q hq
  obtain ⟨j, hj⟩ := List.getElem?_of_mem hq
  rw [entL_get] at hj
  cases hr : rs.toL[j]? with
  | none => rw [hr] at hj; cases hj
  | some r =>
    rw [hr] at hj
    cases hj
    exact ⟨k, Rws.ok_mem h r (List.mem_of_getElem? hr), by simp; omega⟩
theorem PdOk.inn {en : Bool} {bits names : List (List Nat)} {pos : List Int} {r : Rw} {k : Nat} (h : r.ok en bits names k) (hp : pos.length + 1 = 2 * k) (f : Bool) : PdOk en bits names (inn pos r f) := by
  cases r with
  | iff b x y =>
    simp only [Rw.ok] at h
    cases f
    · exact PdOk.ent h.2.2.2 (by simp; omega) 0
    · exact PdOk.ent h.2.2.1 (by simp; omega) 0
  | ask x y =>
    simp only [Rw.ok] at h
    cases f
    · exact PdOk.ent h.2.2 (by simp; omega) 0
    · exact PdOk.ent h.2.1 (by simp; omega) 0
  | set b f => intro q hq; cases hq
  | lead p => intro q hq; cases hq
  | refuse => intro q hq; cases hq
def chD (c : List Nat × Bool) : D := .tup [.str [98, 105, 116], .str c.1, .bl c.2]
def walkO (ix : Lk) (w : WR) (a b : Nat) : O := .ins ix.c_Walk [(101, w.o.d), (163, w.o.w), (53, .tup (w.fl.map .bl)), (41, .ref a), (32, .ref b)]
structure WalkAt (S : Sto) (ix : Lk) (i : Nat) (w : WR) : Prop where
  a : ∃ a b, S[i]? = some (walkO ix w a b) ∧ S[a]? = some (.lst (w.dn.map posD)) ∧ S[b]? = some (.lst (w.ch.map chD))
theorem WalkAt.gr {S S' : Sto} {i : Nat} {w : WR} (h : WalkAt S ix i w) (g : Gr S S') : WalkAt S' ix i w := by
  obtain ⟨a, b, h1, h2, h3⟩ := h.a
  exact ⟨a, b, g.at h1, g.at h2, g.at h3⟩
theorem winit_ok (H : HW0 T ix) {a b c d e : D} : callT T (n + 1) ix.f_Walk___init__ [.ref S.length, a, b, c, d, e] (S ++ [.ins ix.c_Walk []]) = .ok .non (S ++ [.ins ix.c_Walk [(101, a), (163, b), (53, c), (41, d), (32, e)]]) := by
  obtain ⟨cd, hcd, _, f1, f2, f3, f4, f5⟩ := H.cls
  have f1 := fld_ok hcd f1
  have f2 := fld_ok hcd f2
  have f3 := fld_ok hcd f3
  have f4 := fld_ok hcd f4
  have f5 := fld_ok hcd f5
  have hs : ∀ o : O, (S ++ [o])[S.length]? = some o := fun o => at_end
  rw [callT_def H.init rfl]
  simp [runF, F_Walk___init__, setAttr_ok (hs _) f1, setAttr_ok (hs _) f2, setAttr_ok (hs _) f3, setAttr_ok (hs _) f4, setAttr_ok (hs _) f5, putF]
end
end G

set_option linter.all false
set_option maxRecDepth 100000
set_option maxHeartbeats 4000000
set_option autoImplicit false
/-! LD4: walk_entries. -/
namespace G
open DL
section
variable {T : Tb} {ix : Lk} {n : Nat} {S : Sto}
structure WI (T : Tb) (ix : Lk) (S : Sto) (en : Bool) (bits names : List (List Nat)) (fl0 : List Bool) (ad : D) (as : List Bool) (fin : WR) (m : Nat) (Γ : Ev) (S' : Sto) (p : List (List Int × Rw)) (fl : List Bool) (dn : List (List Int)) (ch : List (List Nat × Bool)) (o : Out) (pr u : Nat) : Prop where
  ga : ∃ o10 o11 : Option D, Γ = [some (.tup (bits.map .str)), some (.ref pr), some (.tup (fl0.map .bl)), some ad, some (.ref (S.length + 1)), some (.int u), some (.ref (S.length + 2)), some (.ref (S.length + 3)), some o.d, some o.w, o10, o11, none, none, none]
  ap : pr = S.length ∨ S.length + 3 < pr
  pp : S'[pr]? = some (.lst (p.map prD))
  vv : S'[S.length + 1]? = some (.dic (kv bits fl))
  dd : S'[S.length + 2]? = some (.lst (dn.map posD))
  cc : S'[S.length + 3]? = some (.lst (ch.map chD))
  gr : Gr S S'
  fll : fl.length = bits.length
  uu : u ≤ as.length
  po : PdOk en bits names p
  b1 : pcnt p ≤ 1000
  b2 : dn.length + pcnt p ≤ 1000
  b3 : ch.length + pcnt p ≤ 1000
  en_ : (o = .lt ∧ m = pcnt p + 1 ∧ go bits (pcnt p) p fl (as.drop u) dn ch = fin) ∨ (o ≠ .lt ∧ m = 0 ∧ fin = ⟨o, fl, dn, ch⟩)
theorem walk_entries_ok (HS : HS T ix) (H : HW0 T ix) {en : Bool} {bits names : List (List Nat)} {fl as : List Bool} {ad : D} {pr : Nat} {p : List (List Int × Rw)} (nd : bits.Nodup) (hb : bits.length ≤ 3) (hf : fl.length = bits.length) (ha : AnsAt S ad as) (hp : S[pr]? = some (.lst (p.map prD))) (po : PdOk en bits names p) (hc : pcnt p ≤ 1000)
    {Q : D → Sto → Prop} (q : ∀ i S', S.length ≤ i → Gr S S' → WalkAt S' ix i (go bits (pcnt p) p fl as [] []) → Q (.ref i) S') :
    okR (callT T (n + 4) ix.f_walk_entries [.tup (bits.map .str), .ref pr, .tup (fl.map .bl), ad] S) Q := by
  refine okR_call H.walk_entries rfl ?_
  simp only [F_walk_entries]
  simp [bf_list_ref (its_lst hp)]
  have hdc := fun (fk fv : Ev → Sto → R D) Γ S' h => dcompL_pure (S := S') (ks := []) (t := .tp [12, 13]) (fk := fk) (fv := fv) (Γ := Γ) (enP bits) rfl (enumL 0 (fl.map D.bl)) [] h (by simp [enumL_len]; omega)
  have hfold := fold_kv nd fl [] 0 rfl (by omega)
  simp only [List.take_zero, List.nil_append] at hfold
  rw [hdc]
  · have hk0 : kv [] [] = [] := rfl
    rw [hk0] at hfold
    have hfold' : (enumL 0 (fl.map D.bl)).foldl (fun kvs x => dput (enP bits x).1 (enP bits x).2 kvs) [] = kv bits fl := hfold
    rw [hfold']
    simp
    clear hdc hfold hfold' hk0
    have fini : ∀ (S1 : Sto) (w : WR) (pr u : Nat) (o10 o11 : Option D), S1[S.length + 1]? = some (.dic (kv bits w.fl)) → S1[S.length + 2]? = some (.lst (w.dn.map posD)) → S1[S.length + 3]? = some (.lst (w.ch.map chD)) → Gr S S1 → w.fl.length = bits.length → w = go bits (pcnt p) p fl as [] [] →
        okS (execs T (callT T (n + 3)) (.cons (.ret (.make ix.c_Walk (.cons (.var 8) (.cons (.var 9) (.cons (.bf .tuple (.lc (.a (.e (.var 0))) (.nm 14) .no (.item (.e (.var 4)) (.var 14)))) (.cons (.var 6) (.cons (.var 7) .nil))))))) .nil)
          [some (.tup (bits.map .str)), some (.ref pr), some (.tup (fl.map .bl)), some ad, some (.ref (S.length + 1)), some (.int u), some (.ref (S.length + 2)), some (.ref (S.length + 3)), some w.o.d, some w.o.w, o10, o11, none, none, none] S1) (rtQ Q) := by
      intro S1 w pr u o10 o11 hv hd hc2 g hfl hw
      simp
      refine okR_map (fun d => match d with
        | .str b => .bl (getF bits w.fl b)
        | _ => .non) rfl (fun x hx => ?_) (by simp [big]; omega) ?_
      · obtain ⟨b, hb2, rfl⟩ := List.mem_map.mp hx
        refine ⟨_, rfl, ?_⟩
        simp [item_dic hv, dlk_kv hfl hb2]
      · have e : List.map (fun d => match d with
          | .str b => .bl (getF bits w.fl b)
          | _ => .non) (bits.map D.str) = w.fl.map D.bl := by
          have := getF_all nd hfl
          conv => rhs; rw [← this]
          simp
        obtain ⟨cd, hcd, hin, _⟩ := H.cls
        have hm : mth T ix.c_Walk iInit = some ix.f_Walk___init__ := by simp only [mth, hcd, hin]
        rw [e]
        simp [hm, winit_ok (n := n + 2) H]
        refine q _ _ g.len g.push ⟨S.length + 2, S.length + 3, ?_, ?_, ?_⟩
        · rw [← hw]; exact at_end
        · rw [← hw]; exact at_old hd
        · rw [← hw]; exact at_old hc2
    refine okS_while (fun m Γ S' => ∃ (p' : List (List Int × Rw)) (fl' : List Bool) (dn : List (List Int)) (ch : List (List Nat × Bool)) (o : Out) (pr' u : Nat), WI T ix S en bits names fl ad as (go bits (pcnt p) p fl as [] []) m Γ S' p' fl' dn ch o pr' u) ?_ most (pcnt p + 1) _ _ (by simp [most]; omega) ?_
    · rintro m Γ S1 ⟨p', fl', dn, ch, o, pr', u, W⟩
      obtain ⟨o10, o11, rfl⟩ := W.ga
      cases p' with
      | nil =>
        have hpp := W.pp
        simp [truth_lst hpp]
        have := fini S1 ⟨o, fl', dn, ch⟩ pr' u o10 o11 W.vv W.dd W.cc W.gr W.fll (by
          rcases W.en_ with ⟨rfl, _, h⟩ | ⟨_, _, h⟩
          · rw [← h]; simp [go]
          · rw [h])
        simpa using this
      | cons q p' =>
        rcases W.en_ with ⟨rfl, hm, h⟩ | ⟨ho, _, h⟩
        · have hpp := W.pp
          obtain ⟨pos, r⟩ := q
          have hcut : ∀ x : D, cutL (x :: p'.map prD) (some 1) none = p'.map prD := fun x => by rw [cut_lo (by decide)]; rfl
          have hdd1 : (S1 ++ [O.lst (p'.map prD)])[S.length + 2]? = some (.lst (dn.map posD)) := at_old W.dd
          have hb2 := W.b2
          have hb3 := W.b3
          have hb1 := W.b1
          have hcp := cnt_pos r
          simp only [pcnt] at hb1 hb2 hb3 hm h
          simp [truth_lst hpp, Out.d, item_lst hpp, prD, slc_ref (its_lst hpp), hcut, rcv_append hdd1, append_ok (y := posD pos) hdd1 (by simp [big]; omega)]
          have hlen : S.length + 3 < S1.length := (List.getElem?_eq_some_iff.mp W.cc).1
          have hP2 : ((S1 ++ [O.lst (p'.map prD)]).set (S.length + 2) (.lst (dn.map posD ++ [posD pos])))[S1.length]? = some (.lst (p'.map prD)) := by rw [at_set_ne (by omega)]; exact at_end
          have hV2 : ((S1 ++ [O.lst (p'.map prD)]).set (S.length + 2) (.lst (dn.map posD ++ [posD pos])))[S.length + 1]? = some (.dic (kv bits fl')) := by rw [at_set_ne (by omega)]; exact at_old W.vv
          have hD2 : ((S1 ++ [O.lst (p'.map prD)]).set (S.length + 2) (.lst (dn.map posD ++ [posD pos])))[S.length + 2]? = some (.lst ((dn ++ [pos]).map posD)) := by rw [at_set hdd1]; simp
          have hC2 : ((S1 ++ [O.lst (p'.map prD)]).set (S.length + 2) (.lst (dn.map posD ++ [posD pos])))[S.length + 3]? = some (.lst (ch.map chD)) := by rw [at_set_ne (by omega)]; exact at_old W.cc
          have hG2 : Gr S ((S1 ++ [O.lst (p'.map prD)]).set (S.length + 2) (.lst (dn.map posD ++ [posD pos]))) := W.gr.push.set (by omega)
          have hl2 : ((S1 ++ [O.lst (p'.map prD)]).set (S.length + 2) (.lst (dn.map posD ++ [posD pos]))).length = S1.length + 1 := by simp
          generalize ((S1 ++ [O.lst (p'.map prD)]).set (S.length + 2) (.lst (dn.map posD ++ [posD pos]))) = S2 at hP2 hV2 hD2 hC2 hG2 hl2 ⊢
          have hpo' : PdOk en bits names p' := fun q hq => W.po q (by simp [hq])
          obtain ⟨k, hrk, hpk⟩ := W.po (pos, r) (by simp)
          simp only at hrk hpk
          have hfll := W.fll
          have huu := W.uu
          cases r with
          | set b f =>
            simp only [Rw.ok] at hrk
            have hgo : go bits (pcnt p') p' (setF bits fl' b f) (as.drop u) (dn ++ [pos]) (ch ++ [(b, f)]) = go bits (pcnt p) p fl as [] [] := by
              rw [← h]; simp [Rw.cnt, Nat.add_comm 1, go]
            have hC3 : (S2.set (S.length + 1) (.dic (dput (.str b) (.bl f) (kv bits fl'))))[S.length + 3]? = some (.lst (ch.map chD)) := by rw [at_set_ne (by omega)]; exact hC2
            simp [Rw.d, setItem_dic hV2 (by rw [kv_len hfll]; omega), rcv_append hC3, append_ok hC3 (y := .tup [.str [98, 105, 116], .str b, .bl f]) (by simp [big]; omega)]
            refine ⟨pcnt p' + 1, by simp only [Rw.cnt] at hm; omega, p', setF bits fl' b f, dn ++ [pos], ch ++ [(b, f)], .lt, S1.length, u, ⟨_, _, rfl⟩, .inr (by omega), ?_, ?_, ?_, ?_, (hG2.set (by omega)).set (by omega), setF_len hfll, huu, hpo', by omega, by simp [Rw.cnt] at hb2 ⊢; omega, by simp [Rw.cnt] at hb3 ⊢; omega, .inl ⟨rfl, rfl, hgo⟩⟩
            · rw [at_set_ne (by omega), at_set_ne (by omega)]; exact hP2
            · rw [at_set_ne (by omega), at_set hV2, dput_kv hfll hrk]
            · rw [at_set_ne (by omega), at_set_ne (by omega)]; exact hD2
            · rw [at_set hC3]; simp [chD]
          | iff b x y =>
            simp only [Rw.ok] at hrk
            have hgo : go bits (pcnt (inn pos (.iff b x y) (getF bits fl' b) ++ p')) (inn pos (.iff b x y) (getF bits fl' b) ++ p') fl' (as.drop u) (dn ++ [pos]) ch = go bits (pcnt p) p fl as [] [] := by
              rw [← h]
              have hpi := pcnt_inn (pos := pos) (r := .iff b x y) (f := getF bits fl' b)
              have := go_more (bits := bits) _ (x.cnt + y.cnt + pcnt p') (inn pos (.iff b x y) (getF bits fl' b) ++ p') fl' (as.drop u) (dn ++ [pos]) ch (Nat.le_refl _) (by rw [pcnt_app]; simp only [Rw.cnt] at hpi; omega)
              rw [this, show (Rw.iff b x y).cnt + pcnt p' = x.cnt + y.cnt + pcnt p' + 1 by simp only [Rw.cnt]; omega]
              simp only [go]
            have hin := inside_ok (n := n + 1) (S := S2) HS H (r := .iff b x y) (pos := pos) (f := getF bits fl' b) (by simp [Rw.two]) (by omega) (by omega)
            have hpi := pcnt_inn (pos := pos) (r := .iff b x y) (f := getF bits fl' b)
            have hlp := len_pcnt (inn pos (.iff b x y) (getF bits fl' b) ++ p')
            rw [pcnt_app] at hlp
            have hpin := PdOk.inn (r := .iff b x y) (names := names) (en := en) (by simp only [Rw.ok]; exact hrk) hpk (getF bits fl' b)
            generalize hI : inn pos (.iff b x y) (getF bits fl' b) = I at hgo hin hpi hlp hpin
            simp [Rw.d] at hin
            have hadd := add_lst (S := S2 ++ [O.lst (I.map prD)]) (i := S2.length) (b := .d (.ref S1.length)) (ys := p'.map prD) at_end (lsts_lst (at_old hP2)) (by simp at hlp ⊢; omega)
            simp [Rw.d, item_dic hV2, dlk_kv hfll hrk.2.1, hin]
            simp at hadd
            simp [hadd]
            refine ⟨pcnt (I ++ p') + 1, by rw [pcnt_app]; omega, I ++ p', fl', dn ++ [pos], ch, .lt, S2.length + 1, u, ⟨_, _, rfl⟩, .inr (by omega), ?_, ?_, ?_, ?_, hG2.push, hfll, huu, hpin.app hpo', by rw [pcnt_app]; omega, by rw [pcnt_app]; simp; omega, by rw [pcnt_app]; omega, .inl ⟨rfl, rfl, hgo⟩⟩
            · simp
            · exact at_old hV2
            · exact at_old hD2
            · exact at_old hC2
          | ask x y =>
            by_cases hul : u < as.length
            · obtain ⟨a, hau⟩ : ∃ a, as[u]? = some a := ⟨_, List.getElem?_eq_getElem hul⟩
              have hdrop : as.drop u = a :: as.drop (u + 1) := by
                rw [List.drop_eq_getElem_cons hul]
                rw [List.getElem?_eq_getElem hul] at hau
                rw [Option.some.inj hau]
              simp only [Rw.ok] at hrk
              have hgo : go bits (pcnt (inn pos (.ask x y) a ++ p')) (inn pos (.ask x y) a ++ p') fl' (as.drop (u + 1)) (dn ++ [pos]) ch = go bits (pcnt p) p fl as [] [] := by
                rw [← h]
                have hpi := pcnt_inn (pos := pos) (r := .ask x y) (f := a)
                have := go_more (bits := bits) _ (x.cnt + y.cnt + pcnt p') (inn pos (.ask x y) a ++ p') fl' (as.drop (u + 1)) (dn ++ [pos]) ch (Nat.le_refl _) (by rw [pcnt_app]; simp only [Rw.cnt] at hpi; omega)
                rw [this, show (Rw.ask x y).cnt + pcnt p' = x.cnt + y.cnt + pcnt p' + 1 by simp only [Rw.cnt]; omega]
                rw [hdrop]
                simp only [go]
              have hin := inside_ok (n := n + 1) (S := S2) HS H (r := .ask x y) (pos := pos) (f := a) (by simp [Rw.two]) (by omega) (by omega)
              have hpi := pcnt_inn (pos := pos) (r := .ask x y) (f := a)
              have hlp := len_pcnt (inn pos (.ask x y) a ++ p')
              rw [pcnt_app] at hlp
              have hpin := PdOk.inn (r := .ask x y) (names := names) (en := en) (by simp only [Rw.ok]; exact hrk) hpk a
              generalize hI : inn pos (.ask x y) a = I at hgo hin hpi hlp hpin
              simp [Rw.d] at hin
              have hadd := add_lst (S := S2 ++ [O.lst (I.map prD)]) (i := S2.length) (b := .d (.ref S1.length)) (ys := p'.map prD) at_end (lsts_lst (at_old hP2)) (by simp at hlp ⊢; omega)
              simp [Rw.d, ans_len (ha.gr hG2), hul, ans_item (ha.gr hG2) hau, hin]
              simp at hadd
              simp [hadd]
              refine ⟨pcnt (I ++ p') + 1, by rw [pcnt_app]; omega, I ++ p', fl', dn ++ [pos], ch, .lt, S2.length + 1, u + 1, ⟨_, _, rfl⟩, .inr (by omega), ?_, ?_, ?_, ?_, hG2.push, hfll, by omega, hpin.app hpo', by rw [pcnt_app]; omega, by rw [pcnt_app]; simp; omega, by rw [pcnt_app]; omega, .inl ⟨rfl, rfl, hgo⟩⟩
              · simp
              · exact at_old hV2
              · exact at_old hD2
              · exact at_old hC2
            · have hdrop : as.drop u = [] := List.drop_eq_nil_of_le (by omega)
              rw [hdrop, show (Rw.ask x y).cnt + pcnt p' = x.cnt + y.cnt + pcnt p' + 1 by simp only [Rw.cnt]; omega] at h
              simp only [go] at h
              simp [Rw.d, ans_len (ha.gr hG2), hul]
              exact ⟨0, by omega, p', fl', dn ++ [pos], ch, .wt pos, S1.length, u, ⟨_, _, rfl⟩, .inr (by omega), hP2, hV2, hD2, hC2, hG2, hfll, huu, hpo', by omega, by simp; omega, by omega, .inr ⟨by simp, rfl, h.symm⟩⟩
          | lead q =>
            rw [show (Rw.lead q).cnt + pcnt p' = pcnt p' + 1 by simp only [Rw.cnt]; omega] at h
            simp only [go] at h
            simp [Rw.d]
            exact ⟨0, by omega, p', fl', dn ++ [pos], ch, .ld q, S1.length, u, ⟨_, _, rfl⟩, .inr (by omega), hP2, hV2, hD2, hC2, hG2, hfll, huu, hpo', by omega, by simp; omega, by omega, .inr ⟨by simp, rfl, h.symm⟩⟩
          | refuse =>
            rw [show (Rw.refuse).cnt + pcnt p' = pcnt p' + 1 by simp only [Rw.cnt]; omega] at h
            simp only [go] at h
            simp [Rw.d]
            exact ⟨0, by omega, p', fl', dn ++ [pos], ch, .rf, S1.length, u, ⟨_, _, rfl⟩, .inr (by omega), hP2, hV2, hD2, hC2, hG2, hfll, huu, hpo', by omega, by simp; omega, by omega, .inr ⟨by simp, rfl, h.symm⟩⟩
        · have hpp := W.pp
          have hfin := fini S1 ⟨o, fl', dn, ch⟩ pr' u o10 o11 W.vv W.dd W.cc W.gr W.fll (by rw [h])
          cases o with
          | lt => exact absurd rfl ho
          | rf => simp [truth_lst hpp, Out.d, Out.w] at hfin ⊢; exact hfin
          | ld _ => simp [truth_lst hpp, Out.d, Out.w] at hfin ⊢; exact hfin
          | wt _ => simp [truth_lst hpp, Out.d, Out.w] at hfin ⊢; exact hfin
    · refine ⟨p, fl, [], [], .lt, S.length, 0, ⟨none, none, rfl⟩, .inl rfl, ?_, ?_, ?_, ?_, ⟨_, rfl⟩, hf, by omega, po, hc, by simpa using hc, by simpa using hc, .inl ⟨rfl, rfl, by simp⟩⟩ <;> simp
  · intro x hx
    obtain ⟨j, hj⟩ := List.getElem?_of_mem hx
    obtain ⟨d, hd, rfl⟩ := enumL_get' hj
    obtain ⟨f, hf2, rfl⟩ := map_get hd
    have hjl : j < bits.length := by rw [← hf]; exact (List.getElem?_eq_some_iff.mp hf2).1
    refine ⟨_, rfl, ?_⟩
    simp [enP, atI_nat, hjl, keyD]
end
end G

set_option linter.all false
set_option maxRecDepth 100000
set_option maxHeartbeats 4000000
set_option autoImplicit false
/-! LD5: walk_guard, run_guard. -/
namespace G
open DL
section
variable {T : Tb} {ix : Lk} {n : Nat} {S : Sto}
def flD' (fl : List Bool) : D := .tup (fl.map .bl)
theorem are_flags_ok (H : HW0 T ix) (HS : HS T ix) {s : Si} {i : Nat} (hs : S[i]? = some (siteO ix s)) {fl : List Bool} (hf : fl.length = s.bits.length) (hb : s.bits.length ≤ 3) : callT T (n + 1) ix.f_are_flags [.ref i, .tup (fl.map .bl)] S = .ok (.bl true) S := by
  refine okR_eq (okR_call H.are_flags rfl ?_)
  obtain ⟨cd, hcd, _, h29, _⟩ := HS.cls
  simp only [F_are_flags]
  simp [attr_ok hs (fld_ok hcd h29) rfl, Si.bd, hf]
  refine okR_map (fun _ => .bl true) rfl (fun x hx => ?_) (by simp [big]; omega) ?_
  · obtain ⟨b, _, rfl⟩ := List.mem_map.mp hx
    exact ⟨_, rfl, by simp⟩
  · have e : (List.map (fun _ => D.bl true) (fl.map D.bl)) = (fl.map fun _ => true).map D.bl := by simp
    rw [e]
    simp
theorem check_call_ok (H : HW0 T ix) (HG : HG T ix) (HS : HS T ix) {s : Si} (ok : SiOk s) {i : Nat} (hs : S[i]? = some (siteO ix s)) {p : Pge} (hp : p ∈ s.pages) {en : Bool} {fl : List Bool} (hf : fl.length = s.bits.length) : callT T (n + 3) ix.f_check_guard_call [.ref i, .str p.name, .str (sideS en), .tup (fl.map .bl)] S = .ok (.tup (p.rows en).l) S := by
  refine okR_eq (okR_call H.check rfl ?_)
  simp only [F_check_guard_call]
  simp [mth_site (m := 61) hs HG.mguard rfl, guard_ok (n := n) HG HS hs ok.pn hp, are_flags_ok (n := n + 1) H HS hs hf ok.bl]
theorem Pge.rows_ok {bits names : List (List Nat)} {p : Pge} (h : PgeOk bits names p) (en : Bool) : (p.rows en).ok en bits names 1 ∧ (p.rows en).cnt ≤ 8 := by
  cases en
  · exact ⟨h.lv, h.lvc⟩
  · exact ⟨h.en, h.enc⟩
/-- a guard done from its first row -/
def runR (s : Si) (p : Pge) (en : Bool) (fl as : List Bool) : WR := go s.bits (p.rows en).cnt (entL [] 0 (p.rows en).toL) fl as [] []
theorem walk_guard_ok (H : HW T ix) (HG : HG T ix) (HS : HS T ix) {s : Si} (ok : SiOk s) {i : Nat} (hs : S[i]? = some (siteO ix s)) {p : Pge} (hp : p ∈ s.pages) {en : Bool} {fl as : List Bool} (hf : fl.length = s.bits.length) {ad : D} (ha : AnsAt S ad as)
    {Q : D → Sto → Prop} (q : ∀ j S', S.length ≤ j → Gr S S' → WalkAt S' ix j (runR s p en fl as) → Q (.ref j) S') :
    okR (callT T (n + 5) ix.f_walk_guard [.ref i, .str p.name, .str (sideS en), .tup (fl.map .bl), ad] S) Q := by
  refine okR_call H.walk_guard rfl ?_
  obtain ⟨cd, hcd, _, h29, _⟩ := HS.cls
  obtain ⟨hok, hc⟩ := Pge.rows_ok (ok.pg p hp) en
  have hl := Rws.len_cnt (p.rows en)
  have he := entries_ok (n := n + 3) (S := S) H.entries (rs := p.rows en) (pre := []) (by omega) (by simp)
  simp [posD] at he
  simp only [F_walk_guard]
  simp [attr_ok hs (fld_ok hcd h29) rfl, Si.bd, mth_site (m := 61) hs HG.mguard rfl, guard_ok (n := n + 2) HG HS hs ok.pn hp, he]
  have hpo : PdOk en s.bits s.names (entL [] 0 (p.rows en).toL) := PdOk.ent hok rfl 0
  have hcn := pcnt_entL (pre := []) (p.rows en) 0
  refine walk_entries_ok (n := n) HS H.toHW0 ok.bn ok.bl hf (ha.gr ⟨_, rfl⟩) at_end hpo (by rw [hcn]; omega) fun j S' hj g hw => ?_
  rw [hcn] at hw
  simp
  exact q j S' (by simp at hj; omega) (Gr.trans ⟨_, rfl⟩ g) hw
def resD (w : WR) : D := .tup [w.o.d, .tup (w.fl.map .bl), w.o.w]
theorem walk_attr (H : HW0 T ix) {i : Nat} {w : WR} (h : WalkAt S ix i w) : attrT T S 101 (.ref i) = .ok w.o.d S ∧ attrT T S 163 (.ref i) = .ok w.o.w S ∧ attrT T S 53 (.ref i) = .ok (.tup (w.fl.map .bl)) S := by
  obtain ⟨a, b, h1, _, _⟩ := h.a
  obtain ⟨cd, hcd, _, f1, f2, f3, f4, f5⟩ := H.cls
  exact ⟨attr_ok h1 (fld_ok hcd f1) rfl, attr_ok h1 (fld_ok hcd f2) rfl, attr_ok h1 (fld_ok hcd f3) rfl⟩
theorem run_guard_ok (H : HW T ix) (HG : HG T ix) (HS : HS T ix) {s : Si} (ok : SiOk s) {i : Nat} (hs : S[i]? = some (siteO ix s)) {p : Pge} (hp : p ∈ s.pages) {en : Bool} {fl as : List Bool} (hf : fl.length = s.bits.length) {ad : D} (ha : AnsAt S ad as)
    {Q : D → Sto → Prop} (q : ∀ S', Gr S S' → Q (resD (runR s p en fl as)) S') :
    okR (callT T (n + 6) ix.f_run_guard [.ref i, .str p.name, .str (sideS en), .tup (fl.map .bl), ad] S) Q := by
  refine okR_call H.run_guard rfl ?_
  simp only [F_run_guard]
  simp [check_call_ok (n := n + 2) H.toHW0 HG HS ok hs hp hf]
  refine walk_guard_ok (n := n) H HG HS ok hs hp hf ha fun j S' _ g hw => ?_
  obtain ⟨h1, h2, h3⟩ := walk_attr H.toHW0 hw
  simp [h1, h2, h3]
  exact q S' g
end
end G

set_option linter.all false
set_option maxRecDepth 100000
set_option maxHeartbeats 4000000
set_option autoImplicit false
/-! LD6: the laws' own way through a guard. -/
namespace G
open DL
section
variable {T : Tb} {ix : Lk} {n : Nat} {S : Sto}
structure HV (T : Tb) (ix : Lk) : Prop where
  entries : T.fns[ix.f__law_entries]? = some (F__law_entries ix)
  branch : T.fns[ix.f__law_branch]? = some (F__law_branch ix)
  value : T.fns[ix.f__law_value]? = some (F__law_value ix)
  guard : T.fns[ix.f__law_guard]? = some (F__law_guard_v2 ix)
theorem smallN {m : Nat} (h : m ≤ 1000000) : smallI (m : Int) = true := smallI_ok (by omega) (by omega)
theorem small0 : smallI 0 = true := by simp [smallI]
theorem lentries_ok (H : T.fns[ix.f__law_entries]? = some (F__law_entries ix)) {rs : Rws} {pre : List Int} (hl : rs.toL.length ≤ 1000) (hp : pre.length ≤ 1000) : callT T (n + 1) ix.f__law_entries [.tup rs.l, posD pre] S = .ok (.ref S.length) (S ++ [.lst ((entL pre 0 rs.toL).map prD)]) := by
  refine okR_eq (okR_call H rfl ?_)
  simp only [F__law_entries]
  simp [posD, Rws.l_eq, smallN (show rs.toL.length ≤ 1000000 by omega), small0]
  refine okR_comp (fun k acc S' => S' = S ∧ k ≤ rs.toL.length ∧ acc = ((entL pre 0 rs.toL).take k).map prD) _ 0 [] _ ⟨rfl, by omega, by simp⟩ (fun _ _ _ _ => rfl) ?_ ?_ ?_
  · rintro k x acc S' hx ⟨rfl, _, rfl⟩
    obtain ⟨hk, rfl⟩ := rngL_get' hx
    obtain ⟨r, hr⟩ : ∃ r, rs.toL[k]? = some r := ⟨_, List.getElem?_eq_getElem hk⟩
    refine ⟨_, rfl, ?_⟩
    have hg := entL_get (pre := pre) rs.toL 0 k
    rw [hr] at hg
    have hb : Nat.ble (pre.length + 1) big = true := Nat.ble_eq_true_of_le (by simp [big]; omega)
    simp [hb, atI_nat, hr]
    rw [List.take_succ, List.getElem?_map, hg]
    simp [prD, posD]
    omega
  · rintro acc S' ⟨rfl, _, hacc⟩
    rw [List.nil_append, Nat.zero_add, rngL_len, List.take_of_length_le (by rw [entL_len]; omega)] at hacc
    subst hacc
    exact ⟨by simp [entL_len, big]; omega, by simp⟩
  · rintro k acc S' ⟨rfl, hk, rfl⟩
    simp [big, entL_len]; omega
theorem lbranch_ok (H : HV T ix) {r : Rw} {pos : List Int} {f : Bool} (hr : r.two ≠ []) (hc : r.cnt ≤ 1000) (hp : pos.length < 1000) : callT T (n + 2) ix.f__law_branch [posD pos, r.d, .bl f] S = .ok (.ref S.length) (S ++ [.lst ((inn pos r f).map prD)]) := by
  rw [callT_def H.branch rfl]
  have hb : Nat.ble (pos.length + 1) big = true := Nat.ble_eq_true_of_le (by simp [big]; omega)
  have e1 := fun (x : Rws) (q : Int) (h : x.toL.length ≤ 1000) => lentries_ok (n := n) (S := S) H.entries (rs := x) (pre := pos ++ [q]) h (by simp; omega)
  simp only [posD, List.map_append, List.map_cons, List.map_nil] at e1
  cases r with
  | iff b x y =>
    have hx := Rws.len_cnt x
    have hy := Rws.len_cnt y
    simp only [Rw.cnt] at hc
    cases f
    · simp [runF, F__law_branch, Rw.d, posD, hb, e1 y 1 (by omega), inn]
    · simp [runF, F__law_branch, Rw.d, posD, hb, e1 x 0 (by omega), inn]
  | ask x y =>
    have hx := Rws.len_cnt x
    have hy := Rws.len_cnt y
    simp only [Rw.cnt] at hc
    cases f
    · simp [runF, F__law_branch, Rw.d, posD, hb, e1 y 1 (by omega), inn]
    · simp [runF, F__law_branch, Rw.d, posD, hb, e1 x 0 (by omega), inn]
  | set b f => exact absurd rfl hr
  | lead p => exact absurd rfl hr
  | refuse => exact absurd rfl hr
theorem getF_at {bits : List (List Nat)} {fl : List Bool} : ∀ {w : List Nat} {k : Nat}, bits.Nodup → bits[k]? = some w → fl.length = bits.length → fl[k]? = some (getF bits fl w) := by
  induction bits generalizing fl with
  | nil => intro w k _ h; simp at h
  | cons b bs ih =>
    intro w k nd h hl
    cases fl with
    | nil => simp at hl
    | cons f fs =>
      obtain ⟨n1, n2⟩ := List.nodup_cons.mp nd
      cases k with
      | zero => simp at h; subst h; simp [getF]
      | succ k =>
        simp at h
        have hne : ¬ b = w := fun z => n1 (z ▸ List.mem_of_getElem? h)
        simp only [List.getElem?_cons_succ, getF, hne, if_false]
        exact ih n2 h (by simpa using hl)
theorem lvalue_ok (H : T.fns[ix.f__law_value]? = some (F__law_value ix)) {bits : List (List Nat)} {fl : List Bool} {w : List Nat} {i : Nat} (nd : bits.Nodup) (hb : bits.length ≤ 3) (hw : w ∈ bits) (hf : fl.length = bits.length) (hi : S[i]? = some (.lst (fl.map .bl))) : callT T (n + 1) ix.f__law_value [.tup (bits.map .str), .ref i, .str w] S = .ok (.bl (getF bits fl w)) S := by
  refine okR_eq (okR_call H rfl ?_)
  simp only [F__law_value]
  simp [smallN (show bits.length ≤ 1000000 by omega), small0]
  obtain ⟨kw, hkw⟩ := List.getElem?_of_mem hw
  have hkl : kw < bits.length := (List.getElem?_eq_some_iff.mp hkw).1
  refine okR_comp (fun k acc S' => S' = S ∧ acc = (if kw < k then [D.bl (getF bits fl w)] else [])) _ 0 [] _ ⟨rfl, by simp⟩ (fun _ _ _ _ => rfl) ?_ ?_ ?_
  · rintro k x acc S' hx ⟨rfl, rfl⟩
    obtain ⟨hk, rfl⟩ := rngL_get' hx
    obtain ⟨b, hbk⟩ : ∃ b, bits[k]? = some b := ⟨_, List.getElem?_eq_getElem hk⟩
    refine ⟨_, rfl, ?_⟩
    by_cases hkk : kw = k
    · subst hkk
      rw [hkw] at hbk
      cases hbk
      simp [atI_nat, hkw, item_lst hi, getF_at nd hkw hf]
    · have hne : ¬ b = w := fun z => by
        subst z
        rw [← hkw] at hbk
        exact hkk ((List.getElem?_inj hk nd).mp hbk).symm
      simp [atI_nat, hbk, hne]
      congr 1
      simp; omega
  · rintro acc S' ⟨rfl, hacc⟩
    rw [List.nil_append, rngL_len, Nat.zero_add] at hacc
    simp [hkl] at hacc
    subst hacc
    exact ⟨by simp [big], by simp⟩
  · rintro k acc S' ⟨rfl, rfl⟩
    split <;> simp [big]
end
end G

set_option linter.all false
set_option maxRecDepth 100000
set_option maxHeartbeats 4000000
set_option autoImplicit false
/-! LD7: the laws' own way through a guard. -/
namespace G
open DL
section
variable {T : Tb} {ix : Lk} {n : Nat} {S : Sto}
structure LI (S : Sto) (en : Bool) (bits names : List (List Nat)) (fl0 : List Bool) (ad : D) (as : List Bool) (p0 : List (List Int × Rw)) (i : Nat) (Γ : Ev) (S' : Sto) (p : List (List Int × Rw)) (fl : List Bool) (dn : List (List Int)) (ch : List (List Nat × Bool)) (pr vr u : Nat) : Prop where
  ga : ∃ o8 o9 o10 : Option D, Γ = [some (.tup (bits.map .str)), some (.ref pr), some (.tup (fl0.map .bl)), some ad, some (.ref vr), some (.int u), some (.ref (S.length + 1)), some (.ref (S.length + 2)), o8, o9, o10, none]
  ap : pr < S.length ∨ S.length + 2 < pr
  av : vr = S.length ∨ S.length + 2 < vr
  pp : S'[pr]? = some (.lst (p.map prD))
  vv : S'[vr]? = some (.lst (fl.map .bl))
  cc : S'[S.length + 1]? = some (.lst (ch.map chD))
  dd : S'[S.length + 2]? = some (.lst (dn.map posD))
  gr : Gr S S'
  fll : fl.length = bits.length
  uu : u ≤ as.length
  po : PdOk en bits names p
  b1 : pcnt p + i ≤ pcnt p0
  b2 : dn.length ≤ i
  b3 : ch.length ≤ i
  en_ : go bits (pcnt p) p fl (as.drop u) dn ch = go bits (pcnt p0) p0 fl0 as [] []
theorem lguard_ok (H : HV T ix) {en : Bool} {bits names : List (List Nat)} {fl as : List Bool} {ad : D} {pr : Nat} {p : List (List Int × Rw)} (nd : bits.Nodup) (hb : bits.length ≤ 3) (hf : fl.length = bits.length) (ha : AnsAt S ad as) (hp : S[pr]? = some (.lst (p.map prD))) (po : PdOk en bits names p) (hc : pcnt p ≤ 11)
    {Q : D → Sto → Prop} (q : ∀ S', Gr S S' → S'[S.length + 1]? = some (.lst ((go bits (pcnt p) p fl as [] []).ch.map chD)) → S'[S.length + 2]? = some (.lst ((go bits (pcnt p) p fl as [] []).dn.map posD)) → Q (.tup [(go bits (pcnt p) p fl as [] []).o.d, .tup ((go bits (pcnt p) p fl as [] []).fl.map .bl), (go bits (pcnt p) p fl as [] []).o.w, .ref (S.length + 1), .ref (S.length + 2)]) S') :
    okR (callT T (n + 3) ix.f__law_guard [.tup (bits.map .str), .ref pr, .tup (fl.map .bl), ad] S) Q := by
  refine okR_call H.guard rfl ?_
  simp only [F__law_guard_v2]
  have hpl : pr < S.length := (List.getElem?_eq_some_iff.mp hp).1
  have s12 : smallI 12 = true := by simp [smallI]
  simp [small0, s12]
  refine okS_for0 (fun i Γ S' => ∃ (p' : List (List Int × Rw)) (fl' : List Bool) (dn : List (List Int)) (ch : List (List Nat × Bool)) (pr' vr u : Nat), LI S en bits names fl ad as p i Γ S' p' fl' dn ch pr' vr u) ?_ (fun _ _ _ _ => rfl) ?_ ?_
  · exact ⟨p, fl, [], [], pr, S.length, 0, ⟨none, none, none, rfl⟩, .inl hpl, .inl rfl, at_old hp, by simp, by simp, by simp, ⟨_, rfl⟩, hf, by omega, po, by omega, by simp, by simp, by simp⟩
  · rintro j x Γ S1 hx ⟨p', fl', dn, ch, pr', vr, u, W⟩
    obtain ⟨hj, rfl⟩ := rngL_get' hx
    obtain ⟨o8, o9, o10, rfl⟩ := W.ga
    have hpp := W.pp
    have hvv := W.vv
    refine ⟨_, rfl, ?_⟩
    have hen := W.en_
    cases p' with
    | nil =>
      simp only [pcnt, go] at hen
      simp [bf_len_ref (its_lst hpp), bf_tuple_ref (its_lst hvv)]
      have hz := q S1 W.gr (by rw [← hen]; exact W.cc) (by rw [← hen]; exact W.dd)
      rw [← hen] at hz
      exact hz
    | cons q0 p' =>
      obtain ⟨pos, r⟩ := q0
      have hcut : ∀ x : D, cutL (x :: p'.map prD) (some 1) none = p'.map prD := fun x => by rw [cut_lo (by decide)]; rfl
      have hdd1 : (S1 ++ [O.lst (p'.map prD)])[S.length + 2]? = some (.lst (dn.map posD)) := at_old W.dd
      have hb2 := W.b2
      have hb3 := W.b3
      have hb1 := W.b1
      have hcp := cnt_pos r
      have hav := W.av
      simp only [pcnt] at hb1 hen
      have hlen0 : ¬ ((p'.length : Int) + 1 = 0) := by omega
      simp [bf_len_ref (its_lst hpp), hlen0, item_lst hpp, prD, slc_ref (its_lst hpp), hcut, rcv_append hdd1, append_ok (y := posD pos) hdd1 (by simp [big]; omega)]
      have hlen : S.length + 2 < S1.length := (List.getElem?_eq_some_iff.mp W.dd).1
      have hP2 : ((S1 ++ [O.lst (p'.map prD)]).set (S.length + 2) (.lst (dn.map posD ++ [posD pos])))[S1.length]? = some (.lst (p'.map prD)) := by rw [at_set_ne (by omega)]; exact at_end
      have hV2 : ((S1 ++ [O.lst (p'.map prD)]).set (S.length + 2) (.lst (dn.map posD ++ [posD pos])))[vr]? = some (.lst (fl'.map .bl)) := by rw [at_set_ne (by omega)]; exact at_old W.vv
      have hD2 : ((S1 ++ [O.lst (p'.map prD)]).set (S.length + 2) (.lst (dn.map posD ++ [posD pos])))[S.length + 2]? = some (.lst ((dn ++ [pos]).map posD)) := by rw [at_set hdd1]; simp
      have hC2 : ((S1 ++ [O.lst (p'.map prD)]).set (S.length + 2) (.lst (dn.map posD ++ [posD pos])))[S.length + 1]? = some (.lst (ch.map chD)) := by rw [at_set_ne (by omega)]; exact at_old W.cc
      have hG2 : Gr S ((S1 ++ [O.lst (p'.map prD)]).set (S.length + 2) (.lst (dn.map posD ++ [posD pos]))) := W.gr.push.set (by omega)
      have hl2 : ((S1 ++ [O.lst (p'.map prD)]).set (S.length + 2) (.lst (dn.map posD ++ [posD pos]))).length = S1.length + 1 := by simp
      generalize ((S1 ++ [O.lst (p'.map prD)]).set (S.length + 2) (.lst (dn.map posD ++ [posD pos]))) = S2 at hP2 hV2 hD2 hC2 hG2 hl2 ⊢
      have hpo' : PdOk en bits names p' := fun q hq => W.po q (by simp [hq])
      obtain ⟨k, hrk, hpk⟩ := W.po (pos, r) (by simp)
      simp only at hrk hpk
      have hfll := W.fll
      have huu := W.uu
      cases r with
      | set b f =>
        simp only [Rw.ok] at hrk
        have hgo : go bits (pcnt p') p' (setF bits fl' b f) (as.drop u) (dn ++ [pos]) (ch ++ [(b, f)]) = go bits (pcnt p) p fl as [] [] := by
          rw [← hen]; simp [Rw.cnt, Nat.add_comm 1, go]
        simp [Rw.d, smallN (show bits.length ≤ 1000000 by omega), small0]
        have hsl := setF_len (w := b) (v := f) hfll
        refine okR_comp (fun k acc S' => S' = S2 ∧ k ≤ bits.length ∧ acc = ((setF bits fl' b f).take k).map D.bl) _ 0 [] _ ⟨rfl, by omega, by simp⟩ (fun _ _ _ _ => rfl) ?_ ?_ ?_
        · rintro k x acc S' hx ⟨rfl, _, rfl⟩
          obtain ⟨hk, rfl⟩ := rngL_get' hx
          refine ⟨_, rfl, ?_⟩
          have hbk : bits[k]? = some bits[k] := List.getElem?_eq_getElem hk
          have hfk : fl'[k]? = some fl'[k] := List.getElem?_eq_getElem (by omega)
          have hsk : (setF bits fl' b f)[k]? = some (if bits[k] = b then f else fl'[k]) := by
            unfold setF
            rw [List.getElem?_zipWith, hbk, hfk]
          have hT : ((setF bits fl' b f).take (0 + k + 1)).map D.bl = ((setF bits fl' b f).take (0 + k)).map D.bl ++ [.bl (if bits[k] = b then f else fl'[k])] := by
            rw [Nat.zero_add, List.take_succ, hsk]; simp
          rw [hT]
          by_cases e : bits[k] = b
          · simp [atI_nat, hbk, e]; omega
          · simp [atI_nat, hbk, hfk, e, item_lst hV2]; omega
        · rintro acc S' ⟨rfl, _, hacc⟩
          rw [List.nil_append, Nat.zero_add, rngL_len, List.take_of_length_le (by rw [hsl]; simp)] at hacc
          subst hacc
          refine ⟨by simp [hsl, big]; omega, ?_⟩
          have hC3 : (S' ++ [O.lst ((setF bits fl' b f).map D.bl)])[S.length + 1]? = some (.lst (ch.map chD)) := at_old hC2
          simp [rcv_append hC3, append_ok hC3 (y := .tup [.str [98, 105, 116], .str b, .bl f]) (by simp [big]; omega)]
          refine ⟨p', setF bits fl' b f, dn ++ [pos], ch ++ [(b, f)], S1.length, S'.length, u, ⟨_, _, _, rfl⟩, .inr (by omega), .inr (by omega), ?_, ?_, ?_, ?_, hG2.push.set (by omega), hsl, huu, hpo', by omega, by simp; omega, by simp; omega, hgo⟩
          · rw [at_set_ne (by omega)]; exact at_old hP2
          · rw [at_set_ne (by omega)]; exact at_end
          · rw [at_set hC3]; simp [chD]
          · rw [at_set_ne (by omega)]; exact at_old hD2
        · rintro k acc S' ⟨rfl, hk, rfl⟩
          simp [big, hsl]; omega
      | iff b x y =>
        simp only [Rw.ok] at hrk
        have hgo : go bits (pcnt (inn pos (.iff b x y) (getF bits fl' b) ++ p')) (inn pos (.iff b x y) (getF bits fl' b) ++ p') fl' (as.drop u) (dn ++ [pos]) ch = go bits (pcnt p) p fl as [] [] := by
          rw [← hen]
          have hpi := pcnt_inn (pos := pos) (r := .iff b x y) (f := getF bits fl' b)
          have := go_more (bits := bits) _ (x.cnt + y.cnt + pcnt p') (inn pos (.iff b x y) (getF bits fl' b) ++ p') fl' (as.drop u) (dn ++ [pos]) ch (Nat.le_refl _) (by rw [pcnt_app]; simp only [Rw.cnt] at hpi; omega)
          rw [this, show (Rw.iff b x y).cnt + pcnt p' = x.cnt + y.cnt + pcnt p' + 1 by simp only [Rw.cnt]; omega]
          simp only [go]
        have hin := lbranch_ok (n := n) (S := S2) H (r := .iff b x y) (pos := pos) (f := getF bits fl' b) (by simp [Rw.two]) (by omega) (by omega)
        have hpi := pcnt_inn (pos := pos) (r := .iff b x y) (f := getF bits fl' b)
        have hlp := len_pcnt (inn pos (.iff b x y) (getF bits fl' b) ++ p')
        rw [pcnt_app] at hlp
        have hpin := PdOk.inn (r := .iff b x y) (names := names) (en := en) (by simp only [Rw.ok]; exact hrk) hpk (getF bits fl' b)
        generalize hI : inn pos (.iff b x y) (getF bits fl' b) = I at hgo hin hpi hlp hpin
        simp [Rw.d] at hin
        have hadd := add_lst (S := S2 ++ [O.lst (I.map prD)]) (i := S2.length) (b := .d (.ref S1.length)) (ys := p'.map prD) at_end (lsts_lst (at_old hP2)) (by simp at hlp ⊢; omega)
        simp [Rw.d, lvalue_ok (n := n + 1) H.value nd hb hrk.2.1 hfll hV2, hin]
        simp at hadd
        simp [hadd]
        refine ⟨I ++ p', fl', dn ++ [pos], ch, S2.length + 1, vr, u, ⟨_, _, _, rfl⟩, .inr (by omega), hav, ?_, ?_, ?_, ?_, hG2.push, hfll, huu, hpin.app hpo', by rw [pcnt_app]; omega, by simp; omega, by omega, hgo⟩
        · simp
        · exact at_old hV2
        · exact at_old hC2
        · exact at_old hD2
      | ask x y =>
        by_cases hul : u < as.length
        · obtain ⟨a, hau⟩ : ∃ a, as[u]? = some a := ⟨_, List.getElem?_eq_getElem hul⟩
          have hdrop : as.drop u = a :: as.drop (u + 1) := by
            rw [List.drop_eq_getElem_cons hul]
            rw [List.getElem?_eq_getElem hul] at hau
            rw [Option.some.inj hau]
          simp only [Rw.ok] at hrk
          have hgo : go bits (pcnt (inn pos (.ask x y) a ++ p')) (inn pos (.ask x y) a ++ p') fl' (as.drop (u + 1)) (dn ++ [pos]) ch = go bits (pcnt p) p fl as [] [] := by
            rw [← hen]
            have hpi := pcnt_inn (pos := pos) (r := .ask x y) (f := a)
            have := go_more (bits := bits) _ (x.cnt + y.cnt + pcnt p') (inn pos (.ask x y) a ++ p') fl' (as.drop (u + 1)) (dn ++ [pos]) ch (Nat.le_refl _) (by rw [pcnt_app]; simp only [Rw.cnt] at hpi; omega)
            rw [this, show (Rw.ask x y).cnt + pcnt p' = x.cnt + y.cnt + pcnt p' + 1 by simp only [Rw.cnt]; omega]
            rw [hdrop]
            simp only [go]
          have hin := lbranch_ok (n := n) (S := S2) H (r := .ask x y) (pos := pos) (f := a) (by simp [Rw.two]) (by omega) (by omega)
          have hpi := pcnt_inn (pos := pos) (r := .ask x y) (f := a)
          have hlp := len_pcnt (inn pos (.ask x y) a ++ p')
          rw [pcnt_app] at hlp
          have hpin := PdOk.inn (r := .ask x y) (names := names) (en := en) (by simp only [Rw.ok]; exact hrk) hpk a
          generalize hI : inn pos (.ask x y) a = I at hgo hin hpi hlp hpin
          simp [Rw.d] at hin
          have hadd := add_lst (S := S2 ++ [O.lst (I.map prD)]) (i := S2.length) (b := .d (.ref S1.length)) (ys := p'.map prD) at_end (lsts_lst (at_old hP2)) (by simp at hlp ⊢; omega)
          have hne : ¬ u = as.length := by omega
          have hneI : ¬ ((u : Int) = as.length) := by omega
          simp [Rw.d, ans_len (ha.gr hG2), hne, hneI, ans_item (ha.gr hG2) hau, hin]
          simp at hadd
          simp [hadd]
          refine ⟨I ++ p', fl', dn ++ [pos], ch, S2.length + 1, vr, u + 1, ⟨_, _, _, rfl⟩, .inr (by omega), hav, ?_, ?_, ?_, ?_, hG2.push, hfll, by omega, hpin.app hpo', by rw [pcnt_app]; omega, by simp; omega, by omega, hgo⟩
          · simp
          · exact at_old hV2
          · exact at_old hC2
          · exact at_old hD2
        · have hdrop : as.drop u = [] := List.drop_eq_nil_of_le (by omega)
          rw [hdrop, show (Rw.ask x y).cnt + pcnt p' = x.cnt + y.cnt + pcnt p' + 1 by simp only [Rw.cnt]; omega] at hen
          simp only [go] at hen
          have hue : u = as.length := by omega
          have hz := q S2 hG2 (by rw [← hen]; exact hC2) (by rw [← hen]; exact hD2)
          rw [← hen] at hz
          simp [Rw.d, ans_len (ha.gr hG2), hue, bf_tuple_ref (its_lst hV2)]
          exact hz
      | lead w =>
        rw [show (Rw.lead w).cnt + pcnt p' = pcnt p' + 1 by simp only [Rw.cnt]; omega] at hen
        simp only [go] at hen
        have hz := q S2 hG2 (by rw [← hen]; exact hC2) (by rw [← hen]; exact hD2)
        rw [← hen] at hz
        simp [Rw.d, bf_tuple_ref (its_lst hV2)]
        exact hz
      | refuse =>
        rw [show (Rw.refuse).cnt + pcnt p' = pcnt p' + 1 by simp only [Rw.cnt]; omega] at hen
        simp only [go] at hen
        have hz := q S2 hG2 (by rw [← hen]; exact hC2) (by rw [← hen]; exact hD2)
        rw [← hen] at hz
        simp [Rw.d, bf_tuple_ref (its_lst hV2)]
        exact hz
  · rintro Γ S1 ⟨p', fl', dn, ch, pr', vr, u, W⟩
    have := W.b1
    rw [rngL_len] at this
    omega
end
end G

set_option linter.all false
set_option maxRecDepth 100000
set_option maxHeartbeats 4000000
set_option autoImplicit false
/-! LD8: plain facts of a guard done. -/
namespace G
open DL
def Out.isW : Out → Bool
  | .wt _ => true
  | _ => false
/-- answers that are left over -/
theorem go_left {bits : List (List Nat)} : ∀ (n : Nat) (p : List (List Int × Rw)) (fl as more : List Bool) (dn : List (List Int)) (ch : List (List Nat × Bool)), (go bits n p fl as dn ch).o.isW = false → go bits n p fl (as ++ more) dn ch = go bits n p fl as dn ch
  | n, [], fl, as, more, dn, ch, _ => by simp [go]
  | 0, q :: p, fl, as, more, dn, ch, _ => by simp [go]
  | n + 1, (pos, r) :: p, fl, as, more, dn, ch, h => by
    cases r with
    | set b f => simp only [go] at h ⊢; exact go_left n _ _ _ _ _ _ h
    | iff b x y => simp only [go] at h ⊢; exact go_left n _ _ _ _ _ _ h
    | ask x y =>
      cases as with
      | nil => simp only [go] at h; cases h
      | cons a as => simp only [go, List.cons_append] at h ⊢; exact go_left n _ _ _ _ _ _ h
    | lead q => simp only [go]
    | refuse => simp only [go]
theorem go_fine {en : Bool} {bits names : List (List Nat)} : ∀ (n : Nat) (p : List (List Int × Rw)) (fl as : List Bool) (dn : List (List Int)) (ch : List (List Nat × Bool)), PdOk en bits names p → fl.length = bits.length → (go bits n p fl as dn ch).fl.length = bits.length ∧ (∀ pos, (go bits n p fl as dn ch).o = .wt pos → pos.length ≤ 5)
  | n, [], fl, as, dn, ch, _, h => by simp [go, h]
  | 0, q :: p, fl, as, dn, ch, _, h => by simp [go, h]
  | n + 1, (pos, r) :: p, fl, as, dn, ch, hp, h => by
    obtain ⟨k, hk, hk2⟩ := hp (pos, r) (by simp)
    simp only at hk hk2
    have hp' : PdOk en bits names p := fun q hq => hp q (by simp [hq])
    cases r with
    | set b f => simp only [go]; exact go_fine n _ _ _ _ _ hp' (setF_len h)
    | iff b x y => simp only [go]; exact go_fine n _ _ _ _ _ ((PdOk.inn hk hk2 _).app hp') h
    | ask x y =>
      cases as with
      | nil =>
        simp only [go, h, Out.wt.injEq, true_and]
        rintro pos rfl
        simp only [Rw.ok] at hk
        omega
      | cons a as => simp only [go]; exact go_fine n _ _ _ _ _ ((PdOk.inn hk hk2 _).app hp') h
    | lead q => simp [go, h]
    | refuse => simp [go, h]
theorem plain_bls {n : Nat} {fl : List Bool} (h : fl.length ≤ 1000) : plainD (n + 1) (.tup (fl.map .bl)) := by
  simp only [plainD]
  refine ⟨fun x hx => ?_, by simpa using h⟩
  obtain ⟨b, _, rfl⟩ := List.mem_map.mp hx
  cases n <;> simp [plainD]
theorem plain_pos {n : Nat} {p : List Int} (h : p.length ≤ 1000) : plainD (n + 1) (posD p) := by
  simp only [plainD, posD]
  refine ⟨fun x hx => ?_, by simpa using h⟩
  obtain ⟨b, _, rfl⟩ := List.mem_map.mp hx
  cases n <;> simp [plainD]
theorem plain_res {n : Nat} {w : WR} (h1 : w.fl.length ≤ 1000) (h2 : ∀ pos, w.o = .wt pos → pos.length ≤ 1000) : plainD (n + 3) (resD w) := by
  simp only [resD]
  rw [show n + 3 = (n + 2) + 1 from rfl]
  simp only [plainD]
  refine ⟨fun x hx => ?_, by simp⟩
  simp at hx
  rcases hx with rfl | rfl | rfl
  · cases w.o <;> simp [Out.d, plainD]
  · exact plain_bls h1
  · cases h : w.o with
    | wt pos => exact plain_pos (h2 pos h)
    | _ => simp [Out.w, plainD]
theorem runR_fine {s : Si} (ok : SiOk s) {p : Pge} (hp : p ∈ s.pages) {en : Bool} {fl as : List Bool} (hf : fl.length = s.bits.length) : (runR s p en fl as).fl.length = s.bits.length ∧ (∀ pos, (runR s p en fl as).o = .wt pos → pos.length ≤ 5) :=
  go_fine (en := en) (names := s.names) _ _ _ _ _ _ (PdOk.ent (Pge.rows_ok (ok.pg p hp) en).1 rfl 0) hf
theorem plain_run {n : Nat} {s : Si} (ok : SiOk s) {p : Pge} (hp : p ∈ s.pages) {en : Bool} {fl as : List Bool} (hf : fl.length = s.bits.length) : plainD (n + 3) (resD (runR s p en fl as)) := by
  obtain ⟨h1, h2⟩ := runR_fine (as := as) ok hp (en := en) hf
  exact plain_res (by have := ok.bl; omega) fun pos h => by have := h2 pos h; omega
end G

set_option linter.all false
set_option maxRecDepth 100000
set_option maxHeartbeats 4000000
set_option autoImplicit false
/-! LE1: rows at positions, what is to be done behind them. -/
namespace G
open DL
def At : Rws → List Int → Rw → Prop
  | _, [], _ => False
  | rs, [i], r => ∃ n : Nat, i = n ∧ rs.toL[n]? = some r
  | rs, i :: b :: rest, r => ∃ (n m : Nat) (r' : Rw) (x : Rws), i = n ∧ b = m ∧ rs.toL[n]? = some r' ∧ r'.two[m]? = some x ∧ At x rest r
def sub (rs : Rws) (i b : Int) : Rws := match rs.toL[i.toNat]? with
  | some r' => (r'.two[b.toNat]?).getD .nil
  | none => .nil
def cont (pre : List Int) : Rws → List Int → List (List Int × Rw)
  | _, [] => []
  | rs, [i] => (entL pre 0 rs.toL).drop (i.toNat + 1)
  | rs, i :: b :: rest => cont (pre ++ [i, b]) (sub rs i b) rest ++ (entL pre 0 rs.toL).drop (i.toNat + 1)
theorem sub_at {rs x : Rws} {r' : Rw} {n m : Nat} (h1 : rs.toL[n]? = some r') (h2 : r'.two[m]? = some x) : sub rs n m = x := by
  simp [sub, h1, h2]
theorem entL_drop {pre : List Int} : ∀ (l : List Rw) (i j : Nat), (entL pre i l).drop j = entL pre (i + j) (l.drop j)
  | l, i, 0 => by simp
  | [], i, j + 1 => by simp [entL]
  | r :: l, i, j + 1 => by
    rw [entL, List.drop_succ_cons, List.drop_succ_cons, entL_drop l (i + 1) j]
    rw [show i + 1 + j = i + (j + 1) by omega]
theorem entL_cons {pre : List Int} {l : List Rw} {n : Nat} {q : List Int × Rw} {t : List (List Int × Rw)} (h : (entL pre 0 l).drop n = q :: t) : q.1 = pre ++ [(n : Int)] ∧ l[n]? = some q.2 ∧ t = (entL pre 0 l).drop (n + 1) := by
  have h0 : ((entL pre 0 l).drop n)[0]? = some q := by rw [h]; rfl
  rw [List.getElem?_drop, entL_get] at h0
  simp only [Nat.add_zero, Nat.zero_add] at h0
  cases hl : l[n]? with
  | none => rw [hl] at h0; cases h0
  | some r =>
    rw [hl] at h0
    simp at h0
    subst h0
    refine ⟨rfl, rfl, ?_⟩
    have : (entL pre 0 l).drop (n + 1) = ((entL pre 0 l).drop n).drop 1 := by rw [List.drop_drop]
    rw [this, h]; rfl
/-- the first of what is to be done behind a row is a row, and the others are behind it -/
theorem cont_cons : ∀ {rest : List Int} {pre : List Int} {rs : Rws} {r : Rw} {q : List Int × Rw} {t : List (List Int × Rw)}, At rs rest r → cont pre rs rest = q :: t → ∃ rest', q.1 = pre ++ rest' ∧ At rs rest' q.2 ∧ t = cont pre rs rest'
  | [], pre, rs, r, q, t, h, _ => by simp [At] at h
  | [i], pre, rs, r, q, t, h, hc => by
    obtain ⟨n, rfl, hn⟩ := h
    simp only [cont, Int.toNat_natCast] at hc
    obtain ⟨h1, h2, h3⟩ := entL_cons hc
    refine ⟨[((n + 1 : Nat) : Int)], h1, ⟨n + 1, rfl, h2⟩, ?_⟩
    simp only [cont, Int.toNat_natCast]
    exact h3
  | i :: b :: rest, pre, rs, r, q, t, h, hc => by
    obtain ⟨n, m, r', x, rfl, rfl, h1, h2, h3⟩ := h
    simp only [cont, sub_at h1 h2, Int.toNat_natCast] at hc
    cases hx : cont (pre ++ [(n : Int), (m : Int)]) x rest with
    | nil =>
      rw [hx, List.nil_append] at hc
      obtain ⟨g1, g2, g3⟩ := entL_cons hc
      refine ⟨[((n + 1 : Nat) : Int)], g1, ⟨n + 1, rfl, g2⟩, ?_⟩
      simp only [cont, Int.toNat_natCast]
      exact g3
    | cons q' t' =>
      rw [hx, List.cons_append] at hc
      obtain ⟨rfl, rfl⟩ := List.cons.inj hc
      obtain ⟨rest', g1, g2, g3⟩ := cont_cons h3 hx
      have hr : rest' ≠ [] := fun z => by rw [z] at g2; simp [At] at g2
      refine ⟨(n : Int) :: (m : Int) :: rest', by rw [g1]; simp, ⟨n, m, r', x, rfl, rfl, h1, h2, g2⟩, ?_⟩
      simp only [cont, sub_at h1 h2, Int.toNat_natCast]
      rw [g3]
/-- behind the first row inside -/
theorem At.snoc {m k : Nat} {y : Rws} : ∀ {rest : List Int} {rs : Rws} {r r2 : Rw}, At rs rest r → r.two[m]? = some y → y.toL[k]? = some r2 → At rs (rest ++ [(m : Int), (k : Int)]) r2
  | [], rs, r, r2, h, _, _ => by simp [At] at h
  | [i], rs, r, r2, h, h2, h3 => by
    obtain ⟨n, rfl, hn⟩ := h
    exact ⟨n, m, r, y, rfl, rfl, hn, h2, k, rfl, h3⟩
  | i :: b :: rest, rs, r, r2, h, h2, h3 => by
    obtain ⟨n, m', r', x, rfl, rfl, g1, g2, g3⟩ := h
    have hne : rest ≠ [] := fun z => by rw [z] at g3; simp [At] at g3
    exact ⟨n, m', r', x, rfl, rfl, g1, g2, At.snoc g3 h2 h3⟩
theorem cont_snoc {m k : Nat} {y : Rws} : ∀ {rest : List Int} {pre : List Int} {rs : Rws} {r : Rw}, At rs rest r → r.two[m]? = some y → cont pre rs (rest ++ [(m : Int), (k : Int)]) = (entL (pre ++ rest ++ [(m : Int)]) 0 y.toL).drop (k + 1) ++ cont pre rs rest
  | [], pre, rs, r, h, _ => by simp [At] at h
  | [i], pre, rs, r, h, h2 => by
    obtain ⟨n, rfl, hn⟩ := h
    simp only [List.cons_append, List.nil_append, cont, sub_at hn h2, Int.toNat_natCast, List.append_assoc]
  | i :: b :: rest, pre, rs, r, h, h2 => by
    obtain ⟨n, m', r', x, rfl, rfl, g1, g2, g3⟩ := h
    have ih := cont_snoc (k := k) (pre := pre ++ [(n : Int), (m' : Int)]) g3 h2
    simp only [List.cons_append, cont, sub_at g1 g2, Int.toNat_natCast]
    rw [ih]
    simp
/-- what is to be done stands in a row -/
def Lin (rs : Rws) (p : List (List Int × Rw)) : Prop := ∀ q t, p = q :: t → At rs q.1 q.2 ∧ t = cont [] rs q.1
theorem lin_cont {rs : Rws} {pos : List Int} {r : Rw} (h : At rs pos r) : Lin rs (cont [] rs pos) := fun q t e => by
  obtain ⟨rest', h1, h2, h3⟩ := cont_cons h e
  rw [List.nil_append] at h1
  rw [h1]
  exact ⟨h2, h3⟩
theorem lin_start (rs : Rws) : Lin rs (entL [] 0 rs.toL) := fun q t e => by
  have e' : (entL [] 0 rs.toL).drop 0 = q :: t := by simpa using e
  obtain ⟨h1, h2, h3⟩ := entL_cons e'
  rw [h1]
  refine ⟨⟨0, rfl, h2⟩, ?_⟩
  rw [h3]; rfl
theorem inn_eq {r : Rw} {pos : List Int} {f : Bool} (h : r.two ≠ []) : ∃ y, r.two[if f then 0 else 1]? = some y ∧ inn pos r f = entL (pos ++ [((if f then 0 else 1 : Nat) : Int)]) 0 y.toL := by
  cases r with
  | iff b x y => cases f <;> simp [Rw.two, inn]
  | ask x y => cases f <;> simp [Rw.two, inn]
  | set b f => exact absurd rfl h
  | lead p => exact absurd rfl h
  | refuse => exact absurd rfl h
theorem lin_inn {rs : Rws} {pos : List Int} {r : Rw} (h : At rs pos r) (h2 : r.two ≠ []) (f : Bool) : Lin rs (inn pos r f ++ cont [] rs pos) := fun q t e => by
  obtain ⟨y, h3, h4⟩ := inn_eq (pos := pos) (f := f) h2
  rw [h4] at e
  cases hy : entL (pos ++ [((if f then 0 else 1 : Nat) : Int)]) 0 y.toL with
  | nil =>
    rw [hy, List.nil_append] at e
    exact lin_cont h q t e
  | cons q' t' =>
    rw [hy, List.cons_append] at e
    obtain ⟨rfl, rfl⟩ := List.cons.inj e
    have hy' : (entL (pos ++ [((if f then 0 else 1 : Nat) : Int)]) 0 y.toL).drop 0 = q' :: t' := by simpa using hy
    obtain ⟨g1, g2, g3⟩ := entL_cons hy'
    have e1 : q'.1 = pos ++ [((if f then 0 else 1 : Nat) : Int), ((0 : Nat) : Int)] := by rw [g1]; simp
    rw [e1]
    refine ⟨At.snoc h h3 g2, ?_⟩
    rw [cont_snoc h h3, g3]
    simp
/-- a guard cut in two -/
theorem go_two {bits : List (List Nat)} {rs : Rws} : ∀ (n : Nat) (p : List (List Int × Rw)) (fl as : List Bool) (dn : List (List Int)) (ch : List (List Nat × Bool)) (pos : List Int), Lin rs p → pcnt p ≤ n → (go bits n p fl as dn ch).o = .wt pos →
    ∃ x y, At rs pos (.ask x y) ∧ ∀ (a : Bool) (more : List Bool), ∃ m dn2 ch2, pcnt (inn pos (.ask x y) a ++ cont [] rs pos) ≤ m ∧ go bits n p fl (as ++ a :: more) dn ch = go bits m (inn pos (.ask x y) a ++ cont [] rs pos) (go bits n p fl as dn ch).fl more dn2 ch2
  | n, [], fl, as, dn, ch, pos, _, _, h => by simp [go] at h
  | 0, q :: p, fl, as, dn, ch, pos, _, hn, h => by simp [go] at h
  | n + 1, (q, r) :: p, fl, as, dn, ch, pos, hl, hn, h => by
    obtain ⟨hat, hp⟩ := hl _ _ rfl
    simp only at hat hp
    subst hp
    simp only [pcnt] at hn
    have hin := fun f => pcnt_inn (pos := q) (r := r) (f := f)
    have hcr := cnt_pos r
    cases r with
    | set b f =>
      simp only [go] at h ⊢
      exact go_two n _ _ _ _ _ pos (lin_cont hat) (by omega) h
    | iff b x y =>
      simp only [go] at h ⊢
      exact go_two n _ _ _ _ _ pos (lin_inn hat (by simp [Rw.two]) _) (by rw [pcnt_app]; have := hin (getF bits fl b); omega) h
    | ask x y =>
      cases as with
      | nil =>
        simp only [go, Out.wt.injEq] at h
        subst h
        refine ⟨x, y, hat, fun a more => ⟨n, dn ++ [q], ch, by rw [pcnt_app]; have := hin a; omega, ?_⟩⟩
        simp only [go, List.nil_append]
      | cons a as =>
        simp only [go, List.cons_append] at h ⊢
        exact go_two n _ _ _ _ _ pos (lin_inn hat (by simp [Rw.two]) _) (by rw [pcnt_app]; have := hin a; omega) h
    | lead w => simp [go] at h
    | refuse => simp [go] at h
end G

set_option linter.all false
set_option maxRecDepth 100000
set_option maxHeartbeats 4000000
set_option autoImplicit false
/-! LE2: positions in site order. -/
namespace G
open DL
theorem two_inn {r : Rw} {pos : List Int} {m : Nat} {x : Rws} (h : r.two[m]? = some x) : ∀ q ∈ x.ord (pos ++ [(m : Int)]) 0, q ∈ r.inn pos := by
  intro q hq
  cases r with
  | iff b y z =>
    match m, h with
    | 0, h => simp [Rw.two] at h; subst h; simp [Rw.inn]; left; simpa using hq
    | 1, h => simp [Rw.two] at h; subst h; simp [Rw.inn]; right; simpa using hq
    | m + 2, h => simp [Rw.two] at h
  | ask y z =>
    match m, h with
    | 0, h => simp [Rw.two] at h; subst h; simp [Rw.inn]; left; simpa using hq
    | 1, h => simp [Rw.two] at h; subst h; simp [Rw.inn]; right; simpa using hq
    | m + 2, h => simp [Rw.two] at h
  | set _ _ => simp [Rw.two] at h
  | lead _ => simp [Rw.two] at h
  | refuse => simp [Rw.two] at h
theorem ord_mem {pre : List Int} : ∀ {rs : Rws} {i j : Nat} {r : Rw}, rs.toL[j]? = some r → (pre ++ [((i + j : Nat) : Int)], r) ∈ rs.ord pre i ∧ ∀ q ∈ r.inn (pre ++ [((i + j : Nat) : Int)]), q ∈ rs.ord pre i
  | .nil, i, j, r, h => by simp [Rws.toL] at h
  | .cons r' rs, i, 0, r, h => by
    simp [Rws.toL] at h; subst h
    simp only [Nat.add_zero, Rws.ord]
    exact ⟨by simp, fun q hq => by simp [hq]⟩
  | .cons r' rs, i, j + 1, r, h => by
    simp only [Rws.toL, List.getElem?_cons_succ] at h
    obtain ⟨h1, h2⟩ := ord_mem (pre := pre) (i := i + 1) h
    rw [show i + 1 + j = i + (j + 1) by omega] at h1 h2
    simp only [Rws.ord]
    exact ⟨List.mem_cons_of_mem _ (List.mem_append_right _ h1), fun q hq => List.mem_cons_of_mem _ (List.mem_append_right _ (h2 q hq))⟩
theorem at_ord : ∀ {rest : List Int} {pre : List Int} {rs : Rws} {r : Rw}, At rs rest r → (pre ++ rest, r) ∈ rs.ord pre 0
  | [], pre, rs, r, h => by simp [At] at h
  | [i], pre, rs, r, h => by
    obtain ⟨n, rfl, hn⟩ := h
    have := (ord_mem (pre := pre) (i := 0) hn).1
    simpa using this
  | i :: b :: rest, pre, rs, r, h => by
    obtain ⟨n, m, r', x, rfl, rfl, h1, h2, h3⟩ := h
    have hm := (ord_mem (pre := pre) (i := 0) h1).2
    refine hm _ (two_inn h2 _ ?_)
    have := at_ord (pre := pre ++ [((0 + n : Nat) : Int)] ++ [(m : Int)]) h3
    simpa using this
mutual
theorem ord_at : ∀ (rs : Rws) (pre : List Int) (i : Nat) (rs0 : Rws), rs0.toL.drop i = rs.toL → ∀ q ∈ rs.ord pre i, ∃ rest, q.1 = pre ++ rest ∧ At rs0 rest q.2
  | .nil, pre, i, rs0, _, q, hq => by simp [Rws.ord] at hq
  | .cons r rs, pre, i, rs0, h, q, hq => by
    simp only [Rws.toL] at h
    have hi : rs0.toL[i]? = some r := by
      have : (rs0.toL.drop i)[0]? = some r := by rw [h]; rfl
      rwa [List.getElem?_drop, Nat.add_zero] at this
    have hd : rs0.toL.drop (i + 1) = rs.toL := by
      have : rs0.toL.drop (i + 1) = (rs0.toL.drop i).drop 1 := by rw [List.drop_drop]
      rw [this, h]; rfl
    simp only [Rws.ord, List.mem_cons, List.mem_append] at hq
    rcases hq with rfl | hq | hq
    · exact ⟨[(i : Int)], rfl, i, rfl, hi⟩
    · obtain ⟨m, x, rest, h1, h2, h3⟩ := inn_at r _ q hq
      have hne : rest ≠ [] := fun z => by rw [z] at h3; simp [At] at h3
      exact ⟨(i : Int) :: (m : Int) :: rest, by rw [h2]; simp, i, m, r, x, rfl, rfl, hi, h1, h3⟩
    · exact ord_at rs pre (i + 1) rs0 hd q hq
theorem inn_at : ∀ (r : Rw) (pos : List Int) (q : List Int × Rw), q ∈ r.inn pos → ∃ (m : Nat) (x : Rws) (rest : List Int), r.two[m]? = some x ∧ q.1 = pos ++ [(m : Int)] ++ rest ∧ At x rest q.2
  | .iff b x y, pos, q, hq => by
    simp only [Rw.inn, List.mem_append] at hq
    rcases hq with hq | hq
    · obtain ⟨rest, h1, h2⟩ := ord_at x (pos ++ [0]) 0 x (by simp) q hq
      exact ⟨0, x, rest, rfl, h1, h2⟩
    · obtain ⟨rest, h1, h2⟩ := ord_at y (pos ++ [1]) 0 y (by simp) q hq
      exact ⟨1, y, rest, rfl, h1, h2⟩
  | .ask x y, pos, q, hq => by
    simp only [Rw.inn, List.mem_append] at hq
    rcases hq with hq | hq
    · obtain ⟨rest, h1, h2⟩ := ord_at x (pos ++ [0]) 0 x (by simp) q hq
      exact ⟨0, x, rest, rfl, h1, h2⟩
    · obtain ⟨rest, h1, h2⟩ := ord_at y (pos ++ [1]) 0 y (by simp) q hq
      exact ⟨1, y, rest, rfl, h1, h2⟩
  | .set _ _, pos, q, hq => by simp [Rw.inn] at hq
  | .lead _, pos, q, hq => by simp [Rw.inn] at hq
  | .refuse, pos, q, hq => by simp [Rw.inn] at hq
end
theorem mem_toL_ok {en : Bool} {bits names : List (List Nat)} {k n : Nat} {rs : Rws} {r : Rw} (h : rs.ok en bits names k) (hn : rs.toL[n]? = some r) : r.ok en bits names k := Rws.ok_mem h r (List.mem_of_getElem? hn)
theorem at_ok {en : Bool} {bits names : List (List Nat)} : ∀ {rest : List Int} {rs : Rws} {r : Rw} {k : Nat}, rs.ok en bits names k → At rs rest r → ∃ k', r.ok en bits names k' ∧ rest.length + 2 * k = 2 * k' + 1
  | [], rs, r, k, _, h => by simp [At] at h
  | [i], rs, r, k, ho, h => by
    obtain ⟨n, rfl, hn⟩ := h
    exact ⟨k, mem_toL_ok ho hn, by simp; omega⟩
  | i :: b :: rest, rs, r, k, ho, h => by
    obtain ⟨n, m, r', x, rfl, rfl, h1, h2, h3⟩ := h
    obtain ⟨_, hx⟩ := Rw.two_ok (mem_toL_ok ho h1) x (List.mem_of_getElem? h2)
    obtain ⟨k', g1, g2⟩ := at_ok hx h3
    exact ⟨k', g1, by simp; omega⟩
theorem lcnt_drop : ∀ (rs : Rws) (pre : List Int) (i n : Nat) (r : Rw), rs.toL[n]? = some r → pcnt ((entL pre i rs.toL).drop (n + 1)) + r.cnt ≤ rs.cnt
  | .nil, pre, i, n, r, h => by simp [Rws.toL] at h
  | .cons r' rs, pre, i, 0, r, h => by
    simp [Rws.toL] at h; subst h
    simp [Rws.toL, entL, Rws.cnt, pcnt_entL]; omega
  | .cons r' rs, pre, i, n + 1, r, h => by
    simp only [Rws.toL, List.getElem?_cons_succ] at h
    have := lcnt_drop rs pre (i + 1) n r h
    simp only [Rws.toL, entL, Rws.cnt, List.drop_succ_cons]
    omega
theorem two_cnt {r : Rw} {x : Rws} {m : Nat} (h : r.two[m]? = some x) : x.cnt + 1 ≤ r.cnt := by
  have hx := List.mem_of_getElem? h
  cases r <;> simp [Rw.two] at hx <;> rcases hx with rfl | rfl <;> simp only [Rw.cnt] <;> omega
theorem pcnt_cont : ∀ {rest : List Int} {pre : List Int} {rs : Rws} {r : Rw}, At rs rest r → pcnt (cont pre rs rest) + r.cnt ≤ rs.cnt
  | [], pre, rs, r, h => by simp [At] at h
  | [i], pre, rs, r, h => by
    obtain ⟨n, rfl, hn⟩ := h
    simp only [cont, Int.toNat_natCast]
    exact lcnt_drop rs pre 0 n r hn
  | i :: b :: rest, pre, rs, r, h => by
    obtain ⟨n, m, r', x, rfl, rfl, h1, h2, h3⟩ := h
    have ih := pcnt_cont (pre := pre ++ [(n : Int), (m : Int)]) h3
    have hd := lcnt_drop rs pre 0 n r' h1
    have ht := two_cnt h2
    simp only [cont, sub_at h1 h2, Int.toNat_natCast, pcnt_app]
    omega
theorem pd_cont {en : Bool} {bits names : List (List Nat)} : ∀ {rest : List Int} {pre : List Int} {rs : Rws} {r : Rw} {k : Nat}, rs.ok en bits names k → pre.length + 2 = 2 * k → At rs rest r → PdOk en bits names (cont pre rs rest)
  | [], pre, rs, r, k, _, _, h => by simp [At] at h
  | [i], pre, rs, r, k, ho, hp, h => by
    simp only [cont]
    exact fun q hq => PdOk.ent ho hp 0 q (List.mem_of_mem_drop hq)
  | i :: b :: rest, pre, rs, r, k, ho, hp, h => by
    obtain ⟨n, m, r', x, rfl, rfl, h1, h2, h3⟩ := h
    obtain ⟨_, hx⟩ := Rw.two_ok (mem_toL_ok ho h1) x (List.mem_of_getElem? h2)
    simp only [cont, sub_at h1 h2]
    exact (pd_cont hx (by simp; omega) h3).app fun q hq => PdOk.ent ho hp 0 q (List.mem_of_mem_drop hq)
theorem at_odd : ∀ {rest : List Int} {rs : Rws} {r : Rw}, At rs rest r → rest.length % 2 = 1
  | [], rs, r, h => by simp [At] at h
  | [i], rs, r, h => by simp
  | i :: b :: rest, rs, r, h => by
    obtain ⟨n, m, r', x, rfl, rfl, h1, h2, h3⟩ := h
    have := at_odd h3
    simp only [List.length_cons]; omega
end G

set_option linter.all false
set_option maxRecDepth 100000
set_option maxHeartbeats 4000000
set_option autoImplicit false
/-! LE3: positions of ask rows. -/
namespace DL
theorem rngC_get' {lo c : Int} {n j : Nat} {x : D} (h : (rngC lo c n)[j]? = some x) : j < n ∧ x = .int (lo + (j : Nat) * c) := by
  have hj : j < n := by
    have := (List.getElem?_eq_some_iff.mp h).1
    rwa [rngC_len] at this
  rw [rngC_get n lo c j hj] at h
  exact ⟨hj, (Option.some.inj h).symm⟩
theorem rng3T_2 {S : Sto} {i j : Int} : rng3T (.int i) (.int j) (.int 2) S = gd (smallI i && smallI j) (.ok ⟨rngC i 2 ((j - i + 1) / 2).toNat, []⟩ S) := by simp only [rng3T]
theorem eqvs_int : ∀ (a b : List Int), eqvs (a.map D.int) (b.map D.int) = decide (a = b)
  | [], [] => by simp [eqvs]
  | [], b :: bs => by simp [eqvs]
  | a :: as, [] => by simp [eqvs]
  | a :: as, b :: bs => by
    simp only [List.map_cons, eqvs, eqv, eqvs_int as bs, List.cons.injEq, Bool.decide_and]
end DL
namespace G
open DL
theorem eqv_pos (a b : List Int) : eqv (posD a) (posD b) = decide (a = b) := by simp only [posD, eqv, eqvs_int]
theorem okD_pos (a : List Int) : okD 20 (posD a) = true := by
  simp only [posD, okD, List.all_eq_true]
  intro x hx
  obtain ⟨i, _, rfl⟩ := List.mem_map.mp hx
  rfl
def Rw.isAsk : Rw → Bool
  | .ask _ _ => true
  | _ => false
def Rws.asks (rs : Rws) : List (List Int) := ((rs.ord [] 0).filter fun q => q.2.isAsk).map Prod.fst
theorem isAsk_ok (r : Rw) : ∃ (w : List Nat) (ds : List D), r.d = .tup (.str w :: ds) ∧ decide (w = [97, 115, 107]) = r.isAsk := by
  cases r <;> exact ⟨_, _, rfl, rfl⟩
section
variable {T : Tb} {ix : Lk} {n : Nat} {S : Sto}
structure HX (T : Tb) (ix : Lk) : Prop where
  pending : T.fns[ix.f_pending_after]? = some (F_pending_after ix)
  walk_on : T.fns[ix.f_walk_on]? = some (F_walk_on ix)
  is_ask : T.fns[ix.f_is_ask_position]? = some (F_is_ask_position ix)
  resume : T.fns[ix.f_resume_guard]? = some (F_resume_guard ix)
def askG (x : D) : List D := match x with
  | .tup [p, .tup (.str w :: _)] => if w = [97, 115, 107] then [p] else []
  | _ => []
theorem flat_asks : ∀ (l : List (List Int × Rw)), (l.map prD).flatMap askG = ((l.filter fun q => q.2.isAsk).map Prod.fst).map posD
  | [] => rfl
  | q :: l => by
    have ih := flat_asks l
    obtain ⟨w, ds, h1, h2⟩ := isAsk_ok q.2
    rw [List.map_cons, List.flatMap_cons, ih]
    cases h : q.2.isAsk with
    | true =>
      rw [h] at h2
      simp at h2
      simp [h, prD, h1, askG, h2]
    | false =>
      rw [h] at h2
      simp at h2
      simp [h, prD, h1, askG, h2]
theorem any_pos {pos : List Int} : ∀ (l : List (List Int)), ((l.map posD).any fun z => eqv z (posD pos)) = decide (pos ∈ l)
  | [] => by simp
  | p :: l => by
    rw [List.map_cons, List.any_cons, eqv_pos, any_pos l]
    by_cases h : p = pos
    · simp [h]
    · have h' : ¬ pos = p := fun z => h z.symm
      simp [h, h']
theorem in_pos {pos : List Int} {l : List (List Int)} : inT S (.d (posD pos)) (.l (l.map posD)) = some (decide (pos ∈ l)) := by
  have h1 : (l.map posD).all (okD 20) = true := by
    rw [List.all_eq_true]
    intro x hx
    obtain ⟨i, _, rfl⟩ := List.mem_map.mp hx
    exact okD_pos i
  have h2 : flatD (posD pos) = false := rfl
  simp only [inT, lsts, h2, Bool.false_and, okD_pos, h1, Bool.and_self, if_true, any_pos]
  rfl
theorem is_ask_ok (H : HX T ix) (HS : HS T ix) {rs : Rws} {pos : List Int} (hh : rs.hgt ≤ 3) (hc : rs.cnt ≤ 8) (hp : pos.length ≤ 1000)
    {Q : D → Sto → Prop} (q : ∀ S', Gr S S' → Q (.bl (decide (pos ∈ rs.asks))) S') : okR (callT T (n + 6) ix.f_is_ask_position [.tup rs.l, posD pos] S) Q := by
  refine okR_call H.is_ask rfl ?_
  simp only [F_is_ask_position]
  have hrio := rio_all HS 3 (n + 5) (by omega) rs [] S hh (by simp; omega) (by omega)
  unfold RioP at hrio
  simp [posD] at hrio
  simp [posD]
  refine okR_map (fun _ => .bl true) rfl (fun x hx => ?_) (by simp [big]; omega) ?_
  · obtain ⟨i, _, rfl⟩ := List.mem_map.mp hx
    exact ⟨_, rfl, by simp [integer_ok (n := n + 4) HS (x := .int i) (.int i), isI]⟩
  · have e : (List.map (fun _ => D.bl true) (pos.map D.int)) = (pos.map fun _ => true).map D.bl := by simp
    rw [e]
    simp
    refine okR_imp hrio ?_
    rintro d S1 ⟨rfl, g, hl⟩
    simp [wk_lst hl]
    refine okR_flat askG (stays_lst hl) (fun x hx => ?_) ?_ ?_
    · obtain ⟨⟨p, r⟩, _, rfl⟩ := List.mem_map.mp hx
      refine ⟨_, rfl, ?_⟩
      obtain ⟨w, ds, h1, h2⟩ := isAsk_ok r
      by_cases hw : w = [97, 115, 107]
      · simp [prD, h1, askG, hw]
      · simp [prD, h1, askG, hw]
    · rw [List.length_map, Rws.ord_len]; simp [big]; omega
    · rw [flat_asks]
      have := in_pos (S := S1) (pos := pos) (l := rs.asks)
      simp only [posD] at this
      change okR (okB (inT S1 (TV.d (D.tup (List.map D.int pos))) (TV.l (List.map posD rs.asks))) S1) _
      rw [this]
      simp
      exact q S1 g
end
end G

set_option linter.all false
set_option maxRecDepth 100000
set_option maxHeartbeats 4000000
set_option autoImplicit false
/-! LE4: what is to be done behind an ask row. -/
namespace G
open DL
section
variable {T : Tb} {ix : Lk} {n : Nat} {S : Sto}
structure PI (S : Sto) (rs : Rws) (pos : List Int) (r : Rw) (a : Bool) (S' : Sto) (pr : Nat) (dp dl : D) (k : Nat) (rs' : Rws) (rest : List Int) (acc : List (List Int × Rw)) : Prop where
  hp : pos = pos.take (2 * k) ++ rest
  h4 : dp = posD (pos.take (2 * k))
  h5 : dl = .tup rs'.l
  hat : At rs' rest r
  hc : cont [] rs pos = cont (pos.take (2 * k)) rs' rest ++ acc
  hs : S'[pr]? = some (.lst (acc.map prD))
  hn : rs'.cnt ≤ 8
  ha : acc.length ≤ 8 * k
theorem pending_ok (H : HX T ix) (HW : HW0 T ix) (HS : HS T ix) {rs : Rws} {pos : List Int} {r : Rw} {a : Bool} (hat : At rs pos r) (hr : r.two ≠ []) (hc : rs.cnt ≤ 8) (hpl : pos.length ≤ 100)
    {Q : D → Sto → Prop} (q : ∀ i S', Gr S S' → S'[i]? = some (.lst ((inn pos r a ++ cont [] rs pos).map prD)) → Q (.ref i) S') : okR (callT T (n + 3) ix.f_pending_after [.tup rs.l, posD pos, .bl a] S) Q := by
  have hodd := at_odd hat
  obtain ⟨N, hN⟩ : ∃ N, pos.length = 2 * N + 1 := ⟨pos.length / 2, by omega⟩
  have hNN : (((pos.length : Int) - 0 + 1) / 2).toNat = N + 1 := by omega
  have hNN' : (((pos.length : Int) + 1) / 2).toNat = N + 1 := by omega
  refine okR_call H.pending rfl ?_
  simp only [F_pending_after]
  simp [posD, rng3T_2, small0, smallN (show pos.length ≤ 1000000 by omega), hNN, hNN']
  refine okS_for0 (fun k Γ S' => Gr S S' ∧ ∃ (pr : Nat) (dp dl : D) (o6 o7 o8 o9 : Option D), Γ = [some (.tup rs.l), some (.tup (pos.map .int)), some (.bl a), some (.ref pr), some dp, some dl, o6, o7, o8, o9] ∧ (k ≤ N → ∃ rs' rest acc, PI S rs pos r a S' pr dp dl k rs' rest acc) ∧ (k = N + 1 → S'[pr]? = some (.lst ((inn pos r a ++ cont [] rs pos).map prD)))) ?_ (fun _ _ _ _ => rfl) ?_ ?_
  · refine ⟨⟨_, rfl⟩, S.length, .tup [], .tup rs.l, none, none, none, none, rfl, fun _ => ⟨rs, pos, [], ?_⟩, by omega⟩
    exact ⟨by simp, by simp [posD], rfl, hat, by simp, by simp, hc, by simp⟩
  · rintro k x Γ S1 hx ⟨g, pr, dp, dl, o6, o7, o8, o9, rfl, hI, _⟩
    obtain ⟨hk, rfl⟩ := rngC_get' hx
    obtain ⟨rs', rest, acc, P⟩ := hI (by omega)
    refine ⟨_, rfl, ?_⟩
    obtain ⟨K, hK⟩ : ∃ K, K = 2 * k := ⟨_, rfl⟩
    have hdk : ((0 : Int) + (k : Int) * 2) = (K : Int) := by omega
    have hPp := P.hp
    have hPs := P.hs
    have hPc := P.hc
    have hPat := P.hat
    have h4 := P.h4
    have h5 := P.h5
    have hrn := P.hn
    have hacc := P.ha
    subst h4 h5
    rw [← hK] at hPp hPc ⊢
    have hpre : (pos.take K).length = K := by simp; omega
    generalize hpp : pos.take K = pre at hpre hPp hPc ⊢
    have hll := Rws.len_cnt rs'
    have hget : ∀ j, pos[K + j]? = rest[j]? := fun j => by
      conv => lhs; rw [hPp]
      rw [List.getElem?_append_right (by omega), hpre]; congr 1; omega
    have hg0 := hget 0
    have hg1 := hget 1
    have hrl : rest.length + K = pos.length := by
      have := congrArg List.length hPp
      rw [List.length_append, hpre] at this; omega
    have he := entries_ok (n := n + 1) (S := S1) HW.entries (rs := rs') (pre := pre) (by omega) (by omega)
    have hEE : (S1 ++ [O.lst ((entL pre 0 rs'.toL).map prD)])[S1.length]? = some (.lst ((entL pre 0 rs'.toL).map prD)) := at_end
    have hel : (entL pre 0 rs'.toL).length ≤ 8 := by rw [entL_len]; omega
    have hb : Nat.ble (pre.length + 1) big = true := Nat.ble_eq_true_of_le (by simp [big]; omega)
    have hb2 : Nat.ble (pre.length + 1 + 1) big = true := Nat.ble_eq_true_of_le (by simp [big]; omega)
    simp only [posD] at he
    rw [hdk]
    match rest, hPat with
    | [i], hPat =>
      obtain ⟨m, rfl, hm⟩ := hPat
      have hkN : k = N := by simp at hrl; omega
      have hlev : rs'.l[m]? = some r.d := by rw [Rws.l_eq, List.getElem?_map, hm]; rfl
      have hnl : ¬ ((K : Int) + 1 < (pos.length : Int)) := by simp at hrl; omega
      simp only [cont, Int.toNat_natCast] at hPc
      obtain ⟨I, hI⟩ : ∃ I, I = (entL pre 0 rs'.toL).drop (m + 1) := ⟨_, rfl⟩
      have hIl : I.length ≤ 8 := by rw [hI, List.length_drop]; omega
      have hcut : cutL ((entL pre 0 rs'.toL).map prD) (some ((m : Int) + 1)) none = I.map prD := by
        rw [cut_lo (by omega), hI, List.map_drop]; congr 1
      have hadd := add_lst (S := S1 ++ [O.lst ((entL pre 0 rs'.toL).map prD)] ++ [O.lst (I.map prD)]) (i := S1.length + 1) (b := .d (.ref pr)) (xs := I.map prD) (ys := acc.map prD) (by simp) (lsts_lst (at_old (at_old hPs))) (by simp; omega)
      rw [← hI] at hPc
      simp only [Nat.add_zero, List.getElem?_cons_zero] at hg0
      simp at hadd
      simp [posD, atI_nat, hg0, hlev, he, slc_ref (its_lst hEE), hcut, hadd, hb, hnl]
      have h2 : (S1 ++ [O.lst (List.map prD (entL pre 0 rs'.toL)), O.lst (List.map prD I), O.lst (List.map prD I ++ List.map prD acc)])[S1.length + 2]? = some (.lst (List.map prD I ++ List.map prD acc)) := by simp
      have g2 : Gr S (S1 ++ [O.lst (List.map prD (entL pre 0 rs'.toL)), O.lst (List.map prD I), O.lst (List.map prD I ++ List.map prD acc)]) := g.push
      generalize (S1 ++ [O.lst (List.map prD (entL pre 0 rs'.toL)), O.lst (List.map prD I), O.lst (List.map prD I ++ List.map prD acc)]) = S2 at h2 g2 ⊢
      have hrc : r.cnt ≤ 1000 := by
        have := pcnt_cont (pre := []) hat; omega
      have hin := inside_ok (n := n) (S := S2) HS HW (r := r) (pos := pos) (f := a) hr hrc (by omega)
      have hlp := len_pcnt (inn pos r a)
      have hpi := pcnt_inn (pos := pos) (r := r) (f := a)
      simp only [posD] at hin
      generalize inn pos r a = J at hin hlp hpi ⊢
      have hadd2 := add_lst (S := S2 ++ [O.lst (J.map prD)]) (i := S2.length) (b := .d (.ref (S1.length + 2))) (ys := List.map prD I ++ List.map prD acc) at_end (lsts_lst (at_old h2)) (by simp; omega)
      simp at hadd2
      simp [hin, hadd2]
      refine ⟨g2.push, S2.length + 1, _, _, ⟨rfl, rfl, rfl⟩, by omega, fun _ => ?_⟩
      simp [hPc]
    | i :: b :: rest', hPat =>
      obtain ⟨m, m', r', x, rfl, rfl, hm, hm', hx⟩ := hPat
      have hlev : rs'.l[m]? = some r'.d := by rw [Rws.l_eq, List.getElem?_map, hm]; rfl
      have hnl : ((K : Int) + 1 < (pos.length : Int)) := by simp at hrl; omega
      simp only [cont, sub_at hm hm', Int.toNat_natCast] at hPc
      obtain ⟨I, hI⟩ : ∃ I, I = (entL pre 0 rs'.toL).drop (m + 1) := ⟨_, rfl⟩
      have hIl : I.length ≤ 8 := by rw [hI, List.length_drop]; omega
      have hcut : cutL ((entL pre 0 rs'.toL).map prD) (some ((m : Int) + 1)) none = I.map prD := by
        rw [cut_lo (by omega), hI, List.map_drop]; congr 1
      have hadd := add_lst (S := S1 ++ [O.lst ((entL pre 0 rs'.toL).map prD)] ++ [O.lst (I.map prD)]) (i := S1.length + 1) (b := .d (.ref pr)) (xs := I.map prD) (ys := acc.map prD) (by simp) (lsts_lst (at_old (at_old hPs))) (by simp; omega)
      rw [← hI] at hPc
      have hk1 : ((K : Int) + 1) = ((K + 1 : Nat) : Int) := by omega
      have hat1 : L2.atI (List.map D.int pos) ((K : Int) + 1) = some (.int (m' : Int)) := by
        rw [hk1, atI_nat, List.getElem?_map, hg1]; rfl
      have htwo : L2.atI (List.map (fun x => D.tup x.l) r'.two) (m' : Int) = some (.tup x.l) := by
        rw [atI_nat, List.getElem?_map, hm']; rfl
      simp only [Nat.add_zero, List.getElem?_cons_zero] at hg0
      simp at hadd
      simp [posD, atI_nat, hg0, hlev, he, slc_ref (its_lst hEE), hcut, hadd, hb, hb2, hnl, hat1, branches_ok HS, htwo]
      have ht : pos.take (2 * (k + 1)) = pre ++ [(m : Int), (m' : Int)] := by
        rw [hPp, show 2 * (k + 1) = pre.length + 2 by omega, List.take_length_add_append]; rfl
      simp only [List.length_cons] at hrl
      refine ⟨g.push, S1.length + 2, _, _, ⟨rfl, rfl, rfl⟩, fun _ => ⟨x, rest', I ++ acc, ?_, ?_, rfl, hx, ?_, ?_, ?_, ?_⟩, fun z => ?_⟩
      · rw [ht, hPp]; simp
      · rw [ht]; simp [posD]
      · rw [ht, hPc]; simp
      · simp
      · have := two_cnt hm'
        have := lcnt_drop rs' [] 0 m r' hm
        omega
      · simp; omega
      · have := at_odd hx; omega
  · rintro Γ S1 ⟨g, pr, dp, dl, o6, o7, o8, o9, rfl, _, hE⟩
    simp
    rw [rngC_len] at hE
    exact q pr S1 g (hE rfl)
end
end G

set_option linter.all false
set_option maxRecDepth 100000
set_option maxHeartbeats 4000000
set_option autoImplicit false
/-! LE5: going on from an ask row. -/
namespace G
open DL
section
variable {T : Tb} {ix : Lk} {n : Nat} {S : Sto}
theorem ans_tail {d : D} {a : Bool} {as : List Bool} (h : AnsAt S d (a :: as)) : ∃ d' S', slcT (.d d) (some 1) none S = .ok d' S' ∧ Gr S S' ∧ AnsAt S' d' as := by
  rcases h with rfl | ⟨i, rfl, h2⟩
  · refine ⟨.tup (as.map .bl), S, ?_, Gr.refl, .inl rfl⟩
    have : cutL ((a :: as).map D.bl) (some 1) none = as.map D.bl := by rw [cut_lo (by decide)]; rfl
    rw [← this]; rfl
  · refine ⟨_, _, slc_ref (its_lst h2), ⟨_, rfl⟩, .inr ⟨_, rfl, ?_⟩⟩
    have : cutL ((a :: as).map D.bl) (some 1) none = as.map D.bl := by rw [cut_lo (by decide)]; rfl
    rw [this]
    exact at_end
/-- a guard done on from an ask row -/
def onP (rs : Rws) (pos : List Int) (r : Rw) (a : Bool) : List (List Int × Rw) := inn pos r a ++ cont [] rs pos
def onR (s : Si) (p : Pge) (en : Bool) (fl : List Bool) (pos : List Int) (r : Rw) : List Bool → WR
  | [] => ⟨.wt pos, fl, [], []⟩
  | a :: as => go s.bits (pcnt (onP (p.rows en) pos r a)) (onP (p.rows en) pos r a) fl as [] []
theorem ask_two {r : Rw} (h : r.isAsk = true) : r.two ≠ [] := by cases r <;> simp [Rw.isAsk, Rw.two] at h ⊢
theorem onP_pcnt {rs : Rws} {pos : List Int} {r : Rw} {a : Bool} (hat : At rs pos r) : pcnt (onP rs pos r a) + 1 ≤ rs.cnt := by
  have h1 := pcnt_cont (pre := []) hat
  have h2 := pcnt_inn (pos := pos) (r := r) (f := a)
  rw [onP, pcnt_app]; omega
theorem onP_ok {en : Bool} {bits names : List (List Nat)} {rs : Rws} {pos : List Int} {r : Rw} {a : Bool} (ho : rs.ok en bits names 1) (hat : At rs pos r) : PdOk en bits names (onP rs pos r a) := by
  obtain ⟨k, hk, hl⟩ := at_ok ho hat
  exact (PdOk.inn hk (by omega) a).app (pd_cont ho rfl hat)
theorem at_len {en : Bool} {bits names : List (List Nat)} {rs : Rws} {pos : List Int} {r : Rw} (ho : rs.ok en bits names 1) (hat : At rs pos r) (hr : r.isAsk = true) : pos.length ≤ 5 := by
  obtain ⟨k, hk, hl⟩ := at_ok ho hat
  cases r <;> simp [Rw.isAsk] at hr
  simp only [Rw.ok] at hk
  omega
theorem walk_on_ok (HX : HX T ix) (H : HW0 T ix) (HG : HG T ix) (HS : HS T ix) {s : Si} (ok : SiOk s) {i : Nat} (hs : S[i]? = some (siteO ix s)) {p : Pge} (hp : p ∈ s.pages) {en : Bool} {fl as : List Bool} {a : Bool} (hf : fl.length = s.bits.length) {ad : D} (ha : AnsAt S ad (a :: as)) {pos : List Int} {r : Rw} (hat : At (p.rows en) pos r) (hr : r.isAsk = true)
    {Q : D → Sto → Prop} (q : ∀ j S', S.length ≤ j → Gr S S' → WalkAt S' ix j (onR s p en fl pos r (a :: as)) → Q (.ref j) S') :
    okR (callT T (n + 5) ix.f_walk_on [.ref i, .str p.name, .str (sideS en), .tup (fl.map .bl), posD pos, ad] S) Q := by
  obtain ⟨cd, hcd, _, h29, _⟩ := HS.cls
  obtain ⟨hok, hc⟩ := Pge.rows_ok (ok.pg p hp) en
  have hpl := at_len hok hat hr
  refine okR_call HX.walk_on rfl ?_
  simp only [F_walk_on]
  have hi0 := fun cl => ans_item (T := T) (cl := cl) ha (k := 0) (a := a) rfl
  simp at hi0
  simp [mth_site (m := 61) hs HG.mguard rfl, guard_ok (n := n + 2) HG HS hs ok.pn hp, hi0]
  refine pending_ok (n := n + 1) HX H HS hat (ask_two hr) hc (by omega) fun j S1 g1 hj => ?_
  have hs1 := g1.at hs
  obtain ⟨d', S2, e2, g2, ha2⟩ := ans_tail (ha.gr g1)
  simp [attr_ok hs1 (fld_ok hcd h29) rfl, Si.bd, e2]
  refine walk_entries_ok (n := n) HS H ok.bn ok.bl hf ha2 (g2.at hj) (onP_ok hok hat) (by have := onP_pcnt (a := a) hat; unfold onP at this; omega) fun k S3 hk g3 hw => ?_
  simp
  have := g1.len
  have := g2.len
  exact q k S3 (by omega) (g1.trans (g2.trans g3)) hw
theorem ask_in {rs : Rws} {pos : List Int} {r : Rw} (hat : At rs pos r) (hr : r.isAsk = true) : pos ∈ rs.asks := by
  have := at_ord (pre := []) hat
  simp only [Rws.asks, List.mem_map, List.mem_filter]
  exact ⟨(pos, r), ⟨this, hr⟩, rfl⟩
theorem in_ask {rs : Rws} {pos : List Int} (h : pos ∈ rs.asks) : ∃ r, At rs pos r ∧ r.isAsk = true := by
  simp only [Rws.asks, List.mem_map, List.mem_filter] at h
  obtain ⟨⟨p, r⟩, ⟨h1, h2⟩, rfl⟩ := h
  obtain ⟨rest, h3, h4⟩ := ord_at rs [] 0 rs (by simp) _ h1
  simp at h3
  subst h3
  exact ⟨r, h4, h2⟩
theorem resume_ok (HX : HX T ix) (H : HW0 T ix) (HG : HG T ix) (HS : HS T ix) {s : Si} (ok : SiOk s) {i : Nat} (hs : S[i]? = some (siteO ix s)) {p : Pge} (hp : p ∈ s.pages) {en : Bool} {fl as : List Bool} (hf : fl.length = s.bits.length) {ad : D} (ha : AnsAt S ad as) {pos : List Int} {r : Rw} (hat : At (p.rows en) pos r) (hr : r.isAsk = true)
    {Q : D → Sto → Prop} (q : ∀ S', Gr S S' → Q (resD (onR s p en fl pos r as)) S') :
    okR (callT T (n + 7) ix.f_resume_guard [.ref i, .str p.name, .str (sideS en), .tup (fl.map .bl), posD pos, ad] S) Q := by
  obtain ⟨hok, hc⟩ := Pge.rows_ok (ok.pg p hp) en
  have hpl := at_len hok hat hr
  have hgt := Rws.ok_hgt (p.rows en) 1 (by omega) hok
  have hin := ask_in hat hr
  refine okR_call HX.resume rfl ?_
  simp only [F_resume_guard]
  simp [check_call_ok (n := n + 3) H HG HS ok hs hp hf]
  refine is_ask_ok (n := n) HX HS (by omega) hc (by omega) fun S1 g1 => ?_
  have ha1 := ha.gr g1
  simp [hin, ans_len ha1]
  cases as with
  | nil =>
    simp
    exact q S1 g1
  | cons a as =>
    have hz : ¬ ((as.length : Int) + 1 = 0) := by omega
    simp [hz]
    refine walk_on_ok (n := n + 1) HX H HG HS ok (g1.at hs) hp hf ha1 hat hr fun j S2 _ g2 hw => ?_
    obtain ⟨h1, h2, h3⟩ := walk_attr H hw
    simp [h1, h2, h3]
    exact q S2 (g1.trans g2)
end
end G

set_option linter.all false
set_option maxRecDepth 100000
set_option maxHeartbeats 4000000
set_option autoImplicit false
/-! LE6: a guard in two parts; coins. -/
namespace G
open DL
section
variable {T : Tb} {ix : Lk} {n : Nat} {S : Sto}
theorem toss_ok {S0 S2 : Sto} {Γ : Ev} {v k : Nat} {f : Ev → Sto → R (List D)} {Q : List D → Sto → Prop} (hk : k ≤ 1000) (e2 : Ef 3 2 S0 S2)
    (hf : ∀ (x : D) (S : Sto) (Q' : List D → Sto → Prop), Ef 3 2 S0 S → (∀ b S', Ef 3 2 S S' → Q' [.bl b] S') → ∃ Γ', asg (.nm v) x Γ = some Γ' ∧ okR (f Γ' S) Q')
    (hQ : ∀ (bs : List Bool) S', bs.length = k → Ef 3 2 S2 S' → Q (bs.map .bl) S') : okR (compL [] (.nm v) f Γ (rngL 0 k) S2) Q := by
  refine okR_comp (fun i acc S' => ∃ bs : List Bool, acc = bs.map D.bl ∧ bs.length = i ∧ i ≤ k ∧ Ef 3 2 S2 S') _ 0 [] _ ⟨[], rfl, rfl, by omega, e2.self⟩ (fun _ _ _ _ => rfl) ?_ ?_ ?_
  · rintro j x acc S' hx ⟨bs, rfl, hl, _, e3⟩
    obtain ⟨hj, rfl⟩ := rngL_get' hx
    exact hf _ S' _ (e2.trans e3) fun b S'' f4 => ⟨bs ++ [b], by simp, by simp [hl], by omega, e3.trans f4⟩
  · rintro acc S' ⟨bs, hacc, hl, _, e3⟩
    rw [List.nil_append] at hacc
    subst hacc
    rw [rngL_len, Nat.zero_add] at hl
    exact ⟨by simp [big]; omega, hQ bs S' hl e3⟩
  · rintro j acc S' ⟨bs, rfl, hl, _, _⟩
    simp [big]; omega
end
/-- what was done does not matter -/
theorem go_dn {bits : List (List Nat)} : ∀ (n : Nat) (p : List (List Int × Rw)) (fl as : List Bool) (dn dn' : List (List Int)) (ch ch' : List (List Nat × Bool)), (go bits n p fl as dn ch).o = (go bits n p fl as dn' ch').o ∧ (go bits n p fl as dn ch).fl = (go bits n p fl as dn' ch').fl
  | n, [], fl, as, dn, dn', ch, ch' => by simp [go]
  | 0, q :: p, fl, as, dn, dn', ch, ch' => by simp [go]
  | n + 1, (pos, r) :: p, fl, as, dn, dn', ch, ch' => by
    cases r with
    | set b f => simp only [go]; exact go_dn n _ _ _ _ _ _ _
    | iff b x y => simp only [go]; exact go_dn n _ _ _ _ _ _ _
    | ask x y =>
      cases as with
      | nil => simp [go]
      | cons a as => simp only [go]; exact go_dn n _ _ _ _ _ _ _
    | lead q => simp [go]
    | refuse => simp [go]
theorem two_parts {s : Si} {p : Pge} {en : Bool} {fl as : List Bool} {pos : List Int} (h : (runR s p en fl as).o = .wt pos) : ∃ r, At (p.rows en) pos r ∧ r.isAsk = true ∧ ∀ more, resD (onR s p en (runR s p en fl as).fl pos r more) = resD (runR s p en fl (as ++ more)) := by
  obtain ⟨x, y, hat, hgo⟩ := go_two (rs := p.rows en) _ _ fl as [] [] pos (lin_start (p.rows en)) (by rw [pcnt_entL]; exact Nat.le_refl _) h
  refine ⟨_, hat, rfl, fun more => ?_⟩
  cases more with
  | nil =>
    rw [List.append_nil]
    simp only [onR, resD, h]
  | cons a more =>
    obtain ⟨m, dn2, ch2, hm, e⟩ := hgo a more
    have e2 := go_more (bits := s.bits) _ m (onP (p.rows en) pos (.ask x y) a) (runR s p en fl as).fl more [] [] (Nat.le_refl _) (by unfold onP; exact hm)
    obtain ⟨d1, d2⟩ := go_dn (bits := s.bits) m (onP (p.rows en) pos (.ask x y) a) (runR s p en fl as).fl more dn2 [] ch2 []
    have e' : runR s p en fl (as ++ a :: more) = go s.bits m (onP (p.rows en) pos (.ask x y) a) (runR s p en fl as).fl more dn2 ch2 := e
    simp only [onR, resD, e2, e', d1, d2]
theorem end_parts {s : Si} {p : Pge} {en : Bool} {fl as more : List Bool} (h : (runR s p en fl as).o.isW = false) : runR s p en fl (as ++ more) = runR s p en fl as := go_left _ _ _ _ _ _ _ h
theorem isW_wt {o : Out} (h : o.isW = true) : ∃ pos, o = .wt pos := by cases o <;> simp [Out.isW] at h; exact ⟨_, rfl⟩
theorem isW_d {o : Out} (h : o.isW = false) : ∃ w, o.d = .str w ∧ ¬ w = [119, 97, 105, 116] := by cases o <;> simp [Out.isW] at h <;> exact ⟨_, rfl, by simp⟩
end G

set_option linter.all false
set_option maxRecDepth 100000
set_option maxHeartbeats 4000000
set_option autoImplicit false
/-! LE7: what the laws do behind an ask row. -/
namespace G
open DL
section
variable {T : Tb} {ix : Lk} {n : Nat} {S : Sto}
theorem two_d {r : Rw} {m : Nat} {x : Rws} (h : r.two[m]? = some x) : ∃ ds, r.d = .tup ds ∧ L2.atI ds ((ds.length : Int) - 2 + m) = some (.tup x.l) := by
  cases r with
  | iff b y z =>
    refine ⟨_, rfl, ?_⟩
    match m, h with
    | 0, h => simp [Rw.two] at h; subst h; simp
    | 1, h => simp [Rw.two] at h; subst h; simp
    | m + 2, h => simp [Rw.two] at h
  | ask y z =>
    refine ⟨_, rfl, ?_⟩
    match m, h with
    | 0, h => simp [Rw.two] at h; subst h; simp
    | 1, h => simp [Rw.two] at h; subst h; simp
    | m + 2, h => simp [Rw.two] at h
  | set _ _ => simp [Rw.two] at h
  | lead _ => simp [Rw.two] at h
  | refuse => simp [Rw.two] at h
theorem lafter_ok (H : T.fns[ix.f__law_after_ask]? = some (F__law_after_ask ix)) (HV : HV T ix) {rs : Rws} {pos : List Int} {r : Rw} {a : Bool} (hat : At rs pos r) (hr : r.two ≠ []) (hc : rs.cnt ≤ 8) (hpl : pos.length ≤ 100)
    {Q : D → Sto → Prop} (q : ∀ i S', Gr S S' → S'[i]? = some (.lst ((inn pos r a ++ cont [] rs pos).map prD)) → Q (.ref i) S') : okR (callT T (n + 3) ix.f__law_after_ask [.tup rs.l, posD pos, .bl a] S) Q := by
  have hodd := at_odd hat
  obtain ⟨N, hN⟩ : ∃ N, pos.length = 2 * N + 1 := ⟨pos.length / 2, by omega⟩
  have hNN : (((pos.length : Int) - 0 + 1) / 2).toNat = N + 1 := by omega
  have hNN' : (((pos.length : Int) + 1) / 2).toNat = N + 1 := by omega
  refine okR_call H rfl ?_
  simp only [F__law_after_ask]
  simp [posD, rng3T_2, small0, smallN (show pos.length ≤ 1000000 by omega), hNN, hNN']
  refine okS_for0 (fun k Γ S' => Gr S S' ∧ ∃ (pr : Nat) (dp dl : D) (o6 o7 : Option D), Γ = [some dl, some (.tup (pos.map .int)), some (.bl a), some (.ref pr), some dp, o6, o7] ∧ (k ≤ N → ∃ rs' rest acc, PI S rs pos r a S' pr dp dl k rs' rest acc) ∧ (k = N + 1 → S'[pr]? = some (.lst ((inn pos r a ++ cont [] rs pos).map prD)))) ?_ (fun _ _ _ _ => rfl) ?_ ?_
  · refine ⟨⟨_, rfl⟩, S.length, .tup [], .tup rs.l, none, none, rfl, fun _ => ⟨rs, pos, [], ?_⟩, by omega⟩
    exact ⟨by simp, by simp [posD], rfl, hat, by simp, by simp, hc, by simp⟩
  · rintro k x Γ S1 hx ⟨g, pr, dp, dl, o6, o7, rfl, hI, _⟩
    obtain ⟨hk, rfl⟩ := rngC_get' hx
    obtain ⟨rs', rest, acc, P⟩ := hI (by omega)
    refine ⟨_, rfl, ?_⟩
    obtain ⟨K, hK⟩ : ∃ K, K = 2 * k := ⟨_, rfl⟩
    have hdk : ((0 : Int) + (k : Int) * 2) = (K : Int) := by omega
    have hPp := P.hp
    have hPs := P.hs
    have hPc := P.hc
    have hPat := P.hat
    have h4 := P.h4
    have h5 := P.h5
    have hrn := P.hn
    have hacc := P.ha
    subst h4 h5
    rw [← hK] at hPp hPc ⊢
    have hpre : (pos.take K).length = K := by simp; omega
    generalize hpp : pos.take K = pre at hpre hPp hPc ⊢
    have hll := Rws.len_cnt rs'
    have hget : ∀ j, pos[K + j]? = rest[j]? := fun j => by
      conv => lhs; rw [hPp]
      rw [List.getElem?_append_right (by omega), hpre]; congr 1; omega
    have hg0 := hget 0
    have hg1 := hget 1
    have hrl : rest.length + K = pos.length := by
      have := congrArg List.length hPp
      rw [List.length_append, hpre] at this; omega
    have he := lentries_ok (n := n + 1) (S := S1) HV.entries (rs := rs') (pre := pre) (by omega) (by omega)
    have hEE : (S1 ++ [O.lst ((entL pre 0 rs'.toL).map prD)])[S1.length]? = some (.lst ((entL pre 0 rs'.toL).map prD)) := at_end
    have hel : (entL pre 0 rs'.toL).length ≤ 8 := by rw [entL_len]; omega
    have hb : Nat.ble (pre.length + 1) big = true := Nat.ble_eq_true_of_le (by simp [big]; omega)
    have hb2 : Nat.ble (pre.length + 1 + 1) big = true := Nat.ble_eq_true_of_le (by simp [big]; omega)
    simp only [posD] at he
    rw [hdk]
    match rest, hPat with
    | [i], hPat =>
      obtain ⟨m, rfl, hm⟩ := hPat
      have hkN : k = N := by simp at hrl; omega
      have hlev : rs'.l[m]? = some r.d := by rw [Rws.l_eq, List.getElem?_map, hm]; rfl
      have hnl : ¬ ((K : Int) + 1 < (pos.length : Int)) := by simp at hrl; omega
      simp only [cont, Int.toNat_natCast] at hPc
      obtain ⟨I, hI⟩ : ∃ I, I = (entL pre 0 rs'.toL).drop (m + 1) := ⟨_, rfl⟩
      have hIl : I.length ≤ 8 := by rw [hI, List.length_drop]; omega
      have hcut : cutL ((entL pre 0 rs'.toL).map prD) (some ((m : Int) + 1)) none = I.map prD := by
        rw [cut_lo (by omega), hI, List.map_drop]; congr 1
      have hadd := add_lst (S := S1 ++ [O.lst ((entL pre 0 rs'.toL).map prD)] ++ [O.lst (I.map prD)]) (i := S1.length + 1) (b := .d (.ref pr)) (xs := I.map prD) (ys := acc.map prD) (by simp) (lsts_lst (at_old (at_old hPs))) (by simp; omega)
      rw [← hI] at hPc
      simp only [Nat.add_zero, List.getElem?_cons_zero] at hg0
      simp at hadd
      simp [posD, atI_nat, hg0, hlev, he, slc_ref (its_lst hEE), hcut, hadd, hb, hnl]
      have h2 : (S1 ++ [O.lst (List.map prD (entL pre 0 rs'.toL)), O.lst (List.map prD I), O.lst (List.map prD I ++ List.map prD acc)])[S1.length + 2]? = some (.lst (List.map prD I ++ List.map prD acc)) := by simp
      have g2 : Gr S (S1 ++ [O.lst (List.map prD (entL pre 0 rs'.toL)), O.lst (List.map prD I), O.lst (List.map prD I ++ List.map prD acc)]) := g.push
      generalize (S1 ++ [O.lst (List.map prD (entL pre 0 rs'.toL)), O.lst (List.map prD I), O.lst (List.map prD I ++ List.map prD acc)]) = S2 at h2 g2 ⊢
      have hrc : r.cnt ≤ 1000 := by
        have := pcnt_cont (pre := []) hat; omega
      have hin := lbranch_ok (n := n) (S := S2) HV (r := r) (pos := pos) (f := a) hr hrc (by omega)
      have hlp := len_pcnt (inn pos r a)
      have hpi := pcnt_inn (pos := pos) (r := r) (f := a)
      simp only [posD] at hin
      generalize inn pos r a = J at hin hlp hpi ⊢
      have hadd2 := add_lst (S := S2 ++ [O.lst (J.map prD)]) (i := S2.length) (b := .d (.ref (S1.length + 2))) (ys := List.map prD I ++ List.map prD acc) at_end (lsts_lst (at_old h2)) (by simp; omega)
      simp at hadd2
      have hpm : List.map D.int pos = List.map D.int pre ++ [D.int m] := by rw [hPp]; simp
      rw [hpm] at hin
      simp [hin, hadd2]
      refine ⟨g2.push, S2.length + 1, _, _, ⟨rfl, rfl, rfl⟩, by omega, fun _ => ?_⟩
      simp [hPc]
    | i :: b :: rest', hPat =>
      obtain ⟨m, m', r', x, rfl, rfl, hm, hm', hx⟩ := hPat
      have hlev : rs'.l[m]? = some r'.d := by rw [Rws.l_eq, List.getElem?_map, hm]; rfl
      have hnl : ((K : Int) + 1 < (pos.length : Int)) := by simp at hrl; omega
      simp only [cont, sub_at hm hm', Int.toNat_natCast] at hPc
      obtain ⟨I, hI⟩ : ∃ I, I = (entL pre 0 rs'.toL).drop (m + 1) := ⟨_, rfl⟩
      have hIl : I.length ≤ 8 := by rw [hI, List.length_drop]; omega
      have hcut : cutL ((entL pre 0 rs'.toL).map prD) (some ((m : Int) + 1)) none = I.map prD := by
        rw [cut_lo (by omega), hI, List.map_drop]; congr 1
      have hadd := add_lst (S := S1 ++ [O.lst ((entL pre 0 rs'.toL).map prD)] ++ [O.lst (I.map prD)]) (i := S1.length + 1) (b := .d (.ref pr)) (xs := I.map prD) (ys := acc.map prD) (by simp) (lsts_lst (at_old (at_old hPs))) (by simp; omega)
      rw [← hI] at hPc
      have hk1 : ((K : Int) + 1) = ((K + 1 : Nat) : Int) := by omega
      have hat1 : L2.atI (List.map D.int pos) ((K : Int) + 1) = some (.int (m' : Int)) := by
        rw [hk1, atI_nat, List.getElem?_map, hg1]; rfl
      obtain ⟨ds, hds, hdat⟩ := two_d hm'
      rw [hds] at hlev
      simp only [Nat.add_zero, List.getElem?_cons_zero] at hg0
      simp at hadd
      simp [posD, atI_nat, hg0, hlev, he, slc_ref (its_lst hEE), hcut, hadd, hb, hb2, hnl, hat1, hdat]
      have ht : pos.take (2 * (k + 1)) = pre ++ [(m : Int), (m' : Int)] := by
        rw [hPp, show 2 * (k + 1) = pre.length + 2 by omega, List.take_length_add_append]; rfl
      simp only [List.length_cons] at hrl
      refine ⟨g.push, S1.length + 2, _, _, ⟨rfl, rfl, rfl⟩, fun _ => ⟨x, rest', I ++ acc, ?_, ?_, rfl, hx, ?_, ?_, ?_, ?_⟩, fun z => ?_⟩
      · rw [ht, hPp]; simp
      · rw [ht]; simp [posD]
      · rw [ht, hPc]; simp
      · simp
      · have := two_cnt hm'
        have := lcnt_drop rs' [] 0 m r' hm
        omega
      · simp; omega
      · have := at_odd hx; omega
  · rintro Γ S1 ⟨g, pr, dp, dl, o6, o7, rfl, _, hE⟩
    simp
    rw [rngC_len] at hE
    exact q pr S1 g (hE rfl)
end
end G

set_option linter.all false
set_option maxRecDepth 100000
set_option maxHeartbeats 4000000
set_option autoImplicit false
/-! LE8: the laws' own list of ask rows. -/
namespace G
open DL
section
variable {T : Tb} {ix : Lk} {n : Nat} {S : Sto}
def askO (l : List (List Int × Rw)) : List (List Int) := (l.filter fun q => q.2.isAsk).map Prod.fst
theorem askO_app (a b : List (List Int × Rw)) : askO (a ++ b) = askO a ++ askO b := by simp [askO]
theorem askO_len (a : List (List Int × Rw)) : (askO a).length ≤ a.length := by simp [askO]; exact List.length_filter_le _ _
def RasP (T : Tb) (ix : Lk) (N : Nat) (rs : Rws) (pre : List Int) (S : Sto) : Prop := okR (callT T N ix.f__law_asks [.tup rs.l, posD pre] S) fun d S' => d = .ref S.length ∧ Gr S S' ∧ S'[S.length]? = some (.lst ((askO (rs.ord pre 0)).map posD))
theorem ras_step (H : T.fns[ix.f__law_asks]? = some (F__law_asks ix)) {M h : Nat} (ih : ∀ (x : Rws) (pre : List Int) (S : Sto), x.hgt + 1 ≤ h → pre.length + 2 * x.hgt ≤ 1000 → x.cnt ≤ 1000 → RasP T ix M x pre S) (rs : Rws) (pre : List Int) (S : Sto) (hh : rs.hgt ≤ h) (hp : pre.length + 2 * rs.hgt ≤ 1000) (hc : rs.cnt ≤ 1000) : RasP T ix (M + 1) rs pre S := by
  have hll := Rws.len_cnt rs
  have hrl : rs.l.length = rs.toL.length := by rw [Rws.l_eq]; simp
  have s2 : smallI 2 = true := by simp [smallI]
  have hb : Nat.ble (pre.length + 1) big = true := Nat.ble_eq_true_of_le (by simp [big]; omega)
  have hb2 : Nat.ble (pre.length + 2) big = true := Nat.ble_eq_true_of_le (by simp [big]; omega)
  refine okR_call H rfl ?_
  simp only [F__law_asks]
  simp [posD, hrl, small0, smallN (show rs.toL.length ≤ 1000000 by omega)]
  refine okS_for0 (fun i Γ S' => ∃ (rest : Rws) (acc : List (List Int × Rw)) (o3 o4 o5 : Option D), Γ = [some (.tup rs.l), some (.tup (pre.map .int)), some (.ref S.length), o3, o4, o5] ∧ rest.toL = rs.toL.drop i ∧ acc ++ rest.ord pre i = rs.ord pre 0 ∧ S'[S.length]? = some (.lst ((askO acc).map posD)) ∧ Gr S S') ?_ (fun _ _ _ _ => rfl) ?_ ?_
  · exact ⟨rs, [], none, none, none, rfl, by simp, by simp, at_end, Gr.refl.push⟩
  · rintro j x Γ S1 hx ⟨rest, acc, o3, o4, o5, rfl, hrest, hacc, hL, gr⟩
    obtain ⟨hj, rfl⟩ := rngL_get' hx
    obtain ⟨r, hr⟩ : ∃ r, rs.toL[j]? = some r := ⟨_, List.getElem?_eq_getElem hj⟩
    have hdrop : rs.toL.drop j = r :: rs.toL.drop (j + 1) := by
      rw [List.drop_eq_getElem_cons hj]
      congr 1
      rw [List.getElem?_eq_getElem hj] at hr
      exact Option.some.inj hr
    obtain ⟨rest', rfl, hrest'⟩ := Rws.drop_cons (hrest.trans hdrop)
    have hlen := Rws.ord_len rs pre 0
    rw [← hacc] at hlen
    simp only [Rws.ord, List.length_append, List.length_cons] at hlen hacc
    have hrh := Rws.hgt_mem (List.mem_of_getElem? hr)
    have hr1 : r.cnt - 1 = (r.inn (pre ++ [(j : Int)])).length := (Rw.inn_len r _).symm
    have hSl := gr.len
    have hal := askO_len acc
    have hlj : rs.l[j]? = some r.d := by rw [Rws.l_eq, List.getElem?_map, hr]; rfl
    refine ⟨_, rfl, ?_⟩
    have one : ∀ (x : Rws) (b : Nat) (o4 o5 : Option D) (acc2 : List (List Int)) (S3 : Sto) (QQ : Ev → Sto → Prop) (QR : F → Sto → Prop), r.two[b]? = some x → x.hgt + 1 ≤ r.hgt → x.cnt ≤ 1000 → acc2.length + x.cnt ≤ 3000 → S3[S.length]? = some (.lst (acc2.map posD)) → Gr S S3 →
        (∀ S4, S4[S.length]? = some (.lst ((acc2 ++ askO (x.ord (pre ++ [(j : Int), (b : Int)]) 0)).map posD)) → Gr S S4 → QQ [some (.tup rs.l), some (.tup (pre.map .int)), some (.ref S.length), some (.int j), some (.int b), some (.tup x.l)] S4) →
        okS (execs T (callT T M) (.cons (.set (.nm 5) (.item (.e (.item (.e (.var 0)) (.var 3))) (.op2 .add (.e (.op2 .sub (.e (.bf .len (.e (.item (.e (.var 0)) (.var 3))))) (.e (.con (.int 2))))) (.e (.var 4))))) (.cons (.ex (.mt .extend (.var 2) (.e (.call ix.f__law_asks (.cons (.var 5) (.cons (.op2 .add (.e (.var 1)) (.e (.tup (.cons (.var 3) (.cons (.var 4) .nil))))) .nil)))))) .nil))
          [some (.tup rs.l), some (.tup (pre.map .int)), some (.ref S.length), some (.int j), some (.int b), o5] S3) (lpQ QQ QR) := by
      intro x b o4 o5 acc2 S3 QQ QR htw hxh hxc hxl hL3 gr3 hQ
      have e := ih x (pre ++ [(j : Int), (b : Int)]) S3 (by omega) (by simp; omega) hxc
      unfold RasP at e
      simp [posD] at e
      obtain ⟨ds, hds, hdat⟩ := two_d htw
      have hlj' := hlj
      rw [hds] at hlj'
      have hl3 : S.length < S3.length := (List.getElem?_eq_some_iff.mp hL3).1
      simp [atI_nat, hlj', hdat, hb2, rcv_extend hL3]
      refine okR_imp e ?_
      rintro d S4 ⟨rfl, gr4, hL4⟩
      have hL5 := gr4.at hL3
      have hal2 := askO_len (x.ord (pre ++ [(j : Int), (b : Int)]) 0)
      rw [Rws.ord_len] at hal2
      have hex := extend_ok hL5 (lsts_lst hL4) (by simp [big]; omega)
      simp [hex]
      refine hQ _ ?_ ((gr3.trans gr4).set (Nat.le_refl _))
      rw [at_set hL5]; simp [posD]
    have fin : ∀ (S5 : Sto), S5[S.length]? = some (.lst ((askO (acc ++ (pre ++ [(j : Int)], r) :: r.inn (pre ++ [(j : Int)]))).map posD)) → Gr S S5 →
        ∃ x : Rws, x.toL = rs.toL.drop (j + 1) ∧ ∃ x_1 : List (List Int × Rw), x_1 ++ x.ord pre (j + 1) = rs.ord pre 0 ∧ S5[S.length]? = some (.lst ((askO x_1).map posD)) ∧ Gr S S5 := fun S5 h5 g5 => ⟨rest', hrest', _, by rw [← hacc]; simp, h5, g5⟩
    have hin : ∀ (S : Sto) (w : List Nat), inT S (.d (.str w)) (.d (.tup [.str [105, 102], .str [97, 115, 107]])) = some (decide ([105, 102] = w) || (decide ([97, 115, 107] = w) || false)) := fun S w => in_tup rfl rfl
    have two : ∀ (x y : Rws) (acc2 : List (List Int)) (S2 : Sto) (QR : F → Sto → Prop), r.two = [x, y] → acc2.length ≤ acc.length + 1 → S2[S.length]? = some (.lst (acc2.map posD)) → Gr S S2 →
       (∀ S5 o4 o5, S5[S.length]? = some (.lst ((acc2 ++ askO (r.inn (pre ++ [(j : Int)]))).map posD)) → Gr S S5 → QR (.nx [some (.tup rs.l), some (.tup (pre.map .int)), some (.ref S.length), some (.int j), o4, o5]) S5) →
       okS (forL [] (.nm 4) (execs T (callT T M) (.cons (.set (.nm 5) (.item (.e (.item (.e (.var 0)) (.var 3))) (.op2 .add (.e (.op2 .sub (.e (.bf .len (.e (.item (.e (.var 0)) (.var 3))))) (.e (.con (.int 2))))) (.e (.var 4))))) (.cons (.ex (.mt .extend (.var 2) (.e (.call ix.f__law_asks (.cons (.var 5) (.cons (.op2 .add (.e (.var 1)) (.e (.tup (.cons (.var 3) (.cons (.var 4) .nil))))) .nil)))))) .nil))) (rngL 0 2)
          [some (.tup rs.l), some (.tup (pre.map .int)), some (.ref S.length), some (.int j), o4, o5] S2) QR := by
      intro x y acc2 S2 QR htw ha2 hL2 gr2 hQ
      rcases Rw.two_cases r with ⟨h1, h2⟩ | ⟨x', y', h1, h2, h3, h4, h5⟩
      · rw [htw] at h1; cases h1
      · rw [htw] at h1
        cases h1
        have hr2 : rngL 0 2 = [.int ((0 : Nat) : Int), .int ((1 : Nat) : Int)] := rfl
        rw [hr2]
        refine okS_for_cons rfl rfl (one x 0 o4 _ acc2 S2 _ _ (by rw [htw]; rfl) h2 (by omega) (by omega) hL2 gr2 fun S4 hL4 gr4 => ?_)
        refine okS_for_cons rfl rfl (one y 1 o4 _ (acc2 ++ askO (x.ord (pre ++ [(j : Int), ((0 : Nat) : Int)]) 0)) S4 _ _ (by rw [htw]; rfl) h3 (by omega) (by have := askO_len (x.ord (pre ++ [(j : Int), ((0 : Nat) : Int)]) 0); rw [Rws.ord_len] at this; simp at this ⊢; omega) hL4 gr4 fun S5 hL5 gr5 => ?_)
        refine okS_for_nil rfl ?_
        refine hQ S5 _ _ ?_ gr5
        rw [h4, hL5, askO_app]
        simp
    cases r with
    | ask x y =>
      have hap := append_ok hL (y := .tup (pre.map D.int ++ [.int j])) (by simp [big]; omega)
      simp [atI_nat, hlj, Rw.d, hb, rcv_append hL, hap, hin, small0, s2]
      have hL2 : (S1.set S.length (.lst ((askO acc).map posD ++ [.tup (pre.map D.int ++ [.int j])])))[S.length]? = some (.lst ((askO acc ++ [pre ++ [(j : Int)]]).map posD)) := by
        rw [at_set hL]; simp [posD]
      refine two x y _ _ _ rfl (by simp; omega) hL2 (gr.set (Nat.le_refl _)) fun S5 o4 o5 h5 g5 => ?_
      simp
      refine fin S5 ?_ g5
      rw [h5, askO_app]
      simp [askO, Rw.isAsk]
    | iff b x y =>
      simp [atI_nat, hlj, Rw.d, hin, small0, s2]
      refine two x y _ _ _ rfl (by omega) hL gr fun S5 o4 o5 h5 g5 => ?_
      simp
      refine fin S5 ?_ g5
      rw [h5, askO_app]
      simp [askO, Rw.isAsk]
    | set b f =>
      simp [atI_nat, hlj, Rw.d, hin]
      refine fin S1 ?_ gr
      rw [hL, askO_app]
      simp [askO, Rw.isAsk, Rw.inn]
    | lead q =>
      simp [atI_nat, hlj, Rw.d, hin]
      refine fin S1 ?_ gr
      rw [hL, askO_app]
      simp [askO, Rw.isAsk, Rw.inn]
    | refuse =>
      simp [atI_nat, hlj, Rw.d, hin]
      refine fin S1 ?_ gr
      rw [hL, askO_app]
      simp [askO, Rw.isAsk, Rw.inn]
  · rintro Γ S1 ⟨rest, acc, o3, o4, o5, rfl, hrest, hacc, hL, gr⟩
    have : rest = .nil := by
      cases rest with
      | nil => rfl
      | cons a b =>
        rw [rngL_len, List.drop_length] at hrest
        cases hrest
    subst this
    simp [Rws.ord] at hacc
    subst hacc
    simp
    exact ⟨gr, by simpa using hL⟩
theorem ras_all (H : T.fns[ix.f__law_asks]? = some (F__law_asks ix)) : ∀ (h M : Nat), h + 1 ≤ M → ∀ (rs : Rws) (pre : List Int) (S : Sto), rs.hgt ≤ h → pre.length + 2 * rs.hgt ≤ 1000 → rs.cnt ≤ 1000 → RasP T ix M rs pre S
  | 0, M, hM, rs, pre, S, hh, hp, hc => by
    obtain ⟨m, rfl⟩ : ∃ m, M = m + 1 := ⟨M - 1, by omega⟩
    exact ras_step H (h := 0) (fun x pre S hx => by omega) rs pre S hh hp hc
  | h + 1, M, hM, rs, pre, S, hh, hp, hc => by
    obtain ⟨m, rfl⟩ : ∃ m, M = m + 1 := ⟨M - 1, by omega⟩
    exact ras_step H (h := h + 1) (fun x pre S hx hp hc => ras_all H h m (by omega) x pre S (by omega) hp hc) rs pre S hh hp hc
end
end G

set_option linter.all false
set_option maxRecDepth 100000
set_option maxHeartbeats 4000000
set_option autoImplicit false
/-! K99l: the law about going on from any ask row. -/
namespace G
open DL
section
variable {T : Tb} {ix : Lx} {n : Nat} {S : Sto}
structure H99 (T : Tb) (ix : Lx) : Prop where
  law : T.fns[ix.f_law]? = some (X_law ix)
  box : T.fns[ix.f__law_box]? = some (F__law_box ix.toLk)
  same : T.fns[ix.f__law_same]? = some (F__law_same ix.toLk)
  asks : T.fns[ix.f__law_asks]? = some (F__law_asks ix.toLk)
  after : T.fns[ix.f__law_after_ask]? = some (F__law_after_ask ix.toLk)
theorem plain_on {n : Nat} {s : Si} (ok : SiOk s) {p : Pge} (hp : p ∈ s.pages) {en : Bool} {fl as : List Bool} (hf : fl.length = s.bits.length) {pos : List Int} {r : Rw} (hat : At (p.rows en) pos r) (hr : r.isAsk = true) : plainD (n + 3) (resD (onR s p en fl pos r as)) := by
  obtain ⟨hok, hc⟩ := Pge.rows_ok (ok.pg p hp) en
  have hbl := ok.bl
  cases as with
  | nil =>
    refine plain_res (by simp only [onR]; omega) fun q h => ?_
    simp only [onR, Out.wt.injEq] at h
    subst h
    have := at_len hok hat hr
    omega
  | cons a as =>
    obtain ⟨h1, h2⟩ := go_fine (en := en) (names := s.names) (bits := s.bits) (pcnt (onP (p.rows en) pos r a)) (onP (p.rows en) pos r a) fl as [] [] (onP_ok hok hat) hf
    exact plain_res (by simp only [onR]; omega) fun q h => by have := h2 q h; omega
theorem law99_ok (HP : HP T ix.toLk) (HS : HS T ix.toLk) (HG : HG T ix.toLk) (HW : HW0 T ix.toLk) (HX : HX T ix.toLk) (HV : HV T ix.toLk) (H : H99 T ix) (ns : List Int) (hns : ns.length ≤ 63) :
    okR (callT T 40 ix.f_law [.ref 0] [.ro (ns.map .int)]) fun d _ => d = .bl true := by
  refine okR_call H.law rfl ?_
  obtain ⟨S0, e0, l0, ef0⟩ := box_ok (n := 37) HP.mix H.box ns hns
  simp only [X_law]
  simp [e0]
  refine okR_draw HP.toHD ef0 (by decide) (by decide) fun m S1 m0 m10 l1 f1 => ?_
  have e1 := ef0.trans f1
  have sm : smallI (1 + m) = true := smallI_ok (by omega) (by omega)
  simp [small0, sm]
  refine toss_ok (k := (1 + m).toNat) (by omega) e1 (fun x S Q' e h => ⟨_, rfl, ?_⟩) fun as S2 hal f2 => ?_
  · simp
    exact okR_draw HP.toHD e (by decide) (by decide) fun v S' a b l f => by simp; exact h _ _ f
  have e2 := e1.trans f2
  have s3 : smallI 3 = true := by simp [smallI]
  simp [small0, s3]
  have hA2 : (S2 ++ [O.lst (as.map D.bl)])[S2.length]? = some (.lst (as.map .bl)) := at_end
  refine toss_ok (k := 3) (by omega) e2.push (fun x S Q' e h => ⟨_, rfl, ?_⟩) fun ts S3 htl f3 => ?_
  · simp
    exact okR_draw HP.toHD e (by decide) (by decide) fun v S' a b l f => by simp; exact h _ _ f
  have e3 := e2.push.trans f3
  have hlt3 := e2.lt
  have hle3 := e2.len
  have hA3 := f3.at (by omega) hA2
  try simp
  have hT4 : (S3 ++ [O.lst (ts.map D.bl)])[S3.length]? = some (.lst (ts.map .bl)) := at_end
  have hA4 : (S3 ++ [O.lst (ts.map D.bl)])[S2.length]? = some (.lst (as.map .bl)) := at_old hA3
  have hlen3 := e3.len
  refine parts_ok HP e3.push (by omega) fun s S7 ok f7 => ?_
  have hT7 := f7.at (by omega) hT4
  have hA7 := f7.at (by omega) hA4
  simp [Si.bd, Si.pd, pick]
  have mk := make_ok (S := S7) HS ok (N := 38) (by omega) (Q := fun d S' => d = .ref S7.length ∧ Gr S7 S' ∧ S'[S7.length]? = some (siteO ix.toLk s)) fun S' g h => ⟨rfl, g, h⟩
  simp [Si.bd, Si.pd] at mk
  refine okR_imp mk ?_
  rintro d S8 ⟨rfl, g8, hs8⟩
  have hT8 := g8.at hT7
  have hA8 := g8.at hA7
  have hbl := ok.bl
  obtain ⟨fl, hfl, hcut⟩ : ∃ fl : List Bool, fl.length = s.bits.length ∧ cutL (ts.map D.bl) none (some (s.bits.length : Int)) = fl.map D.bl := ⟨ts.take s.bits.length, by simp [htl]; omega, by rw [cut_hi (by omega)]; simp⟩
  simp only [setE_nm, nxE_nx]
  have hF9 : (S8 ++ [O.lst (fl.map D.bl)])[S8.length]? = some (.lst (fl.map D.bl)) := at_end
  simp [slc_ref (its_lst hT8), hcut, bf_tuple_ref (its_lst hF9)]
  have hs9 : (S8 ++ [O.lst (fl.map D.bl)])[S7.length]? = some (siteO ix.toLk s) := at_old hs8
  have hA9 : (S8 ++ [O.lst (fl.map D.bl)])[S2.length]? = some (.lst (as.map .bl)) := at_old hA8
  generalize (S8 ++ [O.lst (fl.map D.bl)]) = S9 at hs9 hA9 ⊢
  obtain ⟨a, as', rfl⟩ : ∃ a as', as = a :: as' := by
    cases as with
    | nil => simp at hal; omega
    | cons a as' => exact ⟨a, as', rfl⟩
  have s2 : smallI 2 = true := by simp [smallI]
  have hcut3 : ∀ a b c d e : D, cutL [a, b, c, d, e] none (some 3) = [a, b, c] := fun a b c d e => by rw [cut_hi (by decide)]; rfl
  have hcut1 : cutL (D.bl a :: as'.map D.bl) (some 1) none = as'.map D.bl := by rw [cut_lo (by decide)]; rfl
  refine okS_for0 (fun j Γ S' => Gr S9 S' ∧ ∃ o9 o10 o11 o12 o13 o14 o15 o16 : Option D, Γ = [some (.ref 0), some (.ref 3), some (.int (1 + m)), some (.ref S2.length), some (.ref S3.length), some (.tup [.tup (s.bits.map .str), .tup (s.pages.map Pge.d), .str s.start, .int s.keep]), some (.tup (s.bits.map .str)), some (.ref S7.length), some (.tup (fl.map .bl)), o9, o10, o11, o12, o13, o14, o15, o16]) ⟨Gr.refl, none, none, none, none, none, none, none, none, rfl⟩ (fun _ _ _ _ => rfl) ?_ ?_
  · rintro j x Γ Sa hx ⟨ga, o9, o10, o11, o12, o13, o14, o15, o16, rfl⟩
    obtain ⟨p, hp, rfl⟩ := map_get hx
    have hpm : p ∈ s.pages := List.mem_of_getElem? hp
    refine ⟨_, by simp [Pge.d]; rfl, ?_⟩
    simp [small0, s2]
    refine okS_for0 (fun k Γ S' => Gr S9 S' ∧ ∃ o11 o12 o13 o14 o15 o16 : Option D, Γ = [some (.ref 0), some (.ref 3), some (.int (1 + m)), some (.ref S2.length), some (.ref S3.length), some (.tup [.tup (s.bits.map .str), .tup (s.pages.map Pge.d), .str s.start, .int s.keep]), some (.tup (s.bits.map .str)), some (.ref S7.length), some (.tup (fl.map .bl)), some (.str p.name), some (.tup [.tup p.en.l, .tup p.lv.l, .bl p.ld]), o11, o12, o13, o14, o15, o16]) ⟨ga, _, _, _, _, _, _, rfl⟩ (fun _ _ _ _ => rfl) ?_ ?_
    · rintro k x Γ Sb hx ⟨gb, o11, o12, o13, o14, o15, o16, rfl⟩
      obtain ⟨hk, rfl⟩ := rngL_get' hx
      obtain ⟨en, hen1, hen2⟩ : ∃ en : Bool, L2.atI [D.str [101, 110, 116, 101, 114], D.str [108, 101, 97, 118, 101]] (k : Int) = some (.str (sideS en)) ∧ L2.atI [D.tup p.en.l, D.tup p.lv.l, D.bl p.ld] (k : Int) = some (.tup (p.rows en).l) := by
        match k, hk with
        | 0, _ => exact ⟨true, by simp [sideS], by simp [Pge.rows]⟩
        | 1, _ => exact ⟨false, by simp [sideS], by simp [Pge.rows]⟩
        | k + 2, hk => omega
      obtain ⟨hok, hcn⟩ := Pge.rows_ok (ok.pg p hpm) en
      have hgt := Rws.ok_hgt (p.rows en) 1 (by omega) hok
      refine ⟨_, rfl, ?_⟩
      have hra := ras_all (ix := ix.toLk) H.asks 3 39 (by omega) (p.rows en) [] Sb (by omega) (by simp; omega) (by omega)
      unfold RasP at hra
      simp [posD] at hra
      simp [hen1, hen2]
      refine okR_imp hra ?_
      rintro d Sc ⟨rfl, gc, hlc⟩
      simp [wk_lst hlc]
      refine okS_for0 (fun q Γ S' => Gr Sc S' ∧ ∃ o12 o14 o15 o16 : Option D, Γ = [some (.ref 0), some (.ref 3), some (.int (1 + m)), some (.ref S2.length), some (.ref S3.length), some (.tup [.tup (s.bits.map .str), .tup (s.pages.map Pge.d), .str s.start, .int s.keep]), some (.tup (s.bits.map .str)), some (.ref S7.length), some (.tup (fl.map .bl)), some (.str p.name), some (.tup [.tup p.en.l, .tup p.lv.l, .bl p.ld]), some (.int k), o12, some (.str (sideS en)), o14, o15, o16]) ⟨Gr.refl, _, _, _, _, rfl⟩ (fun q Γ S' h => stays_lst (h.1.at hlc)) ?_ ?_
      · rintro q x Γ Sd hx ⟨gd, o12, o14, o15, o16, rfl⟩
        obtain ⟨pos, hpos, rfl⟩ := map_get hx
        have hin : pos ∈ (p.rows en).asks := List.mem_of_getElem? hpos
        obtain ⟨r, hat, hr⟩ := in_ask hin
        have hpl := at_len hok hat hr
        refine ⟨_, rfl, ?_⟩
        have g9d : Gr S9 Sd := gb.trans (gc.trans gd)
        have hAd := g9d.at hA9
        have hsd := g9d.at hs9
        simp only [List.map_cons] at hAd
        simp [hen2, item_lst hAd, posD]
        refine lafter_ok (n := 36) H.after HV hat (ask_two hr) hcn (by omega) fun i Se ge hie => ?_
        have hAe := ge.at hAd
        have hse := ge.at hsd
        simp [slc_ref (its_lst hAe), hcut1]
        refine lguard_ok (n := 36) (S := Se ++ [O.lst (as'.map D.bl)]) HV ok.bn ok.bl hfl (.inr ⟨_, rfl, at_end⟩) (at_old hie) (onP_ok hok hat) (by have := onP_pcnt (a := a) hat; unfold onP at this; omega) fun Sf gf _ _ => ?_
        have hAf := gf.at (at_old hAe)
        have hsf := gf.at (at_old hse)
        simp [hcut3]
        have hres := fun (S : Sto) (hs : S[S7.length]? = some (siteO ix.toLk s)) (ad : D) (as' : List Bool) (ha : AnsAt S ad as') (Q : D → Sto → Prop) (q : ∀ S', Gr S S' → Q (resD (onR s p en fl pos r as')) S') => resume_ok (n := 32) (en := en) HX HW HG HS ok hs hpm hfl ha hat hr (Q := Q) q
        have hsame := fun (as' : List Bool) (S : Sto) => same_ok (ix := ix.toLk) H.same 38 (resD (onR s p en fl pos r as')) S (plain_on (n := 35) ok hpm hfl hat hr)
        refine hres _ hsf (.ref S2.length) (a :: as') (.inr ⟨_, rfl, hAf⟩) _ fun Sg gg => ?_
        change okR (callT T 39 ix.f__law_same [resD (onR s p en fl pos r (a :: as')), resD (onR s p en fl pos r (a :: as'))] Sg) _
        rw [hsame]
        simp
        refine hres _ (gg.at hsf) (.tup []) [] (.inl rfl) _ fun Sh gh => ?_
        change okR (callT T 39 ix.f__law_same [resD (onR s p en fl pos r []), resD (onR s p en fl pos r [])] Sh) _
        rw [hsame]
        simp
        exact gd.trans (ge.trans (Gr.trans ⟨_, rfl⟩ (gf.trans (gg.trans gh))))
      · rintro Γ Sd ⟨gd, o12, o14, o15, o16, rfl⟩
        simp
        exact gb.trans (gc.trans gd)
    · rintro Γ Sb ⟨gb, o11, o12, o13, o14, o15, o16, rfl⟩
      simp
      exact gb
  · rintro Γ Sa ⟨ga, o9, o10, o11, o12, o13, o14, o15, o16, rfl⟩
    simp
end
end G

set_option linter.all false
set_option Elab.async false
set_option maxRecDepth 100000
set_option maxHeartbeats 0
set_option autoImplicit false
/-! the program of the law as tables (printed by gen.py) -/
namespace G
noncomputable section
open PySem PySem.Spec PyProof.Rows L2 DL
def top (i : Nat) : Stmt := (PySem.Challenge.pw_ledelsewhere_k99_resume_anywhere).main.body.getD i (.Pass ⟨0, 0, 0, 0⟩)
def inCls (i k : Nat) : Stmt := (match top i with
  | .ClassDef (body := b) .. => b
  | _ => []).getD k (.Pass ⟨0, 0, 0, 0⟩)
def nms0 : List Str := ["__init__", "__eq__", "__len__", "__contains__", "__getitem__", "__setitem__", "__iadd__", "__or__", "__and__", "__sub__", "__xor__", "__bool__", "__ior__", "__isub__", "__iter__", "__str__", "address", "after", "again", "answer", "answer_ask", "arrive", "attempt", "back", "backs", "before", "begin_way", "beginning", "bit", "bits"]
def nms1 : List Str := ["bound", "bound_on_tuples", "changes", "click", "close_page", "current", "deed", "deed_list", "deeds_between", "deeds_done", "do_starts", "done", "drop_way", "earlier", "end_load", "end_way", "enter", "enter_rows", "events", "faults", "first", "first_faults", "five", "flags", "flip_bit", "flips", "follow", "fork", "forward", "further_steps"]
def nms2 : List Str := ["go_on", "guard", "guard_at", "guard_paths", "has_path", "history", "is_complete", "is_free", "is_quiet", "joined", "keep", "keep_tuple", "kind", "kinds", "known", "last_events", "late", "late_pages", "lead", "least_fault", "least_run", "led", "left", "limit", "line", "load", "loads", "loads_flag", "look_from", "marked_kinds"]
def nms3 : List Str := ["most", "move", "moves", "name", "named", "newer", "note", "only", "open_row", "open_rows", "origins", "outcome", "page", "page_names", "page_now", "page_parts", "pages", "pairs", "part", "parted", "path", "paths", "perform", "place", "place_of", "places", "plan", "position", "present", "put_guard"]
def nms4 : List Str := ["put_site", "read", "read_else", "read_end", "read_page", "read_part", "read_row", "redo", "row_at", "row_paths", "rows", "rule", "rule_list", "second", "seen", "set_bound", "settle", "shown", "side", "site", "spot", "standing", "standing_now", "standings", "start", "steps_done", "take_late", "target", "targets", "tell"]
def nms5 : List Str := ["told", "trial", "turn", "turn_address", "undo", "undone", "value", "verdict", "verdicts", "wait", "waiting", "watched", "way", "where", "with_guard", "with_part", "with_row"]
def nms : List Str := nms0 ++ nms1 ++ nms2 ++ nms3 ++ nms4 ++ nms5
def lk : Lx := { f_Site_page_names := 0, f_Site_loads := 0, f__law_put := 0, x_InvalidPath := 0, f_replaced := 0, f_Site_guard_paths := 0, f_Site_row_paths := 0, f_Site_has_path := 0, f_Site_row_at := 0, f_Site_with_row := 0, f_Site_with_guard := 0, f__law_told := 0, f_Site_is_quiet := 0, f_walk_guard := 0, f_run_guard := 0, f__law_parted := 0, f_all_ends := 0, f_letting_answers := 0, f_lets := 0, f_fits_part := 0, f_Rule___init__ := 0, f_Rule___eq__ := 0, f_Rule___str__ := 0, f_Rule_five := 0, c_Rule := 0, g_PARTS := 0, g_TURNS := 0, g_NEWERS := 0, g_LEADS := 0, x_InvalidRule := 0, f_all_rules := 0, f__law_five := 0, f_Rule_with_part := 0, f_put_page := 0, f_all_flags := 0, f_is_deed := 0, f_deeds := 0, g_PLAIN_DEEDS := 0, g_LATE_DEEDS := 0, g_MOST_LATE := 0, f_are_pages_of := 0, f_is_place := 0, f_is_way := 0, f_is_standing := 0, f__law_rule := 0, f__law_deed := 0, f__law_flags := 0, f__law_suits := 0, f__law_way := 0, f__law_stand := 0, g_STAGES := 0, g_MOST_LEADS := 0, f_Step___init__ := 0, f_begin := 0, c_Step := 0, f_Course___init__ := 0, f_Course_standing_now := 0, f_Course_tell := 0, f_Course_target := 0, f_Course_wait := 0, f_Course_end_way := 0, f_Course_begin_way := 0, f_Course_guard_at := 0, f_Course_settle := 0, f_Course_enter := 0, f_Course_follow := 0, f_Course_turn_address := 0, f_Course_go_on := 0, f_Course_arrive := 0, f_Course_answer_ask := 0, f_Course_end_load := 0, f_Course_take_late := 0, f_Course_flip_bit := 0, f_Course_drop_way := 0, f_Course_move := 0, f_step := 0, c_Course := 0, x_InvalidStanding := 0, x_InvalidDeed := 0, x_TooManyLeads := 0, f__law_page := 0, f__law_wait := 0, f__law_led := 0, f__law_did := 0, f_pair_of := 0, f_first_standing := 0, f_Live___init__ := 0, f_Live_standing := 0, f_Live_further_steps := 0, f_Live_perform := 0, f_Live_click := 0, f_Live_back := 0, f_Live_forward := 0, f_Live_answer := 0, f_Live_load := 0, f_Live_late := 0, f_Live___getitem__ := 0, f_Live___setitem__ := 0, f_Live___contains__ := 0, f_Live___iter__ := 0, f_Live___len__ := 0, f_Live___iadd__ := 0, f_Live_last_events := 0, f_Live_deeds_done := 0, f_Live_seen := 0, f__law_perform := 0, c_Live := 0, x_UnknownBit := 0, f_newly_shown := 0, f_found_words := 0, f_faults_at_rest := 0, f_was_asked := 0, f_is_step_way := 0, f_written_over := 0, f_faults_of_showing := 0, f_faults := 0, g_KINDS := 0, f__law_found := 0, f_Live_undo := 0, f_Live_fork := 0, x_NothingToUndo := 0, f_Live_trial := 0, f_row_lines := 0, f_joined := 0, f_format_site := 0, f_PageReader___init__ := 0, f_PageReader_is_complete := 0, f_PageReader_close_page := 0, f_PageReader_read_page := 0, f_PageReader_read_part := 0, f_PageReader_read_else := 0, f_PageReader_read_end := 0, f_PageReader_open_row := 0, f_PageReader_read_row := 0, f_PageReader_read := 0, f_plain_row := 0, f_head_fits := 0, f_split_lines := 0, f_parse_site := 0, f__law_lines := 0, f__law_text := 0, c_PageReader := 0, x_InvalidText := 0, f_flag_word := 0, f_deed_line := 0, f_format_deeds := 0, f_read_deed := 0, f_parse_deeds := 0, x_NothingToRedo := 0, x_InvalidBound := 0, x_LimitExceeded := 0, x_NoStanding := 0, x_NoFault := 0, x_InvalidKind := 0, x_NotComparable := 0, x_InvalidChange := 0, x_InvalidRules := 0, f_check_bound := 0, f_outcome := 0, f_run_to := 0, f_Book___init__ := 0, f_Book_note := 0, f_Book_look_from := 0, f_Book_place_of := 0, f_Book___len__ := 0, f_Book___contains__ := 0, f_Book_moves := 0, f_Book_standings := 0, f_Book_least_run := 0, f_Book_follow := 0, f_Book_faults := 0, f__law_cell := 0, f__law_draws := 0, f__law_leaf := 0, f__law_page_names := 0, f__law_site_bits := 0, f__law_site := 0, f__law_book := 0, c_Book := 0, f__law_after := 0, f__law_key := 0, f__law_reach := 0, f_Book_deeds_between := 0, f_look := 0, f_parts_ways := 0, f_parting := 0, f_row_or_none := 0, f_check_kind := 0, f_Verdict___init__ := 0, f_Verdict_pairs := 0, f_Verdict_kinds := 0, f_Verdict___or__ := 0, f_Verdict___and__ := 0, f_Verdict___sub__ := 0, f_Verdict___xor__ := 0, f_Verdict___eq__ := 0, f_Verdict___len__ := 0, f_Verdict___contains__ := 0, f_Verdict___bool__ := 0, f_Book_is_free := 0, f_Book_verdict := 0, f__law_faults_of := 0, c_Verdict := 0, f_Book_least_fault := 0, f_closed_kinds := 0, f_is_closed := 0, f__law_small_book := 0, f__law_start := 0, f_shows_free := 0, f_Verdict_only := 0, f_moved := 0, f_check_comparable := 0, f_Comparison___init__ := 0, f_Comparison_keep_tuple := 0, f_Comparison_do_starts := 0, f_Comparison_go_on := 0, f_difference := 0, f_alike := 0, f__law_second := 0, f__law_two := 0, f__law_look := 0, c_Comparison := 0, f_pairing := 0, f_is_joined := 0, f_is_pairing := 0, f_grouped := 0, f_numbered := 0, f_refined := 0, f_classes := 0, f_check_rules := 0, f_rules_alike := 0, f_most_leads := 0, f_never_done := 0, f_least_shown := 0, f_is_settled := 0, f_lost := 0, f_is_rule_change := 0, f_is_guard_change := 0, f_is_change := 0, f_aim := 0, f_with_changes := 0, f_fault_kinds := 0, f_check_candidates := 0, f_sets_of := 0, f_heals := 0, f_rules_free := 0, f_Desk___init__ := 0, f_Desk_set_bound := 0, f_Desk___ior__ := 0, f_Desk___isub__ := 0, f_Desk___iter__ := 0, f_Desk___getitem__ := 0, f_Desk___setitem__ := 0, f_Desk___len__ := 0, f_Desk_put_guard := 0, f_Desk_put_site := 0, f_Desk_undo := 0, f_Desk_redo := 0, c_Desk := 0, f_Desk_verdicts := 0, f_Desk_attempt := 0, f_is_integer := 0, f_is_name := 1, f_is_one_of := 2, f_are_names := 3, f_are_bits := 4, f_is_page := 5, f_are_pages := 6, f_branches := 7, f_two_tuples := 8, f_row_fits := 9, f_first_unfit := 10, f_rows_in_order := 11, f_check_guard := 12, f_Site___init__ := 13, f_Site___eq__ := 14, f_Site_page_parts := 15, f_Site_guard := 16, f_Walk___init__ := 17, f_are_flags := 18, f_check_guard_call := 19, f_entries := 20, f_inside := 21, f_pending_after := 22, f_walk_entries := 23, f_walk_on := 24, f_is_ask_position := 25, f_resume_guard := 26, f__law_mix := 27, f__law_box := 28, f__law_draw := 29, f__law_names := 30, f__law_word := 31, f__law_rows := 32, f__law_row := 33, f__law_parts := 34, f__law_same := 35, f__law_entries := 36, f__law_branch := 37, f__law_value := 38, f__law_guard := 39, f__law_after_ask := 40, f__law_asks := 41, f_law := 42, c_Site := 0, c_Walk := 1, g_LETTERS := 0, g_SIDES := 1, g_MOST_ROWS := 2, g_DEEPEST := 3, x_LedError := 0, x_InvalidSite := 1, x_InvalidFlags := 2, x_InvalidSide := 3, x_InvalidPosition := 4, x_UnknownPage := 5 }
def fnsN0 : List (Str × Nat) := [("is_integer", 0), ("is_name", 1), ("is_one_of", 2), ("are_names", 3), ("are_bits", 4), ("is_page", 5), ("are_pages", 6), ("branches", 7), ("two_tuples", 8), ("row_fits", 9), ("first_unfit", 10), ("rows_in_order", 11), ("check_guard", 12), ("are_flags", 18), ("check_guard_call", 19), ("entries", 20), ("inside", 21), ("pending_after", 22), ("walk_entries", 23), ("walk_on", 24), ("is_ask_position", 25), ("resume_guard", 26), ("_law_mix", 27), ("_law_box", 28), ("_law_draw", 29), ("_law_names", 30), ("_law_word", 31), ("_law_rows", 32), ("_law_row", 33), ("_law_parts", 34)]
def fnsN1 : List (Str × Nat) := [("_law_same", 35), ("_law_entries", 36), ("_law_branch", 37), ("_law_value", 38), ("_law_guard", 39), ("_law_after_ask", 40), ("_law_asks", 41), ("law", 42)]
def fnsN : List (Str × Nat) := fnsN0 ++ fnsN1
def shps : List (Nat × Nat × List Str × List (Nat ⊕ D)) := [(11, 1, [], [.inl 0, .inr (.tup [])]), (13, 3, ["keep"], [.inl 0, .inl 1, .inl 2, .inl 3]), (26, 5, [], [.inl 0, .inl 1, .inl 2, .inl 3, .inl 4, .inr (.tup [])])]
def ccs : CC := { shp := shps, nms := nms, fns := fnsN, cls := [("Site", 0), ("Walk", 1)], glo := [("LETTERS", 0), ("SIDES", 1), ("MOST_ROWS", 2), ("DEEPEST", 3)], exc := [("LedError", 0), ("InvalidSite", 1), ("InvalidFlags", 2), ("InvalidSide", 3), ("InvalidPosition", 4), ("UnknownPage", 5)] }
def d0 : Df := ⟨("is_integer", none), "is_integer", "is_integer", defArgs (top 13), defBody (top 13), defScope (top 13), [], [], ["value"], ["value"]⟩
def d1 : Df := ⟨("is_name", none), "is_name", "is_name", defArgs (top 14), defBody (top 14), defScope (top 14), [], [], ["value", "sign"], ["value"]⟩
def d2 : Df := ⟨("is_one_of", none), "is_one_of", "is_one_of", defArgs (top 15), defBody (top 15), defScope (top 15), [], [], ["value", "names"], ["value", "names"]⟩
def d3 : Df := ⟨("are_names", none), "are_names", "are_names", defArgs (top 16), defBody (top 16), defScope (top 16), [], [], ["value", "item"], ["value"]⟩
def d4 : Df := ⟨("are_bits", none), "are_bits", "are_bits", defArgs (top 17), defBody (top 17), defScope (top 17), [], [], ["value"], ["value"]⟩
def d5 : Df := ⟨("is_page", none), "is_page", "is_page", defArgs (top 18), defBody (top 18), defScope (top 18), [], [], ["value"], ["value"]⟩
def d6 : Df := ⟨("are_pages", none), "are_pages", "are_pages", defArgs (top 19), defBody (top 19), defScope (top 19), [], [], ["value", "pair"], ["value"]⟩
def d7 : Df := ⟨("branches", none), "branches", "branches", defArgs (top 20), defBody (top 20), defScope (top 20), [], [], ["row"], ["row"]⟩
def d8 : Df := ⟨("two_tuples", none), "two_tuples", "two_tuples", defArgs (top 21), defBody (top 21), defScope (top 21), [], [], ["values"], ["values"]⟩
def d9 : Df := ⟨("row_fits", none), "row_fits", "row_fits", defArgs (top 22), defBody (top 22), defScope (top 22), [], [], ["row", "depth", "side", "bits", "names", "word"], ["row", "depth", "side", "bits", "names"]⟩
def d10 : Df := ⟨("first_unfit", none), "first_unfit", "first_unfit", defArgs (top 23), defBody (top 23), defScope (top 23), [], [], ["rows", "prefix", "side", "bits", "names", "index", "row", "position", "branch", "inner", "found"], ["rows", "prefix", "side", "bits", "names"]⟩
def d11 : Df := ⟨("rows_in_order", none), "rows_in_order", "rows_in_order", defArgs (top 24), defBody (top 24), defScope (top 24), [.tup []], [], ["rows", "prefix", "pairs", "index", "row", "position", "branch", "inner"], ["rows", "prefix"]⟩
def d12 : Df := ⟨("check_guard", none), "check_guard", "check_guard", defArgs (top 25), defBody (top 25), defScope (top 25), [], [], ["rows", "path", "bits", "names", "found", "page", "side", "start"], ["rows", "path", "bits", "names"]⟩
def d13 : Df := ⟨("Site", some "__init__"), "__init__", "Site.__init__", defArgs (inCls 26 0), defBody (inCls 26 0), defScope (inCls 26 0), [], [("keep", .int 4)], ["self", "bits", "pages", "start", "keep", "names", "name", "page", "pair"], ["self", "bits", "pages", "start", "keep"]⟩
def d14 : Df := ⟨("Site", some "__eq__"), "__eq__", "Site.__eq__", defArgs (inCls 26 1), defBody (inCls 26 1), defScope (inCls 26 1), [], [], ["self", "other"], ["self", "other"]⟩
def d15 : Df := ⟨("Site", some "page_parts"), "page_parts", "Site.page_parts", defArgs (inCls 26 3), defBody (inCls 26 3), defScope (inCls 26 3), [], [], ["self", "page", "name", "parts"], ["self", "page"]⟩
def d16 : Df := ⟨("Site", some "guard"), "guard", "Site.guard", defArgs (inCls 26 4), defBody (inCls 26 4), defScope (inCls 26 4), [], [], ["self", "page", "side", "parts"], ["self", "page", "side"]⟩
def d17 : Df := ⟨("Walk", some "__init__"), "__init__", "Walk.__init__", defArgs (inCls 28 0), defBody (inCls 28 0), defScope (inCls 28 0), [], [], ["self", "outcome", "where", "flags", "done", "changes"], ["self", "outcome", "where", "flags", "done", "changes"]⟩
def d18 : Df := ⟨("are_flags", none), "are_flags", "are_flags", defArgs (top 29), defBody (top 29), defScope (top 29), [], [], ["site", "value", "item"], ["site", "value"]⟩
def d19 : Df := ⟨("check_guard_call", none), "check_guard_call", "check_guard_call", defArgs (top 30), defBody (top 30), defScope (top 30), [], [], ["site", "page", "side", "flags", "rows"], ["site", "page", "side", "flags"]⟩
def d20 : Df := ⟨("entries", none), "entries", "entries", defArgs (top 31), defBody (top 31), defScope (top 31), [], [], ["rows", "prefix", "index", "row"], ["rows", "prefix"]⟩
def d21 : Df := ⟨("inside", none), "inside", "inside", defArgs (top 32), defBody (top 32), defScope (top 32), [], [], ["position", "row", "flag"], ["position", "row", "flag"]⟩
def d22 : Df := ⟨("pending_after", none), "pending_after", "pending_after", defArgs (top 33), defBody (top 33), defScope (top 33), [], [], ["rows", "position", "answer", "pending", "prefix", "level", "depth", "index", "row", "branch"], ["rows", "position", "answer"]⟩
def d23 : Df := ⟨("walk_entries", none), "walk_entries", "walk_entries", defArgs (top 34), defBody (top 34), defScope (top 34), [], [], ["bits", "pending", "flags", "answers", "values", "used", "done", "changes", "outcome", "where", "position", "row", "index", "flag", "bit"], ["bits", "pending", "flags", "answers"]⟩
def d24 : Df := ⟨("walk_on", none), "walk_on", "walk_on", defArgs (top 35), defBody (top 35), defScope (top 35), [], [], ["site", "page", "side", "flags", "position", "answers", "pending"], ["site", "page", "side", "flags", "position", "answers"]⟩
def d25 : Df := ⟨("is_ask_position", none), "is_ask_position", "is_ask_position", defArgs (top 36), defBody (top 36), defScope (top 36), [], [], ["rows", "value", "position", "row", "item"], ["rows", "value"]⟩
def d26 : Df := ⟨("resume_guard", none), "resume_guard", "resume_guard", defArgs (top 37), defBody (top 37), defScope (top 37), [.tup []], [], ["site", "page", "side", "flags", "position", "answers", "rows", "walk"], ["site", "page", "side", "flags", "position", "answers"]⟩
def d27 : Df := ⟨("_law_mix", none), "_law_mix", "_law_mix", defArgs (top 39), defBody (top 39), defScope (top 39), [], [], ["_law_value_here", "_law_k", "_law_number"], ["_law_value_here", "_law_k"]⟩
def d28 : Df := ⟨("_law_box", none), "_law_box", "_law_box", defArgs (top 40), defBody (top 40), defScope (top 40), [], [], ["_law_script", "_law_cells", "_law_seed", "_law_cell"], ["_law_script"]⟩
def d29 : Df := ⟨("_law_draw", none), "_law_draw", "_law_draw", defArgs (top 41), defBody (top 41), defScope (top 41), [], [], ["_law_box_here", "_law_many", "_law_digit", "_law_cell"], ["_law_box_here", "_law_many"]⟩
def d30 : Df := ⟨("_law_names", none), "_law_names", "_law_names", defArgs (top 42), defBody (top 42), defScope (top 42), [], [], ["_law_box_here", "_law_many", "_law_names_here", "_law_k", "_law_word_here", "_law_at", "_law_free", "_law_sign"], ["_law_box_here", "_law_many"]⟩
def d31 : Df := ⟨("_law_word", none), "_law_word", "_law_word", defArgs (top 43), defBody (top 43), defScope (top 43), [], [], ["_law_box_here", "_law_bits", "_law_side", "_law_depth", "_law_word_here"], ["_law_box_here", "_law_bits", "_law_side", "_law_depth"]⟩
def d32 : Df := ⟨("_law_rows", none), "_law_rows", "_law_rows", defArgs (top 44), defBody (top 44), defScope (top 44), [], [], ["_law_box_here", "_law_bits", "_law_names_here", "_law_side", "_law_depth", "_law_room", "_law_many", "_law_rows_here", "_law_k"], ["_law_box_here", "_law_bits", "_law_names_here", "_law_side", "_law_depth", "_law_room"]⟩
def d33 : Df := ⟨("_law_row", none), "_law_row", "_law_row", defArgs (top 45), defBody (top 45), defScope (top 45), [], [], ["_law_box_here", "_law_bits", "_law_names_here", "_law_side", "_law_depth", "_law_room", "_law_word_here", "_law_head", "_law_first", "_law_second"], ["_law_box_here", "_law_bits", "_law_names_here", "_law_side", "_law_depth", "_law_room"]⟩
def d34 : Df := ⟨("_law_parts", none), "_law_parts", "_law_parts", defArgs (top 46), defBody (top 46), defScope (top 46), [], [], ["_law_box_here", "_law_size", "_law_bits", "_law_names_here", "_law_pages", "_law_name", "_law_first", "_law_heavy", "_law_rooms", "_law_enter", "_law_leave"], ["_law_box_here"]⟩
def d35 : Df := ⟨("_law_same", none), "_law_same", "_law_same", defArgs (top 47), defBody (top 47), defScope (top 47), [], [], ["_law_told", "_law_due", "_law_k"], ["_law_told", "_law_due"]⟩
def d36 : Df := ⟨("_law_entries", none), "_law_entries", "_law_entries", defArgs (top 48), defBody (top 48), defScope (top 48), [], [], ["_law_rows_here", "_law_prefix", "_law_k"], ["_law_rows_here", "_law_prefix"]⟩
def d37 : Df := ⟨("_law_branch", none), "_law_branch", "_law_branch", defArgs (top 49), defBody (top 49), defScope (top 49), [], [], ["_law_spot", "_law_row_here", "_law_flag"], ["_law_spot", "_law_row_here", "_law_flag"]⟩
def d38 : Df := ⟨("_law_value", none), "_law_value", "_law_value", defArgs (top 50), defBody (top 50), defScope (top 50), [], [], ["_law_bits", "_law_flags", "_law_bit", "_law_k"], ["_law_bits", "_law_flags", "_law_bit"]⟩
def d39 : Df := ⟨("_law_guard", none), "_law_guard", "_law_guard", defArgs (top 51), defBody (top 51), defScope (top 51), [], [], ["_law_bits", "_law_pending", "_law_flags", "_law_answers", "_law_values", "_law_used", "_law_changes", "_law_done", "_law_k", "_law_spot", "_law_row_here", "_law_j"], ["_law_bits", "_law_pending", "_law_flags", "_law_answers"]⟩
def d40 : Df := ⟨("_law_after_ask", none), "_law_after_ask", "_law_after_ask", defArgs (top 52), defBody (top 52), defScope (top 52), [], [], ["_law_rows_here", "_law_where", "_law_answer", "_law_pending", "_law_prefix", "_law_k", "_law_row_here"], ["_law_rows_here", "_law_where", "_law_answer"]⟩
def d41 : Df := ⟨("_law_asks", none), "_law_asks", "_law_asks", defArgs (top 53), defBody (top 53), defScope (top 53), [], [], ["_law_rows_here", "_law_prefix", "_law_found", "_law_k", "_law_branch_here", "_law_inner"], ["_law_rows_here", "_law_prefix"]⟩
def d42 : Df := ⟨("law", none), "law", "law", defArgs (top 54), defBody (top 54), defScope (top 54), [], [], ["_law_script", "_law_box_here", "_law_many", "_law_answers", "_law_tosses", "_law_parts_here", "_law_bits", "_law_site", "_law_flags", "_law_name", "_law_page", "_law_half", "_law_k", "_law_side", "_law_spot", "_law_pending", "_law_due"], ["_law_script"]⟩
def fnL0 : List Fn := [F_is_integer lk.toLk, F_is_name lk.toLk, F_is_one_of lk.toLk, F_are_names lk.toLk, F_are_bits lk.toLk, F_is_page lk.toLk, F_are_pages lk.toLk, F_branches lk.toLk, F_two_tuples lk.toLk, F_row_fits lk.toLk, F_first_unfit lk.toLk, F_rows_in_order lk.toLk, F_check_guard lk.toLk, F_Site___init__ lk.toLk, F_Site___eq__ lk.toLk, F_Site_page_parts lk.toLk, F_Site_guard lk.toLk, F_Walk___init__ lk.toLk, F_are_flags lk.toLk, F_check_guard_call lk.toLk, F_entries lk.toLk, F_inside lk.toLk, F_pending_after lk.toLk, F_walk_entries lk.toLk, F_walk_on lk.toLk, F_is_ask_position lk.toLk, F_resume_guard lk.toLk, F__law_mix lk.toLk, F__law_box lk.toLk, F__law_draw lk.toLk]
def fnL1 : List Fn := [F__law_names lk.toLk, F__law_word lk.toLk, F__law_rows lk.toLk, F__law_row lk.toLk, F__law_parts lk.toLk, F__law_same lk.toLk, F__law_entries lk.toLk, F__law_branch lk.toLk, F__law_value lk.toLk, F__law_guard_v2 lk.toLk, F__law_after_ask lk.toLk, F__law_asks lk.toLk, X_law lk]
def fnL : List Fn := fnL0 ++ fnL1
def dfL0 : List Df := [d0, d1, d2, d3, d4, d5, d6, d7, d8, d9, d10, d11, d12, d13, d14, d15, d16, d17, d18, d19, d20, d21, d22, d23, d24, d25, d26, d27, d28, d29]
def dfL1 : List Df := [d30, d31, d32, d33, d34, d35, d36, d37, d38, d39, d40, d41, d42]
def dfL : List Df := dfL0 ++ dfL1
def c0 : Cls := ⟨[29, 70, 106, 144], [(0, 13), (1, 14), (105, 15), (61, 16)]⟩
def c1 : Cls := ⟨[32, 41, 53, 101, 163], [(0, 17)]⟩
def TT : Tb := { fns := fnL, cls := [c0, c1], glo := [.str [97, 98, 99, 100, 101, 102, 103, 104, 105, 106, 107, 108, 109, 110, 111, 112, 113, 114, 115, 116, 117, 118, 119, 120, 121, 122], .tup [.str [101, 110, 116, 101, 114], .str [108, 101, 97, 118, 101]], .int 8, .int 3] }
def pg : Pg := { cc := ccs, T := TT, cn := ["Site", "Walk"], ds := dfL, xn := [("LedError", []), ("InvalidSite", ["part", "path"]), ("InvalidFlags", ["flags"]), ("InvalidSide", ["side"]), ("InvalidPosition", ["position"]), ("UnknownPage", ["page"])] }
theorem stB : pg.stB = true := by kernel_rfl
theorem stD : pg.stD = true := by kernel_rfl
theorem cmpAll : pg.ds.map pg.cmp = pg.T.fns.map (·.body) := by kernel_rfl
theorem sh0 (K : PySem.W.Frag) : ShOk pg K (11, 1, [], [.inl 0, .inr (.tup [])]) := by
  intro d fn fd dvs kws hd hf F rd rk
  cases hd; cases hf
  exact sbB (dfl := d11.dfl) F rd (by intro z; cases z) rfl rfl (fun T kV doc pm an cdv ct fs us ws its hfs hus hws hits => match fs, hfs with | [], _ => match us, hus with | [us0], _ => match ws, hws with | [], _ => match its, hits with | [its0], _ => ⟨_, rfl, rfl⟩)
theorem sh1 (K : PySem.W.Frag) : ShOk pg K (13, 3, ["keep"], [.inl 0, .inl 1, .inl 2, .inl 3]) := by
  intro d fn fd dvs kws hd hf F rd rk
  cases hd; cases hf
  have e0 : dvs = [] := by have := rd [] (fun _ => none); cases this; rfl
  subst e0
  exact sbA F rfl rfl (fun kV doc pm an cdv ct fs us ws hfs hus hws => match fs, hfs with | [fs0], _ => match us, hus with | [us0, us1, us2], _ => match ws, hws with | [ws0], _ => rfl)
theorem sh2 (K : PySem.W.Frag) : ShOk pg K (26, 5, [], [.inl 0, .inl 1, .inl 2, .inl 3, .inl 4, .inr (.tup [])]) := by
  intro d fn fd dvs kws hd hf F rd rk
  cases hd; cases hf
  exact sbB (dfl := d26.dfl) F rd (by intro z; cases z) rfl rfl (fun T kV doc pm an cdv ct fs us ws its hfs hus hws hits => match fs, hfs with | [], _ => match us, hus with | [us0, us1, us2, us3, us4], _ => match ws, hws with | [], _ => match its, hits with | [its0], _ => ⟨_, rfl, rfl⟩)
theorem shAll (K : PySem.W.Frag) (q : Nat × Nat × List Str × List (Nat ⊕ D)) (h : q ∈ pg.cc.shp) : ShOk pg K q := by
  have h : q ∈ shps := h
  unfold shps at h
  simp only [List.mem_cons, List.not_mem_nil, or_false] at h
  rcases h with rfl | rfl | rfl
  · exact sh0 K
  · exact sh1 K
  · exact sh2 K
theorem ok : pg.Ok := ⟨stB, stD, cmpAll, shAll⟩
end
end G

set_option linter.all false
set_option Elab.async false
set_option maxRecDepth 100000
set_option maxHeartbeats 0
namespace G
noncomputable section
open PySem PySem.W PySem.Calls PyProof.Rows
abbrev R : OpenRow := OpenLaw.row PySem.Challenge.rw_ledelsewhere_k99_resume_anywhere
abbrev qv : Program := view R.prog [54]
def names0 : List PySem.Str := ["_wall", "__name__", "LedError", "InvalidSite", "InvalidFlags", "InvalidSide", "InvalidPosition", "UnknownPage", "LETTERS", "SIDES", "MOST_ROWS", "DEEPEST", "is_integer", "is_name", "is_one_of", "are_names", "are_bits", "is_page", "are_pages", "branches", "two_tuples", "row_fits", "first_unfit", "rows_in_order", "check_guard", "Site", "Walk", "are_flags", "check_guard_call", "entries"]
def names1 : List PySem.Str := ["inside", "pending_after", "walk_entries", "walk_on", "is_ask_position", "resume_guard", "_law_mix", "_law_box", "_law_draw", "_law_names", "_law_word", "_law_rows", "_law_row", "_law_parts", "_law_same", "_law_entries", "_law_branch", "_law_value", "_law_guard", "_law_after_ask", "_law_asks"]
def names : List PySem.Str := names0 ++ names1
abbrev hk : Hook := DL.Pg.hook pg 5
def ob (s : SharedT) : He.AlD := DL.Pg.obsG pg 5 (HandSHeadRun.getT s)
theorem ob_eq (s : SharedT) : ob s = hk.obs s.abs := DL.Pg.obsG_eq (HandSHeadRun.getT_eq s)
theorem run (w : World) : HandSHeadRun.RunEq R qv hk ob 6000 names w := by
  intro os
  kernel_rfl
end
end G

set_option linter.all false
set_option maxRecDepth 100000
namespace G
open DL
theorem hHP : HP pg.T lk.toLk := ⟨⟨⟨rfl, rfl⟩, rfl, rfl, rfl⟩, rfl, rfl⟩
theorem hHS : HS pg.T lk.toLk := ⟨rfl, rfl, rfl, rfl, rfl, rfl, rfl, rfl, rfl, rfl, rfl, rfl, rfl, rfl, rfl, rfl, rfl, ⟨_, rfl, rfl, rfl, rfl, rfl, rfl⟩⟩
theorem hHG : HG pg.T lk.toLk := ⟨rfl, rfl, rfl, rfl, rfl⟩
theorem hHW : HW0 pg.T lk.toLk := ⟨rfl, rfl, rfl, rfl, rfl, rfl, ⟨_, rfl, rfl, rfl, rfl, rfl, rfl, rfl⟩⟩
theorem hHV : HV pg.T lk.toLk := ⟨rfl, rfl, rfl, rfl⟩
theorem hHX : HX pg.T lk.toLk := ⟨rfl, rfl, rfl, rfl⟩
theorem hH99 : H99 pg.T lk := ⟨rfl, rfl, rfl, rfl, rfl⟩
theorem law_pure (ns : List Int) (h : ns.length ≤ 63) : ∃ S, callT pg.T 40 42 [.ref 0] [.ro (ns.map D.int)] = .ok (.bl true) S := by
  obtain ⟨d, S, e, rfl⟩ := okR_ex (law99_ok (T := pg.T) (ix := lk) hHP hHS hHG hHW hHX hHV hH99 ns h)
  exact ⟨S, e⟩
end G

set_option linter.all false
set_option Elab.async false
open PySem PySem.W PySem.Calls PyProof.Rows
set_option maxRecDepth 100000 in
set_option maxHeartbeats 0 in
theorem PySem.Challenge.cw_ledelsewhere_k99_resume_anywhere_holds : PySem.Challenge.rw_ledelsewhere_k99_resume_anywhere.Holds := by
  w_on; o_law
  refine HandSHeadRun.head_any (r := OpenLaw.row PySem.Challenge.rw_ledelsewhere_k99_resume_anywhere) (q := G.qv) (H := G.hk) (ob := G.ob) (M := 6000) (loose := G.names) (d := HandSHeadRun.topDef (OpenLaw.row PySem.Challenge.rw_ledelsewhere_k99_resume_anywhere).prog 54) (kwd := []) G.ob_eq
    (by kernel_rfl) (fun s => by kernel_rfl) G.run (by kernel_rfl) (by kernel_rfl) (by kernel_rfl) (by rfl) (by first | assumption | decide +kernel) (by decide +kernel) ⟨rfl, rfl, rfl, rfl, rfl, by decide +kernel⟩ ?hw ?hc
  case hw => w_witness2
  case hc => exact DL.Pg.walk (l := PySem.Challenge.rw_ledelsewhere_k99_resume_anywhere) (p := G.pg) G.ok (n := 63) (m := 40) (f := 42) (fn := G.X_law G.lk) (df := G.d42) (x := "_law_script") rfl (by decide) (by kernel_rfl) ⟨rfl, by decide, by decide⟩ (by kernel_rfl) (by kernel_rfl) (by kernel_rfl) (by kernel_rfl) (by kernel_rfl) (by kernel_rfl) (by kernel_rfl) G.law_pure
