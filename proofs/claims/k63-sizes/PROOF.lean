import PyProof.Rows.All
import Wide.All
import OpenK.AllK
import Wide.FinOn
import HandS.ForMost
import HandS.IsInst
import HandS.Deep
import HandS.Wide
import HandS.TupAny
import KE.SortData
import KE.LtData
import HandS.TupMul
import HandS.Style
import HandS.Flow
import HandS.Zip
import HandS.Defaults
import HandS.Head0
import HandS.Head1
import HandS.Head2
import HandS.HeadEnd
import HandS.HeadHook1
import HandS.HeadHook2
import PySem.Challenge.RW_liftedworlds_k63_sizes_by_kind
set_option Elab.async false
set_option linter.all false
set_option maxRecDepth 100000
set_option maxHeartbeats 4000000
set_option exponentiation.threshold 30000
/-! Cv1: data, a small core language, what it means. -/
namespace Cv
open PySem

/-- data: what a value comes to -/
inductive D where
  | non | bl (b : Bool) | int (i : Int) | str (s : Str) | tup (xs : List D) | lst (xs : List D)
  | dct (ks vs : List D) | set (xs : List D) | obj (n : Nat) | fn (n : Nat)

mutual
def D.py : D → PyData
  | .non => .none
  | .bl b => .bool b
  | .int i => .int i
  | .str s => .str s
  | .tup xs => .tuple (D.pys xs)
  | .lst xs => .list (D.pys xs)
  | .dct _ _ => .none
  | .set _ => .none
  | .obj _ => .none
  | .fn _ => .none
def D.pys : List D → List PyData
  | [] => []
  | x :: xs => D.py x :: D.pys xs
end
mutual
/-- nothing in it but numbers, truths, None, texts, tuples, lists -/
def D.pl : D → Bool
  | .non => true
  | .bl _ => true
  | .int _ => true
  | .str _ => true
  | .tup xs => D.pls xs
  | .lst xs => D.pls xs
  | .dct _ _ => false
  | .set _ => false
  | .obj _ => false
  | .fn _ => false
def D.pls : List D → Bool
  | [] => true
  | x :: xs => D.pl x && D.pls xs
end

/-- objects that change: with fields, with cells; the store -/
inductive Ob where
  | fl (fs : List (Str × D))
  | cel (ds : List D)
abbrev Sto := List Ob
def M (α : Type) := Sto → Option (α × Sto)
def M.ret {α : Type} (a : α) : M α := fun S => some (a, S)
def M.bnd {α β : Type} (m : M α) (f : α → M β) : M β := fun S => match m S with
  | none => none
  | some (a, S1) => f a S1
def M.no {α : Type} : M α := fun _ => none
def M.opt {α : Type} : Option α → M α
  | none => M.no
  | some a => M.ret a
instance : Monad M where
  pure := M.ret
  bind := M.bnd

/-- containers that one name alone holds -/
inductive Ow where
  | ol (xs : List D)
inductive Sl where
  | no | val (d : D) | own (o : Ow)
abbrev En := List Sl

/-! ### operations on data -/
inductive Bo where
  | add | sub | mul | fdiv | mod | pow
inductive Co where
  | lt | le | gt | ge | eq | ne | isin | notin | isn | notn
/-- of a size that arithmetic may meet -/
def sm (i : Int) : Bool := decide (i.natAbs.log2 < 8000)
def repI (n : Int) (xs : List D) : List D := (List.replicate n.toNat xs).flatten
def binD : Bo → D → D → Option D
  | .add, .int a, .int b => some (.int (a + b))
  | .add, .bl a, .int b => some (.int ((if a then 1 else 0) + b))
  | .add, .str a, .str b => if a.length + b.length ≤ sizeLine then some (.str (a ++ b)) else none
  | .add, .tup a, .tup b => if a.length + b.length ≤ sizeLine then some (.tup (a ++ b)) else none
  | .add, .lst a, .lst b => if a.length + b.length ≤ sizeLine then some (.lst (a ++ b)) else none
  | .sub, .int a, .int b => some (.int (a - b))
  | .mul, .int a, .int b => if sm a && sm b then some (.int (a * b)) else none
  | .mul, .tup a, .int n => if decide (2 ≤ n) && decide (n ≤ 1000) && decide (a.length ≤ 1000) then some (.tup (repI n a)) else none
  | .fdiv, .int a, .int b => if decide (b ≠ 0) && sm b then some (.int (a.fdiv b)) else none
  | .mod, .int a, .int b => if b ≠ 0 then some (.int (a.fmod b)) else none
  | .pow, .int a, .int b => if decide (0 ≤ b) && decide (b ≤ 1000) && decide (a.natAbs < 2 ^ 64) then some (.int (a ^ b.toNat)) else none
  | _, _, _ => none
def shp (d : D) : Bool := d.pl && SeqAt.shaped d.py
def memD (x : D) (xs : List D) : Bool := (D.pys xs).any fun z => PyData.eqv z x.py
def cmpD : Co → D → D → Option Bool
  | .lt, .int a, .int b => some (decide (a < b))
  | .le, .int a, .int b => some (decide (a ≤ b))
  | .gt, .int a, .int b => some (decide (b < a))
  | .ge, .int a, .int b => some (decide (b ≤ a))
  | .lt, .str a, .str b => some (PySem.W.dataLt (.str a) (.str b))
  | .le, .str a, .str b => some (!decide (b.cps.toList < a.cps.toList))
  | .ge, .str a, .str b => some (!decide (a.cps.toList < b.cps.toList))
  | .lt, .tup a, .tup b => if D.pls a && D.pls b && PySem.W.alikeAll (D.pys a) (D.pys b) && decide (PyData.depthAll (D.pys a) ≤ 64) then some (PySem.W.dataLt (.tuple (D.pys a)) (.tuple (D.pys b))) else none
  | .eq, .str a, .str b => some (a == b)
  | .ne, .str a, .str b => some (!(a == b))
  | .eq, x, y => if shp x && shp y then some (PyData.eqv x.py y.py) else none
  | .ne, x, y => if shp x && shp y then some (!PyData.eqv x.py y.py) else none
  | .isin, .str a, .str b => some (!(Builtin.Str.occurrences b a 0 b.length 1).isEmpty)
  | .notin, .str a, .str b => some (!(!(Builtin.Str.occurrences b a 0 b.length 1).isEmpty))
  | .isin, x, .lst ys => if shp x && shp (.lst ys) then some (memD x ys) else none
  | .notin, x, .lst ys => if shp x && shp (.lst ys) then some (!memD x ys) else none
  | .isin, x, .tup ys => if shp x && shp (.tup ys) then some (memD x ys) else none
  | .notin, x, .tup ys => if shp x && shp (.tup ys) then some (!memD x ys) else none
  | .isn, x, .non => (match x with | .non => some true | .dct _ _ => none | .set _ => none | .fn _ => none | _ => some false)
  | .notn, x, .non => (match x with | .non => some false | .dct _ _ => none | .set _ => none | .fn _ => none | _ => some true)
  | _, _, _ => none
/-- truth -/
def truD : D → Option Bool
  | .non => some false
  | .bl b => some b
  | .int i => some (i != 0)
  | .str s => if s.length ≤ sizeLine then some ((s.length : Int) != 0) else none
  | .tup xs => some (!xs.isEmpty)
  | .lst xs => some (!xs.isEmpty)
  | _ => none
def atD {α : Type} (xs : List α) (i : Int) : Option α := L2.atI xs i
def idxD : D → D → Option D
  | .lst xs, .int i => atD xs i
  | .tup xs, .int i => atD xs i
  | .str z, .int i => if z.length ≤ sizeLine then (atD z.cps.toList i).map fun c => .str ⟨#[c]⟩ else none
  | _, _ => none
def cutD {α : Type} (xs : List α) (lo hi : Option Int) : List α := (xs.drop (HT.sIx xs.length 0 lo)).take (HT.sIx xs.length xs.length hi - HT.sIx xs.length 0 lo)
def sliD : D → Option Int → Option Int → Option D
  | .lst xs, lo, hi => some (.lst (cutD xs lo hi))
  | .tup xs, lo, hi => some (.tup (cutD xs lo hi))
  | .str z, lo, hi => if z.length ≤ sizeLine then some (.str (L2.cutS z lo hi)) else none
  | _, _, _ => none
def revD : D → Option D
  | .lst xs => some (.lst xs.reverse)
  | .tup xs => some (.tup xs.reverse)
  | _ => none
/-- the name of a thing's type -/
def tyD : D → Option String
  | .non => some "NoneType"
  | .bl _ => some "bool"
  | .int _ => some "int"
  | .str _ => some "str"
  | .tup _ => some "tuple"
  | .lst _ => some "list"
  | .dct _ _ => some "dict"
  | _ => none
def isiD (d : D) (T : String) : Option Bool := (tyD d).bind fun t => L2.kitB t T
def intsD : List D → Option (List Int)
  | [] => some []
  | .int i :: r => (intsD r).map (i :: ·)
  | _ :: _ => none
def blsD : List D → Option (List Bool)
  | [] => some []
  | .bl b :: r => (blsD r).map (b :: ·)
  | _ :: _ => none
def reprOk (d : D) : Bool := d.pl && d.py.showable && decide (d.py.depth ≤ 100) && decide (d.py.shown.length ≤ sizeLine)
/-- built-ins of one argument -/
inductive B1 where
  | len | abs | sum | repr | list | tuple | all | any | int | str
def b1D : B1 → D → Option D
  | .len, .str s => if s.length ≤ sizeLine then some (.int s.length) else none
  | .len, .tup xs => some (.int xs.length)
  | .len, .lst xs => some (.int xs.length)
  | .abs, .int i => some (.int (if i < 0 then -i else i))
  | .sum, .lst xs => (intsD xs).map fun ns => .int ns.sum
  | .repr, d => if reprOk d then some (.str d.py.shown) else none
  | .list, .lst xs => some (.lst xs)
  | .list, .tup xs => some (.lst xs)
  | .tuple, .lst xs => some (.tup xs)
  | .tuple, .tup xs => some (.tup xs)
  | .all, .lst xs => (blsD xs).map fun bs => .bl (bs.all id)
  | .any, .lst xs => (blsD xs).map fun bs => .bl (bs.any id)
  | .int, .int i => some (.int i)
  | .int, .bl b => some (.int (if b then 1 else 0))
  | .str, .bl b => some (.str (if b then "True" else "False"))
  | .str, .int i => if i.natAbs.log2 < 1920 then some (.str (toString i)) else none
  | _, _ => none
/-- methods without arguments -/
inductive M0 where
  | upper
def m0D : M0 → D → Option D
  | .upper, .str s => if s.length ≤ 5592405 then some (.str (Txt.upper s)) else none
  | _, _ => none

/-! ### the core -/
inductive Tg where
  | nm (i : Nat)
  | tp2 (a b : Tg)
  | tp3 (a b c : Tg)
  | tp4 (a b c d : Tg)
mutual
inductive E where
  | var (i : Nat)
  | glo (j : Nat)
  | int (n : Int) | str (s : Str) | bl (b : Bool) | non
  | tup (es : Es) | lst (es : Es)
  | bin (o : Bo) (a b : E)
  | neg (a : E)
  | cmp (o : Co) (a b : E)
  | chn (o o2 : Co) (a b c : E)
  | and (a b : E) | or (a b : E) | not (a : E)
  | ife (c a b : E)
  | idx (a i : E)
  | sli (a : E) (lo hi : Oe)
  | rev (a : E)
  | isi (a : E) (T : String)
  | b1 (f : B1) (a : E)
  | m0 (m : M0) (a : E)
  | call (f : Nat) (es : Es)
  | lc1 (own : List Nat) (t : Tg) (it : Wi) (c : Oe) (e : E)
  | lc2 (own : List Nat) (t : Tg) (it : Wi) (c : Oe) (own1 : List Nat) (t1 : Tg) (it1 : Wi) (c1 : Oe) (e : E)
  | fld (o : E) (k : Str)
  | mko (ks : List Str) (es : Es)
  | fldi (o : E) (i : Nat)
  | mkl (es : Es)
inductive Es where
  | n | c (e : E) (r : Es)
inductive Oe where
  | n | s (e : E)
inductive Wi where
  | sq (e : E)
  | rg1 (e : E) | rg2 (a b : E)
  | zip (a b : E)
end
inductive S where
  | set (t : Tg) (e : E)
  | setc (i : Nat) (e : E)
  | par (i j : Nat) (a b : E)
  | par3 (i j l : Nat) (a b c : E)
  | paro (i j : Nat) (oa ob : Bool) (a b : E)
  | brk | ct
  | ex (e : E)
  | seto (i : Nat) (e : E)
  | frz (i : Nat)
  | app (i : Nat) (e : E)
  | ext (i : Nat) (e : E)
  | ife (c : E) (a b : List S)
  | whl (c : E) (b : List S)
  | frr (t : Tg) (it : Wi) (b : List S)
  | ret (e : E) | retn
  | setf (o : E) (k : Str) (e : E)
  | seti (o : E) (i : Nat) (e : E)
  | pass
  | never

/-- what is known ahead: the module's constants, the defs' meanings -/
structure Cf where
  gl : List D
  fn : List (List D → M D)

def getV (en : En) (i : Nat) : Option D := match en[i]? with
  | some (.val d) => some d
  | _ => none
def setV (en : En) (i : Nat) (d : D) : En := en.set i (.val d)
def wipeE (en : En) : List Nat → En
  | [] => en
  | v :: vs => (wipeE en vs).set v .no
def asg : Tg → D → En → Option En
  | .nm i, d, en => if i < en.length then some (setV en i d) else none
  | .tp2 a b, .tup [x, y], en => (asg a x en).bind (asg b y)
  | .tp3 a b c, .tup [x, y, z], en => ((asg a x en).bind (asg b y)).bind (asg c z)
  | .tp4 a b c e, .tup [x, y, z, w], en => (((asg a x en).bind (asg b y)).bind (asg c z)).bind (asg e w)
  | _, _, _ => none
def FUEL : Nat := 2 ^ 20000
def look (k : Str) : List (Str × D) → Option D
  | [] => none
  | (s, d) :: r => if s = k then some d else look k r
def putF (k : Str) (d : D) : List (Str × D) → List (Str × D)
  | [] => [(k, d)]
  | (s, x) :: r => if s = k then (s, d) :: r else (s, x) :: putF k d r
def getO (n : Nat) (k : Str) : M D := fun S => match S[n]? with
  | some (.fl fs) => (look k fs).map fun d => (d, S)
  | _ => none
def getI (n : Nat) (i : Nat) : M D := fun S => match S[n]? with
  | some (.cel ds) => ds[i]?.map fun d => (d, S)
  | _ => none
/-- a field that is there gets another value -/
def setO (n : Nat) (k : Str) (d : D) : M Unit := fun S => match S[n]? with
  | some (.fl fs) => if (look k fs).isSome then some ((), S.set n (.fl (putF k d fs))) else none
  | _ => none
def setI (n : Nat) (i : Nat) (d : D) : M Unit := fun S => match S[n]? with
  | some (.cel ds) => if i < ds.length then some ((), S.set n (.cel (ds.set i d))) else none
  | _ => none
def newO (o : Ob) : M D := fun S => some (.obj S.length, S ++ [o])
def mapMM {α β : Type} (f : α → M β) : List α → M (List β)
  | [] => M.ret []
  | x :: xs => M.bnd (f x) fun y => M.bnd (mapMM f xs) fun ys => M.ret (y :: ys)
/-- the items of a list comprehension: f of each that the test lets by -/
def lcM (t : D → M Bool) (f : D → M D) : List D → M (List D)
  | [] => M.ret []
  | x :: xs => M.bnd (t x) fun b => if b then M.bnd (f x) fun y => M.bnd (lcM t f xs) fun ys => M.ret (y :: ys) else lcM t f xs
/-- .. of one of two clauses -/
def catM (t : D → M Bool) (f : D → M (List D)) : List D → M (List D)
  | [] => M.ret []
  | x :: xs => M.bnd (t x) fun b => if b then M.bnd (f x) fun ys => M.bnd (catM t f xs) fun zs => M.ret (ys ++ zs) else catM t f xs
def rangeD (lo hi : Int) : List D := (List.range (hi - lo).toNat).map fun (k : Nat) => D.int (lo + (k : Int))
def zipD : List D → List D → List D
  | x :: xs, y :: ys => .tup [x, y] :: zipD xs ys
  | _, _ => []
def zipS : D → D → Option (List D)
  | .lst xs, .lst ys => some (zipD xs ys)
  | .tup xs, .tup ys => some (zipD xs ys)
  | _, _ => none
def seqD : D → Option (List D)
  | .lst xs => some xs
  | .tup xs => some xs
  | .str s => if s.length ≤ sizeLine then some (s.cps.toList.map fun c => .str ⟨#[c]⟩) else none
  | _ => none
def isB (d : D) : M Bool := match d with
  | .bl b => M.ret b
  | _ => M.no
def isI (d : D) : M Int := match d with
  | .int i => M.ret i
  | _ => M.no
def isO (d : D) : M Nat := match d with
  | .obj n => M.ret n
  | _ => M.no
def isL (d : D) : M (List D) := match d with
  | .lst n => M.ret n
  | _ => M.no
def rgOk (i : Int) : Bool := decide (-(2 ^ 20) ≤ i) && decide (i < 2 ^ 20)
def zipKs : List Str → List D → List (Str × D)
  | k :: ks, d :: ds => (k, d) :: zipKs ks ds
  | _, _ => []

mutual
def ev (g : Cf) : E → En → M D
  | .var i, en => M.opt (getV en i)
  | .glo j, _ => M.opt g.gl[j]?
  | .int n, _ => M.ret (.int n)
  | .str s, _ => M.ret (.str s)
  | .bl b, _ => M.ret (.bl b)
  | .non, _ => M.ret .non
  | .tup es, en => M.bnd (evs g es en) fun ds => M.ret (.tup ds)
  | .lst es, en => M.bnd (evs g es en) fun ds => M.ret (.lst ds)
  | .bin o a b, en => M.bnd (ev g a en) fun x => M.bnd (ev g b en) fun y => M.opt (binD o x y)
  | .neg a, en => M.bnd (ev g a en) fun x => M.bnd (isI x) fun i => M.ret (.int (-i))
  | .cmp o a b, en => M.bnd (ev g a en) fun x => M.bnd (ev g b en) fun y => M.bnd (M.opt (cmpD o x y)) fun r => M.ret (.bl r)
  | .chn o o2 a b c, en => M.bnd (ev g a en) fun x => M.bnd (ev g b en) fun y => M.bnd (M.opt (cmpD o x y)) fun r =>
      if r then M.bnd (ev g c en) fun z => M.bnd (M.opt (cmpD o2 y z)) fun q => M.ret (.bl q) else M.ret (.bl false)
  | .and a b, en => M.bnd (ev g a en) fun x => M.bnd (isB x) fun r => if r then ev g b en else M.ret (.bl false)
  | .or a b, en => M.bnd (ev g a en) fun x => M.bnd (isB x) fun r => if r then M.ret (.bl true) else ev g b en
  | .not a, en => M.bnd (ev g a en) fun x => M.bnd (M.opt (truD x)) fun r => M.ret (.bl (!r))
  | .ife c a b, en => M.bnd (evt g c en) fun r => if r then ev g a en else ev g b en
  | .idx a i, en => M.bnd (ev g a en) fun x => M.bnd (ev g i en) fun y => M.opt (idxD x y)
  | .sli a lo hi, en => M.bnd (ev g a en) fun x => M.bnd (evo g lo en) fun l => M.bnd (evo g hi en) fun h => M.opt (sliD x l h)
  | .rev a, en => M.bnd (ev g a en) fun x => M.opt (revD x)
  | .isi a T, en => M.bnd (ev g a en) fun x => M.bnd (M.opt (isiD x T)) fun r => M.ret (.bl r)
  | .b1 f a, en => M.bnd (ev g a en) fun x => M.opt (b1D f x)
  | .m0 m a, en => M.bnd (ev g a en) fun x => M.opt (m0D m x)
  | .call f es, en => M.bnd (evs g es en) fun ds => M.bnd (M.opt g.fn[f]?) fun h => h ds
  | .lc1 own t it c e, en => M.bnd (evi g it en) fun ds =>
      M.bnd (lcM (fun d => M.bnd (M.opt (asg t d (wipeE en own))) fun en2 => evc g c en2) (fun d => M.bnd (M.opt (asg t d (wipeE en own))) fun en2 => ev g e en2) ds) fun ys => M.ret (.lst ys)
  | .lc2 own t it c own1 t1 it1 c1 e, en => M.bnd (evi g it en) fun ds =>
      M.bnd (catM (fun d => M.bnd (M.opt (asg t d (wipeE en own))) fun en2 => evc g c en2) (fun d => M.bnd (M.opt (asg t d (wipeE en own))) fun en2 => M.bnd (evi g it1 en2) fun ds1 =>
        lcM (fun d1 => M.bnd (M.opt (asg t1 d1 (wipeE en2 own1))) fun en3 => evc g c1 en3) (fun d1 => M.bnd (M.opt (asg t1 d1 (wipeE en2 own1))) fun en3 => ev g e en3) ds1) ds) fun ys =>
      if ys.length ≤ sizeLine then M.ret (.lst ys) else M.no
  | .fld o k, en => M.bnd (ev g o en) fun x => M.bnd (isO x) fun n => getO n k
  | .mko ks es, en => M.bnd (evs g es en) fun ds => newO (.fl (zipKs ks ds))
  | .fldi o i, en => M.bnd (ev g o en) fun x => M.bnd (isO x) fun n => getI n i
  | .mkl es, en => M.bnd (evs g es en) fun ds => newO (.cel ds)
/-- as a test -/
def evt (g : Cf) : E → En → M Bool
  | .cmp o a b, en => M.bnd (ev g a en) fun x => M.bnd (ev g b en) fun y => M.opt (cmpD o x y)
  | .chn o o2 a b c, en => M.bnd (ev g a en) fun x => M.bnd (ev g b en) fun y => M.bnd (M.opt (cmpD o x y)) fun r =>
      if r then M.bnd (ev g c en) fun z => M.opt (cmpD o2 y z) else M.ret false
  | .and a b, en => M.bnd (evt g a en) fun r => if r then evt g b en else M.ret false
  | .or a b, en => M.bnd (evt g a en) fun r => if r then M.ret true else evt g b en
  | .not a, en => M.bnd (evt g a en) fun r => M.ret (!r)
  | .var i, en => M.bnd (M.opt (getV en i)) fun x => M.opt (truD x)
  | .bl b, _ => M.ret b
  | .isi a T, en => M.bnd (ev g a en) fun x => M.opt (isiD x T)
  | .b1 f a, en => M.bnd (ev g a en) fun x => M.bnd (M.opt (b1D f x)) fun y => M.opt (truD y)
  | .call f es, en => M.bnd (evs g es en) fun ds => M.bnd (M.opt g.fn[f]?) fun h => M.bnd (h ds) fun y => M.opt (truD y)
  | _, _ => M.no
/-- a comprehension's test -/
def evc (g : Cf) : Oe → En → M Bool
  | .n, _ => M.ret true
  | .s e, en => evt g e en
def evs (g : Cf) : Es → En → M (List D)
  | .n, _ => M.ret []
  | .c e r, en => M.bnd (ev g e en) fun x => M.bnd (evs g r en) fun xs => M.ret (x :: xs)
def evo (g : Cf) : Oe → En → M (Option Int)
  | .n, _ => M.ret none
  | .s e, en => M.bnd (ev g e en) fun x => M.bnd (isI x) fun i => M.ret (some i)
/-- the items that are walked -/
def evi (g : Cf) : Wi → En → M (List D)
  | .sq e, en => M.bnd (ev g e en) fun x => M.opt (seqD x)
  | .rg1 e, en => M.bnd (ev g e en) fun x => M.bnd (isI x) fun i => if rgOk i then M.ret (rangeD 0 i) else M.no
  | .rg2 a b, en => M.bnd (ev g a en) fun x => M.bnd (isI x) fun i => M.bnd (ev g b en) fun y => M.bnd (isI y) fun j => if rgOk i && rgOk j then M.ret (rangeD i j) else M.no
  | .zip a b, en => M.bnd (ev g a en) fun x => M.bnd (ev g b en) fun y => M.opt (zipS x y)
end

/-- how a statement ends -/
inductive Fl where
  | nx | ret (d : D) | brk | ct
def forM (a : D → En → M En) (b : En → M (Fl × En)) : List D → En → M (Fl × En)
  | [], en => M.ret (.nx, en)
  | x :: xs, en => M.bnd (a x en) fun en1 => M.bnd (b en1) fun r => match r.1 with
    | .nx => forM a b xs r.2
    | .ct => forM a b xs r.2
    | .brk => M.ret (.nx, r.2)
    | .ret d => M.ret (.ret d, r.2)
def whlM (c : En → M Bool) (b : En → M (Fl × En)) : Nat → En → M (Fl × En)
  | 0, _ => M.no
  | n + 1, en => M.bnd (c en) fun t => if t then M.bnd (b en) fun r => match r.1 with
    | .nx => whlM c b n r.2
    | .ct => whlM c b n r.2
    | .brk => M.ret (.nx, r.2)
    | .ret d => M.ret (.ret d, r.2)
    else M.ret (.nx, en)
/-- a slot for a thing that no one else holds, or for a value -/
def slO : Bool → D → Option Sl
  | false, d => some (.val d)
  | true, .lst xs => some (.own (.ol xs))
  | true, _ => none
def frzE (en : En) (i : Nat) : Option En := match en[i]? with
  | some (.own (.ol xs)) => some (en.set i (.val (.lst xs)))
  | some (.val _) => some en
  | _ => none
def appE (en : En) (i : Nat) (d : D) : Option En := match en[i]? with
  | some (.own (.ol xs)) => if xs.length < sizeLine then some (en.set i (.own (.ol (xs ++ [d])))) else none
  | _ => none
def extE (en : En) (i : Nat) (ds : List D) : Option En := match en[i]? with
  | some (.own (.ol xs)) => if xs.length + ds.length ≤ sizeLine then some (en.set i (.own (.ol (xs ++ ds)))) else none
  | _ => none
mutual
def st (g : Cf) : S → En → M (Fl × En)
  | .set t e, en => M.bnd (ev g e en) fun d => M.bnd (M.opt (asg t d en)) fun en1 => M.ret (.nx, en1)
  | .setc i e, en => M.bnd (ev g e en) fun d => M.bnd (M.opt (asg (.nm i) d en)) fun en1 => M.ret (.nx, en1)
  | .brk, en => M.ret (.brk, en)
  | .ct, en => M.ret (.ct, en)
  | .par3 i j l a b c, en => M.bnd (ev g a en) fun x => M.bnd (ev g b en) fun y => M.bnd (ev g c en) fun w => if i < en.length && j < en.length && l < en.length then M.ret (.nx, setV (setV (setV en i x) j y) l w) else M.no
  | .par i j a b, en => M.bnd (ev g a en) fun x => M.bnd (ev g b en) fun y => if i < en.length && j < en.length then M.ret (.nx, setV (setV en i x) j y) else M.no
  | .paro i j oa ob a b, en => M.bnd (ev g a en) fun x => M.bnd (ev g b en) fun y => M.bnd (M.opt (slO oa x)) fun sx => M.bnd (M.opt (slO ob y)) fun sy =>
      if i < en.length && j < en.length then M.ret (.nx, (en.set i sx).set j sy) else M.no
  | .ex e, en => M.bnd (ev g e en) fun _ => M.ret (.nx, en)
  | .seto i e, en => M.bnd (ev g e en) fun d => M.bnd (isL d) fun xs => if i < en.length then M.ret (.nx, en.set i (.own (.ol xs))) else M.no
  | .frz i, en => M.bnd (M.opt (frzE en i)) fun en1 => M.ret (.nx, en1)
  | .app i e, en => M.bnd (ev g e en) fun d => M.bnd (M.opt (appE en i d)) fun en1 => M.ret (.nx, en1)
  | .ext i e, en => M.bnd (ev g e en) fun d => M.bnd (isL d) fun ds => M.bnd (M.opt (extE en i ds)) fun en1 => M.ret (.nx, en1)
  | .ife c a b, en => M.bnd (evt g c en) fun t => if t then sts g a en else sts g b en
  | .whl c b, en => whlM (fun en1 => evt g c en1) (fun en1 => sts g b en1) FUEL en
  | .frr t it b, en => M.bnd (evi g it en) fun ds => forM (fun d en1 => M.opt (asg t d en1)) (fun en1 => sts g b en1) ds en
  | .ret e, en => M.bnd (ev g e en) fun d => M.ret (.ret d, en)
  | .retn, en => M.ret (.ret .non, en)
  | .setf o k e, en => M.bnd (ev g e en) fun d => M.bnd (ev g o en) fun x => M.bnd (isO x) fun n => M.bnd (setO n k d) fun _ => M.ret (.nx, en)
  | .seti o i e, en => M.bnd (ev g e en) fun d => M.bnd (ev g o en) fun x => M.bnd (isO x) fun n => M.bnd (setI n i d) fun _ => M.ret (.nx, en)
  | .pass, en => M.ret (.nx, en)
  | .never, _ => M.no
def sts (g : Cf) : List S → En → M (Fl × En)
  | [], en => M.ret (.nx, en)
  | s :: r, en => M.bnd (st g s en) fun q => match q.1 with
    | .nx => sts g r q.2
    | _ => M.ret q
end
/-- a def: its names' number, its body -/
structure Df where
  n : Nat
  body : List S
def startE (n : Nat) (ds : List D) : En := ds.map Sl.val ++ List.replicate (n - ds.length) .no
def run (g : Cf) (f : Df) (k : Nat) (ds : List D) : M D := if ds.length = k then M.bnd (sts g f.body (startE f.n ds)) fun r => match r.1 with
  | .nx => M.ret .non
  | .ret d => M.ret d
  | _ => M.no else M.no
end Cv

/-! Cv2: how data lies in the heap; worlds, what may come behind one. -/
namespace Cv
open PySem PySem.Spec PyProof.Rows L2

/-- a plain list: laid by the call, or the script -/
def LsAt (K : PySem.W.Frag) (F : Hp) (a : Addr) (xs : List V) : Prop :=
  F a = some (.lst xs) ∨ (∃ (its : List Value) (n : Nat), F a = some (.frz { cls := .type "list", data := .seq its.toArray n } (.lst xs))) ∨
    ∃ (its : List Value) (n : Nat), K.lookup a = some { cls := .type "list", data := .seq its.toArray n } ∧ Vals xs its ∧ its.length ≤ sizeLine
section
variable (K : PySem.W.Frag)
mutual
inductive Rep (F : Hp) (io : List Addr) : V → D → Prop
  | non : Rep F io .non .non
  | bl (b : Bool) : Rep F io (.bl b) (.bl b)
  | int (i : Int) : Rep F io (.int i) (.int i)
  | str (s : Str) : Rep F io (.str s) (.str s)
  | tup {a : Addr} {vs : List V} {ds : List D} : SqT K F a vs → vs.length ≤ sizeLine → Reps F io vs ds → Rep F io (.ref a) (.tup ds)
  | lst {a : Addr} {vs : List V} {ds : List D} : LsAt K F a vs → vs.length ≤ sizeLine → Reps F io vs ds → Rep F io (.ref a) (.lst ds)
  | obj {a : Addr} {n : Nat} : io[n]? = some a → Rep F io (.ref a) (.obj n)
inductive Reps (F : Hp) (io : List Addr) : List V → List D → Prop
  | nil : Reps F io [] []
  | cons {v : V} {vs : List V} {d : D} {ds : List D} : Rep F io v d → Reps F io vs ds → Reps F io (v :: vs) (d :: ds)
end
end

/-- a world: what is frozen, the objects' places, what they hold, all -/
structure Wd where
  F : Hp
  io : List Addr
  S : Sto
  H : Hp

section
variable {K : PySem.W.Frag}
inductive Flds (K : PySem.W.Frag) (F : Hp) (io : List Addr) : List (Str × D) → List (Key × V) → Prop
  | nil : Flds K F io [] []
  | cons {k : Str} {d : D} {v : V} {fs : List (Str × D)} {kvs : List (Key × V)} : Rep K F io v d → Flds K F io fs kvs → Flds K F io ((k, d) :: fs) ((Sum.inr k, v) :: kvs)

def FldsN (K : PySem.W.Frag) (F : Hp) (io : List Addr) (fs : List (Str × D)) (kvs : List (Key × V)) : Prop := (fs.map (·.1)).Nodup ∧ Flds K F io fs kvs
/-- what lies where a changing object stands -/
def ObAt (K : PySem.W.Frag) (F : Hp) (io : List Addr) (ho : HO) : Ob → Prop
  | .fl fs => ∃ kvs, ho = .dK kvs ∧ kvs.length ≤ 1000 ∧ FldsN K F io fs kvs
  | .cel ds => ∃ vs, ho = .lst vs ∧ vs.length ≤ 1000 ∧ Reps K F io vs ds
structure Wd.Ok (K : PySem.W.Frag) (W : Wd) : Prop where
  ex : ∀ a o, W.F a = some o → W.H a = some o
  ob : ∀ (n : Nat) u, W.S[n]? = some u → ∃ a ho, W.io[n]? = some a ∧ W.H a = some ho ∧ W.F a = none ∧ ObAt K W.F W.io ho u
  le : W.S.length = W.io.length
  nd : W.io.Nodup

/-- what may come behind a world: what is frozen stays, what is no object's stays -/
structure Le (W W' : Wd) : Prop where
  ff : ∀ a o, W.F a = some o → W'.F a = some o
  hh : ∀ a o, W.H a = some o → a ∉ W.io → W'.H a = some o
  nf : ∀ a o, W.H a = some o → W.F a = none → W'.F a = none
  al : ∀ a, W'.H a = none → W.H a = none
  io : ∃ more, W'.io = W.io ++ more ∧ ∀ a ∈ more, W.H a = none

theorem Le.refl (W : Wd) : Le W W := ⟨fun _ _ h => h, fun _ _ h _ => h, fun _ _ _ h => h, fun _ h => h, [], by simp, fun a h => by cases h⟩
theorem Le.trans {W W1 W2 : Wd} (a : Le W W1) (b : Le W1 W2) : Le W W2 := by
  obtain ⟨m1, e1, n1⟩ := a.io
  obtain ⟨m2, e2, n2⟩ := b.io
  have alive : ∀ c o, W.H c = some o → ∃ o', W1.H c = some o' := fun c o h => by
    cases q : W1.H c with
    | none => rw [a.al c q] at h; cases h
    | some o' => exact ⟨o', rfl⟩
  refine ⟨fun c o h => b.ff c o (a.ff c o h), fun c o h n => b.hh c o (a.hh c o h n) ?_, fun c o h n => ?_, fun c h => a.al c (b.al c h), m1 ++ m2, by rw [e2, e1, List.append_assoc], fun c hc => ?_⟩
  · rw [e1]
    intro hm
    rcases List.mem_append.mp hm with z | z
    · exact n z
    · rw [n1 c z] at h; cases h
  · obtain ⟨o', h'⟩ := alive c o h
    exact b.nf c o' h' (a.nf c o h n)
  · rcases List.mem_append.mp hc with z | z
    · exact n1 c z
    · exact a.al c (n2 c z)

theorem rd_mono {F F' : Hp} (h : ∀ a o, F a = some o → F' a = some o) {a : Addr} {u : HO} (r : Rd F a u) : Rd F' a u := by
  rcases r with r | ⟨o, r⟩
  · exact .inl (h _ _ r)
  · exact .inr ⟨o, h _ _ r⟩
theorem sqT_mono {F F' : Hp} (h : ∀ a o, F a = some o → F' a = some o) {a : Addr} {xs : List V} (r : SqT K F a xs) : SqT K F' a xs := by
  rcases r with r | r
  · exact .inl (rd_mono h r)
  · exact .inr r
theorem sqL_mono {F F' : Hp} (h : ∀ a o, F a = some o → F' a = some o) {a : Addr} {xs : List V} (r : SqL K F a xs) : SqL K F' a xs := by
  rcases r with r | r
  · exact .inl (rd_mono h r)
  · exact .inr r
theorem lsAt_mono {F F' : Hp} (h : ∀ a o, F a = some o → F' a = some o) {a : Addr} {xs : List V} (r : LsAt K F a xs) : LsAt K F' a xs := by
  rcases r with r | ⟨its, n, r⟩ | r
  · exact .inl (h _ _ r)
  · exact .inr (.inl ⟨its, n, h _ _ r⟩)
  · exact .inr (.inr r)
theorem LsAt.sq {F : Hp} {a : Addr} {xs : List V} (r : LsAt K F a xs) : SqL K F a xs := by
  rcases r with r | ⟨its, n, r⟩ | ⟨its, n, h1, h2, h3⟩
  · exact .inl (.inl r)
  · exact .inl (.inr ⟨_, r⟩)
  · exact .inr ⟨_, its.toArray, n, h1, rfl, rfl, rfl, by rw [List.size_toArray]; exact h3, h2⟩
section
variable {F F' : Hp} {io io' : List Addr}
mutual
theorem Rep.mono (hF : ∀ a o, F a = some o → F' a = some o) (hi : ∀ (n : Nat) a, io[n]? = some a → io'[n]? = some a) : ∀ {v : V} {d : D}, Rep K F io v d → Rep K F' io' v d
  | _, _, .non => .non
  | _, _, .bl b => .bl b
  | _, _, .int i => .int i
  | _, _, .str s => .str s
  | _, _, .tup h l r => .tup (sqT_mono hF h) l (Reps.mono hF hi r)
  | _, _, .lst h l r => .lst (lsAt_mono hF h) l (Reps.mono hF hi r)
  | _, _, .obj h => .obj (hi _ _ h)
theorem Reps.mono (hF : ∀ a o, F a = some o → F' a = some o) (hi : ∀ (n : Nat) a, io[n]? = some a → io'[n]? = some a) : ∀ {vs : List V} {ds : List D}, Reps K F io vs ds → Reps K F' io' vs ds
  | _, _, .nil => .nil
  | _, _, .cons h r => .cons (Rep.mono hF hi h) (Reps.mono hF hi r)
end
end
abbrev Wd.Rp (K : PySem.W.Frag) (W : Wd) (v : V) (d : D) : Prop := Rep K W.F W.io v d
abbrev Wd.Rps (K : PySem.W.Frag) (W : Wd) (v : List V) (d : List D) : Prop := Reps K W.F W.io v d
theorem Le.ix {W W' : Wd} (l : Le W W') (n : Nat) (a : Addr) (h : W.io[n]? = some a) : W'.io[n]? = some a := by
  obtain ⟨m, e, _⟩ := l.io
  rw [e, List.getElem?_append_left (List.getElem?_eq_some_iff.mp h).1]
  exact h
theorem Le.rp {W W' : Wd} (l : Le W W') {v : V} {d : D} (r : W.Rp K v d) : W'.Rp K v d := Rep.mono l.ff l.ix r
theorem Le.rps {W W' : Wd} (l : Le W W') {v : List V} {d : List D} (r : W.Rps K v d) : W'.Rps K v d := Reps.mono l.ff l.ix r
theorem Flds.mono {F F' : Hp} {io io' : List Addr} (hF : ∀ a o, F a = some o → F' a = some o) (hi : ∀ (n : Nat) a, io[n]? = some a → io'[n]? = some a) : ∀ {fs kvs}, Flds K F io fs kvs → Flds K F' io' fs kvs
  | _, _, .nil => .nil
  | _, _, .cons h r => .cons (Rep.mono hF hi h) (Flds.mono hF hi r)
theorem FldsN.mono {F F' : Hp} {io io' : List Addr} (hF : ∀ a o, F a = some o → F' a = some o) (hi : ∀ (n : Nat) a, io[n]? = some a → io'[n]? = some a) {fs kvs} (h : FldsN K F io fs kvs) : FldsN K F' io' fs kvs := ⟨h.1, h.2.mono hF hi⟩
theorem ObAt.mono {F F' : Hp} {io io' : List Addr} (hF : ∀ a o, F a = some o → F' a = some o) (hi : ∀ (n : Nat) a, io[n]? = some a → io'[n]? = some a) {ho : HO} {u : Ob} (h : ObAt K F io ho u) : ObAt K F' io' ho u := by
  cases u with
  | fl fs =>
    obtain ⟨kvs, a, b, c⟩ := h
    exact ⟨kvs, a, b, c.mono hF hi⟩
  | cel ds =>
    obtain ⟨vs, a, b, c⟩ := h
    exact ⟨vs, a, b, Reps.mono hF hi c⟩
theorem Reps.len {F : Hp} {io : List Addr} : ∀ {vs : List V} {ds : List D}, Reps K F io vs ds → vs.length = ds.length
  | _, _, .nil => rfl
  | _, _, .cons _ r => by rw [List.length_cons, List.length_cons, Reps.len r]
theorem Reps.app {F : Hp} {io : List Addr} : ∀ {vs ws : List V} {ds es : List D}, Reps K F io vs ds → Reps K F io ws es → Reps K F io (vs ++ ws) (ds ++ es)
  | _, _, _, _, .nil, s => s
  | _, _, _, _, .cons h r, s => .cons h (Reps.app r s)
theorem Reps.get {F : Hp} {io : List Addr} : ∀ {vs : List V} {ds : List D} {i : Nat} {d : D}, Reps K F io vs ds → ds[i]? = some d → ∃ v, vs[i]? = some v ∧ Rep K F io v d
  | _, _, _, _, .nil, e => by simp at e
  | _, _, 0, d, .cons h _, e => by simp at e; subst e; exact ⟨_, rfl, h⟩
  | _, _, i + 1, d, .cons _ r, e => by
    obtain ⟨v, h1, h2⟩ := Reps.get (i := i) r (by simpa using e)
    exact ⟨v, by simpa using h1, h2⟩
theorem Reps.getV {F : Hp} {io : List Addr} : ∀ {vs : List V} {ds : List D} {i : Nat} {v : V}, Reps K F io vs ds → vs[i]? = some v → ∃ d, ds[i]? = some d ∧ Rep K F io v d
  | _, _, _, _, .nil, e => by simp at e
  | _, _, 0, d, .cons h _, e => by simp at e; subst e; exact ⟨_, rfl, h⟩
  | _, _, i + 1, d, .cons _ r, e => by
    obtain ⟨v, h1, h2⟩ := Reps.getV (i := i) r (by simpa using e)
    exact ⟨v, by simpa using h1, h2⟩
theorem Reps.take {F : Hp} {io : List Addr} : ∀ {vs : List V} {ds : List D} (n : Nat), Reps K F io vs ds → Reps K F io (vs.take n) (ds.take n)
  | _, _, 0, _ => .nil
  | _, _, _ + 1, .nil => .nil
  | _, _, n + 1, .cons h r => .cons h (Reps.take n r)
theorem Reps.drop {F : Hp} {io : List Addr} : ∀ {vs : List V} {ds : List D} (n : Nat), Reps K F io vs ds → Reps K F io (vs.drop n) (ds.drop n)
  | _, _, 0, r => r
  | _, _, _ + 1, .nil => .nil
  | _, _, n + 1, .cons h r => Reps.drop n r
theorem Reps.rev {F : Hp} {io : List Addr} : ∀ {vs : List V} {ds : List D}, Reps K F io vs ds → Reps K F io vs.reverse ds.reverse
  | _, _, .nil => .nil
  | _, _, .cons h r => by
    rw [List.reverse_cons, List.reverse_cons]
    exact Reps.app (Reps.rev r) (.cons h .nil)

/-- a new frozen object -/
def Wd.fr (W : Wd) (p : Addr) (o : HO) : Wd := { W with F := upd W.F p o, H := upd W.H p o }
theorem Wd.Ok.fnone {W : Wd} (ok : W.Ok K) {p : Addr} (h : W.H p = none) : W.F p = none := by
  cases q : W.F p with
  | none => rfl
  | some o => rw [ok.ex p o q] at h; cases h
theorem le_fr {W : Wd} (ok : W.Ok K) {p : Addr} {o : HO} (h : W.H p = none) : Le W (W.fr p o) := by
  have hf := ok.fnone h
  refine ⟨fun a u e => ?_, fun a u e _ => ?_, fun a u e n => ?_, fun a e => ?_, [], by simp [Wd.fr], fun a z => by cases z⟩
  · show upd W.F p o a = some u
    rw [upd_ne (ne_of_none e hf)]; exact e
  · show upd W.H p o a = some u
    rw [upd_ne (ne_of_none e h)]; exact e
  · show upd W.F p o a = none
    rw [upd_ne (ne_of_none e h)]; exact n
  · have e' : upd W.H p o a = none := e
    by_cases z : a = p
    · rw [z]; exact h
    · rw [upd_ne z] at e'; exact e'
theorem ok_fr {W : Wd} (ok : W.Ok K) {p : Addr} {o : HO} (h : W.H p = none) : (W.fr p o).Ok K := by
  have l : Le W (W.fr p o) := le_fr ok h
  refine ⟨fun a u e => ?_, fun n fs e => ?_, ok.le, ok.nd⟩
  · have e' : upd W.F p o a = some u := e
    show upd W.H p o a = some u
    by_cases z : a = p
    · subst z; rw [upd_same] at e' ⊢; exact e'
    · rw [upd_ne z] at e' ⊢; exact ok.ex a u e'
  · obtain ⟨a, ho, h1, h2, h3, h4⟩ := ok.ob n fs e
    have ne : a ≠ p := ne_of_none h2 h
    refine ⟨a, ho, h1, ?_, ?_, h4.mono l.ff l.ix⟩
    · show upd W.H p o a = _
      rw [upd_ne ne]; exact h2
    · show upd W.F p o a = none
      rw [upd_ne ne]; exact h3
theorem fr_at {W : Wd} {p : Addr} {o : HO} : (W.fr p o).F p = some o := upd_same

/-- a frame's names -/
structure EnOk (K : PySem.W.Frag) (W0 W : Wd) (en : En) (σ : L2.St) : Prop where
  len : en.length = σ.length
  val : ∀ (i : Nat) d, en[i]? = some (.val d) → ∃ v, σ[i]? = some (some v) ∧ W.Rp K v d
  own : ∀ (i : Nat) xs, en[i]? = some (.own (.ol xs)) → ∃ a vs, σ[i]? = some (some (.ref a)) ∧ W.H a = some (.lst vs) ∧ W.F a = none ∧ a ∉ W.io ∧ W0.H a = none ∧ W.Rps K vs xs ∧ vs.length ≤ sizeLine
  sep : ∀ (i j : Nat) x y, en[i]? = some (.own x) → en[j]? = some (.own y) → σ[i]? = σ[j]? → i = j
theorem EnOk.le {W0 W W' : Wd} {en : En} {σ : L2.St} (e : EnOk K W0 W en σ) (l : Le W W') : EnOk K W0 W' en σ := by
  refine ⟨e.len, fun i d h => ?_, fun i xs h => ?_, e.sep⟩
  · obtain ⟨v, h1, h2⟩ := e.val i d h
    exact ⟨v, h1, l.rp h2⟩
  · obtain ⟨a, vs, h1, h2, h3, h4, h5, h6, h7⟩ := e.own i xs h
    obtain ⟨m, em, hm⟩ := l.io
    refine ⟨a, vs, h1, l.hh a _ h2 h4, l.nf a _ h2 h3, ?_, h5, l.rps h6, h7⟩
    rw [em]
    intro hx
    rcases List.mem_append.mp hx with z | z
    · exact h4 z
    · rw [hm a z] at h2; cases h2
theorem get_set_eq {α : Type} {l : List α} {i : Nat} {x : α} (h : i < l.length) : (l.set i x)[i]? = some x := by
  rw [List.getElem?_set_self h]
/-- a name gets a value -/
theorem EnOk.set {W0 W : Wd} {en : En} {σ : L2.St} (e : EnOk K W0 W en σ) {i : Nat} {d : D} {v : V} (hi : i < en.length) (r : W.Rp K v d) : EnOk K W0 W (setV en i d) (σ.set i (some v)) := by
  have hs : i < σ.length := by rw [← e.len]; exact hi
  unfold setV
  refine ⟨by rw [List.length_set, List.length_set]; exact e.len, fun j d' h => ?_, fun j xs h => ?_, fun j k x y h1 h2 h3 => ?_⟩
  · by_cases z : i = j
    · subst z
      rw [get_set_eq hi] at h; cases h
      exact ⟨v, get_set_eq hs, r⟩
    · rw [List.getElem?_set_ne z] at h
      rw [List.getElem?_set_ne z]
      exact e.val j d' h
  · by_cases z : i = j
    · subst z; rw [get_set_eq hi] at h; cases h
    · rw [List.getElem?_set_ne z] at h
      rw [List.getElem?_set_ne z]
      exact e.own j xs h
  · have z1 : i ≠ j := fun z => by subst z; rw [get_set_eq hi] at h1; cases h1
    have z2 : i ≠ k := fun z => by subst z; rw [get_set_eq hi] at h2; cases h2
    rw [List.getElem?_set_ne z1] at h1
    rw [List.getElem?_set_ne z2] at h2
    rw [List.getElem?_set_ne z1, List.getElem?_set_ne z2] at h3
    exact e.sep j k x y h1 h2 h3
/-- a name is forgotten -/
theorem EnOk.wipe {W0 W : Wd} {en : En} {σ : L2.St} (e : EnOk K W0 W en σ) : ∀ own : List Nat, EnOk K W0 W (wipeE en own) (wipe σ own)
  | [] => e
  | i :: r => by
    have e := EnOk.wipe e r
    unfold wipeE L2.wipe
    generalize wipeE en r = en at e ⊢
    generalize L2.wipe σ r = σ at e ⊢
    refine ⟨by rw [List.length_set, List.length_set]; exact e.len, fun j d' h => ?_, fun j xs h => ?_, fun j k x y h1 h2 h3 => ?_⟩
    · by_cases z : i = j
      · subst z
        by_cases hi : i < en.length
        · rw [get_set_eq hi] at h; cases h
        · rw [List.set_eq_of_length_le (Nat.not_lt.mp hi)] at h
          rw [List.getElem?_eq_none (Nat.not_lt.mp hi)] at h; cases h
      · rw [List.getElem?_set_ne z] at h
        rw [List.getElem?_set_ne z]
        exact e.val j d' h
    · by_cases z : i = j
      · subst z
        by_cases hi : i < en.length
        · rw [get_set_eq hi] at h; cases h
        · rw [List.set_eq_of_length_le (Nat.not_lt.mp hi)] at h
          rw [List.getElem?_eq_none (Nat.not_lt.mp hi)] at h; cases h
      · rw [List.getElem?_set_ne z] at h
        rw [List.getElem?_set_ne z]
        exact e.own j xs h
    · have off : ∀ (j : Nat) x, (en.set i Sl.no)[j]? = some (.own x) → i ≠ j ∧ en[j]? = some (.own x) := fun j x h => by
        by_cases z : i = j
        · subst z
          by_cases hi : i < en.length
          · rw [get_set_eq hi] at h; cases h
          · rw [List.set_eq_of_length_le (Nat.not_lt.mp hi)] at h
            rw [List.getElem?_eq_none (Nat.not_lt.mp hi)] at h; cases h
        · rw [List.getElem?_set_ne z] at h
          exact ⟨z, h⟩
      obtain ⟨z1, g1⟩ := off j x h1
      obtain ⟨z2, g2⟩ := off k y h2
      rw [List.getElem?_set_ne z1, List.getElem?_set_ne z2] at h3
      exact e.sep j k x y g1 g2 h3
theorem bnd_inv {α β : Type} {m : M α} {f : α → M β} {S S' : Sto} {b : β} (h : M.bnd m f S = some (b, S')) : ∃ a S1, m S = some (a, S1) ∧ f a S1 = some (b, S') := by
  unfold M.bnd at h
  cases e : m S with
  | none => rw [e] at h; cases h
  | some p =>
    obtain ⟨a, S1⟩ := p
    rw [e] at h
    exact ⟨a, S1, rfl, h⟩
theorem ret_inv {α : Type} {a b : α} {S S' : Sto} (h : M.ret a S = some (b, S')) : b = a ∧ S' = S := by
  unfold M.ret at h
  simp only [Option.some.injEq, Prod.mk.injEq] at h
  exact ⟨h.1.symm, h.2.symm⟩
theorem opt_inv {α : Type} {o : Option α} {b : α} {S S' : Sto} (h : M.opt o S = some (b, S')) : o = some b ∧ S' = S := by
  cases o with
  | none => exact nomatch (show none = some (b, S') from h)
  | some a =>
    obtain ⟨h1, h2⟩ := ret_inv (show M.ret a S = some (b, S') from h)
    exact ⟨by rw [h1], h2⟩
theorem no_inv {α : Type} {b : α} {S S' : Sto} (h : M.no S = some (b, S')) : False := nomatch (show none = some (b, S') from h)
end

/-- behind W, with the store S' -/
def Aft (K : PySem.W.Frag) (W : Wd) (S' : Sto) (P : Wd → Prop) : Prop := ∀ W', Le W W' → W'.Ok K → W'.S = S' → P W'
/-- what holds so that m, from W on, gives a thing that is as R says -/
def Yl {α β : Type} (K : PySem.W.Frag) (W : Wd) (m : M α) (R : Wd → β → α → Prop) (Q : β → Hp → Prop) : Prop :=
  ∃ a S', m W.S = some (a, S') ∧ Aft K W S' fun W' => ∀ v, R W' v a → Q v W'.H
section
variable (K : PySem.W.Frag)
/-- a code's context: the store's, the frame's -/
def At (σ : L2.St) (H : Hp) (P : Wd → En → Prop) : Prop := ∃ W0 W en, W.H = H ∧ W.Ok K ∧ EnOk K W0 W en σ ∧ P W en
def tE (g : Cf) (c : E) : TE := fun σ H Q => At K σ H fun W en => Yl K W (ev g c en) (fun W' v d => W'.Rp K v d) Q
def tT (g : Cf) (c : E) : TT := fun σ H Q => At K σ H fun W en => Yl K W (evt g c en) (fun _ v d => v = d) Q
def tEs (g : Cf) (c : Es) : TA := fun σ H Q => At K σ H fun W en => Yl K W (evs g c en) (fun W' v d => W'.Rps K v d) Q
end
end Cv

/-! Cv3: the operations on data are those of the machine. -/
namespace Cv
open PySem PySem.Spec PyProof.Rows L2

mutual
theorem Rep.dp {K : PySem.W.Frag} {F H : Hp} {io : List Addr} (hF : ∀ a o, F a = some o → H a = some o) : ∀ {d : D} {v : V}, Rep K F io v d → d.pl = true → Dp K H v d.py
  | .non, _, .non, _ => .non
  | .bl _, _, .bl b, _ => .bl b
  | .int _, _, .int i, _ => .int i
  | .str _, _, .str s, _ => .str s
  | .tup _, _, .tup h _ r, p => .tup (sqT_mono hF h) (Reps.dp hF r p)
  | .lst _, _, .lst h _ r, p => .lst (sqL_mono hF h.sq) (Reps.dp hF r p)
  | .obj _, _, .obj _, p => nomatch p
theorem Reps.dp {K : PySem.W.Frag} {F H : Hp} {io : List Addr} (hF : ∀ a o, F a = some o → H a = some o) : ∀ {ds : List D} {vs : List V}, Reps K F io vs ds → D.pls ds = true → DpAll K H vs (D.pys ds)
  | [], _, .nil, _ => .nil
  | _ :: _, _, .cons h r, p => by
    have q := Bool.and_eq_true_iff.mp p
    exact .cons (Rep.dp hF h q.1) (Reps.dp hF r q.2)
end
theorem Wd.Ok.dp {K : PySem.W.Frag} {W : Wd} (ok : W.Ok K) {v : V} {d : D} (r : W.Rp K v d) (p : d.pl = true) : Dp K W.H v d.py := Rep.dp ok.ex r p
theorem Wd.Ok.sqT {K : PySem.W.Frag} {W : Wd} (ok : W.Ok K) {a : Addr} {xs : List V} (h : SqT K W.F a xs) : SqT K W.H a xs := sqT_mono ok.ex h
theorem Wd.Ok.sqL {K : PySem.W.Frag} {W : Wd} (ok : W.Ok K) {a : Addr} {xs : List V} (h : LsAt K W.F a xs) : SqL K W.H a xs := sqL_mono ok.ex h.sq
theorem Wd.Ok.ls {K : PySem.W.Frag} {W : Wd} (ok : W.Ok K) {a : Addr} {xs : List V} (h : LsAt K W.F a xs) : LsAt K W.H a xs := lsAt_mono ok.ex h

/-- operations by what they do to data -/
def rW2 (K : PySem.W.Frag) (f : D → D → Option D) : R2 := fun x y H Q => ∃ (W : Wd) (dx dy d : D), W.H = H ∧ W.Ok K ∧ W.Rp K x dx ∧ W.Rp K y dy ∧ f dx dy = some d ∧ Aft K W W.S fun W' => ∀ v, W'.Rp K v d → Q v W'.H
def rW1 (K : PySem.W.Frag) (f : D → Option D) : V → Hp → VK → Prop := fun x H Q => ∃ (W : Wd) (dx d : D), W.H = H ∧ W.Ok K ∧ W.Rp K x dx ∧ f dx = some d ∧ Aft K W W.S fun W' => ∀ v, W'.Rp K v d → Q v W'.H
/-- nothing new -/
theorem aft_here {K : PySem.W.Frag} {W : Wd} {d : D} {Q : VK} (ok : W.Ok K) (h : Aft K W W.S fun W' => ∀ v, W'.Rp K v d → Q v W'.H) {v : V} (r : W.Rp K v d) : Q v W.H := h W (Le.refl W) ok rfl v r
/-- a new frozen thing at p -/
theorem aft_new {K : PySem.W.Frag} {W : Wd} {d : D} {Q : VK} (ok : W.Ok K) (h : Aft K W W.S fun W' => ∀ v, W'.Rp K v d → Q v W'.H) {p : Addr} {o : HO} (hp : W.H p = none) (r : (W.fr p o).Rp K (.ref p) d) : Q (.ref p) (upd W.H p o) :=
  h (W.fr p o) (le_fr ok hp) (ok_fr ok hp) rfl _ r
theorem rp_newT {K : PySem.W.Frag} {W : Wd} (ok : W.Ok K) {p : Addr} {vs : List V} {ds : List D} (hp : W.H p = none) (hl : vs.length ≤ sizeLine) (r : W.Rps K vs ds) : (W.fr p (.tup vs)).Rp K (.ref p) (.tup ds) :=
  .tup (.inl (.inl fr_at)) hl ((le_fr ok hp).rps r)
theorem rp_newL {K : PySem.W.Frag} {W : Wd} (ok : W.Ok K) {p : Addr} {vs : List V} {ds : List D} (hp : W.H p = none) (hl : vs.length ≤ sizeLine) (r : W.Rps K vs ds) : (W.fr p (.lst vs)).Rp K (.ref p) (.lst ds) :=
  .lst (.inl fr_at) hl ((le_fr ok hp).rps r)
theorem Reps.rept {K : PySem.W.Frag} {F : Hp} {io : List Addr} {vs : List V} {ds : List D} (r : Reps K F io vs ds) : ∀ n : Nat, Reps K F io (List.replicate n vs).flatten (List.replicate n ds).flatten
  | 0 => .nil
  | n + 1 => by
    rw [List.replicate_succ, List.replicate_succ, List.flatten_cons, List.flatten_cons]
    exact r.app (Reps.rept r n)

def Bo.op : Bo → Operator
  | .add => .Add
  | .sub => .Sub
  | .mul => .Mult
  | .fdiv => .FloorDiv
  | .mod => .Mod
  | .pow => .Pow
section
variable {X : Cx}
theorem ls_obj {pins : List (Addr × Obj)} {σ : L2.St} {H : Hp} {s : Shared} {a : Addr} {xs : List V} (I : Inv X pins σ H s) (h : LsAt X.K H a xs) :
    ∃ (its : List Value) (n : Nat), Vals xs its ∧ s.heap.get? a = some { cls := .type "list", data := .seq its.toArray n } ∧ its.length ≤ sizeLine := by
  rcases h with h | ⟨its, n, h⟩ | ⟨its, n, h1, h2, h3⟩
  · obtain ⟨z, its, n, r, e⟩ := I.hok a _ h
    exact ⟨its, n, r, e, by rw [← r.length]; exact z⟩
  · obtain ⟨e, q⟩ := I.hok a _ h
    obtain ⟨z, its2, n2, r, e2⟩ := (show ObjOk X.prog X.w H s.heap a (.lst xs) from q)
    exact ⟨its2, n2, r, e2, by rw [← r.length]; exact z⟩
  · exact ⟨its, n, h2, I.kIn a _ h1, h3⟩
def rCatL (K : PySem.W.Frag) : R2 := fun x y H Q => ∃ l b xs zs, x = .ref l ∧ y = .ref b ∧ LsAt K H l xs ∧ LsAt K H b zs ∧ xs.length + zs.length ≤ sizeLine ∧ ∀ p, H p = none → Q (.ref p) (upd H p (.lst (xs ++ zs)))
theorem op_catL : OpR X (binaryOp .Add) (rCatL X.K) := by
  intro pins s σ H x y v u Q I rx ry h
  obtain ⟨l, b, xs, zs, rfl, rfl, h1, h2, hz, q⟩ := h
  cases rx
  cases ry
  obtain ⟨i1, n1, r1, e1, z1⟩ := ls_obj I h1
  obtain ⟨i2, n2, r2, e2, z2⟩ := ls_obj I h2
  have m1 := r1.length
  have m2 := r2.length
  refine PySem.P.add_list e1 e2 ?_ (by simp only [List.size_toArray]; omega)
  rw [show i1.toArray ++ i2.toArray = (i1 ++ i2).toArray by simp]
  exact ⟨.ref _, _, I.lnew (t' := s.toks) (r1.append r2) (by rw [List.length_append]; omega), rfl, q _ I.fresh⟩
theorem op_fdivA : OpR X (binaryOp .FloorDiv) (rI (fun _ j => j ≠ 0 ∧ j.natAbs.log2 < 9000) fun i j => .int (i.fdiv j)) := opI fun _ _ _ _ _ _ _ hc q =>
  floordiv_int hc.1 q (.inl (PyProof.noPylong_of_log2 hc.2))
theorem sm_mul {i j : Int} (h : (sm i && sm j) = true) : CMulW i j := by
  have q := Bool.and_eq_true_iff.mp h
  have q1 := of_decide_eq_true q.1
  have q2 := of_decide_eq_true q.2
  unfold CMulW
  omega
/-- nothing, several times -/
theorem nil_mul (l : Addr) (n : Nat) (dd : Option Addr) (sl : Array (Option Value)) (x : Int) (u : Tok) (hx : (decide (x < -(2 ^ 63)) || decide (x ≥ 2 ^ 63)) = false) :
    Meets (Builtin.«tuple.__mul__» ⟨[.ref l, .int x u], []⟩) (fun _ R s => s.heap.get? l = some { cls := .type "tuple", dict := dd, data := .seq #[] n, slots := sl } ∧ R (.ok (.ret (Value.ref l))) s) :=
  .of_wp fun prog w A R s h => by
    obtain ⟨hp, g, d, tk, os⟩ := s
    obtain ⟨hl, h⟩ := h
    have here := AutoSeq1.idx_int
    wp_walk using wpAny_loadPart' hl
    refine wpAny_ite_false (decide_eq_false (by rw [hx]; exact Bool.false_ne_true)) ?_
    wp_walk using wpAny_loadPart' hl
    exact ⟨_, rfl, h⟩
def rNil (K : PySem.W.Frag) : R2 := fun x y H Q => ∃ l k, x = .ref l ∧ y = .int k ∧ SqT K H l [] ∧ 2 ≤ k ∧ k ≤ 1000 ∧ Q (.ref l) H
theorem op_nilT : OpR X (binaryOp .Mult) (rNil X.K) := by
  intro pins s σ H x y v u Q I rx ry h
  obtain ⟨l, k, rfl, rfl, hT, h1, h2, q⟩ := h
  cases rx
  obtain ⟨t, rfl⟩ := ry
  obtain ⟨its, r, ⟨⟨cls, dd, data, sl⟩, ho, hc, n, hd⟩, hs⟩ := I.tuple hT
  simp only at hc hd
  subst hc hd
  cases r
  have hx : (decide (k < -(2 ^ 63)) || decide (k ≥ 2 ^ 63)) = false := by
    rw [decide_eq_false (by omega), decide_eq_false (by omega)] <;> rfl
  refine wpAny_binaryOp_repeat_ref (T := "tuple") (U := "int") (by decide) ⟨_, ho, rfl⟩ (fun s' => typeIs_int s' k t) noFill_tuple_mul F.fills_int_mul F.slot_int_rmul repeat_tuple AutoSeq1.idx_int
    (call_meets F.slot_int_rmul (typeIs_int s k t) F.entry_int_rmul (F.args_int_rmul_2 _ _) (int_rmul_tuple k t l #[] n dd sl)
      ⟨ho, rfl, ⟨_, ho, rfl⟩, call_meets F.slot_tuple_mul ⟨_, ho, rfl⟩ F.entry_tuple_mul (F.args_tuple_mul_2 _ _) (nil_mul l n dd sl k t hx) ⟨ho, ?_⟩⟩)
  exact ⟨.ref l, _, I, rfl, q⟩
theorem op_bin (o : Bo) : OpR X (binaryOp o.op) (rW2 X.K (binD o)) := by
  intro pins s σ H x y v u Q I rx ry h
  obtain ⟨W, dx, dy, d, rfl, ok, qx, qy, e, k⟩ := h
  cases o with
  | add =>
    cases qx with
    | bl b =>
      cases qy with
      | int j =>
        cases e
        cases rx
        obtain ⟨t, rfl⟩ := ry
        exact PySem.IntBool.add_bool_int ⟨.int _, _, I.tok _, ⟨_, rfl⟩, aft_here ok k (.int _)⟩
      | _ => cases e
    | int i =>
      cases qy with
      | int j =>
        cases e
        exact op_add pins s σ _ _ _ v u Q I rx ry ⟨i, j, rfl, rfl, aft_here ok k (.int _)⟩
      | _ => cases e
    | str i =>
      cases qy with
      | str j =>
        have e : (if i.length + j.length ≤ sizeLine then some (D.str (i ++ j)) else none) = some d := e
        split at e
        · cases e
          exact op_add_str pins s σ _ _ _ v u Q I rx ry ⟨i, j, rfl, rfl, by assumption, aft_here ok k (.str _)⟩
        · cases e
      | _ => cases e
    | @tup a vs ds hx lx rx' =>
      cases qy with
      | @tup b ws es hy ly ry' =>
        have e : (if ds.length + es.length ≤ sizeLine then some (D.tup (ds ++ es)) else none) = some d := e
        split at e
        · rename_i hz
          cases e
          rw [← rx'.len, ← ry'.len] at hz
          refine op_catA pins s σ _ _ _ v u Q I rx ry ⟨a, b, vs, ws, rfl, rfl, ok.sqT hx, ok.sqT hy, hz, ?_⟩
          refine ⟨fun hn => ?_, fun _ hn2 => ?_, fun _ hn2 p hp => ?_⟩
          · subst hn
            cases rx'
            exact aft_here ok k (.tup hy ly ry')
          · subst hn2
            cases ry'
            rw [List.append_nil] at k
            exact aft_here ok k (.tup hx lx rx')
          · exact aft_new ok k hp (rp_newT ok hp (by rw [List.length_append]; exact hz) (rx'.app ry'))
        · cases e
      | _ => cases e
    | @lst a vs ds hx lx rx' =>
      cases qy with
      | @lst b ws es hy ly ry' =>
        have e : (if ds.length + es.length ≤ sizeLine then some (D.lst (ds ++ es)) else none) = some d := e
        split at e
        · rename_i hz
          cases e
          rw [← rx'.len, ← ry'.len] at hz
          exact op_catL pins s σ _ _ _ v u Q I rx ry ⟨a, b, vs, ws, rfl, rfl, ok.ls hx, ok.ls hy, hz, fun p hp => aft_new ok k hp (rp_newL ok hp (by rw [List.length_append]; exact hz) (rx'.app ry'))⟩
        · cases e
      | _ => cases e
    | _ => cases qy <;> cases e
  | sub =>
    cases qx with
    | int i =>
      cases qy with
      | int j =>
        cases e
        exact op_sub pins s σ _ _ _ v u Q I rx ry ⟨i, j, rfl, rfl, aft_here ok k (.int _)⟩
      | _ => cases e
    | _ => cases qy <;> cases e
  | mul =>
    cases qx with
    | int i =>
      cases qy with
      | int j =>
        have e : (if sm i && sm j then some (D.int (i * j)) else none) = some d := e
        split at e
        · cases e
          exact op_mulW pins s σ _ _ _ v u Q I rx ry ⟨i, j, rfl, rfl, sm_mul (by assumption), aft_here ok k (.int _)⟩
        · cases e
      | _ => cases e
    | @tup a vs ds hx lx rx' =>
      cases qy with
      | int n =>
        have e : (if decide (2 ≤ n) && decide (n ≤ 1000) && decide (ds.length ≤ 1000) then some (D.tup (repI n ds)) else none) = some d := e
        split at e
        · rename_i hz
          cases e
          simp only [Bool.and_eq_true, decide_eq_true_eq] at hz
          obtain ⟨⟨h1, h2⟩, h4⟩ := hz
          have hl := rx'.len
          by_cases h3 : ds = []
          · subst h3
            have e0 : repI n [] = [] := by unfold repI; simp
            rw [e0] at k
            cases rx'
            exact op_nilT pins s σ _ _ _ v u Q I rx ry ⟨a, n, rfl, rfl, ok.sqT hx, h1, h2, aft_here ok k (.tup hx lx .nil)⟩
          refine op_repT pins s σ _ _ _ v u Q I rx ry ⟨a, n, vs, rfl, rfl, ok.sqT hx, ?_, h1, h2, by omega, fun p hp => aft_new ok k hp (rp_newT ok hp ?_ (rx'.rept _))⟩
          · intro z
            subst z
            cases rx'
            exact h3 rfl
          · rw [List.length_flatten, List.map_replicate, List.sum_replicate_nat]
            have a1 : n.toNat ≤ 1000 := by omega
            have a2 : vs.length ≤ 1000 := by omega
            exact Nat.le_trans (Nat.mul_le_mul a1 a2) (by rw [sizeLine_eq]; decide)
        · cases e
      | _ => cases e
    | _ => cases qy <;> cases e
  | fdiv =>
    cases qx with
    | int i =>
      cases qy with
      | int j =>
        have e : (if decide (j ≠ 0) && sm j then some (D.int (i.fdiv j)) else none) = some d := e
        split at e
        · rename_i hz
          cases e
          have q := Bool.and_eq_true_iff.mp hz
          have q2 := of_decide_eq_true q.2
          exact op_fdivA pins s σ _ _ _ v u Q I rx ry ⟨i, j, rfl, rfl, ⟨of_decide_eq_true q.1, by omega⟩, aft_here ok k (.int _)⟩
        · cases e
      | _ => cases e
    | _ => cases qy <;> cases e
  | mod =>
    cases qx with
    | int i =>
      cases qy with
      | int j =>
        have e : (if j ≠ 0 then some (D.int (i.fmod j)) else none) = some d := e
        split at e
        · cases e
          exact op_modN pins s σ _ _ _ v u Q I rx ry ⟨i, j, rfl, rfl, by assumption, aft_here ok k (.int _)⟩
        · cases e
      | _ => cases e
    | _ => cases qy <;> cases e
  | pow =>
    cases qx with
    | int i =>
      cases qy with
      | int j =>
        have e : (if decide (0 ≤ j) && decide (j ≤ 1000) && decide (i.natAbs < 2 ^ 64) then some (D.int (i ^ j.toNat)) else none) = some d := e
        split at e
        · rename_i hz
          cases e
          simp only [Bool.and_eq_true, decide_eq_true_eq] at hz
          exact op_pow pins s σ _ _ _ v u Q I rx ry ⟨i, j, rfl, rfl, ⟨hz.1.1, by omega, hz.2⟩, aft_here ok k (.int _)⟩
        · cases e
      | _ => cases e
    | _ => cases qy <;> cases e
end
end Cv

/-! Cv4: comparisons, built-ins, places, slices: as the machine has them. -/
namespace Cv
open PySem PySem.Spec PyProof.Rows L2

def Co.op : Co → CmpOp
  | .lt => .Lt
  | .le => .LtE
  | .gt => .Gt
  | .ge => .GtE
  | .eq => .Eq
  | .ne => .NotEq
  | .isin => .In
  | .notin => .NotIn
  | .isn => .Is
  | .notn => .IsNot
/-- a comparison's answer -/
def rWc (K : PySem.W.Frag) (f : D → D → Option Bool) : R2 := fun x y H Q => ∃ (W : Wd) (dx dy : D) (b : Bool), W.H = H ∧ W.Ok K ∧ W.Rp K x dx ∧ W.Rp K y dy ∧ f dx dy = some b ∧ Q (.bl b) W.H
theorem if_some {α : Type} {c : Bool} {a b : α} (h : (if c = true then some a else none) = some b) : c = true ∧ a = b := by
  cases c with
  | true => exact ⟨rfl, Option.some.inj h⟩
  | false => cases h
theorem ifp_some {α : Type} {c : Prop} [Decidable c] {a b : α} (h : (if c then some a else none) = some b) : c ∧ a = b := by
  by_cases q : c
  · rw [if_pos q] at h; exact ⟨q, Option.some.inj h⟩
  · rw [if_neg q] at h; cases h
theorem shp_pl {d : D} (h : shp d = true) : d.pl = true ∧ SeqAt.shaped d.py = true := Bool.and_eq_true_iff.mp h
theorem room_sh {A : Around} {xs : List PyData} {d : PyData} (h : SeqAt.shaped d = true) (hu : A.units + 70 < cLine) : A.units + 1 + min (PyData.depthAll xs) d.depth < cLine := by
  have h1 := SeqAt.depth_of_shaped h
  have h2 : min (PyData.depthAll xs) d.depth ≤ d.depth := Nat.min_le_right _ _
  omega
section
variable {X : Cx}
theorem op_cmp (hu : X.A.units + 100 < cLine) (o : Co) : OpR X (compareOp o.op) (rWc X.K (cmpD o)) := by
  intro pins s σ H x y v u Q I rx ry h
  obtain ⟨W, dx, dy, b, rfl, ok, qx, qy, e, k⟩ := h
  cases o with
  | lt =>
    cases qx with
    | int i =>
      cases qy with
      | int j => cases e; exact op_lt pins s σ _ _ _ v u Q I rx ry ⟨i, j, rfl, rfl, k⟩
      | _ => cases e
    | str i =>
      cases qy with
      | str j =>
        cases e
        obtain ⟨t, rfl⟩ := rx
        obtain ⟨t', rfl⟩ := ry
        exact (PySem.W.rcLt_alike (.str i) (.str j) X.A s _ _ _ _ (Reads.str i t) (Reads.str j t') (by simp [PySem.W.alike]) (by intro z; cases z) (by simp [PyData.depth]; omega)) X.prog X.w X.xe _ ⟨.bl _, W.H, I, rfl, k⟩
      | _ => cases e
    | @tup a vs ds hx lx rx' =>
      cases qy with
      | @tup c ws es hy ly ry' =>
        have e : (if (D.pls ds && D.pls es && PySem.W.alikeAll (D.pys ds) (D.pys es) && decide (PyData.depthAll (D.pys ds) ≤ 64)) = true then some (PySem.W.dataLt (.tuple (D.pys ds)) (.tuple (D.pys es))) else none) = some b := e
        obtain ⟨hc, e⟩ := if_some e
        subst e
        simp only [Bool.and_eq_true, decide_eq_true_eq] at hc
        obtain ⟨⟨⟨h1, h2⟩, h3⟩, h4⟩ := hc
        have q1 := ok.dp (.tup hx lx rx') h1
        have q2 := ok.dp (.tup hy ly ry') h2
        obtain ⟨as, r1⟩ := Dp.reads I _ _ _ q1 rx
        obtain ⟨bs, r2⟩ := Dp.reads I _ _ _ q2 ry
        exact (PySem.W.rcLt_alike _ _ X.A s _ _ _ _ r1 r2 (by show PySem.W.alike (.tuple _) (.tuple _) = true; rw [PySem.W.alike]; exact h3) (by intro z; cases z) (by
          have : min (PyData.depth (D.py (.tup ds))) (PyData.depth (D.py (.tup es))) ≤ PyData.depth (D.py (.tup ds)) := Nat.min_le_left _ _
          have h5 : PyData.depth (D.py (.tup ds)) = PyData.depthAll (D.pys ds) + 1 := rfl
          omega)) X.prog X.w X.xe _ ⟨.bl _, W.H, I, rfl, k⟩
      | _ => cases e
    | _ => cases qy <;> cases e
  | le =>
    cases qx with
    | int i =>
      cases qy with
      | int j => cases e; exact op_le pins s σ _ _ _ v u Q I rx ry ⟨i, j, rfl, rfl, k⟩
      | _ => cases e
    | str i =>
      cases qy with
      | str j => cases e; exact op_le_str pins s σ _ _ _ v u Q I rx ry ⟨i, j, rfl, rfl, k⟩
      | _ => cases e
    | _ => cases qy <;> cases e
  | gt =>
    cases qx with
    | int i =>
      cases qy with
      | int j => cases e; exact op_gt pins s σ _ _ _ v u Q I rx ry ⟨i, j, rfl, rfl, k⟩
      | _ => cases e
    | _ => cases qy <;> cases e
  | ge =>
    cases qx with
    | int i =>
      cases qy with
      | int j => cases e; exact op_ge pins s σ _ _ _ v u Q I rx ry ⟨i, j, rfl, rfl, k⟩
      | _ => cases e
    | str i =>
      cases qy with
      | str j => cases e; exact op_ge_str pins s σ _ _ _ v u Q I rx ry ⟨i, j, rfl, rfl, k⟩
      | _ => cases e
    | _ => cases qy <;> cases e
  | eq =>
    by_cases hstr : ∃ a b : Str, dx = .str a ∧ dy = .str b
    · obtain ⟨a, c, rfl, rfl⟩ := hstr
      cases qx
      cases qy
      cases e
      refine op_eq pins s σ _ _ _ v u Q I rx ry ⟨rfl, ?_⟩
      rw [dec_str]
      exact k
    have e : (if (shp dx && shp dy) = true then some (PyData.eqv dx.py dy.py) else none) = some b := by
      cases dx <;> cases dy <;> first | exact e | exact absurd ⟨_, _, rfl, rfl⟩ hstr
    obtain ⟨hc, e⟩ := if_some e
    subst e
    have hc := Bool.and_eq_true_iff.mp hc
    have p1 := shp_pl hc.1
    have p2 := shp_pl hc.2
    exact op_eqD (by omega) pins s σ _ _ _ v u Q I rx ry ⟨_, _, ok.dp qx p1.1, ok.dp qy p2.1, p1.2, p2.2, k⟩
  | ne =>
    by_cases hstr : ∃ a b : Str, dx = .str a ∧ dy = .str b
    · obtain ⟨a, c, rfl, rfl⟩ := hstr
      cases qx
      cases qy
      cases e
      refine op_ne pins s σ _ _ _ v u Q I rx ry ⟨rfl, ?_⟩
      rw [dec_str]
      exact k
    have e : (if (shp dx && shp dy) = true then some (!PyData.eqv dx.py dy.py) else none) = some b := by
      cases dx <;> cases dy <;> first | exact e | exact absurd ⟨_, _, rfl, rfl⟩ hstr
    obtain ⟨hc, e⟩ := if_some e
    subst e
    have hc := Bool.and_eq_true_iff.mp hc
    have p1 := shp_pl hc.1
    have p2 := shp_pl hc.2
    exact op_neD (by omega) pins s σ _ _ _ v u Q I rx ry ⟨_, _, ok.dp qx p1.1, ok.dp qy p2.1, p1.2, p2.2, k⟩
  | isin =>
    cases qy with
    | str j =>
      cases qx with
      | str i => cases e; exact op_in_str pins s σ _ _ _ v u Q I rx ry ⟨i, j, rfl, rfl, k⟩
      | _ => cases e
    | @lst a vs ds hx lx rx' =>
      have e : (if (shp dx && shp (.lst ds)) = true then some (memD dx ds) else none) = some b := by
        cases dx <;> exact e
      obtain ⟨hc, e⟩ := if_some e
      subst e
      have hc := Bool.and_eq_true_iff.mp hc
      have p1 := shp_pl hc.1
      have p2 := shp_pl hc.2
      exact op_inD (by omega) pins s σ _ _ _ v u Q I rx ry ⟨_, _, ok.dp qx p1.1, ok.dp (.lst hx lx rx') p2.1, p1.2, p2.2, k⟩
    | @tup a vs ds hx lx rx' =>
      have e : (if (shp dx && shp (.tup ds)) = true then some (memD dx ds) else none) = some b := by
        cases dx <;> exact e
      obtain ⟨hc, e⟩ := if_some e
      subst e
      have hc := Bool.and_eq_true_iff.mp hc
      have p1 := shp_pl hc.1
      have p2 := shp_pl hc.2
      obtain ⟨as, r1⟩ := Dp.reads I _ _ _ (ok.dp qx p1.1) rx
      obtain ⟨bs, r2⟩ := Dp.reads I _ _ _ (ok.dp (.tup hx lx rx') p2.1) ry
      exact SeqAt.in_tuple_reads r2 r1 (SeqAt.canLay_of_shaped p2.2) (SeqAt.canLay_of_shaped p1.2) (room_sh p1.2 (by omega)) ⟨.bl _, W.H, I, rfl, k⟩
    | _ => cases dx <;> cases e
  | notin =>
    cases qy with
    | str j =>
      cases qx with
      | str i => cases e; exact op_notin_str pins s σ _ _ _ v u Q I rx ry ⟨i, j, rfl, rfl, k⟩
      | _ => cases e
    | @lst a vs ds hx lx rx' =>
      have e : (if (shp dx && shp (.lst ds)) = true then some (!memD dx ds) else none) = some b := by
        cases dx <;> exact e
      obtain ⟨hc, e⟩ := if_some e
      subst e
      have hc := Bool.and_eq_true_iff.mp hc
      have p1 := shp_pl hc.1
      have p2 := shp_pl hc.2
      exact op_notInD (by omega) pins s σ _ _ _ v u Q I rx ry ⟨_, _, ok.dp qx p1.1, ok.dp (.lst hx lx rx') p2.1, p1.2, p2.2, k⟩
    | @tup a vs ds hx lx rx' =>
      have e : (if (shp dx && shp (.tup ds)) = true then some (!memD dx ds) else none) = some b := by
        cases dx <;> exact e
      obtain ⟨hc, e⟩ := if_some e
      subst e
      have hc := Bool.and_eq_true_iff.mp hc
      have p1 := shp_pl hc.1
      have p2 := shp_pl hc.2
      obtain ⟨as, r1⟩ := Dp.reads I _ _ _ (ok.dp qx p1.1) rx
      obtain ⟨bs, r2⟩ := Dp.reads I _ _ _ (ok.dp (.tup hx lx rx') p2.1) ry
      exact SeqAt.notIn_tuple_reads r2 r1 (SeqAt.canLay_of_shaped p2.2) (SeqAt.canLay_of_shaped p1.2) (room_sh p1.2 (by omega)) ⟨.bl _, W.H, I, rfl, k⟩
    | _ => cases dx <;> cases e
  | isn =>
    cases qy with
    | non => cases qx <;> cases e <;> exact op_isN pins s σ _ _ _ v u Q I rx ry ⟨rfl, k⟩
    | _ => cases dx <;> cases e
  | notn =>
    cases qy with
    | non => cases qx <;> cases e <;> exact op_notN pins s σ _ _ _ v u Q I rx ry ⟨rfl, k⟩
    | _ => cases dx <;> cases e
/-- truth -/
theorem tru_D {W : Wd} (ok : W.Ok X.K) {x : V} {d : D} {b : Bool} (r : W.Rp X.K x d) (e : truD d = some b) : TruV X.K x W.H b := by
  cases r with
  | non => cases e; rfl
  | bl c => cases e; rfl
  | int i => cases e; rfl
  | str z =>
    obtain ⟨h1, h2⟩ := ifp_some (show (if z.length ≤ sizeLine then some ((z.length : Int) != 0) else none) = some b from e)
    exact ⟨h1, h2.symm⟩
  | tup hx lx rx =>
    have e2 := Option.some.inj (show some _ = some b from e)
    refine .inr (.inl ⟨_, ok.sqT hx, ?_⟩)
    rw [← e2]
    cases rx <;> rfl
  | lst hx lx rx =>
    have e2 := Option.some.inj (show some _ = some b from e)
    refine .inl ⟨_, ok.sqL hx, ?_⟩
    rw [← e2]
    cases rx <;> rfl
  | obj h => cases e

/-! ### places, slices -/
def rWi (K : PySem.W.Frag) : R2 := rW2 K idxD
theorem at_rps {F : Hp} {io : List Addr} {K : PySem.W.Frag} {vs : List V} {ds : List D} {i : Int} {d : D} (r : Reps K F io vs ds) (h : atD ds i = some d) : ∃ v, atI vs i = some v ∧ Rep K F io v d := by
  have h : (ixN ds.length i).bind (fun j => ds[j]?) = some d := h
  rw [← r.len] at h
  cases q : ixN vs.length i with
  | none => rw [q] at h; cases h
  | some j =>
    rw [q] at h
    obtain ⟨v, h1, h2⟩ := r.get (i := j) h
    exact ⟨v, by show (ixN vs.length i).bind (fun j => vs[j]?) = some v; rw [q]; exact h1, h2⟩
theorem ix_W : IxR X (rWi X.K) := by
  intro value slice pins s σ H x y v u Q I rx ry h hs
  obtain ⟨W, dx, dy, d, rfl, ok, qx, qy, e, k⟩ := h
  cases qx with
  | @lst a vs ds hx lx rx' =>
    cases qy with
    | int i =>
      obtain ⟨w, h1, h2⟩ := at_rps rx' (show atD ds i = some d from e)
      exact ix_list value slice pins s σ _ _ _ v u Q I rx ry ⟨a, vs, i, w, rfl, rfl, ok.sqL hx, h1, aft_here ok k h2⟩ hs
    | _ => cases e
  | @tup a vs ds hx lx rx' =>
    cases qy with
    | int i =>
      obtain ⟨w, h1, h2⟩ := at_rps rx' (show atD ds i = some d from e)
      exact ix_tup value slice pins s σ _ _ _ v u Q I rx ry ⟨a, vs, i, w, rfl, rfl, ok.sqT hx, h1, aft_here ok k h2⟩ hs
    | _ => cases e
  | str z =>
    cases qy with
    | int i =>
      obtain ⟨h1, h2⟩ : z.length ≤ sizeLine ∧ (atD z.cps.toList i).map (fun c => D.str ⟨#[c]⟩) = some d := by
        have e : (if z.length ≤ sizeLine then (atD z.cps.toList i).map (fun c => D.str ⟨#[c]⟩) else none) = some d := e
        by_cases q : z.length ≤ sizeLine
        · rw [if_pos q] at e; exact ⟨q, e⟩
        · rw [if_neg q] at e; cases e
      obtain ⟨c, h3, h4⟩ := Option.map_eq_some_iff.mp h2
      subst h4
      exact ix_str value slice pins s σ _ _ _ v u Q I rx ry ⟨z, i, c, rfl, rfl, h1, h3, aft_here ok k (.str _)⟩ hs
    | _ => cases e
  | _ => cases qy <;> cases e
def rWs (K : PySem.W.Frag) : V → Option Int → Option Int → Hp → VK → Prop := fun x lo hi H Q => rW1 K (fun d => sliD d lo hi) x H Q
theorem cut_rps {F : Hp} {io : List Addr} {K : PySem.W.Frag} {vs : List V} {ds : List D} (r : Reps K F io vs ds) (lo hi : Option Int) : Reps K F io (cutV vs lo hi) (cutD ds lo hi) := by
  unfold cutV cutD
  rw [r.len]
  exact (r.drop _).take _
theorem sl_W : SlR X (rWs X.K) := by
  intro pins s σ H x v vl vu lo hi sl Q I rx hs pl pu h
  obtain ⟨W, dx, d, rfl, ok, qx, e, k⟩ := h
  cases qx with
  | @lst a vs ds hx lx rx' =>
    cases e
    exact sl_list pins s σ _ _ v vl vu lo hi sl Q I rx hs pl pu ⟨a, vs, rfl, ok.sqL hx, fun p hp => aft_new ok k hp (rp_newL ok hp (Nat.le_trans (cutV_length _ _ _) lx) (cut_rps rx' lo hi))⟩
  | @tup a vs ds hx lx rx' =>
    cases e
    refine sl_tupA pins s σ _ _ v vl vu lo hi sl Q I rx hs pl pu ⟨a, vs, rfl, ok.sqT hx, fun hw => ?_, fun _ p hp => aft_new ok k hp (rp_newT ok hp (Nat.le_trans (cutV_length _ _ _) lx) (cut_rps rx' lo hi))⟩
    have e1 : cutD ds lo hi = ds := by
      unfold cutD
      rw [← rx'.len, hw.1, hw.2, rx'.len]
      simp
    rw [e1] at k
    exact aft_here ok k (.tup hx lx rx')
  | str z =>
    obtain ⟨h1, h2⟩ := ifp_some (show (if z.length ≤ sizeLine then some (D.str (cutS z lo hi)) else none) = some d from e)
    subst h2
    exact sl_str pins s σ _ _ v vl vu lo hi sl Q I rx hs pl pu ⟨z, rfl, h1, aft_here ok k (.str _)⟩
  | _ => cases e
end
end Cv

/-! Cv5: built-ins of one argument. -/
namespace Cv
open PySem PySem.Spec PyProof.Rows L2

def rWb (K : PySem.W.Frag) (f : D → Option D) : List V → Hp → VK → Prop := fun vs H Q => ∃ v, vs = [v] ∧ rW1 K f v H Q
theorem ints_rps {K : PySem.W.Frag} {F : Hp} {io : List Addr} : ∀ {ds : List D} {vs : List V} {ns : List Int}, Reps K F io vs ds → intsD ds = some ns → vs = ns.map V.int
  | [], _, _, .nil, e => by cases e; rfl
  | d :: ds, _, ns, .cons h r, e => by
    cases d with
    | int i =>
      obtain ⟨ms, h1, h2⟩ := Option.map_eq_some_iff.mp (show (intsD ds).map (i :: ·) = some ns from e)
      subst h2
      cases h
      rw [ints_rps r h1]
      rfl
    | _ => cases e
theorem bls_rps {K : PySem.W.Frag} {F : Hp} {io : List Addr} : ∀ {ds : List D} {vs : List V} {ns : List Bool}, Reps K F io vs ds → blsD ds = some ns → vs = ns.map V.bl
  | [], _, _, .nil, e => by cases e; rfl
  | d :: ds, _, ns, .cons h r, e => by
    cases d with
    | bl i =>
      obtain ⟨ms, h1, h2⟩ := Option.map_eq_some_iff.mp (show (blsD ds).map (i :: ·) = some ns from e)
      subst h2
      cases h
      rw [bls_rps r h1]
      rfl
    | _ => cases e
mutual
theorem noDict_py : ∀ d : D, d.py.hasDict = false
  | .non => rfl
  | .bl _ => rfl
  | .int _ => rfl
  | .str _ => rfl
  | .tup xs => noDict_pys xs
  | .lst xs => noDict_pys xs
  | .dct _ _ => rfl
  | .set _ => rfl
  | .obj _ => rfl
  | .fn _ => rfl
theorem noDict_pys : ∀ ds : List D, PyData.hasDictAll (D.pys ds) = false
  | [] => rfl
  | d :: ds => by
    show (d.py.hasDict || PyData.hasDictAll (D.pys ds)) = false
    rw [noDict_py d, noDict_pys ds]
    rfl
end
/-- how a built-in of one argument is called -/
def B1.nm : B1 → Str
  | .len => "len"
  | .abs => "abs"
  | .sum => "sum"
  | .repr => "repr"
  | .list => "list"
  | .tuple => "tuple"
  | .all => "all"
  | .any => "any"
  | .int => "int"
  | .str => "str"
def B1.fv : B1 → Value
  | .len => .builtin "len"
  | .abs => .builtin "abs"
  | .sum => .builtin "sum"
  | .repr => .builtin "repr"
  | .list => .type "list"
  | .tuple => .type "tuple"
  | .all => .builtin "all"
  | .any => .builtin "any"
  | .int => .type "int"
  | .str => .type "str"
theorem B1.boot (f : B1) : bootBuiltins f.nm = some f.fv := by cases f <;> decide +kernel
theorem B1.n1 (f : B1) : f.nm ≠ "__name__" := by cases f <;> decide
theorem B1.n2 (f : B1) : (f.nm == ("__debug__" : Str)) = false := by cases f <;> decide
section
variable {X : Cx}
theorem repr_D (hg : X.A.guards = some []) (hu : X.A.units + 200 < cLine) : CallR X (.builtin "repr") (rWb X.K (b1D .repr)) := by
  intro pins s σ H xs us Q I r h
  obtain ⟨x, rfl, W, dx, d, rfl, ok, qx, e, k⟩ := h
  obtain ⟨h1, h2⟩ := if_some (show (if reprOk dx = true then some (D.str dx.py.shown) else none) = some d from e)
  subst h2
  unfold reprOk at h1
  simp only [Bool.and_eq_true, decide_eq_true_eq] at h1
  obtain ⟨⟨⟨p1, p2⟩, p3⟩, p4⟩ := h1
  obtain ⟨u, rfl, rx⟩ := vals1 r
  have fin : ∀ (h' : Heap) (t : Tok) tk, (∀ b o, s.heap.get? b = some o → h'.get? b = some o) → EP X pins σ Q (.str dx.py.shown t) { s with heap := h', toks := tk } := fun h' t tk hk =>
    ⟨.str _, W.H, I.kept hk, ⟨t, rfl⟩, aft_here ok k (.str _)⟩
  have here : ∀ (t : Tok) tk, EP X pins σ Q (.str dx.py.shown t) { s with toks := tk } := fun t tk => ⟨.str _, W.H, I.tok tk, ⟨t, rfl⟩, aft_here ok k (.str _)⟩
  have dp := ok.dp qx p1
  have big : ∀ a, u = .ref a → wpAny (model X.prog X.w) X.A (call (.builtin "repr") [u]) (EP X pins σ Q) X.xe s := fun a hua => by
    obtain ⟨as, rd⟩ := Dp.reads I _ _ _ dp rx
    subst hua
    exact repr_of_reads' rd p2 (fun z => by rw [noDict_py] at z; cases z) hg (by omega) (fun _ _ e => e) (fun h' t tk hk => fin h' t tk hk) p4
  cases qx with
  | non => cases rx; exact PySem.P.repr_of_none (here _ _)
  | bl b => cases rx; exact PySem.P.repr_of_bool (by cases b <;> exact here _ _)
  | int i =>
    obtain ⟨t, rfl⟩ := rx
    exact PySem.P.repr_of_int (of_decide_eq_true p2) (here _ _)
  | str z =>
    obtain ⟨t, rfl⟩ := rx
    exact PySem.P.repr_of_str (here _ _) p4
  | tup _ _ _ => exact big _ rx
  | lst _ _ _ => exact big _ rx
  | obj _ => exact nomatch p1
theorem call_b1 (hc : X.calm = true) (hg : X.A.guards = some []) (hu : X.A.units + 200 < cLine) (f : B1) : CallR X f.fv (rWb X.K (b1D f)) := by
  cases f with
  | repr => exact repr_D hg hu
  | len =>
    intro pins s σ H xs us Q I r h
    obtain ⟨x, rfl, W, dx, d, rfl, ok, qx, e, k⟩ := h
    cases qx with
    | str z =>
      obtain ⟨h1, h2⟩ := ifp_some (show (if z.length ≤ sizeLine then some (D.int z.length) else none) = some d from e)
      subst h2
      exact call_len pins s σ _ _ us Q I r ⟨_, z.length, rfl, ⟨h1, rfl⟩, aft_here ok k (.int _)⟩
    | tup hx lx rx =>
      cases e
      rw [← rx.len] at k
      exact call_len pins s σ _ _ us Q I r ⟨_, _, rfl, .inr ⟨_, ok.sqT hx, rfl⟩, aft_here ok k (.int _)⟩
    | lst hx lx rx =>
      cases e
      rw [← rx.len] at k
      exact call_len pins s σ _ _ us Q I r ⟨_, _, rfl, .inl ⟨_, ok.sqL hx, rfl⟩, aft_here ok k (.int _)⟩
    | _ => cases e
  | abs =>
    intro pins s σ H xs us Q I r h
    obtain ⟨x, rfl, W, dx, d, rfl, ok, qx, e, k⟩ := h
    cases qx with
    | int i => cases e; exact call_abs pins s σ _ _ us Q I r ⟨i, rfl, aft_here ok k (.int _)⟩
    | _ => cases e
  | sum =>
    intro pins s σ H xs us Q I r h
    obtain ⟨x, rfl, W, dx, d, rfl, ok, qx, e, k⟩ := h
    cases qx with
    | @lst a vs ds hx lx rx =>
      obtain ⟨ns, h1, h2⟩ := Option.map_eq_some_iff.mp (show (intsD ds).map (fun ns => D.int ns.sum) = some d from e)
      subst h2
      have hv := ints_rps rx h1
      subst hv
      exact cr_sum hc pins s σ _ _ us Q I r ⟨a, ns, rfl, ok.sqL hx, aft_here ok k (.int _)⟩
    | _ => cases e
  | list =>
    intro pins s σ H xs us Q I r h
    obtain ⟨x, rfl, W, dx, d, rfl, ok, qx, e, k⟩ := h
    cases qx with
    | tup hx lx rx =>
      cases e
      exact call_list_of pins s σ _ _ us Q I r ⟨_, _, rfl, .inr (ok.sqT hx), fun p hp => aft_new ok k hp (rp_newL ok hp lx rx)⟩
    | lst hx lx rx =>
      cases e
      exact call_list_of pins s σ _ _ us Q I r ⟨_, _, rfl, .inl (ok.sqL hx), fun p hp => aft_new ok k hp (rp_newL ok hp lx rx)⟩
    | _ => cases e
  | tuple =>
    intro pins s σ H xs us Q I r h
    obtain ⟨x, rfl, W, dx, d, rfl, ok, qx, e, k⟩ := h
    cases qx with
    | tup hx lx rx =>
      cases e
      exact call_tuple_of pins s σ _ _ us Q I r ⟨_, _, rfl, .inr ⟨ok.sqT hx, aft_here ok k (.tup hx lx rx)⟩⟩
    | lst hx lx rx =>
      cases e
      exact call_tuple_of pins s σ _ _ us Q I r ⟨_, _, rfl, .inl ⟨ok.sqL hx, fun p hp => aft_new ok k hp (rp_newT ok hp lx rx)⟩⟩
    | _ => cases e
  | all =>
    intro pins s σ H xs us Q I r h
    obtain ⟨x, rfl, W, dx, d, rfl, ok, qx, e, k⟩ := h
    cases qx with
    | @lst a vs ds hx lx rx =>
      obtain ⟨ns, h1, h2⟩ := Option.map_eq_some_iff.mp (show (blsD ds).map (fun bs => D.bl (bs.all id)) = some d from e)
      subst h2
      have hv := bls_rps rx h1
      subst hv
      exact cr_all hc pins s σ _ _ us Q I r ⟨a, ns, rfl, ok.sqL hx, aft_here ok k (.bl _)⟩
    | _ => cases e
  | any =>
    intro pins s σ H xs us Q I r h
    obtain ⟨x, rfl, W, dx, d, rfl, ok, qx, e, k⟩ := h
    cases qx with
    | @lst a vs ds hx lx rx =>
      obtain ⟨ns, h1, h2⟩ := Option.map_eq_some_iff.mp (show (blsD ds).map (fun bs => D.bl (bs.any id)) = some d from e)
      subst h2
      have hv := bls_rps rx h1
      subst hv
      exact cr_any hc pins s σ _ _ us Q I r ⟨a, ns, rfl, ok.sqL hx, aft_here ok k (.bl _)⟩
    | _ => cases e
  | int =>
    intro pins s σ H xs us Q I r h
    obtain ⟨x, rfl, W, dx, d, rfl, ok, qx, e, k⟩ := h
    cases qx with
    | int i => cases e; exact call_int1 pins s σ _ _ us Q I r (.inl ⟨i, rfl, aft_here ok k (.int _)⟩)
    | bl b => cases e; exact call_int1 pins s σ _ _ us Q I r (.inr ⟨b, rfl, aft_here ok k (.int _)⟩)
    | _ => cases e
  | str =>
    intro pins s σ H xs us Q I r h
    obtain ⟨x, rfl, W, dx, d, rfl, ok, qx, e, k⟩ := h
    cases qx with
    | int i =>
      obtain ⟨h1, h2⟩ := ifp_some (show (if i.natAbs.log2 < 1920 then some (D.str (toString i)) else none) = some d from e)
      subst h2
      exact call_str_int pins s σ _ _ us Q I r ⟨i, rfl, h1, aft_here ok k (.str _)⟩
    | bl b =>
      cases e
      cases r with
      | cons ra rb =>
        cases rb
        cases ra
        exact PySem.P.str_of_bool ⟨.str _, _, I.tok _, ⟨_, rfl⟩, aft_here ok k (.str _)⟩
    | _ => cases e
/-- what isinstance asks -/
theorem ty_D {W : Wd} (ok : W.Ok X.K) {x : V} {d : D} {T : String} (r : W.Rp X.K x d) (e : tyD d = some T) : TyX X.K W.H x (.type T) := by
  cases r with
  | non => cases e; exact .base .non
  | bl b => cases e; exact .base (.bl b)
  | int i => cases e; exact .base (.int i)
  | str z => cases e; exact .base (.str z)
  | tup hx lx rx =>
    cases e
    rcases ok.sqT hx with (h | ⟨o, h⟩) | ⟨o, its, n, h1, h2, _⟩
    · exact .base (.tup h)
    · exact .fTuple h
    · exact .kTuple h1 h2
  | lst hx lx rx =>
    cases e
    rcases ok.sqL hx with (h | ⟨o, h⟩) | ⟨o, its, n, h1, h2, _⟩
    · exact .base (.lst h)
    · exact .base (.frz h)
    · exact .kList h1 h2
  | obj _ => cases e
end
end Cv

/-! Cv6: the look: is this text that core? Targets, walks. -/
namespace Cv
open PySem PySem.Spec PyProof.Rows L2

/-! ### views -/
def vName : Expr → Option Str
  | .Name x _ => some x
  | _ => none
theorem vName_ok {e : Expr} {x : Str} (h : vName e = some x) : ∃ p, e = .Name x p := by
  cases e <;> first | (cases h; done) | (cases h; exact ⟨_, rfl⟩)
def vConst : Expr → Option Const
  | .Constant c _ _ => some c
  | _ => none
theorem vConst_ok {e : Expr} {c : Const} (h : vConst e = some c) : ∃ j p, e = .Constant c j p := by
  cases e <;> first | (cases h; done) | (cases h; exact ⟨_, _, rfl⟩)
def vTuple : Expr → Option (List Expr)
  | .Tuple es _ _ => some es
  | _ => none
theorem vTuple_ok {e : Expr} {es : List Expr} (h : vTuple e = some es) : ∃ k p, e = .Tuple es k p := by
  cases e <;> first | (cases h; done) | (cases h; exact ⟨_, _, rfl⟩)
def vList : Expr → Option (List Expr)
  | .List es _ => some es
  | _ => none
theorem vList_ok {e : Expr} {es : List Expr} (h : vList e = some es) : ∃ p, e = .List es p := by
  cases e <;> first | (cases h; done) | (cases h; exact ⟨_, rfl⟩)
def vBin : Expr → Option (Expr × Operator × Expr)
  | .BinOp a o b _ => some (a, o, b)
  | _ => none
theorem vBin_ok {e a b : Expr} {o : Operator} (h : vBin e = some (a, o, b)) : ∃ p, e = .BinOp a o b p := by
  cases e <;> first | (cases h; done) | (cases h; exact ⟨_, rfl⟩)
def vUn : Expr → Option (UnaryOp × Expr)
  | .UnaryOp o a _ => some (o, a)
  | _ => none
theorem vUn_ok {e a : Expr} {o : UnaryOp} (h : vUn e = some (o, a)) : ∃ p, e = .UnaryOp o a p := by
  cases e <;> first | (cases h; done) | (cases h; exact ⟨_, rfl⟩)
def vCmp : Expr → Option (Expr × List CmpOp × List Expr)
  | .Compare a o b _ => some (a, o, b)
  | _ => none
theorem vCmp_ok {e a : Expr} {o : List CmpOp} {b : List Expr} (h : vCmp e = some (a, o, b)) : ∃ p, e = .Compare a o b p := by
  cases e <;> first | (cases h; done) | (cases h; exact ⟨_, rfl⟩)
def vBool : Expr → Option (BoolOp × List Expr × Pos)
  | .BoolOp o b p => some (o, b, p)
  | _ => none
theorem vBool_ok {e : Expr} {o : BoolOp} {b : List Expr} {p : Pos} (h : vBool e = some (o, b, p)) : e = .BoolOp o b p := by
  cases e <;> first | (cases h; done) | (cases h; rfl)
def vIf : Expr → Option (Expr × Expr × Expr)
  | .IfExp c a b _ => some (c, a, b)
  | _ => none
theorem vIf_ok {e c a b : Expr} (h : vIf e = some (c, a, b)) : ∃ p, e = .IfExp c a b p := by
  cases e <;> first | (cases h; done) | (cases h; exact ⟨_, rfl⟩)
def vSub : Expr → Option (Expr × Expr)
  | .Subscript a i _ => some (a, i)
  | _ => none
theorem vSub_ok {e a i : Expr} (h : vSub e = some (a, i)) : ∃ p, e = .Subscript a i p := by
  cases e <;> first | (cases h; done) | (cases h; exact ⟨_, rfl⟩)
def vSlice : Expr → Option (Option Expr × Option Expr × Option Expr)
  | .Slice a b c _ => some (a, b, c)
  | _ => none
theorem vSlice_ok {e : Expr} {a b c : Option Expr} (h : vSlice e = some (a, b, c)) : ∃ p, e = .Slice a b c p := by
  cases e <;> first | (cases h; done) | (cases h; exact ⟨_, rfl⟩)
/-- a call of a name, no keywords -/
def vCall : Expr → Option (Str × List Expr)
  | .Call (.Name x _) es [] _ => some (x, es)
  | _ => none
theorem vCall_ok {e : Expr} {x : Str} {es : List Expr} (h : vCall e = some (x, es)) : ∃ p q, e = .Call (.Name x p) es [] q := by
  unfold vCall at h
  split at h
  · cases h; exact ⟨_, _, rfl⟩
  · cases h
/-- a method's call without arguments, on one line -/
def vMeth0 : Expr → Option (Expr × Str × Pos × Pos)
  | .Call (.Attribute o m p) [] [] q => some (o, m, p, q)
  | _ => none
theorem vMeth0_ok {e o : Expr} {m : Str} {p q : Pos} (h : vMeth0 e = some (o, m, p, q)) : e = .Call (.Attribute o m p) [] [] q := by
  unfold vMeth0 at h
  split at h
  · cases h; rfl
  · cases h
def vMeth1 : Expr → Option (Expr × Str × Expr × Pos × Pos)
  | .Call (.Attribute o m p) [a] [] q => some (o, m, a, p, q)
  | _ => none
theorem vMeth1_ok {e o a : Expr} {m : Str} {p q : Pos} (h : vMeth1 e = some (o, m, a, p, q)) : e = .Call (.Attribute o m p) [a] [] q := by
  unfold vMeth1 at h
  split at h
  · cases h; rfl
  · cases h
def vLc1 : Expr → Option (Expr × Expr × Expr × List Expr × Scope × Pos)
  | .ListComp e [⟨t, i, c, 0⟩] s p => some (e, t, i, c, s, p)
  | _ => none
theorem vLc1_ok {x e t i : Expr} {c : List Expr} {s : Scope} {p : Pos} (h : vLc1 x = some (e, t, i, c, s, p)) : x = .ListComp e [⟨t, i, c, 0⟩] s p := by
  unfold vLc1 at h
  split at h
  · cases h; rfl
  · cases h
def vLc2 : Expr → Option (Expr × (Expr × Expr × List Expr) × (Expr × Expr × List Expr) × Scope × Pos)
  | .ListComp e [⟨t, i, c, 0⟩, ⟨t1, i1, c1, 0⟩] s p => some (e, (t, i, c), (t1, i1, c1), s, p)
  | _ => none
theorem vLc2_ok {x e t i t1 i1 : Expr} {c c1 : List Expr} {s : Scope} {p : Pos} (h : vLc2 x = some (e, (t, i, c), (t1, i1, c1), s, p)) : x = .ListComp e [⟨t, i, c, 0⟩, ⟨t1, i1, c1, 0⟩] s p := by
  unfold vLc2 at h
  split at h
  · cases h; rfl
  · cases h
def vDict : Expr → Option (List (Option Expr) × List Expr)
  | .Dict ks vs _ => some (ks, vs)
  | _ => none
theorem vDict_ok {e : Expr} {ks : List (Option Expr)} {vs : List Expr} (h : vDict e = some (ks, vs)) : ∃ p, e = .Dict ks vs p := by
  cases e <;> first | (cases h; done) | (cases h; exact ⟨_, rfl⟩)

def noStar : Expr → Bool
  | .Starred _ _ => false
  | _ => true
theorem star_each {e : Expr} (h : noStar e = true) (es : List Expr) (env : Env) : starEach (e :: es) env = (false, eval e env) :: starEach es env := by
  cases e <;> first | rfl | (cases h; done)
theorem star_any : ∀ {es : List Expr} (pos : Pos) (env : Env), es.all noStar = true → (backTo pos (starEach es env)).any (·.1) = false
  | [], _, _, _ => rfl
  | e :: es, pos, env, h => by
    rw [List.all_cons, Bool.and_eq_true] at h
    rw [star_each h.1]
    show (false || (backTo pos (starEach es env)).any (·.1)) = false
    rw [star_any pos env h.2]
    rfl
theorem asg_each {e : Expr} (h : noStar e = true) (es : List Expr) (env : Env) : assignEach (e :: es) env = (false, assign e env) :: assignEach es env := by
  cases e <;> first | rfl | (cases h; done)
/-- tested by its value -/
def plainT : Expr → Bool
  | .UnaryOp .Not _ _ => false
  | .BoolOp _ _ _ => false
  | .IfExp _ _ _ _ => false
  | .Compare _ _ _ _ => false
  | _ => true
theorem plainT_ok {e : Expr} {env : Env} (h : plainT e = true) : ∀ whole, isTrue e env whole = (do let v ← whole; standAt e.pos; holding [v] (truthy v)) := by
  intro whole
  cases e with
  | UnaryOp o a p => cases o <;> first | rfl | (cases h; done)
  | BoolOp => cases h
  | IfExp => cases h
  | Compare => cases h
  | _ => rfl
def noSet : Expr → Bool
  | .Set _ _ _ => false
  | _ => true
theorem noSet_ok {e : Expr} (h : noSet e = true) (env : Env) : ∀ x, foldedSetIterable e env x = pure x := by
  intro x
  cases e <;> first | rfl | (cases h; done)
theorem noSet_mark {e : Expr} (h : noSet e = true) (o : CmpOp) : behindInMarks o e = false := by
  cases e <;> first | rfl | (cases h; done)
def isSlice : Expr → Bool
  | .Slice _ _ _ _ => true
  | _ => false
theorem plainIx {e : Expr} (h : isSlice e = false) : PlainIx e := by
  intro o i
  cases e <;> first | rfl | (cases h; done)
def noComp : Expr → Bool
  | .ListComp _ _ _ _ => false
  | .SetComp _ _ _ _ => false
  | .DictComp _ _ _ _ _ => false
  | _ => true
theorem noComp_sw {e : Expr} (h : noComp e = true) (t : Option Expr) (l : Nat) (env : Env) : swapsWith e t l env = pure false := by
  cases e <;> first | rfl | (cases h; done)
/-- not super() -/
def plainO : Expr → Bool
  | .Call _ _ _ _ => false
  | _ => true
theorem plainO_ok {e : Expr} (h : plainO e = true) (m : Str) (env : Env) : attributeBase e m env (eval e env) = eval e env := by
  cases e <;> first | rfl | (cases h; done)

/-! ### the look's frame -/
structure Ck where
  N : List Str
  fns : List (Str × Nat)
  gls : List Str
structure Zs where
  sc : Scope
  fc : Option Scope
def bNames : List Str := ["len", "abs", "sum", "repr", "list", "tuple", "all", "any", "int", "str", "range", "zip", "isinstance", "bool", "dict", "set", "sorted", "min", "max", "enumerate", "reversed"]
def visB (sc : Scope) (x : Str) : Bool := match sc.names.lookup x with
  | some .local => true
  | some .cell => true
  | some .free => true
  | _ => false
theorem visB_ok {sc : Scope} {x : Str} (h : visB sc x = true) : Vis sc x := by
  unfold visB at h
  split at h
  · exact .inl (by assumption)
  · exact .inr (.inl (by assumption))
  · exact .inr (.inr (by assumption))
  · cases h
def nmB (x : Str) : Bool := !(x == ("__debug__" : Str)) && !(x == ("__classdict__" : Str)) && !(decide (x = "__name__"))
theorem nmB_1 {x : Str} (h : nmB x = true) : (x == ("__debug__" : Str)) = false := by
  unfold nmB at h
  simp only [Bool.and_eq_true, Bool.not_eq_true'] at h
  exact h.1.1
theorem nmB_2 {x : Str} (h : nmB x = true) : (x == ("__classdict__" : Str)) = false := by
  unfold nmB at h
  simp only [Bool.and_eq_true, Bool.not_eq_true'] at h
  exact h.1.2
def glB (sc : Scope) (x : Str) : Bool := match sc.names.lookup x with
  | some .globalImplicit => true
  | _ => false
theorem glB_ok {X : Cx} {x : Str} (h : glB X.env.scope x = true) : Gl X x := by
  unfold glB at h
  split at h
  · rename_i q; exact q
  · cases h
def fnOf (fc : Option Scope) (x : Str) : Bool := match fc with
  | none => true
  | some s => s.names.lookup x == some .cell
def storeB (z : Zs) (x : Str) : Bool := match z.sc.names.lookup x with
  | some .local => true
  | some .cell => fnOf z.fc x
  | _ => false
theorem storeB_ok {X : Cx} {z : Zs} {x : Str} (h : storeB z x = true) (e1 : X.env.scope = z.sc) (e2 : ∀ x, X.fn x = fnOf z.fc x) : Loc X.env.scope x ∧ (X.fn x = true ∨ X.env.scope.names.lookup x = some .local) := by
  unfold storeB at h
  rw [e1, e2]
  split at h
  · rename_i q; exact ⟨.inl q, .inr q⟩
  · rename_i q; exact ⟨.inr q, .inl h⟩
  · cases h
def ixB (N : List Str) (i : Nat) (x : Str) : Bool := decide (N[i]? = some x)

/-! ### targets -/
def Tg.ix : Tg → List Nat
  | .nm i => [i]
  | .tp2 a b => a.ix ++ b.ix
  | .tp3 a b c => a.ix ++ b.ix ++ c.ix
  | .tp4 a b c d => a.ix ++ b.ix ++ c.ix ++ d.ix
def chkG (q : Ck) (z : Zs) : Tg → Expr → Bool
  | .nm i, e => (match vName e with
    | some x => ixB q.N i x && storeB z x
    | none => false)
  | .tp2 a b, e => (match vTuple e with
    | some [x, y] => noStar x && noStar y && chkG q z a x && chkG q z b y
    | _ => false)
  | .tp3 a b c, e => (match vTuple e with
    | some [x, y, w] => noStar x && noStar y && noStar w && chkG q z a x && chkG q z b y && chkG q z c w
    | _ => false)
  | .tp4 a b c d, e => (match vTuple e with
    | some [x, y, w, u] => noStar x && noStar y && noStar w && noStar u && chkG q z a x && chkG q z b y && chkG q z c w && chkG q z d u
    | _ => false)
/-- the context fits the look's frame -/
structure Gd (q : Ck) (z : Zs) (X : Cx) : Prop where
  N : X.N = q.N
  nd : X.N.Nodup
  sc : X.env.scope = z.sc
  fn : ∀ x, X.fn x = fnOf z.fc x
  calm : X.calm = true
  gd : X.A.guards = some []
  un : X.A.units + 200 < cLine
  bl : ∀ x ∈ bNames, X.mg x = none

section
variable (K : PySem.W.Frag)
def tG (t : Tg) : TG := fun v σ H Q => ∃ (W0 W : Wd) (en : En) (d : D) (en2 : En), W.H = H ∧ W.Ok K ∧ EnOk K W0 W en σ ∧ W.Rp K v d ∧ asg t d en = some en2 ∧
  ∀ σ2, EnOk K W0 W en2 σ2 → (∀ vs, (∀ i ∈ t.ix, i ∈ vs) → wipe σ2 vs = wipe σ vs) → Q σ2 H
end
theorem wipe_set {σ : L2.St} {i : Nat} {x : Option V} : ∀ {vs : List Nat}, i ∈ vs → wipe (σ.set i x) vs = wipe σ vs
  | [], h => by cases h
  | v :: vs, h => by
    unfold wipe
    by_cases hm : i ∈ vs
    · rw [wipe_set hm]
    · have e : i = v := by
        rcases List.mem_cons.mp h with e | e
        · exact e
        · exact absurd e hm
      subst e
      have off : ∀ (ws : List Nat) (τ : L2.St), i ∉ ws → wipe (τ.set i x) ws = (wipe τ ws).set i x := by
        intro ws
        induction ws with
        | nil => intro τ _; rfl
        | cons w ws ih =>
          intro τ hw
          unfold wipe
          rw [ih τ (fun q => hw (List.mem_cons_of_mem _ q))]
          rw [List.set_comm]
          intro q
          exact hw (by rw [q]; exact List.mem_cons_self)
      rw [off vs σ hm, List.set_set]
theorem PG.weaken {X : Cx} {e : Expr} {t u : TG} (h : PG X e t) (i : ∀ v σ H Q, u v σ H Q → t v σ H Q) : PG X e u :=
  ⟨fun pins s σ H v w Q I r q => h.run pins s σ H v w Q I r (i v σ H Q q)⟩
theorem obind {α β : Type} {o : Option α} {f : α → Option β} {b : β} (h : o.bind f = some b) : ∃ a, o = some a ∧ f a = some b := by
  cases o with
  | none => cases h
  | some a => exact ⟨a, rfl, h⟩
section
variable {K : PySem.W.Frag} {F : Hp} {io : List Addr}
theorem reps_nil {vs : List V} (r : Reps K F io vs []) : vs = [] := by cases r; rfl
theorem reps_cons {vs : List V} {d : D} {ds : List D} (r : Reps K F io vs (d :: ds)) : ∃ v ws, vs = v :: ws ∧ Rep K F io v d ∧ Reps K F io ws ds := by
  cases r with
  | cons h r => exact ⟨_, _, rfl, h, r⟩
end
theorem asg2 {a b : Tg} {ds : List D} {en en2 : En} (h : asg (.tp2 a b) (.tup ds) en = some en2) : ∃ x y en1, ds = [x, y] ∧ asg a x en = some en1 ∧ asg b y en1 = some en2 := by
  match ds, h with
  | [x, y], h =>
    obtain ⟨en1, a1, a2⟩ := obind h
    exact ⟨x, y, en1, rfl, a1, a2⟩
theorem asg3 {a b c : Tg} {ds : List D} {en en2 : En} (h : asg (.tp3 a b c) (.tup ds) en = some en2) : ∃ x y w en1 en3, ds = [x, y, w] ∧ asg a x en = some en1 ∧ asg b y en1 = some en3 ∧ asg c w en3 = some en2 := by
  match ds, h with
  | [x, y, w], h =>
    obtain ⟨en3, h, a3⟩ := obind h
    obtain ⟨en1, a1, a2⟩ := obind h
    exact ⟨x, y, w, en1, en3, rfl, a1, a2, a3⟩
theorem asg4 {a b c e : Tg} {ds : List D} {en en2 : En} (h : asg (.tp4 a b c e) (.tup ds) en = some en2) : ∃ x y w u en1 en3 en4, ds = [x, y, w, u] ∧ asg a x en = some en1 ∧ asg b y en1 = some en3 ∧ asg c w en3 = some en4 ∧ asg e u en4 = some en2 := by
  match ds, h with
  | [x, y, w, u], h =>
    obtain ⟨en4, h, a4⟩ := obind h
    obtain ⟨en3, h, a3⟩ := obind h
    obtain ⟨en1, a1, a2⟩ := obind h
    exact ⟨x, y, w, u, en1, en3, en4, rfl, a1, a2, a3, a4⟩
theorem asgN {a b : Tg} {d : D} {en en2 : En} (h : asg (.tp2 a b) d en = some en2) : ∃ ds, d = .tup ds := by
  cases d <;> first | exact ⟨_, rfl⟩ | cases h
theorem asgN3 {a b c : Tg} {d : D} {en en2 : En} (h : asg (.tp3 a b c) d en = some en2) : ∃ ds, d = .tup ds := by
  cases d <;> first | exact ⟨_, rfl⟩ | cases h
theorem asgN4 {a b c e : Tg} {d : D} {en en2 : En} (h : asg (.tp4 a b c e) d en = some en2) : ∃ ds, d = .tup ds := by
  cases d <;> first | exact ⟨_, rfl⟩ | cases h
section
variable {q : Ck} {z : Zs} {X : Cx}
theorem pg_tg (G : Gd q z X) : ∀ (t : Tg) (e : Expr), chkG q z t e = true → PG X e (tG X.K t) := by
  intro t
  induction t with
  | nm i =>
    intro e h
    unfold chkG at h
    split at h
    · rename_i x hx
      obtain ⟨p, rfl⟩ := vName_ok hx
      have h := Bool.and_eq_true_iff.mp h
      obtain ⟨s1, s2⟩ := storeB_ok h.2 G.sc G.fn
      have hi : X.N[i]? = some x := by rw [G.N]; exact of_decide_eq_true h.1
      refine PG.weaken (pg_name G.nd hi s1 s2) ?_
      rintro v σ H Q ⟨W0, W, en, d, en2, rfl, ok, eo, r, ha, k⟩
      obtain ⟨h1, h2⟩ := ifp_some (show (if i < en.length then some (setV en i d) else none) = some en2 from ha)
      subst h2
      exact k _ (eo.set h1 r) fun vs hv => wipe_set (hv i (by simp [Tg.ix]))
    · cases h
  | tp2 a b iha ihb =>
    intro e h
    unfold chkG at h
    split at h
    · rename_i x y hx
      obtain ⟨k0, p, rfl⟩ := vTuple_ok hx
      simp only [Bool.and_eq_true] at h
      obtain ⟨⟨⟨n1, n2⟩, h1⟩, h2⟩ := h
      refine PG.weaken (pg_tup (n := 2) G.calm (pgs_cons (iha x h1) (pgs_cons (ihb y h2) pgs_nil (by rw [asg_each n2]; rfl)) (by rw [asg_each n1]; rfl)) (by rw [asg_each n1, asg_each n2]; rfl) (by rw [asg_each n1, asg_each n2]; rfl)) ?_
      rintro v σ H Q ⟨W0, W, en, d, en2, rfl, ok, eo, r, ha, k⟩
      obtain ⟨ds, rfl⟩ := asgN ha
      obtain ⟨d1, d2, en1, rfl, a1, a2⟩ := asg2 ha
      cases r with
      | @tup ad vs _ hx lx rx =>
          obtain ⟨v1, _, rfl, r1, rx⟩ := reps_cons rx
          obtain ⟨v2, _, rfl, r2, rx⟩ := reps_cons rx
          cases reps_nil rx
          refine ⟨ad, _, rfl, ok.sqT hx, rfl, _, _, rfl, W0, W, en, _, en1, rfl, ok, eo, r1, a1, fun σ1 eo1 w1 => ?_⟩
          refine ⟨_, _, rfl, W0, W, en1, _, en2, rfl, ok, eo1, r2, a2, fun σ2 eo2 w2 => ?_⟩
          exact ⟨rfl, k σ2 eo2 fun vs hv => (w2 vs fun i hi => hv i (by simp [Tg.ix, hi])).trans (w1 vs fun i hi => hv i (by simp [Tg.ix, hi]))⟩
    · cases h
  | tp3 a b c iha ihb ihc =>
    intro e h
    unfold chkG at h
    split at h
    · rename_i x y w hx
      obtain ⟨k0, p, rfl⟩ := vTuple_ok hx
      simp only [Bool.and_eq_true] at h
      obtain ⟨⟨⟨⟨⟨n1, n2⟩, n3⟩, h1⟩, h2⟩, h3⟩ := h
      refine PG.weaken (pg_tup (n := 3) G.calm (pgs_cons (iha x h1) (pgs_cons (ihb y h2) (pgs_cons (ihc w h3) pgs_nil (by rw [asg_each n3]; rfl)) (by rw [asg_each n2]; rfl)) (by rw [asg_each n1]; rfl)) (by rw [asg_each n1, asg_each n2, asg_each n3]; rfl) (by rw [asg_each n1, asg_each n2, asg_each n3]; rfl)) ?_
      rintro v σ H Q ⟨W0, W, en, d, en2, rfl, ok, eo, r, ha, k⟩
      obtain ⟨ds, rfl⟩ := asgN3 ha
      obtain ⟨d1, d2, d3, en1, en3, rfl, a1, a2, a3⟩ := asg3 ha
      cases r with
      | @tup ad vs _ hx lx rx =>
          obtain ⟨v1, _, rfl, r1, rx⟩ := reps_cons rx
          obtain ⟨v2, _, rfl, r2, rx⟩ := reps_cons rx
          obtain ⟨v3, _, rfl, r3, rx⟩ := reps_cons rx
          cases reps_nil rx
          refine ⟨ad, _, rfl, ok.sqT hx, rfl, _, _, rfl, W0, W, en, _, en1, rfl, ok, eo, r1, a1, fun σ1 eo1 w1 => ?_⟩
          refine ⟨_, _, rfl, W0, W, en1, _, en3, rfl, ok, eo1, r2, a2, fun σ2 eo2 w2 => ?_⟩
          refine ⟨_, _, rfl, W0, W, en3, _, en2, rfl, ok, eo2, r3, a3, fun σ3 eo3 w3 => ?_⟩
          exact ⟨rfl, k σ3 eo3 fun vs hv => (w3 vs fun i hi => hv i (by simp [Tg.ix, hi])).trans ((w2 vs fun i hi => hv i (by simp [Tg.ix, hi])).trans (w1 vs fun i hi => hv i (by simp [Tg.ix, hi])))⟩
    · cases h
  | tp4 a b c f iha ihb ihc ihf =>
    intro e h
    unfold chkG at h
    split at h
    · rename_i x y w u hx
      obtain ⟨k0, p, rfl⟩ := vTuple_ok hx
      simp only [Bool.and_eq_true] at h
      obtain ⟨⟨⟨⟨⟨⟨⟨n1, n2⟩, n3⟩, n4⟩, h1⟩, h2⟩, h3⟩, h4⟩ := h
      refine PG.weaken (pg_tup (n := 4) G.calm (pgs_cons (iha x h1) (pgs_cons (ihb y h2) (pgs_cons (ihc w h3) (pgs_cons (ihf u h4) pgs_nil (by rw [asg_each n4]; rfl)) (by rw [asg_each n3]; rfl)) (by rw [asg_each n2]; rfl)) (by rw [asg_each n1]; rfl)) (by rw [asg_each n1, asg_each n2, asg_each n3, asg_each n4]; rfl) (by rw [asg_each n1, asg_each n2, asg_each n3, asg_each n4]; rfl)) ?_
      rintro v σ H Q ⟨W0, W, en, d, en2, rfl, ok, eo, r, ha, k⟩
      obtain ⟨ds, rfl⟩ := asgN4 ha
      obtain ⟨d1, d2, d3, d4, en1, en3, en4, rfl, a1, a2, a3, a4⟩ := asg4 ha
      cases r with
      | @tup ad vs _ hx lx rx =>
          obtain ⟨v1, _, rfl, r1, rx⟩ := reps_cons rx
          obtain ⟨v2, _, rfl, r2, rx⟩ := reps_cons rx
          obtain ⟨v3, _, rfl, r3, rx⟩ := reps_cons rx
          obtain ⟨v4, _, rfl, r4, rx⟩ := reps_cons rx
          cases reps_nil rx
          refine ⟨ad, _, rfl, ok.sqT hx, rfl, _, _, rfl, W0, W, en, _, en1, rfl, ok, eo, r1, a1, fun σ1 eo1 w1 => ?_⟩
          refine ⟨_, _, rfl, W0, W, en1, _, en3, rfl, ok, eo1, r2, a2, fun σ2 eo2 w2 => ?_⟩
          refine ⟨_, _, rfl, W0, W, en3, _, en4, rfl, ok, eo2, r3, a3, fun σ3 eo3 w3 => ?_⟩
          refine ⟨_, _, rfl, W0, W, en4, _, en2, rfl, ok, eo3, r4, a4, fun σ4 eo4 w4 => ?_⟩
          exact ⟨rfl, k σ4 eo4 fun vs hv => (w4 vs fun i hi => hv i (by simp [Tg.ix, hi])).trans ((w3 vs fun i hi => hv i (by simp [Tg.ix, hi])).trans ((w2 vs fun i hi => hv i (by simp [Tg.ix, hi])).trans (w1 vs fun i hi => hv i (by simp [Tg.ix, hi]))))⟩
    · cases h
end
end Cv

/-! Cv7: what is walked; calls of defs. -/
namespace Cv
open PySem PySem.Spec PyProof.Rows L2

/-- what is frozen stays -/
structure Lw (W W' : Wd) : Prop where
  ff : ∀ a o, W.F a = some o → W'.F a = some o
  ix : ∀ (n : Nat) a, W.io[n]? = some a → W'.io[n]? = some a
theorem Le.lw {W W' : Wd} (l : Le W W') : Lw W W' := ⟨l.ff, l.ix⟩
theorem Lw.refl (W : Wd) : Lw W W := ⟨fun _ _ h => h, fun _ _ h => h⟩
theorem Lw.trans {W W1 W2 : Wd} (a : Lw W W1) (b : Lw W1 W2) : Lw W W2 := ⟨fun c o h => b.ff c o (a.ff c o h), fun n c h => b.ix n c (a.ix n c h)⟩
theorem Lw.rps {K : PySem.W.Frag} {W W' : Wd} (l : Lw W W') {v : List V} {d : List D} (r : W.Rps K v d) : W'.Rps K v d := Reps.mono l.ff l.ix r
theorem Lw.rp {K : PySem.W.Frag} {W W' : Wd} (l : Lw W W') {v : V} {d : D} (r : W.Rp K v d) : W'.Rp K v d := Rep.mono l.ff l.ix r
/-- what an iterator gives, in all worlds that come -/
structure Wk (K : PySem.W.Frag) (W : Wd) (J : It) (ds : List D) : Prop where
  go : ∀ W' i, Lw W W' → W'.Ok K → i < ds.length → J.go i W'.H
  yl : ∀ W' i x H', Lw W W' → W'.Ok K → i < ds.length → J.yld i W'.H x H' → ∃ W2 d, Wd.H W2 = H' ∧ Le W' W2 ∧ W2.Ok K ∧ W2.S = W'.S ∧ ds[i]? = some d ∧ W2.Rp K x d
  st : ∀ W', Lw W W' → W'.Ok K → J.stop ds.length W'.H
  ln : ds.length ≤ sizeLine
section
variable {K : PySem.W.Frag} {W : Wd}
theorem wk_list {a : Addr} {vs : List V} {ds : List D} (hx : LsAt K W.F a vs) (hz : vs.length ≤ sizeLine) (r : W.Rps K vs ds) : Wk K W (Itl K a) ds := by
  refine ⟨fun W' i l ok hi => ?_, fun W' i x H' l ok hi y => ?_, fun W' l ok => ?_, ?_⟩
  · have hs := ok.sqL (lsAt_mono l.ff hx)
    have hl := r.len
    exact ⟨vs, vs[i], hs, List.getElem?_eq_getElem (by omega)⟩
  · obtain ⟨e, y⟩ := y
    have hs := ok.sqL (lsAt_mono l.ff hx)
    have hv := y vs hs
    obtain ⟨d, h1, h2⟩ := r.getV hv
    exact ⟨W', d, e.symm, Le.refl _, ok, rfl, h1, l.rp h2⟩
  · exact ⟨vs, ok.sqL (lsAt_mono l.ff hx), Nat.le_of_eq r.len⟩
  · rw [← r.len]; exact hz
theorem wk_tup {a : Addr} {vs : List V} {ds : List D} (hx : SqT K W.F a vs) (hz : vs.length ≤ sizeLine) (r : W.Rps K vs ds) : Wk K W (Itt K a) ds := by
  refine ⟨fun W' i l ok hi => ?_, fun W' i x H' l ok hi y => ?_, fun W' l ok => ?_, ?_⟩
  · have hs := ok.sqT (sqT_mono l.ff hx)
    have hl := r.len
    exact ⟨vs, vs[i], hs, List.getElem?_eq_getElem (by omega)⟩
  · obtain ⟨e, y⟩ := y
    have hs := ok.sqT (sqT_mono l.ff hx)
    have hv := y vs hs
    obtain ⟨d, h1, h2⟩ := r.getV hv
    exact ⟨W', d, e.symm, Le.refl _, ok, rfl, h1, l.rp h2⟩
  · exact ⟨vs, ok.sqT (sqT_mono l.ff hx), Nat.le_of_eq r.len⟩
  · rw [← r.len]; exact hz
theorem wk_str (z : Str) (hz : z.length ≤ sizeLine) : Wk K W (Its z) (z.cps.toList.map fun c => D.str ⟨#[c]⟩) := by
  refine ⟨fun W' i l ok hi => ?_, fun W' i x H' l ok hi y => ?_, fun W' l ok => ?_, ?_⟩
  · show i < z.cps.size
    simpa using hi
  · obtain ⟨e, c, hc, ex⟩ := y
    subst ex
    exact ⟨W', _, e.symm, Le.refl _, ok, rfl, by rw [List.getElem?_map, Array.getElem?_toList, hc]; rfl, .str _⟩
  · show z.cps.size ≤ _
    simp
  · rw [List.length_map]; simpa [Str.length] using hz
theorem wk_rng (lo hi : Int) (h1 : rgOk lo = true) (h2 : rgOk hi = true) : Wk K W (Itr lo (hi - lo).toNat) (rangeD lo hi) := by
  have hl : (rangeD lo hi).length = (hi - lo).toNat := by simp [rangeD]
  refine ⟨fun W' i l ok hi => ?_, fun W' i x H' l ok hi' y => ?_, fun W' l ok => ?_, ?_⟩
  · show i < _
    rw [hl] at hi; exact hi
  · obtain ⟨e, ex⟩ := y
    subst ex
    rw [hl] at hi'
    refine ⟨W', .int (lo + i), e.symm, Le.refl _, ok, rfl, ?_, .int _⟩
    unfold rangeD
    rw [List.getElem?_map, List.getElem?_range hi']
    rfl
  · show (hi - lo).toNat ≤ _
    rw [hl]; exact Nat.le_refl _
  · rw [hl]
    unfold rgOk at h1 h2
    simp only [Bool.and_eq_true, decide_eq_true_eq] at h1 h2
    rw [sizeLine_eq]
    omega
theorem zip_len : ∀ (xs ys : List D), (zipD xs ys).length = min xs.length ys.length
  | [], _ => by simp [zipD]
  | _ :: _, [] => by simp [zipD]
  | x :: xs, y :: ys => by
    show (zipD xs ys).length + 1 = _
    rw [zip_len xs ys]
    simp only [List.length_cons]
    omega
theorem zip_get : ∀ (xs ys : List D) (i : Nat) (x y : D), xs[i]? = some x → ys[i]? = some y → (zipD xs ys)[i]? = some (.tup [x, y])
  | [], _, _, _, _, h, _ => by simp at h
  | _ :: _, [], _, _, _, _, h => by simp at h
  | x :: xs, y :: ys, 0, _, _, h, h2 => by
    simp at h h2
    subst h h2
    rfl
  | x :: xs, y :: ys, i + 1, a, b, h, h2 => zip_get xs ys i a b (by simpa using h) (by simpa using h2)
theorem wk_zipL {a b : Addr} {vs ws : List V} {ds es : List D} (hx : LsAt K W.F a vs) (hz : vs.length ≤ sizeLine) (r : W.Rps K vs ds) (hy : LsAt K W.F b ws) (r2 : W.Rps K ws es) : Wk K W (Itz K a b) (zipD ds es) := by
  have l1 := r.len
  have l2 := r2.len
  have lz := zip_len ds es
  refine ⟨fun W' i l ok hi => ?_, fun W' i x H' l ok hi y => ?_, fun W' l ok => ?_, ?_⟩
  · have hs := ok.sqL (lsAt_mono l.ff hx)
    have hs2 := ok.sqL (lsAt_mono l.ff hy)
    exact ⟨vs, ws, vs[i], ws[i], hs, hs2, List.getElem?_eq_getElem (by omega), List.getElem?_eq_getElem (by omega)⟩
  · obtain ⟨T, x1, y1, rfl, hT, e, yx, yy⟩ := y
    have hv := yx vs (ok.sqL (lsAt_mono l.ff hx))
    have hw := yy ws (ok.sqL (lsAt_mono l.ff hy))
    obtain ⟨d, h1, h2⟩ := r.getV hv
    obtain ⟨f, h3, h4⟩ := r2.getV hw
    refine ⟨W'.fr T (.tup [x1, y1]), .tup [d, f], e.symm, le_fr ok hT, ok_fr ok hT, rfl, zip_get _ _ _ _ _ h1 h3, ?_⟩
    exact rp_newT ok hT (by show 2 ≤ sizeLine; decide) (.cons (l.rp h2) (.cons (l.rp h4) .nil))
  · exact ⟨vs, ws, ok.sqL (lsAt_mono l.ff hx), ok.sqL (lsAt_mono l.ff hy), by omega⟩
  · omega
theorem wk_zipT {a b : Addr} {vs ws : List V} {ds es : List D} (hx : SqT K W.F a vs) (hz : vs.length ≤ sizeLine) (r : W.Rps K vs ds) (hy : SqT K W.F b ws) (r2 : W.Rps K ws es) : Wk K W (RZ.ItzT K a b) (zipD ds es) := by
  have l1 := r.len
  have l2 := r2.len
  have lz := zip_len ds es
  refine ⟨fun W' i l ok hi => ?_, fun W' i x H' l ok hi y => ?_, fun W' l ok => ?_, ?_⟩
  · have hs := ok.sqT (sqT_mono l.ff hx)
    have hs2 := ok.sqT (sqT_mono l.ff hy)
    exact ⟨vs, ws, vs[i], ws[i], hs, hs2, List.getElem?_eq_getElem (by omega), List.getElem?_eq_getElem (by omega)⟩
  · obtain ⟨T, x1, y1, rfl, hT, e, yx, yy⟩ := y
    have hv := yx vs (ok.sqT (sqT_mono l.ff hx))
    have hw := yy ws (ok.sqT (sqT_mono l.ff hy))
    obtain ⟨d, h1, h2⟩ := r.getV hv
    obtain ⟨f, h3, h4⟩ := r2.getV hw
    refine ⟨W'.fr T (.tup [x1, y1]), .tup [d, f], e.symm, le_fr ok hT, ok_fr ok hT, rfl, zip_get _ _ _ _ _ h1 h3, ?_⟩
    exact rp_newT ok hT (by show 2 ≤ sizeLine; decide) (.cons (l.rp h2) (.cons (l.rp h4) .nil))
  · exact ⟨vs, ws, ok.sqT (sqT_mono l.ff hx), ok.sqT (sqT_mono l.ff hy), by omega⟩
  · omega
end
def tI (K : PySem.W.Frag) (g : Cf) (it : Wi) : TI := fun σ H R => At K σ H fun W en => ∃ ds S', evi g it en W.S = some (ds, S') ∧ Aft K W S' fun W' => ∀ J, Wk K W' J ds → R J W'.H
/-- a list, a tuple, a text: walked -/
def iSq (K : PySem.W.Frag) (te : TE) : TI := fun σ H R => te σ H fun x H1 =>
  (∃ a xs, x = .ref a ∧ SqL K H1 a xs ∧ R (Itl K a) H1) ∨ (∃ a xs, x = .ref a ∧ SqT K H1 a xs ∧ R (Itt K a) H1) ∨ ∃ z, x = .str z ∧ R (Its z) H1
section
variable {X : Cx} {tg : Expr}
theorem pi_sq {l : Expr} {tl : TE} (hl : PE X l tl) : PI X tg l (iSq X.K tl) := by
  refine ⟨fun pins s σ H R I h => ?_⟩
  refine thn (hl.run pins s σ H _ I h) fun v s1 ⟨x, H1, I1, r1, q1⟩ => ?_
  rcases q1 with ⟨a, xs, e, hq, q⟩ | ⟨a, xs, e, hq, q⟩ | ⟨z, e, q⟩
  · subst e
    cases r1
    obtain ⟨its, rv, p, hz⟩ := I1.list hq
    exact wpAny_pyIter_list p.isList (pi_one (tk := s1.toks) I1 _ (turn_list a _) ⟨_, Heap.get?_push_size _ rfl, rfl, rfl⟩ q)
  · subst e
    cases r1
    obtain ⟨its, rv, p, hz⟩ := I1.tuple hq
    exact wpAny_pyIter_tuple p (pi_one (tk := s1.toks) I1 _ (turn_tuple a _) ⟨_, Heap.get?_push_size _ rfl, rfl, rfl⟩ q)
  · subst e
    obtain ⟨t, rfl⟩ := r1
    cases ha : z.cps.all (· < 128)
    · exact wpAny_pyIter_wide ha (pi_one (tk := s1.toks) I1 _ (turn_str _ z t "str_iterator" (.inr rfl)) ⟨_, Heap.get?_push_size _ rfl, rfl, rfl⟩ q)
    · exact wpAny_pyIter_ascii ha (pi_one (tk := s1.toks) I1 _ (turn_str _ z t "str_ascii_iterator" (.inl rfl)) ⟨_, Heap.get?_push_size _ rfl, rfl, rfl⟩ q)
theorem PI.weaken {e : Expr} {t u : TI} (h : PI X tg e t) (i : ∀ σ H R, u σ H R → t σ H R) : PI X tg e u := ⟨fun pins s σ H R I q => h.run pins s σ H R I (i σ H R q)⟩
theorem PE.weaken {e : Expr} {t u : TE} (h : PE X e t) (i : ∀ σ H Q, u σ H Q → t σ H Q) : PE X e u := ⟨fun pins s σ H Q I q => h.run pins s σ H Q I (i σ H Q q)⟩
theorem PT.weaken {e : Expr} {t u : TT} (h : PT X e t) (i : ∀ σ H Q, u σ H Q → t σ H Q) : PT X e u := ⟨fun pins s σ H Q I q => h.run pins s σ H Q I (i σ H Q q)⟩
theorem PW.weaken {e : Expr} {t u : TT} (h : PW X e t) (i : ∀ σ H Q, u σ H Q → t σ H Q) : PW X e u := ⟨fun wh pins s σ H Q I q => h.run wh pins s σ H Q I (i σ H Q q)⟩
theorem PA.weaken {e : List Expr} {t u : TA} (h : PA X e t) (i : ∀ σ H Q, u σ H Q → t σ H Q) : PA X e u := ⟨fun pos pins s σ H Q I q => h.run pos pins s σ H Q I (i σ H Q q)⟩
theorem PTs.weaken {e : List Expr} {t u : TT} (h : PTs X e t) (i : ∀ σ H Q, u σ H Q → t σ H Q) : PTs X e u := ⟨fun pins s σ H Q I q => h.run pins s σ H Q I (i σ H Q q)⟩
theorem PO.weaken {e : Option Expr} {t u : TO} (h : PO X e t) (i : ∀ σ H Q, u σ H Q → t σ H Q) : PO X e u := ⟨fun pins s σ H Q I q => h.run pins s σ H Q I (i σ H Q q)⟩
theorem PS.weaken {e : Stmt} {t u : TS} (h : PS X e t) (i : ∀ D σ H, u D σ H → t D σ H) : PS X e u := ⟨fun pins s σ H D I q => h.run pins s σ H D I (i D σ H q)⟩
theorem PSs.weaken {e : List Stmt} {t u : TS} (h : PSs X e t) (i : ∀ D σ H, u D σ H → t D σ H) : PSs X e u := ⟨fun pins s σ H D I q => h.run pins s σ H D I (i D σ H q)⟩
end

/-! ### calls of defs -/
def spC (K : PySem.W.Frag) (m : List D → M D) : List V → Hp → VK → Prop := fun vs H Q => ∃ (W : Wd) (ds : List D), W.H = H ∧ W.Ok K ∧ W.Rps K vs ds ∧ Yl K W (m ds) (fun W' v d => W'.Rp K v d) Q
/-- the def at f does what m says -/
structure FnC (P : Program) (w : World) (K : PySem.W.Frag) (mg : Str → Option Value) (base : Heap) (k : Nat) (f : Addr) (fd : FuncData) (ps : List Str) (m : List D → M D) : Prop where
  go : ∀ (A : Around) (outer : List Env) (s : Shared) (H : Hp) (args : Args) (us : List Value) (vs : List V) (Q : VK), Room k A → A.guards = some [] → Env0 P w K mg base A outer s H →
    BindsTo s fd args (ps.zip us) → Vals vs us → vs.length = ps.length → spC K m vs H Q → codeAny (model P w) A (.call (.ref f) args) (CR CX0 outer P w H s Q E0) s
/-- the defs and constants that a text may name -/
structure Fs (g : Cf) (q : Ck) (k : Nat) (X : Cx) : Prop where
  gl : ∀ (j : Nat) x, q.gls[j]? = some x → ∃ d v u, g.gl[j]? = some d ∧ X.mg x = some u ∧ RelV v u ∧ ∀ F io, Rep X.K F io v d
  fn : ∀ (j : Nat) x n, q.fns[j]? = some (x, n) → ∃ m f fd ps, g.fn[j]? = some m ∧ X.mg x = some (.ref f) ∧ PySem.W.keepIn X.K (.ref f) = true ∧ FnC X.prog X.w X.K X.mg X.base k f fd ps m ∧ Binds X.K fd ps [] ∧ ps.length = n
  rm : Room k X.A
section
variable {X : Cx} {k : Nat} {f : Addr} {fd : FuncData} {ps : List Str} {m : List D → M D} {x : Str} {p pos : Pos} {t : TA}
theorem run_C {pins : List (Addr × Obj)} {σ : L2.St} {H : Hp} {s : Shared} {Q : VK} {us : List Value} {vs : List V} (F : FnC X.prog X.w X.K X.mg X.base k f fd ps m) (hr : Room k X.A) (hg : X.A.guards = some []) (hb : Binds X.K fd ps [])
    (I : Inv X pins σ H s) (r : Vals vs us) (hl : vs.length = ps.length) (h : spC X.K m vs H Q) : wpAny (model X.prog X.w) X.A (call (.ref f) us) (EP X pins σ Q) X.xe s := by
  have bd := hb s us I.kIn (by rw [List.append_nil, ← r.length]; exact hl)
  rw [List.append_nil] at bd
  refine wpAny_call (codeAny_mono (F.go X.A X.stack s H ⟨us, []⟩ us vs Q hr hg I.env0 bd r hl h) fun z s' hq => ?_)
  cases z with
  | error e => exact (show False from hq).elim
  | ok fl => cases fl with
    | ret u => exact I.after hq
    | _ => exact (show False from hq).elim
def tCallC (K : PySem.W.Frag) (m : List D → M D) (t : TA) : TE := fun σ H Q => t σ H fun vs H1 => spC K m vs H1 Q
theorem pe_C {es : List Expr} (F : FnC X.prog X.w X.K X.mg X.base k f fd ps m) (hr : Room k X.A) (hgd : X.A.guards = some []) (hg : Gl X x) (hm : X.mg x = some (.ref f)) (hk : PySem.W.keepIn X.K (.ref f) = true) (hb : Binds X.K fd ps [])
    (hn : es.length = ps.length) (ha : PA X es t) (hl : ∀ σ H Q, t σ H Q → t σ H fun vs H1 => vs.length = es.length ∧ Q vs H1) (h0 : es = [] → ∀ σ H Q, t σ H Q → Q [] H) (hs : es.all noStar = true) (hdb : (x == ("__debug__" : Str)) = false) : PE X (.Call (.Name x p) es [] pos) (tCallC X.K m t) := by
  refine ⟨fun pins s σ H Q I h => ?_⟩
  have h := hl σ H _ h
  cases es with
  | nil =>
    refine wpAny_Call_Name_kw (ld_glob I hg hm ?_ hdb)
    obtain ⟨l0, q⟩ := h0 rfl σ H _ h
    exact PySem.W.callWith_K0 I.kIn hk (run_C (us := []) (vs := []) F hr hgd hb I .nil hn q)
  | cons e es =>
    rw [List.all_cons, Bool.and_eq_true] at hs
    refine wpAny_Call_Name_kw (ld_glob I hg hm ?_ hdb)
    refine PySem.W.callWith_K (h₀ := X.base) I.ok.mod.kin hk (thn (ha.run pos pins s σ H _ I h) fun us s1 ⟨vs, H1, I1, r, l1, q⟩ => ⟨I1.kIn, ?_⟩) (star_each hs.1 es X.env) (star_any pos X.env hs.2)
    exact run_C F hr hgd hb I1 r (by rw [l1]; exact hn) q
end
end Cv

/-! Cv8: objects with fields. -/
namespace Cv
open PySem PySem.Spec PyProof.Rows L2
section
variable {K : PySem.W.Frag}
theorem flds_look {F : Hp} {io : List Addr} {k : Str} {d : D} : ∀ {fs : List (Str × D)} {kvs : List (Key × V)}, Flds K F io fs kvs → look k fs = some d → ∃ v, valV kvs (Sum.inr k : Key) = some v ∧ Rep K F io v d
  | _, _, .nil, h => nomatch h
  | _, _, .cons (k := s) (d := x) r t, h => by
    have h : (if s = k then some x else look k _) = some d := h
    by_cases e : s = k
    · rw [if_pos e] at h
      cases h
      exact ⟨_, valV_pos (show (Sum.inr s : Key) = Sum.inr k by rw [e]), r⟩
    · rw [if_neg e] at h
      obtain ⟨v, h1, h2⟩ := flds_look t h
      exact ⟨v, by rw [valV_neg (show ¬ (Sum.inr s : Key) = Sum.inr k from fun z => e (Sum.inr.inj z))]; exact h1, h2⟩
theorem putK_any {k : Key} {v x : V} {kvs : List (Key × V)} (h : valV kvs k = some x) : putK kvs k v = kvs.map fun kv => if kv.1 = k then (kv.1, v) else kv := by
  unfold putK
  rw [if_pos (by rw [valV_any, h]; rfl)]
theorem map_off {k : Key} {v : V} : ∀ {kvs : List (Key × V)}, (∀ p ∈ kvs, p.1 ≠ k) → (kvs.map fun kv => if kv.1 = k then (kv.1, v) else kv) = kvs
  | [], _ => rfl
  | p :: r, h => by
    rw [List.map_cons, if_neg (h p List.mem_cons_self), map_off fun q hq => h q (List.mem_cons_of_mem _ hq)]
theorem flds_keys {F : Hp} {io : List Addr} : ∀ {fs : List (Str × D)} {kvs : List (Key × V)}, Flds K F io fs kvs → kvs.map (·.1) = fs.map fun p => (Sum.inr p.1 : Key)
  | _, _, .nil => rfl
  | _, _, .cons r t => by rw [List.map_cons, List.map_cons, flds_keys t]
theorem flds_put {F : Hp} {io : List Addr} {k : Str} {d x : D} {v : V} (rv : Rep K F io v d) : ∀ {fs : List (Str × D)} {kvs : List (Key × V)}, Flds K F io fs kvs → (fs.map (·.1)).Nodup → look k fs = some x →
    Flds K F io (putF k d fs) (kvs.map fun kv => if kv.1 = (Sum.inr k : Key) then (kv.1, v) else kv)
  | _, _, .nil, _, h => nomatch h
  | _, _, .cons (k := s) (d := y) (fs := fs) (kvs := kvs) r t, hn, h => by
    have h : (if s = k then some y else look k fs) = some x := h
    rw [List.map_cons, List.nodup_cons] at hn
    show Flds K F io (if s = k then (s, d) :: fs else (s, y) :: putF k d fs) _
    by_cases e : s = k
    · rw [if_pos e, List.map_cons, if_pos (show (Sum.inr s : Key) = Sum.inr k by rw [e])]
      rw [map_off]
      · exact .cons rv t
      · intro p hp z
        have hk := flds_keys t
        have hm : p.1 ∈ kvs.map (·.1) := List.mem_map_of_mem hp
        rw [hk, z] at hm
        obtain ⟨q', hq, hq2⟩ := List.mem_map.mp hm
        have e2 : q'.1 = k := Sum.inr.inj hq2
        have hm2 := List.mem_map_of_mem (f := fun p : Str × D => p.1) hq
        rw [e2] at hm2
        exact hn.1 (by rw [e]; exact hm2)
    · rw [if_neg e] at h ⊢
      rw [List.map_cons, if_neg (show ¬ (Sum.inr s : Key) = Sum.inr k from fun z => e (Sum.inr.inj z))]
      exact .cons r (flds_put rv t hn.2 h)
theorem merge_nd : ∀ (kvs acc : List (Key × V)), (kvs.map (·.1)).Nodup → (∀ p ∈ kvs, valV acc p.1 = none) → mergeK acc kvs = acc ++ kvs
  | [], acc, _, _ => by simp [mergeK]
  | p :: r, acc, hn, h => by
    rw [List.map_cons, List.nodup_cons] at hn
    have e : putK acc p.1 p.2 = acc ++ [p] := by
      unfold putK
      rw [if_neg (by rw [valV_any, h p List.mem_cons_self]; simp)]
    show mergeK (putK acc p.1 p.2) r = _
    rw [e, merge_nd r _ hn.2]
    · simp
    · intro z hz
      have hne : ¬ p.1 = z.1 := fun q => hn.1 (by rw [q]; exact List.mem_map_of_mem hz)
      have h1 := h z (List.mem_cons_of_mem _ hz)
      have e1 : (acc.any fun kv => decide (kv.1 = z.1)) = false := by
        have := valV_any z.1 acc
        rw [h1] at this
        exact this
      have e2 : ((acc ++ [p]).any fun kv => decide (kv.1 = z.1)) = false := by
        rw [List.any_append, e1]
        simp [hne]
      have e3 := valV_any z.1 (acc ++ [p])
      rw [e2] at e3
      cases q : valV (acc ++ [p]) z.1 with
      | none => rfl
      | some o => rw [q] at e3; cases e3
theorem Wd.Ok.alive {W : Wd} (ok : W.Ok K) {a : Addr} (h : a ∈ W.io) : ∃ ho, W.H a = some ho ∧ W.F a = none := by
  obtain ⟨n, hn, e⟩ := List.getElem_of_mem h
  have hl : n < W.S.length := by rw [ok.le]; exact hn
  obtain ⟨b, ho, h1, h2, h3, _⟩ := ok.ob n _ (List.getElem?_eq_getElem hl)
  have e2 : W.io[n]? = some a := by rw [List.getElem?_eq_getElem hn, e]
  rw [e2] at h1
  cases h1
  exact ⟨ho, h2, h3⟩
/-- a thing that is no object's and not frozen -/
def Wd.ad (W : Wd) (p : Addr) (o : HO) : Wd := { W with H := upd W.H p o }
theorem le_ad {W : Wd} {p : Addr} {o : HO} (h : W.H p = none) : Le W (W.ad p o) := by
  refine ⟨fun a u e => e, fun a u e _ => ?_, fun a u e n => n, fun a e => ?_, [], by simp [Wd.ad], fun a z => by cases z⟩
  · show upd W.H p o a = some u
    rw [upd_ne (ne_of_none e h)]; exact e
  · have e' : upd W.H p o a = none := e
    by_cases z : a = p
    · rw [z]; exact h
    · rw [upd_ne z] at e'; exact e'
theorem ok_ad {W : Wd} (ok : W.Ok K) {p : Addr} {o : HO} (h : W.H p = none) : (W.ad p o).Ok K := by
  refine ⟨fun a u e => ?_, fun n fs e => ?_, ok.le, ok.nd⟩
  · show upd W.H p o a = some u
    have e2 := ok.ex a u e
    rw [upd_ne (ne_of_none e2 h)]; exact e2
  · obtain ⟨a, ho, h1, h2, h3, h4⟩ := ok.ob n fs e
    refine ⟨a, ho, h1, ?_, h3, h4⟩
    show upd W.H p o a = _
    rw [upd_ne (ne_of_none h2 h)]; exact h2
/-- a new object: the thing at p becomes it -/
def Wd.nw (W : Wd) (p : Addr) (fs : Ob) (ho : HO) : Wd := { F := W.F, io := W.io ++ [p], S := W.S ++ [fs], H := upd W.H p ho }
theorem ok_nw {W : Wd} (ok : W.Ok K) {p : Addr} {fs : Ob} {ho : HO} (hF : W.F p = none) (hi : p ∉ W.io) (hf : ObAt K W.F W.io ho fs) : (W.nw p fs ho).Ok K := by
  have hix : ∀ (n : Nat) a, W.io[n]? = some a → (W.io ++ [p])[n]? = some a := fun n a h => by
    rw [List.getElem?_append_left (List.getElem?_eq_some_iff.mp h).1]; exact h
  refine ⟨fun a u e => ?_, fun n gs e => ?_, ?_, ?_⟩
  · show upd W.H p _ a = some u
    have e2 := ok.ex a u e
    have ne : a ≠ p := fun z => by rw [z] at e; rw [show W.F p = some u from e] at hF; cases hF
    rw [upd_ne ne]; exact e2
  · by_cases hn : n < W.S.length
    · have e2 : W.S[n]? = some gs := by
        have e' : (W.S ++ [fs])[n]? = some gs := e
        rw [List.getElem?_append_left hn] at e'; exact e'
      obtain ⟨a, ho', h1, h2, h3, h4⟩ := ok.ob n gs e2
      have ne : a ≠ p := fun z => hi (by rw [← z]; exact List.mem_of_getElem? h1)
      refine ⟨a, ho', hix _ _ h1, ?_, h3, h4.mono (fun _ _ h => h) hix⟩
      show upd W.H p _ a = _
      rw [upd_ne ne]; exact h2
    · have e' : (W.S ++ [fs])[n]? = some gs := e
      rw [List.getElem?_append_right (Nat.not_lt.mp hn)] at e'
      have hn0 : n - W.S.length = 0 := by
        have := (List.getElem?_eq_some_iff.mp e').1
        simp at this
        omega
      rw [hn0] at e'
      have eg : fs = gs := Option.some.inj e'
      subst eg
      have en : n = W.io.length := by rw [← ok.le]; omega
      refine ⟨p, ho, ?_, upd_same, hF, hf.mono (fun _ _ h => h) hix⟩
      show (W.io ++ [p])[n]? = some p
      rw [en, List.getElem?_append_right (Nat.le_refl _)]
      simp
  · show (W.S ++ [fs]).length = (W.io ++ [p]).length
    rw [List.length_append, List.length_append, ok.le]
    rfl
  · show (W.io ++ [p]).Nodup
    rw [List.nodup_append]
    refine ⟨ok.nd, by simp, fun a ha b hb z => ?_⟩
    have : b = p := by simpa using hb
    rw [z, this] at ha
    exact hi ha
/-- an object's field gets another value -/
def Wd.st (W : Wd) (n : Nat) (a : Addr) (fs : Ob) (ho : HO) : Wd := { W with S := W.S.set n fs, H := upd W.H a ho }
theorem ok_st {W : Wd} (ok : W.Ok K) {n : Nat} {a : Addr} {fs : Ob} {ho : HO} (hn : n < W.S.length) (ha : W.io[n]? = some a) (hf : ObAt K W.F W.io ho fs) : (W.st n a fs ho).Ok K := by
  obtain ⟨kv0, hp, hF⟩ := ok.alive (List.mem_of_getElem? ha)
  refine ⟨fun b u e => ?_, fun m gs e => ?_, ?_, ok.nd⟩
  · show upd W.H a _ b = some u
    have e2 := ok.ex b u e
    have ne : b ≠ a := fun z => by rw [z] at e; rw [show W.F a = some u from e] at hF; cases hF
    rw [upd_ne ne]; exact e2
  · have e' : (W.S.set n fs)[m]? = some gs := e
    by_cases z : n = m
    · subst z
      rw [get_set_eq hn] at e'
      cases e'
      exact ⟨a, ho, ha, upd_same, hF, hf⟩
    · rw [List.getElem?_set_ne z] at e'
      obtain ⟨b, ho', h1, h2, h3, h4⟩ := ok.ob m gs e'
      have ne : b ≠ a := fun q => by
        subst q
        obtain ⟨l1, g1⟩ := List.getElem?_eq_some_iff.mp ha
        obtain ⟨l2, g2⟩ := List.getElem?_eq_some_iff.mp h1
        exact z ((List.getElem_inj ok.nd).mp (g1.trans g2.symm))
      refine ⟨b, ho', h1, ?_, h3, h4⟩
      show upd W.H a _ b = _
      rw [upd_ne ne]; exact h2
  · show (W.S.set n fs).length = W.io.length
    rw [List.length_set]; exact ok.le
theorem le_st {W : Wd} (ok : W.Ok K) {n : Nat} {a : Addr} {fs : Ob} {ho : HO} (ha : W.io[n]? = some a) : Le W (W.st n a fs ho) := by
  have hm := List.mem_of_getElem? ha
  refine ⟨fun _ _ e => e, fun b o e hb => ?_, fun _ _ _ h => h, fun b e => ?_, [], by simp [Wd.st], fun _ z => by cases z⟩
  · show upd W.H a _ b = some o
    rw [upd_ne (fun z => hb (by rw [z]; exact hm))]; exact e
  · have e' : upd W.H a ho b = none := e
    by_cases z : b = a
    · rw [z, upd_same] at e'; cases e'
    · rw [upd_ne z] at e'; exact e'
end
end Cv

/-! Cv9: the look at expressions, and that it tells the truth. -/
namespace Cv
open PySem PySem.Spec PyProof.Rows L2

def ownOf (N : List Str) : List Nat → List (Str × Nat)
  | [] => []
  | i :: r => (N.getD i Str.empty, i) :: ownOf N r
theorem ownOf_ix (N : List Str) : ∀ own : List Nat, (ownOf N own).map (·.2) = own
  | [] => rfl
  | i :: r => by rw [ownOf, List.map_cons, ownOf_ix N r]
def constB (c : Const) (k : Str) : Bool := match c with
  | .str s => decide (s = k)
  | _ => false
def keyB : List Str → List (Option Expr) → Bool
  | [], [] => true
  | k :: ks, some e :: es => (match vConst e with
    | some c => constB c k
    | none => false) && keyB ks es
  | _, _ => false
def isTup : Expr → Bool
  | .Tuple _ _ _ => true
  | _ => false
def tyNames : List (String × Str) := [("int", "int"), ("bool", "bool"), ("str", "str"), ("tuple", "tuple"), ("list", "list"), ("dict", "dict")]
def tyNm (T : String) : Option Str := tyNames.lookup T
def ntupB (e : Expr) : Bool := match vUn e with
  | some (.USub, x) => (match vConst x with
    | some (.int 1) => true
    | _ => false)
  | _ => false
section
variable {prog : Program} {w : World} {A : Around} {E0 : Value → Shared → Prop} {s : Shared}
theorem slice_back {sl : Addr} {vs : Value} {n : Nat} {Q : Int × Int × Nat → Shared → Prop} (hs : s.heap.IsSliceOf sl .none .none vs) (ps : IsPart vs (some (-1))) (h : Q ((n : Int) - 1, -1, n) s) :
    wpAny (model prog w) A (Builtin.Slice.sliceApplied (.ref sl) (pure (n : Int))) Q E0 s := by
  obtain ⟨o, g1, g2, g3⟩ := id hs
  have adj : Builtin.Slice.sliceAdjust none none (-1) (n : Int) = ((n : Int) - 1, -1) := rfl
  have plc : Builtin.Slice.slicePlaces ((n : Int) - 1) (-1) (-1) = n := by
    unfold Builtin.Slice.slicePlaces
    have e1 : ¬ ((-1 : Int) > 0) := by decide
    have e2 : (-(-1) : Int) = 1 := by decide
    simp only [e1, if_false, e2, Int.ediv_one]
    split <;> omega
  unfold Builtin.Slice.sliceApplied Builtin.Slice.sliceFields
  refine wpAny_bind (wpAny_bind (wpAny_field g1 g3 (x := .none) rfl (wpAny_bind (wpAny_field g1 g3 (x := .none) rfl (wpAny_bind (wpAny_field g1 g3 (x := vs) rfl (wpAny_pure ?_)))))))
  refine wpAny_bind (HT.slicePart_ ps ?_)
  show wpAny _ _ (if ((-1 : Int) == 0) = true then _ else _) _ _ s
  rw [if_neg (by decide)]
  refine wpAny_bind (HT.slicePart_ .none (wpAny_bind (HT.slicePart_ .none (wpAny_bind (wpAny_pure ?_)))))
  show wpAny _ _ (match Builtin.Slice.sliceAdjust none none (-1) (n : Int) with | (lo, hi) => pure (lo, (-1 : Int), Builtin.Slice.slicePlaces lo hi (-1))) _ _ s
  rw [adj]
  show wpAny _ _ (pure ((n : Int) - 1, (-1 : Int), Builtin.Slice.slicePlaces ((n : Int) - 1) (-1) (-1))) _ _ s
  rw [plc]
  exact wpAny_pure h
theorem fm_congr {α β : Type} {f h : α → Option β} : ∀ {l : List α}, (∀ x ∈ l, f x = h x) → l.filterMap f = l.filterMap h
  | [], _ => rfl
  | x :: xs, q => by
    rw [List.filterMap_cons, List.filterMap_cons, q x List.mem_cons_self, fm_congr fun y hy => q y (List.mem_cons_of_mem _ hy)]
theorem pick_back (xs : Array Value) : ((List.range xs.size).filterMap fun (m : Nat) => xs[((xs.size : Int) - 1 + (m : Int) * (-1)).toNat]?).toArray = xs.toList.reverse.toArray := by
  have e : (List.range xs.size).filterMap (fun (m : Nat) => xs[((xs.size : Int) - 1 + (m : Int) * (-1)).toNat]?) = (List.range xs.size).filterMap ((fun i => xs[i]?) ∘ fun k => xs.size - 1 - k) := by
    refine fm_congr fun m hm => ?_
    have := List.mem_range.mp hm
    have e2 : ((xs.size : Int) - 1 + (m : Int) * (-1)).toNat = xs.size - 1 - m := by omega
    rw [e2]
    rfl
  rw [e, ← List.filterMap_map, PySem.W.krv_range, List.filterMap_reverse, PySem.W.krv_all]
theorem tuple_back {t sl : Addr} {items : Array Value} {vs : Value} {Q : Value → Shared → Prop} (ht : IsTup s.heap t items) (hs : s.heap.IsSliceOf sl .none .none vs) (ps : IsPart vs (some (-1)))
    (h : Q (.ref s.heap.objs.size) { s with heap := s.heap.push { cls := .type "tuple", data := .seq items.toList.reverse.toArray } }) (hz : items.size ≤ sizeLine) : wpAny (model prog w) A (getItem (.ref t) (.ref sl)) Q E0 s := by
  have big : sizeOk (.seq items.toList.reverse.toArray) := by
    show items.toList.reverse.toArray.size ≤ sizeLine
    rw [List.size_toArray, List.length_reverse, Array.length_toList]
    exact hz
  obtain ⟨o, g1, g2, g3⟩ := id hs
  have tsl : s.TypeIs (.ref sl) "slice" := ⟨o, g1, g2⟩
  unfold getItem
  try with_reducible refine wpAny_holding ?_
  first | refine wpAny_bind (wpAny_pure ?_) | skip
  refine wpAny_bind (wpAny_sequenceKey ht.typeIs (by decide) ?_)
  refine wpAny_bind (wpAny_callSpecial?_slot (name := Str.ofString "__getitem__") ht.typeIs PyProof.Rows.slot_tuple_getitem (wpAny_call_entry PyProof.Rows.slot_tuple_getitem ht.typeIs entry_tuple_getitem ?_ (args_tuple_getitem _ _)))
  show wpAny _ _ (Builtin.Tuple.tupleItemsOf (.ref t) >>= _) _ _ s
  refine wpAny_bind (tupleItemsOf_ ht ?_)
  refine wpAny_bind (wpAny_typeOf tsl ?_)
  rw [if_pos (by decide)]
  refine wpAny_bind (slice_back hs ps ?_)
  have nz : ¬ (((items.size : Int) - 1 == 0 && (-1 : Int) == 1 && items.size == items.size) = true) := by
    rw [show ((-1 : Int) == 1) = false from by decide, Bool.and_false, Bool.false_and]
    exact Bool.false_ne_true
  show wpAny _ _ (if ((items.size : Int) - 1 == 0 && (-1 : Int) == 1 && items.size == items.size) = true then _ else _) _ _ s
  rw [if_neg nz, pick_back]
  first
    | exact wpAny_bind (m := Builtin.Tuple.tupleExact _) (wpAny_newObj_type (wpAny_pure ⟨_, rfl, wpAny_pure h⟩) big)
    | exact wpAny_bind (m := Builtin.Tuple.tupleExact _) (wpAny_newObj_type (wpAny_bind (wpAny_pure (wpAny_pure ⟨_, rfl, wpAny_pure h⟩))) big)
    | exact wpAny_bind (wpAny_bind (m := Builtin.Tuple.tupleExact _) (wpAny_newObj_type (wpAny_pure (wpAny_pure ⟨_, rfl, wpAny_pure h⟩)) big))
    | exact wpAny_bind (wpAny_bind (m := Builtin.Tuple.tupleExact _) (wpAny_newObj_type (wpAny_pure ⟨_, rfl, wpAny_pure h⟩) big))
end
/-- backwards: a list, a tuple -/
def tBack (K : PySem.W.Frag) (te : TE) : TE := fun σ H Q => te σ H fun x H1 => (∃ a xs, x = .ref a ∧ SqL K H1 a xs ∧ ∀ p, H1 p = none → Q (.ref p) (upd H1 p (.lst xs.reverse))) ∨ ∃ a xs, x = .ref a ∧ SqT K H1 a xs ∧ ∀ p, H1 p = none → Q (.ref p) (upd H1 p (.tup xs.reverse))
theorem pe_back {X : Cx} {e : Expr} {te : TE} {k : Nat} {p1 p2 p3 pos : Pos} (he : PE X e te) : PE X (.Subscript e (.Slice none none (some (.UnaryOp .USub (.Constant (.int 1) k p1) p2)) p3) pos) (tBack X.K te) := by
  refine ⟨fun pins s σ H Q I h => ?_⟩
  refine Subscript_ (thn (he.run pins s σ H _ I h) fun v s1 ⟨x, H1, I1, r1, q1⟩ => ?_)
  have hst : PO X (some (.UnaryOp .USub (.Constant (.int 1) k p1) p2)) (tPart (tUn (rU fun i => .int (-i)) (tC (.int 1)))) := po_some (pe_un un_neg pe_int)
  refine wpAny_Slice (thn (po_none.run pins s1 σ H1 (fun o H2 => o = none ∧ H2 = H1) I1 ⟨rfl, rfl⟩) fun vl s2 ⟨l, H2, I2, pl, el, e2⟩ => ?_)
  subst el e2
  refine thn (po_none.run pins s2 σ H2 (fun o H3 => o = none ∧ H3 = H2) I2 ⟨rfl, rfl⟩) fun vu s3 ⟨u, H3, I3, pu, eu, e3⟩ => ?_
  subst eu e3
  refine thn (hst.run pins s3 σ H3 (fun o H4 => o = some (-1) ∧ H4 = H3) I3 ⟨1, rfl, -1, rfl, rfl, rfl⟩) fun vs s4 ⟨o, H4, I4, ps, eo, e4⟩ => ?_
  subst eo e4
  have I5 : Inv X pins σ H4 { s4 with heap := s4.heap.push { cls := .type "slice", data := .fields #[vl, vu, vs] } } := I4.kept (t' := s4.toks) fun b ob q => Heap.get?_push_of_some _ q
  cases pl
  cases pu
  rcases q1 with ⟨a, xs, rfl, hx, q⟩ | ⟨a, xs, rfl, hx, q⟩
  · cases r1
    obtain ⟨its, r, ht, hz⟩ := I5.list hx
    have hlen := r.length
    show wpAny (model X.prog X.w) X.A (subscriptTail e (.Slice none none (some (.UnaryOp .USub (.Constant (.int 1) k p1) p2)) p3) (.ref a) (.ref s4.heap.objs.size)) (EP X pins σ Q) X.xe { s4 with heap := s4.heap.push { cls := .type "slice", data := .fields #[.none, .none, vs] } }
    refine tail_any (ops := [.ref a, .ref s4.heap.objs.size]) ht.isList.typeIs (PySem.slot_list_getitem.lookup) ?_ (by with_unfolding_all rfl)
    refine wpAny_getItem_list_slice ht.isList (Heap.IsSliceOf.new _ .none .none vs) .none .none ps (by decide) ?_ (by rw [List.size_toArray]; omega)
    rw [PySem.W.krv_pick]
    exact ⟨.ref _, _, I5.laid (t' := s4.toks) (o := .lst xs.reverse) (fun b ob q => Heap.get?_push_of_some _ q) (Nat.le_refl _) ⟨by rw [List.length_reverse]; exact hz, _, 0, r.reverse, Heap.get?_push_size _ rfl⟩, rfl, q _ (I5.hok.fresh (Nat.le_refl _))⟩
  · cases r1
    obtain ⟨its, r, ht, hz⟩ := I5.tuple hx
    have hlen := r.length
    show wpAny (model X.prog X.w) X.A (subscriptTail e (.Slice none none (some (.UnaryOp .USub (.Constant (.int 1) k p1) p2)) p3) (.ref a) (.ref s4.heap.objs.size)) (EP X pins σ Q) X.xe { s4 with heap := s4.heap.push { cls := .type "slice", data := .fields #[.none, .none, vs] } }
    refine tail_any (ops := [.ref a, .ref s4.heap.objs.size]) ht.typeIs (PyProof.Rows.slot_tuple_getitem.lookup) ?_ (by with_unfolding_all rfl)
    refine tuple_back ht (Heap.IsSliceOf.new _ .none .none vs) ps ?_ (by rw [List.size_toArray]; omega)
    exact ⟨.ref _, _, I5.laid (t' := s4.toks) (o := .tup xs.reverse) (fun b ob q => Heap.get?_push_of_some _ q) (Nat.le_refl _) ⟨by rw [List.length_reverse]; exact hz, _, by simpa using r.reverse, IsTup.new _ _⟩, rfl, q _ (I5.hok.fresh (Nat.le_refl _))⟩
mutual
def chk (q : Ck) : E → Zs → Expr → Bool
  | .var i, z, e => (match vName e with
    | some x => ixB q.N i x && visB z.sc x && nmB x
    | none => false)
  | .glo j, z, e => (match vName e with
    | some x => decide (q.gls[j]? = some x) && glB z.sc x && nmB x
    | none => false)
  | .int n, _, e => (match vConst e with
    | some (.int m) => decide (m = n)
    | _ => false)
  | .str s, _, e => (match vConst e with
    | some c => constB c s
    | _ => false)
  | .bl b, _, e => (match vConst e with
    | some (.bool c) => b == c
    | _ => false)
  | .non, _, e => (match vConst e with
    | some .none => true
    | _ => false)
  | .tup es, z, e => (match vTuple e with
    | some l => decide (l.length ≤ 1000) && l.all noStar && chks q es z l
    | none => false)
  | .lst es, z, e => (match vList e with
    | some l => decide (l.length ≤ 1000) && l.all noStar && chks q es z l
    | none => false)
  | .bin o a b, z, e => (match vBin e with
    | some (x, p, y) => decide (p = o.op) && chk q a z x && chk q b z y
    | none => false)
  | .neg a, z, e => (match vUn e with
    | some (.USub, x) => chk q a z x
    | _ => false)
  | .cmp o a b, z, e => (match vCmp e with
    | some (x, [p], [y]) => decide (p = o.op) && noSet y && chk q a z x && chk q b z y
    | _ => false)
  | .chn o o2 a b c, z, e => (match vCmp e with
    | some (x, [p, p2], [y, w]) => decide (p = o.op) && decide (p2 = o2.op) && noSet w && chk q a z x && chk q b z y && chk q c z w
    | _ => false)
  | .and a b, z, e => (match vBool e with
    | some (.And, x :: y :: rest, pos) => chk q a z x && (match rest with
      | [] => chk q b z y
      | _ => chk q b z (.BoolOp .And (y :: rest) pos))
    | _ => false)
  | .or a b, z, e => (match vBool e with
    | some (.Or, x :: y :: rest, pos) => chk q a z x && (match rest with
      | [] => chk q b z y
      | _ => chk q b z (.BoolOp .Or (y :: rest) pos))
    | _ => false)
  | .not a, z, e => (match vUn e with
    | some (.Not, x) => chk q a z x
    | _ => false)
  | .ife c a b, z, e => (match vIf e with
    | some (x, y, w) => chkT q c z x && chk q a z y && chk q b z w
    | none => false)
  | .idx a i, z, e => (match vSub e with
    | some (x, y) => !isSlice y && chk q a z x && chk q i z y
    | none => false)
  | .sli a lo hi, z, e => (match vSub e with
    | some (x, y) => (match vSlice y with
      | some (l, h, none) => chk q a z x && chko q lo z l && chko q hi z h
      | _ => false)
    | none => false)
  | .rev a, z, e => (match vSub e with
    | some (x, .Slice none none (some (.UnaryOp .USub (.Constant (.int 1) _ _) _)) _) => chk q a z x
    | _ => false)
  | .isi a T, z, e => (match vCall e with
    | some (f, [x, t]) => decide (f = "isinstance") && glB z.sc "isinstance" && noStar x && chk q a z x && (match vName t with
      | some n => decide (tyNm T = some n) && glB z.sc n
      | none => false)
    | _ => false)
  | .b1 f a, z, e => (match vCall e with
    | some (n, [x]) => decide (n = f.nm) && glB z.sc n && noStar x && chk q a z x
    | _ => false)
  | .m0 m a, z, e => (match vMeth0 e with
    | some (x, n, p1, p2) => (match m with
      | .upper => decide (n = "upper")) && plainO x && (p1.endLine == p2.line) && chk q a z x
    | none => false)
  | .call f es, z, e => (match vCall e with
    | some (n, l) => decide (q.fns[f]? = some (n, l.length)) && glB z.sc n && nmB n && l.all noStar && chks q es z l
    | none => false)
  | .lc1 own t it c el, z, e => (match vLc1 e with
    | some (x, tg, i, ifs, s, p) => blkC q.N z.sc s (ownOf q.N own) && noSet i && (t.ix.all fun j => own.contains j) && chki q it z tg i &&
        chkG q ⟨relS s z.sc, some s⟩ t tg && chkc q c ⟨relS s z.sc, some s⟩ ifs && chk q el ⟨relS s z.sc, some s⟩ x
    | none => false)
  | .lc2 own t it c own1 t1 it1 c1 el, z, e => (match vLc2 e with
    | some (x, (tg, i, ifs), (tg1, i1, ifs1), s, p) => blkC q.N z.sc s (ownOf q.N own) && noSet i && noSet i1 && (t.ix.all fun j => own.contains j) && (t1.ix.all fun j => own1.contains j) && (own1.all fun j => (ownOf q.N own).any fun y => y.2 == j) && chki q it z tg i &&
        chkG q ⟨relS s z.sc, some s⟩ t tg && chkc q c ⟨relS s z.sc, some s⟩ ifs && chki q it1 ⟨relS s z.sc, some s⟩ tg1 i1 && chkG q ⟨relS s z.sc, some s⟩ t1 tg1 && chkc q c1 ⟨relS s z.sc, some s⟩ ifs1 && chk q el ⟨relS s z.sc, some s⟩ x
    | none => false)
  | .fld o k, z, e => (match vSub e with
    | some (x, y) => chk q o z x && (match vConst y with
      | some c => constB c k
      | none => false)
    | none => false)
  | .fldi o i, z, e => (match vSub e with
    | some (x, y) => chk q o z x && (match vConst y with
      | some (.int j) => decide (j = (i : Int))
      | _ => false)
    | none => false)
  | .mkl es, z, e => (match vList e with
    | some l => decide (l.length ≤ 1000) && l.all noStar && chks q es z l
    | none => false)
  | .mko ks es, z, e => (match vDict e with
    | some (kes, l) => keyB ks kes && decide (kes.length = l.length) && decide (1 ≤ kes.length) && decide (kes.length ≤ 15) && decide ks.Nodup && l.all noStar && chks q es z l
    | none => false)
def chkT (q : Ck) : E → Zs → Expr → Bool
  | .cmp o a b, z, e => (match vCmp e with
    | some (x, [p], [y]) => decide (p = o.op) && noSet y && chk q a z x && chk q b z y
    | _ => false)
  | .chn o o2 a b c, z, e => (match vCmp e with
    | some (x, [p, p2], [y, w]) => decide (p = o.op) && decide (p2 = o2.op) && noSet w && chk q a z x && chk q b z y && chk q c z w
    | _ => false)
  | .and a b, z, e => (match vBool e with
    | some (.And, x :: y :: rest, pos) => chkT q a z x && (match rest with
      | [] => chkT q b z y
      | _ => chkT q b z (.BoolOp .And (y :: rest) pos))
    | _ => false)
  | .or a b, z, e => (match vBool e with
    | some (.Or, x :: y :: rest, pos) => chkT q a z x && (match rest with
      | [] => chkT q b z y
      | _ => chkT q b z (.BoolOp .Or (y :: rest) pos))
    | _ => false)
  | .not a, z, e => (match vUn e with
    | some (.Not, x) => chkT q a z x
    | _ => false)
  | .var i, z, e => (match vName e with
    | some x => ixB q.N i x && visB z.sc x && nmB x
    | none => false)
  | .bl b, _, e => (match vConst e with
    | some (.bool c) => b == c
    | _ => false)
  | .isi a T, z, e => (match vCall e with
    | some (f, [x, t]) => decide (f = "isinstance") && glB z.sc "isinstance" && noStar x && chk q a z x && (match vName t with
      | some n => decide (tyNm T = some n) && glB z.sc n
      | none => false)
    | _ => false)
  | .b1 f a, z, e => (match vCall e with
    | some (n, [x]) => decide (n = f.nm) && glB z.sc n && noStar x && chk q a z x
    | _ => false)
  | .call f es, z, e => (match vCall e with
    | some (n, l) => decide (q.fns[f]? = some (n, l.length)) && glB z.sc n && nmB n && l.all noStar && chks q es z l
    | none => false)
  | _, _, _ => false
def chkc (q : Ck) : Oe → Zs → List Expr → Bool
  | .n, _, [] => true
  | .s c, z, [e] => chkT q c z e
  | _, _, _ => false
def chks (q : Ck) : Es → Zs → List Expr → Bool
  | .n, _, [] => true
  | .c a r, z, e :: es => chk q a z e && chks q r z es
  | _, _, _ => false
def chko (q : Ck) : Oe → Zs → Option Expr → Bool
  | .n, _, none => true
  | .s c, z, some e => chk q c z e
  | _, _, _ => false
def chki (q : Ck) : Wi → Zs → Expr → Expr → Bool
  | .sq a, z, _, e => chk q a z e
  | .rg1 a, z, _, e => (match vCall e with
    | some (n, [x]) => decide (n = "range") && glB z.sc "range" && noStar x && chk q a z x
    | _ => false)
  | .rg2 a b, z, _, e => (match vCall e with
    | some (n, [x, y]) => decide (n = "range") && glB z.sc "range" && noStar x && noStar y && chk q a z x && chk q b z y
    | _ => false)
  | .zip a b, z, tg, e => isTup tg && (match vCall e with
    | some (n, [x, y]) => decide (n = "zip") && glB z.sc "zip" && noStar x && noStar y && chk q a z x && chk q b z y
    | _ => false)
end

section
variable {g : Cf} {q : Ck} {z : Zs} {X : Cx} {k : Nat}
theorem Gd.blk (G : Gd q z X) (s : Shared) (H : Hp) (scope : Scope) (C : Addr) (cl : List (Str × Addr)) (fp : List Addr) : Gd q ⟨relS scope z.sc, some scope⟩ (X.blk s H scope (compEnvC scope cl C X.env) fp) := by
  refine ⟨G.N, G.nd, ?_, fun _ => rfl, G.calm, G.gd, G.un, G.bl⟩
  show relS scope X.env.scope = relS scope z.sc
  rw [G.sc]
theorem Fs.blk (G : Fs g q k X) (s : Shared) (H : Hp) (scope : Scope) (env : Env) (fp : List Addr) : Fs g q k (X.blk s H scope env fp) := ⟨G.gl, G.fn, G.rm⟩
theorem Gd.gb (G : Gd q z X) {x : Str} (h : glB z.sc x = true) : Gl X x := glB_ok (by rw [G.sc]; exact h)
theorem Gd.no (G : Gd q z X) (f : B1) : X.mg f.nm = none := G.bl _ (by cases f <;> decide)
/-- the judgements -/
def JE (g : Cf) (q : Ck) (k : Nat) (c : E) : Prop := ∀ (z : Zs) (X : Cx) (e : Expr), Gd q z X → Fs g q k X → chk q c z e = true → PE X e (tE X.K g c)
def JT (g : Cf) (q : Ck) (k : Nat) (c : E) : Prop := ∀ (z : Zs) (X : Cx) (e : Expr), Gd q z X → Fs g q k X → chkT q c z e = true → PT X e (tT X.K g c) ∧ ((vBool e).isSome = true → PW X e (tT X.K g c))
def JA (g : Cf) (q : Ck) (k : Nat) (c : Es) : Prop := ∀ (z : Zs) (X : Cx) (e : List Expr), Gd q z X → Fs g q k X → e.all noStar = true → chks q c z e = true → PA X e (tEs X.K g c)
def JO (g : Cf) (q : Ck) (k : Nat) (c : Oe) : Prop := ∀ (z : Zs) (X : Cx) (e : Option Expr), Gd q z X → Fs g q k X → chko q c z e = true → PO X e fun σ H Q => At X.K σ H fun W en => Yl X.K W (evo g c en) (fun _ v d => v = d) Q
def JC (g : Cf) (q : Ck) (k : Nat) (c : Oe) : Prop := ∀ (z : Zs) (X : Cx) (e : List Expr), Gd q z X → Fs g q k X → chkc q c z e = true → PTs X e fun σ H Q => At X.K σ H fun W en => Yl X.K W (evc g c en) (fun _ v d => v = d) Q
def JI (g : Cf) (q : Ck) (k : Nat) (c : Wi) : Prop := ∀ (z : Zs) (X : Cx) (tg e : Expr), Gd q z X → Fs g q k X → chki q c z tg e = true → PI X tg e (tI X.K g c)

theorem yl_ret {α β : Type} {K : PySem.W.Frag} {W : Wd} {a : α} {R : Wd → β → α → Prop} {Q : β → Hp → Prop} (ok : W.Ok K) (h : Yl K W (M.ret a) R Q) {v : β} (r : R W v a) : Q v W.H := by
  obtain ⟨b, S', e, k⟩ := h
  obtain ⟨rfl, rfl⟩ := ret_inv e
  exact k W (Le.refl W) ok rfl v r
/-- two in a row -/
theorem yl_bnd {α β γ δ : Type} {K : PySem.W.Frag} {W : Wd} {m : M α} {f : α → M β} {R : Wd → γ → α → Prop} {R2 : Wd → δ → β → Prop} {Q : δ → Hp → Prop} (h : Yl K W (M.bnd m f) R2 Q) :
    Yl K W m (fun W1 _ a => True) (fun (_ : Unit) H => True) ∧ ∃ a S1, m W.S = some (a, S1) ∧ ∀ W1, Le W W1 → W1.Ok K → W1.S = S1 → Yl K W1 (f a) R2 Q := by
  obtain ⟨b, S', e, k⟩ := h
  obtain ⟨a, S1, e1, e2⟩ := bnd_inv e
  exact ⟨⟨a, S1, e1, fun _ _ _ _ _ _ => trivial⟩, a, S1, e1, fun W1 l ok es => ⟨b, S', by rw [es]; exact e2, fun W2 l2 ok2 es2 => k W2 (l.trans l2) ok2 es2⟩⟩
/-- an expression's value, then the rest -/
theorem at_E {K : PySem.W.Frag} {β γ : Type} {c : E} {f : D → M β} {R : Wd → γ → β → Prop} {Q : γ → Hp → Prop} {σ : L2.St} {W0 W : Wd} {en : En} (ok : W.Ok K) (eo : EnOk K W0 W en σ) (h : Yl K W (M.bnd (ev g c en) f) R Q) {Q1 : VK}
    (n : ∀ W1 v d, Le W W1 → W1.Ok K → EnOk K W0 W1 en σ → W1.Rp K v d → Yl K W1 (f d) R Q → Q1 v W1.H) : tE K g c σ W.H Q1 := by
  obtain ⟨_, d, S1, e1, rest⟩ := yl_bnd (R := fun _ (_ : Unit) _ => True) h
  exact ⟨W0, W, en, rfl, ok, eo, d, S1, e1, fun W1 l1 ok1 es1 v r => n W1 v d l1 ok1 (eo.le l1) r (rest W1 l1 ok1 es1)⟩
theorem at_T {K : PySem.W.Frag} {β γ : Type} {c : E} {f : Bool → M β} {R : Wd → γ → β → Prop} {Q : γ → Hp → Prop} {σ : L2.St} {W0 W : Wd} {en : En} (ok : W.Ok K) (eo : EnOk K W0 W en σ) (h : Yl K W (M.bnd (evt g c en) f) R Q) {Q1 : Bool → Hp → Prop}
    (n : ∀ W1 b, Le W W1 → W1.Ok K → EnOk K W0 W1 en σ → Yl K W1 (f b) R Q → Q1 b W1.H) : tT K g c σ W.H Q1 := by
  obtain ⟨_, d, S1, e1, rest⟩ := yl_bnd (R := fun _ (_ : Unit) _ => True) h
  exact ⟨W0, W, en, rfl, ok, eo, d, S1, e1, fun W1 l1 ok1 es1 v r => by subst r; exact n W1 v l1 ok1 (eo.le l1) (rest W1 l1 ok1 es1)⟩
def Es.len : Es → Nat
  | .n => 0
  | .c _ r => r.len + 1
theorem evs_len : ∀ {c : Es} {en : En} {ds : List D} {S S' : Sto}, evs g c en S = some (ds, S') → ds.length = c.len
  | .n, _, _, _, _, h => by
    obtain ⟨rfl, _⟩ := ret_inv h
    rfl
  | .c a r, _, _, _, _, h => by
    obtain ⟨x, S1, _, h⟩ := bnd_inv h
    obtain ⟨xs, S2, h2, h⟩ := bnd_inv h
    obtain ⟨rfl, _⟩ := ret_inv h
    rw [List.length_cons, evs_len h2]
    rfl
theorem chks_len : ∀ {c : Es} {es : List Expr}, chks q c z es = true → es.length = c.len
  | .n, [], _ => rfl
  | .n, _ :: _, h => by cases h
  | .c _ _, [], h => by cases h
  | .c a r, e :: es, h => by
    have h := Bool.and_eq_true_iff.mp (show (chk q a z e && chks q r z es) = true from h)
    rw [List.length_cons, chks_len h.2]
    rfl
theorem at_Es {K : PySem.W.Frag} {β γ : Type} {c : Es} {f : List D → M β} {R : Wd → γ → β → Prop} {Q : γ → Hp → Prop} {σ : L2.St} {W0 W : Wd} {en : En} (ok : W.Ok K) (eo : EnOk K W0 W en σ) (h : Yl K W (M.bnd (evs g c en) f) R Q) {Q1 : List V → Hp → Prop}
    (n : ∀ W1 v d, Le W W1 → W1.Ok K → EnOk K W0 W1 en σ → W1.Rps K v d → v.length = c.len → Yl K W1 (f d) R Q → Q1 v W1.H) : tEs K g c σ W.H Q1 := by
  obtain ⟨_, d, S1, e1, rest⟩ := yl_bnd (R := fun _ (_ : Unit) _ => True) h
  exact ⟨W0, W, en, rfl, ok, eo, d, S1, e1, fun W1 l1 ok1 es1 v r => n W1 v d l1 ok1 (eo.le l1) r (by rw [r.len, evs_len e1]) (rest W1 l1 ok1 es1)⟩
/-- an option's value, told -/
theorem yl_opt {α β : Type} {K : PySem.W.Frag} {W : Wd} {o : Option α} {R : Wd → β → α → Prop} {Q : β → Hp → Prop} (h : Yl K W (M.opt o) R Q) : ∃ a, o = some a ∧ Aft K W W.S fun W' => ∀ v, R W' v a → Q v W'.H := by
  obtain ⟨b, S', e, k⟩ := h
  obtain ⟨h1, h2⟩ := opt_inv e
  subst h2
  exact ⟨b, h1, k⟩
theorem yl_optb {α β γ : Type} {K : PySem.W.Frag} {W : Wd} {o : Option α} {f : α → M β} {R : Wd → γ → β → Prop} {Q : γ → Hp → Prop} (h : Yl K W (M.bnd (M.opt o) f) R Q) : ∃ a, o = some a ∧ Yl K W (f a) R Q := by
  obtain ⟨b, S', e, k⟩ := h
  obtain ⟨a, S1, e1, e2⟩ := bnd_inv e
  obtain ⟨h1, h2⟩ := opt_inv e1
  subst h2
  exact ⟨a, h1, b, S', e2, k⟩
theorem isI_inv {d : D} {i : Int} {S S' : Sto} (h : isI d S = some (i, S')) : d = .int i ∧ S' = S := by
  cases d <;> first | (obtain ⟨h1, h2⟩ := ret_inv h; exact ⟨by rw [h1], h2⟩) | exact (no_inv (S := S) h).elim
theorem isB_inv {d : D} {i : Bool} {S S' : Sto} (h : isB d S = some (i, S')) : d = .bl i ∧ S' = S := by
  cases d <;> first | (obtain ⟨h1, h2⟩ := ret_inv h; exact ⟨by rw [h1], h2⟩) | exact (no_inv (S := S) h).elim
theorem isO_inv {d : D} {i : Nat} {S S' : Sto} (h : isO d S = some (i, S')) : d = .obj i ∧ S' = S := by
  cases d <;> first | (obtain ⟨h1, h2⟩ := ret_inv h; exact ⟨by rw [h1], h2⟩) | exact (no_inv (S := S) h).elim
theorem isL_inv {d : D} {i : List D} {S S' : Sto} (h : isL d S = some (i, S')) : d = .lst i ∧ S' = S := by
  cases d <;> first | (obtain ⟨h1, h2⟩ := ret_inv h; exact ⟨by rw [h1], h2⟩) | exact (no_inv (S := S) h).elim
theorem yl_isI {β γ : Type} {K : PySem.W.Frag} {W : Wd} {d : D} {f : Int → M β} {R : Wd → γ → β → Prop} {Q : γ → Hp → Prop} (h : Yl K W (M.bnd (isI d) f) R Q) : ∃ i, d = .int i ∧ Yl K W (f i) R Q := by
  obtain ⟨b, S', e, k⟩ := h
  obtain ⟨a, S1, e1, e2⟩ := bnd_inv e
  obtain ⟨h1, h2⟩ := isI_inv e1
  subst h2
  exact ⟨a, h1, b, S', e2, k⟩
theorem yl_isB {β γ : Type} {K : PySem.W.Frag} {W : Wd} {d : D} {f : Bool → M β} {R : Wd → γ → β → Prop} {Q : γ → Hp → Prop} (h : Yl K W (M.bnd (isB d) f) R Q) : ∃ i, d = .bl i ∧ Yl K W (f i) R Q := by
  obtain ⟨b, S', e, k⟩ := h
  obtain ⟨a, S1, e1, e2⟩ := bnd_inv e
  obtain ⟨h1, h2⟩ := isB_inv e1
  subst h2
  exact ⟨a, h1, b, S', e2, k⟩
theorem yl_isO {β γ : Type} {K : PySem.W.Frag} {W : Wd} {d : D} {f : Nat → M β} {R : Wd → γ → β → Prop} {Q : γ → Hp → Prop} (h : Yl K W (M.bnd (isO d) f) R Q) : ∃ i, d = .obj i ∧ Yl K W (f i) R Q := by
  obtain ⟨b, S', e, k⟩ := h
  obtain ⟨a, S1, e1, e2⟩ := bnd_inv e
  obtain ⟨h1, h2⟩ := isO_inv e1
  subst h2
  exact ⟨a, h1, b, S', e2, k⟩
theorem yl_isL {β γ : Type} {K : PySem.W.Frag} {W : Wd} {d : D} {f : List D → M β} {R : Wd → γ → β → Prop} {Q : γ → Hp → Prop} (h : Yl K W (M.bnd (isL d) f) R Q) : ∃ i, d = .lst i ∧ Yl K W (f i) R Q := by
  obtain ⟨b, S', e, k⟩ := h
  obtain ⟨a, S1, e1, e2⟩ := bnd_inv e
  obtain ⟨h1, h2⟩ := isL_inv e1
  subst h2
  exact ⟨a, h1, b, S', e2, k⟩
theorem yl_ite {β γ : Type} {K : PySem.W.Frag} {W : Wd} {b : Bool} {x y : M β} {R : Wd → γ → β → Prop} {Q : γ → Hp → Prop} (h : Yl K W (if b = true then x else y) R Q) : (b = true → Yl K W x R Q) ∧ (b = false → Yl K W y R Q) := by
  cases b with
  | true => exact ⟨fun _ => h, (fun z => nomatch z)⟩
  | false => exact ⟨(fun z => nomatch z), fun _ => h⟩
/-! ### one by one -/
theorem e_bin {a b : E} {o : Bo} (ha : JE g q k a) (hb : JE g q k b) : JE g q k (.bin o a b) := by
  intro z X e G F h
  unfold chk at h
  split at h
  · rename_i x p y hv
    obtain ⟨pos, rfl⟩ := vBin_ok hv
    simp only [Bool.and_eq_true, decide_eq_true_eq] at h
    obtain ⟨⟨rfl, h1⟩, h2⟩ := h
    refine PE.weaken (pe_op (op_bin o) (ha z X x G F h1) (hb z X y G F h2)) ?_
    rintro σ H Q ⟨W0, W, en, rfl, ok, eo, hy⟩
    refine at_E ok eo hy fun W1 v d l1 ok1 eo1 r1 hy1 => ?_
    refine at_E ok1 eo1 hy1 fun W2 v2 d2 l2 ok2 eo2 r2 hy2 => ?_
    obtain ⟨d3, e3, k3⟩ := yl_opt hy2
    exact ⟨W2, d, d2, d3, rfl, ok2, l2.rp r1, r2, e3, k3⟩
  · cases h
theorem e_cmp {a b : E} {o : Co} (ha : JE g q k a) (hb : JE g q k b) : JE g q k (.cmp o a b) := by
  intro z X e G F h
  unfold chk at h
  split at h
  · rename_i x p y hv
    obtain ⟨pos, rfl⟩ := vCmp_ok hv
    simp only [Bool.and_eq_true, decide_eq_true_eq] at h
    obtain ⟨⟨⟨rfl, h0⟩, h1⟩, h2⟩ := h
    refine PE.weaken (pe_cmpR (op_cmp (by have := G.un; omega) o) (ha z X x G F h1) (hb z X y G F h2) (noSet_mark h0 _)) ?_
    rintro σ H Q ⟨W0, W, en, rfl, ok, eo, hy⟩
    refine at_E ok eo hy fun W1 v d l1 ok1 eo1 r1 hy1 => ?_
    refine at_E ok1 eo1 hy1 fun W2 v2 d2 l2 ok2 eo2 r2 hy2 => ?_
    obtain ⟨d3, e3, k3⟩ := yl_optb hy2
    exact ⟨W2, d, d2, d3, rfl, ok2, l2.rp r1, r2, e3, yl_ret ok2 k3 (.bl _)⟩
  · cases h
theorem jt1 {X : Cx} {e : Expr} {t : TT} (h : PT X e t) (n : (vBool e).isSome = false) : PT X e t ∧ ((vBool e).isSome = true → PW X e t) := ⟨h, fun z => by rw [n] at z; cases z⟩
theorem jt2 {X : Cx} {e : Expr} {t : TT} (h : PW X e t) : PT X e t ∧ ((vBool e).isSome = true → PW X e t) := ⟨h.pt, fun _ => h⟩
theorem t_cmp {a b : E} {o : Co} (ha : JE g q k a) (hb : JE g q k b) : JT g q k (.cmp o a b) := by
  intro z X e G F h
  unfold chkT at h
  split at h
  · rename_i x p y hv
    obtain ⟨pos, rfl⟩ := vCmp_ok hv
    simp only [Bool.and_eq_true, decide_eq_true_eq] at h
    obtain ⟨⟨⟨rfl, h0⟩, h1⟩, h2⟩ := h
    refine jt1 (PT.weaken (pt_cmpR (op_cmp (by have := G.un; omega) o) (ha z X x G F h1) (hb z X y G F h2) (noSet_mark h0 _)) ?_) rfl
    rintro σ H Q ⟨W0, W, en, rfl, ok, eo, hy⟩
    refine at_E ok eo hy fun W1 v d l1 ok1 eo1 r1 hy1 => ?_
    refine at_E ok1 eo1 hy1 fun W2 v2 d2 l2 ok2 eo2 r2 hy2 => ?_
    obtain ⟨d3, e3, k3⟩ := yl_opt hy2
    exact ⟨W2, d, d2, d3, rfl, ok2, l2.rp r1, r2, e3, d3, rfl, k3 W2 (Le.refl _) ok2 rfl d3 rfl⟩
  · cases h
theorem lastM {o o2 : CmpOp} {a b : Expr} (h : noSet b = true) : lastMarks [o, o2] [a, b] = false := noSet_mark h o2
theorem e_chn {a b c : E} {o o2 : Co} (ha : JE g q k a) (hb : JE g q k b) (hc : JE g q k c) : JE g q k (.chn o o2 a b c) := by
  intro z X e G F h
  unfold chk at h
  split at h
  · rename_i x p p2 y w hv
    obtain ⟨pos, rfl⟩ := vCmp_ok hv
    simp only [Bool.and_eq_true, decide_eq_true_eq] at h
    obtain ⟨⟨⟨⟨⟨rfl, rfl⟩, h0⟩, h1⟩, h2⟩, h3⟩ := h
    refine PE.weaken (pe_chain (op_cmp (by have := G.un; omega) o) (op_cmp (by have := G.un; omega) o2) (ha z X x G F h1) (hb z X y G F h2) (hc z X w G F h3) (lastM h0)) ?_
    rintro σ H Q ⟨W0, W, en, rfl, ok, eo, hy⟩
    refine at_E ok eo hy fun W1 v d l1 ok1 eo1 r1 hy1 => ?_
    refine at_E ok1 eo1 hy1 fun W2 v2 d2 l2 ok2 eo2 r2 hy2 => ?_
    obtain ⟨b3, e3, hy3⟩ := yl_optb hy2
    refine ⟨W2, d, d2, b3, rfl, ok2, l2.rp r1, r2, e3, b3, rfl, ?_⟩
    obtain ⟨y1, y2⟩ := yl_ite hy3
    cases b3 with
    | true =>
      refine iteT (at_E ok2 eo2 (y1 rfl) fun W3 v3 d3 l3 ok3 eo3 r3 hy4 => ?_)
      obtain ⟨b4, e4, hy5⟩ := yl_optb hy4
      exact ⟨W3, d2, d3, b4, rfl, ok3, l3.rp r2, r3, e4, yl_ret ok3 hy5 (.bl _)⟩
    | false => exact iteF (yl_ret ok2 (y2 rfl) (.bl _))
  · cases h
theorem t_chn {a b c : E} {o o2 : Co} (ha : JE g q k a) (hb : JE g q k b) (hc : JE g q k c) : JT g q k (.chn o o2 a b c) := by
  intro z X e G F h
  unfold chkT at h
  split at h
  · rename_i x p p2 y w hv
    obtain ⟨pos, rfl⟩ := vCmp_ok hv
    simp only [Bool.and_eq_true, decide_eq_true_eq] at h
    obtain ⟨⟨⟨⟨⟨rfl, rfl⟩, h0⟩, h1⟩, h2⟩, h3⟩ := h
    refine jt1 (PT.weaken (pt_chain (op_cmp (by have := G.un; omega) o) (op_cmp (by have := G.un; omega) o2) (ha z X x G F h1) (hb z X y G F h2) (hc z X w G F h3) (lastM h0)) ?_) rfl
    rintro σ H Q ⟨W0, W, en, rfl, ok, eo, hy⟩
    refine at_E ok eo hy fun W1 v d l1 ok1 eo1 r1 hy1 => ?_
    refine at_E ok1 eo1 hy1 fun W2 v2 d2 l2 ok2 eo2 r2 hy2 => ?_
    obtain ⟨b3, e3, hy3⟩ := yl_optb hy2
    refine ⟨W2, d, d2, b3, rfl, ok2, l2.rp r1, r2, e3, b3, rfl, ?_⟩
    obtain ⟨y1, y2⟩ := yl_ite hy3
    cases b3 with
    | true =>
      refine iteT (at_E ok2 eo2 (y1 rfl) fun W3 v3 d3 l3 ok3 eo3 r3 hy4 => ?_)
      obtain ⟨b4, e4, hy5⟩ := yl_opt hy4
      exact ⟨W3, d2, d3, b4, rfl, ok3, l3.rp r2, r3, e4, b4, rfl, hy5 W3 (Le.refl _) ok3 rfl b4 rfl⟩
    | false => exact iteF ⟨false, rfl, yl_ret ok2 (y2 rfl) rfl⟩
  · cases h
theorem e_and {a b : E} (ha : JE g q k a) (hb : JE g q k b) : JE g q k (.and a b) := by
  intro z X e G F h
  unfold chk at h
  split at h
  · rename_i x y rest pos hv
    cases vBool_ok hv
    rw [Bool.and_eq_true] at h
    have hb' : PE X (.BoolOp .And (y :: rest) pos) (tE X.K g b) := by
      cases rest with
      | nil => exact pe_one (hb z X y G F h.2)
      | cons r rs => exact hb z X _ G F h.2
    refine PE.weaken (pe_and (ha z X x G F h.1) hb') ?_
    rintro σ H Q ⟨W0, W, en, rfl, ok, eo, hy⟩
    refine at_E ok eo hy fun W1 v d l1 ok1 eo1 r1 hy1 => ?_
    obtain ⟨b3, rfl, hy2⟩ := yl_isB hy1
    obtain ⟨y1, y2⟩ := yl_ite hy2
    cases r1
    refine ⟨b3, rfl, ?_⟩
    cases b3 with
    | true => exact iteT ⟨W0, W1, en, rfl, ok1, eo1, y1 rfl⟩
    | false => exact iteF (yl_ret ok1 (y2 rfl) (.bl _))
  · cases h
theorem e_or {a b : E} (ha : JE g q k a) (hb : JE g q k b) : JE g q k (.or a b) := by
  intro z X e G F h
  unfold chk at h
  split at h
  · rename_i x y rest pos hv
    cases vBool_ok hv
    rw [Bool.and_eq_true] at h
    have hb' : PE X (.BoolOp .Or (y :: rest) pos) (tE X.K g b) := by
      cases rest with
      | nil => exact pe_one (hb z X y G F h.2)
      | cons r rs => exact hb z X _ G F h.2
    refine PE.weaken (pe_or (ha z X x G F h.1) hb') ?_
    rintro σ H Q ⟨W0, W, en, rfl, ok, eo, hy⟩
    refine at_E ok eo hy fun W1 v d l1 ok1 eo1 r1 hy1 => ?_
    obtain ⟨b3, rfl, hy2⟩ := yl_isB hy1
    obtain ⟨y1, y2⟩ := yl_ite hy2
    cases r1
    refine ⟨b3, rfl, ?_⟩
    cases b3 with
    | true => exact iteT (yl_ret ok1 (y1 rfl) (.bl _))
    | false => exact iteF ⟨W0, W1, en, rfl, ok1, eo1, y2 rfl⟩
  · cases h
theorem tw_and {a b : E} {x y : Expr} {rest : List Expr} {pos : Pos} {X : Cx} (ha : PT X x (tT X.K g a)) (hb : PW X (.BoolOp .And (y :: rest) pos) (tT X.K g b)) : PW X (.BoolOp .And (x :: y :: rest) pos) (tT X.K g (.and a b)) := by
  refine PW.weaken (pw_and ha hb) ?_
  rintro σ H Q ⟨W0, W, en, rfl, ok, eo, hy⟩
  refine at_T ok eo hy fun W1 b3 l1 ok1 eo1 hy1 => ?_
  obtain ⟨y1, y2⟩ := yl_ite hy1
  cases b3 with
  | true => exact iteT ⟨W0, W1, en, rfl, ok1, eo1, y1 rfl⟩
  | false => exact iteF (yl_ret ok1 (y2 rfl) rfl)
theorem tw_or {a b : E} {x y : Expr} {rest : List Expr} {pos : Pos} {X : Cx} (ha : PT X x (tT X.K g a)) (hb : PW X (.BoolOp .Or (y :: rest) pos) (tT X.K g b)) : PW X (.BoolOp .Or (x :: y :: rest) pos) (tT X.K g (.or a b)) := by
  refine PW.weaken (pw_or ha hb) ?_
  rintro σ H Q ⟨W0, W, en, rfl, ok, eo, hy⟩
  refine at_T ok eo hy fun W1 b3 l1 ok1 eo1 hy1 => ?_
  obtain ⟨y1, y2⟩ := yl_ite hy1
  cases b3 with
  | true => exact iteT (yl_ret ok1 (y1 rfl) rfl)
  | false => exact iteF ⟨W0, W1, en, rfl, ok1, eo1, y2 rfl⟩
theorem t_and {a b : E} (ha : JT g q k a) (hb : JT g q k b) : JT g q k (.and a b) := by
  intro z X e G F h
  unfold chkT at h
  split at h
  · rename_i x y rest pos hv
    cases vBool_ok hv
    rw [Bool.and_eq_true] at h
    refine jt2 (tw_and (ha z X x G F h.1).1 ?_)
    cases rest with
    | nil => exact pw_and1 (hb z X y G F h.2).1
    | cons r rs => exact (hb z X _ G F h.2).2 rfl
  · cases h
theorem t_or {a b : E} (ha : JT g q k a) (hb : JT g q k b) : JT g q k (.or a b) := by
  intro z X e G F h
  unfold chkT at h
  split at h
  · rename_i x y rest pos hv
    cases vBool_ok hv
    rw [Bool.and_eq_true] at h
    refine jt2 (tw_or (ha z X x G F h.1).1 ?_)
    cases rest with
    | nil => exact pw_or1 (hb z X y G F h.2).1
    | cons r rs => exact (hb z X _ G F h.2).2 rfl
  · cases h
theorem t_not {a : E} (ha : JT g q k a) : JT g q k (.not a) := by
  intro z X e G F h
  unfold chkT at h
  split at h
  · rename_i x hv
    obtain ⟨pos, rfl⟩ := vUn_ok hv
    refine jt1 (PT.weaken (pt_not (ha z X x G F h).1) ?_) rfl
    rintro σ H Q ⟨W0, W, en, rfl, ok, eo, hy⟩
    refine at_T ok eo hy fun W1 b3 l1 ok1 eo1 hy1 => ?_
    exact yl_ret ok1 hy1 rfl
  · cases h
theorem e_not {a : E} (ha : JE g q k a) : JE g q k (.not a) := by
  intro z X e G F h
  unfold chk at h
  split at h
  · rename_i x hv
    obtain ⟨pos, rfl⟩ := vUn_ok hv
    refine PE.weaken (pe_notT (ha z X x G F h)) ?_
    rintro σ H Q ⟨W0, W, en, rfl, ok, eo, hy⟩
    refine at_E ok eo hy fun W1 v d l1 ok1 eo1 r1 hy1 => ?_
    obtain ⟨b, e1, hy2⟩ := yl_optb hy1
    exact ⟨b, tru_D ok1 r1 e1, yl_ret ok1 hy2 (.bl _)⟩
  · cases h
theorem e_neg {a : E} (ha : JE g q k a) : JE g q k (.neg a) := by
  intro z X e G F h
  unfold chk at h
  split at h
  · rename_i x hv
    obtain ⟨pos, rfl⟩ := vUn_ok hv
    refine PE.weaken (pe_un un_neg (ha z X x G F h)) ?_
    rintro σ H Q ⟨W0, W, en, rfl, ok, eo, hy⟩
    refine at_E ok eo hy fun W1 v d l1 ok1 eo1 r1 hy1 => ?_
    obtain ⟨b, rfl, hy2⟩ := yl_isI hy1
    cases r1
    exact ⟨b, rfl, yl_ret ok1 hy2 (.int _)⟩
  · cases h
theorem e_ife {a b c : E} (hc : JT g q k c) (ha : JE g q k a) (hb : JE g q k b) : JE g q k (.ife c a b) := by
  intro z X e G F h
  unfold chk at h
  split at h
  · rename_i x y w hv
    obtain ⟨pos, rfl⟩ := vIf_ok hv
    simp only [Bool.and_eq_true] at h
    refine PE.weaken (pe_ifExp (hc z X x G F h.1.1).1 (ha z X y G F h.1.2) (hb z X w G F h.2)) ?_
    rintro σ H Q ⟨W0, W, en, rfl, ok, eo, hy⟩
    refine at_T ok eo hy fun W1 b3 l1 ok1 eo1 hy1 => ?_
    obtain ⟨y1, y2⟩ := yl_ite hy1
    cases b3 with
    | true => exact iteT ⟨W0, W1, en, rfl, ok1, eo1, y1 rfl⟩
    | false => exact iteF ⟨W0, W1, en, rfl, ok1, eo1, y2 rfl⟩
  · cases h
theorem e_idx {a b : E} (ha : JE g q k a) (hb : JE g q k b) : JE g q k (.idx a b) := by
  intro z X e G F h
  unfold chk at h
  split at h
  · rename_i x y hv
    obtain ⟨pos, rfl⟩ := vSub_ok hv
    simp only [Bool.and_eq_true, Bool.not_eq_true'] at h
    refine PE.weaken (pe_ix ix_W (ha z X x G F h.1.2) (hb z X y G F h.2) (plainIx h.1.1)) ?_
    rintro σ H Q ⟨W0, W, en, rfl, ok, eo, hy⟩
    refine at_E ok eo hy fun W1 v d l1 ok1 eo1 r1 hy1 => ?_
    refine at_E ok1 eo1 hy1 fun W2 v2 d2 l2 ok2 eo2 r2 hy2 => ?_
    obtain ⟨d3, e3, k3⟩ := yl_opt hy2
    exact ⟨W2, d, d2, d3, rfl, ok2, l2.rp r1, r2, e3, k3⟩
  · cases h
theorem at_O {K : PySem.W.Frag} {β γ : Type} {c : Oe} {f : Option Int → M β} {R : Wd → γ → β → Prop} {Q : γ → Hp → Prop} {σ : L2.St} {W0 W : Wd} {en : En} (ok : W.Ok K) (eo : EnOk K W0 W en σ) (h : Yl K W (M.bnd (evo g c en) f) R Q) {Q1 : Option Int → Hp → Prop}
    (n : ∀ W1 b, Le W W1 → W1.Ok K → EnOk K W0 W1 en σ → Yl K W1 (f b) R Q → Q1 b W1.H) : At K σ W.H fun W en => Yl K W (evo g c en) (fun _ v d => v = d) Q1 := by
  obtain ⟨_, d, S1, e1, rest⟩ := yl_bnd (R := fun _ (_ : Unit) _ => True) h
  exact ⟨W0, W, en, rfl, ok, eo, d, S1, e1, fun W1 l1 ok1 es1 v r => by subst r; exact n W1 v l1 ok1 (eo.le l1) (rest W1 l1 ok1 es1)⟩
theorem e_sli {a : E} {lo hi : Oe} (ha : JE g q k a) (hl : JO g q k lo) (hh : JO g q k hi) : JE g q k (.sli a lo hi) := by
  intro z X e G F h
  unfold chk at h
  split at h
  · rename_i x y hv
    obtain ⟨pos, rfl⟩ := vSub_ok hv
    split at h
    · rename_i l u hs
      obtain ⟨p2, rfl⟩ := vSlice_ok hs
      simp only [Bool.and_eq_true] at h
      refine PE.weaken (pe_slice sl_W (ha z X x G F h.1.1) (hl z X l G F h.1.2) (hh z X u G F h.2)) ?_
      rintro σ H Q ⟨W0, W, en, rfl, ok, eo, hy⟩
      refine at_E ok eo hy fun W1 v d l1 ok1 eo1 r1 hy1 => ?_
      refine at_O ok1 eo1 hy1 fun W2 b2 l2 ok2 eo2 hy2 => ?_
      refine at_O ok2 eo2 hy2 fun W3 b3 l3 ok3 eo3 hy3 => ?_
      obtain ⟨d3, e3, k3⟩ := yl_opt hy3
      exact ⟨W3, d, d3, rfl, ok3, l3.rp (l2.rp r1), e3, k3⟩
    · cases h
  · cases h
theorem o_n : JO g q k .n := by
  intro z X e G F h
  cases e with
  | none =>
    refine PO.weaken po_none ?_
    rintro σ H Q ⟨W0, W, en, rfl, ok, eo, hy⟩
    exact yl_ret ok hy rfl
  | some e => cases h
theorem o_s {a : E} (ha : JE g q k a) : JO g q k (.s a) := by
  intro z X e G F h
  cases e with
  | none => cases h
  | some e =>
    refine PO.weaken (po_some (ha z X e G F h)) ?_
    rintro σ H Q ⟨W0, W, en, rfl, ok, eo, hy⟩
    refine at_E ok eo hy fun W1 v d l1 ok1 eo1 r1 hy1 => ?_
    obtain ⟨b, rfl, hy2⟩ := yl_isI hy1
    cases r1
    exact ⟨b, rfl, yl_ret ok1 hy2 rfl⟩
theorem a_n : JA g q k .n := by
  intro z X e G F hs h
  cases e with
  | nil =>
    refine PA.weaken pa_nil ?_
    rintro σ H Q ⟨W0, W, en, rfl, ok, eo, hy⟩
    exact yl_ret ok hy .nil
  | cons e es => cases h
theorem a_c {a : E} {r : Es} (ha : JE g q k a) (hr : JA g q k r) : JA g q k (.c a r) := by
  intro z X e G F hs h
  cases e with
  | nil => cases h
  | cons e es =>
    rw [List.all_cons, Bool.and_eq_true] at hs
    have h := Bool.and_eq_true_iff.mp (show (chk q a z e && chks q r z es) = true from h)
    refine PA.weaken (pa_cons (ha z X e G F h.1) (hr z X es G F hs.2 h.2) (star_each hs.1 es X.env)) ?_
    rintro σ H Q ⟨W0, W, en, rfl, ok, eo, hy⟩
    refine at_E ok eo hy fun W1 v d l1 ok1 eo1 r1 hy1 => ?_
    refine at_Es ok1 eo1 hy1 fun W2 vs ds l2 ok2 eo2 r2 _ hy2 => ?_
    exact yl_ret ok2 hy2 (.cons (l2.rp r1) r2)
theorem line1000 {n : Nat} (h : n ≤ 1000) : n ≤ sizeLine := Nat.le_trans h (by rw [sizeLine_eq]; decide)
theorem yl_new {K : PySem.W.Frag} {W : Wd} {d : D} {Q : VK} (h : Yl K W (M.ret d) (fun W' v d => W'.Rp K v d) Q) : Aft K W W.S fun W' => ∀ v, W'.Rp K v d → Q v W'.H := by
  obtain ⟨b, S', e, k⟩ := h
  obtain ⟨rfl, rfl⟩ := ret_inv e
  exact k
theorem e_tup {es : Es} (hs : JA g q k es) : JE g q k (.tup es) := by
  intro z X e G F h
  unfold chk at h
  split at h
  · rename_i l hv
    obtain ⟨k0, pos, rfl⟩ := vTuple_ok hv
    simp only [Bool.and_eq_true, decide_eq_true_eq] at h
    refine PE.weaken (pe_tup (hs z X l G F h.1.2 h.2)) ?_
    rintro σ H Q ⟨W0, W, en, rfl, ok, eo, hy⟩
    refine at_Es ok eo hy fun W2 vs ds l2 ok2 eo2 r2 hl hy2 => ?_
    have hz : vs.length ≤ sizeLine := line1000 (by rw [hl, ← chks_len h.2]; exact h.1.1)
    exact ⟨hz, fun p hp => aft_new ok2 (yl_new hy2) hp (rp_newT ok2 hp hz r2)⟩
  · cases h
theorem e_lst {es : Es} (hs : JA g q k es) : JE g q k (.lst es) := by
  intro z X e G F h
  unfold chk at h
  split at h
  · rename_i l hv
    obtain ⟨pos, rfl⟩ := vList_ok hv
    simp only [Bool.and_eq_true, decide_eq_true_eq] at h
    refine PE.weaken (pe_lst (hs z X l G F h.1.2 h.2)) ?_
    rintro σ H Q ⟨W0, W, en, rfl, ok, eo, hy⟩
    refine at_Es ok eo hy fun W2 vs ds l2 ok2 eo2 r2 hl hy2 => ?_
    have hz : vs.length ≤ sizeLine := line1000 (by rw [hl, ← chks_len h.2]; exact h.1.1)
    exact ⟨hz, fun p hp => aft_new ok2 (yl_new hy2) hp (rp_newL ok2 hp hz r2)⟩
  · cases h
theorem getV_inv {en : En} {i : Nat} {d : D} (h : getV en i = some d) : en[i]? = some (.val d) := by
  unfold getV at h
  split at h
  · rename_i x hx
    cases h
    exact hx
  · cases h
theorem var_pe {i : Nat} {x : Str} {pos : Pos} (G : Gd q z X) (h : (ixB q.N i x && visB z.sc x && nmB x) = true) : PE X (.Name x pos) (tVar i) := by
  simp only [Bool.and_eq_true] at h
  exact pe_var (by rw [G.N]; exact of_decide_eq_true h.1.1) (by rw [G.sc]; exact visB_ok h.1.2) (nmB_1 h.2) (nmB_2 h.2)
theorem e_var {i : Nat} : JE g q k (.var i) := by
  intro z X e G F h
  unfold chk at h
  split at h
  · rename_i x hv
    obtain ⟨pos, rfl⟩ := vName_ok hv
    refine PE.weaken (var_pe G h) ?_
    rintro σ H Q ⟨W0, W, en, rfl, ok, eo, hy⟩
    obtain ⟨d, e1, kk⟩ := yl_opt hy
    obtain ⟨v, h1, h2⟩ := eo.val i d (getV_inv e1)
    exact ⟨v, h1, aft_here ok kk h2⟩
  · cases h
theorem t_var {i : Nat} : JT g q k (.var i) := by
  intro z X e G F h
  unfold chkT at h
  split at h
  · rename_i x hv
    obtain ⟨pos, rfl⟩ := vName_ok hv
    refine jt1 (PT.weaken (pt_truth (var_pe G h) (plainT_ok rfl)) ?_) rfl
    rintro σ H Q ⟨W0, W, en, rfl, ok, eo, hy⟩
    obtain ⟨d, e1, hy⟩ := yl_optb hy
    obtain ⟨v, h1, h2⟩ := eo.val i d (getV_inv e1)
    obtain ⟨b, e2, kk⟩ := yl_opt hy
    exact ⟨v, h1, b, tru_D ok h2 e2, kk W (Le.refl _) ok rfl b rfl⟩
  · cases h
theorem e_glo {j : Nat} : JE g q k (.glo j) := by
  intro z X e G F h
  unfold chk at h
  split at h
  · rename_i x hv
    obtain ⟨pos, rfl⟩ := vName_ok hv
    simp only [Bool.and_eq_true, decide_eq_true_eq] at h
    obtain ⟨d, v, u, h1, h2, h3, h4⟩ := F.gl j x h.1.1
    refine PE.weaken (pe_glob (G.gb h.1.2) h2 h3 (nmB_1 h.2)) ?_
    rintro σ H Q ⟨W0, W, en, rfl, ok, eo, hy⟩
    obtain ⟨d', e1, kk⟩ := yl_opt hy
    rw [h1] at e1
    cases e1
    exact aft_here ok kk (h4 _ _)
  · cases h
theorem e_int {n : Int} : JE g q k (.int n) := by
  intro z X e G F h
  unfold chk at h
  split at h
  · rename_i m hv
    obtain ⟨j, pos, rfl⟩ := vConst_ok hv
    cases of_decide_eq_true h
    refine PE.weaken pe_int ?_
    rintro σ H Q ⟨W0, W, en, rfl, ok, eo, hy⟩
    exact yl_ret ok hy (.int _)
  · cases h
theorem constB_ok {c : Const} {s : Str} (h : constB c s = true) : c = .str s := by
  unfold constB at h
  split at h
  · rw [of_decide_eq_true h]
  · cases h
theorem e_str {n : Str} : JE g q k (.str n) := by
  intro z X e G F h
  unfold chk at h
  split at h
  · rename_i m hv
    obtain ⟨j, pos, rfl⟩ := vConst_ok hv
    cases constB_ok h
    refine PE.weaken pe_str ?_
    rintro σ H Q ⟨W0, W, en, rfl, ok, eo, hy⟩
    exact yl_ret ok hy (.str _)
  · cases h
theorem e_bl {n : Bool} : JE g q k (.bl n) := by
  intro z X e G F h
  unfold chk at h
  split at h
  · rename_i m hv
    obtain ⟨j, pos, rfl⟩ := vConst_ok hv
    cases eq_of_beq h
    refine PE.weaken pe_bl ?_
    rintro σ H Q ⟨W0, W, en, rfl, ok, eo, hy⟩
    exact yl_ret ok hy (.bl _)
  · cases h
theorem t_bl {n : Bool} : JT g q k (.bl n) := by
  intro z X e G F h
  unfold chkT at h
  split at h
  · rename_i m hv
    obtain ⟨j, pos, rfl⟩ := vConst_ok hv
    cases eq_of_beq h
    refine jt1 (PT.weaken (pt_truth pe_bl (plainT_ok rfl)) ?_) rfl
    rintro σ H Q ⟨W0, W, en, rfl, ok, eo, hy⟩
    exact ⟨n, rfl, yl_ret ok hy rfl⟩
  · cases h
theorem e_non : JE g q k .non := by
  intro z X e G F h
  unfold chk at h
  split at h
  · rename_i hv
    obtain ⟨j, pos, rfl⟩ := vConst_ok hv
    refine PE.weaken pe_non ?_
    rintro σ H Q ⟨W0, W, en, rfl, ok, eo, hy⟩
    exact yl_ret ok hy .non
  · cases h
theorem b1_pe {f : B1} {x : Expr} {p pos : Pos} {t : TE} (G : Gd q z X) (hx : glB z.sc f.nm = true) (hn : noStar x = true) (h : PE X x t) : PE X (.Call (.Name f.nm p) [x] [] pos) (tCB (rWb X.K (b1D f)) (tCons t tNil)) := by
  have hs := star_each hn [] X.env
  have ha := pa_cons h pa_nil hs
  have cr := call_b1 G.calm G.gd G.un f
  have hb := f.boot
  have gl := G.gb hx
  have no := G.no f
  cases f <;> first
    | exact pe_callB cr gl no hb ha (by decide) (by decide) hs rfl
    | exact pe_callTy cr gl no hb ha (by decide) (by decide) hs rfl
theorem e_b1 {f : B1} {a : E} (ha : JE g q k a) : JE g q k (.b1 f a) := by
  intro z X e G F h
  unfold chk at h
  split at h
  · rename_i n x hv
    obtain ⟨p, pos, rfl⟩ := vCall_ok hv
    simp only [Bool.and_eq_true, decide_eq_true_eq] at h
    obtain ⟨⟨⟨rfl, h1⟩, h2⟩, h3⟩ := h
    refine PE.weaken (b1_pe G h1 h2 (ha z X x G F h3)) ?_
    rintro σ H Q ⟨W0, W, en, rfl, ok, eo, hy⟩
    refine at_E ok eo hy fun W1 v d l1 ok1 eo1 r1 hy1 => ?_
    obtain ⟨d3, e3, k3⟩ := yl_opt hy1
    exact ⟨v, rfl, W1, d, d3, rfl, ok1, r1, e3, k3⟩
  · cases h
theorem t_b1 {f : B1} {a : E} (ha : JE g q k a) : JT g q k (.b1 f a) := by
  intro z X e G F h
  unfold chkT at h
  split at h
  · rename_i n x hv
    obtain ⟨p, pos, rfl⟩ := vCall_ok hv
    simp only [Bool.and_eq_true, decide_eq_true_eq] at h
    obtain ⟨⟨⟨rfl, h1⟩, h2⟩, h3⟩ := h
    refine jt1 (PT.weaken (pt_truth (b1_pe G h1 h2 (ha z X x G F h3)) (plainT_ok rfl)) ?_) rfl
    rintro σ H Q ⟨W0, W, en, rfl, ok, eo, hy⟩
    refine at_E ok eo hy fun W1 v d l1 ok1 eo1 r1 hy1 => ?_
    obtain ⟨d3, e3, hy2⟩ := yl_optb hy1
    obtain ⟨b, e4, k4⟩ := yl_opt hy2
    exact ⟨v, rfl, W1, d, d3, rfl, ok1, r1, e3, fun W2 l2 ok2 es2 v2 r2 => ⟨b, tru_D ok2 r2 e4, k4 W2 l2 ok2 es2 b rfl⟩⟩
  · cases h
theorem tyNm_ok {T : String} {n : Str} (h : tyNm T = some n) : bootBuiltins n = some (.type T) ∧ n ∈ bNames ∧ n ≠ "__name__" ∧ (n == ("__debug__" : Str)) = false := by
  unfold tyNm tyNames at h
  simp only [List.lookup] at h
  repeat' split at h
  all_goals first
    | (cases h; rename_i e; first | (have e := eq_of_beq e; subst e; decide +kernel) | (cases h))
    | cases h
theorem isi_pe {T : String} {n : Str} {x : Expr} {p p2 pos : Pos} {t : TE} (G : Gd q z X) (hx : glB z.sc "isinstance" = true) (hn : noStar x = true) (h : PE X x t) (ht : tyNm T = some n) (hg : glB z.sc n = true) :
    PE X (.Call (.Name "isinstance" p) [x, .Name n p2] [] pos) (tCB (rIsi X.K) (tCons t (tCons (tC (.ty T)) tNil))) := by
  obtain ⟨b1, b2, b3, b4⟩ := tyNm_ok ht
  have ha := pa_cons h (pa_cons (pe_bltn (v := .ty T) (pos := p2) (G.gb hg) (G.bl _ b2) b1 rfl b3 b4) pa_nil) (star_each hn _ X.env)
  exact pe_callB call_isi (G.gb hx) (G.bl _ (by decide)) boot_isinstance ha (by decide) (by decide) (star_each hn _ X.env) rfl
theorem e_isi {a : E} {T : String} (ha : JE g q k a) : JE g q k (.isi a T) := by
  intro z X e G F h
  unfold chk at h
  split at h
  · rename_i f x t hv
    obtain ⟨p, pos, rfl⟩ := vCall_ok hv
    rw [Bool.and_eq_true] at h
    obtain ⟨h0, h⟩ := h
    simp only [Bool.and_eq_true, decide_eq_true_eq] at h0
    obtain ⟨⟨⟨rfl, h1⟩, h2⟩, h3⟩ := h0
    split at h
    · rename_i n hn
      obtain ⟨p2, rfl⟩ := vName_ok hn
      simp only [Bool.and_eq_true, decide_eq_true_eq] at h
      refine PE.weaken (isi_pe G h1 h2 (ha z X x G F h3) h.1 h.2) ?_
      rintro σ H Q ⟨W0, W, en, rfl, ok, eo, hy⟩
      refine at_E ok eo hy fun W1 v d l1 ok1 eo1 r1 hy1 => ?_
      obtain ⟨b, e3, k3⟩ := yl_optb hy1
      obtain ⟨t, e4, e5⟩ := obind (show (tyD d).bind (fun t => kitB t T) = some b from e3)
      exact ⟨v, .ty T, .type t, .type T, b, rfl, .ty T, ty_D ok1 r1 e4, kit_ty e5, yl_ret ok1 k3 (.bl _)⟩
    · cases h
  · cases h
theorem t_isi {a : E} {T : String} (ha : JE g q k a) : JT g q k (.isi a T) := by
  intro z X e G F h
  unfold chkT at h
  split at h
  · rename_i f x t hv
    obtain ⟨p, pos, rfl⟩ := vCall_ok hv
    rw [Bool.and_eq_true] at h
    obtain ⟨h0, h⟩ := h
    simp only [Bool.and_eq_true, decide_eq_true_eq] at h0
    obtain ⟨⟨⟨rfl, h1⟩, h2⟩, h3⟩ := h0
    split at h
    · rename_i n hn
      obtain ⟨p2, rfl⟩ := vName_ok hn
      simp only [Bool.and_eq_true, decide_eq_true_eq] at h
      refine jt1 (PT.weaken (pt_truth (isi_pe G h1 h2 (ha z X x G F h3) h.1 h.2) (plainT_ok rfl)) ?_) rfl
      rintro σ H Q ⟨W0, W, en, rfl, ok, eo, hy⟩
      refine at_E ok eo hy fun W1 v d l1 ok1 eo1 r1 hy1 => ?_
      obtain ⟨b, e3, k3⟩ := yl_opt hy1
      obtain ⟨t, e4, e5⟩ := obind (show (tyD d).bind (fun t => kitB t T) = some b from e3)
      exact ⟨v, .ty T, .type t, .type T, b, rfl, .ty T, ty_D ok1 r1 e4, kit_ty e5, b, rfl, k3 W1 (Le.refl _) ok1 rfl b rfl⟩
    · cases h
  · cases h
theorem e_m0 {m : M0} {a : E} (ha : JE g q k a) : JE g q k (.m0 m a) := by
  intro z X e G F h
  unfold chk at h
  split at h
  · rename_i x n p1 p2 hv
    cases vMeth0_ok hv
    rw [Bool.and_eq_true, Bool.and_eq_true, Bool.and_eq_true] at h
    obtain ⟨⟨⟨h1, h2⟩, h3⟩, h4⟩ := h
    cases m with
    | upper =>
      cases of_decide_eq_true h1
      refine PE.weaken (pe_upper (ha z X x G F h4) (plainO_ok h2 _ _) h3) ?_
      rintro σ H Q ⟨W0, W, en, rfl, ok, eo, hy⟩
      refine at_E ok eo hy fun W1 v d l1 ok1 eo1 r1 hy1 => ?_
      obtain ⟨d3, e3, k3⟩ := yl_opt hy1
      cases r1 with
      | str s =>
        obtain ⟨g1, g2⟩ := ifp_some (show (if s.length ≤ 5592405 then some (D.str (Txt.upper s)) else none) = some d3 from e3)
        subst g2
        exact ⟨⟨s, rfl⟩, s, rfl, rfl, g1, aft_here ok1 k3 (.str _)⟩
      | _ => cases e3
  · cases h
theorem call_pe {f : Nat} {es : Es} {n : Str} {l : List Expr} {p pos : Pos} (G : Gd q z X) (F : Fs g q k X) (hs : JA g q k es) (h : (decide (q.fns[f]? = some (n, l.length)) && glB z.sc n && nmB n && l.all noStar && chks q es z l) = true) :
    ∃ m, g.fn[f]? = some m ∧ PE X (.Call (.Name n p) l [] pos) (tCallC X.K m (tEs X.K g es)) := by
  simp only [Bool.and_eq_true, decide_eq_true_eq] at h
  obtain ⟨⟨⟨⟨h1, h2⟩, h3⟩, h4⟩, h5⟩ := h
  obtain ⟨m, fa, fd, ps, e1, e2, e3, e4, e5, e6⟩ := F.fn f n l.length h1
  refine ⟨m, e1, pe_C e4 F.rm G.gd (G.gb h2) e2 e3 e5 e6.symm (hs z X l G F h4 h5) ?_ ?_ h4 (nmB_1 h3)⟩
  · rintro σ H Q ⟨W0, W, en, rfl, ok, eo, ds, S', ed, kk⟩
    refine ⟨W0, W, en, rfl, ok, eo, ds, S', ed, fun W1 l1 ok1 es1 v r => ⟨?_, kk W1 l1 ok1 es1 v r⟩⟩
    rw [r.len, evs_len ed, chks_len h5]
  · rintro rfl σ H Q ⟨W0, W, en, rfl, ok, eo, ds, S', ed, kk⟩
    cases es with
    | n =>
      obtain ⟨rfl, rfl⟩ := ret_inv ed
      exact kk W (Le.refl _) ok rfl [] .nil
    | c a r => cases h5
theorem e_call {f : Nat} {es : Es} (hs : JA g q k es) : JE g q k (.call f es) := by
  intro z X e G F h
  unfold chk at h
  split at h
  · rename_i n l hv
    obtain ⟨p, pos, rfl⟩ := vCall_ok hv
    obtain ⟨m, e1, pe⟩ := call_pe (p := p) (pos := pos) G F hs h
    refine PE.weaken pe ?_
    rintro σ H Q ⟨W0, W, en, rfl, ok, eo, hy⟩
    refine at_Es ok eo hy fun W2 vs ds l2 ok2 eo2 r2 hl hy2 => ?_
    obtain ⟨m', e2, hy3⟩ := yl_optb hy2
    rw [e1] at e2
    cases e2
    exact ⟨W2, ds, rfl, ok2, r2, hy3⟩
  · cases h
theorem t_call {f : Nat} {es : Es} (hs : JA g q k es) : JT g q k (.call f es) := by
  intro z X e G F h
  unfold chkT at h
  split at h
  · rename_i n l hv
    obtain ⟨p, pos, rfl⟩ := vCall_ok hv
    obtain ⟨m, e1, pe⟩ := call_pe (p := p) (pos := pos) G F hs h
    refine jt1 (PT.weaken (pt_truth pe (plainT_ok rfl)) ?_) rfl
    rintro σ H Q ⟨W0, W, en, rfl, ok, eo, hy⟩
    refine at_Es ok eo hy fun W2 vs ds l2 ok2 eo2 r2 hl hy2 => ?_
    obtain ⟨m', e2, hy3⟩ := yl_optb hy2
    rw [e1] at e2
    cases e2
    obtain ⟨b, S', e4, k4⟩ := hy3
    obtain ⟨d, S1, e5, e6⟩ := bnd_inv e4
    obtain ⟨e7, rfl⟩ := opt_inv e6
    exact ⟨W2, ds, rfl, ok2, r2, d, S', e5, fun W3 l3 ok3 es3 v r => ⟨b, tru_D ok3 r e7, k4 W3 l3 ok3 es3 b rfl⟩⟩
  · cases h
theorem c_n : JC g q k .n := by
  intro z X e G F h
  cases e with
  | nil =>
    refine PTs.weaken pts_nil ?_
    rintro σ H Q ⟨W0, W, en, rfl, ok, eo, hy⟩
    exact yl_ret ok hy rfl
  | cons e es => cases h
theorem c_s {a : E} (ha : JT g q k a) : JC g q k (.s a) := by
  intro z X e G F h
  match e, h with
  | [e], h => exact pts_one (ha z X e G F h).1
end
end Cv

/-! Cv10: walks, comprehensions, objects; all expressions. -/
namespace Cv
open PySem PySem.Spec PyProof.Rows L2
section
variable {g : Cf} {q : Ck} {z : Zs} {X : Cx} {k : Nat}
theorem rg62 {i : Int} (h : rgOk i = true) : -(2 ^ 62) ≤ i ∧ i < 2 ^ 62 := by
  unfold rgOk at h
  simp only [Bool.and_eq_true, decide_eq_true_eq] at h
  omega
theorem rg0 : rgOk 0 = true := by decide
theorem i_sq {a : E} (ha : JE g q k a) : JI g q k (.sq a) := by
  intro z X tg e G F h
  refine PI.weaken (pi_sq (ha z X e G F h)) ?_
  rintro σ H R ⟨W0, W, en, rfl, ok, eo, ds, S', hd, kk⟩
  obtain ⟨x, S1, e1, e2⟩ := bnd_inv hd
  obtain ⟨e3, rfl⟩ := opt_inv e2
  refine ⟨W0, W, en, rfl, ok, eo, x, S', e1, fun W1 l1 ok1 es1 v r => ?_⟩
  cases r with
  | lst hx lx rx =>
    cases e3
    exact .inl ⟨_, _, rfl, ok1.sqL hx, kk W1 l1 ok1 es1 _ (wk_list hx lx rx)⟩
  | tup hx lx rx =>
    cases e3
    exact .inr (.inl ⟨_, _, rfl, ok1.sqT hx, kk W1 l1 ok1 es1 _ (wk_tup hx lx rx)⟩)
  | str s =>
    obtain ⟨h1, h2⟩ := ifp_some (show (if s.length ≤ sizeLine then some (s.cps.toList.map fun c => D.str ⟨#[c]⟩) else none) = some ds from e3)
    subst h2
    exact .inr (.inr ⟨s, rfl, kk W1 l1 ok1 es1 _ (wk_str s h1)⟩)
  | _ => cases e3
theorem if_no {α : Type} {c : Bool} {m : M α} {a : α} {S S' : Sto} (h : (if c = true then m else M.no) S = some (a, S')) : c = true ∧ m S = some (a, S') := by
  cases c with
  | true => exact ⟨rfl, h⟩
  | false => exact (no_inv (S := S) h).elim
theorem i_rg1 {a : E} (ha : JE g q k a) : JI g q k (.rg1 a) := by
  intro z X tg e G F h
  unfold chki at h
  split at h
  · rename_i n x hv
    obtain ⟨p, pos, rfl⟩ := vCall_ok hv
    simp only [Bool.and_eq_true, decide_eq_true_eq] at h
    obtain ⟨⟨⟨rfl, h1⟩, h2⟩, h3⟩ := h
    refine PI.weaken (pi_range1 (G.gb h1) (G.bl _ (by decide)) (pa_cons (ha z X x G F h3) pa_nil (star_each h2 [] X.env)) (star_each h2 [] X.env)) ?_
    rintro σ H R ⟨W0, W, en, rfl, ok, eo, ds, S', hd, kk⟩
    obtain ⟨d, S1, e1, e2⟩ := bnd_inv hd
    obtain ⟨i, S2, e3, e4⟩ := bnd_inv e2
    obtain ⟨rfl, rfl⟩ := isI_inv e3
    obtain ⟨e5, e6⟩ := if_no e4
    obtain ⟨rfl, rfl⟩ := ret_inv e6
    refine ⟨W0, W, en, rfl, ok, eo, _, _, e1, fun W1 l1 ok1 es1 v r => ?_⟩
    cases r
    have b := rg62 e5
    refine ⟨i, rfl, b.1, b.2, kk W1 l1 ok1 es1 _ ?_⟩
    have w := wk_rng (K := X.K) (W := W1) 0 i rg0 e5
    rw [Int.sub_zero] at w
    exact w
  · cases h
theorem i_rg2 {a b : E} (ha : JE g q k a) (hb : JE g q k b) : JI g q k (.rg2 a b) := by
  intro z X tg e G F h
  unfold chki at h
  split at h
  · rename_i n x y hv
    obtain ⟨p, pos, rfl⟩ := vCall_ok hv
    simp only [Bool.and_eq_true, decide_eq_true_eq] at h
    obtain ⟨⟨⟨⟨⟨rfl, h1⟩, h2⟩, h3⟩, h4⟩, h5⟩ := h
    refine PI.weaken (pi_range2 (G.gb h1) (G.bl _ (by decide)) (pa_cons (ha z X x G F h4) (pa_cons (hb z X y G F h5) pa_nil (star_each h3 [] X.env)) (star_each h2 _ X.env)) (by rw [star_each h2, star_each h3]; rfl) (star_each h3 [] X.env)) ?_
    rintro σ H R ⟨W0, W, en, rfl, ok, eo, ds, S', hd, kk⟩
    obtain ⟨d, S1, e1, e2⟩ := bnd_inv hd
    obtain ⟨i, S2, e3, e4⟩ := bnd_inv e2
    obtain ⟨rfl, rfl⟩ := isI_inv e3
    obtain ⟨d2, S3, e5, e6⟩ := bnd_inv e4
    obtain ⟨j, S4, e7, e8⟩ := bnd_inv e6
    obtain ⟨rfl, rfl⟩ := isI_inv e7
    obtain ⟨e9, e10⟩ := if_no e8
    obtain ⟨rfl, rfl⟩ := ret_inv e10
    have e9 := Bool.and_eq_true_iff.mp e9
    refine ⟨W0, W, en, rfl, ok, eo, _, _, e1, fun W1 l1 ok1 es1 v r => ?_⟩
    refine ⟨W0, W1, en, rfl, ok1, eo.le l1, _, _, by rw [es1]; exact e5, fun W2 l2 ok2 es2 v2 r2 => ?_⟩
    cases r
    cases r2
    have b := rg62 e9.1
    have c := rg62 e9.2
    exact ⟨i, j, rfl, ⟨b.1, b.2, c.1, c.2⟩, kk W2 (l1.trans l2) ok2 es2 _ (wk_rng i j e9.1 e9.2)⟩
  · cases h
theorem isTup_ok {e : Expr} (h : isTup e = true) : ∃ l j p, e = .Tuple l j p := by
  cases e <;> first | exact ⟨_, _, _, rfl⟩ | cases h
theorem i_zip {a b : E} (ha : JE g q k a) (hb : JE g q k b) : JI g q k (.zip a b) := by
  intro z X tg e G F h
  unfold chki at h
  rw [Bool.and_eq_true] at h
  obtain ⟨h0, h⟩ := h
  obtain ⟨l, j, tp, rfl⟩ := isTup_ok h0
  split at h
  · rename_i n x y hv
    obtain ⟨p, pos, rfl⟩ := vCall_ok hv
    simp only [Bool.and_eq_true, decide_eq_true_eq] at h
    obtain ⟨⟨⟨⟨⟨rfl, h1⟩, h2⟩, h3⟩, h4⟩, h5⟩ := h
    refine PI.weaken (RZ.pi_zipA (G.gb h1) (G.bl _ (by decide)) (pa_cons (ha z X x G F h4) (pa_cons (hb z X y G F h5) pa_nil (star_each h3 [] X.env)) (star_each h2 _ X.env)) (star_each h2 _ X.env) (star_any pos X.env (by simp [h3]))) ?_
    rintro σ H R ⟨W0, W, en, rfl, ok, eo, ds, S', hd, kk⟩
    obtain ⟨d, S1, e1, e2⟩ := bnd_inv hd
    obtain ⟨d2, S3, e5, e6⟩ := bnd_inv e2
    obtain ⟨e7, rfl⟩ := opt_inv e6
    refine ⟨W0, W, en, rfl, ok, eo, _, _, e1, fun W1 l1 ok1 es1 v r => ?_⟩
    refine ⟨W0, W1, en, rfl, ok1, eo.le l1, _, _, by rw [es1]; exact e5, fun W2 l2 ok2 es2 v2 r2 => ?_⟩
    have r := l2.rp r
    cases r with
    | lst hx lx rx =>
      cases r2 with
      | lst hy ly ry =>
        cases e7
        exact ⟨_, _, _, _, rfl, .inl ⟨ok2.sqL hx, ok2.sqL hy, kk W2 (l1.trans l2) ok2 es2 _ (wk_zipL hx lx rx hy ry)⟩⟩
      | _ => cases e7
    | tup hx lx rx =>
      cases r2 with
      | tup hy ly ry =>
        cases e7
        exact ⟨_, _, _, _, rfl, .inr ⟨ok2.sqT hx, ok2.sqT hy, kk W2 (l1.trans l2) ok2 es2 _ (wk_zipT hx lx rx hy ry)⟩⟩
      | _ => cases e7
    | _ => cases d2 <;> cases e7
  · cases h
/-- a list that is grown at p becomes frozen -/
def Wd.fz (W : Wd) (p : Addr) (o : HO) : Wd := { W with F := upd W.F p o }
theorem ok_fz {K : PySem.W.Frag} {W : Wd} (ok : W.Ok K) {p : Addr} {o : HO} (h : W.H p = some o) (hf : W.F p = none) (hi : p ∉ W.io) : (W.fz p o).Ok K := by
  have ff : ∀ a u, W.F a = some u → upd W.F p o a = some u := fun a u e => by rw [upd_ne (ne_of_none e hf)]; exact e
  refine ⟨fun a u e => ?_, fun n fs e => ?_, ok.le, ok.nd⟩
  · have e' : upd W.F p o a = some u := e
    by_cases z : a = p
    · subst z; rw [upd_same] at e'; cases e'; exact h
    · rw [upd_ne z] at e'; exact ok.ex a u e'
  · obtain ⟨a, ho, h1, h2, h3, h4⟩ := ok.ob n fs e
    have ne : a ≠ p := fun z => hi (by rw [← z]; exact List.mem_of_getElem? h1)
    refine ⟨a, ho, h1, h2, ?_, h4.mono ff (fun _ _ h => h)⟩
    show upd W.F p o a = none
    rw [upd_ne ne]; exact h3
theorem ff_fz {W : Wd} {p : Addr} {o : HO} (hf : W.F p = none) : ∀ a u, W.F a = some u → (W.fz p o).F a = some u := fun a u e => by
  show upd W.F p o a = some u
  rw [upd_ne (ne_of_none e hf)]; exact e
/-- what lies behind W1 stays behind it when the new p is frozen, or written -/
theorem le_fz {W1 W : Wd} (l : Le W1 W) {p : Addr} {o : HO} (h : W1.H p = none) (hf : W.F p = none) : Le W1 (W.fz p o) := by
  refine ⟨fun a u e => ff_fz hf a u (l.ff a u e), l.hh, fun a u e n => ?_, l.al, l.io⟩
  show upd W.F p o a = none
  rw [upd_ne (ne_of_none e h)]; exact l.nf a u e n
def Wd.wr (W : Wd) (p : Addr) (o : HO) : Wd := { W with H := upd W.H p o }
theorem ok_wr {K : PySem.W.Frag} {W : Wd} (ok : W.Ok K) {p : Addr} {o : HO} (hf : W.F p = none) (hi : p ∉ W.io) : (W.wr p o).Ok K := by
  refine ⟨fun a u e => ?_, fun n fs e => ?_, ok.le, ok.nd⟩
  · show upd W.H p o a = some u
    have ne : a ≠ p := fun z => by rw [z] at e; rw [show W.F p = some u from e] at hf; cases hf
    rw [upd_ne ne]; exact ok.ex a u e
  · obtain ⟨a, ho, h1, h2, h3, h4⟩ := ok.ob n fs e
    have ne : a ≠ p := fun z => hi (by rw [← z]; exact List.mem_of_getElem? h1)
    refine ⟨a, ho, h1, ?_, h3, h4⟩
    show upd W.H p o a = _
    rw [upd_ne ne]; exact h2
theorem le_wr {W1 W : Wd} (l : Le W1 W) {p : Addr} {o : HO} (h : W1.H p = none) : Le W1 (W.wr p o) := by
  refine ⟨l.ff, fun a u e n => ?_, l.nf, fun a e => ?_, l.io⟩
  · show upd W.H p o a = some u
    rw [upd_ne (ne_of_none e h)]; exact l.hh a u e n
  · have e' : upd W.H p o a = none := e
    by_cases z : a = p
    · rw [z]; exact h
    · rw [upd_ne z] at e'; exact l.al a e'
theorem Le.nio {W W' : Wd} (l : Le W W') {p : Addr} {o : HO} (h : W.H p = some o) (hi : p ∉ W.io) : p ∉ W'.io := by
  obtain ⟨m, e, n⟩ := l.io
  rw [e]
  intro hm
  rcases List.mem_append.mp hm with z | z
  · exact hi z
  · rw [n p z] at h; cases h
/-- a comprehension's turn: what the list holds so far, what is still to come -/
structure Lc (K : PySem.W.Frag) (W1 : Wd) (D : Addr) (T : Cv.D → M Bool) (Fn : Cv.D → M Cv.D) (ds ys : List Cv.D) (S' : Sto) (i : Nat) (H : Hp) (W : Wd) (acc : List V) (da : List Cv.D) : Prop where
  eq : W.H = H
  le : Le W1 W
  ok : W.Ok K
  nF : W.F D = none
  nI : D ∉ W.io
  at_ : W.H D = some (.lst acc)
  rp : W.Rps K acc da
  il : i ≤ ds.length
  sm : da.length ≤ i
  go : ∃ y2, lcM T Fn (ds.drop i) W.S = some (y2, S') ∧ da ++ y2 = ys
theorem ixB_own {N : List Str} : ∀ {own : List Nat}, (ownOf N own).map (·.2) = own := fun {own} => ownOf_ix N own
/-- an expression that gives a list no one else holds -/
def tF (K : PySem.W.Frag) (g : Cf) (c : E) : TE := fun σ H Q => ∃ W0 W en xs S', Wd.H W = H ∧ W.Ok K ∧ EnOk K W0 W en σ ∧ ev g c en W.S = some (.lst xs, S') ∧
  ∀ W1, Le W W1 → W1.Ok K → W1.S = S' → ∀ p vs, W1.H p = some (.lst vs) → W1.F p = none → p ∉ W1.io → W.H p = none → W1.Rps K vs xs → vs.length ≤ sizeLine → Q (.ref p) W1.H
/-- frozen at once -/
theorem tF_of {K : PySem.W.Frag} {c : E} (hl : ∀ en S d S', ev g c en S = some (d, S') → ∃ xs, d = .lst xs) {σ : L2.St} {H : Hp} {Q : VK} (h : tE K g c σ H Q) : tF K g c σ H Q := by
  obtain ⟨W0, W, en, rfl, ok, eo, d, S', e, kk⟩ := h
  obtain ⟨xs, rfl⟩ := hl _ _ _ _ e
  refine ⟨W0, W, en, xs, S', rfl, ok, eo, e, fun W1 l1 ok1 es1 p vs hp hF hi hn r hz => ?_⟩
  exact kk (W1.fz p (.lst vs)) (le_fz l1 hn hF) (ok_fz ok1 hp hF hi) es1 (.ref p) (.lst (.inl upd_same) hz (Reps.mono (ff_fz hF) (fun _ _ h => h) r))
theorem lc_goF {K : PySem.W.Frag} {own : List Nat} {t : Tg} {it : Wi} {c : Oe} {el : E} (h3 : (t.ix.all fun j => own.contains j) = true) : ∀ σ H Q, tF K g (.lc1 own t it c el) σ H Q →
    tLc (tI K g it) (tG K t) (fun σ H Q => At K σ H fun W en => Yl K W (evc g c en) (fun _ v d => v = d) Q) (tE K g el) own σ H Q := by
  rintro σ H Q ⟨W0, W, en, ys, S', rfl, ok, eo, hd, kk⟩
  obtain ⟨ds, S1, e1, e2⟩ := bnd_inv hd
  obtain ⟨ys0, S2, e3, e4⟩ := bnd_inv e2
  obtain ⟨hr0, hS0⟩ := ret_inv e4
  cases hr0
  subst hS0
  generalize hT : (fun d => M.bnd (M.opt (asg t d (wipeE en own))) fun en2 => evc g c en2) = T at e3
  generalize hFn : (fun d => M.bnd (M.opt (asg t d (wipeE en own))) fun en2 => ev g el en2) = Fn at e3
  refine ⟨W0, W, en, rfl, ok, eo, ds, S1, e1, fun W1 l1 ok1 es1 J wk D hD => ?_⟩
  refine ⟨fun i m H => m = ds.length - i ∧ ∃ W2 acc da, Lc K W1 D T Fn ds ys S' i H W2 acc da, ⟨ds.length, rfl, (W1.ad D (.lst [])), [], [], ?_⟩, ?_⟩
  · refine ⟨rfl, le_ad hD, ok_ad ok1 hD, ok1.fnone hD, fun hm => ?_, upd_same, .nil, Nat.zero_le _, Nat.zero_le _, ys, ?_, rfl⟩
    · obtain ⟨kv, a1, a2⟩ := ok1.alive hm
      rw [hD] at a1; cases a1
    · show lcM T Fn ds W1.S = _
      rw [es1]; exact e3
  · rintro i m H ⟨rfl, W2, acc, da, L⟩
    obtain ⟨heq, le2, ok2, nF, nI, hat, rp, il, smm, y2, eg, ey⟩ := L
    subst heq
    by_cases hlt : i < ds.length
    · refine .inr ⟨wk.go W2 i le2.lw ok2 hlt, fun H' => ∃ m', m' < ds.length - i ∧ m' = ds.length - (i + 1) ∧ ∃ W2 acc da, Lc K W1 D T Fn ds ys S' (i + 1) H' W2 acc da, fun H' ⟨m', a1, a2, a3⟩ => ⟨m', a1, a2, a3⟩, fun y H' hy => ?_⟩
      obtain ⟨W3, d, rfl, l3, ok3, es3, hd3, r3⟩ := wk.yl W2 i y H' le2.lw ok2 hlt hy
      have hdr : ds.drop i = d :: ds.drop (i + 1) := by
        rw [List.drop_eq_getElem_cons hlt]
        congr 1
        rw [List.getElem?_eq_getElem hlt] at hd3
        exact Option.some.inj hd3
      rw [hdr] at eg
      obtain ⟨b, S3, g1, g2⟩ := bnd_inv (show M.bnd (T d) (fun b => if b = true then M.bnd (Fn d) fun y => M.bnd (lcM T Fn (ds.drop (i + 1))) fun ys => M.ret (y :: ys) else lcM T Fn (ds.drop (i + 1))) W2.S = some (y2, S') from eg)
      have g1' := g1
      rw [← hT] at g1'
      obtain ⟨en2, S4, g3, g4⟩ := bnd_inv g1'
      obtain ⟨g5, rfl⟩ := opt_inv g3
      have eo3 := ((eo.le (l1.trans (le2.trans l3))).wipe own)
      refine ⟨W0, W3, wipeE en own, d, en2, rfl, ok3, eo3, r3, g5, fun σ2 eo4 hw => ⟨?_, ?_⟩⟩
      · rw [hw own (fun j hj => by simpa using List.all_eq_true.mp h3 j hj)]
        have ww : ∀ (vs ws : List Nat) (τ : L2.St), (∀ v ∈ ws, v ∈ vs) → wipe (wipe τ ws) vs = wipe τ vs := by
          intro vs ws τ
          induction ws with
          | nil => intro _; rfl
          | cons v ws ih =>
            intro hv
            show wipe ((wipe τ ws).set v none) vs = _
            rw [wipe_set (hv v List.mem_cons_self)]
            exact ih fun u hu => hv u (List.mem_cons_of_mem _ hu)
        exact ww own own σ fun _ h => h
      · refine ⟨W0, W3, en2, rfl, ok3, eo4, b, S3, by rw [es3]; exact g4, fun W4 l4 ok4 es4 b' hb => ?_⟩
        subst hb
        have hD4 : W4.H D = some (.lst acc) := l4.hh _ _ (l3.hh _ _ hat nI) (l3.nio hat nI)
        have nI4 : D ∉ W4.io := l4.nio (l3.hh _ _ hat nI) (l3.nio hat nI)
        have nF4 : W4.F D = none := l4.nf _ _ (l3.hh _ _ hat nI) (l3.nf _ _ hat nF)
        have le4 : Le W1 W4 := le2.trans (l3.trans l4)
        cases b' with
        | false =>
          refine iteF ⟨_, by omega, rfl, W4, acc, da, rfl, le4, ok4, nF4, nI4, hD4, l4.rps (l3.rps rp), hlt, by omega, y2, ?_, ey⟩
          rw [es4]; exact g2
        | true =>
          obtain ⟨dy, S5, g6, g7⟩ := bnd_inv (show M.bnd (Fn d) (fun y => M.bnd (lcM T Fn (ds.drop (i + 1))) fun ys => M.ret (y :: ys)) S3 = some (y2, S') from g2)
          obtain ⟨y3, S6, g8, g9⟩ := bnd_inv g7
          obtain ⟨rfl, rfl⟩ := ret_inv g9
          rw [← hFn] at g6
          obtain ⟨en3, S7, g10, g11⟩ := bnd_inv g6
          obtain ⟨g12, rfl⟩ := opt_inv g10
          rw [g5] at g12
          cases g12
          refine iteT ⟨W0, W4, en2, rfl, ok4, eo4.le l4, dy, S5, by rw [es4]; exact g11, fun W5 l5 ok5 es5 yv ry => ?_⟩
          have hD5 : W5.H D = some (.lst acc) := l5.hh _ _ hD4 nI4
          have nI5 : D ∉ W5.io := l5.nio hD4 nI4
          have nF5 : W5.F D = none := l5.nf _ _ hD4 nF4
          have hl : acc.length = da.length := rp.len
          have hln := wk.ln
          refine ⟨acc, hD5, by omega, _, by omega, rfl, W5.wr D (.lst (acc ++ [yv])), acc ++ [yv], da ++ [dy], rfl, le_wr (le4.trans l5) hD, ok_wr ok5 nF5 nI5, nF5, nI5, upd_same, (l5.rps (l4.rps (l3.rps rp))).app (.cons ry .nil), hlt, by rw [List.length_append]; show da.length + 1 ≤ i + 1; omega, y3, ?_, ?_⟩
          · show lcM T Fn (ds.drop (i + 1)) W5.S = _
            rw [es5]; exact g8
          · rw [List.append_assoc]; exact ey
    · have e0 : i = ds.length := by omega
      subst e0
      refine .inl ⟨wk.st W2 le2.lw ok2, ?_⟩
      rw [List.drop_length] at eg
      obtain ⟨rfl, hS⟩ := ret_inv (show M.ret [] W2.S = some (y2, S') from eg)
      rw [List.append_nil] at ey
      subst ey
      have hz : acc.length ≤ sizeLine := by
        have := rp.len
        have := wk.ln
        omega
      exact kk W2 (l1.trans le2) ok2 hS.symm D acc hat nF nI (l1.al _ hD) rp hz
theorem lc_lst {own : List Nat} {t : Tg} {it : Wi} {c : Oe} {el : E} : ∀ en S d S', ev g (.lc1 own t it c el) en S = some (d, S') → ∃ xs, d = .lst xs := by
  intro en S d S' h
  obtain ⟨ds, S1, _, e2⟩ := bnd_inv h
  obtain ⟨ys, S2, _, e4⟩ := bnd_inv e2
  exact ⟨ys, (ret_inv e4).1⟩
theorem lc_go {K : PySem.W.Frag} {own : List Nat} {t : Tg} {it : Wi} {c : Oe} {el : E} (h3 : (t.ix.all fun j => own.contains j) = true) : ∀ σ H Q, tE K g (.lc1 own t it c el) σ H Q →
    tLc (tI K g it) (tG K t) (fun σ H Q => At K σ H fun W en => Yl K W (evc g c en) (fun _ v d => v = d) Q) (tE K g el) own σ H Q :=
  fun σ H Q h => lc_goF h3 σ H Q (tF_of lc_lst h)
/-- .. and is told as it is -/
def JF (g : Cf) (q : Ck) (k : Nat) (c : E) : Prop := ∀ (z : Zs) (X : Cx) (e : Expr), Gd q z X → Fs g q k X → chk q c z e = true → PE X e (tF X.K g c)
theorem JF.e {c : E} (h : JF g q k c) (hl : ∀ en S d S', ev g c en S = some (d, S') → ∃ xs, d = .lst xs) : JE g q k c := fun z X e G F hc => PE.weaken (h z X e G F hc) fun _ _ _ t => tF_of hl t
theorem f_lc1 {own : List Nat} {t : Tg} {it : Wi} {c : Oe} {el : E} (hi : JI g q k it) (hc : JC g q k c) (he : JE g q k el) : JF g q k (.lc1 own t it c el) := by
  intro z X e G F h
  unfold chk at h
  split at h
  · rename_i x tg i ifs s p hv
    cases vLc1_ok hv
    simp only [Bool.and_eq_true] at h
    obtain ⟨⟨⟨⟨⟨⟨h1, h2⟩, h3⟩, h4⟩, h5⟩, h6⟩, h7⟩ := h
    have blk := blkOk_by (N := X.N) (sc := X.env.scope) (scope := s) (own := ownOf q.N own) (by rw [G.N, G.sc]; exact h1)
    have rule := pe_lc (pos := p) (elt := x) (ifs := ifs) (te := tE X.K g el) (tt := fun σ H Q => At X.K σ H fun W en => Yl X.K W (evc g c en) (fun _ v d => v = d) Q) (g := tG X.K t) (wi := tI X.K g it) G.calm G.nd (hi z X tg i G F h4) blk (fun s0 H0 C cl fp => pg_tg (G.blk s0 H0 s C cl fp) t tg h5)
      (fun s0 H0 C cl fp => hc _ _ ifs (G.blk s0 H0 s C cl fp) (F.blk s0 H0 s _ fp) h6) (fun s0 H0 C cl fp => he _ _ x (G.blk s0 H0 s C cl fp) (F.blk s0 H0 s _ fp) h7) (noSet_ok h2 X.env)
    rw [ownOf_ix] at rule
    exact PE.weaken rule (lc_goF h3)
  · cases h
theorem e_lc1 {own : List Nat} {t : Tg} {it : Wi} {c : Oe} {el : E} (hi : JI g q k it) (hc : JC g q k c) (he : JE g q k el) : JE g q k (.lc1 own t it c el) := (f_lc1 hi hc he).e lc_lst
/-! ### two clauses -/
theorem asg_own : ∀ {t : Tg} {d : Cv.D} {en en2 : En} {i : Nat} {x : Ow}, asg t d en = some en2 → en2[i]? = some (.own x) → en[i]? = some (.own x)
  | .nm j, d, en, en2, i, x, h, h2 => by
    unfold asg at h
    split at h
    · cases h
      unfold setV at h2
      by_cases z : j = i
      · subst z
        rename_i hl
        rw [get_set_eq hl] at h2; cases h2
      · rwa [List.getElem?_set_ne z] at h2
    · cases h
  | .tp2 a b, .tup ds, en, en2, i, x, h, h2 => by
    obtain ⟨_, _, _, _, a1, a2⟩ := asg2 h
    exact asg_own a1 (asg_own a2 h2)
  | .tp3 a b c, .tup ds, en, en2, i, x, h, h2 => by
    obtain ⟨_, _, _, _, _, _, a1, a2, a3⟩ := asg3 h
    exact asg_own a1 (asg_own a2 (asg_own a3 h2))
  | .tp4 a b c e, .tup ds, en, en2, i, x, h, h2 => by
    obtain ⟨_, _, _, _, _, _, _, _, a1, a2, a3, a4⟩ := asg4 h
    exact asg_own a1 (asg_own a2 (asg_own a3 (asg_own a4 h2)))
theorem wipeE_own {en : En} {i : Nat} {x : Ow} : ∀ {own : List Nat}, (wipeE en own)[i]? = some (.own x) → en[i]? = some (.own x) ∧ i ∉ own
  | [], h => ⟨h, List.not_mem_nil⟩
  | v :: vs, h => by
    unfold wipeE at h
    by_cases z : v = i
    · subst z
      by_cases hl : v < (wipeE en vs).length
      · rw [get_set_eq hl] at h; cases h
      · rw [List.getElem?_eq_none (by rw [List.length_set]; omega)] at h; cases h
    · rw [List.getElem?_set_ne z] at h
      obtain ⟨a, b⟩ := wipeE_own h
      refine ⟨a, fun hm => ?_⟩
      rcases List.mem_cons.mp hm with e | e
      · exact z e.symm
      · exact b e
theorem wipe_get {σ : L2.St} {i : Nat} : ∀ {own : List Nat}, i ∉ own → (wipe σ own)[i]? = σ[i]?
  | [], _ => rfl
  | v :: vs, h => by
    unfold wipe
    rw [List.getElem?_set_ne (fun e => h (by rw [e]; exact List.mem_cons_self))]
    exact wipe_get fun hm => h (List.mem_cons_of_mem _ hm)
theorem wipe_wipe : ∀ (vs ws : List Nat) (τ : L2.St), (∀ v ∈ ws, v ∈ vs) → wipe (wipe τ ws) vs = wipe τ vs := by
  intro vs ws τ
  induction ws with
  | nil => intro _; rfl
  | cons v ws ih =>
    intro hv
    show wipe ((wipe τ ws).set v none) vs = _
    rw [wipe_set (hv v List.mem_cons_self)]
    exact ih fun u hu => hv u (List.mem_cons_of_mem _ hu)
theorem EnOk.wrD {K : PySem.W.Frag} {W0 W : Wd} {en : En} {σ : L2.St} {p : Addr} {o : HO} (e : EnOk K W0 W en σ) (h : ∀ (i : Nat) x, en[i]? = some (.own x) → σ[i]? ≠ some (some (.ref p))) : EnOk K W0 (W.wr p o) en σ := by
  refine ⟨e.len, e.val, fun i xs hi => ?_, e.sep⟩
  obtain ⟨a, vs, h1, h2, h3, h4, h5, h6, h7⟩ := e.own i xs hi
  refine ⟨a, vs, h1, ?_, h3, h4, h5, h6, h7⟩
  show upd W.H p o a = some _
  rw [upd_ne fun z => h i _ hi (by rw [h1, z])]
  exact h2
/-- an outer turn .. -/
structure Lc2 (K : PySem.W.Frag) (W1 : Wd) (D : Addr) (T : Cv.D → M Bool) (Fn : Cv.D → M (List Cv.D)) (ds ys : List Cv.D) (S' : Sto) (i : Nat) (H : Hp) (W : Wd) (acc : List V) (da : List Cv.D) : Prop where
  eq : W.H = H
  le : Le W1 W
  ok : W.Ok K
  nF : W.F D = none
  nI : D ∉ W.io
  at_ : W.H D = some (.lst acc)
  rp : W.Rps K acc da
  il : i ≤ ds.length
  go : ∃ y2, catM T Fn (ds.drop i) W.S = some (y2, S') ∧ da ++ y2 = ys
/-- .. and an inner one -/
structure Li (K : PySem.W.Frag) (W0 W1 W5 : Wd) (en2 : En) (σ2 : L2.St) (D : Addr) (T : Cv.D → M Bool) (Fn : Cv.D → M Cv.D) (ds ys : List Cv.D) (S' : Sto) (i : Nat) (H : Hp) (W : Wd) (acc : List V) (da : List Cv.D) : Prop where
  eq : W.H = H
  le : Le W1 W
  lw : Lw W5 W
  eo : EnOk K W0 W en2 σ2
  ok : W.Ok K
  nF : W.F D = none
  nI : D ∉ W.io
  at_ : W.H D = some (.lst acc)
  rp : W.Rps K acc da
  il : i ≤ ds.length
  go : ∃ y2, lcM T Fn (ds.drop i) W.S = some (y2, S') ∧ da ++ y2 = ys
theorem lc2_goF {K : PySem.W.Frag} {own own1 : List Nat} {t t1 : Tg} {it it1 : Wi} {c c1 : Oe} {el : E} (h3 : (t.ix.all fun j => own.contains j) = true) (h4 : (t1.ix.all fun j => own1.contains j) = true) : ∀ σ H Q, tF K g (.lc2 own t it c own1 t1 it1 c1 el) σ H Q →
    tLc2 (tI K g it) (tG K t) (fun σ H Q => At K σ H fun W en => Yl K W (evc g c en) (fun _ v d => v = d) Q) (tI K g it1) (tG K t1) (fun σ H Q => At K σ H fun W en => Yl K W (evc g c1 en) (fun _ v d => v = d) Q) (tE K g el) own own1 σ H Q := by
  rintro σ H Q ⟨W0, W, en, ys, S', rfl, ok, eo, hd, kk⟩
  obtain ⟨ds, S1, e1, e2⟩ := bnd_inv hd
  obtain ⟨ys0, S2, e3, e4⟩ := bnd_inv e2
  have e4 : (if ys0.length ≤ sizeLine then M.ret (.lst ys0) else M.no : M Cv.D) S2 = some (.lst ys, S') := e4
  split at e4
  case isFalse => cases e4
  rename_i hzz
  obtain ⟨hr0, hS0⟩ := ret_inv e4
  cases hr0
  subst hS0
  generalize hT : (fun d => M.bnd (M.opt (asg t d (wipeE en own))) fun en2 => evc g c en2) = T at e3
  generalize hFn : (fun d => M.bnd (M.opt (asg t d (wipeE en own))) fun en2 => M.bnd (evi g it1 en2) fun ds1 =>
    lcM (fun d1 => M.bnd (M.opt (asg t1 d1 (wipeE en2 own1))) fun en3 => evc g c1 en3) (fun d1 => M.bnd (M.opt (asg t1 d1 (wipeE en2 own1))) fun en3 => ev g el en3) ds1) = Fn at e3
  refine ⟨W0, W, en, rfl, ok, eo, ds, S1, e1, fun W1 l1 ok1 es1 J wk D hD => ?_⟩
  refine ⟨fun i m H => m = ds.length - i ∧ ∃ W2 acc da, Lc2 K W1 D T Fn ds ys S' i H W2 acc da, ⟨ds.length, rfl, (W1.ad D (.lst [])), [], [], ?_⟩, ?_⟩
  · refine ⟨rfl, le_ad hD, ok_ad ok1 hD, ok1.fnone hD, fun hm => ?_, upd_same, .nil, Nat.zero_le _, ys, ?_, rfl⟩
    · obtain ⟨kv, a1, a2⟩ := ok1.alive hm
      rw [hD] at a1; cases a1
    · show catM T Fn ds W1.S = _
      rw [es1]; exact e3
  · rintro i m H ⟨rfl, W2, acc, da, L⟩
    obtain ⟨heq, le2, ok2, nF, nI, hat, rp, il, y2, eg, ey⟩ := L
    subst heq
    by_cases hlt : i < ds.length
    · refine .inr ⟨wk.go W2 i le2.lw ok2 hlt, fun H' => ∃ m', m' < ds.length - i ∧ m' = ds.length - (i + 1) ∧ ∃ W2 acc da, Lc2 K W1 D T Fn ds ys S' (i + 1) H' W2 acc da, fun H' ⟨m', a1, a2, a3⟩ => ⟨m', a1, a2, a3⟩, fun y H' hy => ?_⟩
      obtain ⟨W3, d, rfl, l3, ok3, es3, hd3, r3⟩ := wk.yl W2 i y H' le2.lw ok2 hlt hy
      have hdr : ds.drop i = d :: ds.drop (i + 1) := by
        rw [List.drop_eq_getElem_cons hlt]
        congr 1
        rw [List.getElem?_eq_getElem hlt] at hd3
        exact Option.some.inj hd3
      rw [hdr] at eg
      obtain ⟨b, S3, g1, g2⟩ := bnd_inv (show M.bnd (T d) (fun b => if b = true then M.bnd (Fn d) fun ys => M.bnd (catM T Fn (ds.drop (i + 1))) fun zs => M.ret (ys ++ zs) else catM T Fn (ds.drop (i + 1))) W2.S = some (y2, S') from eg)
      have g1' := g1
      rw [← hT] at g1'
      obtain ⟨en2, S4, g3, g4⟩ := bnd_inv g1'
      obtain ⟨g5, rfl⟩ := opt_inv g3
      have eo1 := eo.le l1
      have eo3 := ((eo.le (l1.trans (le2.trans l3))).wipe own)
      refine ⟨W0, W3, wipeE en own, d, en2, rfl, ok3, eo3, r3, g5, fun σ2 eo4 hw => ?_⟩
      have hw2 : wipe σ2 own = wipe σ own := by
        rw [hw own (fun j hj => by simpa using List.all_eq_true.mp h3 j hj)]
        exact wipe_wipe own own σ fun _ h => h
      have hnd : ∀ (i : Nat) x, en2[i]? = some (.own x) → σ2[i]? ≠ some (some (.ref D)) := by
        intro i x hx hs
        obtain ⟨a1, a2⟩ := wipeE_own (asg_own g5 hx)
        have e5 : σ[i]? = σ2[i]? := by rw [← wipe_get (σ := σ) a2, ← wipe_get (σ := σ2) a2, hw2]
        cases x with
        | ol xs =>
          obtain ⟨a, vs, b1, b2, _⟩ := eo1.own i xs a1
          rw [e5, hs] at b1
          cases b1
          rw [hD] at b2; cases b2
      refine ⟨hw2, ?_⟩
      · refine ⟨W0, W3, en2, rfl, ok3, eo4, b, S3, by rw [es3]; exact g4, fun W4 l4 ok4 es4 b' hb => ?_⟩
        subst hb
        have hD4 : W4.H D = some (.lst acc) := l4.hh _ _ (l3.hh _ _ hat nI) (l3.nio hat nI)
        have nI4 : D ∉ W4.io := l4.nio (l3.hh _ _ hat nI) (l3.nio hat nI)
        have nF4 : W4.F D = none := l4.nf _ _ (l3.hh _ _ hat nI) (l3.nf _ _ hat nF)
        have le4 : Le W1 W4 := le2.trans (l3.trans l4)
        cases b' with
        | false =>
          refine iteF ⟨_, by omega, rfl, W4, acc, da, rfl, le4, ok4, nF4, nI4, hD4, l4.rps (l3.rps rp), hlt, y2, ?_, ey⟩
          rw [es4]; exact g2
        | true =>
          obtain ⟨yl, S5, g6, g7⟩ := bnd_inv (show M.bnd (Fn d) (fun ys => M.bnd (catM T Fn (ds.drop (i + 1))) fun zs => M.ret (ys ++ zs)) S3 = some (y2, S') from g2)
          obtain ⟨y3, S6, g8, g9⟩ := bnd_inv g7
          obtain ⟨rfl, rfl⟩ := ret_inv g9
          rw [← hFn] at g6
          obtain ⟨en3, S7, g10, g11⟩ := bnd_inv g6
          obtain ⟨g12, rfl⟩ := opt_inv g10
          rw [g5] at g12
          cases g12
          obtain ⟨ds1, S8, g13, g14⟩ := bnd_inv g11
          generalize hT1 : (fun d1 => M.bnd (M.opt (asg t1 d1 (wipeE en2 own1))) fun en3 => evc g c1 en3) = T1 at g14
          generalize hF1 : (fun d1 => M.bnd (M.opt (asg t1 d1 (wipeE en2 own1))) fun en3 => ev g el en3) = F1 at g14
          refine iteT ⟨W0, W4, en2, rfl, ok4, eo4.le l4, ds1, S8, by rw [es4]; exact g13, fun W5 l5 ok5 es5 J1 wk1 => ?_⟩
          have hD5 : W5.H D = some (.lst acc) := l5.hh _ _ hD4 nI4
          have nI5 : D ∉ W5.io := l5.nio hD4 nI4
          have nF5 : W5.F D = none := l5.nf _ _ hD4 nF4
          refine ⟨fun j k H => k = ds1.length - j ∧ ∃ W6 acc1 da1, Li K W0 W1 W5 en2 σ2 D T1 F1 ds1 (da ++ yl) S5 j H W6 acc1 da1, ⟨ds1.length, rfl, W5, acc, da, ?_⟩, ?_⟩
          · exact ⟨rfl, le4.trans l5, Lw.refl _, (eo4.le l4).le l5, ok5, nF5, nI5, hD5, l5.rps (l4.rps (l3.rps rp)), Nat.zero_le _, yl, by rw [es5]; exact g14, rfl⟩
          · rintro j k H ⟨rfl, W6, acc1, da1, L6⟩
            obtain ⟨heq6, le6, lw6, eo6, ok6, nF6, nI6, hD6, rp6, il6, y6, eg6, ey6⟩ := L6
            subst heq6
            by_cases hlt1 : j < ds1.length
            · refine .inr ⟨wk1.go W6 j lw6 ok6 hlt1, fun H' => ∃ k', k' < ds1.length - j ∧ k' = ds1.length - (j + 1) ∧ ∃ W6 acc1 da1, Li K W0 W1 W5 en2 σ2 D T1 F1 ds1 (da ++ yl) S5 (j + 1) H' W6 acc1 da1, fun H' ⟨m', a1, a2, a3⟩ => ⟨m', a1, a2, a3⟩, fun y H' hy => ?_⟩
              obtain ⟨W7, d1, rfl, l7, ok7, es7, hd7, r7⟩ := wk1.yl W6 j y H' lw6 ok6 hlt1 hy
              have hdr1 : ds1.drop j = d1 :: ds1.drop (j + 1) := by
                rw [List.drop_eq_getElem_cons hlt1]
                congr 1
                rw [List.getElem?_eq_getElem hlt1] at hd7
                exact Option.some.inj hd7
              rw [hdr1] at eg6
              obtain ⟨b1, S9, k1, k2⟩ := bnd_inv (show M.bnd (T1 d1) (fun b => if b = true then M.bnd (F1 d1) fun y => M.bnd (lcM T1 F1 (ds1.drop (j + 1))) fun ys => M.ret (y :: ys) else lcM T1 F1 (ds1.drop (j + 1))) W6.S = some (y6, S5) from eg6)
              have k1' := k1
              rw [← hT1] at k1'
              obtain ⟨en4, S10, k3, k4⟩ := bnd_inv k1'
              obtain ⟨k5, rfl⟩ := opt_inv k3
              have eo7 := ((eo6.le l7).wipe own1)
              refine ⟨W0, W7, wipeE en2 own1, d1, en4, rfl, ok7, eo7, r7, k5, fun σ3 eo8 hw3 => ⟨?_, ?_⟩⟩
              · rw [hw3 own1 (fun j hj => by simpa using List.all_eq_true.mp h4 j hj)]
                exact wipe_wipe own1 own1 σ2 fun _ h => h
              · refine ⟨W0, W7, en4, rfl, ok7, eo8, b1, S9, by rw [es7]; exact k4, fun W8 l8 ok8 es8 b8 hb8 => ?_⟩
                subst hb8
                have hD8 : W8.H D = some (.lst acc1) := l8.hh _ _ (l7.hh _ _ hD6 nI6) (l7.nio hD6 nI6)
                have nI8 : D ∉ W8.io := l8.nio (l7.hh _ _ hD6 nI6) (l7.nio hD6 nI6)
                have nF8 : W8.F D = none := l8.nf _ _ (l7.hh _ _ hD6 nI6) (l7.nf _ _ hD6 nF6)
                have le8 : Le W1 W8 := le6.trans (l7.trans l8)
                have lw8 : Lw W5 W8 := lw6.trans (l7.trans l8).lw
                have eo9 : EnOk K W0 W8 en2 σ2 := (eo6.le l7).le l8
                cases b8 with
                | false =>
                  refine iteF ⟨_, by omega, rfl, W8, acc1, da1, rfl, le8, lw8, eo9, ok8, nF8, nI8, hD8, l8.rps (l7.rps rp6), hlt1, y6, ?_, ey6⟩
                  rw [es8]; exact k2
                | true =>
                  obtain ⟨dy, S11, k6, k7⟩ := bnd_inv (show M.bnd (F1 d1) (fun y => M.bnd (lcM T1 F1 (ds1.drop (j + 1))) fun ys => M.ret (y :: ys)) S9 = some (y6, S5) from k2)
                  obtain ⟨y7, S12, k8, k9⟩ := bnd_inv k7
                  obtain ⟨rfl, rfl⟩ := ret_inv k9
                  rw [← hF1] at k6
                  obtain ⟨en5, S13, k10, k11⟩ := bnd_inv k6
                  obtain ⟨k12, rfl⟩ := opt_inv k10
                  rw [k5] at k12
                  cases k12
                  refine iteT ⟨W0, W8, en4, rfl, ok8, eo8.le l8, dy, S11, by rw [es8]; exact k11, fun W9 l9 ok9 es9 yv ry => ?_⟩
                  have hD9 : W9.H D = some (.lst acc1) := l9.hh _ _ hD8 nI8
                  have nI9 : D ∉ W9.io := l9.nio hD8 nI8
                  have nF9 : W9.F D = none := l9.nf _ _ hD8 nF8
                  have hl : acc1.length = da1.length := rp6.len
                  have hy1 := congrArg List.length ey
                  have hy2 := congrArg List.length ey6
                  simp only [List.length_append, List.length_cons] at hy1 hy2
                  refine ⟨acc1, hD9, by omega, _, by omega, rfl, W9.wr D (.lst (acc1 ++ [yv])), acc1 ++ [yv], da1 ++ [dy], rfl, le_wr (le8.trans l9) hD, ⟨(lw8.trans l9.lw).ff, (lw8.trans l9.lw).ix⟩, (eo9.le l9).wrD hnd, ok_wr ok9 nF9 nI9, nF9, nI9, upd_same, (l9.rps (l8.rps (l7.rps rp6))).app (.cons ry .nil), hlt1, y7, ?_, ?_⟩
                  · show lcM T1 F1 (ds1.drop (j + 1)) W9.S = _
                    rw [es9]; exact k8
                  · rw [List.append_assoc]; exact ey6
            · have e0 : j = ds1.length := by omega
              subst e0
              refine .inl ⟨wk1.st W6 lw6 ok6, ?_⟩
              rw [List.drop_length] at eg6
              obtain ⟨rfl, hS⟩ := ret_inv (show M.ret [] W6.S = some (y6, S5) from eg6)
              rw [List.append_nil] at ey6
              subst ey6
              refine ⟨_, by omega, rfl, W6, acc1, _, rfl, le6, ok6, nF6, nI6, hD6, rp6, hlt, y3, ?_, ?_⟩
              · rw [← hS]; exact g8
              · rw [List.append_assoc]; exact ey
    · have e0 : i = ds.length := by omega
      subst e0
      refine .inl ⟨wk.st W2 le2.lw ok2, ?_⟩
      rw [List.drop_length] at eg
      obtain ⟨rfl, hS⟩ := ret_inv (show M.ret [] W2.S = some (y2, S') from eg)
      rw [List.append_nil] at ey
      subst ey
      have hz : acc.length ≤ sizeLine := by
        have := rp.len
        omega
      exact kk W2 (l1.trans le2) ok2 hS.symm D acc hat nF nI (l1.al _ hD) rp hz
theorem lc2_lst {own own1 : List Nat} {t t1 : Tg} {it it1 : Wi} {c c1 : Oe} {el : E} : ∀ en S d S', ev g (.lc2 own t it c own1 t1 it1 c1 el) en S = some (d, S') → ∃ xs, d = .lst xs := by
  intro en S d S' h
  obtain ⟨ds, S1, _, e2⟩ := bnd_inv h
  obtain ⟨ys, S2, _, e4⟩ := bnd_inv e2
  have e4 : (if ys.length ≤ sizeLine then M.ret (.lst ys) else M.no : M Cv.D) S2 = some (d, S') := e4
  split at e4
  · exact ⟨ys, (ret_inv e4).1⟩
  · cases e4
theorem f_lc2 {own own1 : List Nat} {t t1 : Tg} {it it1 : Wi} {c c1 : Oe} {el : E} (hi : JI g q k it) (hc : JC g q k c) (hi1 : JI g q k it1) (hc1 : JC g q k c1) (he : JE g q k el) : JF g q k (.lc2 own t it c own1 t1 it1 c1 el) := by
  intro z X e G F h
  unfold chk at h
  split at h
  · rename_i x tg i ifs tg1 i1 ifs1 s p hv
    cases vLc2_ok hv
    simp only [Bool.and_eq_true] at h
    obtain ⟨⟨⟨⟨⟨⟨⟨⟨⟨⟨⟨⟨h1, h2⟩, h2'⟩, h3⟩, h3'⟩, hv1⟩, h4⟩, h5⟩, h6⟩, h8⟩, h9⟩, h10⟩, h7⟩ := h
    have blk := blkOk_by (N := X.N) (sc := X.env.scope) (scope := s) (own := ownOf q.N own) (by rw [G.N, G.sc]; exact h1)
    have hown : ∀ i ∈ own1, i ∈ (ownOf q.N own).map (·.2) := fun i hi => by
      obtain ⟨y, hy, e⟩ := List.any_eq_true.mp (List.all_eq_true.mp hv1 i hi)
      exact List.mem_map.mpr ⟨y, hy, by simpa using e⟩
    have rule := pe_lc2 (pos := p) (elt := x) (ifs := ifs) (ifs1 := ifs1) (vs1 := own1) (te := tE X.K g el) (tt := fun σ H Q => At X.K σ H fun W en => Yl X.K W (evc g c en) (fun _ v d => v = d) Q) (tt1 := fun σ H Q => At X.K σ H fun W en => Yl X.K W (evc g c1 en) (fun _ v d => v = d) Q)
      (g := tG X.K t) (g1 := tG X.K t1) (wi := tI X.K g it) (wi1 := tI X.K g it1) G.calm G.nd (hi z X tg i G F h4) blk hown (fun s0 H0 C cl fp => pg_tg (G.blk s0 H0 s C cl fp) t tg h5)
      (fun s0 H0 C cl fp => hc _ _ ifs (G.blk s0 H0 s C cl fp) (F.blk s0 H0 s _ fp) h6) (fun s0 H0 C cl fp => hi1 _ _ tg1 i1 (G.blk s0 H0 s C cl fp) (F.blk s0 H0 s _ fp) h8) (fun s0 H0 C cl fp => pg_tg (G.blk s0 H0 s C cl fp) t1 tg1 h9)
      (fun s0 H0 C cl fp => hc1 _ _ ifs1 (G.blk s0 H0 s C cl fp) (F.blk s0 H0 s _ fp) h10) (fun s0 H0 C cl fp => he _ _ x (G.blk s0 H0 s C cl fp) (F.blk s0 H0 s _ fp) h7) (noSet_ok h2 X.env) (fun env => noSet_ok h2' env)
    rw [ownOf_ix] at rule
    exact PE.weaken rule (lc2_goF h3 h3')
  · cases h
theorem e_lc2 {own own1 : List Nat} {t t1 : Tg} {it it1 : Wi} {c c1 : Oe} {el : E} (hi : JI g q k it) (hc : JC g q k c) (hi1 : JI g q k it1) (hc1 : JC g q k c1) (he : JE g q k el) : JE g q k (.lc2 own t it c own1 t1 it1 c1 el) := (f_lc2 hi hc hi1 hc1 he).e lc2_lst
theorem f_lst {es : Es} (hs : JA g q k es) : JF g q k (.lst es) := by
  intro z X e G F h
  unfold chk at h
  split at h
  · rename_i l hv
    obtain ⟨pos, rfl⟩ := vList_ok hv
    simp only [Bool.and_eq_true, decide_eq_true_eq] at h
    refine PE.weaken (pe_lst (hs z X l G F h.1.2 h.2)) ?_
    rintro σ H Q ⟨W0, W, en, xs, S', rfl, ok, eo, e, kk⟩
    obtain ⟨ds, S3, e3, e4⟩ := bnd_inv e
    obtain ⟨e5, rfl⟩ := ret_inv e4
    cases e5
    refine ⟨W0, W, en, rfl, ok, eo, _, _, e3, fun W1 l1 ok1 es1 vs r => ?_⟩
    have hz : vs.length ≤ sizeLine := line1000 (by rw [r.len, evs_len e3, ← chks_len h.2]; exact h.1.1)
    refine ⟨hz, fun p hp => kk (W1.ad p (.lst vs)) (l1.trans (le_ad hp)) (ok_ad ok1 hp) es1 p vs upd_same (ok1.fnone hp) (fun hm => ?_) (l1.al _ hp) r hz⟩
    obtain ⟨kv, b1, b2⟩ := ok1.alive hm
    rw [hp] at b1; cases b1
  · cases h
theorem f_add {a b : E} (ha : JE g q k a) (hb : JE g q k b) : JF g q k (.bin .add a b) := by
  intro z X e G F h
  unfold chk at h
  split at h
  · rename_i x p y hv
    obtain ⟨pos, rfl⟩ := vBin_ok hv
    simp only [Bool.and_eq_true, decide_eq_true_eq] at h
    obtain ⟨⟨rfl, h1⟩, h2⟩ := h
    refine PE.weaken (pe_op op_catL (ha z X x G F h1) (hb z X y G F h2)) ?_
    rintro σ H Q ⟨W0, W, en, xs, S', rfl, ok, eo, e, kk⟩
    obtain ⟨d1, S1, e1, e⟩ := bnd_inv e
    obtain ⟨d2, S2, e2, e⟩ := bnd_inv e
    obtain ⟨e3, rfl⟩ := opt_inv e
    refine ⟨W0, W, en, rfl, ok, eo, _, _, e1, fun W1 l1 ok1 es1 v r => ?_⟩
    refine ⟨W0, W1, en, rfl, ok1, eo.le l1, _, _, by rw [es1]; exact e2, fun W2 l2 ok2 es2 v2 r2 => ?_⟩
    have r := l2.rp r
    cases r with
    | lst hx lx rx =>
      cases r2 with
      | lst hy ly ry =>
        obtain ⟨hz, e4⟩ := ifp_some (show (if _ then some (D.lst _) else none) = some (D.lst xs) from e3)
        cases e4
        have hz2 : _ ≤ sizeLine := hz
        rw [← Reps.len rx, ← Reps.len ry] at hz2
        refine ⟨_, _, _, _, rfl, rfl, ok2.ls hx, ok2.ls hy, hz2, fun p hp => ?_⟩
        refine kk (W2.ad p (.lst _)) ((l1.trans l2).trans (le_ad hp)) (ok_ad ok2 hp) es2 p _ upd_same (ok2.fnone hp) (fun hm => ?_) ((l1.trans l2).al _ hp) (rx.app ry) (by rw [List.length_append]; exact hz2)
        obtain ⟨kv, b1, b2⟩ := ok2.alive hm
        rw [hp] at b1; cases b1
      | _ => cases e3
    | tup hx lx rx =>
      cases r2 with
      | tup hy ly ry =>
        obtain ⟨hz, e4⟩ := ifp_some (show (if _ then some (D.tup _) else none) = some (D.lst xs) from e3)
        cases e4
      | _ => cases e3
    | str i =>
      cases r2 with
      | str j =>
        obtain ⟨hz, e4⟩ := ifp_some (show (if _ then some (D.str _) else none) = some (D.lst xs) from e3)
        cases e4
      | _ => cases e3
    | _ => cases d2 <;> cases e3
  · cases h
theorem f_list {a : E} (ha : JE g q k a) : JF g q k (.b1 .list a) := by
  intro z X e G F h
  unfold chk at h
  split at h
  · rename_i n x hv
    obtain ⟨p, pos, rfl⟩ := vCall_ok hv
    simp only [Bool.and_eq_true, decide_eq_true_eq] at h
    obtain ⟨⟨⟨rfl, h1⟩, h2⟩, h3⟩ := h
    have hs := star_each h2 [] X.env
    refine PE.weaken (pe_callTy call_list_of (G.gb h1) (G.no .list) B1.list.boot (pa_cons (ha z X x G F h3) pa_nil hs) (by decide) (by decide) hs rfl) ?_
    rintro σ H Q ⟨W0, W, en, xs, S', rfl, ok, eo, e, kk⟩
    obtain ⟨d1, S1, e1, e⟩ := bnd_inv e
    obtain ⟨e3, rfl⟩ := opt_inv e
    refine ⟨W0, W, en, rfl, ok, eo, _, _, e1, fun W1 l1 ok1 es1 v r => ?_⟩
    have no : ∀ p, W1.H p = none → p ∉ W1.io := fun p hp hm => by
      obtain ⟨kv, b1, b2⟩ := ok1.alive hm
      rw [hp] at b1; cases b1
    cases r with
    | lst hx lx rx =>
      cases e3
      exact ⟨_, _, rfl, .inl (ok1.sqL hx), fun p hp => kk (W1.ad p (.lst _)) (l1.trans (le_ad hp)) (ok_ad ok1 hp) es1 p _ upd_same (ok1.fnone hp) (no p hp) (l1.al _ hp) rx lx⟩
    | tup hx lx rx =>
      cases e3
      exact ⟨_, _, rfl, .inr (ok1.sqT hx), fun p hp => kk (W1.ad p (.lst _)) (l1.trans (le_ad hp)) (ok_ad ok1 hp) es1 p _ upd_same (ok1.fnone hp) (no p hp) (l1.al _ hp) rx lx⟩
    | _ => cases e3
  · cases h
theorem e_rev {a : E} (ha : JE g q k a) : JE g q k (.rev a) := by
  intro z X e G F h
  unfold chk at h
  split at h
  · rename_i x k0 p1 p2 p3 hv
    obtain ⟨p, rfl⟩ := vSub_ok hv
    refine PE.weaken (pe_back (ha z X x G F h)) ?_
    rintro σ H Q ⟨W0, W, en, rfl, ok, eo, hy⟩
    refine at_E ok eo hy fun W1 v d l1 ok1 eo1 r1 hy1 => ?_
    obtain ⟨d3, e3, k3⟩ := yl_opt hy1
    cases r1 with
    | lst hx lx rx =>
      cases e3
      exact .inl ⟨_, _, rfl, ok1.sqL hx, fun p hp => aft_new ok1 k3 hp (rp_newL ok1 hp (by rw [List.length_reverse]; exact lx) rx.rev)⟩
    | tup hx lx rx =>
      cases e3
      exact .inr ⟨_, _, rfl, ok1.sqT hx, fun p hp => aft_new ok1 k3 hp (rp_newT ok1 hp (by rw [List.length_reverse]; exact lx) rx.rev)⟩
    | _ => cases e3
  · cases h
theorem getO_inv {n : Nat} {key : Str} {S S' : Sto} {d : D} (h : getO n key S = some (d, S')) : ∃ fs, S[n]? = some (.fl fs) ∧ look key fs = some d ∧ S' = S := by
  unfold getO at h
  split at h
  · rename_i fs hf
    cases e : look key fs with
    | none => rw [e] at h; cases h
    | some d0 =>
      rw [e] at h
      cases h
      exact ⟨fs, hf, e, rfl⟩
  · cases h
theorem e_fld {o : E} {key : Str} (ho : JE g q k o) : JE g q k (.fld o key) := by
  intro z X e G F h
  unfold chk at h
  split at h
  · rename_i x y hv
    obtain ⟨p, rfl⟩ := vSub_ok hv
    rw [Bool.and_eq_true] at h
    obtain ⟨h1, h2⟩ := h
    split at h2
    · rename_i c hc
      obtain ⟨j, pos, rfl⟩ := vConst_ok hc
      cases constB_ok h2
      refine PE.weaken (pe_dget (by have := G.un; omega) (ho z X x G F h1) pe_str (fun _ _ => rfl)) ?_
      rintro σ H Q ⟨W0, W, en, rfl, ok, eo, hy⟩
      refine at_E ok eo hy fun W1 v d l1 ok1 eo1 r1 hy1 => ?_
      obtain ⟨n, rfl, hy2⟩ := yl_isO hy1
      obtain ⟨d3, S3, e3, k3⟩ := hy2
      obtain ⟨fs, e4, e5, rfl⟩ := getO_inv e3
      cases r1 with
      | obj hn =>
        obtain ⟨a, ho, a1, a2, a3, kvs, rfl, az, an, af⟩ := ok1.ob n _ e4
        rw [hn] at a1
        cases a1
        obtain ⟨v, g1, g2⟩ := flds_look af e5
        refine ⟨_, v, rfl, ?_, aft_here ok1 k3 g2⟩
        have := DGet.k (k := (Sum.inr key : Key)) a2
        rw [g1] at this
        exact this
    · cases h2
  · cases h
def trs (K : PySem.W.Frag) (g : Cf) : List Str → Es → List (TE × TE)
  | key :: ks, .c e r => (tC (.str key), tE K g e) :: trs K g ks r
  | _, _ => []
def JP (g : Cf) (q : Ck) (k : Nat) (es : Es) : Prop := ∀ (z : Zs) (X : Cx) (pos : Pos) (ks : List Str) (kes : List (Option Expr)) (l : List Expr), Gd q z X → Fs g q k X → keyB ks kes = true → kes.length = l.length → chks q es z l = true → PPs X pos kes l (trs X.K g ks es)
theorem p_n : JP g q k .n := by
  intro z X pos ks kes l G F hk hl h
  cases l with
  | nil =>
    cases kes with
    | nil =>
      cases ks with
      | nil => exact pps_nil
      | cons => cases hk
    | cons => cases hl
  | cons => cases h
theorem p_c {a : E} {r : Es} (ha : JE g q k a) (hr : JP g q k r) : JP g q k (.c a r) := by
  intro z X pos ks kes l G F hk hl h
  cases l with
  | nil => cases h
  | cons e es =>
    have h := Bool.and_eq_true_iff.mp (show (chk q a z e && chks q r z es) = true from h)
    match kes, ks, hk with
    | some ke :: kes, key :: ks, hk =>
      have hk := Bool.and_eq_true_iff.mp (show ((match vConst ke with
        | some c => constB c key
        | none => false) && keyB ks kes) = true from hk)
      obtain ⟨hk1, hk2⟩ := hk
      split at hk1
      · rename_i c hc
        obtain ⟨j, p, rfl⟩ := vConst_ok hc
        cases constB_ok hk1
        exact pps_cons pe_str (ha z X e G F h.1) (hr z X pos ks kes es G F hk2 (by simpa using hl) h.2)
      · cases hk1
    | none :: _, [], hk => cases hk
    | none :: _, _ :: _, hk => cases hk
/-- the pairs of an object's display -/
theorem pairs_go {K : PySem.W.Frag} {W0 : Wd} {en : En} {σ : L2.St} : ∀ {es : Es} {ks : List Str} {W : Wd} {ds : List D} {S' : Sto} {Q : List (V × V) → Hp → Prop}, W.Ok K → EnOk K W0 W en σ → evs g es en W.S = some (ds, S') → ks.length = ds.length →
    (∀ W1, Le W W1 → W1.Ok K → W1.S = S' → ∀ kvs : List (Key × V), Flds K W1.F W1.io (zipKs ks ds) kvs → Q (kvs.map fun kv => (kV kv.1, kv.2)) W1.H) → tPairs (trs K g ks es) σ W.H Q
  | .n, ks, W, ds, S', Q, ok, eo, h, hl, kk => by
    obtain ⟨rfl, rfl⟩ := ret_inv h
    cases ks with
    | nil => exact kk W (Le.refl _) ok rfl [] .nil
    | cons => cases hl
  | .c a r, [], W, ds, S', Q, ok, eo, h, hl, kk => by
    obtain ⟨x, S1, _, h⟩ := bnd_inv h
    obtain ⟨xs, S2, h2, h⟩ := bnd_inv h
    obtain ⟨rfl, _⟩ := ret_inv h
    cases hl
  | .c a r, key :: ks, W, ds, S', Q, ok, eo, h, hl, kk => by
    obtain ⟨x, S1, h1, h⟩ := bnd_inv h
    obtain ⟨xs, S2, h2, h⟩ := bnd_inv h
    obtain ⟨h3, h4⟩ := ret_inv h
    subst h3 h4
    refine ⟨W0, W, en, rfl, ok, eo, x, S1, h1, fun W1 l1 ok1 es1 v rv => ?_⟩
    refine pairs_go ok1 (eo.le l1) (by rw [es1]; exact h2) (by simpa using hl) fun W2 l2 ok2 es2 kvs fl => ?_
    exact kk W2 (l1.trans l2) ok2 es2 ((Sum.inr key, v) :: kvs) (.cons (l2.rp rv) fl)
theorem zipKs_keys : ∀ {ks : List Str} {ds : List D}, ks.length = ds.length → (zipKs ks ds).map (·.1) = ks
  | [], [], _ => rfl
  | [], _ :: _, h => nomatch h
  | _ :: _, [], h => nomatch h
  | k :: ks, d :: ds, h => by
    show k :: (zipKs ks ds).map (·.1) = _
    rw [zipKs_keys (by simpa using h)]
theorem nodup_inr : ∀ {l : List Str}, l.Nodup → (l.map fun s => (Sum.inr s : Key)).Nodup
  | [], _ => List.nodup_nil
  | x :: xs, h => by
    rw [List.nodup_cons] at h
    rw [List.map_cons, List.nodup_cons]
    refine ⟨fun hm => ?_, nodup_inr h.2⟩
    obtain ⟨y, hy, e⟩ := List.mem_map.mp hm
    cases e
    exact h.1 hy
theorem keyB_len : ∀ {ks : List Str} {kes : List (Option Expr)}, keyB ks kes = true → ks.length = kes.length ∧ kes.all (·.isSome) = true
  | [], [], _ => ⟨rfl, rfl⟩
  | [], _ :: _, h => nomatch h
  | k :: ks, some e :: es, h => by
    obtain ⟨h1, h2⟩ := keyB_len (Bool.and_eq_true_iff.mp (show (_ && keyB ks es) = true from h)).2
    exact ⟨by rw [List.length_cons, List.length_cons, h1], by rw [List.all_cons, h2]; rfl⟩
  | k :: ks, none :: es, h => nomatch h
  | _ :: _, [], h => nomatch h
theorem e_mko {ks : List Str} {es : Es} (hs : JP g q k es) : JE g q k (.mko ks es) := by
  intro z X e G F h
  unfold chk at h
  split at h
  · rename_i kes l hv
    obtain ⟨pos, rfl⟩ := vDict_ok hv
    simp only [Bool.and_eq_true, decide_eq_true_eq] at h
    obtain ⟨⟨⟨⟨⟨⟨h1, h2⟩, h3⟩, h4⟩, h5⟩, h6⟩, h7⟩ := h
    obtain ⟨kl, ka⟩ := keyB_len h1
    refine PE.weaken (pe_disp (hs z X pos ks kes l G F h1 h2 h7) ka h2 (fun e => by subst e; simp at h3) h4) ?_
    rintro σ H Q ⟨W0, W, en, rfl, ok, eo, d, S', hd, kk⟩ p hp
    obtain ⟨ds, S1, e1, e2⟩ := bnd_inv hd
    have hl := evs_len e1
    have hl2 := chks_len h7
    have hkl : ks.length = ds.length := by omega
    have e3 : some (D.obj S1.length, S1 ++ [.fl (zipKs ks ds)]) = some (d, S') := e2
    cases e3
    have okp := ok_ad ok hp (o := .dK [])
    have lp := le_ad hp (o := .dK [])
    refine pairs_go (W := W.ad p (.dK [])) (ds := ds) (S' := S1) okp (eo.le lp) e1 hkl fun W1 l1 ok1 es1 kvs fl => ?_
    have np : p ∉ W.io := fun hm => by
      obtain ⟨kv, a1, a2⟩ := ok.alive hm
      rw [hp] at a1; cases a1
    have hp1 : (W.ad p (.dK [])).H p = some (.dK []) := upd_same
    have np1 : p ∉ W1.io := l1.nio hp1 np
    have nF1 : W1.F p = none := l1.nf _ _ hp1 (ok.fnone hp)
    have at1 := l1.hh _ _ hp1 np
    have kn : (kvs.map (·.1)).Nodup := by
      rw [flds_keys fl]
      have := nodup_inr h5
      rw [← zipKs_keys hkl, List.map_map] at this
      exact this
    have kz : kvs.length ≤ 15 := by
      have := congrArg List.length (flds_keys fl)
      rw [List.length_map, List.length_map] at this
      have h9 := congrArg List.length (zipKs_keys hkl)
      rw [List.length_map] at h9
      omega
    refine ⟨at1, kvs, rfl, kz, ?_⟩
    rw [merge_nd kvs [] kn (fun _ _ => rfl), List.nil_append]
    have okn := ok_nw ok1 (fs := .fl (zipKs ks ds)) (ho := .dK kvs) nF1 np1 ⟨kvs, rfl, by omega, by rw [zipKs_keys hkl]; exact h5, fl⟩
    have len : S1.length = W1.io.length := by rw [← es1]; exact ok1.le
    refine kk (W1.nw p (.fl (zipKs ks ds)) (.dK kvs)) ?_ okn (by show W1.S ++ _ = _; rw [es1]) (.ref p) (.obj ?_)
    · refine ⟨fun a o e => l1.ff a o e, fun a o e hn => ?_, fun a o e n => ?_, fun a e => ?_, ?_⟩
      · show upd W1.H p _ a = some o
        have ne : a ≠ p := ne_of_none e hp
        rw [upd_ne ne]
        exact (lp.trans l1).hh a o e hn
      · exact (lp.trans l1).nf a o e n
      · have e' : upd W1.H p (.dK kvs) a = none := e
        by_cases z : a = p
        · rw [z]; exact hp
        · rw [upd_ne z] at e'
          exact (lp.trans l1).al a e'
      · obtain ⟨m, em, hm⟩ := (lp.trans l1).io
        refine ⟨m ++ [p], by show W1.io ++ [p] = _; rw [em, List.append_assoc], fun a ha => ?_⟩
        rcases List.mem_append.mp ha with z | z
        · exact hm a z
        · rw [List.mem_singleton.mp z]; exact hp
    · show (W1.io ++ [p])[S1.length]? = some p
      rw [len, List.getElem?_append_right (Nat.le_refl _)]
      simp
  · cases h

theorem getI_inv {n i : Nat} {S S' : Sto} {d : D} (h : getI n i S = some (d, S')) : ∃ ds, S[n]? = some (.cel ds) ∧ ds[i]? = some d ∧ S' = S := by
  unfold getI at h
  split at h
  · rename_i ds hf
    cases e : ds[i]? with
    | none => rw [e] at h; cases h
    | some d0 =>
      rw [e] at h
      cases h
      exact ⟨ds, hf, e, rfl⟩
  · cases h
theorem e_fldi {o : E} {i : Nat} (ho : JE g q k o) : JE g q k (.fldi o i) := by
  intro z X e G F h
  unfold chk at h
  split at h
  · rename_i x y hv
    obtain ⟨p, rfl⟩ := vSub_ok hv
    rw [Bool.and_eq_true] at h
    obtain ⟨h1, h2⟩ := h
    split at h2
    · rename_i j hc
      obtain ⟨j0, pos, rfl⟩ := vConst_ok hc
      cases of_decide_eq_true h2
      refine PE.weaken (pe_ix ix_list (ho z X x G F h1) pe_int (plainIx rfl)) ?_
      rintro σ H Q ⟨W0, W, en, rfl, ok, eo, hy⟩
      refine at_E ok eo hy fun W1 v d l1 ok1 eo1 r1 hy1 => ?_
      obtain ⟨n, rfl, hy2⟩ := yl_isO hy1
      obtain ⟨d3, S3, e3, k3⟩ := hy2
      obtain ⟨ds, e4, e5, rfl⟩ := getI_inv e3
      cases r1 with
      | obj hn =>
        obtain ⟨a, ho, a1, a2, a3, vs, rfl, az, ar⟩ := ok1.ob n _ e4
        rw [hn] at a1
        cases a1
        obtain ⟨v, g1, g2⟩ := Reps.get ar e5
        exact ⟨_, vs, (i : Int), v, rfl, rfl, .inl (.inl a2), atI_nat g1, aft_here ok1 k3 g2⟩
    · cases h2
  · cases h
/-- an object comes to be at p -/
theorem le_nw {W W1 : Wd} {p : Addr} {u : Ob} {ho : HO} (l1 : Le W W1) (hp : W.H p = none) : Le W (W1.nw p u ho) := by
  refine ⟨fun a o e => l1.ff a o e, fun a o e hn => ?_, fun a o e n => l1.nf a o e n, fun a e => ?_, ?_⟩
  · show upd W1.H p _ a = some o
    have ne : a ≠ p := ne_of_none e hp
    rw [upd_ne ne]
    exact l1.hh a o e hn
  · have e' : upd W1.H p ho a = none := e
    by_cases z : a = p
    · rw [z]; exact hp
    · rw [upd_ne z] at e'
      exact l1.al a e'
  · obtain ⟨m, em, hm⟩ := l1.io
    refine ⟨m ++ [p], by show W1.io ++ [p] = _; rw [em, List.append_assoc], fun a ha => ?_⟩
    rcases List.mem_append.mp ha with z | z
    · exact hm a z
    · rw [List.mem_singleton.mp z]; exact hp
theorem e_mkl {es : Es} (hs : JA g q k es) : JE g q k (.mkl es) := by
  intro z X e G F h
  unfold chk at h
  split at h
  · rename_i l hv
    obtain ⟨pos, rfl⟩ := vList_ok hv
    simp only [Bool.and_eq_true, decide_eq_true_eq] at h
    refine PE.weaken (pe_lst (hs z X l G F h.1.2 h.2)) ?_
    rintro σ H Q ⟨W0, W, en, rfl, ok, eo, hy⟩
    refine at_Es ok eo hy fun W2 vs ds l2 ok2 eo2 r2 hl hy2 => ?_
    have hz : vs.length ≤ 1000 := by rw [hl, ← chks_len h.2]; exact h.1.1
    refine ⟨line1000 hz, fun p hp => ?_⟩
    obtain ⟨d, S', e3, kk⟩ := hy2
    have e3 : some (D.obj W2.S.length, W2.S ++ [.cel ds]) = some (d, S') := e3
    cases e3
    have np : p ∉ W2.io := fun hm => by
      obtain ⟨kv, a1, a2⟩ := ok2.alive hm
      rw [hp] at a1; cases a1
    refine kk (W2.nw p (.cel ds) (.lst vs)) (le_nw (Le.refl _) hp) (ok_nw ok2 (ok2.fnone hp) np ⟨vs, rfl, hz, r2⟩) rfl (.ref p) (.obj ?_)
    show (W2.io ++ [p])[W2.S.length]? = some p
    rw [ok2.le, List.getElem?_append_right (Nat.le_refl _)]
    simp
  · cases h
mutual
theorem all_E : ∀ c : E, JE g q k c
  | .var _ => e_var
  | .glo _ => e_glo
  | .int _ => e_int
  | .str _ => e_str
  | .bl _ => e_bl
  | .non => e_non
  | .tup es => e_tup (all_A es)
  | .lst es => e_lst (all_A es)
  | .bin _ a b => e_bin (all_E a) (all_E b)
  | .neg a => e_neg (all_E a)
  | .cmp _ a b => e_cmp (all_E a) (all_E b)
  | .chn _ _ a b c => e_chn (all_E a) (all_E b) (all_E c)
  | .and a b => e_and (all_E a) (all_E b)
  | .or a b => e_or (all_E a) (all_E b)
  | .not a => e_not (all_E a)
  | .ife c a b => e_ife (all_T c) (all_E a) (all_E b)
  | .idx a i => e_idx (all_E a) (all_E i)
  | .sli a lo hi => e_sli (all_E a) (all_O lo) (all_O hi)
  | .rev a => e_rev (all_E a)
  | .isi a _ => e_isi (all_E a)
  | .b1 _ a => e_b1 (all_E a)
  | .m0 _ a => e_m0 (all_E a)
  | .call _ es => e_call (all_A es)
  | .lc1 _ _ it c e => e_lc1 (all_I it) (all_C c) (all_E e)
  | .lc2 _ _ it c _ _ it1 c1 e => e_lc2 (all_I it) (all_C c) (all_I it1) (all_C c1) (all_E e)
  | .fld o _ => e_fld (all_E o)
  | .mko _ es => e_mko (all_P es)
  | .fldi o _ => e_fldi (all_E o)
  | .mkl es => e_mkl (all_A es)
theorem all_T : ∀ c : E, JT g q k c
  | .cmp _ a b => t_cmp (all_E a) (all_E b)
  | .chn _ _ a b c => t_chn (all_E a) (all_E b) (all_E c)
  | .and a b => t_and (all_T a) (all_T b)
  | .or a b => t_or (all_T a) (all_T b)
  | .not a => t_not (all_T a)
  | .var _ => t_var
  | .bl _ => t_bl
  | .isi a _ => t_isi (all_E a)
  | .b1 _ a => t_b1 (all_E a)
  | .call _ es => t_call (all_A es)
  | .glo _ => fun _ _ _ _ _ h => nomatch h
  | .int _ => fun _ _ _ _ _ h => nomatch h
  | .str _ => fun _ _ _ _ _ h => nomatch h
  | .non => fun _ _ _ _ _ h => nomatch h
  | .tup _ => fun _ _ _ _ _ h => nomatch h
  | .lst _ => fun _ _ _ _ _ h => nomatch h
  | .bin _ _ _ => fun _ _ _ _ _ h => nomatch h
  | .neg _ => fun _ _ _ _ _ h => nomatch h
  | .ife _ _ _ => fun _ _ _ _ _ h => nomatch h
  | .idx _ _ => fun _ _ _ _ _ h => nomatch h
  | .sli _ _ _ => fun _ _ _ _ _ h => nomatch h
  | .rev _ => fun _ _ _ _ _ h => nomatch h
  | .m0 _ _ => fun _ _ _ _ _ h => nomatch h
  | .lc1 _ _ _ _ _ => fun _ _ _ _ _ h => nomatch h
  | .lc2 _ _ _ _ _ _ _ _ _ => fun _ _ _ _ _ h => nomatch h
  | .fld _ _ => fun _ _ _ _ _ h => nomatch h
  | .mko _ _ => fun _ _ _ _ _ h => nomatch h
  | .fldi _ _ => fun _ _ _ _ _ h => nomatch h
  | .mkl _ => fun _ _ _ _ _ h => nomatch h
theorem all_A : ∀ c : Es, JA g q k c
  | .n => a_n
  | .c e r => a_c (all_E e) (all_A r)
theorem all_P : ∀ c : Es, JP g q k c
  | .n => p_n
  | .c e r => p_c (all_E e) (all_P r)
theorem all_O : ∀ c : Oe, JO g q k c
  | .n => o_n
  | .s e => o_s (all_E e)
theorem all_C : ∀ c : Oe, JC g q k c
  | .n => c_n
  | .s e => c_s (all_T e)
theorem all_I : ∀ c : Wi, JI g q k c
  | .sq e => i_sq (all_E e)
  | .rg1 e => i_rg1 (all_E e)
  | .rg2 a b => i_rg2 (all_E a) (all_E b)
  | .zip a b => i_zip (all_E a) (all_E b)
end
end
end Cv

/-! Cv11: statements. -/
namespace Cv
open PySem PySem.Spec PyProof.Rows L2

/-! ### views -/
def vAsg : Stmt → Option (Expr × Expr × Pos)
  | .Assign [t] v p => some (t, v, p)
  | _ => none
theorem vAsg_ok {s : Stmt} {t v : Expr} {p : Pos} (h : vAsg s = some (t, v, p)) : s = .Assign [t] v p := by
  unfold vAsg at h
  split at h
  · cases h; rfl
  · cases h
def vEx : Stmt → Option Expr
  | .Expr e _ => some e
  | _ => none
theorem vEx_ok {s : Stmt} {e : Expr} (h : vEx s = some e) : ∃ p, s = .Expr e p := by
  cases s <;> first | (cases h; done) | (cases h; exact ⟨_, rfl⟩)
def vRet : Stmt → Option (Option Expr)
  | .Return e _ => some e
  | _ => none
theorem vRet_ok {s : Stmt} {e : Option Expr} (h : vRet s = some e) : ∃ p, s = .Return e p := by
  cases s <;> first | (cases h; done) | (cases h; exact ⟨_, rfl⟩)
def vIfS : Stmt → Option (Expr × List Stmt × List Stmt)
  | .If c a b _ => some (c, a, b)
  | _ => none
theorem vIfS_ok {s : Stmt} {c : Expr} {a b : List Stmt} (h : vIfS s = some (c, a, b)) : ∃ p, s = .If c a b p := by
  cases s <;> first | (cases h; done) | (cases h; exact ⟨_, rfl⟩)
def vWhl : Stmt → Option (Expr × List Stmt)
  | .While c a [] _ => some (c, a)
  | _ => none
theorem vWhl_ok {s : Stmt} {c : Expr} {a : List Stmt} (h : vWhl s = some (c, a)) : ∃ p, s = .While c a [] p := by
  unfold vWhl at h
  split at h
  · cases h; exact ⟨_, rfl⟩
  · cases h
def vFor : Stmt → Option (Expr × Expr × List Stmt)
  | .For t i a [] _ => some (t, i, a)
  | _ => none
theorem vFor_ok {s : Stmt} {t i : Expr} {a : List Stmt} (h : vFor s = some (t, i, a)) : ∃ p, s = .For t i a [] p := by
  unfold vFor at h
  split at h
  · cases h; exact ⟨_, rfl⟩
  · cases h
def isPass : Stmt → Bool
  | .Pass _ => true
  | .Expr (.Constant (.str _) _ _) _ => true
  | _ => false
def isBrk : Stmt → Bool
  | .Break _ => true
  | _ => false
theorem isBrk_ok {s : Stmt} (h : isBrk s = true) : ∃ p, s = .Break p := by
  cases s <;> first | (cases h; done) | exact ⟨_, rfl⟩
def isCt : Stmt → Bool
  | .Continue _ => true
  | _ => false
theorem isCt_ok {s : Stmt} (h : isCt s = true) : ∃ p, s = .Continue p := by
  cases s <;> first | (cases h; done) | exact ⟨_, rfl⟩
/-- x.append(e) -/
def vApp : Expr → Option (Str × Expr × Pos × Pos)
  | .Call (.Attribute (.Name x _) m p1) [e] [] p2 => if m = "append" then some (x, e, p1, p2) else none
  | _ => none
theorem vApp_ok {c e : Expr} {x : Str} {p1 p2 : Pos} (h : vApp c = some (x, e, p1, p2)) : ∃ p0, c = .Call (.Attribute (.Name x p0) "append" p1) [e] [] p2 := by
  unfold vApp at h
  split at h
  · split at h
    · rename_i e; subst e; cases h; exact ⟨_, rfl⟩
    · cases h
  · cases h
/-- x.extend(e) -/
def vExt : Expr → Option (Str × Expr × Pos × Pos)
  | .Call (.Attribute (.Name x _) m p1) [e] [] p2 => if m = "extend" then some (x, e, p1, p2) else none
  | _ => none
theorem vExt_ok {c e : Expr} {x : Str} {p1 p2 : Pos} (h : vExt c = some (x, e, p1, p2)) : ∃ p0, c = .Call (.Attribute (.Name x p0) "extend" p1) [e] [] p2 := by
  unfold vExt at h
  split at h
  · split at h
    · rename_i e; subst e; cases h; exact ⟨_, rfl⟩
    · cases h
  · cases h
/-- it gives a list no one else holds -/
def isFr : E → Bool
  | .lst _ => true
  | .bin .add _ _ => true
  | .b1 .list _ => true
  | .lc1 _ _ _ _ _ => true
  | .lc2 _ _ _ _ _ _ _ _ _ => true
  | _ => false
/-- no swapping of stores -/
def noSwap (tg v : Expr) : Bool := match tg, v with
  | .Tuple ts _ _, .Tuple vs _ _ => ts.any (fun t => (vName t).isNone) || vs.all (foldedForSure 8) || decide (3 < ts.length)
  | .Tuple _ _ _, _ => true
  | .Name _ _, _ => true
  | _, _ => false
theorem filt_len {env : Env} {line : Nat} : ∀ {ts : List Expr}, (ts.filterMap fun
    | .Name id pos => if env.kindOf id == some .local && pos.line == line then some id else none
    | _ => none).length ≤ ts.length ∧ (ts.any (fun t => (vName t).isNone) = true → (ts.filterMap fun
    | .Name id pos => if env.kindOf id == some .local && pos.line == line then some id else none
    | _ => none).length < ts.length)
  | [] => ⟨Nat.le_refl _, fun h => nomatch h⟩
  | t :: ts => by
    obtain ⟨h1, h2⟩ := filt_len (env := env) (line := line) (ts := ts)
    rw [List.filterMap_cons]
    split
    · rename_i hn
      refine ⟨by rw [List.length_cons]; omega, fun _ => by rw [List.length_cons]; omega⟩
    · rename_i b hb
      refine ⟨by rw [List.length_cons, List.length_cons]; omega, fun h => ?_⟩
      rw [List.any_cons] at h
      cases t with
      | Name id pos =>
        have := h2 (by simpa [vName] using h)
        rw [List.length_cons, List.length_cons]; omega
      | _ => cases hb
theorem noSwap_ok {tg v : Expr} {env : Env} (h : noSwap tg v = true) : swappedStores [tg] v env = pure none := by
  unfold noSwap at h
  split at h
  · rename_i ts _ _ vs _ _
    unfold swappedStores
    simp only [Bool.or_eq_true, decide_eq_true_eq] at h
    simp only []
    split
    · rfl
    · rename_i c1
      split
      · rfl
      · split
        · rfl
        · rename_i c3
          split
          · rfl
          · rename_i c4
            exfalso
            rcases h with (h | h) | h
            · have := (filt_len (env := env) (line := (ts.head?.map (·.pos.line)).getD 0) (ts := ts)).2 h
              apply c3
              simp only [Bool.or_eq_true, bne_iff_ne]
              exact .inl (Nat.ne_of_lt this)
            · exact c4 h
            · apply c1
              simp only [Bool.or_eq_true, Bool.not_eq_true', Bool.or_eq_false_iff, beq_eq_false_iff_ne]
              exact .inl (.inl ⟨by omega, by omega⟩)
  · rename_i hx
    unfold swappedStores
    cases v <;> first | rfl | exact (hx _ _ _ rfl).elim
  · rfl
  · cases h

def locB (sc : Scope) (x : Str) : Bool := match sc.names.lookup x with
  | some .local => true
  | _ => false
theorem locB_ok {sc : Scope} {x : Str} (h : locB sc x = true) : sc.names.lookup x = some .local := by
  unfold locB at h
  split at h
  · assumption
  · cases h
theorem locB_no {sc : Scope} {x : Str} (h : locB sc x = false) : (sc.names.lookup x == some .local) = false := by
  unfold locB at h
  split at h
  · cases h
  · rename_i hn
    cases e : sc.names.lookup x with
    | none => rfl
    | some q => cases q <;> first | rfl | exact (hn e).elim
def fnB (sc : Scope) : Bool := match sc.kind with
  | .function => true
  | _ => false
theorem fnB_ok {sc : Scope} (h : fnB sc = true) : sc.kind = .function := by
  unfold fnB at h
  split at h
  · assumption
  · cases h
/-- a comprehension that is laid before the name is stored is none of these -/
def swOff (sc : Scope) (tg v : Expr) : Bool := noComp v || match vName tg with
  | some x => !locB sc x
  | none => true
theorem swOff_ok {env : Env} {tg v : Expr} {l : Nat} (h : swOff env.scope tg v = true) : swapsWithSole [tg] v l env = pure false := by
  show swapsWith v (some tg) l env = pure false
  unfold swOff at h
  rcases Bool.or_eq_true_iff.mp h with h0 | h0
  · exact noComp_sw h0 _ _ _
  · split at h0
    · rename_i x hx
      obtain ⟨p, rfl⟩ := vName_ok hx
      have hl : (env.kindOf x == some .local) = false := locB_no (by simpa using h0)
      cases v <;> first
        | rfl
        | (unfold swapsWith; simp only [hl, Bool.and_false, Bool.false_and]; done)
        | (unfold swapsWith; simp only [hl, Bool.and_false, Bool.false_and]; rfl)
    · rename_i hn
      cases tg <;> first
        | (cases hn; done)
        | (cases v <;> rfl)
/-- laid before the name is stored -/
def swOn (sc : Scope) (x : Str) (px : Pos) (s : Scope) (p : Pos) : Bool := fnB sc && locB sc x && (px.line == p.line) && !(s.names.any fun (n, k) => n == x && (k == .local || k == .cell))
def parN : List Expr → List Str
  | .Name x _ :: r => x :: parN r
  | _ :: r => parN r
  | [] => []
def parB (q : Ck) (sc : Scope) (line : Nat) : List Nat → List Expr → Bool
  | [], [] => true
  | i :: is, .Name x p :: r => ixB q.N i x && locB sc x && (p.line == line) && parB q sc line is r
  | _, _ => false
mutual
def chkS (q : Ck) : S → Zs → Stmt → Bool
  | .set t e, z, s => (match vAsg s with
    | some (tg, v, _) => chkG q z t tg && chk q e z v && swOff z.sc tg v && noSwap tg v && noStar tg
    | none => false)
  | .setc i e, z, s => (match e with
    | .lc1 own t it c el => (match vAsg s with
      | some (.Name y py, v, _) => (match vLc1 v with
        | some (x, tg, i0, ifs, s0, p) => swOn z.sc y py s0 p && ixB q.N i y && blkC q.N z.sc s0 (ownOf q.N own) && noSet i0 && (t.ix.all fun j => own.contains j) && chki q it z tg i0 &&
            chkG q ⟨relS s0 z.sc, some s0⟩ t tg && chkc q c ⟨relS s0 z.sc, some s0⟩ ifs && chk q el ⟨relS s0 z.sc, some s0⟩ x
        | none => false)
      | _ => false)
    | .lc2 own t it c own1 t1 it1 c1 el => (match vAsg s with
      | some (.Name y py, v, _) => (match vLc2 v with
        | some (x, (tg, i0, ifs), (tg1, i1, ifs1), s0, p) => swOn z.sc y py s0 p && ixB q.N i y && blkC q.N z.sc s0 (ownOf q.N own) && noSet i0 && noSet i1 && (t.ix.all fun j => own.contains j) && (t1.ix.all fun j => own1.contains j) && (own1.all fun j => (ownOf q.N own).any fun y => y.2 == j) && chki q it z tg i0 &&
            chkG q ⟨relS s0 z.sc, some s0⟩ t tg && chkc q c ⟨relS s0 z.sc, some s0⟩ ifs && chki q it1 ⟨relS s0 z.sc, some s0⟩ tg1 i1 && chkG q ⟨relS s0 z.sc, some s0⟩ t1 tg1 && chkc q c1 ⟨relS s0 z.sc, some s0⟩ ifs1 && chk q el ⟨relS s0 z.sc, some s0⟩ x
        | none => false)
      | _ => false)
    | _ => false)
  | .par i j a b, z, s => (match vAsg s with
    | some (.Tuple ts _ _, .Tuple vs _ _, _) => parB q z.sc ((ts.head?.map (·.pos.line)).getD 0) [i, j] ts && decide (i ≠ j) && fnB z.sc && !(vs.all (foldedForSure 8)) && !(vs.all (constantsAlone 8)) && vs.all noStar && chks q (.c a (.c b .n)) z vs
    | _ => false)
  | .paro i j oa ob a b, z, s => (match vAsg s with
    | some (.Tuple ts _ _, .Tuple vs _ _, _) => parB q z.sc ((ts.head?.map (·.pos.line)).getD 0) [i, j] ts && decide (i ≠ j) && fnB z.sc && !(vs.all (foldedForSure 8)) && !(vs.all (constantsAlone 8)) && vs.all noStar && chks q (.c a (.c b .n)) z vs && (!oa || isFr a) && (!ob || isFr b)
    | _ => false)
  | .par3 i j l a b c, z, s => (match vAsg s with
    | some (.Tuple ts _ _, .Tuple vs _ _, _) => parB q z.sc ((ts.head?.map (·.pos.line)).getD 0) [i, j, l] ts && decide (i ≠ j) && decide (i ≠ l) && decide (j ≠ l) && fnB z.sc && !(vs.all (foldedForSure 8)) && !(vs.all (constantsAlone 8)) && vs.all noStar && chks q (.c a (.c b (.c c .n))) z vs
    | _ => false)
  | .brk, _, s => isBrk s
  | .ct, _, s => isCt s
  | .ex e, z, s => (match vEx s with
    | some v => noComp v && chk q e z v
    | none => false)
  | .seto i e, z, s => (match vAsg s with
    | some (.Name y py, v, _) => isFr e && ixB q.N i y && storeB z y && swOff z.sc (.Name y py) v && chk q e z v
    | _ => false)
  | .frz _, _, _ => false
  | .app i e, z, s => (match vEx s with
    | some c => (match vApp c with
      | some (x, v, p1, p2) => ixB q.N i x && visB z.sc x && nmB x && noStar v && (p1.endLine == p2.line) && chk q e z v
      | none => false)
    | none => false)
  | .ext i e, z, s => (match vEx s with
    | some c => (match vExt c with
      | some (x, v, p1, p2) => isFr e && ixB q.N i x && visB z.sc x && nmB x && noStar v && (p1.endLine == p2.line) && chk q e z v
      | none => false)
    | none => false)
  | .ife c a b, z, s => (match vIfS s with
    | some (e, u, w) => chkT q c z e && chkSs q a z u && chkSs q b z w
    | none => false)
  | .whl c b, z, s => (match vWhl s with
    | some (e, w) => chkT q c z e && chkSs q b z w
    | none => false)
  | .frr t it b, z, s => (match vFor s with
    | some (tg, e, w) => chkG q z t tg && noSet e && chki q it z tg e && chkSs q b z w
    | none => false)
  | .ret e, z, s => (match vRet s with
    | some (some v) => chk q e z v
    | _ => false)
  | .retn, _, s => (match vRet s with
    | some none => true
    | _ => false)
  | .setf o k e, z, s => (match vAsg s with
    | some (tg, v, _) => (match vSub tg with
      | some (x, y) => chk q o z x && chk q e z v && (match vConst y with
        | some c => constB c k
        | none => false)
      | none => false)
    | none => false)
  | .seti o i e, z, s => (match vAsg s with
    | some (tg, v, _) => (match vSub tg with
      | some (x, y) => chk q o z x && chk q e z v && (match vConst y with
        | some (.int j) => decide (j = (i : Int))
        | _ => false)
      | none => false)
    | none => false)
  | .pass, _, s => isPass s
  | .never, _, _ => true
def chkSs (q : Ck) : List S → Zs → List Stmt → Bool
  | [], _, ss => ss.isEmpty
  | s :: r, z, ss => (match s with
    | .frz _ => chkSs q r z ss
    | .never => true
    | s' => (match ss with
      | x :: xs => chkS q s z x && chkSs q r z xs
      | [] => false))
end

/-! ### what a statement does -/
section
variable (K : PySem.W.Frag)
def EndsOk (W0 W : Wd) (fl : Fl) (en' : En) (S' : Sto) (D : Ends) : Prop := match fl with
  | .nx => ∀ W' σ', W'.Ok K → Le W0 W' → Lw W W' → EnOk K W0 W' en' σ' → W'.S = S' → D.nx σ' W'.H
  | .brk => ∀ W' σ', W'.Ok K → Le W0 W' → Lw W W' → EnOk K W0 W' en' σ' → W'.S = S' → D.bk σ' W'.H
  | .ct => ∀ W' σ', W'.Ok K → Le W0 W' → Lw W W' → EnOk K W0 W' en' σ' → W'.S = S' → D.ct σ' W'.H
  | .ret d => ∀ W' v, W'.Ok K → Le W0 W' → Lw W W' → W'.S = S' → W'.Rp K v d → D.rt v W'.H
def tS (W0 : Wd) (m : En → M (Fl × En)) : TS := fun D σ H => ∃ W en fl en' S', W.H = H ∧ W.Ok K ∧ Le W0 W ∧ EnOk K W0 W en σ ∧ m en W.S = some ((fl, en'), S') ∧ EndsOk K W0 W fl en' S' D
end
section
variable {K : PySem.W.Frag} {W0 : Wd}
theorem EndsOk.lw {W W1 : Wd} {fl : Fl} {en' : En} {S' : Sto} {D : Ends} (l : Lw W W1) (h : EndsOk K W0 W fl en' S' D) : EndsOk K W0 W1 fl en' S' D := by
  cases fl with
  | nx => exact fun W' σ' a b c d e => h W' σ' a b (l.trans c) d e
  | brk => exact fun W' σ' a b c d e => h W' σ' a b (l.trans c) d e
  | ct => exact fun W' σ' a b c d e => h W' σ' a b (l.trans c) d e
  | ret v => exact fun W' σ' a b c d e => h W' σ' a b (l.trans c) d e
theorem lw_ad {W : Wd} {p : Addr} {o : HO} : Lw W (W.ad p o) := ⟨fun _ _ h => h, fun _ _ h => h⟩
theorem lw_wr {W : Wd} {p : Addr} {o : HO} : Lw W (W.wr p o) := ⟨fun _ _ h => h, fun _ _ h => h⟩
/-- a name gets a container of its own -/
theorem EnOk.setO {W : Wd} {en : En} {σ : L2.St} (e : EnOk K W0 W en σ) {i : Nat} {p : Addr} {vs : List V} {xs : List D} (hi : i < en.length) (h1 : W.H p = some (.lst vs)) (h2 : W.F p = none) (h3 : p ∉ W.io) (h4 : W0.H p = none) (r : W.Rps K vs xs)
    (hz : vs.length ≤ sizeLine)
    (hn : ∀ (j : Nat) (x : Ow), en[j]? = some (Sl.own x) → σ[j]? ≠ some (some (V.ref p))) : EnOk K W0 W (en.set i (.own (.ol xs))) (σ.set i (some (.ref p))) := by
  have hs : i < σ.length := by rw [← e.len]; exact hi
  refine ⟨by rw [List.length_set, List.length_set]; exact e.len, fun j d' h => ?_, fun j ys h => ?_, fun j k x y g1 g2 g3 => ?_⟩
  · by_cases z : i = j
    · subst z; rw [get_set_eq hi] at h; cases h
    · rw [List.getElem?_set_ne z] at h ⊢
      exact e.val j d' h
  · by_cases z : i = j
    · subst z
      rw [get_set_eq hi] at h; cases h
      exact ⟨p, vs, get_set_eq hs, h1, h2, h3, h4, r, hz⟩
    · rw [List.getElem?_set_ne z] at h ⊢
      exact e.own j ys h
  · by_cases z1 : i = j
    · subst z1
      by_cases z2 : i = k
      · exact z2
      · exfalso
        rw [List.getElem?_set_ne z2] at g2
        rw [get_set_eq hs, List.getElem?_set_ne z2] at g3
        exact hn k y g2 g3.symm
    · rw [List.getElem?_set_ne z1] at g1
      by_cases z2 : i = k
      · exfalso
        subst z2
        rw [get_set_eq hs, List.getElem?_set_ne z1] at g3
        exact hn j x g1 g3
      · rw [List.getElem?_set_ne z2] at g2
        rw [List.getElem?_set_ne z1, List.getElem?_set_ne z2] at g3
        exact e.sep j k x y g1 g2 g3
/-- a name's own container is written -/
theorem EnOk.wrO {W : Wd} {en : En} {σ : L2.St} (e : EnOk K W0 W en σ) {i : Nat} {x0 : Ow} {p : Addr} {vs : List V} {xs : List D} (hi : en[i]? = some (.own x0)) (hp : σ[i]? = some (some (.ref p))) (h2 : W.F p = none) (h3 : p ∉ W.io) (h4 : W0.H p = none) (r : W.Rps K vs xs) (hz : vs.length ≤ sizeLine) :
    EnOk K W0 (W.wr p (.lst vs)) (en.set i (.own (.ol xs))) σ := by
  have hl : i < en.length := (List.getElem?_eq_some_iff.mp hi).1
  refine ⟨by rw [List.length_set]; exact e.len, fun j d' h => ?_, fun j ys h => ?_, fun j k x y g1 g2 g3 => ?_⟩
  · by_cases z : i = j
    · subst z; rw [get_set_eq hl] at h; cases h
    · rw [List.getElem?_set_ne z] at h
      exact e.val j d' h
  · by_cases z : i = j
    · subst z
      rw [get_set_eq hl] at h; cases h
      exact ⟨p, vs, hp, upd_same, h2, h3, h4, r, hz⟩
    · rw [List.getElem?_set_ne z] at h
      obtain ⟨a, ws, a1, a2, a3, a4, a5, a6⟩ := e.own j ys h
      refine ⟨a, ws, a1, ?_, a3, a4, a5, a6⟩
      show upd W.H p _ a = _
      have ne : a ≠ p := fun q => by
        subst q
        exact z (e.sep i j x0 _ hi h (by rw [hp, a1]))
      rw [upd_ne ne]; exact a2
  · have off : ∀ (j : Nat) x, (en.set i (.own (.ol xs)))[j]? = some (.own x) → ∃ x', en[j]? = some (.own x') := fun j x h => by
      by_cases z : i = j
      · subst z; exact ⟨x0, hi⟩
      · rw [List.getElem?_set_ne z] at h; exact ⟨x, h⟩
    obtain ⟨x', b1⟩ := off j x g1
    obtain ⟨y', b2⟩ := off k y g2
    exact e.sep j k x' y' b1 b2 g3
/-- a name's own container is frozen -/
theorem EnOk.fzO {W : Wd} {en : En} {σ : L2.St} (e : EnOk K W0 W en σ) {i : Nat} {xs : List D} (hi : en[i]? = some (.own (.ol xs))) (ok : W.Ok K) (le : Le W0 W) :
    ∃ W', W'.H = W.H ∧ W'.S = W.S ∧ W'.Ok K ∧ Le W0 W' ∧ Lw W W' ∧ EnOk K W0 W' (en.set i (.val (.lst xs))) σ := by
  have hl : i < en.length := (List.getElem?_eq_some_iff.mp hi).1
  obtain ⟨p, vs, a1, a2, a3, a4, a5, a6, hz⟩ := e.own i xs hi
  have lw : Lw W (W.fz p (.lst vs)) := ⟨ff_fz a3, fun _ _ h => h⟩
  refine ⟨W.fz p (.lst vs), rfl, rfl, ok_fz ok a2 a3 a4, le_fz le a5 a3, lw, ?_⟩
  refine ⟨by rw [List.length_set]; exact e.len, fun j d' h => ?_, fun j ys h => ?_, fun j k x y g1 g2 g3 => ?_⟩
  · by_cases z : i = j
    · subst z
      rw [get_set_eq hl] at h; cases h
      exact ⟨_, a1, .lst (.inl upd_same) hz (lw.rps a6)⟩
    · rw [List.getElem?_set_ne z] at h
      obtain ⟨v, h1, h2⟩ := e.val j d' h
      exact ⟨v, h1, lw.rp h2⟩
  · by_cases z : i = j
    · subst z; rw [get_set_eq hl] at h; cases h
    · rw [List.getElem?_set_ne z] at h
      obtain ⟨a, ws, b1, b2, b3, b4, b5, b6, b7⟩ := e.own j ys h
      refine ⟨a, ws, b1, b2, ?_, b4, b5, lw.rps b6, b7⟩
      show upd W.F p _ a = none
      have ne : a ≠ p := fun q => by
        subst q
        exact z (e.sep i j _ _ hi h (by rw [a1, b1]))
      rw [upd_ne ne]; exact b3
  · have z1 : i ≠ j := fun z => by subst z; rw [get_set_eq hl] at g1; cases g1
    have z2 : i ≠ k := fun z => by subst z; rw [get_set_eq hl] at g2; cases g2
    rw [List.getElem?_set_ne z1] at g1
    rw [List.getElem?_set_ne z2] at g2
    exact e.sep j k x y g1 g2 g3
end
end Cv

/-! Cv12: statements: the look tells the truth. -/
namespace Cv
open PySem PySem.Spec PyProof.Rows L2
section
variable {g : Cf} {q : Ck} {z : Zs} {X : Cx} {k : Nat} {W0 : Wd}
/-- no exception leaves -/
abbrev Quiet (X : Cx) : Prop := PassesOwn (model X.prog X.w) X.A X.env X.xe
def JS (g : Cf) (q : Ck) (k : Nat) (s : S) : Prop := ∀ (z : Zs) (X : Cx) (W0 : Wd) (x : Stmt), Gd q z X → Fs g q k X → Quiet X → chkS q s z x = true → PS X x (tS X.K W0 (st g s))
def JSs (g : Cf) (q : Ck) (k : Nat) (s : List S) : Prop := ∀ (z : Zs) (X : Cx) (W0 : Wd) (x : List Stmt), Gd q z X → Fs g q k X → Quiet X → chkSs q s z x = true → PSs X x (tS X.K W0 (sts g s))
theorem nx_inv {fl fl' : Fl} {en en' : En} {S S' : Sto} (h : M.ret (fl, en) S = some ((fl', en'), S')) : fl' = fl ∧ en' = en ∧ S' = S := by
  obtain ⟨h1, h2⟩ := ret_inv h
  cases h1
  exact ⟨rfl, rfl, h2⟩
theorem ifp_no {α : Type} {c : Prop} [Decidable c] {m : M α} {a : α} {S S' : Sto} (h : (if c then m else M.no) S = some (a, S')) : c ∧ m S = some (a, S') := by
  by_cases hc : c
  · rw [if_pos hc] at h; exact ⟨hc, h⟩
  · rw [if_neg hc] at h; exact (no_inv (S := S) h).elim
theorem s_set {t : Tg} {e : E} : JS g q k (.set t e) := by
  intro z X W0 x G F hq h
  unfold chkS at h
  split at h
  · rename_i tg v p hv
    cases vAsg_ok hv
    simp only [Bool.and_eq_true] at h
    obtain ⟨⟨⟨⟨h1, h2⟩, h3⟩, h4⟩, h5⟩ := h
    refine PS.weaken (ps_asg (all_E e z X v G F h2) (pg_tg G t tg h1) (swOff_ok (by rw [G.sc]; exact h3)) (noSwap_ok h4) (by rw [asg_each h5]; rfl)) ?_
    rintro D σ H ⟨W, en, fl, en', S', rfl, ok, le, eo, hm, he⟩
    unfold st at hm
    obtain ⟨d, S1, e1, e2⟩ := bnd_inv hm
    obtain ⟨en1, S2, e3, e4⟩ := bnd_inv e2
    obtain ⟨e5, rfl⟩ := opt_inv e3
    obtain ⟨rfl, rfl, rfl⟩ := nx_inv e4
    exact ⟨W0, W, en, rfl, ok, eo, d, _, e1, fun W1 l1 ok1 es1 v r => ⟨W0, W1, en, d, _, rfl, ok1, eo.le l1, r, e5, fun σ2 eo2 _ => he W1 σ2 ok1 (le.trans l1) l1.lw eo2 es1⟩⟩
  · cases h
theorem s_setc {i : Nat} {e : E} : JS g q k (.setc i e) := by
  intro z X W0 x G F hq h
  unfold chkS at h
  split at h
  · rename_i own t it c el
    split at h
    · rename_i y py v p hv
      cases vAsg_ok hv
      split at h
      · rename_i x tg i0 ifs s0 p0 hv2
        cases vLc1_ok hv2
        simp only [Bool.and_eq_true] at h
        obtain ⟨⟨⟨⟨⟨⟨⟨⟨h0, hy⟩, h1⟩, h2⟩, h3⟩, h4⟩, h5⟩, h6⟩, h7⟩ := h
        unfold swOn at h0
        simp only [Bool.and_eq_true, Bool.not_eq_true'] at h0
        obtain ⟨⟨⟨s1, s2⟩, s3⟩, s4⟩ := h0
        have hloc : X.env.scope.names.lookup y = some .local := by rw [G.sc]; exact locB_ok s2
        have blk := blkOk_by (N := X.N) (sc := X.env.scope) (scope := s0) (own := ownOf q.N own) (by rw [G.N, G.sc]; exact h1)
        have rule := ps_setLc (spos := p) (i := i) (y := y) (py := py) (pos := p0) (elt := x) (ifs := ifs) (te := tE X.K g el) (tt := fun σ H Q => At X.K σ H fun W en => Yl X.K W (evc g c en) (fun _ v d => v = d) Q) (g := tG X.K t) (wi := tI X.K g it) G.calm G.nd
          (by rw [G.N]; exact of_decide_eq_true hy) hloc (sw_true (by rw [G.sc]; exact fnB_ok s1) hloc s3 s4) (all_I it z X tg i0 G F h4) blk (fun s0 H0 C cl fp => pg_tg (G.blk s0 H0 _ C cl fp) t tg h5)
          (fun s0 H0 C cl fp => all_C c _ _ ifs (G.blk s0 H0 _ C cl fp) (F.blk s0 H0 _ _ fp) h6) (fun s0 H0 C cl fp => all_E el _ _ x (G.blk s0 H0 _ C cl fp) (F.blk s0 H0 _ _ fp) h7) (noSet_ok h2 X.env)
        rw [ownOf_ix] at rule
        refine PS.weaken rule ?_
        rintro D σ H ⟨W, en, fl, en', S', rfl, ok, le, eo, hm, he⟩
        unfold st at hm
        obtain ⟨d, S1, e1, e2⟩ := bnd_inv hm
        obtain ⟨en1, S2, e3, e4⟩ := bnd_inv e2
        obtain ⟨e5, rfl⟩ := opt_inv e3
        obtain ⟨rfl, rfl, rfl⟩ := nx_inv e4
        obtain ⟨g1, g2⟩ := ifp_some (show (if i < en.length then some (setV en i d) else none) = some _ from e5)
        subst g2
        refine lc_go h3 σ _ _ ⟨W0, W, en, rfl, ok, eo, d, _, e1, fun W1 l1 ok1 es1 v r => ?_⟩
        exact he W1 _ ok1 (le.trans l1) l1.lw ((eo.le l1).set g1 r) es1
      · cases h
    · cases h
  · rename_i own t it c own1 t1 it1 c1 el
    split at h
    · rename_i y py v p hv
      cases vAsg_ok hv
      split at h
      · rename_i x tg i0 ifs tg1 i1 ifs1 s0 p0 hv2
        cases vLc2_ok hv2
        simp only [Bool.and_eq_true] at h
        obtain ⟨⟨⟨⟨⟨⟨⟨⟨⟨⟨⟨⟨⟨⟨h0, hy⟩, h1⟩, h2⟩, h2'⟩, h3⟩, h3'⟩, hv1⟩, h4⟩, h5⟩, h6⟩, h8⟩, h9⟩, h10⟩, h7⟩ := h
        unfold swOn at h0
        simp only [Bool.and_eq_true, Bool.not_eq_true'] at h0
        obtain ⟨⟨⟨s1, s2⟩, s3⟩, s4⟩ := h0
        have hloc : X.env.scope.names.lookup y = some .local := by rw [G.sc]; exact locB_ok s2
        have blk := blkOk_by (N := X.N) (sc := X.env.scope) (scope := s0) (own := ownOf q.N own) (by rw [G.N, G.sc]; exact h1)
        have hown : ∀ i ∈ own1, i ∈ (ownOf q.N own).map (·.2) := fun i hi => by
          obtain ⟨y, hy, e⟩ := List.any_eq_true.mp (List.all_eq_true.mp hv1 i hi)
          exact List.mem_map.mpr ⟨y, hy, by simpa using e⟩
        have rule := ps_setLc2 (spos := p) (i := i) (y := y) (py := py) (pos := p0) (elt := x) (ifs := ifs) (ifs1 := ifs1) (vs1 := own1) (te := tE X.K g el) (tt := fun σ H Q => At X.K σ H fun W en => Yl X.K W (evc g c en) (fun _ v d => v = d) Q) (tt1 := fun σ H Q => At X.K σ H fun W en => Yl X.K W (evc g c1 en) (fun _ v d => v = d) Q)
          (g := tG X.K t) (g1 := tG X.K t1) (wi := tI X.K g it) (wi1 := tI X.K g it1) G.calm G.nd
          (by rw [G.N]; exact of_decide_eq_true hy) hloc (sw_true (by rw [G.sc]; exact fnB_ok s1) hloc s3 s4) (all_I it z X tg i0 G F h4) blk hown (fun s0 H0 C cl fp => pg_tg (G.blk s0 H0 _ C cl fp) t tg h5)
          (fun s0 H0 C cl fp => all_C c _ _ ifs (G.blk s0 H0 _ C cl fp) (F.blk s0 H0 _ _ fp) h6) (fun s0 H0 C cl fp => all_I it1 _ _ tg1 i1 (G.blk s0 H0 _ C cl fp) (F.blk s0 H0 _ _ fp) h8) (fun s0 H0 C cl fp => pg_tg (G.blk s0 H0 _ C cl fp) t1 tg1 h9)
          (fun s0 H0 C cl fp => all_C c1 _ _ ifs1 (G.blk s0 H0 _ C cl fp) (F.blk s0 H0 _ _ fp) h10) (fun s0 H0 C cl fp => all_E el _ _ x (G.blk s0 H0 _ C cl fp) (F.blk s0 H0 _ _ fp) h7) (noSet_ok h2 X.env) (fun env => noSet_ok h2' env)
        rw [ownOf_ix] at rule
        refine PS.weaken rule ?_
        rintro D σ H ⟨W, en, fl, en', S', rfl, ok, le, eo, hm, he⟩
        unfold st at hm
        obtain ⟨d, S1, e1, e2⟩ := bnd_inv hm
        obtain ⟨en1, S2, e3, e4⟩ := bnd_inv e2
        obtain ⟨e5, rfl⟩ := opt_inv e3
        obtain ⟨rfl, rfl, rfl⟩ := nx_inv e4
        obtain ⟨g1, g2⟩ := ifp_some (show (if i < en.length then some (setV en i d) else none) = some _ from e5)
        subst g2
        refine lc2_goF h3 h3' σ _ _ (tF_of lc2_lst ⟨W0, W, en, rfl, ok, eo, d, _, e1, fun W1 l1 ok1 es1 v r => ?_⟩)
        exact he W1 _ ok1 (le.trans l1) l1.lw ((eo.le l1).set g1 r) es1
      · cases h
    · cases h
  · cases h
theorem parB1 {sc : Scope} {line i : Nat} {is : List Nat} {ts : List Expr} (h : parB q sc line (i :: is) ts = true) : ∃ x px r, ts = .Name x px :: r ∧ q.N[i]? = some x ∧ sc.names.lookup x = some .local ∧ (px.line == line) = true ∧ parB q sc line is r = true := by
  cases ts with
  | nil => cases h
  | cons e r =>
    cases e <;> first
      | (cases h; done)
      | (rename_i x px
         have h := Bool.and_eq_true_iff.mp (show (ixB q.N i x && locB sc x && (px.line == line) && parB q sc line is r) = true from h)
         have h1 := Bool.and_eq_true_iff.mp h.1
         have h2 := Bool.and_eq_true_iff.mp h1.1
         exact ⟨x, px, r, rfl, of_decide_eq_true h2.1, locB_ok h2.2, h1.2, h.2⟩)
theorem parB0 {sc : Scope} {line : Nat} {ts : List Expr} (h : parB q sc line [] ts = true) : ts = [] := by
  cases ts with
  | nil => rfl
  | cons e r => cases e <;> cases h
theorem parB2 {sc : Scope} {line i j : Nat} {ts : List Expr} (h : parB q sc line [i, j] ts = true) : ∃ x px y py, ts = [.Name x px, .Name y py] ∧ q.N[i]? = some x ∧ q.N[j]? = some y ∧ sc.names.lookup x = some .local ∧ sc.names.lookup y = some .local ∧ (px.line == line) = true ∧ (py.line == line) = true := by
  obtain ⟨x, px, r, rfl, a1, a2, a3, h⟩ := parB1 h
  obtain ⟨y, py, r, rfl, b1, b2, b3, h⟩ := parB1 h
  cases parB0 h
  exact ⟨x, px, y, py, rfl, a1, b1, a2, b2, a3, b3⟩
theorem parB3 {sc : Scope} {line i j l : Nat} {ts : List Expr} (h : parB q sc line [i, j, l] ts = true) : ∃ x px y py w pw, ts = [.Name x px, .Name y py, .Name w pw] ∧ q.N[i]? = some x ∧ q.N[j]? = some y ∧ q.N[l]? = some w ∧
    sc.names.lookup x = some .local ∧ sc.names.lookup y = some .local ∧ sc.names.lookup w = some .local ∧ (px.line == line) = true ∧ (py.line == line) = true ∧ (pw.line == line) = true := by
  obtain ⟨x, px, r, rfl, a1, a2, a3, h⟩ := parB1 h
  obtain ⟨y, py, r, rfl, b1, b2, b3, h⟩ := parB1 h
  obtain ⟨w, pw, r, rfl, c1, c2, c3, h⟩ := parB1 h
  cases parB0 h
  exact ⟨x, px, y, py, w, pw, rfl, a1, b1, c1, a2, b2, c2, a3, b3, c3⟩
theorem nd_ne {N : List Str} (nd : N.Nodup) {i j : Nat} {x y : Str} (hi : N[i]? = some x) (hj : N[j]? = some y) (h : i ≠ j) : x ≠ y := by
  rintro rfl
  obtain ⟨l1, g1⟩ := List.getElem?_eq_some_iff.mp hi
  obtain ⟨l2, g2⟩ := List.getElem?_eq_some_iff.mp hj
  exact h ((List.getElem_inj nd).mp (g1.trans g2.symm))
theorem blockFn {env : Env} (h : env.scope.kind = .function) : env.blockKind = .function := by
  unfold Env.blockKind
  rw [h]; rfl
theorem fm2 {F : Expr → Option Str} {e1 e2 : Expr} {x y : Str} (h1 : F e1 = some x) (h2 : F e2 = some y) : [e1, e2].filterMap F = [x, y] := by
  rw [List.filterMap_cons_some h1, List.filterMap_cons_some h2, List.filterMap_nil]
theorem fm3 {F : Expr → Option Str} {e1 e2 e3 : Expr} {x y w : Str} (h1 : F e1 = some x) (h2 : F e2 = some y) (h3 : F e3 = some w) : [e1, e2, e3].filterMap F = [x, y, w] := by
  rw [List.filterMap_cons_some h1, fm2 h2 h3]
theorem dd2 {x y : Str} (h : x ≠ y) : [x, y].eraseDups = [x, y] := by
  have : (y == x) = false := by simpa using h.symm
  simp [List.eraseDups_cons, List.filter, this]
theorem dd3 {x y w : Str} (h : x ≠ y) (h2 : x ≠ w) (h3 : y ≠ w) : [x, y, w].eraseDups = [x, y, w] := by
  have h4 : (y == x) = false := by simpa using h.symm
  have h5 : (w == x) = false := by simpa using h2.symm
  have h6 : (w == y) = false := by simpa using h3.symm
  simp [List.eraseDups_cons, List.filter, h4, h5, h6]
theorem par_sw2 {env : Env} {x y : Str} {px py pt pt2 : Pos} {kt k2 : Nat} {a b : Expr} (hk : env.scope.kind = .function) (hx : env.scope.names.lookup x = some .local) (hy : env.scope.names.lookup y = some .local) (hl : (py.line == px.line) = true)
    (hxy : x ≠ y) (hs : [a, b].all noStar = true) (h1 : [a, b].all (foldedForSure 8) = false) (h2 : [a, b].all (constantsAlone 8) = false) :
    swappedStores [.Tuple [.Name x px, .Name y py] kt pt] (.Tuple [a, b] k2 pt2) env = pure (some [x, y]) := by
  have kx : env.kindOf x = some .local := hx
  have ky : env.kindOf y = some .local := hy
  unfold swappedStores
  simp only []
  rw [fm2 (x := x) (y := y) (by simp [kx]; rfl) (by simp only [ky, List.head?_cons, Option.map_some, Option.getD_some, Expr.pos, hl]; rfl), dd2 hxy]
  refine (if_neg ?_).trans ((if_neg ?_).trans ((if_neg ?_).trans ((if_neg ?_).trans (if_neg ?_))))
  · rw [blockFn hk]; simp
  · intro h
    obtain ⟨e, he, h⟩ := List.any_eq_true.mp h
    have := List.all_eq_true.mp hs e he
    cases e <;> first | (cases h; done) | cases this
  · simp
  · rw [h1]; exact Bool.false_ne_true
  · rw [h2]; exact Bool.false_ne_true
theorem par_sw3 {env : Env} {x y w : Str} {px py pw pt pt2 : Pos} {kt k2 : Nat} {a b c : Expr} (hk : env.scope.kind = .function) (hx : env.scope.names.lookup x = some .local) (hy : env.scope.names.lookup y = some .local) (hw : env.scope.names.lookup w = some .local)
    (hl : (py.line == px.line) = true) (hl2 : (pw.line == px.line) = true) (hxy : x ≠ y) (hxw : x ≠ w) (hyw : y ≠ w) (hs : [a, b, c].all noStar = true) (h1 : [a, b, c].all (foldedForSure 8) = false) (h2 : [a, b, c].all (constantsAlone 8) = false) :
    swappedStores [.Tuple [.Name x px, .Name y py, .Name w pw] kt pt] (.Tuple [a, b, c] k2 pt2) env = pure (some [x, y, w]) := by
  have kx : env.kindOf x = some .local := hx
  have ky : env.kindOf y = some .local := hy
  have kw : env.kindOf w = some .local := hw
  unfold swappedStores
  simp only []
  rw [fm3 (x := x) (y := y) (w := w) (by simp [kx]; rfl) (by simp only [ky, List.head?_cons, Option.map_some, Option.getD_some, Expr.pos, hl]; rfl) (by simp only [kw, List.head?_cons, Option.map_some, Option.getD_some, Expr.pos, hl2]; rfl), dd3 hxy hxw hyw]
  refine (if_neg ?_).trans ((if_neg ?_).trans ((if_neg ?_).trans ((if_neg ?_).trans (if_neg ?_))))
  · rw [blockFn hk]; simp
  · intro h
    obtain ⟨e, he, h⟩ := List.any_eq_true.mp h
    have := List.all_eq_true.mp hs e he
    cases e <;> first | (cases h; done) | cases this
  · simp
  · rw [h1]; exact Bool.false_ne_true
  · rw [h2]; exact Bool.false_ne_true
theorem evs2 {a b : E} {en : En} {x y : D} {S S1 S2 : Sto} (e1 : ev g a en S = some (x, S1)) (e2 : ev g b en S1 = some (y, S2)) : evs g (.c a (.c b .n)) en S = some ([x, y], S2) := by
  simp only [evs, M.bnd, e1, e2, M.ret]
theorem evs3 {a b c : E} {en : En} {x y w : D} {S S1 S2 S3 : Sto} (e1 : ev g a en S = some (x, S1)) (e2 : ev g b en S1 = some (y, S2)) (e3 : ev g c en S2 = some (w, S3)) : evs g (.c a (.c b (.c c .n))) en S = some ([x, y, w], S3) := by
  simp only [evs, M.bnd, e1, e2, e3, M.ret]
theorem s_par {i j : Nat} {a b : E} : JS g q k (.par i j a b) := by
  intro z X W0 x G F hq h
  unfold chkS at h
  split at h
  · rename_i ts kt pt vs k2 pt2 p hv
    cases vAsg_ok hv
    simp only [Bool.and_eq_true, Bool.not_eq_true', decide_eq_true_eq] at h
    obtain ⟨⟨⟨⟨⟨⟨h1, h2⟩, h3⟩, h4⟩, h5⟩, h6⟩, h7⟩ := h
    obtain ⟨x, px, y, py, rfl, a1, a2, a3, a4, a5, a6⟩ := parB2 h1
    have hl := chks_len h7
    match vs, hl with
    | [v, w], _ =>
      have nx : X.N[i]? = some x := by rw [G.N]; exact a1
      have ny : X.N[j]? = some y := by rw [G.N]; exact a2
      have lx : X.env.scope.names.lookup x = some .local := by rw [G.sc]; exact a3
      have ly : X.env.scope.names.lookup y = some .local := by rw [G.sc]; exact a4
      have hpa := all_A (.c a (.c b .n)) z X [v, w] G F h6 h7
      refine PS.weaken (ps_par G.calm G.nd nx ny h2 lx ly hpa (par_sw2 (by rw [G.sc]; exact fnB_ok h3) lx ly a6 (nd_ne G.nd nx ny h2) h6 h4 h5)) ?_
      rintro D σ H ⟨W, en, fl, en', S', rfl, ok, le, eo, hm, he⟩
      unfold st at hm
      obtain ⟨d, S1, e1, hm⟩ := bnd_inv hm
      obtain ⟨d2, S2, e2, hm⟩ := bnd_inv hm
      obtain ⟨e3, hm⟩ := if_no hm
      obtain ⟨rfl, rfl, rfl⟩ := nx_inv hm
      have e3 := Bool.and_eq_true_iff.mp e3
      refine ⟨W0, W, en, rfl, ok, eo, _, _, evs2 e1 e2, fun W1 l1 ok1 es1 us r => ?_⟩
      obtain ⟨v1, _, rfl, r1, r⟩ := reps_cons r
      obtain ⟨v2, _, rfl, r2, r⟩ := reps_cons r
      cases reps_nil r
      refine ⟨v1, v2, rfl, he W1 _ ok1 (le.trans l1) l1.lw (((eo.le l1).set (of_decide_eq_true e3.1) r1).set ?_ r2) es1⟩
      unfold setV
      rw [List.length_set]
      exact of_decide_eq_true e3.2
  · cases h
theorem s_par3 {i j l : Nat} {a b c : E} : JS g q k (.par3 i j l a b c) := by
  intro z X W0 x G F hq h
  unfold chkS at h
  split at h
  · rename_i ts kt pt vs k2 pt2 p hv
    cases vAsg_ok hv
    simp only [Bool.and_eq_true, Bool.not_eq_true', decide_eq_true_eq] at h
    obtain ⟨⟨⟨⟨⟨⟨⟨⟨h1, h2⟩, h8⟩, h9⟩, h3⟩, h4⟩, h5⟩, h6⟩, h7⟩ := h
    obtain ⟨x, px, y, py, w, pw, rfl, a1, a2, c1, a3, a4, c2, a5, a6, c3⟩ := parB3 h1
    have hl := chks_len h7
    match vs, hl with
    | [v, u, t], _ =>
      have nx : X.N[i]? = some x := by rw [G.N]; exact a1
      have ny : X.N[j]? = some y := by rw [G.N]; exact a2
      have nw : X.N[l]? = some w := by rw [G.N]; exact c1
      have lx : X.env.scope.names.lookup x = some .local := by rw [G.sc]; exact a3
      have ly : X.env.scope.names.lookup y = some .local := by rw [G.sc]; exact a4
      have lw : X.env.scope.names.lookup w = some .local := by rw [G.sc]; exact c2
      have hpa := all_A (.c a (.c b (.c c .n))) z X [v, u, t] G F h6 h7
      refine PS.weaken (ps_par3 G.calm G.nd nx ny nw h2 h8 h9 lx ly lw hpa (par_sw3 (by rw [G.sc]; exact fnB_ok h3) lx ly lw a6 c3 (nd_ne G.nd nx ny h2) (nd_ne G.nd nx nw h8) (nd_ne G.nd ny nw h9) h6 h4 h5)) ?_
      rintro D σ H ⟨W, en, fl, en', S', rfl, ok, le, eo, hm, he⟩
      unfold st at hm
      obtain ⟨d, S1, e1, hm⟩ := bnd_inv hm
      obtain ⟨d2, S2, e2, hm⟩ := bnd_inv hm
      obtain ⟨d3, S3, e4, hm⟩ := bnd_inv hm
      obtain ⟨e3, hm⟩ := if_no hm
      obtain ⟨rfl, rfl, rfl⟩ := nx_inv hm
      simp only [Bool.and_eq_true, decide_eq_true_eq] at e3
      refine ⟨W0, W, en, rfl, ok, eo, _, _, evs3 e1 e2 e4, fun W1 l1 ok1 es1 us r => ?_⟩
      obtain ⟨v1, _, rfl, r1, r⟩ := reps_cons r
      obtain ⟨v2, _, rfl, r2, r⟩ := reps_cons r
      obtain ⟨v3, _, rfl, r3, r⟩ := reps_cons r
      cases reps_nil r
      refine ⟨v1, v2, v3, rfl, he W1 _ ok1 (le.trans l1) l1.lw ((((eo.le l1).set e3.1.1 r1).set ?_ r2).set ?_ r3) es1⟩
      · unfold setV
        rw [List.length_set]
        exact e3.1.2
      · unfold setV
        rw [List.length_set, List.length_set]
        exact e3.2
  · cases h
theorem s_brk : JS g q k .brk := by
  intro z X W0 x G F hq h
  obtain ⟨p, rfl⟩ := isBrk_ok h
  refine PS.weaken ps_break ?_
  rintro D σ H ⟨W, en, fl, en', S', rfl, ok, le, eo, hm, he⟩
  obtain ⟨h1, h2⟩ := ret_inv (show M.ret (Fl.brk, en) W.S = some ((fl, en'), S') from hm)
  cases h1
  exact he W σ ok le (Lw.refl _) eo h2.symm
theorem s_ct : JS g q k .ct := by
  intro z X W0 x G F hq h
  obtain ⟨p, rfl⟩ := isCt_ok h
  refine PS.weaken ps_continue ?_
  rintro D σ H ⟨W, en, fl, en', S', rfl, ok, le, eo, hm, he⟩
  obtain ⟨h1, h2⟩ := ret_inv (show M.ret (Fl.ct, en) W.S = some ((fl, en'), S') from hm)
  cases h1
  exact he W σ ok le (Lw.refl _) eo h2.symm
theorem s_pass : JS g q k .pass := by
  intro z X W0 x G F hq h
  have fin : ∀ D σ H, tS X.K W0 (st g .pass) D σ H → tNext D σ H := by
    rintro D σ H ⟨W, en, fl, en', S', rfl, ok, le, eo, hm, he⟩
    obtain ⟨h1, h2⟩ := ret_inv (show M.ret (Fl.nx, en) W.S = some ((fl, en'), S') from hm)
    cases h1
    exact he W σ ok le (Lw.refl _) eo h2.symm
  have h : isPass x = true := h
  unfold isPass at h
  split at h
  · exact PS.weaken ps_pass fin
  · exact PS.weaken ps_doc fin
  · cases h
theorem s_never : JS g q k .never := by
  intro z X W0 x G F hq h
  refine PS.weaken ps_never ?_
  rintro D σ H ⟨W, en, fl, en', S', rfl, ok, le, eo, hm, he⟩
  exact (no_inv (S := W.S) hm).elim
theorem s_ex {e : E} : JS g q k (.ex e) := by
  intro z X W0 x G F hq h
  unfold chkS at h
  split at h
  · rename_i v hv
    obtain ⟨p, rfl⟩ := vEx_ok hv
    rw [Bool.and_eq_true] at h
    refine PS.weaken (ps_expr (all_E e z X v G F h.2) (noComp_sw h.1 _ _ _)) ?_
    rintro D σ H ⟨W, en, fl, en', S', rfl, ok, le, eo, hm, he⟩
    unfold st at hm
    obtain ⟨d, S1, e1, e2⟩ := bnd_inv hm
    obtain ⟨rfl, rfl, rfl⟩ := nx_inv e2
    exact ⟨W0, W, _, rfl, ok, eo, d, _, e1, fun W1 l1 ok1 es1 v r => he W1 σ ok1 (le.trans l1) l1.lw (eo.le l1) es1⟩
  · cases h
theorem s_ret {e : E} : JS g q k (.ret e) := by
  intro z X W0 x G F hq h
  unfold chkS at h
  split at h
  · rename_i v hv
    obtain ⟨p, rfl⟩ := vRet_ok hv
    refine PS.weaken (ps_ret (all_E e z X v G F h)) ?_
    rintro D σ H ⟨W, en, fl, en', S', rfl, ok, le, eo, hm, he⟩
    unfold st at hm
    obtain ⟨d, S1, e1, e2⟩ := bnd_inv hm
    obtain ⟨rfl, rfl, rfl⟩ := nx_inv e2
    exact ⟨W0, W, _, rfl, ok, eo, d, _, e1, fun W1 l1 ok1 es1 v r => he W1 v ok1 (le.trans l1) l1.lw es1 r⟩
  · cases h
theorem s_retn : JS g q k .retn := by
  intro z X W0 x G F hq h
  unfold chkS at h
  split at h
  · rename_i hv
    obtain ⟨p, rfl⟩ := vRet_ok hv
    refine PS.weaken ps_retN ?_
    rintro D σ H ⟨W, en, fl, en', S', rfl, ok, le, eo, hm, he⟩
    unfold st at hm
    obtain ⟨rfl, rfl, rfl⟩ := nx_inv hm
    exact he W .non ok le (Lw.refl _) rfl .non
  · cases h
theorem fresh_F {c : E} (h : isFr c = true) : JF g q k c := by
  match c, h with
  | .lst es, _ => exact f_lst (all_A es)
  | .bin .add a b, _ => exact f_add (all_E a) (all_E b)
  | .b1 .list a, _ => exact f_list (all_E a)
  | .lc1 _ _ it c e, _ => exact f_lc1 (all_I it) (all_C c) (all_E e)
  | .lc2 _ _ it c _ _ it1 c1 e, _ => exact f_lc2 (all_I it) (all_C c) (all_I it1) (all_C c1) (all_E e)
/-- what lies behind a slot's thing -/
def SlR (K : PySem.W.Frag) (W W1 : Wd) (v : V) (d : Cv.D) : Bool → Prop
  | false => W1.Rp K v d
  | true => ∃ p vs xs, v = .ref p ∧ d = .lst xs ∧ W1.H p = some (.lst vs) ∧ W1.F p = none ∧ p ∉ W1.io ∧ W.H p = none ∧ W1.Rps K vs xs ∧ vs.length ≤ sizeLine
def tX (K : PySem.W.Frag) (g : Cf) (o : Bool) (c : E) : TE := fun σ H Q => ∃ W0 W en d S', Wd.H W = H ∧ W.Ok K ∧ EnOk K W0 W en σ ∧ ev g c en W.S = some (d, S') ∧ (slO o d).isSome = true ∧
  ∀ W1, Le W W1 → W1.Ok K → W1.S = S' → ∀ v, SlR K W W1 v d o → Q v W1.H
theorem px_X {o : Bool} {c : E} {z : Zs} {X : Cx} {x : Expr} (G : Gd q z X) (F : Fs g q k X) (hf : (!o || isFr c) = true) (h : chk q c z x = true) : PE X x (tX X.K g o c) := by
  cases o with
  | false =>
    refine PE.weaken (all_E c z X x G F h) ?_
    rintro σ H Q ⟨W0, W, en, d, S', rfl, ok, eo, e, _, kk⟩
    exact ⟨W0, W, en, rfl, ok, eo, d, S', e, fun W1 l1 ok1 es1 v r => kk W1 l1 ok1 es1 v r⟩
  | true =>
    refine PE.weaken (fresh_F hf z X x G F h) ?_
    rintro σ H Q ⟨W0, W, en, d, S', rfl, ok, eo, e, hs, kk⟩
    cases d with
    | lst xs => exact ⟨W0, W, en, xs, S', rfl, ok, eo, e, fun W1 l1 ok1 es1 p vs hp hF hi hn r hz => kk W1 l1 ok1 es1 _ ⟨p, vs, xs, rfl, rfl, hp, hF, hi, hn, r, hz⟩⟩
    | _ => cases hs
theorem SlR.le {K : PySem.W.Frag} {W W1 W2 : Wd} {v : V} {d : Cv.D} {o : Bool} (h : SlR K W W1 v d o) (l : Le W1 W2) : SlR K W W2 v d o := by
  cases o with
  | false => exact l.rp h
  | true =>
    obtain ⟨p, vs, xs, rfl, rfl, h1, h2, h3, h4, h5, h6⟩ := h
    exact ⟨p, vs, xs, rfl, rfl, l.hh _ _ h1 h3, l.nf _ _ h1 h2, l.nio h1 h3, h4, l.rps h5, h6⟩
theorem EnOk.setX {K : PySem.W.Frag} {W0 W W1 : Wd} {en : En} {σ : L2.St} (e : EnOk K W0 W1 en σ) {i : Nat} {v : V} {d : Cv.D} {o : Bool} {s : Sl} (hi : i < en.length) (r : SlR K W W1 v d o) (hs : slO o d = some s) (h0 : Le W0 W)
    (al : ∀ (j : Nat) (x : Ow), en[j]? = some (.own x) → ∃ b ob, σ[j]? = some (some (.ref b)) ∧ W.H b = some ob) : EnOk K W0 W1 (en.set i s) (σ.set i (some v)) := by
  cases o with
  | false =>
    cases hs
    exact e.set hi r
  | true =>
    obtain ⟨p, vs, xs, rfl, rfl, h1, h2, h3, h4, h5, h6⟩ := r
    cases hs
    refine e.setO hi h1 h2 h3 (h0.al _ h4) h5 h6 fun j x hj hσ => ?_
    obtain ⟨b, ob, hb, hw⟩ := al j x hj
    rw [hσ] at hb
    cases hb
    rw [h4] at hw
    cases hw
theorem EnOk.alive {K : PySem.W.Frag} {W0 W : Wd} {en : En} {σ : L2.St} (e : EnOk K W0 W en σ) (j : Nat) (x : Ow) (h : en[j]? = some (.own x)) : ∃ b ob, σ[j]? = some (some (.ref b)) ∧ W.H b = some ob := by
  cases x with
  | ol xs =>
    obtain ⟨a, vs, h1, h2, _⟩ := e.own j xs h
    exact ⟨a, _, h1, h2⟩
theorem s_paro {i j : Nat} {oa ob : Bool} {a b : E} : JS g q k (.paro i j oa ob a b) := by
  intro z X W0 x G F hq h
  unfold chkS at h
  split at h
  · rename_i ts kt pt vs k2 pt2 p hv
    cases vAsg_ok hv
    simp only [Bool.and_eq_true, Bool.not_eq_true', decide_eq_true_eq] at h
    obtain ⟨⟨⟨⟨⟨⟨⟨⟨h1, h2⟩, h3⟩, h4⟩, h5⟩, h6⟩, h7⟩, h8⟩, h9⟩ := h
    obtain ⟨x, px, y, py, rfl, a1, a2, a3, a4, a5, a6⟩ := parB2 h1
    have hl := chks_len h7
    match vs, hl with
    | [v, w], _ =>
      have nx : X.N[i]? = some x := by rw [G.N]; exact a1
      have ny : X.N[j]? = some y := by rw [G.N]; exact a2
      have lx : X.env.scope.names.lookup x = some .local := by rw [G.sc]; exact a3
      have ly : X.env.scope.names.lookup y = some .local := by rw [G.sc]; exact a4
      have hc : chk q a z v = true ∧ chk q b z w = true := by
        have h7 : (chk q a z v && (chk q b z w && true)) = true := h7
        simp only [Bool.and_eq_true] at h7
        exact ⟨h7.1, h7.2.1⟩
      have hn : noStar v = true ∧ noStar w = true := by
        have h6 : (noStar v && (noStar w && true)) = true := h6
        simp only [Bool.and_eq_true] at h6
        exact ⟨h6.1, h6.2.1⟩
      have hpa := pa_cons (px_X (o := oa) G F (by cases oa <;> first | rfl | simpa using h8) hc.1) (pa_cons (px_X (o := ob) G F (by cases ob <;> first | rfl | simpa using h9) hc.2) pa_nil (star_each hn.2 [] X.env)) (star_each hn.1 _ X.env)
      refine PS.weaken (ps_par G.calm G.nd nx ny h2 lx ly hpa (par_sw2 (by rw [G.sc]; exact fnB_ok h3) lx ly a6 (nd_ne G.nd nx ny h2) h6 h4 h5)) ?_
      rintro D σ H ⟨W, en, fl, en', S', rfl, ok, le, eo, hm, he⟩
      unfold st at hm
      obtain ⟨d, S1, e1, hm1⟩ := bnd_inv hm
      obtain ⟨d2, S2, e2, hm2⟩ := bnd_inv hm1
      obtain ⟨sx, S3, g3, hm3⟩ := bnd_inv hm2
      obtain ⟨e3, hs3⟩ := opt_inv g3
      subst hs3
      obtain ⟨sy, S4, g4, hm4⟩ := bnd_inv hm3
      obtain ⟨e4, hs4⟩ := opt_inv g4
      subst hs4
      obtain ⟨g5, hm5⟩ := if_no hm4
      obtain ⟨rfl, rfl, rfl⟩ := nx_inv hm5
      have e5 := Bool.and_eq_true_iff.mp g5
      have hi := of_decide_eq_true e5.1
      have hj := of_decide_eq_true e5.2
      refine ⟨W0, W, en, d, _, rfl, ok, eo, e1, by rw [e3]; rfl, fun W1 l1 ok1 es1 v1 r1 => ?_⟩
      refine ⟨W0, W1, en, d2, _, rfl, ok1, eo.le l1, by rw [es1]; exact e2, by rw [e4]; rfl, fun W2 l2 ok2 es2 v2 r2 => ?_⟩
      have eo2 := ((eo.le l1).le l2).setX hi (r1.le l2) e3 le eo.alive
      refine ⟨v1, v2, rfl, he W2 _ ok2 (le.trans (l1.trans l2)) (l1.trans l2).lw (eo2.setX (by rw [List.length_set]; exact hj) r2 e4 (le.trans l1) ?_) es2⟩
      intro m y hm
      have eo1 := (eo.le l1).setX hi r1 e3 le eo.alive
      exact eo1.alive m y hm
  · cases h
theorem s_seto {i : Nat} {e : E} : JS g q k (.seto i e) := by
  intro z X W0 x G F hq h
  unfold chkS at h
  split at h
  · rename_i y py v p hv
    cases vAsg_ok hv
    simp only [Bool.and_eq_true] at h
    obtain ⟨⟨⟨⟨h0, h1⟩, h2⟩, h4⟩, h3⟩ := h
    obtain ⟨s1, s2⟩ := storeB_ok h2 G.sc G.fn
    have sw : swapsWithSole [.Name y py] v p.line X.env = pure false := swOff_ok (by rw [G.sc]; exact h4)
    refine PS.weaken (ps_set G.nd (by rw [G.N]; exact of_decide_eq_true h1) s1 (fresh_F h0 z X v G F h3) sw s2) ?_
    rintro D σ H ⟨W, en, fl, en', S', rfl, ok, le, eo, hm, he⟩
    unfold st at hm
    obtain ⟨d, S1, e1, hm⟩ := bnd_inv hm
    obtain ⟨ys, S2, e2, hm⟩ := bnd_inv hm
    obtain ⟨rfl, rfl⟩ := isL_inv e2
    obtain ⟨hi, hm⟩ := ifp_no hm
    obtain ⟨rfl, rfl, rfl⟩ := nx_inv hm
    refine ⟨W0, W, en, ys, _, rfl, ok, eo, e1, fun W1 l1 ok1 es1 a vs hp hF hni hn r hz => ?_⟩
    refine he W1 _ ok1 (le.trans l1) l1.lw ?_ es1
    refine EnOk.setO (vs := vs) (eo.le l1) hi hp hF hni (le.al _ hn) r hz ?_
    intro j x hx hs
    cases x with
    | ol xs =>
      obtain ⟨b, ws, b1, b2, _⟩ := eo.own j xs hx
      rw [hs] at b1
      cases b1
      rw [hn] at b2; cases b2
  · cases h
theorem s_ext {i : Nat} {e : E} : JS g q k (.ext i e) := by
  intro z X W0 x G F hq h
  unfold chkS at h
  split at h
  · rename_i c hc
    obtain ⟨p, rfl⟩ := vEx_ok hc
    split at h
    · rename_i y v p1 p2 hv
      obtain ⟨p0, rfl⟩ := vExt_ok hv
      simp only [Bool.and_eq_true] at h
      obtain ⟨⟨⟨⟨⟨⟨h0, h1⟩, h2⟩, h3⟩, h4⟩, h5⟩, h6⟩ := h
      have hs := star_each h4 [] X.env
      have pv : PE X (.Name y p0) (tVar i) := var_pe G (by rw [h1, h2, h3]; rfl)
      refine PS.weaken (ps_expr (pe_bm PySem.F.plainAttrs_list PySem.F.slot_list_extend PySem.F.type_list_extend mt_extend pv (pa_cons (fresh_F h0 z X v G F h6) pa_nil hs) (by rfl)
        (by rw [hs]; rfl) h5 hs (by rfl)) (by rfl)) ?_
      rintro D σ H ⟨W, en, fl, en', S', rfl, ok, le, eo, hm, he⟩
      unfold st at hm
      obtain ⟨d, S1, e1, hm⟩ := bnd_inv hm
      obtain ⟨ys, S2, e2, hm8⟩ := bnd_inv hm
      obtain ⟨rfl, rfl⟩ := isL_inv e2
      obtain ⟨en1, S3, e4, hm9⟩ := bnd_inv hm8
      obtain ⟨e3, rfl⟩ := opt_inv e4
      obtain ⟨rfl, rfl, rfl⟩ := nx_inv hm9
      unfold extE at e3
      split at e3
      · rename_i xs hx
        obtain ⟨hz, he3⟩ := ifp_some e3
        subst he3
        obtain ⟨a, vs, a1, a2, a3, a4, a5, a6, a7⟩ := eo.own i xs hx
        refine ⟨_, a1, .inl ⟨rfl, vs, .inl (.inl a2)⟩, ?_⟩
        refine ⟨W0, W, en, ys, _, rfl, ok, eo, e1, fun W1 l1 ok1 es1 b ws hp hF hni hn r hzw => ?_⟩
        have eo1 := eo.le l1
        obtain ⟨a', vs', b1, b2, b3, b4, b5, b6, b7⟩ := eo1.own i xs hx
        rw [a1] at b1
        cases b1
        have hln := b6.len
        have hlw := r.len
        refine ⟨_, b, vs', ws, rfl, rfl, b2, hp, by omega, ?_⟩
        have le1 := le.trans l1
        exact he (W1.wr a (.lst (vs' ++ ws))) σ (ok_wr ok1 b3 b4) (le_wr le1 b5) (l1.lw.trans lw_wr) (eo1.wrO hx a1 b3 b4 b5 (b6.app r) (by rw [List.length_append]; omega)) es1
      · cases e3
    · cases h
  · cases h
theorem s_app {i : Nat} {e : E} : JS g q k (.app i e) := by
  intro z X W0 x G F hq h
  unfold chkS at h
  split at h
  · rename_i c hc
    obtain ⟨p, rfl⟩ := vEx_ok hc
    split at h
    · rename_i y v p1 p2 hv
      obtain ⟨p0, rfl⟩ := vApp_ok hv
      simp only [Bool.and_eq_true] at h
      obtain ⟨⟨⟨⟨⟨h1, h2⟩, h3⟩, h4⟩, h5⟩, h6⟩ := h
      have hs := star_each h4 [] X.env
      have pv : PE X (.Name y p0) (tVar i) := var_pe G (by rw [h1, h2, h3]; rfl)
      refine PS.weaken (ps_expr (pe_bm PySem.F.plainAttrs_list PySem.F.slot_list_append PySem.F.type_list_append mt_append pv (pa_cons (all_E e z X v G F h6) pa_nil hs) (by rfl)
        (by rw [hs]; rfl) h5 hs (by rfl)) (by rfl)) ?_
      rintro D σ H ⟨W, en, fl, en', S', rfl, ok, le, eo, hm, he⟩
      unfold st at hm
      obtain ⟨d, S1, e1, hm⟩ := bnd_inv hm
      obtain ⟨en1, S2, e2, hm9⟩ := bnd_inv hm
      obtain ⟨e3, rfl⟩ := opt_inv e2
      obtain ⟨rfl, rfl, rfl⟩ := nx_inv hm9
      unfold appE at e3
      split at e3
      · rename_i xs hx
        obtain ⟨hz, he3⟩ := ifp_some e3
        subst he3
        obtain ⟨a, vs, a1, a2, a3, a4, a5, a6, a7⟩ := eo.own i xs hx
        refine ⟨_, a1, .inl ⟨rfl, vs, .inl (.inl a2)⟩, ?_⟩
        refine ⟨W0, W, en, rfl, ok, eo, d, _, e1, fun W1 l1 ok1 es1 w r => ?_⟩
        have eo1 := eo.le l1
        obtain ⟨a', vs', b1, b2, b3, b4, b5, b6, b7⟩ := eo1.own i xs hx
        rw [a1] at b1
        cases b1
        have hln := b6.len
        refine ⟨_, vs', w, rfl, rfl, b2, by omega, ?_⟩
        have le1 := le.trans l1
        exact he (W1.wr a (.lst (vs' ++ [w]))) σ (ok_wr ok1 b3 b4) (le_wr le1 b5) (l1.lw.trans lw_wr) (eo1.wrO hx a1 b3 b4 b5 (b6.app (.cons r .nil)) (by rw [List.length_append]; show vs'.length + 1 ≤ _; omega)) es1
      · cases e3
    · cases h
  · cases h
theorem putF_keys {key : Str} {d : D} : ∀ {fs : List (Str × D)} {x : D}, look key fs = some x → (putF key d fs).map (·.1) = fs.map (·.1)
  | [], _, h => nomatch h
  | (s, y) :: r, x, h => by
    have h : (if s = key then some y else look key r) = some x := h
    show ((if s = key then (s, d) :: r else (s, y) :: putF key d r) : List (Str × D)).map (·.1) = _
    by_cases e : s = key
    · rw [if_pos e]; rfl
    · rw [if_neg e] at h ⊢
      rw [List.map_cons, List.map_cons, putF_keys h]
theorem setO_inv {n : Nat} {key : Str} {d : D} {S S' : Sto} {u : Unit} (h : setO n key d S = some (u, S')) : ∃ fs x, S[n]? = some (.fl fs) ∧ look key fs = some x ∧ S' = S.set n (.fl (putF key d fs)) := by
  unfold setO at h
  split at h
  · rename_i fs hf
    split at h
    · rename_i hs
      cases h
      obtain ⟨x, hx⟩ := Option.isSome_iff_exists.mp hs
      exact ⟨fs, x, hf, hx, rfl⟩
    · cases h
  · cases h
theorem sub_sw {v o i : Expr} {p : Pos} {l : Nat} {env : Env} : swapsWith v (some (.Subscript o i p)) l env = pure false := by
  cases v <;> rfl
theorem s_setf {o e : E} {key : Str} : JS g q k (.setf o key e) := by
  intro z X W0 x G F hq h
  unfold chkS at h
  split at h
  · rename_i tg v p hv
    cases vAsg_ok hv
    split at h
    · rename_i x y hs
      obtain ⟨p2, rfl⟩ := vSub_ok hs
      rw [Bool.and_eq_true, Bool.and_eq_true] at h
      obtain ⟨⟨h1, h2⟩, h3⟩ := h
      split at h3
      · rename_i c hc
        obtain ⟨j, p3, rfl⟩ := vConst_ok hc
        cases constB_ok h3
        refine PS.weaken (ps_dput (by have := G.un; omega) (all_E o z X x G F h1) pe_str (all_E e z X v G F h2) sub_sw) ?_
        rintro D σ H ⟨W, en, fl, en', S', rfl, ok, le, eo, hm, he⟩
        unfold st at hm
        obtain ⟨d, S1, e1, hm⟩ := bnd_inv hm
        obtain ⟨dx, S2, e2, hm⟩ := bnd_inv hm
        obtain ⟨n, S3, e3, hm8⟩ := bnd_inv hm
        obtain ⟨rfl, rfl⟩ := isO_inv e3
        obtain ⟨u, S4, e4, hm9⟩ := bnd_inv hm8
        obtain ⟨rfl, rfl, rfl⟩ := nx_inv hm9
        obtain ⟨fs, x0, f1, f2, rfl⟩ := setO_inv e4
        refine ⟨W0, W, _, rfl, ok, eo, d, _, e1, fun W1 l1 ok1 es1 v1 r1 => ?_⟩
        refine ⟨W0, W1, _, rfl, ok1, eo.le l1, _, _, by rw [es1]; exact e2, fun W2 l2 ok2 es2 v2 r2 => ?_⟩
        cases r2 with
        | @obj a _ hn =>
          rw [← es2] at f1
          obtain ⟨b, ho, b1, b2, b3, kvs, rfl, bz, bn, bf⟩ := ok2.ob n _ f1
          rw [hn] at b1
          cases b1
          obtain ⟨w, g1, g2⟩ := flds_look bf f2
          refine ⟨_, _, rfl, DPut.k (k := (Sum.inr key : Key)) b2 (by have := sizeLine_eq; omega), ?_⟩
          rw [putK_any g1]
          have hl : n < W2.S.length := (List.getElem?_eq_some_iff.mp f1).1
          refine he (W2.st n a (.fl (putF key d fs)) (.dK _)) σ (ok_st ok2 hl hn ⟨_, rfl, by rw [List.length_map]; exact bz, ?_, flds_put (l2.rp r1) bf bn f2⟩) ((le.trans (l1.trans l2)).trans (le_st ok2 hn)) ?_ ((eo.le (l1.trans l2)).le (le_st ok2 hn)) ?_
          · rw [putF_keys f2]; exact bn
          · exact (l1.trans l2).lw.trans ⟨fun _ _ h => h, fun _ _ h => h⟩
          · show W2.S.set n _ = _
            rw [es2]
      · cases h3
    · cases h
  · cases h
theorem setI_inv {n i : Nat} {d : D} {S S' : Sto} {u : Unit} (h : setI n i d S = some (u, S')) : ∃ ds, S[n]? = some (.cel ds) ∧ i < ds.length ∧ S' = S.set n (.cel (ds.set i d)) := by
  unfold setI at h
  split at h
  · rename_i ds hf
    split at h
    · rename_i hs
      cases h
      exact ⟨ds, hf, hs, rfl⟩
    · cases h
  · cases h
theorem Reps.set {K : PySem.W.Frag} {F : Hp} {io : List Addr} {v : V} {d : D} : ∀ {vs : List V} {ds : List D} (i : Nat), Reps K F io vs ds → Rep K F io v d → Reps K F io (vs.set i v) (ds.set i d)
  | _, _, _, .nil, _ => .nil
  | _, _, 0, .cons h r, q => .cons q r
  | _, _, i + 1, .cons h r, q => .cons h (Reps.set i r q)
theorem s_seti {o e : E} {i : Nat} : JS g q k (.seti o i e) := by
  intro z X W0 x G F hq h
  unfold chkS at h
  split at h
  · rename_i tg v p hv
    cases vAsg_ok hv
    split at h
    · rename_i x y hs
      obtain ⟨p2, rfl⟩ := vSub_ok hs
      rw [Bool.and_eq_true, Bool.and_eq_true] at h
      obtain ⟨⟨h1, h2⟩, h3⟩ := h
      split at h3
      · rename_i j hc
        obtain ⟨j0, p3, rfl⟩ := vConst_ok hc
        cases of_decide_eq_true h3
        refine PS.weaken (ps_asg (all_E e z X v G F h2) (pg_sub (all_E o z X x G F h1) pe_int set_list) (show swapsWithSole [.Subscript x (.Constant (.int (i : Int)) j0 p3) p2] v p.line X.env = pure false from sub_sw (v := v) (o := x) (i := .Constant (.int (i : Int)) j0 p3) (p := p2) (l := p.line) (env := X.env)) (by cases v <;> rfl)) ?_
        rintro D σ H ⟨W, en, fl, en', S', rfl, ok, le, eo, hm, he⟩
        unfold st at hm
        obtain ⟨d, S1, e1, hm⟩ := bnd_inv hm
        obtain ⟨dx, S2, e2, hm⟩ := bnd_inv hm
        obtain ⟨n, S3, e3, hm8⟩ := bnd_inv hm
        obtain ⟨rfl, rfl⟩ := isO_inv e3
        obtain ⟨u, S4, e4, hm9⟩ := bnd_inv hm8
        obtain ⟨rfl, rfl, rfl⟩ := nx_inv hm9
        obtain ⟨ds, f1, f2, rfl⟩ := setI_inv e4
        refine ⟨W0, W, _, rfl, ok, eo, d, _, e1, fun W1 l1 ok1 es1 v1 r1 => ?_⟩
        refine ⟨W0, W1, _, rfl, ok1, eo.le l1, _, _, by rw [es1]; exact e2, fun W2 l2 ok2 es2 v2 r2 => ?_⟩
        cases r2 with
        | @obj a _ hn =>
          rw [← es2] at f1
          obtain ⟨b, ho, b1, b2, b3, vs, rfl, bz, br⟩ := ok2.ob n _ f1
          rw [hn] at b1
          cases b1
          have hlen := Reps.len br
          have hl : n < W2.S.length := (List.getElem?_eq_some_iff.mp f1).1
          refine ⟨_, vs, (i : Int), i, rfl, rfl, b2, ?_, ?_⟩
          · unfold ixN
            rw [if_pos (by omega), if_pos (by omega)]
            simp
          · refine he (W2.st n a (.cel (ds.set i d)) (.lst (vs.set i v1))) σ (ok_st ok2 hl hn ⟨_, rfl, by rw [List.length_set]; exact bz, Reps.set i br (l2.rp r1)⟩) ((le.trans (l1.trans l2)).trans (le_st ok2 hn)) ?_ ((eo.le (l1.trans l2)).le (le_st ok2 hn)) ?_
            · exact (l1.trans l2).lw.trans ⟨fun _ _ h => h, fun _ _ h => h⟩
            · show W2.S.set n _ = _
              rw [es2]
      · cases h3
    · cases h
  · cases h
theorem s_ife {c : E} {a b : List S} (ha : JSs g q k a) (hb : JSs g q k b) : JS g q k (.ife c a b) := by
  intro z X W0 x G F hq h
  unfold chkS at h
  split at h
  · rename_i e u w hv
    obtain ⟨p, rfl⟩ := vIfS_ok hv
    simp only [Bool.and_eq_true] at h
    obtain ⟨⟨h1, h2⟩, h3⟩ := h
    refine PS.weaken (ps_if (all_T c z X e G F h1).1 (ha z X W0 u G F hq h2) (hb z X W0 w G F hq h3)) ?_
    rintro D σ H ⟨W, en, fl, en', S', rfl, ok, le, eo, hm, he⟩
    unfold st at hm
    obtain ⟨t, S1, e1, e2⟩ := bnd_inv hm
    refine ⟨W0, W, en, rfl, ok, eo, t, S1, e1, fun W1 l1 ok1 es1 t' ht => ?_⟩
    subst ht
    cases t' with
    | true => exact iteT ⟨W1, en, fl, en', S', rfl, ok1, le.trans l1, eo.le l1, by rw [es1]; exact e2, he.lw l1.lw⟩
    | false => exact iteF ⟨W1, en, fl, en', S', rfl, ok1, le.trans l1, eo.le l1, by rw [es1]; exact e2, he.lw l1.lw⟩
  · cases h
theorem s_whl {c : E} {b : List S} (hb : JSs g q k b) : JS g q k (.whl c b) := by
  intro z X W0 x G F hq h
  unfold chkS at h
  split at h
  · rename_i e w hv
    obtain ⟨p, rfl⟩ := vWhl_ok hv
    simp only [Bool.and_eq_true] at h
    obtain ⟨h1, h2⟩ := h
    refine PS.weaken (ps_while hq (all_T c z X e G F h1).1 (hb z X W0 w G F hq h2)) ?_
    rintro D σ H ⟨W, en, fl, en', S', rfl, ok, le, eo, hm, he⟩
    unfold st at hm
    generalize FUEL = n at hm
    refine ⟨fun m σ H => ∃ W2 en2, Wd.H W2 = H ∧ W2.Ok X.K ∧ Le W0 W2 ∧ Lw W W2 ∧ EnOk X.K W0 W2 en2 σ ∧ whlM (fun en1 => evt g c en1) (fun en1 => sts g b en1) m en2 W2.S = some ((fl, en'), S'), ⟨n, W, en, rfl, ok, le, Lw.refl _, eo, hm⟩, ?_⟩
    rintro m σ1 H1 ⟨W2, en2, rfl, ok2, le2, lw2, eo2, hm2⟩
    cases m with
    | zero => exact (no_inv (S := W2.S) hm2).elim
    | succ m =>
      obtain ⟨t, S1, g1, g2⟩ := bnd_inv (show M.bnd (evt g c en2) (fun t => if t = true then M.bnd (sts g b en2) (fun r => match r.1 with
        | .nx => whlM (fun en1 => evt g c en1) (fun en1 => sts g b en1) m r.2
        | .ct => whlM (fun en1 => evt g c en1) (fun en1 => sts g b en1) m r.2
        | .brk => M.ret (.nx, r.2)
        | .ret d => M.ret (.ret d, r.2)) else M.ret (.nx, en2)) W2.S = some ((fl, en'), S') from hm2)
      refine ⟨W0, W2, en2, rfl, ok2, eo2, t, S1, g1, fun W3 l3 ok3 es3 t' ht => ?_⟩
      subst ht
      have lw3 := lw2.trans l3.lw
      cases t' with
      | false =>
        obtain ⟨rfl, rfl, rfl⟩ := nx_inv g2
        exact iteF (he W3 σ1 ok3 (le2.trans l3) lw3 (eo2.le l3) es3)
      | true =>
        obtain ⟨⟨fl1, en3⟩, S2, g3, g4⟩ := bnd_inv g2
        refine iteT ⟨fun σ' H' => ∃ m', m' < m + 1 ∧ ∃ W2 en2, Wd.H W2 = H' ∧ W2.Ok X.K ∧ Le W0 W2 ∧ Lw W W2 ∧ EnOk X.K W0 W2 en2 σ' ∧ whlM (fun en1 => evt g c en1) (fun en1 => sts g b en1) m' en2 W2.S = some ((fl, en'), S'), fun _ _ h => h, ?_⟩
        refine ⟨W3, en2, fl1, en3, S2, rfl, ok3, le2.trans l3, eo2.le l3, by rw [es3]; exact g3, ?_⟩
        cases fl1 with
        | nx => exact fun W4 σ4 ok4 le4 lw4 eo4 es4 => ⟨m, Nat.lt_succ_self m, W4, en3, rfl, ok4, le4, lw3.trans lw4, eo4, by rw [es4]; exact g4⟩
        | ct => exact fun W4 σ4 ok4 le4 lw4 eo4 es4 => ⟨m, Nat.lt_succ_self m, W4, en3, rfl, ok4, le4, lw3.trans lw4, eo4, by rw [es4]; exact g4⟩
        | brk =>
          obtain ⟨rfl, rfl, rfl⟩ := nx_inv g4
          exact fun W4 σ4 ok4 le4 lw4 eo4 es4 => he W4 σ4 ok4 le4 (lw3.trans lw4) eo4 es4
        | ret d =>
          obtain ⟨rfl, rfl, rfl⟩ := nx_inv g4
          exact fun W4 v ok4 le4 lw4 es4 r => he W4 v ok4 le4 (lw3.trans lw4) es4 r
  · cases h
theorem s_frr {t : Tg} {it : Wi} {b : List S} (hb : JSs g q k b) : JS g q k (.frr t it b) := by
  intro z X W0 x G F hq h
  unfold chkS at h
  split at h
  · rename_i tg e w hv
    obtain ⟨p, rfl⟩ := vFor_ok hv
    simp only [Bool.and_eq_true] at h
    obtain ⟨⟨⟨h1, h2⟩, h3⟩, h4⟩ := h
    refine PS.weaken (ps_for hq G.calm (all_I it z X tg e G F h3) (pg_tg G t tg h1) (hb z X W0 w G F hq h4) (noSet_ok h2 X.env)) ?_
    rintro D σ H ⟨W, en, fl, en', S', rfl, ok, le, eo, hm, he⟩
    unfold st at hm
    obtain ⟨ds, S1, e1, e2⟩ := bnd_inv hm
    refine ⟨W0, W, en, rfl, ok, eo, ds, S1, e1, fun W1 l1 ok1 es1 J wk => ?_⟩
    have lw1 := l1.lw
    refine ⟨fun i m σ H => m = ds.length - i ∧ i ≤ ds.length ∧ ∃ W2 en2, Wd.H W2 = H ∧ W2.Ok X.K ∧ Le W0 W2 ∧ Lw W1 W2 ∧ EnOk X.K W0 W2 en2 σ ∧ forM (fun d en1 => M.opt (asg t d en1)) (fun en1 => sts g b en1) (ds.drop i) en2 W2.S = some ((fl, en'), S'),
      ⟨ds.length, rfl, Nat.zero_le _, W1, en, rfl, ok1, le.trans l1, Lw.refl _, eo.le l1, by rw [es1]; exact e2⟩, ?_⟩
    rintro i m σ1 H1 ⟨rfl, hi, W2, en2, rfl, ok2, le2, lw2, eo2, hm2⟩
    by_cases hlt : i < ds.length
    · refine .inr ⟨wk.go W2 i lw2 ok2 hlt, fun σ H => ∃ W2 en2, Wd.H W2 = H ∧ W2.Ok X.K ∧ Le W0 W2 ∧ Lw W1 W2 ∧ EnOk X.K W0 W2 en2 σ ∧ forM (fun d en1 => M.opt (asg t d en1)) (fun en1 => sts g b en1) (ds.drop (i + 1)) en2 W2.S = some ((fl, en'), S'),
        fun σ' H' hN => ⟨ds.length - (i + 1), by omega, rfl, hlt, hN⟩, fun y H' hy => ?_⟩
      obtain ⟨W3, d, rfl, l3, ok3, es3, hd3, r3⟩ := wk.yl W2 i y H' lw2 ok2 hlt hy
      have hdr : ds.drop i = d :: ds.drop (i + 1) := by
        rw [List.drop_eq_getElem_cons hlt]
        congr 1
        rw [List.getElem?_eq_getElem hlt] at hd3
        exact Option.some.inj hd3
      rw [hdr] at hm2
      obtain ⟨en3, S3, g1, g2⟩ := bnd_inv (show M.bnd (M.opt (asg t d en2)) (fun en1 => M.bnd (sts g b en1) fun r => match r.1 with
        | .nx => forM (fun d en1 => M.opt (asg t d en1)) (fun en1 => sts g b en1) (ds.drop (i + 1)) r.2
        | .ct => forM (fun d en1 => M.opt (asg t d en1)) (fun en1 => sts g b en1) (ds.drop (i + 1)) r.2
        | .brk => M.ret (.nx, r.2)
        | .ret d => M.ret (.ret d, r.2)) W2.S = some ((fl, en'), S') from hm2)
      obtain ⟨g3, rfl⟩ := opt_inv g1
      obtain ⟨⟨fl1, en4⟩, S4, g4, g5⟩ := bnd_inv g2
      have lw3 := lw2.trans l3.lw
      refine ⟨W0, W3, en2, d, en3, rfl, ok3, eo2.le l3, r3, g3, fun σ2 eo4 _ => ?_⟩
      refine ⟨W3, en3, fl1, en4, S4, rfl, ok3, le2.trans l3, eo4, by rw [es3]; exact g4, ?_⟩
      cases fl1 with
      | nx => exact fun W4 σ4 ok4 le4 lw4 eo4 es4 => ⟨W4, en4, rfl, ok4, le4, lw3.trans lw4, eo4, by rw [es4]; exact g5⟩
      | ct => exact fun W4 σ4 ok4 le4 lw4 eo4 es4 => ⟨W4, en4, rfl, ok4, le4, lw3.trans lw4, eo4, by rw [es4]; exact g5⟩
      | brk =>
        obtain ⟨rfl, rfl, rfl⟩ := nx_inv g5
        exact fun W4 σ4 ok4 le4 lw4 eo4 es4 => he W4 σ4 ok4 le4 ((lw1.trans lw3).trans lw4) eo4 es4
      | ret d =>
        obtain ⟨rfl, rfl, rfl⟩ := nx_inv g5
        exact fun W4 v ok4 le4 lw4 es4 r => he W4 v ok4 le4 ((lw1.trans lw3).trans lw4) es4 r
    · have e0 : i = ds.length := by omega
      subst e0
      rw [List.drop_length] at hm2
      obtain ⟨rfl, rfl, rfl⟩ := nx_inv (show M.ret (Fl.nx, en2) W2.S = some ((fl, en'), S') from hm2)
      exact .inl ⟨wk.st W2 lw2 ok2, he W2 σ1 ok2 le2 (lw1.trans lw2) eo2 rfl⟩
  · cases h
theorem ss_nil : JSs g q k [] := by
  intro z X W0 x G F hq h
  cases x with
  | nil =>
    refine PSs.weaken pss_nil ?_
    rintro D σ H ⟨W, en, fl, en', S', rfl, ok, le, eo, hm, he⟩
    obtain ⟨rfl, rfl, rfl⟩ := nx_inv (show M.ret (Fl.nx, en) W.S = some ((fl, en'), S') from hm)
    exact he W σ ok le (Lw.refl _) eo rfl
  | cons a b => cases h
theorem sts_inv {s : S} {r : List S} {en en' : En} {fl : Fl} {S S' : Sto} (h : sts g (s :: r) en S = some ((fl, en'), S')) : ∃ fl1 en1 S1, st g s en S = some ((fl1, en1), S1) ∧ (match fl1 with
    | .nx => sts g r en1
    | _ => M.ret (fl1, en1)) S1 = some ((fl, en'), S') := by
  unfold sts at h
  obtain ⟨⟨fl1, en1⟩, S1, h1, h2⟩ := bnd_inv h
  refine ⟨fl1, en1, S1, h1, ?_⟩
  cases fl1 <;> exact h2
theorem ss_cons {s : S} {r : List S} {z : Zs} {X : Cx} {W0 : Wd} {x : Stmt} {xs : List Stmt} (h1 : PS X x (tS X.K W0 (st g s))) (h2 : PSs X xs (tS X.K W0 (sts g r))) : PSs X (x :: xs) (tS X.K W0 (sts g (s :: r))) := by
  refine PSs.weaken (pss_cons h1 h2) ?_
  rintro D σ H ⟨W, en, fl, en', S', rfl, ok, le, eo, hm, he⟩
  obtain ⟨fl1, en1, S1, e1, e2⟩ := sts_inv hm
  refine ⟨W, en, fl1, en1, S1, rfl, ok, le, eo, e1, ?_⟩
  cases fl1 with
  | nx => exact fun W1 σ1 ok1 le1 lw1 eo1 es1 => ⟨W1, en1, fl, en', S', rfl, ok1, le1, eo1, by rw [es1]; exact e2, he.lw lw1⟩
  | brk =>
    obtain ⟨rfl, rfl, rfl⟩ := nx_inv e2
    exact he
  | ct =>
    obtain ⟨rfl, rfl, rfl⟩ := nx_inv e2
    exact he
  | ret d =>
    obtain ⟨rfl, rfl, rfl⟩ := nx_inv e2
    exact he
theorem ss_frz {i : Nat} {r : List S} {X : Cx} {W0 : Wd} {xs : List Stmt} (h2 : PSs X xs (tS X.K W0 (sts g r))) : PSs X xs (tS X.K W0 (sts g (.frz i :: r))) := by
  refine PSs.weaken h2 ?_
  rintro D σ H ⟨W, en, fl, en', S', rfl, ok, le, eo, hm, he⟩
  obtain ⟨fl1, en1, S1, e1, e2⟩ := sts_inv hm
  unfold st at e1
  obtain ⟨en2, S2, e3, e4⟩ := bnd_inv e1
  obtain ⟨e5, rfl⟩ := opt_inv e3
  obtain ⟨rfl, rfl, rfl⟩ := nx_inv e4
  unfold frzE at e5
  split at e5
  · rename_i xs hx
    cases e5
    obtain ⟨W1, h1, h2, ok1, le1, lw1, eo1⟩ := eo.fzO hx ok le
    exact ⟨W1, _, fl, en', S', h1, ok1, le1, eo1, by rw [h2]; exact e2, he.lw lw1⟩
  · cases e5
    exact ⟨W, _, fl, en', S', rfl, ok, le, eo, e2, he⟩
  · cases e5
theorem ss_never {r : List S} {X : Cx} {W0 : Wd} {xs : List Stmt} : PSs X xs (tS X.K W0 (sts g (.never :: r))) := by
  refine PSs.weaken pss_never ?_
  rintro D σ H ⟨W, en, fl, en', S', rfl, ok, le, eo, hm, he⟩
  obtain ⟨fl1, en1, S1, e1, e2⟩ := sts_inv hm
  exact (no_inv (S := W.S) e1).elim
mutual
theorem all_S : ∀ s : S, JS g q k s
  | .set _ _ => s_set
  | .setc _ _ => s_setc
  | .par _ _ _ _ => s_par
  | .paro _ _ _ _ _ _ => s_paro
  | .par3 _ _ _ _ _ _ => s_par3
  | .brk => s_brk
  | .ct => s_ct
  | .ex _ => s_ex
  | .seto _ _ => s_seto
  | .frz _ => fun _ _ _ _ _ _ _ h => nomatch h
  | .app _ _ => s_app
  | .ext _ _ => s_ext
  | .ife _ a b => s_ife (all_Ss a) (all_Ss b)
  | .whl _ b => s_whl (all_Ss b)
  | .frr _ _ b => s_frr (all_Ss b)
  | .ret _ => s_ret
  | .retn => s_retn
  | .setf _ _ _ => s_setf
  | .seti _ _ _ => s_seti
  | .pass => s_pass
  | .never => s_never
theorem all_Ss : ∀ s : List S, JSs g q k s
  | [] => ss_nil
  | s :: r => by
    intro z X W0 x G F hq h
    have hr := all_Ss r
    have hs := all_S s
    unfold chkSs at h
    split at h
    · exact ss_frz (hr z X W0 x G F hq h)
    · exact ss_never
    · split at h
      · rename_i y ys
        rw [Bool.and_eq_true] at h
        exact ss_cons (z := z) (hs z X W0 y G F hq h.1) (hr z X W0 ys G F hq h.2)
      · cases h
end
end
end Cv

/-! Cv13: defs, the law's end. -/
namespace Cv
open PySem PySem.Spec PyProof.Rows L2

theorem start_at {N : List Str} {vs : List V} {i : Nat} {v : V} (h : vs[i]? = some v) : (L2.start N vs)[i]? = some (some v) := by
  unfold L2.start
  have hl := (List.getElem?_eq_some_iff.mp h).1
  rw [List.getElem?_append_left (by rw [List.length_map]; exact hl), List.getElem?_map, h]
  rfl
theorem enOk_start {K : PySem.W.Frag} {W : Wd} {N : List Str} {vs : List V} {ds : List D} (r : W.Rps K vs ds) : EnOk K W W (startE N.length ds) (L2.start N vs) := by
  have hl := r.len
  have own : ∀ (i : Nat) x, (startE N.length ds)[i]? = some (.own x) → False := fun i x h => by
    unfold startE at h
    by_cases hi : i < ds.length
    · rw [List.getElem?_append_left (by rw [List.length_map]; exact hi), List.getElem?_map] at h
      cases e : ds[i]? with
      | none => rw [e] at h; cases h
      | some d => rw [e] at h; cases h
    · rw [List.getElem?_append_right (by rw [List.length_map]; exact Nat.not_lt.mp hi), List.getElem?_replicate] at h
      split at h <;> cases h
  refine ⟨?_, fun i d h => ?_, fun i xs h => (own i _ h).elim, fun i j x y h => (own i x h).elim⟩
  · unfold startE L2.start
    simp only [List.length_append, List.length_map, List.length_replicate, hl]
  · unfold startE at h
    by_cases hi : i < ds.length
    · rw [List.getElem?_append_left (by rw [List.length_map]; exact hi), List.getElem?_map] at h
      cases e : ds[i]? with
      | none => rw [e] at h; cases h
      | some d0 =>
        rw [e] at h
        cases h
        obtain ⟨v, h1, h2⟩ := r.get e
        exact ⟨v, start_at h1, h2⟩
    · rw [List.getElem?_append_right (by rw [List.length_map]; exact Nat.not_lt.mp hi), List.getElem?_replicate] at h
      split at h <;> cases h
/-- what is known of a def's name -/
def Kn (P : Program) (w : World) (K : PySem.W.Frag) (mg : Str → Option Value) (base : Heap) (k : Nat) (x : Str) (n : Nat) (m : List D → M D) : Prop :=
  ∃ f fd ps, mg x = some (.ref f) ∧ PySem.W.keepIn K (.ref f) = true ∧ FnC P w K mg base k f fd ps m ∧ Binds K fd ps [] ∧ ps.length = n
inductive Kns (P : Program) (w : World) (K : PySem.W.Frag) (mg : Str → Option Value) (base : Heap) (k : Nat) : List (Str × Nat) → List (List D → M D) → Prop
  | nil : Kns P w K mg base k [] []
  | cons {x : Str} {n : Nat} {m : List D → M D} {xs : List (Str × Nat)} {ms : List (List D → M D)} : Kn P w K mg base k x n m → Kns P w K mg base k xs ms → Kns P w K mg base k ((x, n) :: xs) (m :: ms)
/-- what is known of a constant's name -/
def Kg (K : PySem.W.Frag) (mg : Str → Option Value) (x : Str) (d : D) : Prop := ∃ v u, mg x = some u ∧ RelV v u ∧ ∀ F io, Rep K F io v d
inductive Kgs (K : PySem.W.Frag) (mg : Str → Option Value) : List Str → List D → Prop
  | nil : Kgs K mg [] []
  | cons {x : Str} {d : D} {xs : List Str} {ds : List D} : Kg K mg x d → Kgs K mg xs ds → Kgs K mg (x :: xs) (d :: ds)
section
variable {P : Program} {w : World} {K : PySem.W.Frag} {mg : Str → Option Value} {base : Heap}
theorem FnC.mono {j k : Nat} {f : Addr} {fd : FuncData} {ps : List Str} {m : List D → M D} (F : FnC P w K mg base j f fd ps m) (h : j ≤ k) : FnC P w K mg base k f fd ps m :=
  ⟨fun A o s H ar us vs Q hr => F.go A o s H ar us vs Q (hr.mono h)⟩
theorem Kn.mono {j k : Nat} {x : Str} {n : Nat} {m : List D → M D} (h : j ≤ k) : Kn P w K mg base j x n m → Kn P w K mg base k x n m := by
  rintro ⟨f, fd, ps, a, b, c, d, e⟩
  exact ⟨f, fd, ps, a, b, c.mono h, d, e⟩
theorem Kns.at_ {k : Nat} : ∀ {xs : List (Str × Nat)} {ms : List (List D → M D)}, Kns P w K mg base k xs ms → ∀ (j : Nat) x n, xs[j]? = some (x, n) → ∃ m, ms[j]? = some m ∧ Kn P w K mg base k x n m
  | _, _, .nil, j, x, n, h => by simp at h
  | _, _, .cons a r, 0, x, n, h => by
    simp at h
    obtain ⟨rfl, rfl⟩ := h
    exact ⟨_, rfl, a⟩
  | _, _, .cons a r, j + 1, x, n, h => by
    obtain ⟨m, h1, h2⟩ := Kns.at_ r j x n (by simpa using h)
    exact ⟨m, by simpa using h1, h2⟩
theorem Kgs.at_ : ∀ {xs : List Str} {ds : List D}, Kgs K mg xs ds → ∀ (j : Nat) x, xs[j]? = some x → ∃ d, ds[j]? = some d ∧ Kg K mg x d
  | _, _, .nil, j, x, h => by simp at h
  | _, _, .cons a r, 0, x, h => by
    simp at h
    subst h
    exact ⟨_, rfl, a⟩
  | _, _, .cons a r, j + 1, x, h => by
    obtain ⟨d, h1, h2⟩ := Kgs.at_ r j x (by simpa using h)
    exact ⟨d, by simpa using h1, h2⟩
/-- the body runs as the core says -/
theorem body_ok {g : Cf} {q : Ck} {k : Nat} {b : List S} {scope : Scope} {body : List Stmt} {X : Cx} {ps : List Str} (G : Gd q ⟨scope, none⟩ X) (Fs0 : Fs g q k X) (hx : X.xe = fun _ _ => False) (hc : chkSs q b ⟨scope, none⟩ body = true) {vs : List V} {H : Hp} {Q : VK}
    (h : spC X.K (run g ⟨X.N.length, b⟩ ps.length) vs H Q) : ∃ t, PSs X body t ∧ t { nx := fun _ H' => Q .non H', rt := Q } (L2.start X.N vs) H := by
  obtain ⟨W, ds, rfl, ok, r, d, S', e, kk⟩ := h
  refine ⟨tS X.K W (sts g b), all_Ss b ⟨scope, none⟩ X W body G Fs0 (by show PassesOwn _ _ _ _; rw [hx]; exact .never) hc, ?_⟩
  unfold run at e
  by_cases hl : ds.length = ps.length
  · rw [if_pos hl] at e
    obtain ⟨⟨fl, en'⟩, S1, e1, e2⟩ := bnd_inv e
    refine ⟨W, _, fl, en', S1, rfl, ok, Le.refl _, enOk_start r, e1, ?_⟩
    cases fl with
    | nx =>
      obtain ⟨rfl, rfl⟩ := ret_inv e2
      exact fun W' σ' ok' le' lw' eo' es' => kk W' le' ok' es' .non .non
    | ret d0 =>
      obtain ⟨rfl, rfl⟩ := ret_inv e2
      exact fun W' v ok' le' lw' es' rv => kk W' le' ok' es' v rv
    | brk => exact (no_inv (S := S1) e2).elim
    | ct => exact (no_inv (S := S1) e2).elim
  · rw [if_neg hl] at e
    exact (no_inv (S := W.S) e).elim
/-- THE RULE of a def -/
theorem def_C {x qual : Str} {args : Arguments} {body : List Stmt} {scope : Scope} {f : Addr} {fd : FuncData} {N ps : List Str} {g : Cf} {q : Ck} {k : Nat} {b : List S} (D : FunD K x qual args body scope [] [] f fd) (hS : FnScope N ps scope) (hq : q.N = N)
    (hc : chkSs q b ⟨scope, none⟩ body = true) (hb : ∀ y ∈ bNames, mg y = none) (hf : Kns P w K mg base k q.fns g.fn) (hg : Kgs K mg q.gls g.gl) : FnC P w K mg base (k + 1) f fd ps (run g ⟨N.length, b⟩ ps.length) := by
  obtain ⟨oc, od, dV, kV, doc, pm, an, cdv, ct, osl, rfl, lk, hcd, hDf, hKw⟩ := D.ex
  refine ⟨fun A outer s H ar us vs Q room gds env bnds vals wl want => ?_⟩
  have inK : K.In s.heap := env.mod.kin.keeps fun a u z => (env.bs a u z).1
  have noLim : s.heap.NoLimit := env.mod.nolimit.keeps fun a u z => (env.bs a u z).1
  have kinds : ∀ p ∈ ps.zip us, scope.names.lookup p.1 = some .local ∨ (scope.names.lookup p.1 = some .cell ∧ ((cellsFrom (s.heap.objs.size + 1) scope.names []).lookup p.1).isSome = true) := by
    rintro ⟨y, u⟩ hp
    rcases hS.par y (List.of_mem_zip hp).1 with z | z
    · exact .inl z
    · exact .inr ⟨z, PySem.W.cellsFrom_some _ _ _ (.inl z)⟩
  have dep : A.depth < recursionLimit := by have := room.dp; omega
  refine codeAny_call_function dep (inK _ _ lk) rfl hS.co hS.gen rfl (PySem.W.codeRec_of inK hcd) (bnds _ _ _ _ ?_)
  refine wpAny_newFunctionEnv_cells hS.kind kinds fun en hen s1 ic => ?_
  subst hen
  refine ⟨noLim.keeps ic.toInCall.keep, codeAny_func ?_⟩
  have I0 := inv_start (CX := CX0) (E := E0) hS room.hd env wl vals ic
  have I1 := I0.wish (fun _ _ => False)
  have rm := room.deeper (envOfC qual scope s.heap.objs.size f cdv)
  obtain ⟨t, run1, goal⟩ := body_ok (g := g) (q := q) (k := k) (b := b) (scope := scope) (body := body) (ps := ps)
    (X := (cxOf CX0 P w K mg base N qual scope f cdv A outer s H E0).nox) ⟨hq.symm, hS.nd, rfl, fun _ => rfl, rfl, gds, by have := rm.un; show A.units + 3 + 200 < _; have h2 : A.units + 3 + 16 * k + 200 < _ := this; omega, hb⟩
    ⟨fun j y hy => by
      obtain ⟨d, e1, v, u, e2, e3, e4⟩ := hg.at_ j y hy
      exact ⟨d, v, u, e1, e2, e3, e4⟩, fun j y n hy => by
      obtain ⟨m, e1, a, fd', ps', e2, e3, e4, e5, e6⟩ := hf.at_ j y n hy
      exact ⟨m, a, fd', ps', e1, e2, e3, e4, e5, e6⟩, rm⟩ rfl hc want
  refine wpAny_mono (run1.run [] s1 (L2.start N vs) H _ I1 goal) (fun fl s2 post => ?_) fun _ _ z => z.elim
  have done : ∀ {σ2 : L2.St} {H2 : Hp} {v : V} {u : Value}, Inv ((cxOf CX0 P w K mg base N qual scope f cdv A outer s H E0).nox) [] σ2 H2 s2 → RelV v u → Q v H2 → CE outer P w H s Q u s2 :=
    fun {σ2 H2 v u} J rv z => ⟨v, H2, J.os, J.bare, J.base, J.hok, rv, z⟩
  cases fl with
  | ret u =>
    obtain ⟨v, σ2, H2, J, rv, z⟩ := post
    exact done J rv z
  | next =>
    obtain ⟨σ2, H2, J, z⟩ := post
    exact done (v := V.non) (u := Value.none) J rfl z
  | brk => exact (show False from let ⟨_, _, _, z⟩ := post; z).elim
  | cont => exact (show False from let ⟨_, _, _, z⟩ := post; z).elim
theorem def_K {x qual : Str} {args : Arguments} {body : List Stmt} {scope : Scope} {f : Addr} {fd : FuncData} {N ps : List Str} {g : Cf} {q : Ck} {k n : Nat} {b : List S} (D : FunD K x qual args body scope [] [] f fd) (hm : mg x = some (.ref f)) (hS : FnScope N ps scope) (hq : q.N = N) (hn : ps.length = n)
    (hc : chkSs q b ⟨scope, none⟩ body = true) (hb : ∀ y ∈ bNames, mg y = none) (hf : Kns P w K mg base k q.fns g.fn) (hg : Kgs K mg q.gls g.gl) (bd : Binds K fd ps []) : Kn P w K mg base (k + 1) x n (run g ⟨N.length, b⟩ n) := by
  subst hn
  exact ⟨f, fd, ps, hm, D.kp, def_C D hS hq hc hb hf hg, bd, rfl⟩
/-- a def that calls itself, no turn left -/
theorem Kn.no {k : Nat} {x : Str} {n : Nat} {f : Addr} {fd : FuncData} {ps : List Str} (hm : mg x = some (.ref f)) (hk : PySem.W.keepIn K (.ref f) = true) (hb : Binds K fd ps []) (hn : ps.length = n) : Kn P w K mg base k x n (fun _ => M.no) := by
  refine ⟨f, fd, ps, hm, hk, ⟨fun A outer s H ar us vs Q _ _ _ _ _ _ want => ?_⟩, hb, hn⟩
  obtain ⟨W, ds, _, _, _, d, S', e, _⟩ := want
  exact (no_inv (S := W.S) e).elim
end
end Cv

/-! Cv14: the law's call; the module's constants; the head's hook. -/
namespace Cv
open PySem PySem.Spec PyProof.Rows L2

theorem reps_ints {K : PySem.W.Frag} {F : Hp} {io : List Addr} : ∀ ns : List Int, Reps K F io (ns.map V.int) (ns.map D.int)
  | [] => .nil
  | n :: r => .cons (.int n) (reps_ints r)
/-- the law is asked with the script -/
theorem call_C {P : Program} {w : World} {K : PySem.W.Frag} {mg mb : Str → Option Value} {k : Nat} {fa a : Addr} {fd : FuncData} {x : Str} {m : List D → M D} {st : Shared} {its : List Value} {ns : List Int}
    (inK : K.In st.heap) (gns : st.heap.Ns mainGlobals mg) (bns : st.heap.Ns builtinsNs mb) (boots : ∀ y : Str, y ≠ "__name__" → mb y = bootBuiltins y) (free : st.heap.NoLimit) (noG : st.gens = #[])
    (obj : st.heap.get? a = some { cls := .type "list", data := .seq its.toArray }) (nums : IntsAre its ns) (short : ns.length ≤ sizeLine) (room : Room k callerA) (gds : callerA.guards = some [])
    (fn : ∀ base : Heap, K.In base → base.Ns mainGlobals mg → FnC P w K mg base k fa fd [x] m) (bd : ∀ (s : Shared) (u : Value), BindsTo s fd ⟨[u], []⟩ [(x, u)]) (says : ∃ S', m [.lst (ns.map D.int)] [] = some (.bl true, S')) :
    codeAny (model P w) callerA (.call (.ref fa) ⟨[.ref a], []⟩) (fun r s' => r = .ok (.ret (.bool true)) ∧ OldK st.heap s'.heap ∧ s'.os = st.os ∧ AllBare s'.gens) st := by
  have vals := vals_ints nums
  have lens := nums.length
  have main : ∀ H : Hp, (∀ b u, H b = some u → b = a ∧ K.lookup a = none ∧ u = .frz { cls := .type "list", data := .seq its.toArray } (.lst (ns.map V.int))) → LsAt K H a (ns.map V.int) →
      codeAny (model P w) callerA (.call (.ref fa) ⟨[.ref a], []⟩) (fun r s' => r = .ok (.ret (.bool true)) ∧ OldK st.heap s'.heap ∧ s'.os = st.os ∧ AllBare s'.gens) st := by
    intro H only ls
    have heapOk : HOk P w H st.heap := fun b u e => by
      obtain ⟨rfl, _, rfl⟩ := only b u e
      exact ⟨obj, by rw [List.length_map]; exact short, its, _, vals, obj⟩
    have untold : ∀ {b : Addr} {o : Obj} {es : Array DictEntry} {ep : Nat}, st.heap.get? b = some o → o.data = .dict es ep → H b = none := fun {b o es ep} e d => by
      cases q : H b with
      | none => rfl
      | some u =>
        obtain ⟨rfl, _, _⟩ := only b u q
        rw [obj] at e; cases e; cases d
    have nsB : ∀ {b : Addr} {mm : Str → Option Value}, st.heap.Ns b mm → (hidT st.heap H).Ns b mm := fun {b mm} ⟨o, es, ep, e, d, r⟩ => ⟨o, es, ep, hidT_get e (untold e d), d, r⟩
    have inB : K.In (hidT st.heap H) := fun b o e => hidT_get (inK b o e) (by
      cases q : H b with
      | none => rfl
      | some u =>
        obtain ⟨rfl, h2, _⟩ := only b u q
        rw [h2] at e; cases e)
    have modB : Mod K mg (hidT st.heap H) := ⟨inB, nsB gns, ⟨mb, nsB bns, boots⟩, let ⟨mc, h1, h2⟩ := free; ⟨mc, nsB h1, h2⟩⟩
    have env : Env0 P w K mg (hidT st.heap H) callerA [] st H := ⟨rfl, modB, fun b o e => of_hidT e, Nat.le_of_eq (hidT_size _ _), trivial, fun b hb => absurd (show b ∈ ([] : List Addr) from hb) (by simp), heapOk, .of_eq noG⟩
    have want : spC K m [.ref a] H fun v _ => v = .bl true := by
      obtain ⟨S', hs⟩ := says
      refine ⟨⟨H, [], [], H⟩, [.lst (ns.map D.int)], rfl, ⟨fun _ _ e => e, fun n fs e => by simp at e, rfl, List.nodup_nil⟩, .cons (.lst ls (by rw [List.length_map]; exact short) (reps_ints ns)) .nil, .bl true, S', hs, fun W' _ _ _ v r => ?_⟩
      cases r
      rfl
    refine codeAny_mono ((fn _ inB (nsB gns)).go callerA [] st H ⟨[.ref a], []⟩ [.ref a] [.ref a] _ room gds env (bd st (.ref a)) (.cons rfl .nil) rfl want) fun r s' h => ?_
    cases r with
    | error e => exact (show False from h).elim
    | ok fl =>
      cases fl with
      | ret u =>
        obtain ⟨v, H', os, bare, un, _, rv, z⟩ := h
        have z : v = .bl true := z
        subst z
        cases (show u = Value.bool true from rv)
        refine ⟨rfl, OldK.of_keep fun b o e => ?_, os, bare⟩
        cases q : H b with
        | none => exact un.keep b o e q (by intro t; exact absurd (show b ∈ ([] : List Addr) from t) (by simp)) (by simp)
        | some u =>
          obtain ⟨rfl, _, rfl⟩ := only b u q
          have e2 := un.frzs _ _ _ q
          rw [obj] at e; cases e
          exact (‹HOk P w H' s'.heap› _ _ e2).1
      | next => exact (show False from h).elim
      | brk => exact (show False from h).elim
      | cont => exact (show False from h).elim
  cases hk : K.lookup a with
  | some o =>
    have e := inK a o hk
    rw [obj] at e
    cases e
    exact main (fun _ => none) (fun _ _ z => nomatch z) (.inr (.inr ⟨its, _, hk, vals, by rw [lens]; exact short⟩))
  | none =>
    refine main (fun b => if b = a then some (.frz { cls := .type "list", data := .seq its.toArray } (.lst (ns.map V.int))) else none) (fun b u z => ?_) (.inr (.inl ⟨its, _, if_pos rfl⟩))
    have z : (if b = a then some (HO.frz { cls := .type "list", data := .seq its.toArray } (.lst (ns.map V.int))) else none) = some u := z
    by_cases hb : b = a
    · rw [if_pos hb] at z
      exact ⟨hb, hk, (Option.some.inj z).symm⟩
    · rw [if_neg hb] at z; cases z
/-- what the head leaves -/
theorem walk_C {l : PySem.W.OpenLaw} {n k : Nat} {q : Program} {loose : List Str} {XP : (Str → Option Value) → Heap → Prop} {YP : World → Heap → Prop} {d : DefRec} {x : Str} (most : l.most = some n) (line : n ≤ sizeLine) (dfl : d.params.defaults = []) (room : Room k callerA) (gds : callerA.guards = some [])
    (F : ∀ (w : World) (mg : Str → Option Value) (fa : Addr) (h : Heap), YP w h → h.Ns mainGlobals mg → mg d.name = some (.ref fa) → ∃ (K : PySem.W.Frag) (fd : FuncData) (m : List D → M D), K.In h ∧ (∀ (s : Shared) (u : Value), BindsTo s fd ⟨[u], []⟩ [(x, u)]) ∧
      (∀ ns : List Int, ns.length ≤ n → ∃ S', m [.lst (ns.map D.int)] [] = some (.bl true, S')) ∧ ∀ base : Heap, K.In base → base.Ns mainGlobals mg → FnC l.prog w K mg base k fa fd [x] m) :
    PySem.W.WalkO q loose XP YP l.row.toRowW d [] (fun f vs => PySem.call f vs) := by
  refine Att.attach_call most dfl fun w s0 st mg mb fa o pm cd doc a its ns G Y ho hd hcd named obj nums short noG => ?_
  obtain ⟨K, fd, m, inK, bd, says, fn⟩ := F w mg fa _ Y G.T.g named
  exact call_C inK G.T.g G.T.b G.T.builtins G.T.nolimit noG obj nums (Nat.le_trans short line) room gds fn bd (says ns short)

/-! ### constants -/
mutual
/-- the value u, as K has it, is d -/
def isD (K : PySem.W.Frag) : D → Value → Bool
  | .non, .none => true
  | .bl b, .bool c => b == c
  | .int i, .int j _ => decide (i = j)
  | .str s, .str z _ => decide (s = z)
  | .tup ds, .ref a => (match K.lookup a with
    | some ⟨.type c, _, .seq its _, _⟩ => decide (c = "tuple") && decide (its.size ≤ sizeLine) && areD K ds its.toList
    | _ => false)
  | .lst ds, .ref a => (match K.lookup a with
    | some ⟨.type c, none, .seq its _, sl⟩ => decide (c = "list") && decide (its.size ≤ sizeLine) && sl.isEmpty && areD K ds its.toList
    | _ => false)
  | _, _ => false
def areD (K : PySem.W.Frag) : List D → List Value → Bool
  | [], [] => true
  | d :: ds, u :: us => isD K d u && areD K ds us
  | _, _ => false
end

mutual
theorem isD_ok {K : PySem.W.Frag} : ∀ {d : D} {u : Value}, isD K d u = true → ∃ v, RelV v u ∧ ∀ F io, Rep K F io v d
  | .non, .none, _ => ⟨.non, rfl, fun _ _ => .non⟩
  | .bl b, .bool c, h => by
    obtain rfl : b = c := eq_of_beq h
    exact ⟨.bl b, rfl, fun _ _ => .bl b⟩
  | .int i, .int j t, h => by
    obtain rfl : i = j := of_decide_eq_true h
    exact ⟨.int i, ⟨t, rfl⟩, fun _ _ => .int i⟩
  | .str s, .str z t, h => by
    obtain rfl : s = z := of_decide_eq_true h
    exact ⟨.str s, ⟨t, rfl⟩, fun _ _ => .str s⟩
  | .tup ds, .ref a, h => by
    have h : (match K.lookup a with
      | some ⟨.type c, _, .seq its _, _⟩ => decide (c = "tuple") && decide (its.size ≤ sizeLine) && areD K ds its.toList
      | _ => false) = true := h
    split at h
    · rename_i c od its n sl q
      simp only [Bool.and_eq_true, decide_eq_true_eq] at h
      obtain ⟨⟨rfl, h2⟩, h3⟩ := h
      obtain ⟨vs, r1, r2⟩ := areD_ok h3
      have l1 := r1.length
      refine ⟨.ref a, rfl, fun F io => .tup (.inr ⟨_, its, n, q, rfl, rfl, h2, r1⟩) ?_ (r2 F io)⟩
      rw [l1, Array.length_toList]; exact h2
    · cases h
  | .lst ds, .ref a, h => by
    have h : (match K.lookup a with
      | some ⟨.type c, none, .seq its _, sl⟩ => decide (c = "list") && decide (its.size ≤ sizeLine) && sl.isEmpty && areD K ds its.toList
      | _ => false) = true := h
    split at h
    · rename_i c its n sl q
      simp only [Bool.and_eq_true, decide_eq_true_eq] at h
      obtain ⟨⟨⟨rfl, h2⟩, h4⟩, h3⟩ := h
      obtain ⟨vs, r1, r2⟩ := areD_ok h3
      have l1 := r1.length
      have l2 : vs.length ≤ sizeLine := by rw [l1, Array.length_toList]; exact h2
      have e4 : sl = #[] := Array.isEmpty_iff.mp h4
      subst e4
      exact ⟨.ref a, rfl, fun F io => .lst (.inr (.inr ⟨its.toList, n, by rw [q], r1, by rw [Array.length_toList]; exact h2⟩)) l2 (r2 F io)⟩
    · cases h
  | .non, .bool _, h => nomatch h
theorem areD_ok {K : PySem.W.Frag} : ∀ {ds : List D} {us : List Value}, areD K ds us = true → ∃ vs, Vals vs us ∧ ∀ F io, Reps K F io vs ds
  | [], [], _ => ⟨[], .nil, fun _ _ => .nil⟩
  | [], _ :: _, h => nomatch h
  | _ :: _, [], h => nomatch h
  | d :: ds, u :: us, h => by
    obtain ⟨h1, h2⟩ := Bool.and_eq_true_iff.mp (show (isD K d u && areD K ds us) = true from h)
    obtain ⟨v, a1, a2⟩ := isD_ok h1
    obtain ⟨vs, b1, b2⟩ := areD_ok h2
    exact ⟨v :: vs, .cons a1 b1, fun F io => .cons (a2 F io) (b2 F io)⟩
end
end Cv

/-! Cv15: the head's facts. -/
namespace Cv
open PySem PySem.Spec PyProof.Rows L2

def csB (cs : List (Str × D)) (K : PySem.W.Frag) : Bool := cs.all fun p => match PySem.W.nsIn K mainGlobals p.1 with
  | some (some u) => isD K p.2 u
  | _ => false
abbrev AlC : Type := He.AlD × Bool
def obsC (fa : List He.Fa) (fn : List He.DefD) (cs : List (Str × D)) (K : PySem.W.Frag) : AlC := (He.obsD fa fn K, csB cs K)
def obsCG (n : Nat) (fa : List He.Fa) (fn : List He.DefD) (cs : List (Str × D)) (at_ : Addr → Option Obj) : AlC := obsC fa fn cs (He.frG at_ (He.asD at_ n))
structure SaysC (fa : List He.Fa) (fn : List He.DefD) (cs : List (Str × D)) (K : PySem.W.Frag) : Prop where
  d : He.SaysD fa fn K
  c : csB cs K = true
def hookC (n : Nat) (fa : List He.Fa) (fn : List He.DefD) (cs : List (Str × D)) : PySem.W.Hook where
  α := AlC
  obs := fun s => obsCG n fa fn cs s.heap.get?
  val := fun _ => (He.valD fn, true)
  says := fun _ h => ∃ K : PySem.W.Frag, K.In h ∧ SaysC fa fn cs K
  of := fun _ _ e => ⟨_, He.frG_in, congrArg Prod.fst e, congrArg Prod.snd e⟩
  keeps := fun _ _ _ ⟨K, hK, c⟩ k => ⟨K, PySem.W.Frag.In.keeps hK k, c⟩
theorem obsCG_eq {n : Nat} {fa : List He.Fa} {fn : List He.DefD} {cs : List (Str × D)} {at_ : Addr → Option Obj} {s : Shared} (h : ∀ a, at_ a = s.heap.get? a) : obsCG n fa fn cs at_ = (hookC n fa fn cs).obs s := by
  have e : at_ = s.heap.get? := funext h
  subst e
  rfl
section
variable {fa : List He.Fa} {fn : List He.DefD} {cs : List (Str × D)} {K : PySem.W.Frag} {h : Heap} {mg : Str → Option Value}
theorem free_all {r : List He.Fa} (X : K.In h) (G : h.Ns mainGlobals mg) (c : SaysC (bNames.map He.Fa.free ++ r) fn cs K) : ∀ y ∈ bNames, mg y = none := by
  intro y hy
  obtain ⟨i, hi, e⟩ := List.getElem_of_mem hy
  refine He.free_ok X G (x := y) (c.d.fact i (f := .free y) ?_)
  rw [List.getElem?_append_left (by rw [List.length_map]; exact hi), List.getElem?_map, List.getElem?_eq_getElem hi, e]
  rfl
theorem kg_at (X : K.In h) (G : h.Ns mainGlobals mg) (c : SaysC fa fn cs K) (i : Nat) {x : Str} {d : D} (e : cs[i]? = some (x, d)) : Kg K mg x d := by
  have h1 := List.all_eq_true.mp c.c (x, d) (List.mem_of_getElem? e)
  have h1 : (match PySem.W.nsIn K mainGlobals x with
    | some (some u) => isD K d u
    | _ => false) = true := h1
  split at h1
  · rename_i u hu
    obtain ⟨v, h2, h3⟩ := isD_ok h1
    exact ⟨v, u, PySem.W.mg_of X G hu, h2, h3⟩
  · cases h1
end
end Cv

/-! Cv16: reckoning with the evaluator, no program in sight. -/
namespace Cv
open PySem
section
variable {α β : Type} {g : Cf} {en : En} {S : Sto}
@[simp] theorem x_ret (a : α) : M.ret a S = some (a, S) := rfl
@[simp] theorem x_bnd (m : M α) (f : α → M β) : M.bnd m f S = match m S with
  | none => none
  | some (a, S1) => f a S1 := rfl
@[simp] theorem x_ite {c : Prop} [Decidable c] (a b : M α) : (if c then a else b) S = if c then a S else b S := by split <;> rfl
@[simp] theorem x_opt (a : α) : M.opt (some a) S = some (a, S) := rfl
@[simp] theorem x_isI (i : Int) : isI (.int i) S = some (i, S) := rfl
@[simp] theorem x_isB (i : Bool) : isB (.bl i) S = some (i, S) := rfl
@[simp] theorem x_isO (i : Nat) : isO (.obj i) S = some (i, S) := rfl
@[simp] theorem x_isL (i : List D) : isL (.lst i) S = some (i, S) := rfl
@[simp] theorem x_var (i : Nat) : ev g (.var i) en = M.opt (getV en i) := by rw [ev]
@[simp] theorem x_glo (i : Nat) : ev g (.glo i) en = M.opt g.gl[i]? := by rw [ev]
@[simp] theorem x_int (i : Int) : ev g (.int i) en S = some (.int i, S) := by rw [ev]; rfl
@[simp] theorem x_str (i : Str) : ev g (.str i) en S = some (.str i, S) := by rw [ev]; rfl
@[simp] theorem x_bl (i : Bool) : ev g (.bl i) en S = some (.bl i, S) := by rw [ev]; rfl
@[simp] theorem x_non : ev g .non en S = some (.non, S) := by rw [ev]; rfl
@[simp] theorem g_no (r : En) : getV (.no :: r) 0 = none := rfl
@[simp] theorem g_val (d : D) (r : En) : getV (.val d :: r) 0 = some d := rfl
@[simp] theorem g_own (d : Ow) (r : En) : getV (.own d :: r) 0 = none := rfl
@[simp] theorem g_suc (x : Sl) (r : En) (i : Nat) : getV (x :: r) (i + 1) = getV r i := by
  show (match (x :: r)[i + 1]? with
    | some (.val d) => some d
    | _ => none) = _
  rw [List.getElem?_cons_succ]
  rfl
theorem atD_nat (xs : List α) (n : Nat) : atD xs (n : Int) = xs[n]? := by
  cases e : xs[n]? with
  | some v => exact L2.atI_nat e
  | none =>
    have h := List.getElem?_eq_none_iff.mp e
    show (L2.ixN xs.length (n : Int)).bind (fun j => xs[j]?) = none
    unfold L2.ixN
    rw [if_pos (by omega), if_neg (by omega)]
    rfl
@[simp] theorem at_0 (xs : List α) : atD xs 0 = xs[0]? := atD_nat xs 0
@[simp] theorem at_1 (xs : List α) : atD xs 1 = xs[1]? := atD_nat xs 1
@[simp] theorem at_2 (xs : List α) : atD xs 2 = xs[2]? := atD_nat xs 2
@[simp] theorem at_3 (xs : List α) : atD xs 3 = xs[3]? := atD_nat xs 3
@[simp] theorem at_4 (xs : List α) : atD xs 4 = xs[4]? := atD_nat xs 4
theorem at_i {xs : List α} {i : Int} {a : α} (h0 : 0 ≤ i) (h : xs[i.toNat]? = some a) : atD xs i = some a := by
  have e : i = ((i.toNat : Nat) : Int) := by omega
  rw [e, atD_nat]; exact h
@[simp] theorem ix_tup (xs : List D) (i : Int) : idxD (.tup xs) (.int i) = atD xs i := rfl
@[simp] theorem ix_lst (xs : List D) (i : Int) : idxD (.lst xs) (.int i) = atD xs i := rfl
@[simp] theorem b_add (a b : Int) : binD .add (.int a) (.int b) = some (.int (a + b)) := rfl
@[simp] theorem b_sub (a b : Int) : binD .sub (.int a) (.int b) = some (.int (a - b)) := rfl
@[simp] theorem b_mul (a b : Int) : binD .mul (.int a) (.int b) = if sm a && sm b then some (.int (a * b)) else none := rfl
@[simp] theorem b_fdiv (a b : Int) : binD .fdiv (.int a) (.int b) = if decide (b ≠ 0) && sm b then some (.int (a.fdiv b)) else none := rfl
@[simp] theorem b_mod (a b : Int) : binD .mod (.int a) (.int b) = if b ≠ 0 then some (.int (a.fmod b)) else none := rfl
@[simp] theorem b_pow (a b : Int) : binD .pow (.int a) (.int b) = if decide (0 ≤ b) && decide (b ≤ 1000) && decide (a.natAbs < 2 ^ 64) then some (.int (a ^ b.toNat)) else none := rfl
@[simp] theorem b_addL (a b : List D) : binD .add (.lst a) (.lst b) = if a.length + b.length ≤ sizeLine then some (.lst (a ++ b)) else none := rfl
@[simp] theorem b_addT (a b : List D) : binD .add (.tup a) (.tup b) = if a.length + b.length ≤ sizeLine then some (.tup (a ++ b)) else none := rfl
@[simp] theorem c_lt (a b : Int) : cmpD .lt (.int a) (.int b) = some (decide (a < b)) := rfl
@[simp] theorem c_le (a b : Int) : cmpD .le (.int a) (.int b) = some (decide (a ≤ b)) := rfl
@[simp] theorem c_gt (a b : Int) : cmpD .gt (.int a) (.int b) = some (decide (b < a)) := rfl
@[simp] theorem c_ge (a b : Int) : cmpD .ge (.int a) (.int b) = some (decide (b ≤ a)) := rfl
end
theorem shp_int (a : Int) : shp (.int a) = true := rfl
@[simp] theorem c_eq (a b : Int) : cmpD .eq (.int a) (.int b) = some (a == b) := by
  show (if shp (.int a) && shp (.int b) then some (PyData.eqv (.int a) (.int b)) else none) = _
  rw [shp_int, shp_int]
  simp [PyData.eqv]
@[simp] theorem c_ne (a b : Int) : cmpD .ne (.int a) (.int b) = some (!(a == b)) := by
  show (if shp (.int a) && shp (.int b) then some (!PyData.eqv (.int a) (.int b)) else none) = _
  rw [shp_int, shp_int]
  simp [PyData.eqv]
theorem sm_of {i : Int} (h : i.natAbs < 2 ^ 4000) : sm i = true := by
  unfold sm
  rw [decide_eq_true_eq]
  by_cases h0 : i.natAbs = 0
  · rw [h0]; decide
  · exact Nat.lt_trans ((Nat.log2_lt h0).mpr h) (by decide)

@[simp] theorem f_lenL (xs : List D) : b1D .len (.lst xs) = some (.int xs.length) := rfl
@[simp] theorem f_lenT (xs : List D) : b1D .len (.tup xs) = some (.int xs.length) := rfl
@[simp] theorem f_listL (xs : List D) : b1D .list (.lst xs) = some (.lst xs) := rfl
@[simp] theorem f_listT (xs : List D) : b1D .list (.tup xs) = some (.lst xs) := rfl
@[simp] theorem f_tupL (xs : List D) : b1D .tuple (.lst xs) = some (.tup xs) := rfl
@[simp] theorem f_tupT (xs : List D) : b1D .tuple (.tup xs) = some (.tup xs) := rfl
@[simp] theorem f_abs (i : Int) : b1D .abs (.int i) = some (.int (if i < 0 then -i else i)) := rfl
@[simp] theorem c_eqS (a b : Str) : cmpD .eq (.str a) (.str b) = some (a == b) := rfl
@[simp] theorem c_neS (a b : Str) : cmpD .ne (.str a) (.str b) = some (!(a == b)) := rfl
/-! ### repr -/
mutual
/-- leaves that are not too long -/
def D.lf : D → Bool
  | .non => true
  | .bl _ => true
  | .int i => decide (i.natAbs.log2 < 1920)
  | .str s => s.cps.toList.all fun c => decide (c < 16 ^ 8)
  | .tup xs => D.lfs xs
  | .lst xs => D.lfs xs
  | .dct _ _ => false
  | .set _ => false
  | .obj _ => false
  | .fn _ => false
def D.lfs : List D → Bool
  | [] => true
  | x :: xs => D.lf x && D.lfs xs
end
mutual
theorem lf_ok : ∀ {d : D}, d.lf = true → d.pl = true ∧ d.py.showable = true ∧ d.py.leavesShort 1922 = true
  | .non, _ => ⟨rfl, rfl, rfl⟩
  | .bl _, _ => ⟨rfl, rfl, rfl⟩
  | .int i, h => by
    have h : i.natAbs.log2 < 1920 := of_decide_eq_true h
    refine ⟨rfl, decide_eq_true h, ?_⟩
    have e := int_text_length_le (a := i) (k := 1920) (by decide) h
    show decide ((PyData.shown (.int i)).length ≤ 1922) = true
    rw [decide_eq_true_eq]
    show (Str.ofString (toString i)).length ≤ _
    rw [ofString_length]
    omega
  | .str s, h => ⟨rfl, rfl, h⟩
  | .tup xs, h => by
    obtain ⟨a, b, c⟩ := lfs_ok (ds := xs) h
    exact ⟨a, b, c⟩
  | .lst xs, h => by
    obtain ⟨a, b, c⟩ := lfs_ok (ds := xs) h
    exact ⟨a, b, c⟩
theorem lfs_ok : ∀ {ds : List D}, D.lfs ds = true → D.pls ds = true ∧ PyData.showableAll (D.pys ds) = true ∧ PyData.leavesShortAll 1922 (D.pys ds) = true
  | [], _ => ⟨rfl, rfl, rfl⟩
  | d :: ds, h => by
    have h := Bool.and_eq_true_iff.mp (show (d.lf && D.lfs ds) = true from h)
    obtain ⟨a, b, c⟩ := lf_ok h.1
    obtain ⟨a2, b2, c2⟩ := lfs_ok h.2
    exact ⟨Bool.and_eq_true_iff.mpr ⟨a, a2⟩, Bool.and_eq_true_iff.mpr ⟨b, b2⟩, Bool.and_eq_true_iff.mpr ⟨c, c2⟩⟩
end
theorem repr_ok {d : D} (h : d.lf = true) (hd : d.py.depth ≤ 100) (hb : d.py.bulk ≤ 8000) : b1D .repr d = some (.str d.py.shown) := by
  obtain ⟨a, b, c⟩ := lf_ok h
  have hs := PyData.shown_le_bulk 1922 (by decide) d.py c
  have hz : d.py.shown.length ≤ sizeLine := by
    rw [sizeLine_eq]
    have : (1922 + 2) * d.py.bulk ≤ 1924 * 8000 := Nat.mul_le_mul_left _ hb
    omega
  show (if reprOk d then some (D.str d.py.shown) else none) = _
  rw [if_pos]
  unfold reprOk
  rw [a, b, decide_eq_true hd, decide_eq_true hz]
  rfl
theorem lf_int {i : Int} (h : i.natAbs < 2 ^ 1900) : (D.int i).lf = true := by
  show decide (i.natAbs.log2 < 1920) = true
  rw [decide_eq_true_eq]
  by_cases h0 : i.natAbs = 0
  · rw [h0]; decide
  · exact Nat.lt_trans ((Nat.log2_lt h0).mpr h) (by decide)
theorem sts_go {g : Cf} {s : S} {r : List S} {en en1 : En} {S0 S1 : Sto} {o : Option ((Fl × En) × Sto)} (h1 : st g s en S0 = some ((.nx, en1), S1)) (h2 : sts g r en1 S1 = o) : sts g (s :: r) en S0 = o := by
  rw [sts, x_bnd, h1]
  exact h2
theorem sts_end {g : Cf} {en : En} {S0 : Sto} : sts g [] en S0 = some ((.nx, en), S0) := by rw [sts]; rfl
theorem sts_ret {g : Cf} {s : S} {r : List S} {en en1 : En} {d : D} {S0 S1 : Sto} (h1 : st g s en S0 = some ((.ret d, en1), S1)) : sts g (s :: r) en S0 = some ((.ret d, en1), S1) := by
  rw [sts, x_bnd, h1]
  rfl
theorem sts_fin {g : Cf} {e : E} {r : List S} {en : En} {d : D} {S0 S1 : Sto} (h1 : ev g e en S0 = some (d, S1)) : sts g (.ret e :: r) en S0 = some ((.ret d, en), S1) := by
  refine sts_ret ?_
  rw [st, x_bnd, h1]
  rfl
theorem st_set {g : Cf} {t : Tg} {e : E} {en en1 : En} {d : D} {S0 S1 : Sto} (h1 : ev g e en S0 = some (d, S1)) (h2 : asg t d en = some en1) : st g (.set t e) en S0 = some ((.nx, en1), S1) := by
  rw [st, x_bnd, h1]
  show M.bnd (M.opt (asg t d en)) _ S1 = _
  rw [h2]
  rfl
theorem run_go {g : Cf} {n k : Nat} {b : List S} {ds : List D} {en : En} {d : D} {S0 S1 : Sto} (hk : ds.length = k) (h : sts g b (startE n ds) S0 = some ((.ret d, en), S1)) : run g ⟨n, b⟩ k ds S0 = some (d, S1) := by
  unfold run
  rw [if_pos hk, x_bnd, h]
  rfl
theorem st_ifT {g : Cf} {c : E} {a b : List S} {en : En} {S0 S1 : Sto} {o : Option ((Fl × En) × Sto)} (h : evt g c en S0 = some (true, S1)) (h2 : sts g a en S1 = o) : st g (.ife c a b) en S0 = o := by
  rw [st, x_bnd, h]
  exact h2
theorem st_ifF {g : Cf} {c : E} {a b : List S} {en : En} {S0 S1 : Sto} {o : Option ((Fl × En) × Sto)} (h : evt g c en S0 = some (false, S1)) (h2 : sts g b en S1 = o) : st g (.ife c a b) en S0 = o := by
  rw [st, x_bnd, h]
  exact h2
theorem ev_bin {g : Cf} {o : Bo} {a b : E} {en : En} {x y z : D} {S0 S1 S2 : Sto} (h1 : ev g a en S0 = some (x, S1)) (h2 : ev g b en S1 = some (y, S2)) (h3 : binD o x y = some z) : ev g (.bin o a b) en S0 = some (z, S2) := by
  rw [ev, x_bnd, h1]
  dsimp only
  rw [x_bnd, h2]
  dsimp only
  rw [h3]
  rfl
theorem ev_tup1 {g : Cf} {a : E} {en : En} {x : D} {S0 S1 : Sto} (h1 : ev g a en S0 = some (x, S1)) : ev g (.tup (.c a .n)) en S0 = some (.tup [x], S1) := by
  rw [ev, x_bnd, evs, x_bnd, h1]
  dsimp only
  rw [x_bnd, evs]
  rfl
theorem cat_t {xs ys : List D} (h : xs.length + ys.length ≤ sizeLine) : binD .add (.tup xs) (.tup ys) = some (.tup (xs ++ ys)) := if_pos h
theorem st_whl {g : Cf} {c : E} {b : List S} {en : En} : st g (.whl c b) en = whlM (fun en1 => evt g c en1) (fun en1 => sts g b en1) FUEL en := by rw [st]
theorem st_frr {g : Cf} {t : Tg} {it : Wi} {b : List S} {en : En} {S0 S1 : Sto} {ds : List D} {o : Option ((Fl × En) × Sto)} (h : evi g it en S0 = some (ds, S1)) (h2 : forM (fun d en1 => M.opt (asg t d en1)) (fun en1 => sts g b en1) ds en S1 = o) : st g (.frr t it b) en S0 = o := by
  rw [st, x_bnd, h]
  exact h2
theorem whl_go {c : En → M Bool} {b : En → M (Fl × En)} {n : Nat} {en en1 : En} {S0 S1 S2 : Sto} {o : Option ((Fl × En) × Sto)} (h1 : c en S0 = some (true, S1)) (h2 : b en S1 = some ((.nx, en1), S2)) (h3 : whlM c b n en1 S2 = o) : whlM c b (n + 1) en S0 = o := by
  rw [whlM, x_bnd, h1]
  show M.bnd (b en) _ S1 = o
  rw [x_bnd, h2]
  exact h3
theorem whl_end {c : En → M Bool} {b : En → M (Fl × En)} {n : Nat} {en : En} {S0 S1 : Sto} (h1 : c en S0 = some (false, S1)) : whlM c b (n + 1) en S0 = some ((.nx, en), S1) := by
  rw [whlM, x_bnd, h1]
  rfl
theorem for_nil {a : D → En → M En} {b : En → M (Fl × En)} {en : En} {S0 : Sto} : forM a b [] en S0 = some ((.nx, en), S0) := rfl
theorem for_go {a : D → En → M En} {b : En → M (Fl × En)} {x : D} {xs : List D} {en en1 en2 : En} {S0 S1 S2 : Sto} {o : Option ((Fl × En) × Sto)} (h1 : a x en S0 = some (en1, S1)) (h2 : b en1 S1 = some ((.nx, en2), S2)) (h3 : forM a b xs en2 S2 = o) : forM a b (x :: xs) en S0 = o := by
  rw [forM, x_bnd, h1]
  show M.bnd (b en1) _ S1 = o
  rw [x_bnd, h2]
  exact h3
theorem lt_fuel {n : Nat} (h : n < 2 ^ 4000) : n < FUEL := Nat.lt_of_lt_of_le h (Nat.pow_le_pow_right (by decide) (by decide))
/-- a loop with an invariant, by the turn -/
theorem for_inv {a : D → En → M En} {b : En → M (Fl × En)} (I : Nat → En → Sto → Prop) (N : Nat) (hb : ∀ (x : D) (n : Nat) (en : En) (S0 : Sto), n < N → I n en S0 → ∃ en1 S1 en2 S2, a x en S0 = some (en1, S1) ∧ b en1 S1 = some ((.nx, en2), S2) ∧ I (n + 1) en2 S2) :
    ∀ (xs : List D) (n : Nat) (en : En) (S0 : Sto), n + xs.length ≤ N → I n en S0 → ∃ en' S', forM a b xs en S0 = some ((.nx, en'), S') ∧ I (n + xs.length) en' S'
  | [], n, en, S0, _, h => ⟨en, S0, rfl, h⟩
  | x :: xs, n, en, S0, hn, h => by
    rw [List.length_cons] at hn
    obtain ⟨en1, S1, en2, S2, e1, e2, h2⟩ := hb x n en S0 (by omega) h
    obtain ⟨en', S', e3, h3⟩ := for_inv I N hb xs (n + 1) en2 S2 (by omega) h2
    refine ⟨en', S', for_go e1 e2 e3, ?_⟩
    rw [List.length_cons, show n + (xs.length + 1) = n + 1 + xs.length by omega]
    exact h3
/-- a loop over the items, the done ones told -/
theorem for_items {α : Type} {f : α → D} {a : D → En → M En} {b : En → M (Fl × En)} {ps : List α} (I : List α → En → Sto → Prop) (hb : ∀ (l : List α) (x : α) (r : List α) (en : En) (S0 : Sto), ps = l ++ x :: r → I l en S0 → ∃ en1 S1 en2 S2, a (f x) en S0 = some (en1, S1) ∧ b en1 S1 = some ((.nx, en2), S2) ∧ I (l ++ [x]) en2 S2) :
    ∀ (xs l : List α) (en : En) (S0 : Sto), ps = l ++ xs → I l en S0 → ∃ en' S', forM a b (xs.map f) en S0 = some ((.nx, en'), S') ∧ I ps en' S'
  | [], l, en, S0, hp, h => ⟨en, S0, rfl, by rw [hp, List.append_nil]; exact h⟩
  | x :: xs, l, en, S0, hp, h => by
    obtain ⟨en1, S1, en2, S2, e1, e2, h2⟩ := hb l x xs en S0 hp h
    obtain ⟨en', S', e3, h3⟩ := for_items I hb xs (l ++ [x]) en2 S2 (by rw [hp]; simp) h2
    exact ⟨en', S', for_go e1 e2 e3, h3⟩
theorem lcm_nil {t : D → M Bool} {f : D → M D} {S0 : Sto} : lcM t f [] S0 = some ([], S0) := rfl
theorem lcm_go {t : D → M Bool} {f : D → M D} {x y : D} {xs ys : List D} {S0 S1 S2 S3 : Sto} (h1 : t x S0 = some (true, S1)) (h2 : f x S1 = some (y, S2)) (h3 : lcM t f xs S2 = some (ys, S3)) : lcM t f (x :: xs) S0 = some (y :: ys, S3) := by
  rw [lcM, x_bnd, h1]
  show M.bnd (f x) _ S1 = _
  rw [x_bnd, h2]
  show M.bnd (lcM t f xs) _ S2 = _
  rw [x_bnd, h3]
  rfl
theorem lcm_skip {t : D → M Bool} {f : D → M D} {x : D} {xs : List D} {S0 S1 : Sto} {o : Option (List D × Sto)} (h1 : t x S0 = some (false, S1)) (h3 : lcM t f xs S1 = o) : lcM t f (x :: xs) S0 = o := by
  rw [lcM, x_bnd, h1]
  exact h3
/-- a comprehension over the items, one way for each -/
theorem lcm_map {α β : Type} {f : α → D} {h : β → D} {t : D → M Bool} {el : D → M D} {S0 : Sto} (k : α → β) : ∀ (xs : List α), (∀ x ∈ xs, t (f x) S0 = some (true, S0) ∧ el (f x) S0 = some (h (k x), S0)) → lcM t el (xs.map f) S0 = some (xs.map fun x => h (k x), S0)
  | [], _ => rfl
  | x :: xs, hp => by
    obtain ⟨h1, h2⟩ := hp x List.mem_cons_self
    exact lcm_go h1 h2 (lcm_map k xs fun y hy => hp y (List.mem_cons_of_mem _ hy))
theorem ints_map {α : Type} (k : α → Int) : ∀ xs : List α, intsD (xs.map fun x => D.int (k x)) = some (xs.map k)
  | [] => rfl
  | x :: xs => by
    show (intsD (xs.map fun x => D.int (k x))).map (k x :: ·) = _
    rw [ints_map k xs]
    rfl
theorem lfs_map {α : Type} {f : α → D} : ∀ {xs : List α}, (∀ x ∈ xs, (f x).lf = true) → D.lfs (xs.map f) = true
  | [], _ => rfl
  | x :: xs, h => Bool.and_eq_true_iff.mpr ⟨h x List.mem_cons_self, lfs_map fun y hy => h y (List.mem_cons_of_mem _ hy)⟩
theorem dep_map {α : Type} {f : α → D} {n : Nat} : ∀ {xs : List α}, (∀ x ∈ xs, (f x).py.depth ≤ n) → PyData.depthAll (D.pys (xs.map f)) ≤ n
  | [], _ => Nat.zero_le _
  | x :: xs, h => Nat.max_le.mpr ⟨h x List.mem_cons_self, dep_map fun y hy => h y (List.mem_cons_of_mem _ hy)⟩
theorem bulk_map {α : Type} {f : α → D} {n : Nat} : ∀ {xs : List α}, (∀ x ∈ xs, (f x).py.bulk ≤ n) → PyData.bulkAll (D.pys (xs.map f)) ≤ xs.length * (n + 1)
  | [], _ => Nat.zero_le _
  | x :: xs, h => by
    have h1 := h x List.mem_cons_self
    have h2 := bulk_map (xs := xs) fun y hy => h y (List.mem_cons_of_mem _ hy)
    show (f x).py.bulk + 1 + PyData.bulkAll (D.pys (xs.map f)) ≤ _
    rw [List.length_cons, Nat.add_mul]
    omega
/-! ### fractions -/
def lw (x y : Int) : Int × Int := (x.fdiv ((Nat.gcd x.natAbs y.natAbs : Nat) : Int), y.fdiv ((Nat.gcd x.natAbs y.natAbs : Nat) : Int))
def fr (p : Int × Int) : D := .tup [.int p.1, .int p.2]
end Cv

/-! Cv17: pieces that several laws share: the tap, lowest terms, ratio. -/
namespace Cv
open PySem
def c0 : Cf := ⟨[], []⟩
def tk_b : List S := [.set (.nm 2) (.bin .add (.fld (.var 0) "calls") (.int 1)), .setf (.var 0) "calls" (.var 2), .ife (.cmp .gt (.fld (.var 0) "rest") (.int 0)) [.set (.nm 3) (.bin .mod (.fld (.var 0) "rest") (.var 1)), .setf (.var 0) "rest" (.bin .fdiv (.fld (.var 0) "rest") (.var 1)), .ret (.var 3)] [], .set (.nm 4) (.fld (.var 0) "spot"), .setf (.var 0) "spot" (.bin .add (.var 4) (.int 1)), .set (.nm 5) (.fld (.var 0) "cells"), .set (.nm 6) (.ife (.cmp .gt (.b1 .len (.var 5)) (.int 0)) (.idx (.var 5) (.bin .mod (.var 4) (.b1 .len (.var 5)))) (.int 5)), .ife (.and (.cmp .lt (.var 4) (.b1 .len (.var 5))) (.cmp .ge (.var 6) (.bin .pow (.int 10) (.int 18)))) [.setf (.var 0) "rest" (.bin .fdiv (.var 6) (.var 1)), .ret (.bin .mod (.var 6) (.var 1))] [], .set (.nm 7) (.bin .mod (.bin .pow (.bin .add (.bin .add (.bin .mod (.var 6) (.int 2147483629)) (.bin .mul (.int 6007) (.var 2))) (.int 11)) (.int 5)) (.int 2147483647)), .ret (.bin .mod (.bin .fdiv (.bin .mod (.bin .pow (.bin .add (.var 7) (.bin .mul (.bin .mul (.int 4099) (.var 2)) (.var 2))) (.int 5)) (.int 2147483587)) (.int 32)) (.var 1))]
def tk_m : List D → M D := run c0 ⟨8, tk_b⟩ 2
def lo_b1 : List S := [.par 2 3 (.bin .mod (.var 3) (.var 2)) (.var 2)]
def lo_b : List S := [.par 2 3 (.b1 .abs (.var 0)) (.var 1), .whl (.cmp .gt (.var 2) (.int 0)) lo_b1, .ret (.tup (.c (.bin .fdiv (.var 0) (.var 3)) (.c (.bin .fdiv (.var 1) (.var 3)) .n)))]
def lo_m : List D → M D := run c0 ⟨4, lo_b⟩ 2
def ra_b1 : List S := [.par 2 3 (.bin .mod (.var 3) (.var 2)) (.var 2)]
def ra_b : List S := [.par 2 3 (.b1 .abs (.var 0)) (.b1 .abs (.var 1)), .whl (.cmp .gt (.var 2) (.int 0)) ra_b1, .set (.nm 4) (.ife (.cmp .gt (.var 1) (.int 0)) (.var 3) (.bin .sub (.int 0) (.var 3))), .ret (.tup (.c (.bin .fdiv (.var 0) (.var 4)) (.c (.bin .fdiv (.var 1) (.var 4)) .n)))]
def ra_m : List D → M D := run c0 ⟨5, ra_b⟩ 2
/-! ### the tap -/
def tap (cs : List Int) (s r c : Int) : List (Str × D) := [("cells", .lst (cs.map .int)), ("spot", .int s), ("rest", .int r), ("calls", .int c)]
section
variable {cs : List Int} {s r c x : Int}
theorem l_cells : look "cells" (tap cs s r c) = some (.lst (cs.map .int)) := rfl
theorem l_spot : look "spot" (tap cs s r c) = some (.int s) := rfl
theorem l_rest : look "rest" (tap cs s r c) = some (.int r) := rfl
theorem l_calls : look "calls" (tap cs s r c) = some (.int c) := rfl
theorem p_spot : putF "spot" (.int x) (tap cs s r c) = tap cs x r c := rfl
theorem p_rest : putF "rest" (.int x) (tap cs s r c) = tap cs s x c := rfl
theorem p_calls : putF "calls" (.int x) (tap cs s r c) = tap cs s r x := rfl
theorem fmod_pos {a b : Int} (h : 0 < b) : 0 ≤ a.fmod b ∧ a.fmod b < b := by
  rw [Int.fmod_eq_emod_of_nonneg _ (by omega)]
  exact ⟨Int.emod_nonneg _ (by omega), Int.emod_lt_of_pos _ h⟩
theorem fdiv_pos {a b : Int} (h : 0 < b) (ha : 0 ≤ a) : 0 ≤ a.fdiv b := by
  rw [Int.fdiv_eq_ediv_of_nonneg _ (by omega)]
  exact Int.ediv_nonneg ha (by omega)
theorem take_rest {many : Int} (h1 : 0 < many) (h2 : many < 2 ^ 200) (h : 0 < r) : tk_m [.obj 0, .int many] [.fl (tap cs s r c)] = some (.int (r.fmod many), [.fl (tap cs s (r.fdiv many) (c + 1))]) := by
  have e1 : many ≠ 0 := by omega
  have e2 : sm many = true := sm_of (by have : many.natAbs < 2 ^ 200 := by omega
                                        exact Nat.lt_trans this (by decide))
  simp [tk_m, run, tk_b, sts, st, ev, evt, evs, startE, asg, setV, getO, setO, l_cells, l_spot, l_rest, l_calls, p_spot, p_rest, p_calls, h, e1, e2]
theorem sm_lit {i : Int} (h : i.natAbs < 2 ^ 200) : sm i = true := sm_of (Nat.lt_trans h (by decide))
theorem take_big {many : Int} {x : Int} (h1 : 0 < many) (h2 : many < 2 ^ 200) (h : r = 0) (hl : 0 < cs.length) (hx : atD (cs.map D.int) (s.fmod cs.length) = some (.int x)) (hs : s < cs.length) (hb : 10 ^ 18 ≤ x) :
    tk_m [.obj 0, .int many] [.fl (tap cs s r c)] = some (.int (x.fmod many), [.fl (tap cs (s + 1) (x.fdiv many) (c + 1))]) := by
  have e1 : many ≠ 0 := by omega
  have e2 : sm many = true := sm_lit (by omega)
  have e3 : (0 : Int) < cs.length := by omega
  have e4 : ¬ (cs.length = 0) := by omega
  have e5 : cs ≠ [] := by intro z; rw [z] at hl; exact absurd hl (by decide)
  simp at hb
  simp [tk_m, run, tk_b, sts, st, ev, evt, evs, startE, asg, setV, getO, setO, l_cells, l_spot, l_rest, l_calls, p_spot, p_rest, p_calls, h, e1, e2, hl, e4, e5, hx, hs, hb]
theorem take_mix {many : Int} {x : Int} (h1 : 0 < many) (h2 : many < 2 ^ 200) (h : r = 0) (hs0 : 0 ≤ s) (hc : 0 ≤ c) (hc2 : c < 2 ^ 18) (hx : (0 < cs.length ∧ atD (cs.map D.int) (s.fmod cs.length) = some (.int x)) ∨ (cs = [] ∧ x = 5))
    (hb : ¬ (s < cs.length ∧ 10 ^ 18 ≤ x)) : ∃ v, tk_m [.obj 0, .int many] [.fl (tap cs s r c)] = some (.int v, [.fl (tap cs (s + 1) r (c + 1))]) ∧ 0 ≤ v ∧ v < many := by
  have e1 : many ≠ 0 := by omega
  have e2 : sm many = true := sm_lit (by omega)
  have m1 := fmod_pos (a := x) (b := 2147483629) (by decide)
  have s1 : sm (c + 1) = true := sm_lit (by omega)
  have s2 : sm 6007 = true := by decide
  have s3 : sm 4099 = true := by decide
  have s4 : sm 32 = true := by decide
  have p1 : (x.fmod 2147483629 + 6007 * (c + 1) + 11).natAbs < 18446744073709551616 := by omega
  have m2 := fmod_pos (a := (x.fmod 2147483629 + 6007 * (c + 1) + 11) ^ 5) (b := 2147483647) (by decide)
  have s5 : sm (4099 * (c + 1)) = true := sm_lit (by omega)
  have b5 : 0 ≤ 4099 * (c + 1) * (c + 1) ∧ 4099 * (c + 1) * (c + 1) ≤ 2 ^ 31 * 2 ^ 19 := by
    refine ⟨Int.mul_nonneg (by omega) (by omega), Int.mul_le_mul (by omega) (by omega) (by omega) (by omega)⟩
  have p2 : (((x.fmod 2147483629 + 6007 * (c + 1) + 11) ^ 5).fmod 2147483647 + 4099 * (c + 1) * (c + 1)).natAbs < 18446744073709551616 := by omega
  have fin := fmod_pos (a := (((((x.fmod 2147483629 + 6007 * (c + 1) + 11) ^ 5).fmod 2147483647 + 4099 * (c + 1) * (c + 1)) ^ 5).fmod 2147483587).fdiv 32) h1
  refine ⟨_, ?_, fin⟩
  simp at hb
  rcases hx with ⟨hl, hx⟩ | ⟨hl, rfl⟩
  · have e4 : ¬ (cs.length = 0) := by omega
    have e5 : cs ≠ [] := by intro z; rw [z] at hl; exact absurd hl (by decide)
    by_cases h6 : s < cs.length
    · have h7 : ¬ (1000000000000000000 ≤ x) := by have := hb h6; omega
      simp [tk_m, run, tk_b, sts, st, ev, evt, evs, startE, asg, setV, getO, setO, l_cells, l_spot, l_rest, l_calls, p_spot, p_rest, p_calls, h, e1, e2, hl, e4, e5, hx, h6, h7, s1, s2, s3, s4, s5, p1, p2]
    · simp [tk_m, run, tk_b, sts, st, ev, evt, evs, startE, asg, setV, getO, setO, l_cells, l_spot, l_rest, l_calls, p_spot, p_rest, p_calls, h, e1, e2, hl, e4, e5, hx, h6, s1, s2, s3, s4, s5, p1, p2]
  · subst hl
    have h6 : ¬ (s < 0) := by omega
    have e7 : Int.fmod 5 2147483629 = 5 := by decide
    rw [e7] at p1 p2
    simp [tk_m, run, tk_b, sts, st, ev, evt, evs, startE, asg, setV, getO, setO, l_cells, l_spot, l_rest, l_calls, p_spot, p_rest, p_calls, h, e1, e2, h6, s1, s2, s3, s4, s5, p1, p2]
end
/-- the tap after c takes or fewer -/
structure Tp (c : Int) (S : Sto) : Prop where
  ex : ∃ cs s r k, S = [.fl (tap cs s r k)] ∧ 0 ≤ s ∧ 0 ≤ r ∧ 0 ≤ k ∧ k ≤ c
theorem take_ok {c many : Int} {S : Sto} (T : Tp c S) (hc : c < 2 ^ 18) (h1 : 0 < many) (h2 : many < 2 ^ 200) : ∃ v S', tk_m [.obj 0, .int many] S = some (.int v, S') ∧ 0 ≤ v ∧ v < many ∧ Tp (c + 1) S' := by
  obtain ⟨cs, s, r, k, rfl, hs, hr, hk, hkc⟩ := T.ex
  by_cases h : 0 < r
  · have m := fmod_pos (a := r) h1
    exact ⟨_, _, take_rest h1 h2 h, m.1, m.2, ⟨cs, s, _, _, rfl, hs, fdiv_pos h1 hr, by omega, by omega⟩⟩
  · have hr0 : r = 0 := by omega
    have hx : ∃ x, (0 < cs.length ∧ atD (cs.map D.int) (s.fmod cs.length) = some (.int x)) ∨ (cs = [] ∧ x = 5) := by
      by_cases hl : 0 < cs.length
      · have m := fmod_pos (a := s) (b := (cs.length : Int)) (by omega)
        have hj : (s.fmod cs.length).toNat < cs.length := by omega
        exact ⟨cs[(s.fmod cs.length).toNat], .inl ⟨hl, at_i m.1 (by rw [List.getElem?_map, List.getElem?_eq_getElem hj]; rfl)⟩⟩
      · exact ⟨5, .inr ⟨List.eq_nil_of_length_eq_zero (by omega), rfl⟩⟩
    obtain ⟨x, hx⟩ := hx
    by_cases hb : s < cs.length ∧ 10 ^ 18 ≤ x
    · rcases hx with ⟨hl, hx⟩ | ⟨hl, rfl⟩
      · have m := fmod_pos (a := x) h1
        exact ⟨_, _, take_big h1 h2 hr0 hl hx hb.1 hb.2, m.1, m.2, ⟨cs, s + 1, _, _, rfl, by omega, fdiv_pos h1 (by omega), by omega, by omega⟩⟩
      · exact absurd hb.2 (by decide)
    · obtain ⟨v, e, h3, h4⟩ := take_mix h1 h2 hr0 hs hk (by omega) hx hb
      exact ⟨v, _, e, h3, h4, ⟨cs, s + 1, r, _, rfl, by omega, hr, by omega, by omega⟩⟩
theorem Tp.mono {c d : Int} {S : Sto} (T : Tp c S) (h : c ≤ d) : Tp d S := by
  obtain ⟨cs, s, r, k, e, a, b, d, f⟩ := T.ex
  exact ⟨cs, s, r, k, e, a, b, d, by omega⟩
theorem r_loop1 {x y : Int} {S : Sto} : ∀ n, ∀ a b : Nat, a < n → whlM (fun en1 => evt c0 (.cmp .gt (.var 2) (.int 0)) en1) (fun en1 => sts c0 lo_b1 en1) n [.val (.int x), .val (.int y), .val (.int a), .val (.int b)] S = some ((.nx, [.val (.int x), .val (.int y), .val (.int 0), .val (.int (Nat.gcd a b))]), S) := by
  intro n
  induction n with
  | zero => intro a b h; omega
  | succ n ih =>
    intro a b h
    by_cases h0 : a = 0
    · subst h0
      refine (whl_end (S1 := S) ?_).trans ?_
      · simp [evt, ev]
      · simp
    · have hp : 0 < a := by omega
      have hf : Int.fmod (b : Int) (a : Int) = ((b % a : Nat) : Int) := by rw [Int.fmod_eq_emod_of_nonneg _ (by omega)]; rfl
      have hi := ih (b % a) a (by have := Nat.mod_lt b (by omega : a > 0); omega)
      rw [← Nat.gcd_rec] at hi
      exact whl_go (S1 := S) (by simp [evt, ev, hp]) (by simp [lo_b1, sts, st, ev, h0, hf, setV]) hi
theorem r_loop2 {x y : Int} {S : Sto} : ∀ n, ∀ a b : Nat, a < n → whlM (fun en1 => evt c0 (.cmp .gt (.var 2) (.int 0)) en1) (fun en1 => sts c0 ra_b1 en1) n [.val (.int x), .val (.int y), .val (.int a), .val (.int b), .no] S = some ((.nx, [.val (.int x), .val (.int y), .val (.int 0), .val (.int (Nat.gcd a b)), .no]), S) := by
  intro n
  induction n with
  | zero => intro a b h; omega
  | succ n ih =>
    intro a b h
    by_cases h0 : a = 0
    · subst h0
      refine (whl_end (S1 := S) ?_).trans ?_
      · simp [evt, ev]
      · simp
    · have hp : 0 < a := by omega
      have hf : Int.fmod (b : Int) (a : Int) = ((b % a : Nat) : Int) := by rw [Int.fmod_eq_emod_of_nonneg _ (by omega)]; rfl
      have hi := ih (b % a) a (by have := Nat.mod_lt b (by omega : a > 0); omega)
      rw [← Nat.gcd_rec] at hi
      exact whl_go (S1 := S) (by simp [evt, ev, hp]) (by simp [ra_b1, sts, st, ev, h0, hf, setV]) hi
theorem abs_nat (x : Int) : (if x < 0 then -x else x) = (x.natAbs : Int) := by split <;> omega
theorem gcd_pos {x y : Int} (hy : y ≠ 0) : 0 < Nat.gcd x.natAbs y.natAbs := Nat.gcd_pos_of_pos_right _ (by omega)
theorem gcd_sm {x y : Int} (hy : y ≠ 0) (h2 : y.natAbs < 2 ^ 3000) : sm ((Nat.gcd x.natAbs y.natAbs : Nat) : Int) = true := by
  have h := Nat.gcd_le_right (n := y.natAbs) x.natAbs (by omega)
  refine sm_of (Nat.lt_of_le_of_lt (m := y.natAbs) (by omega) (Nat.lt_trans h2 (by decide)))
theorem r_lowest {x y : Int} {S : Sto} (hy : 0 < y) (h1 : x.natAbs < 2 ^ 3000) (h2 : y.natAbs < 2 ^ 3000) : lo_m [.int x, .int y] S = some (fr (lw x y), S) := by
  have l := r_loop1 (x := x) (y := y) (S := S) FUEL x.natAbs y.natAbs (lt_fuel (Nat.lt_trans h1 (by decide)))
  have ey : ((y.natAbs : Nat) : Int) = y := by omega
  rw [ey] at l
  have gp := gcd_pos (x := x) (y := y) (by omega)
  have gs := gcd_sm (x := x) (y := y) (by omega) h2
  have g0 : ¬ (Nat.gcd x.natAbs y.natAbs = 0) := by omega
  generalize hF : FUEL = F at l
  generalize hg : Nat.gcd x.natAbs y.natAbs = gg at l gp gs g0
  have e : lw x y = (x.fdiv (gg : Int), y.fdiv (gg : Int)) := by unfold lw; rw [hg]
  rw [e]
  simp [lo_m, run, lo_b, sts, st, ev, evs, startE, setV, abs_nat, l, hF, gs, g0, fr]
theorem neg_fdiv2 (x g : Int) : x.fdiv (-g) = (-x).fdiv g := by
  have h := Int.neg_fdiv_neg (-x) g
  rw [Int.neg_neg] at h
  exact h
theorem gcd_neg (x y : Int) : Nat.gcd (-x).natAbs (-y).natAbs = Nat.gcd x.natAbs y.natAbs := by rw [Int.natAbs_neg, Int.natAbs_neg]
/-- what the program's ratio gives -/
def rt (x y : Int) : Int × Int := if 0 < y then lw x y else lw (-x) (-y)
theorem r_ratio {x y : Int} {S : Sto} (hy : y ≠ 0) (h1 : x.natAbs < 2 ^ 3000) (h2 : y.natAbs < 2 ^ 3000) : ra_m [.int x, .int y] S = some (fr (rt x y), S) := by
  have l := r_loop2 (x := x) (y := y) (S := S) FUEL x.natAbs y.natAbs (lt_fuel (Nat.lt_trans h1 (by decide)))
  have gp := gcd_pos (x := x) hy
  have gs := gcd_sm (x := x) hy h2
  have g0 : ¬ (Nat.gcd x.natAbs y.natAbs = 0) := by omega
  generalize hF : FUEL = F at l
  generalize hg : Nat.gcd x.natAbs y.natAbs = gg at l gp gs g0
  have gs2 : sm (-(gg : Int)) = true := by
    unfold sm at gs ⊢
    rw [Int.natAbs_neg]
    exact gs
  have l2 : st c0 (.whl (.cmp .gt (.var 2) (.int 0)) ra_b1) [.val (.int x), .val (.int y), .val (.int x.natAbs), .val (.int y.natAbs), .no] S = some ((.nx, [.val (.int x), .val (.int y), .val (.int 0), .val (.int gg), .no]), S) := by
    rw [st_whl, hF]
    exact l
  by_cases hp : 0 < y
  · have e : rt x y = (x.fdiv (gg : Int), y.fdiv (gg : Int)) := by unfold rt lw; rw [if_pos hp, hg]
    rw [e]
    refine run_go rfl (sts_go (S1 := S) (en1 := [.val (.int x), .val (.int y), .val (.int x.natAbs), .val (.int y.natAbs), .no]) (by simp [st, ev, startE, setV, abs_nat]) (sts_go l2 (sts_go (st_set (d := .int gg) (S1 := S) (en1 := [.val (.int x), .val (.int y), .val (.int 0), .val (.int gg), .val (.int gg)]) (by simp [ev, evt, hp]) rfl) (sts_fin ?_))))
    simp [ev, evs, gs, g0, fr]
  · have e : rt x y = (x.fdiv (-(gg : Int)), y.fdiv (-(gg : Int))) := by
      unfold rt lw
      rw [if_neg hp, gcd_neg, hg, neg_fdiv2, neg_fdiv2]
    rw [e]
    refine run_go rfl (sts_go (S1 := S) (en1 := [.val (.int x), .val (.int y), .val (.int x.natAbs), .val (.int y.natAbs), .no]) (by simp [st, ev, startE, setV, abs_nat]) (sts_go l2 (sts_go (st_set (d := .int (-gg)) (S1 := S) (en1 := [.val (.int x), .val (.int y), .val (.int 0), .val (.int gg), .val (.int (-gg))]) (by simp [ev, evt, hp]) rfl) (sts_fin ?_))))
    simp [ev, evs, gs2, g0, fr]
/-! ### the drawn -/
def okf (p : Int × Int) : Prop := 0 < p.2 ∧ p.2 ≤ 100 ∧ -100 ≤ p.1 ∧ p.1 ≤ 100
theorem lw_pos {x y : Int} (hy : 0 < y) : 0 < (lw x y).2 := by
  have gp := gcd_pos (x := x) (y := y) (by omega)
  obtain ⟨k, hk⟩ := Nat.gcd_dvd_right x.natAbs y.natAbs
  unfold lw
  generalize Nat.gcd x.natAbs y.natAbs = gg at *
  have e : y = (gg : Int) * (k : Int) := by
    have : y = (y.natAbs : Int) := by omega
    rw [this, hk]
    exact Int.natCast_mul gg k
  show 0 < y.fdiv gg
  rw [e, Int.mul_fdiv_cancel_left _ (by omega)]
  rcases Nat.eq_zero_or_pos k with z | z
  · subst z; simp at e; omega
  · omega
theorem fdiv_abs {x : Int} {n : Nat} (hn : 0 < n) : (x.fdiv (n : Int)).natAbs ≤ x.natAbs := by
  have hn' : (0 : Int) < n := by omega
  rw [Int.fdiv_eq_ediv_of_nonneg _ (by omega)]
  have h1 := Int.ediv_mul_le x (show (n : Int) ≠ 0 by omega)
  have h2 := Int.lt_ediv_add_one_mul_self x hn'
  generalize x / (n : Int) = q at *
  by_cases hq : 0 ≤ q
  · have : q * 1 ≤ q * n := Int.mul_le_mul_of_nonneg_left (by omega) hq
    omega
  · have : (q + 1) * (n : Int) ≤ (q + 1) * 1 := Int.mul_le_mul_of_nonpos_left (by omega) (by omega)
    omega
theorem lw_le {x y : Int} (hy : y ≠ 0) : (lw x y).1.natAbs ≤ x.natAbs ∧ (lw x y).2.natAbs ≤ y.natAbs := ⟨fdiv_abs (gcd_pos hy), fdiv_abs (gcd_pos hy)⟩
theorem small3 {x : Int} (h : x.natAbs ≤ 2 ^ 60) : x.natAbs < 2 ^ 3000 := Nat.lt_of_le_of_lt h (by decide)
theorem abs_mul_le {x y : Int} {n m : Nat} (h1 : x.natAbs ≤ n) (h2 : y.natAbs ≤ m) : (x * y).natAbs ≤ n * m := by
  rw [Int.natAbs_mul]; exact Nat.mul_le_mul h1 h2
theorem rt_pos {x y : Int} (h : 0 < y) : rt x y = lw x y := if_pos h
theorem sm3 {x : Int} (h : x.natAbs < 2 ^ 3000) : sm x = true := sm_of (Nat.lt_trans h (by decide))
theorem lf_fr {p : Int × Int} (h1 : p.1.natAbs < 2 ^ 1900) (h2 : p.2.natAbs < 2 ^ 1900) : (fr p).lf = true := by
  show ((D.int p.1).lf && ((D.int p.2).lf && true)) = true
  rw [lf_int h1, lf_int h2]
  rfl
theorem p19 {x : Int} (h : x.natAbs ≤ 2 ^ 1000) : x.natAbs < 2 ^ 1900 := Nat.lt_of_le_of_lt h (by decide)
theorem lw_lf {x y : Int} (hy : y ≠ 0) (h1 : x.natAbs ≤ 2 ^ 1000) (h2 : y.natAbs ≤ 2 ^ 1000) : (fr (lw x y)).lf = true := by
  have l := lw_le (x := x) hy
  exact lf_fr (p19 (Nat.le_trans l.1 h1)) (p19 (Nat.le_trans l.2 h2))
theorem lw_zero {y : Int} (h : 0 < y) : lw 0 y = (0, 1) := by
  unfold lw
  have e : ((Nat.gcd (0 : Int).natAbs y.natAbs : Nat) : Int) = y := by
    rw [Int.natAbs_zero, Nat.gcd_zero_left]
    omega
  rw [e, Int.zero_fdiv, Int.fdiv_self (by omega)]
theorem rt_zero {y : Int} (h : y ≠ 0) : rt 0 y = (0, 1) := by
  unfold rt
  split
  · rename_i h; exact lw_zero h
  · rw [Int.neg_zero]; exact lw_zero (by omega)
/-- the frame of the law -/
theorem le60 {n : Nat} (h : n ≤ 2 ^ 60) : n ≤ 2 ^ 1000 := Nat.le_trans h (by decide)
theorem lw_scale {g x y : Int} (hg : 0 < g) (hy : y ≠ 0) : lw (g * x) (g * y) = lw x y := by
  have gp := gcd_pos (x := x) hy
  unfold lw
  have e : ((Nat.gcd (g * x).natAbs (g * y).natAbs : Nat) : Int) = g * ((Nat.gcd x.natAbs y.natAbs : Nat) : Int) := by
    rw [Int.natAbs_mul, Int.natAbs_mul, Nat.gcd_mul_left, Int.natCast_mul]
    have : ((g.natAbs : Nat) : Int) = g := by omega
    rw [this]
  rw [e, Int.mul_fdiv_mul_of_pos _ _ hg, Int.mul_fdiv_mul_of_pos _ _ hg]
theorem lw_unscale {x y : Int} (hy : 0 < y) : ∃ g : Int, 0 < g ∧ x = g * (lw x y).1 ∧ y = g * (lw x y).2 := by
  have gp := gcd_pos (x := x) (y := y) (by omega)
  have gp2 : (0 : Int) < ((Nat.gcd x.natAbs y.natAbs : Nat) : Int) := by omega
  have d1 : ((Nat.gcd x.natAbs y.natAbs : Nat) : Int) ∣ x := Int.gcd_dvd_left x y
  have d2 : ((Nat.gcd x.natAbs y.natAbs : Nat) : Int) ∣ y := Int.gcd_dvd_right x y
  refine ⟨((Nat.gcd x.natAbs y.natAbs : Nat) : Int), gp2, ?_, ?_⟩
  · show x = _ * x.fdiv _
    generalize ((Nat.gcd x.natAbs y.natAbs : Nat) : Int) = gg at *
    obtain ⟨k, hk⟩ := d1
    rw [hk, Int.mul_fdiv_cancel_left _ (by omega)]
  · show y = _ * y.fdiv _
    generalize ((Nat.gcd x.natAbs y.natAbs : Nat) : Int) = gg at *
    obtain ⟨k, hk⟩ := d2
    rw [hk, Int.mul_fdiv_cancel_left _ (by omega)]
theorem lw_add {x y p q : Int} (hy : 0 < y) (hq : 0 < q) : lw ((lw x y).1 * q + p * (lw x y).2) ((lw x y).2 * q) = lw (x * q + p * y) (y * q) := by
  obtain ⟨g, hg, e1, e2⟩ := lw_unscale (x := x) hy
  have hp := lw_pos (x := x) hy
  generalize (lw x y).1 = u at *
  generalize (lw x y).2 = v at *
  subst e1 e2
  have a1 : g * u * q + p * (g * v) = g * (u * q + p * v) := by
    rw [Int.mul_add, Int.mul_assoc, Int.mul_left_comm p g v]
  have a2 : g * v * q = g * (v * q) := Int.mul_assoc _ _ _
  rw [a1, a2, lw_scale hg (Int.mul_ne_zero (by omega) (by omega))]
theorem lw_mul {x y p q : Int} (hy : 0 < y) (hq : 0 < q) : lw ((lw x y).1 * p) ((lw x y).2 * q) = lw (x * p) (y * q) := by
  obtain ⟨g, hg, e1, e2⟩ := lw_unscale (x := x) hy
  have hp := lw_pos (x := x) hy
  generalize (lw x y).1 = u at *
  generalize (lw x y).2 = v at *
  subst e1 e2
  have a1 : g * u * p = g * (u * p) := Int.mul_assoc _ _ _
  have a2 : g * v * q = g * (v * q) := Int.mul_assoc _ _ _
  rw [a1, a2, lw_scale hg (Int.mul_ne_zero (by omega) (by omega))]
theorem le200 {n : Nat} (h : n ≤ 2 ^ 200) : n < 2 ^ 3000 := Nat.lt_of_le_of_lt h (by decide)
theorem sm200 {x : Int} (h : x.natAbs ≤ 2 ^ 200) : sm x = true := sm_of (Nat.lt_of_le_of_lt h (by decide))
end Cv

/-! Cv18: kinds of data, filters, slices, sizes. -/
namespace Cv
open PySem
@[simp] theorem kb_NoneType_int : L2.kitB "NoneType" "int" = some false := by decide +kernel
@[simp] theorem kb_NoneType_bool : L2.kitB "NoneType" "bool" = some false := by decide +kernel
@[simp] theorem kb_NoneType_str : L2.kitB "NoneType" "str" = some false := by decide +kernel
@[simp] theorem kb_NoneType_tuple : L2.kitB "NoneType" "tuple" = some false := by decide +kernel
@[simp] theorem kb_NoneType_list : L2.kitB "NoneType" "list" = some false := by decide +kernel
@[simp] theorem kb_bool_int : L2.kitB "bool" "int" = some true := by decide +kernel
@[simp] theorem kb_bool_bool : L2.kitB "bool" "bool" = some true := by decide +kernel
@[simp] theorem kb_bool_str : L2.kitB "bool" "str" = some false := by decide +kernel
@[simp] theorem kb_bool_tuple : L2.kitB "bool" "tuple" = some false := by decide +kernel
@[simp] theorem kb_bool_list : L2.kitB "bool" "list" = some false := by decide +kernel
@[simp] theorem kb_int_int : L2.kitB "int" "int" = some true := by decide +kernel
@[simp] theorem kb_int_bool : L2.kitB "int" "bool" = some false := by decide +kernel
@[simp] theorem kb_int_str : L2.kitB "int" "str" = some false := by decide +kernel
@[simp] theorem kb_int_tuple : L2.kitB "int" "tuple" = some false := by decide +kernel
@[simp] theorem kb_int_list : L2.kitB "int" "list" = some false := by decide +kernel
@[simp] theorem kb_str_int : L2.kitB "str" "int" = some false := by decide +kernel
@[simp] theorem kb_str_bool : L2.kitB "str" "bool" = some false := by decide +kernel
@[simp] theorem kb_str_str : L2.kitB "str" "str" = some true := by decide +kernel
@[simp] theorem kb_str_tuple : L2.kitB "str" "tuple" = some false := by decide +kernel
@[simp] theorem kb_str_list : L2.kitB "str" "list" = some false := by decide +kernel
@[simp] theorem kb_tuple_int : L2.kitB "tuple" "int" = some false := by decide +kernel
@[simp] theorem kb_tuple_bool : L2.kitB "tuple" "bool" = some false := by decide +kernel
@[simp] theorem kb_tuple_str : L2.kitB "tuple" "str" = some false := by decide +kernel
@[simp] theorem kb_tuple_tuple : L2.kitB "tuple" "tuple" = some true := by decide +kernel
@[simp] theorem kb_tuple_list : L2.kitB "tuple" "list" = some false := by decide +kernel
@[simp] theorem kb_list_int : L2.kitB "list" "int" = some false := by decide +kernel
@[simp] theorem kb_list_bool : L2.kitB "list" "bool" = some false := by decide +kernel
@[simp] theorem kb_list_str : L2.kitB "list" "str" = some false := by decide +kernel
@[simp] theorem kb_list_tuple : L2.kitB "list" "tuple" = some false := by decide +kernel
@[simp] theorem kb_list_list : L2.kitB "list" "list" = some true := by decide +kernel
@[simp] theorem is_NoneType_int : isiD .non "int" = some false := kb_NoneType_int
@[simp] theorem is_NoneType_bool : isiD .non "bool" = some false := kb_NoneType_bool
@[simp] theorem is_NoneType_str : isiD .non "str" = some false := kb_NoneType_str
@[simp] theorem is_NoneType_tuple : isiD .non "tuple" = some false := kb_NoneType_tuple
@[simp] theorem is_NoneType_list : isiD .non "list" = some false := kb_NoneType_list
@[simp] theorem is_bool_int (b : Bool) : isiD (.bl b) "int" = some true := kb_bool_int
@[simp] theorem is_bool_bool (b : Bool) : isiD (.bl b) "bool" = some true := kb_bool_bool
@[simp] theorem is_bool_str (b : Bool) : isiD (.bl b) "str" = some false := kb_bool_str
@[simp] theorem is_bool_tuple (b : Bool) : isiD (.bl b) "tuple" = some false := kb_bool_tuple
@[simp] theorem is_bool_list (b : Bool) : isiD (.bl b) "list" = some false := kb_bool_list
@[simp] theorem is_int_int (i : Int) : isiD (.int i) "int" = some true := kb_int_int
@[simp] theorem is_int_bool (i : Int) : isiD (.int i) "bool" = some false := kb_int_bool
@[simp] theorem is_int_str (i : Int) : isiD (.int i) "str" = some false := kb_int_str
@[simp] theorem is_int_tuple (i : Int) : isiD (.int i) "tuple" = some false := kb_int_tuple
@[simp] theorem is_int_list (i : Int) : isiD (.int i) "list" = some false := kb_int_list
@[simp] theorem is_str_int (s : Str) : isiD (.str s) "int" = some false := kb_str_int
@[simp] theorem is_str_bool (s : Str) : isiD (.str s) "bool" = some false := kb_str_bool
@[simp] theorem is_str_str (s : Str) : isiD (.str s) "str" = some true := kb_str_str
@[simp] theorem is_str_tuple (s : Str) : isiD (.str s) "tuple" = some false := kb_str_tuple
@[simp] theorem is_str_list (s : Str) : isiD (.str s) "list" = some false := kb_str_list
@[simp] theorem is_tuple_int (xs : List D) : isiD (.tup xs) "int" = some false := kb_tuple_int
@[simp] theorem is_tuple_bool (xs : List D) : isiD (.tup xs) "bool" = some false := kb_tuple_bool
@[simp] theorem is_tuple_str (xs : List D) : isiD (.tup xs) "str" = some false := kb_tuple_str
@[simp] theorem is_tuple_tuple (xs : List D) : isiD (.tup xs) "tuple" = some true := kb_tuple_tuple
@[simp] theorem is_tuple_list (xs : List D) : isiD (.tup xs) "list" = some false := kb_tuple_list
@[simp] theorem is_list_int (xs : List D) : isiD (.lst xs) "int" = some false := kb_list_int
@[simp] theorem is_list_bool (xs : List D) : isiD (.lst xs) "bool" = some false := kb_list_bool
@[simp] theorem is_list_str (xs : List D) : isiD (.lst xs) "str" = some false := kb_list_str
@[simp] theorem is_list_tuple (xs : List D) : isiD (.lst xs) "tuple" = some false := kb_list_tuple
@[simp] theorem is_list_list (xs : List D) : isiD (.lst xs) "list" = some true := kb_list_list
@[simp] theorem tr_bl (b : Bool) : truD (.bl b) = some b := rfl
@[simp] theorem tr_int (i : Int) : truD (.int i) = some (i != 0) := rfl
@[simp] theorem tr_tup (xs : List D) : truD (.tup xs) = some (!xs.isEmpty) := rfl
@[simp] theorem tr_lst (xs : List D) : truD (.lst xs) = some (!xs.isEmpty) := rfl
theorem lcm_filter {α : Type} {f h : α → D} {p : α → Bool} {t : D → M Bool} {el : D → M D} {S0 : Sto} : ∀ (xs : List α), (∀ x ∈ xs, t (f x) S0 = some (p x, S0) ∧ (p x = true → el (f x) S0 = some (h x, S0))) → lcM t el (xs.map f) S0 = some ((xs.filter p).map h, S0)
  | [], _ => rfl
  | x :: xs, hp => by
    obtain ⟨h1, h2⟩ := hp x List.mem_cons_self
    have ih := lcm_filter xs fun y hy => hp y (List.mem_cons_of_mem _ hy)
    cases hx : p x with
    | true =>
      rw [hx] at h1
      rw [List.filter_cons_of_pos hx]
      exact lcm_go h1 (h2 hx) ih
    | false =>
      rw [hx] at h1
      rw [List.filter_cons_of_neg (by rw [hx]; exact Bool.false_ne_true)]
      exact lcm_skip h1 ih
theorem bls_map {α : Type} (k : α → Bool) : ∀ xs : List α, blsD (xs.map fun x => D.bl (k x)) = some (xs.map k)
  | [] => rfl
  | x :: xs => by
    show (blsD (xs.map fun x => D.bl (k x))).map (k x :: ·) = _
    rw [bls_map k xs]
    rfl
theorem all_map {α : Type} (k : α → Bool) (xs : List α) : b1D .all (.lst (xs.map fun x => D.bl (k x))) = some (.bl (xs.all k)) := by
  show (blsD _).map _ = _
  rw [bls_map]
  show some (D.bl ((xs.map k).all id)) = _
  rw [List.all_map]
  rfl
theorem emp_eq {ds : List D} (h : shp (.lst ds) = true) : cmpD .eq (.lst ds) (.lst []) = some ds.isEmpty := by
  show (if shp (.lst ds) && shp (.lst []) then some (PyData.eqv (D.lst ds).py (D.lst []).py) else none) = _
  rw [h]
  cases ds <;> rfl
theorem emp_ne {ds : List D} (h : shp (.lst ds) = true) : cmpD .ne (.lst ds) (.lst []) = some (!ds.isEmpty) := by
  show (if shp (.lst ds) && shp (.lst []) then some (!PyData.eqv (D.lst ds).py (D.lst []).py) else none) = _
  rw [h]
  cases ds <;> rfl
theorem empT_ne {ds : List D} (h : shp (.tup ds) = true) : cmpD .ne (.tup ds) (.tup []) = some (!ds.isEmpty) := by
  show (if shp (.tup ds) && shp (.tup []) then some (!PyData.eqv (D.tup ds).py (D.tup []).py) else none) = _
  rw [h]
  cases ds <;> rfl
theorem cut_to (xs : List D) {n : Int} (h : 0 ≤ n) : cutD xs none (some n) = xs.take n.toNat := by
  obtain ⟨k, rfl⟩ : ∃ k : Nat, n = k := ⟨n.toNat, by omega⟩
  unfold cutD
  rw [HT.sIx_none, HT.sIx_nat, List.drop_zero, Nat.sub_zero, Int.toNat_natCast]
  by_cases hk : k ≤ xs.length
  · rw [Nat.min_eq_left hk]
  · rw [Nat.min_eq_right (by omega), List.take_of_length_le (Nat.le_refl _), List.take_of_length_le (by omega)]
theorem cut_from (xs : List D) {n : Int} (h : 0 ≤ n) : cutD xs (some n) none = xs.drop n.toNat := by
  obtain ⟨k, rfl⟩ : ∃ k : Nat, n = k := ⟨n.toNat, by omega⟩
  unfold cutD
  rw [HT.sIx_none, HT.sIx_nat, Int.toNat_natCast]
  by_cases hn : k ≤ xs.length
  · rw [Nat.min_eq_left hn, List.take_of_length_le (by rw [List.length_drop]; exact Nat.le_refl _)]
  · rw [Nat.min_eq_right (by omega), Nat.sub_self, List.take_zero, List.drop_eq_nil_of_le (by omega)]
theorem cut_mid (xs : List D) {n m : Int} (h : 0 ≤ n) (h2 : n ≤ m) : cutD xs (some n) (some m) = (xs.drop n.toNat).take (m - n).toNat := by
  obtain ⟨k, rfl⟩ : ∃ k : Nat, n = k := ⟨n.toNat, by omega⟩
  obtain ⟨l, rfl⟩ : ∃ l : Nat, m = l := ⟨m.toNat, by omega⟩
  unfold cutD
  rw [HT.sIx_nat, HT.sIx_nat, Int.toNat_natCast]
  have e : ((l : Int) - (k : Int)).toNat = l - k := by omega
  rw [e]
  by_cases hl : l ≤ xs.length
  · rw [Nat.min_eq_left hl, Nat.min_eq_left (by omega)]
  · by_cases hk : k ≤ xs.length
    · rw [Nat.min_eq_left hk, Nat.min_eq_right (by omega), List.take_of_length_le (by rw [List.length_drop]; exact Nat.le_refl _), List.take_of_length_le (by rw [List.length_drop]; omega)]
    · rw [Nat.min_eq_right (by omega), Nat.min_eq_right (by omega), Nat.sub_self, List.take_zero, List.drop_eq_nil_of_le (by omega), List.take_nil]
/-! ### sizes of data -/
mutual
/-- small whole numbers, plain texts -/
def D.ws (N : Nat) : D → Bool
  | .non => true
  | .bl _ => true
  | .int i => decide (i.natAbs ≤ N)
  | .str s => s.cps.toList.all fun c => decide (c < 128)
  | .tup xs => D.wss N xs
  | .lst xs => D.wss N xs
  | .dct _ _ => false
  | .set _ => false
  | .obj _ => false
  | .fn _ => false
def D.wss (N : Nat) : List D → Bool
  | [] => true
  | x :: xs => D.ws N x && D.wss N xs
end
theorem wss_all {N : Nat} : ∀ {xs : List D}, D.wss N xs = true ↔ ∀ x ∈ xs, x.ws N = true
  | [] => ⟨(fun _ _ h => nomatch h), fun _ => rfl⟩
  | x :: xs => by
    show (D.ws N x && D.wss N xs) = true ↔ _
    rw [Bool.and_eq_true, wss_all]
    simp
mutual
theorem ws_mono {N M : Nat} (h : N ≤ M) : ∀ {d : D}, d.ws N = true → d.ws M = true
  | .non, _ => rfl
  | .bl _, _ => rfl
  | .int i, q => by
    have q : i.natAbs ≤ N := of_decide_eq_true q
    exact decide_eq_true (Nat.le_trans q h)
  | .str _, q => q
  | .tup xs, q => wss_mono h (xs := xs) q
  | .lst xs, q => wss_mono h (xs := xs) q
theorem wss_mono {N M : Nat} (h : N ≤ M) : ∀ {xs : List D}, D.wss N xs = true → D.wss M xs = true
  | [], _ => rfl
  | x :: xs, q => by
    have q := Bool.and_eq_true_iff.mp (show (D.ws N x && D.wss N xs) = true from q)
    exact Bool.and_eq_true_iff.mpr ⟨ws_mono h q.1, wss_mono h q.2⟩
end
mutual
theorem ws_lf {N : Nat} (h : N < 2 ^ 1900) : ∀ {d : D}, d.ws N = true → d.lf = true ∧ d.py.canLay0 = true
  | .non, _ => ⟨rfl, rfl⟩
  | .bl _, _ => ⟨rfl, rfl⟩
  | .int i, q => ⟨lf_int (Nat.lt_of_le_of_lt (of_decide_eq_true q) h), rfl⟩
  | .str s, q => by
    have q : (s.cps.toList.all fun c => decide (c < 128)) = true := q
    rw [List.all_eq_true] at q
    refine ⟨?_, ?_⟩
    · show (s.cps.toList.all fun c => decide (c < 16 ^ 8)) = true
      rw [List.all_eq_true]
      intro c hc
      have := of_decide_eq_true (q c hc)
      exact decide_eq_true (by omega)
    · show (s.cps.all fun c => decide (c < 0x110000)) = true
      rw [← Array.all_toList, List.all_eq_true]
      intro c hc
      have := of_decide_eq_true (q c hc)
      exact decide_eq_true (by omega)
  | .tup xs, q => wss_lf h (xs := xs) q
  | .lst xs, q => wss_lf h (xs := xs) q
theorem wss_lf {N : Nat} (h : N < 2 ^ 1900) : ∀ {xs : List D}, D.wss N xs = true → D.lfs xs = true ∧ PyData.canLayAll0 (D.pys xs) = true
  | [], _ => ⟨rfl, rfl⟩
  | x :: xs, q => by
    have q := Bool.and_eq_true_iff.mp (show (D.ws N x && D.wss N xs) = true from q)
    obtain ⟨a, b⟩ := ws_lf h q.1
    obtain ⟨c, d⟩ := wss_lf h q.2
    exact ⟨Bool.and_eq_true_iff.mpr ⟨a, c⟩, Bool.and_eq_true_iff.mpr ⟨b, d⟩⟩
end
/-- good data: numbers up to N, size up to b, depth up to p -/
structure Gd' (N b p : Nat) (d : D) : Prop where
  ws : d.ws N = true
  bk : d.py.bulk ≤ b
  dp : d.py.depth ≤ p
theorem Gd'.shp {N b p : Nat} {d : D} (h : Gd' N b p d) (hN : N < 2 ^ 1900) (hp : p ≤ 64) : shp d = true := by
  obtain ⟨a, c⟩ := ws_lf hN h.ws
  obtain ⟨e, _, _⟩ := lf_ok a
  unfold Cv.shp SeqAt.shaped
  rw [e, c, decide_eq_true (Nat.le_trans h.dp hp)]
  rfl
theorem Gd'.repr {N b p : Nat} {d : D} (h : Gd' N b p d) (hN : N < 2 ^ 1900) (hp : p ≤ 64) (hb : b ≤ 8000) : b1D .repr d = some (.str d.py.shown) :=
  repr_ok (ws_lf hN h.ws).1 (Nat.le_trans h.dp (by omega)) (Nat.le_trans h.bk hb)
theorem Gd'.mono {N b p N' b' p' : Nat} {d : D} (h : Gd' N b p d) (h1 : N ≤ N') (h2 : b ≤ b') (h3 : p ≤ p') : Gd' N' b' p' d := ⟨ws_mono h1 h.ws, Nat.le_trans h.bk h2, Nat.le_trans h.dp h3⟩
theorem bulk_mem : ∀ {xs : List D} {x : D}, x ∈ xs → x.py.bulk + 1 ≤ PyData.bulkAll (D.pys xs)
  | y :: xs, x, h => by
    show _ ≤ y.py.bulk + 1 + PyData.bulkAll (D.pys xs)
    rcases List.mem_cons.mp h with e | e
    · rw [e]; omega
    · have := bulk_mem e
      omega
theorem depth_mem : ∀ {xs : List D} {x : D}, x ∈ xs → x.py.depth ≤ PyData.depthAll (D.pys xs)
  | y :: xs, x, h => by
    show _ ≤ max y.py.depth (PyData.depthAll (D.pys xs))
    rcases List.mem_cons.mp h with e | e
    · rw [e]; exact Nat.le_max_left _ _
    · exact Nat.le_trans (depth_mem e) (Nat.le_max_right _ _)
theorem bulk_len : ∀ (xs : List D), xs.length ≤ PyData.bulkAll (D.pys xs)
  | [] => Nat.le_refl _
  | y :: xs => by
    have := bulk_len xs
    show xs.length + 1 ≤ y.py.bulk + 1 + PyData.bulkAll (D.pys xs)
    omega
theorem bulk_app : ∀ (xs ys : List D), PyData.bulkAll (D.pys (xs ++ ys)) = PyData.bulkAll (D.pys xs) + PyData.bulkAll (D.pys ys)
  | [], ys => by show _ = 0 + _; rw [Nat.zero_add]; rfl
  | x :: xs, ys => by
    show x.py.bulk + 1 + PyData.bulkAll (D.pys (xs ++ ys)) = x.py.bulk + 1 + PyData.bulkAll (D.pys xs) + _
    rw [bulk_app xs ys]
    omega
theorem depth_app : ∀ (xs ys : List D), PyData.depthAll (D.pys (xs ++ ys)) = max (PyData.depthAll (D.pys xs)) (PyData.depthAll (D.pys ys))
  | [], ys => by show _ = max 0 _; rw [Nat.zero_max]; rfl
  | x :: xs, ys => by
    show max x.py.depth (PyData.depthAll (D.pys (xs ++ ys))) = max (max x.py.depth (PyData.depthAll (D.pys xs))) _
    rw [depth_app xs ys, Nat.max_assoc]
theorem wss_app {N : Nat} : ∀ (xs ys : List D), D.wss N (xs ++ ys) = (D.wss N xs && D.wss N ys)
  | [], ys => by show _ = (true && _); rw [Bool.true_and]; rfl
  | x :: xs, ys => by
    show (x.ws N && D.wss N (xs ++ ys)) = (x.ws N && D.wss N xs && _)
    rw [wss_app xs ys, Bool.and_assoc]
/-- good rows of data -/
structure Gs (N b p : Nat) (xs : List D) : Prop where
  ws : D.wss N xs = true
  bk : PyData.bulkAll (D.pys xs) ≤ b
  dp : PyData.depthAll (D.pys xs) ≤ p
theorem Gs.tup {N b p : Nat} {xs : List D} (h : Gs N b p xs) : Gd' N b (p + 1) (.tup xs) := ⟨h.ws, h.bk, Nat.succ_le_succ h.dp⟩
theorem Gs.lst {N b p : Nat} {xs : List D} (h : Gs N b p xs) : Gd' N b (p + 1) (.lst xs) := ⟨h.ws, h.bk, Nat.succ_le_succ h.dp⟩
theorem Gd'.row {N b p : Nat} {xs : List D} (h : Gd' N b (p + 1) (.tup xs)) : Gs N b p xs := ⟨h.ws, h.bk, Nat.le_of_succ_le_succ h.dp⟩
theorem Gs.app {N b c p : Nat} {xs ys : List D} (h : Gs N b p xs) (q : Gs N c p ys) : Gs N (b + c) p (xs ++ ys) := by
  refine ⟨by rw [wss_app, h.ws, q.ws]; rfl, by rw [bulk_app]; exact Nat.add_le_add h.bk q.bk, by rw [depth_app]; exact Nat.max_le.mpr ⟨h.dp, q.dp⟩⟩
theorem Gs.mono {N b p N' b' p' : Nat} {xs : List D} (h : Gs N b p xs) (h1 : N ≤ N') (h2 : b ≤ b') (h3 : p ≤ p') : Gs N' b' p' xs := ⟨wss_mono h1 h.ws, Nat.le_trans h.bk h2, Nat.le_trans h.dp h3⟩
theorem Gs.mem {N b p : Nat} {xs : List D} (h : Gs N b p xs) {x : D} (hx : x ∈ xs) : Gd' N b p x := ⟨wss_all.mp h.ws x hx, by have := bulk_mem hx; have := h.bk; omega, Nat.le_trans (depth_mem hx) h.dp⟩
theorem Gs.one {N b p : Nat} {x : D} (h : Gd' N b p x) : Gs N (b + 1) p [x] := by
  refine ⟨?_, ?_, ?_⟩
  · show (x.ws N && true) = true
    rw [h.ws]; rfl
  · show x.py.bulk + 1 + 0 ≤ b + 1
    have := h.bk
    omega
  · exact Nat.max_le.mpr ⟨h.dp, Nat.zero_le _⟩
theorem Gs.split {N b p : Nat} {xs : List D} (h : Gs N b p xs) (n : Nat) : Gs N b p (xs.take n) ∧ Gs N b p (xs.drop n) := by
  have e := List.take_append_drop n xs
  have h1 := h.ws
  have h2 := h.bk
  have h3 := h.dp
  rw [← e] at h1 h2 h3
  rw [wss_app, Bool.and_eq_true] at h1
  rw [bulk_app] at h2
  rw [depth_app] at h3
  exact ⟨⟨h1.1, by omega, by omega⟩, ⟨h1.2, by omega, by omega⟩⟩
end Cv

namespace Cv.Kp
open PySem Cv
def g_LETTERS : D := (.str "abcdefghijklmnopqrstuvwxyz")
def g_LONGEST : D := (.int 8)
def N_is_word : List Str := ["thing", "sign"]
def e_is_word_1 : E := .lc1 [1] (.nm 1) (.sq (.var 0)) .n (.cmp .isin (.var 1) (.glo 1))
def b_is_word : List S := [.ife (.or (.not (.isi (.var 0) "str")) (.not (.chn .le .le (.int 1) (.b1 .len (.var 0)) (.glo 0)))) [.ret (.bl false)] [], .ret (.b1 .all e_is_word_1)]
def c_is_word : Cf := ⟨[g_LONGEST, g_LETTERS], []⟩
def m_is_word : List D → M D := run c_is_word ⟨N_is_word.length, b_is_word⟩ 1
def N_is_number : List Str := ["thing"]
def b_is_number : List S := [.ret (.and (.isi (.var 0) "int") (.not (.isi (.var 0) "bool")))]
def c_is_number : Cf := ⟨[], []⟩
def m_is_number : List D → M D := run c_is_number ⟨N_is_number.length, b_is_number⟩ 1
def N_is_long : List Str := ["thing", "many"]
def b_is_long : List S := [.ret (.and (.isi (.var 0) "tuple") (.cmp .eq (.b1 .len (.var 0)) (.var 1)))]
def c_is_long : Cf := ⟨[], []⟩
def m_is_long : List D → M D := run c_is_long ⟨N_is_long.length, b_is_long⟩ 2
def N_ratio : List Str := ["over", "under", "one", "other", "by"]
def b_ratio_1 : List S := [.par 2 3 (.bin .mod (.var 3) (.var 2)) (.var 2)]
def b_ratio : List S := [.par 2 3 (.b1 .abs (.var 0)) (.b1 .abs (.var 1)), .whl (.cmp .gt (.var 2) (.int 0)) b_ratio_1, .set (.nm 4) (.ife (.cmp .gt (.var 1) (.int 0)) (.var 3) (.bin .sub (.int 0) (.var 3))), .ret (.tup (.c (.bin .fdiv (.var 0) (.var 4)) (.c (.bin .fdiv (.var 1) (.var 4)) .n)))]
def c_ratio : Cf := ⟨[], []⟩
def m_ratio : List D → M D := run c_ratio ⟨N_ratio.length, b_ratio⟩ 2
def N_is_fraction : List Str := ["thing", "one"]
def e_is_fraction_1 : E := .lc1 [1] (.nm 1) (.sq (.var 0)) .n (.call 1 (.c (.var 1) .n))
def b_is_fraction : List S := [.ife (.or (.not (.call 0 (.c (.var 0) (.c (.int 2) .n)))) (.not (.b1 .all e_is_fraction_1))) [.ret (.bl false)] [], .ret (.and (.cmp .ge (.idx (.var 0) (.int 1)) (.int 1)) (.cmp .eq (.call 2 (.c (.idx (.var 0) (.int 0)) (.c (.idx (.var 0) (.int 1)) .n))) (.var 0)))]
def c_is_fraction : Cf := ⟨[], [m_is_long, m_is_number, m_ratio]⟩
def m_is_fraction : List D → M D := run c_is_fraction ⟨N_is_fraction.length, b_is_fraction⟩ 1
def N_is_chance : List Str := ["thing"]
def b_is_chance : List S := [.ret (.and (.call 0 (.c (.var 0) .n)) (.chn .le .le (.int 0) (.idx (.var 0) (.int 0)) (.idx (.var 0) (.int 1))))]
def c_is_chance : Cf := ⟨[], [m_is_fraction]⟩
def m_is_chance : List D → M D := run c_is_chance ⟨N_is_chance.length, b_is_chance⟩ 1
def N_is_term : List Str := ["thing"]
def b_is_term : List S := [.ife (.or (.not (.call 0 (.c (.var 0) (.c (.int 2) .n)))) (.not (.isi (.idx (.var 0) (.int 0)) "str"))) [.ret (.bl false)] [], .ret (.and (.cmp .isin (.idx (.var 0) (.int 0)) (.tup (.c (.str "word") (.c (.str "any") .n)))) (.call 1 (.c (.idx (.var 0) (.int 1)) .n)))]
def c_is_term : Cf := ⟨[], [m_is_long, m_is_word]⟩
def m_is_term : List D → M D := run c_is_term ⟨N_is_term.length, b_is_term⟩ 1
def N_is_atom : List Str := ["thing", "one"]
def e_is_atom_1 : E := .lc1 [1] (.nm 1) (.sq (.idx (.var 0) (.int 1))) .n (.call 2 (.c (.var 1) .n))
def b_is_atom : List S := [.ife (.or (.not (.call 0 (.c (.var 0) (.c (.int 2) .n)))) (.or (.not (.call 1 (.c (.idx (.var 0) (.int 0)) .n))) (.or (.not (.isi (.idx (.var 0) (.int 1)) "tuple")) (.cmp .eq (.b1 .len (.idx (.var 0) (.int 1))) (.int 0))))) [.ret (.bl false)] [], .ret (.b1 .all e_is_atom_1)]
def c_is_atom : Cf := ⟨[], [m_is_long, m_is_word, m_is_term]⟩
def m_is_atom : List D → M D := run c_is_atom ⟨N_is_atom.length, b_is_atom⟩ 1
open PySem Cv
theorem ra_eq : m_ratio = ra_m := rfl
abbrev Th (d : D) : Prop := Gd' (2 ^ 300) 8000 60 d
theorem pp {d : D} (h : Th d) : shp d = true := h.shp (by decide) (by decide)
def isN : D → Bool
  | .int _ => true
  | _ => false
section
variable {d : D} {S : Sto}
theorem r_number (h : Th d) : m_is_number [d] S = some (.bl (isN d), S) := by
  have h := h.ws
  cases d <;> first
    | (cases h; done)
    | (simp [m_is_number, Cv.run, b_is_number, N_is_number, sts, st, ev, startE, isN])
def inL (c : Nat) : Bool := !(Builtin.Str.occurrences "abcdefghijklmnopqrstuvwxyz" ⟨#[c]⟩ 0 (Str.length "abcdefghijklmnopqrstuvwxyz") 1).isEmpty
def isW : D → Bool
  | .str s => decide (1 ≤ s.length) && decide (s.length ≤ 8) && s.cps.toList.all inL
  | _ => false
theorem sin (c : Nat) : cmpD .isin (.str ⟨#[c]⟩) (.str "abcdefghijklmnopqrstuvwxyz") = some (inL c) := rfl
theorem snot (c : Nat) : cmpD .notin (.str ⟨#[c]⟩) (.str "abcdefghijklmnopqrstuvwxyz") = some (!inL c) := by
  show some _ = some _
  unfold inL
  rfl
theorem len_line {s : Str} (h : Th (.str s)) : s.length ≤ sizeLine := by
  have h1 : s.cps.size ≤ 8000 := h.bk
  rw [sizeLine_eq]
  have : s.length = s.cps.size := rfl
  omega
theorem f_lenS {s : Str} (h : s.length ≤ sizeLine) : b1D .len (.str s) = some (.int s.length) := if_pos h
theorem seqS {s : Str} (h : s.length ≤ sizeLine) : seqD (.str s) = some (s.cps.toList.map fun c => D.str ⟨#[c]⟩) := if_pos h
theorem signs {s : Str} (h : Th (.str s)) (p : Nat → Bool) : shp (.lst ((s.cps.toList.filter p).map fun c => D.str ⟨#[c]⟩)) = true := by
  have hw : (s.cps.toList.all fun c => decide (c < 128)) = true := h.ws
  rw [List.all_eq_true] at hw
  have hb : s.cps.size ≤ 8000 := h.bk
  have g : Gd' (2 ^ 300) 16000 1 (.lst ((s.cps.toList.filter p).map fun c => D.str ⟨#[c]⟩)) := by
    refine ⟨?_, ?_, ?_⟩
    · show D.wss _ _ = true
      rw [wss_all]
      intro x hx
      obtain ⟨c, hc, rfl⟩ := List.mem_map.mp hx
      have := hw c (List.mem_filter.mp hc).1
      show ([c].all fun c => decide (c < 128)) = true
      rw [List.all_cons, this]
      rfl
    · have := bulk_map (f := fun c : Nat => D.str ⟨#[c]⟩) (n := 1) (xs := s.cps.toList.filter p) fun c _ => Nat.le_of_ble_eq_true rfl
      have h2 : (s.cps.toList.filter p).length ≤ s.cps.toList.length := List.length_filter_le _ _
      have h3 : s.cps.toList.length = s.cps.size := Array.length_toList
      show PyData.bulkAll _ ≤ 16000
      omega
    · have := dep_map (f := fun c : Nat => D.str ⟨#[c]⟩) (n := 0) (xs := s.cps.toList.filter p) fun c _ => Nat.le_of_ble_eq_true rfl
      show PyData.depthAll _ + 1 ≤ 1
      omega
  exact g.shp (by decide) (by decide)
theorem filter_emp (p : Nat → Bool) (l : List Nat) : (l.filter fun c => !p c).isEmpty = l.all p := by
  induction l with
  | nil => rfl
  | cons c l ih =>
    rw [List.filter_cons, List.all_cons]
    cases h : p c <;> simp [ih]
theorem r_word (h : Th d) : m_is_word [d] S = some (.bl (isW d), S) := by
  have hw := h.ws
  cases d with
  | str s =>
    have hl := len_line h
    have l1 : (s.length : Int) = ((s.cps.size : Nat) : Int) := rfl
    have ev1 : ev c_is_word e_is_word_1 [.val (.str s), .no] S = some (.lst (s.cps.toList.map fun c => D.bl (inL c)), S) := by
      have := lcm_map (S0 := S) (f := fun c : Nat => D.str ⟨#[c]⟩) (h := D.bl) (t := fun d => M.bnd (M.opt (asg (.nm 1) d (wipeE [.val (.str s), .no] [1]))) fun en2 => evc c_is_word .n en2)
        (el := fun d => M.bnd (M.opt (asg (.nm 1) d (wipeE [.val (.str s), .no] [1]))) fun en2 => ev c_is_word (.cmp .isin (.var 1) (.glo 1)) en2) inL s.cps.toList fun c _ => by
          refine ⟨by simp [asg, wipeE, setV, evc], ?_⟩
          simp [asg, wipeE, setV, ev, c_is_word, g_LETTERS, sin]
      have ei : evi c_is_word (.sq (.var 0)) [.val (.str s), .no] S = some (s.cps.toList.map fun c => D.str ⟨#[c]⟩, S) := by simp [evi, seqS hl]
      rw [e_is_word_1, ev, x_bnd, ei]
      show M.bnd (lcM _ _ _) _ S = _
      rw [x_bnd, this]
      rfl
    by_cases c1 : 1 ≤ s.length
    · have z1 : (1 : Int) ≤ (s.length : Int) := by omega
      by_cases c2 : s.length ≤ 8
      · have z2 : (s.length : Int) ≤ 8 := by omega
        have e : isW (.str s) = s.cps.toList.all inL := by simp [isW, c1, c2]
        rw [e]
        refine run_go rfl (sts_go (S1 := S) (en1 := [.val (.str s), .no]) ?_ (sts_fin ?_))
        · simp [st, sts, ev, evt, startE, N_is_word, f_lenS hl, c_is_word, g_LONGEST, z1, z2]
        · rw [ev, x_bnd, ev1]
          simp only [all_map, x_opt]
      · have z2 : ¬ ((s.length : Int) ≤ 8) := by omega
        have e : isW (.str s) = false := by simp [isW, c2]
        rw [e]
        refine run_go (en := [.val (.str s), .no]) rfl (sts_ret ?_)
        simp [st, sts, ev, evt, startE, N_is_word, f_lenS hl, c_is_word, g_LONGEST, z1, z2]
    · have z1 : ¬ ((1 : Int) ≤ (s.length : Int)) := by omega
      have e : isW (.str s) = false := by simp [isW, c1]
      rw [e]
      refine run_go (en := [.val (.str s), .no]) rfl (sts_ret ?_)
      simp [st, sts, ev, evt, startE, N_is_word, f_lenS hl, c_is_word, g_LONGEST, z1]
  | _ => first
    | (cases hw; done)
    | (simp [m_is_word, Cv.run, b_is_word, N_is_word, sts, st, ev, evt, startE, isW])
theorem Th.row {xs : List D} (h : Th (.tup xs)) {x : D} (hx : x ∈ xs) : Th x := (Gd'.row (p := 59) h).mem hx |>.mono (Nat.le_refl _) (Nat.le_refl _) (by decide)
def kindB (s : Str) : Bool := memD (.str s) [.str "word", .str "any"]
def isT : D → Bool
  | .tup [.str s, y] => kindB s && isW y
  | _ => false
theorem kind_in {s : Str} (h : Th (.str s)) : cmpD .isin (.str s) (.tup [.str "word", .str "any"]) = some (kindB s) := by
  show (if shp (.str s) && shp (.tup [.str "word", .str "any"]) then some (memD (.str s) [.str "word", .str "any"]) else none) = _
  rw [pp h, show shp (.tup [.str "word", .str "any"]) = true from by decide +kernel]
  rfl
theorem r_long {n : Int} (h : Th d) : m_is_long [d, .int n] S = some (.bl (match d with
    | .tup xs => ((xs.length : Int) == n)
    | _ => false), S) := by
  have h := h.ws
  cases d <;> first
    | (cases h; done)
    | (simp [m_is_long, Cv.run, b_is_long, N_is_long, sts, st, ev, startE])
theorem len2 {xs : List D} (h : xs.length = 2) : ∃ x y, xs = [x, y] := by
  match xs, h with
  | [x, y], _ => exact ⟨x, y, rfl⟩
theorem isT_len {xs : List D} (h : xs.length ≠ 2) : isT (.tup xs) = false := by
  match xs, h with
  | [], _ => simp [isT]
  | [_], _ => simp [isT]
  | [_, _], h => exact absurd rfl h
  | _ :: _ :: _ :: _, _ => simp [isT]
theorem r_term (h : Th d) : m_is_term [d] S = some (.bl (isT d), S) := by
  have hw := h.ws
  have gl := r_long (S := S) (n := 2) h
  cases d with
  | tup xs =>
    by_cases hl : xs.length = 2
    · obtain ⟨x, y, rfl⟩ := len2 hl
      have hx := h.row (x := x) (by simp)
      have hy := h.row (x := y) (by simp)
      have hxw := hx.ws
      have gw := r_word (S := S) hy
      cases x with
      | str s =>
        simp at gl
        simp [m_is_term, Cv.run, b_is_term, N_is_term, c_is_term, sts, st, ev, evt, evs, startE, gl, kind_in hx, isT]
        cases kindB s <;> simp [gw]
      | _ => first
        | (cases hxw; done)
        | (simp at gl
           simp [m_is_term, Cv.run, b_is_term, N_is_term, c_is_term, sts, st, ev, evt, evs, startE, gl, isT])
    · rw [isT_len hl]
      have hl2 : ¬ ((xs.length : Int) = 2) := by omega
      simp [hl2] at gl
      simp [m_is_term, Cv.run, b_is_term, N_is_term, c_is_term, sts, st, ev, evt, evs, startE, gl, hl2]
  | _ => first
    | (cases hw; done)
    | (simp at gl
       simp [m_is_term, Cv.run, b_is_term, N_is_term, c_is_term, sts, st, ev, evt, evs, startE, gl, isT])
def isF : D → Bool
  | .tup [.int a, .int b] => decide (1 ≤ b) && (Nat.gcd a.natAbs b.natAbs == 1)
  | _ => false
theorem isF_len {xs : List D} (h : xs.length ≠ 2) : isF (.tup xs) = false := by
  match xs, h with
  | [], _ => simp [isF]
  | [_], _ => simp [isF]
  | [_, _], h => exact absurd rfl h
  | _ :: _ :: _ :: _, _ => simp [isF]
theorem lw_self {a b : Int} (hb : 1 ≤ b) : cmpD .eq (fr (lw a b)) (.tup [.int a, .int b]) = some (Nat.gcd a.natAbs b.natAbs == 1) := by
  have e : cmpD .eq (fr (lw a b)) (.tup [.int a, .int b]) = some (PyData.eqv (fr (lw a b)).py (D.tup [.int a, .int b]).py) := by
    show (if shp (fr (lw a b)) && shp (.tup [.int a, .int b]) then some (PyData.eqv (fr (lw a b)).py (D.tup [.int a, .int b]).py) else none) = _
    exact if_pos rfl
  rw [e]
  have e2 : PyData.eqv (fr (lw a b)).py (D.tup [.int a, .int b]).py = (((lw a b).1 == a) && ((lw a b).2 == b)) := by
    show ((lw a b).1 == a && ((lw a b).2 == b && true)) = _
    rw [Bool.and_true]
  rw [e2]
  congr 1
  obtain ⟨g, hg, e3, e4⟩ := lw_unscale (x := a) (y := b) (by omega)
  have gp := gcd_pos (x := a) (y := b) (by omega)
  have l1 : (lw a b).1 = a.fdiv ((Nat.gcd a.natAbs b.natAbs : Nat) : Int) := rfl
  have l2 : (lw a b).2 = b.fdiv ((Nat.gcd a.natAbs b.natAbs : Nat) : Int) := rfl
  have d2 : ((Nat.gcd a.natAbs b.natAbs : Nat) : Int) ∣ b := Int.gcd_dvd_right a b
  rw [l1, l2]
  generalize Nat.gcd a.natAbs b.natAbs = gg at *
  by_cases h1 : gg = 1
  · subst h1
    simp
  · have hn : (gg == 1) = false := by simpa using h1
    rw [hn]
    obtain ⟨k, hk⟩ := d2
    have hne : b.fdiv (gg : Int) ≠ b := by
      rw [hk, Int.mul_fdiv_cancel_left _ (by omega)]
      intro z
      have kp : 0 < k := by
        by_cases hk0 : 0 < k
        · exact hk0
        · exfalso
          have : (gg : Int) * k ≤ 0 := Int.mul_nonpos_of_nonneg_of_nonpos (by omega) (by omega)
          omega
      have : 2 * k ≤ (gg : Int) * k := Int.mul_le_mul_of_nonneg_right (by omega) (by omega)
      omega
    have : (b.fdiv (gg : Int) == b) = false := by simpa using hne
    rw [this, Bool.and_false]
theorem int_lim {i : Int} (h : Th (.int i)) : i.natAbs < 2 ^ 3000 := by
  have : i.natAbs ≤ 2 ^ 300 := of_decide_eq_true h.ws
  exact Nat.lt_of_le_of_lt this (by decide)
theorem two_num {x y : D} (hx : Th x) (hy : Th y) : ev c_is_fraction (.b1 .all e_is_fraction_1) [.val (.tup [x, y]), .no] S = some (.bl (isN x && isN y), S) := by
  have g1 := r_number (S := S) hx
  have g2 := r_number (S := S) hy
  simp [e_is_fraction_1, ev, evi, seqD, lcM, asg, wipeE, setV, evc, evs, c_is_fraction, g1, g2, b1D, blsD]
theorem r_fraction (h : Th d) : m_is_fraction [d] S = some (.bl (isF d), S) := by
  have hw := h.ws
  have gl := r_long (S := S) (n := 2) h
  cases d with
  | tup xs =>
    by_cases hl : xs.length = 2
    · obtain ⟨x, y, rfl⟩ := len2 hl
      have hx := h.row (x := x) (by simp)
      have hy := h.row (x := y) (by simp)
      have g2 := two_num (S := S) hx hy
      simp at gl
      by_cases hn : (isN x && isN y) = true
      · obtain ⟨n1, n2⟩ := Bool.and_eq_true_iff.mp hn
        cases x with
        | int a =>
          cases y with
          | int b =>
            rw [hn] at g2
            refine run_go rfl (sts_go (S1 := S) (en1 := [.val (.tup [.int a, .int b]), .no]) ?_ (sts_fin ?_))
            · have g3 : evt c_is_fraction (.b1 .all e_is_fraction_1) [.val (.tup [.int a, .int b]), .no] S = some (true, S) := by
                rw [ev, x_bnd] at g2
                rw [evt, x_bnd]
                revert g2
                cases ev c_is_fraction e_is_fraction_1 [.val (.tup [.int a, .int b]), .no] S with
                | none => intro g2; cases g2
                | some q =>
                  intro g2
                  obtain ⟨q1, q2⟩ := q
                  have g2 : M.opt (b1D .all q1) q2 = some (.bl true, S) := g2
                  obtain ⟨e1, rfl⟩ := opt_inv g2
                  show M.bnd (M.opt (b1D .all q1)) _ S = _
                  rw [e1]
                  rfl
              rw [st, x_bnd]
              have ec : evt c_is_fraction (.or (.not (.call 0 (.c (.var 0) (.c (.int 2) .n)))) (.not (.b1 .all e_is_fraction_1))) [.val (.tup [.int a, .int b]), .no] S = some (false, S) := by
                rw [evt, x_bnd, evt, x_bnd]
                have e1 : evt c_is_fraction (.call 0 (.c (.var 0) (.c (.int 2) .n))) [.val (.tup [.int a, .int b]), .no] S = some (true, S) := by simp [evt, evs, c_is_fraction, gl]
                rw [e1]
                simp only [x_ret, Bool.not_true, Bool.false_eq_true, if_false]
                rw [evt, x_bnd, g3]
                rfl
              rw [show startE N_is_fraction.length [D.tup [.int a, .int b]] = [.val (.tup [.int a, .int b]), .no] from rfl, ec]
              simp [sts]
            · by_cases hb : 1 ≤ b
              · have g4 := r_ratio (S := S) (x := a) (y := b) (by omega) (int_lim hx) (int_lim hy)
                rw [rt_pos (by omega)] at g4
                have e : isF (.tup [.int a, .int b]) = (Nat.gcd a.natAbs b.natAbs == 1) := by simp [isF, hb]
                rw [e]
                simp [ev, evs, c_is_fraction, hb, ra_eq, g4, lw_self hb]
              · have e : isF (.tup [.int a, .int b]) = false := by simp [isF, hb]
                rw [e]
                simp [ev, evs, c_is_fraction, hb]
          | _ => cases n2
        | _ => cases n1
      · have hn : (isN x && isN y) = false := by simpa using hn
        have e : isF (.tup [x, y]) = false := by
          cases x <;> cases y <;> first | rfl | (simp [isN] at hn)
        rw [e]
        rw [hn] at g2
        refine run_go (en := [.val (.tup [x, y]), .no]) rfl (sts_ret ?_)
        have g3 : evt c_is_fraction (.b1 .all e_is_fraction_1) [.val (.tup [x, y]), .no] S = some (false, S) := by
          rw [ev, x_bnd] at g2
          rw [evt, x_bnd]
          revert g2
          cases ev c_is_fraction e_is_fraction_1 [.val (.tup [x, y]), .no] S with
          | none => intro g2; cases g2
          | some q =>
            intro g2
            obtain ⟨q1, q2⟩ := q
            have g2 : M.opt (b1D .all q1) q2 = some (.bl false, S) := g2
            obtain ⟨e1, rfl⟩ := opt_inv g2
            show M.bnd (M.opt (b1D .all q1)) _ S = _
            rw [e1]
            rfl
        rw [st, x_bnd]
        have ec : evt c_is_fraction (.or (.not (.call 0 (.c (.var 0) (.c (.int 2) .n)))) (.not (.b1 .all e_is_fraction_1))) [.val (.tup [x, y]), .no] S = some (true, S) := by
          rw [evt, x_bnd, evt, x_bnd]
          have e1 : evt c_is_fraction (.call 0 (.c (.var 0) (.c (.int 2) .n))) [.val (.tup [x, y]), .no] S = some (true, S) := by simp [evt, evs, c_is_fraction, gl]
          rw [e1]
          simp only [x_ret, Bool.not_true, Bool.false_eq_true, if_false]
          rw [evt, x_bnd, g3]
          rfl
        rw [show startE N_is_fraction.length [D.tup [x, y]] = [.val (.tup [x, y]), .no] from rfl, ec]
        simp [sts, st, ev]
    · rw [isF_len hl]
      have hl2 : ¬ ((xs.length : Int) = 2) := by omega
      simp [hl2] at gl
      simp [m_is_fraction, Cv.run, b_is_fraction, N_is_fraction, c_is_fraction, sts, st, ev, evt, evs, startE, gl, hl2]
  | _ => first
    | (cases hw; done)
    | (simp at gl
       simp [m_is_fraction, Cv.run, b_is_fraction, N_is_fraction, c_is_fraction, sts, st, ev, evt, evs, startE, gl, isF])
theorem Th.two {x y : D} (h : Th (.tup [x, y])) (p : D → Bool) : shp (.lst ([x, y].filter p)) = true := by
  have r := Gd'.row (p := 59) h
  have g : Gs (2 ^ 300) 8000 59 ([x, y].filter p) := by
    have hx := Gs.mem r (x := x) (by simp)
    have hy := Gs.mem r (x := y) (by simp)
    refine ⟨wss_all.mpr fun z hz => wss_all.mp r.ws z (List.mem_filter.mp hz).1, ?_, ?_⟩
    · have hb := r.bk
      have hb : x.py.bulk + 1 + (y.py.bulk + 1 + 0) ≤ 8000 := hb
      cases h1 : p x <;> cases h2 : p y <;> simp [List.filter, h1, h2, D.pys, PyData.bulkAll] <;> omega
    · have hd := r.dp
      have hd : max x.py.depth (max y.py.depth 0) ≤ 59 := hd
      cases h1 : p x <;> cases h2 : p y <;> simp [List.filter, h1, h2, D.pys, PyData.depthAll] <;> omega
  exact (g.lst).shp (by decide) (by decide)
def isC (d : D) : Bool := isF d && match d with
  | .tup [.int a, .int b] => decide (0 ≤ a) && decide (a ≤ b)
  | _ => false
theorem isF_two {d : D} (h : isF d = true) : ∃ a b, d = .tup [.int a, .int b] := by
  unfold isF at h
  split at h
  · exact ⟨_, _, rfl⟩
  · cases h
theorem r_chance (h : Th d) : m_is_chance [d] S = some (.bl (isC d), S) := by
  have gf := r_fraction (S := S) h
  cases hf : isF d with
  | false =>
    rw [hf] at gf
    have e : isC d = false := by unfold isC; rw [hf]; rfl
    rw [e]
    simp [m_is_chance, Cv.run, b_is_chance, N_is_chance, c_is_chance, sts, st, ev, evs, startE, gf]
  | true =>
    rw [hf] at gf
    obtain ⟨a, b, rfl⟩ := isF_two hf
    have e : isC (.tup [.int a, .int b]) = (decide (0 ≤ a) && decide (a ≤ b)) := by unfold isC; rw [hf]; rfl
    rw [e]
    by_cases h1 : 0 ≤ a <;> simp [m_is_chance, Cv.run, b_is_chance, N_is_chance, c_is_chance, sts, st, ev, evs, startE, gf, h1]
def isA : D → Bool
  | .tup [x, .tup ys] => isW x && !ys.isEmpty && ys.all isT
  | _ => false
theorem isA_len {xs : List D} (h : xs.length ≠ 2) : isA (.tup xs) = false := by
  match xs, h with
  | [], _ => simp [isA]
  | [_], _ => simp [isA]
  | [_, _], h => exact absurd rfl h
  | _ :: _ :: _ :: _, _ => simp [isA]
theorem terms_all {x : D} {ys : List D} (hy : Th (.tup ys)) : ev c_is_atom e_is_atom_1 [.val (.tup [x, .tup ys]), .no] S = some (.lst (ys.map fun y => D.bl (isT y)), S) := by
  have := lcm_map (S0 := S) (f := fun y : D => y) (h := D.bl) (t := fun d => M.bnd (M.opt (asg (.nm 1) d (wipeE [.val (.tup [x, .tup ys]), .no] [1]))) fun en2 => evc c_is_atom .n en2)
    (el := fun d => M.bnd (M.opt (asg (.nm 1) d (wipeE [.val (.tup [x, .tup ys]), .no] [1]))) fun en2 => ev c_is_atom (.call 2 (.c (.var 1) .n)) en2) isT ys fun y hm => by
      have gt := r_term (S := S) (hy.row hm)
      refine ⟨by simp [asg, wipeE, setV, evc], ?_⟩
      simp [asg, wipeE, setV, ev, evs, c_is_atom, gt]
  rw [List.map_id'] at this
  have ei : evi c_is_atom (.sq (.idx (.var 0) (.int 1))) [.val (.tup [x, .tup ys]), .no] S = some (ys, S) := by simp [evi, ev, seqD]
  rw [e_is_atom_1, ev, x_bnd, ei]
  show M.bnd (lcM _ _ _) _ S = _
  rw [x_bnd, this]
  rfl
theorem r_atom (h : Th d) : m_is_atom [d] S = some (.bl (isA d), S) := by
  have hw := h.ws
  have gl := r_long (S := S) (n := 2) h
  cases d with
  | tup xs =>
    by_cases hl : xs.length = 2
    · obtain ⟨x, y, rfl⟩ := len2 hl
      have hx := h.row (x := x) (by simp)
      have hy := h.row (x := y) (by simp)
      have gw := r_word (S := S) hx
      have hyw := hy.ws
      simp at gl
      cases hxw : isW x with
      | false =>
        rw [hxw] at gw
        have e : isA (.tup [x, y]) = false := by cases y <;> simp [isA, hxw]
        rw [e]
        refine run_go (en := [.val (.tup [x, y]), .no]) rfl (sts_ret ?_)
        simp [st, sts, ev, evt, evs, startE, N_is_atom, c_is_atom, gl, gw]
      | true =>
        rw [hxw] at gw
        by_cases hy2 : ∃ ys, y = .tup ys
        · obtain ⟨ys, rfl⟩ := hy2
          by_cases hys : ys = []
          · subst hys
            have e : isA (.tup [x, .tup []]) = false := by simp [isA]
            rw [e]
            refine run_go (en := [.val (.tup [x, .tup []]), .no]) rfl (sts_ret ?_)
            simp [st, sts, ev, evt, evs, startE, N_is_atom, c_is_atom, gl, gw]
          · have h0 : ¬ (ys.length = 0) := fun z => hys (List.eq_nil_of_length_eq_zero z)
            have e : isA (.tup [x, .tup ys]) = ys.all isT := by simp [isA, hxw, hys]
            rw [e]
            refine run_go rfl (sts_go (S1 := S) (en1 := [.val (.tup [x, .tup ys]), .no]) ?_ (sts_fin ?_))
            · simp [st, sts, ev, evt, evs, startE, N_is_atom, c_is_atom, gl, gw, h0, hys]
            · rw [ev, x_bnd, terms_all hy]
              simp only [all_map, x_opt]
        · have hi : isiD y "tuple" = some false := by
            cases y <;> first | (cases hyw; done) | rfl | exact absurd ⟨_, rfl⟩ hy2
          have e : isA (.tup [x, y]) = false := by
            cases y <;> first | rfl | (simp [isA]; done) | exact absurd ⟨_, rfl⟩ hy2
          rw [e]
          refine run_go (en := [.val (.tup [x, y]), .no]) rfl (sts_ret ?_)
          simp [st, sts, ev, evt, evs, startE, N_is_atom, c_is_atom, gl, gw, hi]
    · rw [isA_len hl]
      have hl2 : ¬ ((xs.length : Int) = 2) := by omega
      simp [hl2] at gl
      simp [m_is_atom, Cv.run, b_is_atom, N_is_atom, c_is_atom, sts, st, ev, evt, evs, startE, gl, hl2]
  | _ => first
    | (cases hw; done)
    | (simp at gl
       simp [m_is_atom, Cv.run, b_is_atom, N_is_atom, c_is_atom, sts, st, ev, evt, evs, startE, gl, isA])
theorem bulk_filter (p : D → Bool) : ∀ ys : List D, PyData.bulkAll (D.pys (ys.filter p)) ≤ PyData.bulkAll (D.pys ys) ∧ PyData.depthAll (D.pys (ys.filter p)) ≤ PyData.depthAll (D.pys ys)
  | [] => ⟨Nat.le_refl _, Nat.le_refl _⟩
  | y :: ys => by
    obtain ⟨h1, h2⟩ := bulk_filter p ys
    have e1 : PyData.bulkAll (D.pys (y :: ys)) = y.py.bulk + 1 + PyData.bulkAll (D.pys ys) := rfl
    have e2 : PyData.depthAll (D.pys (y :: ys)) = max y.py.depth (PyData.depthAll (D.pys ys)) := rfl
    rw [e1, e2, List.filter_cons]
    split
    · show y.py.bulk + 1 + _ ≤ _ ∧ max y.py.depth _ ≤ _
      omega
    · omega
theorem Th.filt {ys : List D} (h : Th (.tup ys)) (p : D → Bool) : shp (.lst (ys.filter p)) = true := by
  have r := Gd'.row (p := 59) h
  obtain ⟨b1, b2⟩ := bulk_filter p ys
  have g : Gs (2 ^ 300) 8000 59 (ys.filter p) := ⟨wss_all.mpr fun z hz => wss_all.mp r.ws z (List.mem_filter.mp hz).1, Nat.le_trans b1 r.bk, Nat.le_trans b2 r.dp⟩
  exact (g.lst).shp (by decide) (by decide)
theorem filt_emp (p : D → Bool) (l : List D) : (l.filter fun c => !p c).isEmpty = l.all p := by
  induction l with
  | nil => rfl
  | cons c l ih =>
    rw [List.filter_cons, List.all_cons]
    cases h : p c <;> simp [ih]
end
def small (N b p : Nat) (x : D) : Bool := x.ws N && decide (x.py.bulk ≤ b) && decide (x.py.depth ≤ p)
theorem small_ok {N b p : Nat} {x : D} (h : small N b p x = true) : Gd' N b p x := by
  unfold small at h
  simp only [Bool.and_eq_true, decide_eq_true_eq] at h
  exact ⟨h.1.1, h.1.2, h.2⟩
theorem line_of {n : Nat} (h : n ≤ 16000000) : n ≤ sizeLine := by rw [sizeLine_eq]; omega
theorem gs_rev {N b p : Nat} {xs : List D} (h : Gs N b p xs) : Gs N b p xs.reverse := by
  have hb : ∀ ys : List D, PyData.bulkAll (D.pys ys.reverse) = PyData.bulkAll (D.pys ys) ∧ PyData.depthAll (D.pys ys.reverse) = PyData.depthAll (D.pys ys) := by
    intro ys
    induction ys with
    | nil => exact ⟨rfl, rfl⟩
    | cons y ys ih =>
      rw [List.reverse_cons, bulk_app, depth_app, ih.1, ih.2]
      refine ⟨?_, ?_⟩
      · show _ + (y.py.bulk + 1 + 0) = y.py.bulk + 1 + _
        omega
      · show max _ (max y.py.depth 0) = max y.py.depth _
        omega
  exact ⟨wss_all.mpr fun x hx => wss_all.mp h.ws x (List.mem_reverse.mp hx), by rw [(hb xs).1]; exact h.bk, by rw [(hb xs).2]; exact h.dp⟩
section
variable {g : Cf} {N b p : Nat} {xs : List D} {S : Sto} {x0 x2 x4 : Sl} {k : Nat}
theorem v_to : ev g (.sli (.var 1) .n (.s (.var 3))) [x0, .val (.tup xs), x2, .val (.int k), x4] S = some (.tup (xs.take k), S) := by
  have e : sliD (.tup xs) none (some (k : Int)) = some (.tup (cutD xs none (some (k : Int)))) := rfl
  rw [cut_to xs (by omega), Int.toNat_natCast] at e
  simp [ev, evo, e]
theorem v_from : ev g (.sli (.var 1) (.s (.var 3)) .n) [x0, .val (.tup xs), x2, .val (.int k), x4] S = some (.tup (xs.drop k), S) := by
  have e : sliD (.tup xs) (some (k : Int)) none = some (.tup (cutD xs (some (k : Int)) none)) := rfl
  rw [cut_from xs (by omega), Int.toNat_natCast] at e
  simp [ev, evo, e]
theorem v_from1 : ev g (.sli (.var 1) (.s (.bin .add (.var 3) (.int 1))) .n) [x0, .val (.tup xs), x2, .val (.int k), x4] S = some (.tup (xs.drop (k + 1)), S) := by
  have e : sliD (.tup xs) (some ((k : Int) + 1)) none = some (.tup (cutD xs (some ((k : Int) + 1)) none)) := rfl
  rw [cut_from xs (by omega), show ((k : Int) + 1).toNat = k + 1 by omega] at e
  simp [ev, evo, e]
theorem v_one : ev g (.sli (.var 1) (.s (.var 3)) (.s (.bin .add (.var 3) (.int 1)))) [x0, .val (.tup xs), x2, .val (.int k), x4] S = some (.tup ((xs.drop k).take 1), S) := by
  have e : sliD (.tup xs) (some (k : Int)) (some ((k : Int) + 1)) = some (.tup (cutD xs (some (k : Int)) (some ((k : Int) + 1)))) := rfl
  rw [cut_mid xs (by omega) (by omega), Int.toNat_natCast, show ((k : Int) + 1 - k).toNat = 1 by omega] at e
  simp [ev, evo, e]
end
theorem len_sz {N b p : Nat} {xs : List D} (h : Gs N b p xs) : xs.length ≤ b := Nat.le_trans (bulk_len xs) h.bk
theorem digits_small (n : Nat) : ∀ c ∈ (Nat.repr n).toList, c.toNat < 128 := by
  intro c hc
  have hc : c ∈ Nat.toDigits 10 n := by
    unfold Nat.repr at hc
    simpa using hc
  have h := Nat.isDigit_of_mem_toDigits (by decide) (by decide) hc
  simp [Char.isDigit] at h
  have h2 : c.val.toNat ≤ 57 := h.2
  show c.val.toNat < 128
  omega
theorem int_text (i : Int) : ((Str.ofString (toString i)).cps.toList.all fun c => decide (c < 128)) = true := by
  rw [List.all_eq_true]
  intro x hx
  rw [Str.ofString_eq_toList] at hx
  have hx : x ∈ ((toString i).toList.map Char.toNat) := by simpa using hx
  obtain ⟨c, hc, rfl⟩ := List.mem_map.mp hx
  apply decide_eq_true
  cases i with
  | ofNat m => exact digits_small m c hc
  | negSucc m =>
    have e : toString (Int.negSucc m) = "-" ++ Nat.repr (m + 1) := rfl
    rw [e, String.toList_append] at hc
    rcases List.mem_append.mp hc with z | z
    · have : c = '-' := by simpa using z
      rw [this]; decide
    · exact digits_small _ c z
theorem int_text_len {i : Int} (h : i.natAbs ≤ 2 ^ 299) : (Str.ofString (toString i)).cps.size ≤ 301 := by
  have h2 : i.natAbs.log2 < 300 := by
    by_cases h0 : i.natAbs = 0
    · rw [h0]; decide
    · exact (Nat.log2_lt h0).mpr (Nat.lt_of_le_of_lt h (by decide))
  have e := int_text_length_le (a := i) (k := 300) (by decide) h2
  have e2 : (Str.ofString (toString i)).cps.size = (Str.ofString (toString i)).length := rfl
  rw [e2, ofString_length]
  exact e
theorem up_small : (List.range 128).all (fun c => (Unicode.upperOf c).all fun d => decide (d < 128)) = true := by decide +kernel
theorem up_text {s : Str} (h : (s.cps.toList.all fun c => decide (c < 128)) = true) : ((Txt.upper s).cps.toList.all fun c => decide (c < 128)) = true := by
  rw [List.all_eq_true] at h ⊢
  intro x hx
  have hx : x ∈ (s.cps.mapIdx fun i c => (Unicode.upperOf c).toArray).flatten := by
    have : x ∈ (Txt.upper s).cps := by simpa using hx
    exact this
  obtain ⟨l, hl, hxl⟩ := Array.mem_flatten.mp hx
  obtain ⟨i, hi, rfl⟩ := Array.mem_mapIdx.mp hl
  have hc := of_decide_eq_true (h s.cps[i] (by simp))
  have := List.all_eq_true.mp up_small s.cps[i] (List.mem_range.mpr hc)
  exact List.all_eq_true.mp this x (by simpa using hxl)
theorem up_len (s : Str) : (Txt.upper s).cps.size ≤ 3 * s.cps.size := PyProof.Rows.placed_le3 s _ fun _ c => PySem.StrLaws.upperOf_le3 c

end Cv.Kp

/-! Cv20: reckoning without the store: what does not look at it. -/
namespace Cv
open PySem
section
variable {α β γ : Type} {g : Cf} {en : En}
theorem z_rb (a : α) (f : α → M β) : M.bnd (M.ret a) f = f a := (rfl)
theorem z_bb (m : M α) (f : α → M β) (h : β → M γ) : M.bnd (M.bnd m f) h = M.bnd m fun a => M.bnd (f a) h := by
  funext S
  simp only [M.bnd]
  cases m S <;> rfl
theorem z_br (m : M α) : M.bnd m M.ret = m := by
  funext S
  simp only [M.bnd]
  cases m S <;> rfl
theorem z_os (a : α) : M.opt (some a) = M.ret a := (rfl)
theorem z_on : M.opt (none : Option α) = M.no := (rfl)
theorem z_nb (f : α → M β) : M.bnd M.no f = M.no := (rfl)
theorem z_I (i : Int) : isI (.int i) = M.ret i := (rfl)
theorem z_B (i : Bool) : isB (.bl i) = M.ret i := (rfl)
theorem z_O (i : Nat) : isO (.obj i) = M.ret i := (rfl)
theorem z_L (i : List D) : isL (.lst i) = M.ret i := (rfl)
theorem z_ib {c : Prop} [Decidable c] (a b : M α) (f : α → M β) : M.bnd (if c then a else b) f = if c then M.bnd a f else M.bnd b f := by split <;> rfl
theorem z_oi {c : Prop} [Decidable c] (a b : Option α) : M.opt (if c then a else b) = if c then M.opt a else M.opt b := by split <;> rfl
theorem z_app (a : α) (S : Sto) : M.ret a S = some (a, S) := (rfl)
/-- a comprehension over what stands for things -/
def lcT (t : α → M Bool) (e : α → M D) : List α → M (List D)
  | [] => M.ret []
  | x :: xs => M.bnd (t x) fun b => if b then M.bnd (e x) fun y => M.bnd (lcT t e xs) fun ys => M.ret (y :: ys) else lcT t e xs
theorem z_lc {f : α → D} {t : D → M Bool} {e : D → M D} : ∀ xs : List α, lcM t e (xs.map f) = lcT (fun a => t (f a)) (fun a => e (f a)) xs
  | [] => rfl
  | x :: xs => by
    show M.bnd (t (f x)) (fun b => if b then M.bnd (e (f x)) fun y => M.bnd (lcM t e (xs.map f)) fun ys => M.ret (y :: ys) else lcM t e (xs.map f)) = _
    rw [z_lc xs]
    rfl
theorem z_lcF (p : α → Bool) (h : α → D) : ∀ xs : List α, lcT (fun a => M.ret (p a)) (fun a => M.ret (h a)) xs = M.ret ((xs.filter p).map h)
  | [] => rfl
  | x :: xs => by
    rw [lcT, z_rb, z_lcF p h xs]
    cases e : p x <;> simp [List.filter, e, z_rb]
theorem z_lcA (h : α → D) : ∀ xs : List α, lcT (fun _ => M.ret true) (fun a => M.ret (h a)) xs = M.ret (xs.map h)
  | [] => rfl
  | x :: xs => by
    rw [lcT, z_rb, z_lcA h xs]
    rfl
theorem z_lcC {xs ys : List α} {t t' : α → M Bool} {e e' : α → M D} (hx : xs = ys) (ht : ∀ a ∈ ys, t a = t' a) (he : ∀ a ∈ ys, e a = e' a) : lcT t e xs = lcT t' e' ys := by
  subst hx
  induction xs with
  | nil => rfl
  | cons x xs ih =>
    rw [lcT, lcT, ht x List.mem_cons_self, he x List.mem_cons_self, ih (fun a h => ht a (List.mem_cons_of_mem _ h)) (fun a h => he a (List.mem_cons_of_mem _ h))]
theorem z_lcI (p : D → Bool) : ∀ xs : List D, lcT (fun a => M.ret (p a)) (fun a => M.ret a) xs = M.ret (xs.filter p)
  | [] => rfl
  | x :: xs => by
    rw [lcT, z_rb, z_lcI p xs]
    cases e : p x <;> simp [List.filter, e, z_rb]
def catT (t : α → M Bool) (e : α → M (List D)) : List α → M (List D)
  | [] => M.ret []
  | x :: xs => M.bnd (t x) fun b => if b then M.bnd (e x) fun ys => M.bnd (catT t e xs) fun zs => M.ret (ys ++ zs) else catT t e xs
theorem z_cat {f : α → D} {t : D → M Bool} {e : D → M (List D)} : ∀ xs : List α, catM t e (xs.map f) = catT (fun a => t (f a)) (fun a => e (f a)) xs
  | [] => rfl
  | x :: xs => by
    show M.bnd (t (f x)) (fun b => if b then M.bnd (e (f x)) fun y => M.bnd (catM t e (xs.map f)) fun ys => M.ret (y ++ ys) else catM t e (xs.map f)) = _
    rw [z_cat xs]
    rfl
theorem z_catA (h : α → List D) : ∀ xs : List α, catT (fun _ => M.ret true) (fun a => M.ret (h a)) xs = M.ret (xs.flatMap h)
  | [] => rfl
  | x :: xs => by
    rw [catT, z_rb, z_catA h xs]
    rfl
theorem z_catF (p : α → Bool) (h : α → List D) : ∀ xs : List α, catT (fun a => M.ret (p a)) (fun a => M.ret (h a)) xs = M.ret ((xs.filter p).flatMap h)
  | [] => rfl
  | x :: xs => by
    rw [catT, z_rb, z_catF p h xs]
    cases e : p x <;> simp [List.filter, e, z_rb]
theorem z_catC {xs ys : List α} {t t' : α → M Bool} {e e' : α → M (List D)} (hx : xs = ys) (ht : ∀ a ∈ ys, t a = t' a) (he : ∀ a ∈ ys, e a = e' a) : catT t e xs = catT t' e' ys := by
  subst hx
  induction xs with
  | nil => rfl
  | cons x xs ih =>
    rw [catT, catT, ht x List.mem_cons_self, he x List.mem_cons_self, ih (fun a h => ht a (List.mem_cons_of_mem _ h)) (fun a h => he a (List.mem_cons_of_mem _ h))]
/-- a loop that folds: E tells the frame -/
theorem z_for {σ : Type} (E : σ → En) (F : σ → α → σ) {f : α → D} {a : D → En → M En} {b : En → M (Fl × En)} : ∀ (xs : List α) (s : σ), (∀ (l : List α) (x : α) (r : List α), xs = l ++ x :: r → M.bnd (a (f x) (E (l.foldl F s))) b = M.ret (.nx, E (F (l.foldl F s) x))) →
    forM a b (xs.map f) (E s) = M.ret (.nx, E (xs.foldl F s))
  | [], s, _ => rfl
  | x :: xs, s, h => by
    have h0 := h [] x xs rfl
    have ih := z_for E F (a := a) (b := b) xs (F s x) fun l y r e => h (x :: l) y r (by rw [e]; rfl)
    show M.bnd (a (f x) (E s)) (fun en1 => M.bnd (b en1) fun r => match r.1 with
      | .nx => forM a b (xs.map f) r.2
      | .ct => forM a b (xs.map f) r.2
      | .brk => M.ret (.nx, r.2)
      | .ret d => M.ret (.ret d, r.2)) = _
    rw [← z_bb, show M.bnd (a (f x) (E s)) b = M.ret (.nx, E (F s x)) from h0, z_rb]
    exact ih
/-- .. with what holds behind each part -/
theorem z_forR {α : Type} {f : α → D} {a : D → En → M En} {b : En → M (Fl × En)} {ps : List α} (I : List α → En → Prop) (hb : ∀ (l : List α) (x : α) (r : List α) (en : En), ps = l ++ x :: r → I l en → ∃ en', M.bnd (a (f x) en) b = M.ret (.nx, en') ∧ I (l ++ [x]) en') :
    ∀ (xs l : List α) (en : En), ps = l ++ xs → I l en → ∃ en', forM a b (xs.map f) en = M.ret (.nx, en') ∧ I ps en'
  | [], l, en, hp, h => ⟨en, rfl, by rw [hp, List.append_nil]; exact h⟩
  | x :: xs, l, en, hp, h => by
    obtain ⟨en1, e1, h1⟩ := hb l x xs en hp h
    obtain ⟨en', e2, h2⟩ := z_forR I hb xs (l ++ [x]) en1 (by rw [hp]; simp) h1
    refine ⟨en', ?_, h2⟩
    show M.bnd (a (f x) en) (fun en1 => M.bnd (b en1) fun r => match r.1 with
      | .nx => forM a b (xs.map f) r.2
      | .ct => forM a b (xs.map f) r.2
      | .brk => M.ret (.nx, r.2)
      | .ret d => M.ret (.ret d, r.2)) = _
    rw [← z_bb, e1, z_rb]
    exact e2
/-- a comprehension that draws -/
theorem lcm_draw {β : Type} {f : β → D} {Q : β → Prop} {t : D → M Bool} {e : D → M D} (I : Nat → Sto → Prop) (N : Nat) (h : ∀ (x : D) (n : Nat) (S : Sto), n < N → I n S → t x S = some (true, S) ∧ ∃ (y : β) (S' : Sto), e x S = some (f y, S') ∧ Q y ∧ I (n + 1) S') :
    ∀ (xs : List D) (n : Nat) (S : Sto), n + xs.length ≤ N → I n S → ∃ (ys : List β) (S' : Sto), lcM t e xs S = some (ys.map f, S') ∧ (∀ y ∈ ys, Q y) ∧ ys.length = xs.length ∧ I (n + xs.length) S'
  | [], n, S, _, hi => ⟨[], S, rfl, (fun _ q => nomatch q), rfl, hi⟩
  | x :: xs, n, S, hn, hi => by
    rw [List.length_cons] at hn
    obtain ⟨h1, y, S1, h2, q, i1⟩ := h x n S (by omega) hi
    obtain ⟨ys, S2, h3, qs, hl, i2⟩ := lcm_draw I N h xs (n + 1) S1 (by omega) i1
    refine ⟨y :: ys, S2, lcm_go h1 h2 h3, fun z hz => ?_, by rw [List.length_cons, hl, List.length_cons], by rw [List.length_cons, show n + (xs.length + 1) = n + 1 + xs.length by omega]; exact i2⟩
    rcases List.mem_cons.mp hz with r | r
    · rw [r]; exact q
    · exact qs z r
theorem sts_ret' {g : Cf} {s : S} {en en1 : En} {S0 S1 : Sto} (h1 : st g s en S0 = some ((.nx, en1), S1)) : sts g [s] en S0 = some ((.nx, en1), S1) := sts_go h1 sts_end
theorem ev_lc1 {g : Cf} {own : List Nat} {t : Tg} {it : Wi} {c : Oe} {e : E} {en : En} {S S1 S2 : Sto} {ds ys : List D} (h1 : evi g it en S = some (ds, S1))
    (h2 : lcM (fun d => M.bnd (M.opt (asg t d (wipeE en own))) fun en2 => evc g c en2) (fun d => M.bnd (M.opt (asg t d (wipeE en own))) fun en2 => ev g e en2) ds S1 = some (ys, S2)) : ev g (.lc1 own t it c e) en S = some (.lst ys, S2) := by
  rw [ev, x_bnd, h1]
  show M.bnd (lcM _ _ _) _ S1 = _
  rw [x_bnd, h2]
  rfl
theorem ev_b1 {g : Cf} {f : B1} {a : E} {en : En} {S S1 : Sto} {x y : D} (h1 : ev g a en S = some (x, S1)) (h2 : b1D f x = some y) : ev g (.b1 f a) en S = some (y, S1) := by
  rw [ev, x_bnd, h1]
  show M.opt (b1D f x) S1 = _
  rw [h2]
  rfl
end
theorem z_ev {g : Cf} {en : En} : (∀ i, ev g (.int i) en = M.ret (.int i)) ∧ (∀ i, ev g (.str i) en = M.ret (.str i)) ∧ (∀ i, ev g (.bl i) en = M.ret (.bl i)) ∧ ev g .non en = M.ret .non := ⟨fun _ => rfl, fun _ => rfl, fun _ => rfl, rfl⟩
theorem line1 (a b : Nat) : (Str.length ⟨#[a]⟩ + Str.length ⟨#[b]⟩ ≤ sizeLine) = True := by
  rw [sizeLine_eq]
  exact eq_true (by show 1 + 1 ≤ 16777216; decide)
theorem z_nx {en : En} {α : Type} (f : Fl × En → M α) : M.bnd (M.ret (Fl.nx, en)) f = f (Fl.nx, en) := (rfl)
theorem asgC (i : Nat) (d : D) (x : Sl) (en : En) : asg (.nm i) d (x :: en) = if i < (x :: en).length then some (setV (x :: en) i d) else none := (rfl)
theorem asg2C (a b : Tg) (x y : D) (en : En) : asg (.tp2 a b) (.tup [x, y]) en = (asg a x en).bind (asg b y) := (rfl)
theorem asg3C (a b c : Tg) (x y z : D) (en : En) : asg (.tp3 a b c) (.tup [x, y, z]) en = ((asg a x en).bind (asg b y)).bind (asg c z) := (rfl)
theorem asg4C (a b c e : Tg) (x y z w : D) (en : En) : asg (.tp4 a b c e) (.tup [x, y, z, w]) en = (((asg a x en).bind (asg b y)).bind (asg c z)).bind (asg e w) := (rfl)
theorem z_ft {α : Type} (xs : List α) : xs.filter (fun _ => true) = xs := by simp
theorem z_lcD {t : D → M Bool} {e : D → M D} : ∀ xs : List D, lcM t e xs = lcT t e xs
  | [] => rfl
  | x :: xs => by
    show M.bnd (t x) (fun b => if b then M.bnd (e x) fun y => M.bnd (lcM t e xs) fun ys => M.ret (y :: ys) else lcM t e xs) = _
    rw [z_lcD xs]
    rfl
theorem z_lcM {α β : Type} {f : β → α} {t : α → M Bool} {e : α → M D} : ∀ xs : List β, lcT t e (xs.map f) = lcT (fun a => t (f a)) (fun a => e (f a)) xs
  | [] => rfl
  | x :: xs => by
    rw [List.map_cons, lcT, z_lcM xs]
    rfl
theorem z_catD {t : D → M Bool} {e : D → M (List D)} : ∀ xs : List D, catM t e xs = catT t e xs
  | [] => rfl
  | x :: xs => by
    show M.bnd (t x) (fun b => if b then M.bnd (e x) fun y => M.bnd (catM t e xs) fun ys => M.ret (y ++ ys) else catM t e xs) = _
    rw [z_catD xs]
    rfl
theorem z_catM {α β : Type} {f : β → α} {t : α → M Bool} {e : α → M (List D)} : ∀ xs : List β, catT t e (xs.map f) = catT (fun a => t (f a)) (fun a => e (f a)) xs
  | [] => rfl
  | x :: xs => by
    rw [List.map_cons, catT, z_catM xs]
    rfl
/-- a comprehension, item by item -/
theorem lcT_eq {α : Type} {t : α → M Bool} {e : α → M D} (p : α → Bool) (h : α → D) {xs : List α} (ht : ∀ a ∈ xs, t a = M.ret (p a)) (he : ∀ a ∈ xs, p a = true → e a = M.ret (h a)) : lcT t e xs = M.ret ((xs.filter p).map h) := by
  induction xs with
  | nil => rfl
  | cons x xs ih =>
    rw [lcT, ht x List.mem_cons_self, z_rb, ih (fun a q => ht a (List.mem_cons_of_mem _ q)) (fun a q => he a (List.mem_cons_of_mem _ q))]
    cases hp : p x with
    | true =>
      rw [he x List.mem_cons_self hp]
      simp [List.filter, hp, z_rb]
    | false => simp [List.filter, hp, z_rb]
theorem lcT_all {α : Type} {t : α → M Bool} {e : α → M D} (h : α → D) {xs : List α} (ht : ∀ a ∈ xs, t a = M.ret true) (he : ∀ a ∈ xs, e a = M.ret (h a)) : lcT t e xs = M.ret (xs.map h) := by
  rw [lcT_eq (fun _ => true) h ht fun a q _ => he a q, z_ft]
theorem catT_eq {α : Type} {t : α → M Bool} {e : α → M (List D)} (p : α → Bool) (h : α → List D) {xs : List α} (ht : ∀ a ∈ xs, t a = M.ret (p a)) (he : ∀ a ∈ xs, p a = true → e a = M.ret (h a)) : catT t e xs = M.ret ((xs.filter p).flatMap h) := by
  induction xs with
  | nil => rfl
  | cons x xs ih =>
    rw [catT, ht x List.mem_cons_self, z_rb, ih (fun a q => ht a (List.mem_cons_of_mem _ q)) (fun a q => he a (List.mem_cons_of_mem _ q))]
    cases hp : p x with
    | true =>
      rw [he x List.mem_cons_self hp]
      simp [List.filter, hp, z_rb]
    | false => simp [List.filter, hp, z_rb]
theorem catT_all {α : Type} {t : α → M Bool} {e : α → M (List D)} (h : α → List D) {xs : List α} (ht : ∀ a ∈ xs, t a = M.ret true) (he : ∀ a ∈ xs, e a = M.ret (h a)) : catT t e xs = M.ret (xs.flatMap h) := by
  rw [catT_eq (fun _ => true) h ht fun a q _ => he a q, z_ft]
end Cv

namespace liftedworlds_k63_sizes_by_kind
open PySem PySem.Spec PyProof.Rows L2 Cv
def top (i : Nat) : Stmt := PySem.Challenge.pw_liftedworlds_k63_sizes_by_kind.main.body.getD i (.Pass ⟨0, 0, 0, 0⟩)
def g_NOUGHT : D := (.tup [(.int 0), (.int 1)])
def g_LETTERS_words : D := (.str "abcdefghijklmnopqrstuvwxyz")
def g_LONGEST : D := (.int 8)
def g_LETTERS_sizes : D := (.str "abcdefghijklmnopqrstuvwxyz")
/-! _law_feed -/
abbrev st_w_feed : Stmt := top 19
def N_w_feed : List Str := ["_law_script"]
def q_w_feed : Ck := ⟨N_w_feed, [], []⟩
def b_w_feed : List S := [.ret (.mkl (.c (.sli (.var 0) .n (.s (.int 63))) (.c (.int 0) (.c (.int 0) (.c (.int 0) .n)))))]
def c_w_feed : Cf := ⟨[], []⟩
def m_w_feed : List D → M D := run c_w_feed ⟨N_w_feed.length, b_w_feed⟩ 1
theorem k_w_feed : chkSs q_w_feed b_w_feed ⟨defScope st_w_feed, none⟩ (defBody st_w_feed) = true := by decide +kernel
theorem s_w_feed : FnScope N_w_feed ["_law_script"] (defScope st_w_feed) := ⟨rfl, rfl, rfl, by decide +kernel, rfl, by decide +kernel, by decide +kernel⟩
theorem f_w_feed {P : Program} {w : World} {K : PySem.W.Frag} {mg : Str → Option Value} {base : Heap} {f : Addr} {fd : FuncData} (D : FunD K "_law_feed" "_law_feed" (defArgs st_w_feed) (defBody st_w_feed) (defScope st_w_feed) [] [] f fd)
    (hm : mg "_law_feed" = some (.ref f)) (hb : ∀ y ∈ bNames, mg y = none) : Kn P w K mg base 1 "_law_feed" 1 m_w_feed :=
  def_K D hm s_w_feed rfl rfl k_w_feed hb .nil .nil (D.bindsN fun _ _ _ _ _ _ us hl => match us, hl with | [_], _ => rfl)
/-! _law_same -/
abbrev st_w_same : Stmt := top 21
def N_w_same : List Str := ["_law_found", "_law_due"]
def q_w_same : Ck := ⟨N_w_same, [], []⟩
def b_w_same : List S := [.ret (.cmp .eq (.b1 .repr (.var 0)) (.b1 .repr (.var 1)))]
def c_w_same : Cf := ⟨[], []⟩
def m_w_same : List D → M D := run c_w_same ⟨N_w_same.length, b_w_same⟩ 2
theorem k_w_same : chkSs q_w_same b_w_same ⟨defScope st_w_same, none⟩ (defBody st_w_same) = true := by decide +kernel
theorem s_w_same : FnScope N_w_same ["_law_found", "_law_due"] (defScope st_w_same) := ⟨rfl, rfl, rfl, by decide +kernel, rfl, by decide +kernel, by decide +kernel⟩
theorem f_w_same {P : Program} {w : World} {K : PySem.W.Frag} {mg : Str → Option Value} {base : Heap} {f : Addr} {fd : FuncData} (D : FunD K "_law_same" "_law_same" (defArgs st_w_same) (defBody st_w_same) (defScope st_w_same) [] [] f fd)
    (hm : mg "_law_same" = some (.ref f)) (hb : ∀ y ∈ bNames, mg y = none) : Kn P w K mg base 1 "_law_same" 2 m_w_same :=
  def_K D hm s_w_same rfl rfl k_w_same hb .nil .nil (D.bindsN fun _ _ _ _ _ _ us hl => match us, hl with | [_, _], _ => rfl)
/-! _law_draw -/
abbrev st_w_draw : Stmt := top 20
def N_w_draw : List Str := ["_law_feed_here", "_law_many", "_law_found", "_law_at", "_law_cell", "_law_mixed"]
def q_w_draw : Ck := ⟨N_w_draw, [], []⟩
def b_w_draw : List S := [.seti (.var 0) 3 (.bin .add (.fldi (.var 0) 3) (.int 1)), .ife (.cmp .gt (.fldi (.var 0) 2) (.int 0)) [.set (.nm 2) (.bin .mod (.fldi (.var 0) 2) (.var 1)), .seti (.var 0) 2 (.bin .fdiv (.fldi (.var 0) 2) (.var 1)), .ret (.var 2)] [], .set (.nm 3) (.fldi (.var 0) 1), .seti (.var 0) 1 (.bin .add (.var 3) (.int 1)), .set (.nm 4) (.ife (.cmp .gt (.b1 .len (.fldi (.var 0) 0)) (.int 0)) (.idx (.fldi (.var 0) 0) (.bin .mod (.var 3) (.b1 .len (.fldi (.var 0) 0)))) (.int 6)), .ife (.and (.cmp .ge (.var 4) (.bin .pow (.int 10) (.int 18))) (.cmp .lt (.var 3) (.b1 .len (.fldi (.var 0) 0)))) [.seti (.var 0) 2 (.bin .fdiv (.var 4) (.var 1)), .ret (.bin .mod (.var 4) (.var 1))] [], .set (.nm 5) (.bin .mod (.bin .pow (.bin .add (.bin .add (.bin .mod (.var 4) (.int 2147483629)) (.bin .mul (.int 110017) (.fldi (.var 0) 3))) (.int 61)) (.int 5)) (.int 2147483647)), .ret (.bin .mod (.bin .fdiv (.bin .mod (.bin .pow (.bin .add (.var 5) (.bin .mul (.bin .mul (.int 59083) (.fldi (.var 0) 3)) (.fldi (.var 0) 3))) (.int 5)) (.int 2147483587)) (.int 64)) (.var 1))]
def c_w_draw : Cf := ⟨[], []⟩
def m_w_draw : List D → M D := run c_w_draw ⟨N_w_draw.length, b_w_draw⟩ 2
theorem k_w_draw : chkSs q_w_draw b_w_draw ⟨defScope st_w_draw, none⟩ (defBody st_w_draw) = true := by decide +kernel
theorem s_w_draw : FnScope N_w_draw ["_law_feed_here", "_law_many"] (defScope st_w_draw) := ⟨rfl, rfl, rfl, by decide +kernel, rfl, by decide +kernel, by decide +kernel⟩
theorem f_w_draw {P : Program} {w : World} {K : PySem.W.Frag} {mg : Str → Option Value} {base : Heap} {f : Addr} {fd : FuncData} (D : FunD K "_law_draw" "_law_draw" (defArgs st_w_draw) (defBody st_w_draw) (defScope st_w_draw) [] [] f fd)
    (hm : mg "_law_draw" = some (.ref f)) (hb : ∀ y ∈ bNames, mg y = none) : Kn P w K mg base 1 "_law_draw" 2 m_w_draw :=
  def_K D hm s_w_draw rfl rfl k_w_draw hb .nil .nil (D.bindsN fun _ _ _ _ _ _ us hl => match us, hl with | [_, _], _ => rfl)
/-! _law_cut -/
abbrev st_w_cut : Stmt := top 22
def N_w_cut : List Str := ["_law_a", "_law_b", "_law_one", "_law_other"]
def q_w_cut : Ck := ⟨N_w_cut, [], []⟩
def b_w_cut_1 : List S := [.par 2 3 (.var 3) (.bin .mod (.var 2) (.var 3))]
def b_w_cut : List S := [.par 2 3 (.b1 .abs (.var 0)) (.var 1), .whl (.cmp .gt (.var 3) (.int 0)) b_w_cut_1, .ret (.tup (.c (.bin .fdiv (.var 0) (.var 2)) (.c (.bin .fdiv (.var 1) (.var 2)) .n)))]
def c_w_cut : Cf := ⟨[], []⟩
def m_w_cut : List D → M D := run c_w_cut ⟨N_w_cut.length, b_w_cut⟩ 2
theorem k_w_cut : chkSs q_w_cut b_w_cut ⟨defScope st_w_cut, none⟩ (defBody st_w_cut) = true := by decide +kernel
theorem s_w_cut : FnScope N_w_cut ["_law_a", "_law_b"] (defScope st_w_cut) := ⟨rfl, rfl, rfl, by decide +kernel, rfl, by decide +kernel, by decide +kernel⟩
theorem f_w_cut {P : Program} {w : World} {K : PySem.W.Frag} {mg : Str → Option Value} {base : Heap} {f : Addr} {fd : FuncData} (D : FunD K "_law_cut" "_law_cut" (defArgs st_w_cut) (defBody st_w_cut) (defScope st_w_cut) [] [] f fd)
    (hm : mg "_law_cut" = some (.ref f)) (hb : ∀ y ∈ bNames, mg y = none) : Kn P w K mg base 1 "_law_cut" 2 m_w_cut :=
  def_K D hm s_w_cut rfl rfl k_w_cut hb .nil .nil (D.bindsN fun _ _ _ _ _ _ us hl => match us, hl with | [_, _], _ => rfl)
/-! _law_sizes -/
abbrev st_w_sizes : Stmt := top 24
def N_w_sizes : List Str := ["_law_feed_here", "_law_most", "_law_top", "_law_found", "_law_name", "_law_counts", "_law_under", "_law_k"]
def q_w_sizes : Ck := ⟨N_w_sizes, [("_law_draw", 2), ("_law_cut", 2)], []⟩
def e_w_sizes_1 : E := .lc1 [7] (.nm 7) (.rg1 (.bin .add (.int 1) (.call 0 (.c (.var 0) (.c (.var 1) .n))))) .n (.bin .add (.int 1) (.call 0 (.c (.var 0) (.c (.var 2) .n))))
def b_w_sizes_2 : List S := [.ife (.cmp .gt (.call 0 (.c (.var 0) (.c (.int 4) .n))) (.int 0)) [.set (.nm 5) (.b1 .tuple e_w_sizes_1), .set (.nm 6) (.bin .add (.int 1) (.call 0 (.c (.var 0) (.c (.int 6) .n)))), .app 3 (.tup (.c (.var 4) (.c (.var 5) (.c (.call 1 (.c (.bin .add (.int 1) (.call 0 (.c (.var 0) (.c (.var 6) .n)))) (.c (.var 6) .n))) .n))))] []]
def b_w_sizes : List S := [.seto 3 (.lst .n), .frr (.nm 4) (.sq (.lst (.c (.str "r") (.c (.str "s") (.c (.str "t") (.c (.str "u") .n)))))) b_w_sizes_2, .frz 3, .ret (.b1 .tuple (.var 3))]
def c_w_sizes : Cf := ⟨[], [m_w_draw, m_w_cut]⟩
def m_w_sizes : List D → M D := run c_w_sizes ⟨N_w_sizes.length, b_w_sizes⟩ 3
@[simp] theorem hf_w_sizes_0 : c_w_sizes.fn[0]? = some m_w_draw := (rfl)
@[simp] theorem hf_w_sizes_1 : c_w_sizes.fn[1]? = some m_w_cut := (rfl)
theorem k_w_sizes : chkSs q_w_sizes b_w_sizes ⟨defScope st_w_sizes, none⟩ (defBody st_w_sizes) = true := by decide +kernel
theorem s_w_sizes : FnScope N_w_sizes ["_law_feed_here", "_law_most", "_law_top"] (defScope st_w_sizes) := ⟨rfl, rfl, rfl, by decide +kernel, rfl, by decide +kernel, by decide +kernel⟩
theorem f_w_sizes {P : Program} {w : World} {K : PySem.W.Frag} {mg : Str → Option Value} {base : Heap} {f : Addr} {fd : FuncData} (D : FunD K "_law_sizes" "_law_sizes" (defArgs st_w_sizes) (defBody st_w_sizes) (defScope st_w_sizes) [] [] f fd)
    (hm : mg "_law_sizes" = some (.ref f)) (hb : ∀ y ∈ bNames, mg y = none) (e0 : Kn P w K mg base 1 "_law_draw" 2 m_w_draw) (e1 : Kn P w K mg base 1 "_law_cut" 2 m_w_cut) : Kn P w K mg base 2 "_law_sizes" 3 m_w_sizes :=
  def_K D hm s_w_sizes rfl rfl k_w_sizes hb (.cons (e0.mono (by decide)) (.cons (e1.mono (by decide)) .nil)) .nil (D.bindsN fun _ _ _ _ _ _ us hl => match us, hl with | [_, _, _], _ => rfl)
/-! first_words -/
abbrev st_first_words : Stmt := top 15
def N_first_words : List Str := ["many", "one", "other"]
def q_first_words : Ck := ⟨N_first_words, [], ["LETTERS_sizes"]⟩
def e_first_words_1 : E := .lc2 [1, 2] (.nm 1) (.sq (.glo 0)) .n [2] (.nm 2) (.sq (.glo 0)) .n (.bin .add (.var 1) (.var 2))
def b_first_words : List S := [.ret (.sli e_first_words_1 .n (.s (.var 0)))]
def c_first_words : Cf := ⟨[g_LETTERS_sizes], []⟩
def m_first_words : List D → M D := run c_first_words ⟨N_first_words.length, b_first_words⟩ 1
@[simp] theorem hg_first_words_0 : c_first_words.gl[0]? = some g_LETTERS_sizes := (rfl)
theorem k_first_words : chkSs q_first_words b_first_words ⟨defScope st_first_words, none⟩ (defBody st_first_words) = true := by decide +kernel
theorem s_first_words : FnScope N_first_words ["many"] (defScope st_first_words) := ⟨rfl, rfl, rfl, by decide +kernel, rfl, by decide +kernel, by decide +kernel⟩
theorem f_first_words {P : Program} {w : World} {K : PySem.W.Frag} {mg : Str → Option Value} {base : Heap} {f : Addr} {fd : FuncData} (D : FunD K "first_words" "first_words" (defArgs st_first_words) (defBody st_first_words) (defScope st_first_words) [] [] f fd)
    (hm : mg "first_words" = some (.ref f)) (hb : ∀ y ∈ bNames, mg y = none) (a0 : Kg K mg "LETTERS_sizes" g_LETTERS_sizes) : Kn P w K mg base 1 "first_words" 1 m_first_words :=
  def_K D hm s_first_words rfl rfl k_first_words hb .nil (.cons a0 .nil) (D.bindsN fun _ _ _ _ _ _ us hl => match us, hl with | [_], _ => rfl)
/-! even_rows -/
abbrev st_even_rows : Stmt := top 16
def N_even_rows : List Str := ["counts", "found", "many", "words", "word"]
def q_even_rows : Ck := ⟨N_even_rows, [("first_words", 1)], []⟩
def e_even_rows_1 : E := .lc2 [3, 4] (.nm 3) (.sq (.var 1)) .n [4] (.nm 4) (.sq (.call 0 (.c (.var 2) .n))) .n (.bin .add (.var 3) (.tup (.c (.var 4) .n)))
def b_even_rows_2 : List S := [.setc 1 e_even_rows_1]
def b_even_rows : List S := [.set (.nm 1) (.lst (.c (.tup .n) .n)), .frr (.nm 2) (.sq (.var 0)) b_even_rows_2, .ret (.var 1)]
def c_even_rows : Cf := ⟨[], [m_first_words]⟩
def m_even_rows : List D → M D := run c_even_rows ⟨N_even_rows.length, b_even_rows⟩ 1
@[simp] theorem hf_even_rows_0 : c_even_rows.fn[0]? = some m_first_words := (rfl)
theorem k_even_rows : chkSs q_even_rows b_even_rows ⟨defScope st_even_rows, none⟩ (defBody st_even_rows) = true := by decide +kernel
theorem s_even_rows : FnScope N_even_rows ["counts"] (defScope st_even_rows) := ⟨rfl, rfl, rfl, by decide +kernel, rfl, by decide +kernel, by decide +kernel⟩
theorem f_even_rows {P : Program} {w : World} {K : PySem.W.Frag} {mg : Str → Option Value} {base : Heap} {f : Addr} {fd : FuncData} (D : FunD K "even_rows" "even_rows" (defArgs st_even_rows) (defBody st_even_rows) (defScope st_even_rows) [] [] f fd)
    (hm : mg "even_rows" = some (.ref f)) (hb : ∀ y ∈ bNames, mg y = none) (e0 : Kn P w K mg base 1 "first_words" 1 m_first_words) : Kn P w K mg base 2 "even_rows" 1 m_even_rows :=
  def_K D hm s_even_rows rfl rfl k_even_rows hb (.cons (e0.mono (by decide)) .nil) .nil (D.bindsN fun _ _ _ _ _ _ us hl => match us, hl with | [_], _ => rfl)
/-! even_base -/
abbrev st_even_base : Stmt := top 17
def N_even_base : List Str := ["sizes", "found", "name", "counts", "own", "words"]
def q_even_base : Ck := ⟨N_even_base, [("even_rows", 1)], []⟩
def e_even_base_1 : E := .lc1 [5] (.nm 5) (.sq (.call 0 (.c (.var 3) .n))) .n (.tup (.c (.var 5) (.c (.var 4) .n)))
def b_even_base_2 : List S := [.app 1 (.tup (.c (.var 2) (.c (.b1 .len (.var 3)) (.c (.b1 .len (.var 3)) (.c (.b1 .tuple e_even_base_1) .n)))))]
def b_even_base : List S := [.seto 1 (.lst .n), .frr (.tp3 (.nm 2) (.nm 3) (.nm 4)) (.sq (.var 0)) b_even_base_2, .frz 1, .ret (.b1 .tuple (.var 1))]
def c_even_base : Cf := ⟨[], [m_even_rows]⟩
def m_even_base : List D → M D := run c_even_base ⟨N_even_base.length, b_even_base⟩ 1
@[simp] theorem hf_even_base_0 : c_even_base.fn[0]? = some m_even_rows := (rfl)
theorem k_even_base : chkSs q_even_base b_even_base ⟨defScope st_even_base, none⟩ (defBody st_even_base) = true := by decide +kernel
theorem s_even_base : FnScope N_even_base ["sizes"] (defScope st_even_base) := ⟨rfl, rfl, rfl, by decide +kernel, rfl, by decide +kernel, by decide +kernel⟩
theorem f_even_base {P : Program} {w : World} {K : PySem.W.Frag} {mg : Str → Option Value} {base : Heap} {f : Addr} {fd : FuncData} (D : FunD K "even_base" "even_base" (defArgs st_even_base) (defBody st_even_base) (defScope st_even_base) [] [] f fd)
    (hm : mg "even_base" = some (.ref f)) (hb : ∀ y ∈ bNames, mg y = none) (e0 : Kn P w K mg base 2 "even_rows" 1 m_even_rows) : Kn P w K mg base 3 "even_base" 1 m_even_base :=
  def_K D hm s_even_base rfl rfl k_even_base hb (.cons (e0.mono (by decide)) .nil) .nil (D.bindsN fun _ _ _ _ _ _ us hl => match us, hl with | [_], _ => rfl)
/-! _law_words -/
abbrev st_w_words : Stmt := top 25
def N_w_words : List Str := ["_law_many", "_law_letters", "_law_found", "_law_one", "_law_other"]
def q_w_words : Ck := ⟨N_w_words, [], []⟩
def e_w_words_1 : E := .lc1 [4] (.nm 4) (.sq (.var 1)) .n (.bin .add (.var 3) (.var 4))
def b_w_words_2 : List S := [.ext 2 e_w_words_1]
def b_w_words : List S := [.paro 1 2 false true (.str "abcdefghijklmnopqrstuvwxyz") (.lst .n), .frr (.nm 3) (.sq (.var 1)) b_w_words_2, .frz 2, .ret (.sli (.var 2) .n (.s (.var 0)))]
def c_w_words : Cf := ⟨[], []⟩
def m_w_words : List D → M D := run c_w_words ⟨N_w_words.length, b_w_words⟩ 1
theorem k_w_words : chkSs q_w_words b_w_words ⟨defScope st_w_words, none⟩ (defBody st_w_words) = true := by decide +kernel
theorem s_w_words : FnScope N_w_words ["_law_many"] (defScope st_w_words) := ⟨rfl, rfl, rfl, by decide +kernel, rfl, by decide +kernel, by decide +kernel⟩
theorem f_w_words {P : Program} {w : World} {K : PySem.W.Frag} {mg : Str → Option Value} {base : Heap} {f : Addr} {fd : FuncData} (D : FunD K "_law_words" "_law_words" (defArgs st_w_words) (defBody st_w_words) (defScope st_w_words) [] [] f fd)
    (hm : mg "_law_words" = some (.ref f)) (hb : ∀ y ∈ bNames, mg y = none) : Kn P w K mg base 1 "_law_words" 1 m_w_words :=
  def_K D hm s_w_words rfl rfl k_w_words hb .nil .nil (D.bindsN fun _ _ _ _ _ _ us hl => match us, hl with | [_], _ => rfl)
/-! _law_even -/
abbrev st_w_even : Stmt := top 26
def N_w_even : List Str := ["_law_sizes_here", "_law_found", "_law_name", "_law_counts", "_law_odds", "_law_rows", "_law_many", "_law_longer", "_law_words_here", "_law_word"]
def q_w_even : Ck := ⟨N_w_even, [("_law_words", 1)], []⟩
def e_w_even_1 : E := .lc1 [9] (.nm 9) (.sq (.call 0 (.c (.var 6) .n))) .n (.bin .add (.var 8) (.tup (.c (.var 9) .n)))
def b_w_even_2 : List S := [.ext 7 e_w_even_1]
def b_w_even_3 : List S := [.seto 7 (.lst .n), .frr (.nm 8) (.sq (.var 5)) b_w_even_2, .frz 7, .set (.nm 5) (.var 7)]
def e_w_even_4 : E := .lc1 [8] (.nm 8) (.sq (.var 5)) .n (.tup (.c (.var 8) (.c (.var 4) .n)))
def b_w_even_5 : List S := [.set (.nm 5) (.lst (.c (.tup .n) .n)), .frr (.nm 6) (.sq (.var 3)) b_w_even_3, .app 1 (.tup (.c (.var 2) (.c (.b1 .len (.var 3)) (.c (.b1 .len (.var 3)) (.c (.b1 .tuple e_w_even_4) .n)))))]
def b_w_even : List S := [.seto 1 (.lst .n), .frr (.tp3 (.nm 2) (.nm 3) (.nm 4)) (.sq (.var 0)) b_w_even_5, .frz 1, .ret (.b1 .tuple (.var 1))]
def c_w_even : Cf := ⟨[], [m_w_words]⟩
def m_w_even : List D → M D := run c_w_even ⟨N_w_even.length, b_w_even⟩ 1
@[simp] theorem hf_w_even_0 : c_w_even.fn[0]? = some m_w_words := (rfl)
theorem k_w_even : chkSs q_w_even b_w_even ⟨defScope st_w_even, none⟩ (defBody st_w_even) = true := by decide +kernel
theorem s_w_even : FnScope N_w_even ["_law_sizes_here"] (defScope st_w_even) := ⟨rfl, rfl, rfl, by decide +kernel, rfl, by decide +kernel, by decide +kernel⟩
theorem f_w_even {P : Program} {w : World} {K : PySem.W.Frag} {mg : Str → Option Value} {base : Heap} {f : Addr} {fd : FuncData} (D : FunD K "_law_even" "_law_even" (defArgs st_w_even) (defBody st_w_even) (defScope st_w_even) [] [] f fd)
    (hm : mg "_law_even" = some (.ref f)) (hb : ∀ y ∈ bNames, mg y = none) (e0 : Kn P w K mg base 1 "_law_words" 1 m_w_words) : Kn P w K mg base 2 "_law_even" 1 m_w_even :=
  def_K D hm s_w_even rfl rfl k_w_even hb (.cons (e0.mono (by decide)) .nil) .nil (D.bindsN fun _ _ _ _ _ _ us hl => match us, hl with | [_], _ => rfl)
/-! _law_bent -/
abbrev st_w_bent : Stmt := top 23
def N_w_bent : List Str := ["_law_feed_here", "_law_thing", "_law_at", "_law_way", "_law_odd"]
def q_w_bent : Ck := ⟨N_w_bent, [("_law_draw", 2), ("_law_bent", 2)], []⟩
def b_w_bent : List S := [.ife (.and (.isi (.var 1) "tuple") (.and (.cmp .gt (.b1 .len (.var 1)) (.int 0)) (.cmp .gt (.call 0 (.c (.var 0) (.c (.int 8) .n))) (.int 0)))) [.set (.nm 2) (.call 0 (.c (.var 0) (.c (.b1 .len (.var 1)) .n))), .set (.nm 3) (.call 0 (.c (.var 0) (.c (.int 8) .n))), .ife (.cmp .eq (.var 3) (.int 0)) [.ret (.bin .add (.sli (.var 1) .n (.s (.var 2))) (.sli (.var 1) (.s (.bin .add (.var 2) (.int 1))) .n))] [], .ife (.cmp .eq (.var 3) (.int 1)) [.ret (.bin .add (.bin .add (.sli (.var 1) .n (.s (.var 2))) (.sli (.var 1) (.s (.var 2)) (.s (.bin .add (.var 2) (.int 1))))) (.sli (.var 1) (.s (.var 2)) .n))] [], .ife (.cmp .eq (.var 3) (.int 2)) [.ret (.bin .add (.sli (.var 1) (.s (.var 2)) .n) (.sli (.var 1) .n (.s (.var 2))))] [], .ife (.cmp .eq (.var 3) (.int 3)) [.ret (.b1 .list (.var 1))] [], .ret (.bin .add (.bin .add (.sli (.var 1) .n (.s (.var 2))) (.tup (.c (.call 1 (.c (.var 0) (.c (.idx (.var 1) (.var 2)) .n))) .n))) (.sli (.var 1) (.s (.bin .add (.var 2) (.int 1))) .n))] [], .ife (.and (.isi (.var 1) "int") (.and (.not (.isi (.var 1) "bool")) (.cmp .gt (.call 0 (.c (.var 0) (.c (.int 3) .n))) (.int 0)))) [.ret (.bin .add (.var 1) (.idx (.lst (.c (.int 1) (.c (.neg (.int 1)) (.c (.int 2) .n)))) (.call 0 (.c (.var 0) (.c (.int 3) .n)))))] [], .set (.nm 4) (.lst (.c .non (.c (.str "") (.c (.str "a") (.c (.str "zz") (.c (.int 0) (.c (.neg (.int 1)) (.c (.bl true) (.c (.bl false) (.c (.bin .pow (.int 10) (.int 59)) (.c (.tup .n) (.c (.lst .n) (.c (.str "9") (.c (.tup (.c (.tup (.c (.str "a") (.c (.int 0) .n))) .n)) (.c (.int 3) .n))))))))))))))), .ret (.idx (.var 4) (.call 0 (.c (.var 0) (.c (.b1 .len (.var 4)) .n))))]
def c_w_bent (me : List D → M D) : Cf := ⟨[], [m_w_draw, me]⟩
def m_w_bent : Nat → List D → M D
  | 0 => fun _ => M.no
  | t + 1 => run (c_w_bent (m_w_bent t)) ⟨N_w_bent.length, b_w_bent⟩ 2
@[simp] theorem hf_w_bent_0 (me : List D → M D) : (c_w_bent me).fn[0]? = some m_w_draw := (rfl)
@[simp] theorem hf_w_bent_1 (me : List D → M D) : (c_w_bent me).fn[1]? = some me := (rfl)
theorem k_w_bent : chkSs q_w_bent b_w_bent ⟨defScope st_w_bent, none⟩ (defBody st_w_bent) = true := by decide +kernel
theorem s_w_bent : FnScope N_w_bent ["_law_feed_here", "_law_thing"] (defScope st_w_bent) := ⟨rfl, rfl, rfl, by decide +kernel, rfl, by decide +kernel, by decide +kernel⟩
theorem f_w_bent {P : Program} {w : World} {K : PySem.W.Frag} {mg : Str → Option Value} {base : Heap} {f : Addr} {fd : FuncData} (D : FunD K "_law_bent" "_law_bent" (defArgs st_w_bent) (defBody st_w_bent) (defScope st_w_bent) [] [] f fd)
    (hm : mg "_law_bent" = some (.ref f)) (hb : ∀ y ∈ bNames, mg y = none) (e0 : Kn P w K mg base 1 "_law_draw" 2 m_w_draw) : ∀ t, Kn P w K mg base (1 + t) "_law_bent" 2 (m_w_bent t) := by
  have bd : Binds K fd ["_law_feed_here", "_law_thing"] [] := D.bindsN fun _ _ _ _ _ _ us hl => match us, hl with | [_, _], _ => rfl
  intro t
  induction t with
  | zero => exact Kn.no hm D.kp bd rfl
  | succ t ih => exact def_K D hm s_w_bent rfl rfl k_w_bent hb (.cons (e0.mono (Nat.le_trans (show 1 ≤ 1 by decide) (Nat.le_add_right _ t))) (.cons ih .nil)) .nil bd
/-! is_long -/
abbrev st_is_long : Stmt := top 6
def N_is_long : List Str := ["thing", "many"]
def q_is_long : Ck := ⟨N_is_long, [], []⟩
def b_is_long : List S := [.ret (.and (.isi (.var 0) "tuple") (.cmp .eq (.b1 .len (.var 0)) (.var 1)))]
def c_is_long : Cf := ⟨[], []⟩
def m_is_long : List D → M D := run c_is_long ⟨N_is_long.length, b_is_long⟩ 2
theorem k_is_long : chkSs q_is_long b_is_long ⟨defScope st_is_long, none⟩ (defBody st_is_long) = true := by decide +kernel
theorem s_is_long : FnScope N_is_long ["thing", "many"] (defScope st_is_long) := ⟨rfl, rfl, rfl, by decide +kernel, rfl, by decide +kernel, by decide +kernel⟩
theorem f_is_long {P : Program} {w : World} {K : PySem.W.Frag} {mg : Str → Option Value} {base : Heap} {f : Addr} {fd : FuncData} (D : FunD K "is_long" "is_long" (defArgs st_is_long) (defBody st_is_long) (defScope st_is_long) [] [] f fd)
    (hm : mg "is_long" = some (.ref f)) (hb : ∀ y ∈ bNames, mg y = none) : Kn P w K mg base 1 "is_long" 2 m_is_long :=
  def_K D hm s_is_long rfl rfl k_is_long hb .nil .nil (D.bindsN fun _ _ _ _ _ _ us hl => match us, hl with | [_, _], _ => rfl)
/-! ratio -/
abbrev st_ratio : Stmt := top 8
def N_ratio : List Str := ["over", "under", "one", "other", "by"]
def q_ratio : Ck := ⟨N_ratio, [], []⟩
def b_ratio_1 : List S := [.par 2 3 (.bin .mod (.var 3) (.var 2)) (.var 2)]
def b_ratio : List S := [.par 2 3 (.b1 .abs (.var 0)) (.b1 .abs (.var 1)), .whl (.cmp .gt (.var 2) (.int 0)) b_ratio_1, .set (.nm 4) (.ife (.cmp .gt (.var 1) (.int 0)) (.var 3) (.bin .sub (.int 0) (.var 3))), .ret (.tup (.c (.bin .fdiv (.var 0) (.var 4)) (.c (.bin .fdiv (.var 1) (.var 4)) .n)))]
def c_ratio : Cf := ⟨[], []⟩
def m_ratio : List D → M D := run c_ratio ⟨N_ratio.length, b_ratio⟩ 2
theorem k_ratio : chkSs q_ratio b_ratio ⟨defScope st_ratio, none⟩ (defBody st_ratio) = true := by decide +kernel
theorem s_ratio : FnScope N_ratio ["over", "under"] (defScope st_ratio) := ⟨rfl, rfl, rfl, by decide +kernel, rfl, by decide +kernel, by decide +kernel⟩
theorem f_ratio {P : Program} {w : World} {K : PySem.W.Frag} {mg : Str → Option Value} {base : Heap} {f : Addr} {fd : FuncData} (D : FunD K "ratio" "ratio" (defArgs st_ratio) (defBody st_ratio) (defScope st_ratio) [] [] f fd)
    (hm : mg "ratio" = some (.ref f)) (hb : ∀ y ∈ bNames, mg y = none) : Kn P w K mg base 1 "ratio" 2 m_ratio :=
  def_K D hm s_ratio rfl rfl k_ratio hb .nil .nil (D.bindsN fun _ _ _ _ _ _ us hl => match us, hl with | [_, _], _ => rfl)
/-! is_number -/
abbrev st_is_number : Stmt := top 4
def N_is_number : List Str := ["thing"]
def q_is_number : Ck := ⟨N_is_number, [], []⟩
def b_is_number : List S := [.ret (.and (.isi (.var 0) "int") (.not (.isi (.var 0) "bool")))]
def c_is_number : Cf := ⟨[], []⟩
def m_is_number : List D → M D := run c_is_number ⟨N_is_number.length, b_is_number⟩ 1
theorem k_is_number : chkSs q_is_number b_is_number ⟨defScope st_is_number, none⟩ (defBody st_is_number) = true := by decide +kernel
theorem s_is_number : FnScope N_is_number ["thing"] (defScope st_is_number) := ⟨rfl, rfl, rfl, by decide +kernel, rfl, by decide +kernel, by decide +kernel⟩
theorem f_is_number {P : Program} {w : World} {K : PySem.W.Frag} {mg : Str → Option Value} {base : Heap} {f : Addr} {fd : FuncData} (D : FunD K "is_number" "is_number" (defArgs st_is_number) (defBody st_is_number) (defScope st_is_number) [] [] f fd)
    (hm : mg "is_number" = some (.ref f)) (hb : ∀ y ∈ bNames, mg y = none) : Kn P w K mg base 1 "is_number" 1 m_is_number :=
  def_K D hm s_is_number rfl rfl k_is_number hb .nil .nil (D.bindsN fun _ _ _ _ _ _ us hl => match us, hl with | [_], _ => rfl)
/-! is_fraction -/
abbrev st_is_fraction : Stmt := top 9
def N_is_fraction : List Str := ["thing", "one"]
def q_is_fraction : Ck := ⟨N_is_fraction, [("is_long", 2), ("is_number", 1), ("ratio", 2)], []⟩
def e_is_fraction_1 : E := .lc1 [1] (.nm 1) (.sq (.var 0)) .n (.call 1 (.c (.var 1) .n))
def b_is_fraction : List S := [.ife (.or (.not (.call 0 (.c (.var 0) (.c (.int 2) .n)))) (.not (.b1 .all e_is_fraction_1))) [.ret (.bl false)] [], .ret (.and (.cmp .ge (.idx (.var 0) (.int 1)) (.int 1)) (.cmp .eq (.call 2 (.c (.idx (.var 0) (.int 0)) (.c (.idx (.var 0) (.int 1)) .n))) (.var 0)))]
def c_is_fraction : Cf := ⟨[], [m_is_long, m_is_number, m_ratio]⟩
def m_is_fraction : List D → M D := run c_is_fraction ⟨N_is_fraction.length, b_is_fraction⟩ 1
@[simp] theorem hf_is_fraction_0 : c_is_fraction.fn[0]? = some m_is_long := (rfl)
@[simp] theorem hf_is_fraction_1 : c_is_fraction.fn[1]? = some m_is_number := (rfl)
@[simp] theorem hf_is_fraction_2 : c_is_fraction.fn[2]? = some m_ratio := (rfl)
theorem k_is_fraction : chkSs q_is_fraction b_is_fraction ⟨defScope st_is_fraction, none⟩ (defBody st_is_fraction) = true := by decide +kernel
theorem s_is_fraction : FnScope N_is_fraction ["thing"] (defScope st_is_fraction) := ⟨rfl, rfl, rfl, by decide +kernel, rfl, by decide +kernel, by decide +kernel⟩
theorem f_is_fraction {P : Program} {w : World} {K : PySem.W.Frag} {mg : Str → Option Value} {base : Heap} {f : Addr} {fd : FuncData} (D : FunD K "is_fraction" "is_fraction" (defArgs st_is_fraction) (defBody st_is_fraction) (defScope st_is_fraction) [] [] f fd)
    (hm : mg "is_fraction" = some (.ref f)) (hb : ∀ y ∈ bNames, mg y = none) (e0 : Kn P w K mg base 1 "is_long" 2 m_is_long) (e1 : Kn P w K mg base 1 "is_number" 1 m_is_number) (e2 : Kn P w K mg base 1 "ratio" 2 m_ratio) : Kn P w K mg base 2 "is_fraction" 1 m_is_fraction :=
  def_K D hm s_is_fraction rfl rfl k_is_fraction hb (.cons (e0.mono (by decide)) (.cons (e1.mono (by decide)) (.cons (e2.mono (by decide)) .nil))) .nil (D.bindsN fun _ _ _ _ _ _ us hl => match us, hl with | [_], _ => rfl)
/-! is_chance -/
abbrev st_is_chance : Stmt := top 10
def N_is_chance : List Str := ["thing"]
def q_is_chance : Ck := ⟨N_is_chance, [("is_fraction", 1)], []⟩
def b_is_chance : List S := [.ret (.and (.call 0 (.c (.var 0) .n)) (.chn .le .le (.int 0) (.idx (.var 0) (.int 0)) (.idx (.var 0) (.int 1))))]
def c_is_chance : Cf := ⟨[], [m_is_fraction]⟩
def m_is_chance : List D → M D := run c_is_chance ⟨N_is_chance.length, b_is_chance⟩ 1
@[simp] theorem hf_is_chance_0 : c_is_chance.fn[0]? = some m_is_fraction := (rfl)
theorem k_is_chance : chkSs q_is_chance b_is_chance ⟨defScope st_is_chance, none⟩ (defBody st_is_chance) = true := by decide +kernel
theorem s_is_chance : FnScope N_is_chance ["thing"] (defScope st_is_chance) := ⟨rfl, rfl, rfl, by decide +kernel, rfl, by decide +kernel, by decide +kernel⟩
theorem f_is_chance {P : Program} {w : World} {K : PySem.W.Frag} {mg : Str → Option Value} {base : Heap} {f : Addr} {fd : FuncData} (D : FunD K "is_chance" "is_chance" (defArgs st_is_chance) (defBody st_is_chance) (defScope st_is_chance) [] [] f fd)
    (hm : mg "is_chance" = some (.ref f)) (hb : ∀ y ∈ bNames, mg y = none) (e0 : Kn P w K mg base 2 "is_fraction" 1 m_is_fraction) : Kn P w K mg base 3 "is_chance" 1 m_is_chance :=
  def_K D hm s_is_chance rfl rfl k_is_chance hb (.cons (e0.mono (by decide)) .nil) .nil (D.bindsN fun _ _ _ _ _ _ us hl => match us, hl with | [_], _ => rfl)
/-! is_word -/
abbrev st_is_word : Stmt := top 5
def N_is_word : List Str := ["thing", "sign"]
def q_is_word : Ck := ⟨N_is_word, [], ["LONGEST", "LETTERS_words"]⟩
def e_is_word_1 : E := .lc1 [1] (.nm 1) (.sq (.var 0)) .n (.cmp .isin (.var 1) (.glo 1))
def b_is_word : List S := [.ife (.or (.not (.isi (.var 0) "str")) (.not (.chn .le .le (.int 1) (.b1 .len (.var 0)) (.glo 0)))) [.ret (.bl false)] [], .ret (.b1 .all e_is_word_1)]
def c_is_word : Cf := ⟨[g_LONGEST, g_LETTERS_words], []⟩
def m_is_word : List D → M D := run c_is_word ⟨N_is_word.length, b_is_word⟩ 1
@[simp] theorem hg_is_word_0 : c_is_word.gl[0]? = some g_LONGEST := (rfl)
@[simp] theorem hg_is_word_1 : c_is_word.gl[1]? = some g_LETTERS_words := (rfl)
theorem k_is_word : chkSs q_is_word b_is_word ⟨defScope st_is_word, none⟩ (defBody st_is_word) = true := by decide +kernel
theorem s_is_word : FnScope N_is_word ["thing"] (defScope st_is_word) := ⟨rfl, rfl, rfl, by decide +kernel, rfl, by decide +kernel, by decide +kernel⟩
theorem f_is_word {P : Program} {w : World} {K : PySem.W.Frag} {mg : Str → Option Value} {base : Heap} {f : Addr} {fd : FuncData} (D : FunD K "is_word" "is_word" (defArgs st_is_word) (defBody st_is_word) (defScope st_is_word) [] [] f fd)
    (hm : mg "is_word" = some (.ref f)) (hb : ∀ y ∈ bNames, mg y = none) (a0 : Kg K mg "LONGEST" g_LONGEST) (a1 : Kg K mg "LETTERS_words" g_LETTERS_words) : Kn P w K mg base 1 "is_word" 1 m_is_word :=
  def_K D hm s_is_word rfl rfl k_is_word hb .nil (.cons a0 (.cons a1 .nil)) (D.bindsN fun _ _ _ _ _ _ us hl => match us, hl with | [_], _ => rfl)
/-! is_size -/
abbrev st_is_size : Stmt := top 13
def N_is_size : List Str := ["thing", "name", "counts", "own", "one"]
def q_is_size : Ck := ⟨N_is_size, [("is_word", 1), ("is_number", 1), ("is_chance", 1)], ["NOUGHT"]⟩
def e_is_size_1 : E := .lc1 [4] (.nm 4) (.sq (.var 2)) .n (.and (.call 1 (.c (.var 4) .n)) (.cmp .ge (.var 4) (.int 1)))
def b_is_size : List S := [.ife (.or (.not (.isi (.var 0) "tuple")) (.or (.cmp .ne (.b1 .len (.var 0)) (.int 3)) (.not (.call 0 (.c (.idx (.var 0) (.int 0)) .n))))) [.ret (.bl false)] [], .set (.tp3 (.nm 1) (.nm 2) (.nm 3)) (.var 0), .ife (.or (.not (.isi (.var 2) "tuple")) (.or (.cmp .eq (.var 2) (.tup .n)) (.not (.b1 .all e_is_size_1)))) [.ret (.bl false)] [], .ret (.and (.call 2 (.c (.var 3) .n)) (.cmp .ne (.var 3) (.glo 0)))]
def c_is_size : Cf := ⟨[g_NOUGHT], [m_is_word, m_is_number, m_is_chance]⟩
def m_is_size : List D → M D := run c_is_size ⟨N_is_size.length, b_is_size⟩ 1
@[simp] theorem hg_is_size_0 : c_is_size.gl[0]? = some g_NOUGHT := (rfl)
@[simp] theorem hf_is_size_0 : c_is_size.fn[0]? = some m_is_word := (rfl)
@[simp] theorem hf_is_size_1 : c_is_size.fn[1]? = some m_is_number := (rfl)
@[simp] theorem hf_is_size_2 : c_is_size.fn[2]? = some m_is_chance := (rfl)
theorem k_is_size : chkSs q_is_size b_is_size ⟨defScope st_is_size, none⟩ (defBody st_is_size) = true := by decide +kernel
theorem s_is_size : FnScope N_is_size ["thing"] (defScope st_is_size) := ⟨rfl, rfl, rfl, by decide +kernel, rfl, by decide +kernel, by decide +kernel⟩
theorem f_is_size {P : Program} {w : World} {K : PySem.W.Frag} {mg : Str → Option Value} {base : Heap} {f : Addr} {fd : FuncData} (D : FunD K "is_size" "is_size" (defArgs st_is_size) (defBody st_is_size) (defScope st_is_size) [] [] f fd)
    (hm : mg "is_size" = some (.ref f)) (hb : ∀ y ∈ bNames, mg y = none) (e0 : Kn P w K mg base 1 "is_word" 1 m_is_word) (e1 : Kn P w K mg base 1 "is_number" 1 m_is_number) (e2 : Kn P w K mg base 3 "is_chance" 1 m_is_chance) (a0 : Kg K mg "NOUGHT" g_NOUGHT) : Kn P w K mg base 4 "is_size" 1 m_is_size :=
  def_K D hm s_is_size rfl rfl k_is_size hb (.cons (e0.mono (by decide)) (.cons (e1.mono (by decide)) (.cons (e2.mono (by decide)) .nil))) (.cons a0 .nil) (D.bindsN fun _ _ _ _ _ _ us hl => match us, hl with | [_], _ => rfl)
/-! is_sizes -/
abbrev st_is_sizes : Stmt := top 14
def N_is_sizes : List Str := ["thing", "one", "other"]
def q_is_sizes : Ck := ⟨N_is_sizes, [("is_size", 1)], []⟩
def e_is_sizes_1 : E := .lc1 [1] (.nm 1) (.sq (.var 0)) .n (.call 0 (.c (.var 1) .n))
def e_is_sizes_2 : E := .lc1 [1, 2] (.tp2 (.nm 1) (.nm 2)) (.zip (.var 0) (.sli (.var 0) (.s (.int 1)) .n)) .n (.cmp .lt (.idx (.var 1) (.int 0)) (.idx (.var 2) (.int 0)))
def b_is_sizes : List S := [.ife (.or (.not (.isi (.var 0) "tuple")) (.not (.b1 .all e_is_sizes_1))) [.ret (.bl false)] [], .ret (.b1 .all e_is_sizes_2)]
def c_is_sizes : Cf := ⟨[], [m_is_size]⟩
def m_is_sizes : List D → M D := run c_is_sizes ⟨N_is_sizes.length, b_is_sizes⟩ 1
@[simp] theorem hf_is_sizes_0 : c_is_sizes.fn[0]? = some m_is_size := (rfl)
theorem k_is_sizes : chkSs q_is_sizes b_is_sizes ⟨defScope st_is_sizes, none⟩ (defBody st_is_sizes) = true := by decide +kernel
theorem s_is_sizes : FnScope N_is_sizes ["thing"] (defScope st_is_sizes) := ⟨rfl, rfl, rfl, by decide +kernel, rfl, by decide +kernel, by decide +kernel⟩
theorem f_is_sizes {P : Program} {w : World} {K : PySem.W.Frag} {mg : Str → Option Value} {base : Heap} {f : Addr} {fd : FuncData} (D : FunD K "is_sizes" "is_sizes" (defArgs st_is_sizes) (defBody st_is_sizes) (defScope st_is_sizes) [] [] f fd)
    (hm : mg "is_sizes" = some (.ref f)) (hb : ∀ y ∈ bNames, mg y = none) (e0 : Kn P w K mg base 4 "is_size" 1 m_is_size) : Kn P w K mg base 5 "is_sizes" 1 m_is_sizes :=
  def_K D hm s_is_sizes rfl rfl k_is_sizes hb (.cons (e0.mono (by decide)) .nil) .nil (D.bindsN fun _ _ _ _ _ _ us hl => match us, hl with | [_], _ => rfl)
/-! _law_is_number -/
abbrev st_w_is_number : Stmt := top 27
def N_w_is_number : List Str := ["_law_thing"]
def q_w_is_number : Ck := ⟨N_w_is_number, [], []⟩
def b_w_is_number : List S := [.ret (.and (.isi (.var 0) "int") (.not (.isi (.var 0) "bool")))]
def c_w_is_number : Cf := ⟨[], []⟩
def m_w_is_number : List D → M D := run c_w_is_number ⟨N_w_is_number.length, b_w_is_number⟩ 1
theorem k_w_is_number : chkSs q_w_is_number b_w_is_number ⟨defScope st_w_is_number, none⟩ (defBody st_w_is_number) = true := by decide +kernel
theorem s_w_is_number : FnScope N_w_is_number ["_law_thing"] (defScope st_w_is_number) := ⟨rfl, rfl, rfl, by decide +kernel, rfl, by decide +kernel, by decide +kernel⟩
theorem f_w_is_number {P : Program} {w : World} {K : PySem.W.Frag} {mg : Str → Option Value} {base : Heap} {f : Addr} {fd : FuncData} (D : FunD K "_law_is_number" "_law_is_number" (defArgs st_w_is_number) (defBody st_w_is_number) (defScope st_w_is_number) [] [] f fd)
    (hm : mg "_law_is_number" = some (.ref f)) (hb : ∀ y ∈ bNames, mg y = none) : Kn P w K mg base 1 "_law_is_number" 1 m_w_is_number :=
  def_K D hm s_w_is_number rfl rfl k_w_is_number hb .nil .nil (D.bindsN fun _ _ _ _ _ _ us hl => match us, hl with | [_], _ => rfl)
/-! _law_is_size -/
abbrev st_w_is_size : Stmt := top 28
def N_w_is_size : List Str := ["_law_thing", "_law_sign", "_law_one", "_law_odds"]
def q_w_is_size : Ck := ⟨N_w_is_size, [("_law_is_number", 1), ("_law_cut", 2)], []⟩
def e_w_is_size_1 : E := .lc1 [1] (.nm 1) (.sq (.idx (.var 0) (.int 0))) (.s (.cmp .notin (.var 1) (.str "abcdefghijklmnopqrstuvwxyz"))) (.var 1)
def e_w_is_size_2 : E := .lc1 [2] (.nm 2) (.sq (.idx (.var 0) (.int 1))) (.s (.or (.not (.call 0 (.c (.var 2) .n))) (.cmp .lt (.var 2) (.int 1)))) (.int 1)
def e_w_is_size_3 : E := .lc1 [2] (.nm 2) (.sq (.var 3)) (.s (.not (.call 0 (.c (.var 2) .n)))) (.var 2)
def b_w_is_size : List S := [.ife (.or (.not (.isi (.var 0) "tuple")) (.or (.cmp .ne (.b1 .len (.var 0)) (.int 3)) (.not (.isi (.idx (.var 0) (.int 0)) "str")))) [.ret (.bl false)] [], .ife (.not (.chn .le .le (.int 1) (.b1 .len (.idx (.var 0) (.int 0))) (.int 8))) [.ret (.bl false)] [], .ife (.or (.cmp .ne e_w_is_size_1 (.lst .n)) (.not (.isi (.idx (.var 0) (.int 1)) "tuple"))) [.ret (.bl false)] [], .ife (.or (.cmp .eq (.idx (.var 0) (.int 1)) (.tup .n)) (.cmp .ne e_w_is_size_2 (.lst .n))) [.ret (.bl false)] [], .set (.nm 3) (.idx (.var 0) (.int 2)), .ife (.or (.not (.isi (.var 3) "tuple")) (.or (.cmp .ne (.b1 .len (.var 3)) (.int 2)) (.cmp .ne e_w_is_size_3 (.lst .n)))) [.ret (.bl false)] [], .ret (.and (.chn .lt .le (.int 0) (.idx (.var 3) (.int 0)) (.idx (.var 3) (.int 1))) (.cmp .eq (.call 1 (.c (.idx (.var 3) (.int 0)) (.c (.idx (.var 3) (.int 1)) .n))) (.var 3)))]
def c_w_is_size : Cf := ⟨[], [m_w_is_number, m_w_cut]⟩
def m_w_is_size : List D → M D := run c_w_is_size ⟨N_w_is_size.length, b_w_is_size⟩ 1
@[simp] theorem hf_w_is_size_0 : c_w_is_size.fn[0]? = some m_w_is_number := (rfl)
@[simp] theorem hf_w_is_size_1 : c_w_is_size.fn[1]? = some m_w_cut := (rfl)
theorem k_w_is_size : chkSs q_w_is_size b_w_is_size ⟨defScope st_w_is_size, none⟩ (defBody st_w_is_size) = true := by decide +kernel
theorem s_w_is_size : FnScope N_w_is_size ["_law_thing"] (defScope st_w_is_size) := ⟨rfl, rfl, rfl, by decide +kernel, rfl, by decide +kernel, by decide +kernel⟩
theorem f_w_is_size {P : Program} {w : World} {K : PySem.W.Frag} {mg : Str → Option Value} {base : Heap} {f : Addr} {fd : FuncData} (D : FunD K "_law_is_size" "_law_is_size" (defArgs st_w_is_size) (defBody st_w_is_size) (defScope st_w_is_size) [] [] f fd)
    (hm : mg "_law_is_size" = some (.ref f)) (hb : ∀ y ∈ bNames, mg y = none) (e0 : Kn P w K mg base 1 "_law_is_number" 1 m_w_is_number) (e1 : Kn P w K mg base 1 "_law_cut" 2 m_w_cut) : Kn P w K mg base 2 "_law_is_size" 1 m_w_is_size :=
  def_K D hm s_w_is_size rfl rfl k_w_is_size hb (.cons (e0.mono (by decide)) (.cons (e1.mono (by decide)) .nil)) .nil (D.bindsN fun _ _ _ _ _ _ us hl => match us, hl with | [_], _ => rfl)
/-! _law_is_sizes -/
abbrev st_w_is_sizes : Stmt := top 29
def N_w_is_sizes : List Str := ["_law_thing", "_law_one", "_law_k"]
def q_w_is_sizes : Ck := ⟨N_w_is_sizes, [("_law_is_size", 1)], []⟩
def e_w_is_sizes_1 : E := .lc1 [1] (.nm 1) (.sq (.var 0)) (.s (.not (.call 0 (.c (.var 1) .n)))) (.var 1)
def e_w_is_sizes_2 : E := .lc1 [2] (.nm 2) (.rg2 (.int 1) (.b1 .len (.var 0))) (.s (.cmp .ge (.idx (.idx (.var 0) (.bin .sub (.var 2) (.int 1))) (.int 0)) (.idx (.idx (.var 0) (.var 2)) (.int 0)))) (.var 2)
def b_w_is_sizes : List S := [.ife (.or (.not (.isi (.var 0) "tuple")) (.cmp .ne e_w_is_sizes_1 (.lst .n))) [.ret (.bl false)] [], .ret (.cmp .eq e_w_is_sizes_2 (.lst .n))]
def c_w_is_sizes : Cf := ⟨[], [m_w_is_size]⟩
def m_w_is_sizes : List D → M D := run c_w_is_sizes ⟨N_w_is_sizes.length, b_w_is_sizes⟩ 1
@[simp] theorem hf_w_is_sizes_0 : c_w_is_sizes.fn[0]? = some m_w_is_size := (rfl)
theorem k_w_is_sizes : chkSs q_w_is_sizes b_w_is_sizes ⟨defScope st_w_is_sizes, none⟩ (defBody st_w_is_sizes) = true := by decide +kernel
theorem s_w_is_sizes : FnScope N_w_is_sizes ["_law_thing"] (defScope st_w_is_sizes) := ⟨rfl, rfl, rfl, by decide +kernel, rfl, by decide +kernel, by decide +kernel⟩
theorem f_w_is_sizes {P : Program} {w : World} {K : PySem.W.Frag} {mg : Str → Option Value} {base : Heap} {f : Addr} {fd : FuncData} (D : FunD K "_law_is_sizes" "_law_is_sizes" (defArgs st_w_is_sizes) (defBody st_w_is_sizes) (defScope st_w_is_sizes) [] [] f fd)
    (hm : mg "_law_is_sizes" = some (.ref f)) (hb : ∀ y ∈ bNames, mg y = none) (e0 : Kn P w K mg base 2 "_law_is_size" 1 m_w_is_size) : Kn P w K mg base 3 "_law_is_sizes" 1 m_w_is_sizes :=
  def_K D hm s_w_is_sizes rfl rfl k_w_is_sizes hb (.cons (e0.mono (by decide)) .nil) .nil (D.bindsN fun _ _ _ _ _ _ us hl => match us, hl with | [_], _ => rfl)
/-! law -/
abbrev st_law : Stmt := top 30
def N_law : List Str := ["_law_script", "_law_feed_here", "_law_things", "_law_lap", "_law_sizes_here", "_law_k", "_law_thing", "_law_some", "_law_kept", "_law_name", "_law_counts", "_law_odds", "_law_far"]
def q_law : Ck := ⟨N_law, [("_law_feed", 1), ("_law_sizes", 3), ("_law_bent", 2), ("_law_draw", 2), ("_law_same", 2), ("_law_is_sizes", 1), ("is_sizes", 1), ("_law_even", 1), ("even_base", 1)], []⟩
def b_law_1 : List S := [.set (.nm 6) (.call 2 (.c (.var 1) (.c (.var 4) .n))), .app 2 (.ife (.cmp .eq (.call 3 (.c (.var 1) (.c (.int 3) .n))) (.int 0)) (.call 2 (.c (.var 1) (.c (.var 6) .n))) (.var 6))]
def b_law_2 : List S := [.set (.nm 8) (.b1 .repr (.var 6)), .ife (.or (.not (.call 4 (.c (.call 6 (.c (.var 6) .n)) (.c (.call 5 (.c (.var 6) .n)) .n)))) (.cmp .ne (.b1 .repr (.var 6)) (.var 8))) [.ret (.bl false)] []]
def e_law_3 : E := .lc1 [9, 10, 11] (.tp3 (.nm 9) (.nm 10) (.nm 11)) (.sq (.var 4)) .n (.tup (.c (.var 9) (.c (.sli (.var 10) .n (.s (.int 2))) (.c (.var 11) .n))))
def b_law_4 : List S := [.set (.nm 4) (.call 1 (.c (.var 1) (.c (.int 3) (.c (.idx (.lst (.c (.int 3) (.c (.int 9) .n))) (.b1 .int (.cmp .eq (.var 3) (.int 0)))) .n)))), .frz 2, .seto 2 (.bin .add (.var 2) (.lst (.c (.var 4) (.c (.rev (.var 4)) (.c (.b1 .list (.var 4)) (.c (.bin .add (.var 4) (.sli (.var 4) (.s (.neg (.int 1))) .n)) (.c (.tup .n) (.c .non (.c (.bin .mul (.sli (.var 4) .n (.s (.int 1))) (.int 2)) .n))))))))), .frr (.nm 5) (.rg1 (.int 10)) b_law_1, .frz 2, .frr (.nm 6) (.sq (.var 2)) b_law_2, .seto 2 (.lst .n), .set (.nm 7) (.b1 .tuple e_law_3), .ife (.not (.call 4 (.c (.call 8 (.c (.var 7) .n)) (.c (.call 7 (.c (.var 7) .n)) .n)))) [.ret (.bl false)] []]
def b_law : List S := [.set (.nm 1) (.call 0 (.c (.var 0) .n)), .seto 2 (.lst (.c (.tup (.c (.tup (.c (.str "r") (.c (.tup (.c (.bin .pow (.int 10) (.int 30)) .n)) (.c (.tup (.c (.int 1) (.c (.int 2) .n))) .n)))) .n)) (.c (.tup (.c (.tup (.c (.str "r") (.c (.tup .n) (.c (.tup (.c (.int 1) (.c (.int 2) .n))) .n)))) .n)) (.c (.tup (.c (.tup (.c (.str "r") (.c (.tup (.c (.int 1) .n)) (.c (.tup (.c (.int 0) (.c (.int 1) .n))) .n)))) .n)) (.c (.tup (.c (.tup (.c (.str "r") (.c (.tup (.c (.int 1) .n)) (.c (.tup (.c (.int 2) (.c (.int 4) .n))) .n)))) .n)) .n))))), .frr (.nm 3) (.rg1 (.int 3)) b_law_4, .set (.nm 12) (.tup (.c (.tup (.c (.str "s") (.c (.tup (.c (.bin .add (.int 27) (.call 3 (.c (.var 1) (.c (.int 300) .n)))) .n)) (.c (.tup (.c (.int 1) (.c (.int 2) .n))) .n)))) (.c (.tup (.c (.str "t") (.c (.tup (.c (.int 2) (.c (.int 30) .n))) (.c (.tup (.c (.int 1) (.c (.int 3) .n))) .n)))) .n))), .ret (.call 4 (.c (.call 8 (.c (.var 12) .n)) (.c (.call 7 (.c (.var 12) .n)) .n)))]
def c_law : Cf := ⟨[], [m_w_feed, m_w_sizes, (m_w_bent 8), m_w_draw, m_w_same, m_w_is_sizes, m_is_sizes, m_w_even, m_even_base]⟩
def m_law : List D → M D := run c_law ⟨N_law.length, b_law⟩ 1
@[simp] theorem hf_law_0 : c_law.fn[0]? = some m_w_feed := (rfl)
@[simp] theorem hf_law_1 : c_law.fn[1]? = some m_w_sizes := (rfl)
@[simp] theorem hf_law_2 : c_law.fn[2]? = some (m_w_bent 8) := (rfl)
@[simp] theorem hf_law_3 : c_law.fn[3]? = some m_w_draw := (rfl)
@[simp] theorem hf_law_4 : c_law.fn[4]? = some m_w_same := (rfl)
@[simp] theorem hf_law_5 : c_law.fn[5]? = some m_w_is_sizes := (rfl)
@[simp] theorem hf_law_6 : c_law.fn[6]? = some m_is_sizes := (rfl)
@[simp] theorem hf_law_7 : c_law.fn[7]? = some m_w_even := (rfl)
@[simp] theorem hf_law_8 : c_law.fn[8]? = some m_even_base := (rfl)
theorem k_law : chkSs q_law b_law ⟨defScope st_law, none⟩ (defBody st_law) = true := by decide +kernel
theorem s_law : FnScope N_law ["_law_script"] (defScope st_law) := ⟨rfl, rfl, rfl, by decide +kernel, rfl, by decide +kernel, by decide +kernel⟩
theorem f_law {P : Program} {w : World} {K : PySem.W.Frag} {mg : Str → Option Value} {base : Heap} {f : Addr} {fd : FuncData} (D : FunD K "law" "law" (defArgs st_law) (defBody st_law) (defScope st_law) [] [] f fd)
    (hm : mg "law" = some (.ref f)) (hb : ∀ y ∈ bNames, mg y = none) (e0 : Kn P w K mg base 1 "_law_feed" 1 m_w_feed) (e1 : Kn P w K mg base 2 "_law_sizes" 3 m_w_sizes) (e2 : Kn P w K mg base 9 "_law_bent" 2 (m_w_bent 8)) (e3 : Kn P w K mg base 1 "_law_draw" 2 m_w_draw) (e4 : Kn P w K mg base 1 "_law_same" 2 m_w_same) (e5 : Kn P w K mg base 3 "_law_is_sizes" 1 m_w_is_sizes) (e6 : Kn P w K mg base 5 "is_sizes" 1 m_is_sizes) (e7 : Kn P w K mg base 2 "_law_even" 1 m_w_even) (e8 : Kn P w K mg base 3 "even_base" 1 m_even_base) : Kn P w K mg base 10 "law" 1 m_law :=
  def_K D hm s_law rfl rfl k_law hb (.cons (e0.mono (by decide)) (.cons (e1.mono (by decide)) (.cons (e2.mono (by decide)) (.cons (e3.mono (by decide)) (.cons (e4.mono (by decide)) (.cons (e5.mono (by decide)) (.cons (e6.mono (by decide)) (.cons (e7.mono (by decide)) (.cons (e8.mono (by decide)) .nil))))))))) .nil (D.bindsN fun _ _ _ _ _ _ us hl => match us, hl with | [_], _ => rfl)
/-! the head -/
def d_w_feed : He.DefD := ⟨("_law_feed", none), "_law_feed", "_law_feed", defArgs st_w_feed, defBody st_w_feed, defScope st_w_feed, [], []⟩
def d_w_same : He.DefD := ⟨("_law_same", none), "_law_same", "_law_same", defArgs st_w_same, defBody st_w_same, defScope st_w_same, [], []⟩
def d_w_draw : He.DefD := ⟨("_law_draw", none), "_law_draw", "_law_draw", defArgs st_w_draw, defBody st_w_draw, defScope st_w_draw, [], []⟩
def d_w_cut : He.DefD := ⟨("_law_cut", none), "_law_cut", "_law_cut", defArgs st_w_cut, defBody st_w_cut, defScope st_w_cut, [], []⟩
def d_w_sizes : He.DefD := ⟨("_law_sizes", none), "_law_sizes", "_law_sizes", defArgs st_w_sizes, defBody st_w_sizes, defScope st_w_sizes, [], []⟩
def d_first_words : He.DefD := ⟨("first_words", none), "first_words", "first_words", defArgs st_first_words, defBody st_first_words, defScope st_first_words, [], []⟩
def d_even_rows : He.DefD := ⟨("even_rows", none), "even_rows", "even_rows", defArgs st_even_rows, defBody st_even_rows, defScope st_even_rows, [], []⟩
def d_even_base : He.DefD := ⟨("even_base", none), "even_base", "even_base", defArgs st_even_base, defBody st_even_base, defScope st_even_base, [], []⟩
def d_w_words : He.DefD := ⟨("_law_words", none), "_law_words", "_law_words", defArgs st_w_words, defBody st_w_words, defScope st_w_words, [], []⟩
def d_w_even : He.DefD := ⟨("_law_even", none), "_law_even", "_law_even", defArgs st_w_even, defBody st_w_even, defScope st_w_even, [], []⟩
def d_w_bent : He.DefD := ⟨("_law_bent", none), "_law_bent", "_law_bent", defArgs st_w_bent, defBody st_w_bent, defScope st_w_bent, [], []⟩
def d_is_long : He.DefD := ⟨("is_long", none), "is_long", "is_long", defArgs st_is_long, defBody st_is_long, defScope st_is_long, [], []⟩
def d_ratio : He.DefD := ⟨("ratio", none), "ratio", "ratio", defArgs st_ratio, defBody st_ratio, defScope st_ratio, [], []⟩
def d_is_number : He.DefD := ⟨("is_number", none), "is_number", "is_number", defArgs st_is_number, defBody st_is_number, defScope st_is_number, [], []⟩
def d_is_fraction : He.DefD := ⟨("is_fraction", none), "is_fraction", "is_fraction", defArgs st_is_fraction, defBody st_is_fraction, defScope st_is_fraction, [], []⟩
def d_is_chance : He.DefD := ⟨("is_chance", none), "is_chance", "is_chance", defArgs st_is_chance, defBody st_is_chance, defScope st_is_chance, [], []⟩
def d_is_word : He.DefD := ⟨("is_word", none), "is_word", "is_word", defArgs st_is_word, defBody st_is_word, defScope st_is_word, [], []⟩
def d_is_size : He.DefD := ⟨("is_size", none), "is_size", "is_size", defArgs st_is_size, defBody st_is_size, defScope st_is_size, [], []⟩
def d_is_sizes : He.DefD := ⟨("is_sizes", none), "is_sizes", "is_sizes", defArgs st_is_sizes, defBody st_is_sizes, defScope st_is_sizes, [], []⟩
def d_w_is_number : He.DefD := ⟨("_law_is_number", none), "_law_is_number", "_law_is_number", defArgs st_w_is_number, defBody st_w_is_number, defScope st_w_is_number, [], []⟩
def d_w_is_size : He.DefD := ⟨("_law_is_size", none), "_law_is_size", "_law_is_size", defArgs st_w_is_size, defBody st_w_is_size, defScope st_w_is_size, [], []⟩
def d_w_is_sizes : He.DefD := ⟨("_law_is_sizes", none), "_law_is_sizes", "_law_is_sizes", defArgs st_w_is_sizes, defBody st_w_is_sizes, defScope st_w_is_sizes, [], []⟩
def d_law : He.DefD := ⟨("law", none), "law", "law", defArgs st_law, defBody st_law, defScope st_law, [], []⟩
def fn : List He.DefD := [d_w_feed, d_w_same, d_w_draw, d_w_cut, d_w_sizes, d_first_words, d_even_rows, d_even_base, d_w_words, d_w_even, d_w_bent, d_is_long, d_ratio, d_is_number, d_is_fraction, d_is_chance, d_is_word, d_is_size, d_is_sizes, d_w_is_number, d_w_is_size, d_w_is_sizes, d_law]
def fa : List He.Fa := bNames.map He.Fa.free ++ [.glo "_law_feed", .glo "_law_same", .glo "_law_draw", .glo "_law_cut", .glo "_law_sizes", .glo "first_words", .glo "even_rows", .glo "even_base", .glo "_law_words", .glo "_law_even", .glo "_law_bent", .glo "is_long", .glo "ratio", .glo "is_number", .glo "is_fraction", .glo "is_chance", .glo "is_word", .glo "is_size", .glo "is_sizes", .glo "_law_is_number", .glo "_law_is_size", .glo "_law_is_sizes", .glo "law"]
def cs : List (Str × D) := [("NOUGHT", g_NOUGHT), ("LETTERS_words", g_LETTERS_words), ("LONGEST", g_LONGEST), ("LETTERS_sizes", g_LETTERS_sizes)]
abbrev R : PySem.W.OpenRow := PySem.W.OpenLaw.row PySem.Challenge.rw_liftedworlds_k63_sizes_by_kind
abbrev hk : PySem.W.Hook := hookC 4 fa fn cs
def ob (s : PySem.W.SharedT) : AlC := obsCG 4 fa fn cs (HandSHeadRun.getT s)
theorem ob_eq (s : PySem.W.SharedT) : ob s = hk.obs s.abs := obsCG_eq (HandSHeadRun.getT_eq s)
def loose : List PySem.Str := (["NOUGHT", "LETTERS_words", "LONGEST", "is_number", "is_word", "is_long", "ratio", "is_fraction", "is_chance", "LETTERS_sizes", "is_size", "is_sizes", "first_words", "even_rows", "even_base", "_law_feed", "_law_draw", "_law_same", "_law_cut", "_law_bent", "_law_sizes", "_law_words", "_law_even", "_law_is_number", "_law_is_size", "_law_is_sizes"] : List PySem.Str)
theorem run0 (w : World) : HandSHeadRun.RunEq R (PySem.W.view R.prog [30]) hk ob 2000 loose w := by
  intro os
  kernel_rfl
theorem facts {P : Program} {w : World} {K : PySem.W.Frag} {h : Heap} {mg : Str → Option Value} {f : Addr} (X : K.In h) (G : h.Ns mainGlobals mg) (hfa : mg ("law" : Str) = some (.ref f)) (c : SaysC fa fn cs K) :
    ∃ fd : FuncData, (∀ (s : Shared) (v : Value), BindsTo s fd ⟨[v], []⟩ [("_law_script", v)]) ∧ ∀ base : Heap, K.In base → base.Ns mainGlobals mg → FnC P w K mg base 10 f fd ["_law_script"] m_law := by
  have hb : ∀ y ∈ bNames, mg y = none := free_all X G c
  have g0 : Kg K mg "NOUGHT" g_NOUGHT := kg_at X G c 0 rfl
  have g1 : Kg K mg "LETTERS_words" g_LETTERS_words := kg_at X G c 1 rfl
  have g2 : Kg K mg "LONGEST" g_LONGEST := kg_at X G c 2 rfl
  have g3 : Kg K mg "LETTERS_sizes" g_LETTERS_sizes := kg_at X G c 3 rfl
  obtain ⟨fd0, D0⟩ := c.d.def_ 0 (d := d_w_feed) rfl
  have y_w_feed : ∀ base : Heap, Kn P w K mg base 1 "_law_feed" 1 m_w_feed := fun base => f_w_feed D0 (He.glo_ok X G (c.d.fact 21 (f := .glo "_law_feed") rfl)) hb
  obtain ⟨fd1, D1⟩ := c.d.def_ 1 (d := d_w_same) rfl
  have y_w_same : ∀ base : Heap, Kn P w K mg base 1 "_law_same" 2 m_w_same := fun base => f_w_same D1 (He.glo_ok X G (c.d.fact 22 (f := .glo "_law_same") rfl)) hb
  obtain ⟨fd2, D2⟩ := c.d.def_ 2 (d := d_w_draw) rfl
  have y_w_draw : ∀ base : Heap, Kn P w K mg base 1 "_law_draw" 2 m_w_draw := fun base => f_w_draw D2 (He.glo_ok X G (c.d.fact 23 (f := .glo "_law_draw") rfl)) hb
  obtain ⟨fd3, D3⟩ := c.d.def_ 3 (d := d_w_cut) rfl
  have y_w_cut : ∀ base : Heap, Kn P w K mg base 1 "_law_cut" 2 m_w_cut := fun base => f_w_cut D3 (He.glo_ok X G (c.d.fact 24 (f := .glo "_law_cut") rfl)) hb
  obtain ⟨fd4, D4⟩ := c.d.def_ 4 (d := d_w_sizes) rfl
  have y_w_sizes : ∀ base : Heap, Kn P w K mg base 2 "_law_sizes" 3 m_w_sizes := fun base => f_w_sizes D4 (He.glo_ok X G (c.d.fact 25 (f := .glo "_law_sizes") rfl)) hb (y_w_draw base) (y_w_cut base)
  obtain ⟨fd5, D5⟩ := c.d.def_ 5 (d := d_first_words) rfl
  have y_first_words : ∀ base : Heap, Kn P w K mg base 1 "first_words" 1 m_first_words := fun base => f_first_words D5 (He.glo_ok X G (c.d.fact 26 (f := .glo "first_words") rfl)) hb g3
  obtain ⟨fd6, D6⟩ := c.d.def_ 6 (d := d_even_rows) rfl
  have y_even_rows : ∀ base : Heap, Kn P w K mg base 2 "even_rows" 1 m_even_rows := fun base => f_even_rows D6 (He.glo_ok X G (c.d.fact 27 (f := .glo "even_rows") rfl)) hb (y_first_words base)
  obtain ⟨fd7, D7⟩ := c.d.def_ 7 (d := d_even_base) rfl
  have y_even_base : ∀ base : Heap, Kn P w K mg base 3 "even_base" 1 m_even_base := fun base => f_even_base D7 (He.glo_ok X G (c.d.fact 28 (f := .glo "even_base") rfl)) hb (y_even_rows base)
  obtain ⟨fd8, D8⟩ := c.d.def_ 8 (d := d_w_words) rfl
  have y_w_words : ∀ base : Heap, Kn P w K mg base 1 "_law_words" 1 m_w_words := fun base => f_w_words D8 (He.glo_ok X G (c.d.fact 29 (f := .glo "_law_words") rfl)) hb
  obtain ⟨fd9, D9⟩ := c.d.def_ 9 (d := d_w_even) rfl
  have y_w_even : ∀ base : Heap, Kn P w K mg base 2 "_law_even" 1 m_w_even := fun base => f_w_even D9 (He.glo_ok X G (c.d.fact 30 (f := .glo "_law_even") rfl)) hb (y_w_words base)
  obtain ⟨fd10, D10⟩ := c.d.def_ 10 (d := d_w_bent) rfl
  have y_w_bent : ∀ base : Heap, Kn P w K mg base 9 "_law_bent" 2 (m_w_bent 8) := fun base => f_w_bent D10 (He.glo_ok X G (c.d.fact 31 (f := .glo "_law_bent") rfl)) hb (y_w_draw base) 8
  obtain ⟨fd11, D11⟩ := c.d.def_ 11 (d := d_is_long) rfl
  have y_is_long : ∀ base : Heap, Kn P w K mg base 1 "is_long" 2 m_is_long := fun base => f_is_long D11 (He.glo_ok X G (c.d.fact 32 (f := .glo "is_long") rfl)) hb
  obtain ⟨fd12, D12⟩ := c.d.def_ 12 (d := d_ratio) rfl
  have y_ratio : ∀ base : Heap, Kn P w K mg base 1 "ratio" 2 m_ratio := fun base => f_ratio D12 (He.glo_ok X G (c.d.fact 33 (f := .glo "ratio") rfl)) hb
  obtain ⟨fd13, D13⟩ := c.d.def_ 13 (d := d_is_number) rfl
  have y_is_number : ∀ base : Heap, Kn P w K mg base 1 "is_number" 1 m_is_number := fun base => f_is_number D13 (He.glo_ok X G (c.d.fact 34 (f := .glo "is_number") rfl)) hb
  obtain ⟨fd14, D14⟩ := c.d.def_ 14 (d := d_is_fraction) rfl
  have y_is_fraction : ∀ base : Heap, Kn P w K mg base 2 "is_fraction" 1 m_is_fraction := fun base => f_is_fraction D14 (He.glo_ok X G (c.d.fact 35 (f := .glo "is_fraction") rfl)) hb (y_is_long base) (y_is_number base) (y_ratio base)
  obtain ⟨fd15, D15⟩ := c.d.def_ 15 (d := d_is_chance) rfl
  have y_is_chance : ∀ base : Heap, Kn P w K mg base 3 "is_chance" 1 m_is_chance := fun base => f_is_chance D15 (He.glo_ok X G (c.d.fact 36 (f := .glo "is_chance") rfl)) hb (y_is_fraction base)
  obtain ⟨fd16, D16⟩ := c.d.def_ 16 (d := d_is_word) rfl
  have y_is_word : ∀ base : Heap, Kn P w K mg base 1 "is_word" 1 m_is_word := fun base => f_is_word D16 (He.glo_ok X G (c.d.fact 37 (f := .glo "is_word") rfl)) hb g2 g1
  obtain ⟨fd17, D17⟩ := c.d.def_ 17 (d := d_is_size) rfl
  have y_is_size : ∀ base : Heap, Kn P w K mg base 4 "is_size" 1 m_is_size := fun base => f_is_size D17 (He.glo_ok X G (c.d.fact 38 (f := .glo "is_size") rfl)) hb (y_is_word base) (y_is_number base) (y_is_chance base) g0
  obtain ⟨fd18, D18⟩ := c.d.def_ 18 (d := d_is_sizes) rfl
  have y_is_sizes : ∀ base : Heap, Kn P w K mg base 5 "is_sizes" 1 m_is_sizes := fun base => f_is_sizes D18 (He.glo_ok X G (c.d.fact 39 (f := .glo "is_sizes") rfl)) hb (y_is_size base)
  obtain ⟨fd19, D19⟩ := c.d.def_ 19 (d := d_w_is_number) rfl
  have y_w_is_number : ∀ base : Heap, Kn P w K mg base 1 "_law_is_number" 1 m_w_is_number := fun base => f_w_is_number D19 (He.glo_ok X G (c.d.fact 40 (f := .glo "_law_is_number") rfl)) hb
  obtain ⟨fd20, D20⟩ := c.d.def_ 20 (d := d_w_is_size) rfl
  have y_w_is_size : ∀ base : Heap, Kn P w K mg base 2 "_law_is_size" 1 m_w_is_size := fun base => f_w_is_size D20 (He.glo_ok X G (c.d.fact 41 (f := .glo "_law_is_size") rfl)) hb (y_w_is_number base) (y_w_cut base)
  obtain ⟨fd21, D21⟩ := c.d.def_ 21 (d := d_w_is_sizes) rfl
  have y_w_is_sizes : ∀ base : Heap, Kn P w K mg base 3 "_law_is_sizes" 1 m_w_is_sizes := fun base => f_w_is_sizes D21 (He.glo_ok X G (c.d.fact 42 (f := .glo "_law_is_sizes") rfl)) hb (y_w_is_size base)
  obtain ⟨fd, D⟩ := c.d.def_ 22 (d := d_law) rfl
  have e := hfa.symm.trans (He.glo_ok X G (c.d.fact 43 (f := .glo "law") rfl))
  cases e
  refine ⟨fd, fun s v => (FunD.bindsA (ps := ["_law_script"]) D fun _ _ _ _ _ _ us hl => match us, hl with | [_], _ => rfl) s [v] rfl, fun base _ _ => ?_⟩
  exact def_C D s_law rfl k_law hb (.cons ((y_w_feed base).mono (by decide)) (.cons ((y_w_sizes base).mono (by decide)) (.cons ((y_w_bent base).mono (by decide)) (.cons ((y_w_draw base).mono (by decide)) (.cons ((y_w_same base).mono (by decide)) (.cons ((y_w_is_sizes base).mono (by decide)) (.cons ((y_is_sizes base).mono (by decide)) (.cons ((y_w_even base).mono (by decide)) (.cons ((y_even_base base).mono (by decide)) .nil))))))))) .nil
end liftedworlds_k63_sizes_by_kind

namespace liftedworlds_k63_sizes_by_kind
open PySem Cv
/-! ### the feed -/
def feed (cs : List Int) (s r c : Int) : List D := [.lst (cs.map .int), .int s, .int r, .int c]
section
variable {cs : List Int} {s r c x : Int}
theorem draw_rest {many : Int} (h1 : 0 < many) (h2 : many < 2 ^ 200) (h : 0 < r) : m_w_draw [.obj 0, .int many] [.cel (feed cs s r c)] = some (.int (r.fmod many), [.cel (feed cs s (r.fdiv many) (c + 1))]) := by
  have e1 : many ≠ 0 := by omega
  have e2 : sm many = true := sm_lit (by omega)
  simp [m_w_draw, Cv.run, N_w_draw, b_w_draw, sts, st, ev, evt, evs, startE, asg, setV, getI, setI, feed, h, e1, e2]
theorem draw_big {many : Int} {x : Int} (h1 : 0 < many) (h2 : many < 2 ^ 200) (h : r = 0) (hl : 0 < cs.length) (hx : atD (cs.map D.int) (s.fmod cs.length) = some (.int x)) (hs : s < cs.length) (hb : 10 ^ 18 ≤ x) :
    m_w_draw [.obj 0, .int many] [.cel (feed cs s r c)] = some (.int (x.fmod many), [.cel (feed cs (s + 1) (x.fdiv many) (c + 1))]) := by
  have e1 : many ≠ 0 := by omega
  have e2 : sm many = true := sm_lit (by omega)
  have e4 : ¬ (cs.length = 0) := by omega
  have e5 : cs ≠ [] := by intro z; rw [z] at hl; exact absurd hl (by decide)
  simp at hb
  simp [m_w_draw, Cv.run, N_w_draw, b_w_draw, sts, st, ev, evt, evs, startE, asg, setV, getI, setI, feed, h, e1, e2, hl, e4, e5, hx, hs, hb]
theorem draw_mix {many : Int} {x : Int} (h1 : 0 < many) (h2 : many < 2 ^ 200) (h : r = 0) (hs0 : 0 ≤ s) (hc : 0 ≤ c) (hc2 : c < 2 ^ 18) (hx : (0 < cs.length ∧ atD (cs.map D.int) (s.fmod cs.length) = some (.int x)) ∨ (cs = [] ∧ x = 6))
    (hb : ¬ (s < cs.length ∧ 10 ^ 18 ≤ x)) : ∃ v, m_w_draw [.obj 0, .int many] [.cel (feed cs s r c)] = some (.int v, [.cel (feed cs (s + 1) r (c + 1))]) ∧ 0 ≤ v ∧ v < many := by
  have e1 : many ≠ 0 := by omega
  have e2 : sm many = true := sm_lit (by omega)
  have m1 := fmod_pos (a := x) (b := 2147483629) (by decide)
  have s1 : sm (c + 1) = true := sm_lit (by omega)
  have s2 : sm 110017 = true := by decide
  have s3 : sm 59083 = true := by decide
  have s4 : sm 64 = true := by decide
  have p1 : (x.fmod 2147483629 + 110017 * (c + 1) + 61).natAbs < 18446744073709551616 := by omega
  have m2 := fmod_pos (a := (x.fmod 2147483629 + 110017 * (c + 1) + 61) ^ 5) (b := 2147483647) (by decide)
  have s5 : sm (59083 * (c + 1)) = true := sm_lit (by omega)
  have b5 : 0 ≤ 59083 * (c + 1) * (c + 1) ∧ 59083 * (c + 1) * (c + 1) ≤ 2 ^ 35 * 2 ^ 19 := by
    refine ⟨Int.mul_nonneg (by omega) (by omega), Int.mul_le_mul (by omega) (by omega) (by omega) (by omega)⟩
  have p2 : (((x.fmod 2147483629 + 110017 * (c + 1) + 61) ^ 5).fmod 2147483647 + 59083 * (c + 1) * (c + 1)).natAbs < 18446744073709551616 := by omega
  have fin := fmod_pos (a := (((((x.fmod 2147483629 + 110017 * (c + 1) + 61) ^ 5).fmod 2147483647 + 59083 * (c + 1) * (c + 1)) ^ 5).fmod 2147483587).fdiv 64) h1
  refine ⟨_, ?_, fin⟩
  simp at hb
  rcases hx with ⟨hl, hx⟩ | ⟨hl, rfl⟩
  · have e4 : ¬ (cs.length = 0) := by omega
    have e5 : cs ≠ [] := by intro z; rw [z] at hl; exact absurd hl (by decide)
    by_cases h6 : s < cs.length
    · have h7 : ¬ (1000000000000000000 ≤ x) := by have := hb h6; omega
      simp [m_w_draw, Cv.run, N_w_draw, b_w_draw, sts, st, ev, evt, evs, startE, asg, setV, getI, setI, feed, h, e1, e2, hl, e4, e5, hx, h6, h7, s1, s2, s3, s4, s5, p1, p2]
    · simp [m_w_draw, Cv.run, N_w_draw, b_w_draw, sts, st, ev, evt, evs, startE, asg, setV, getI, setI, feed, h, e1, e2, hl, e4, e5, hx, h6, s1, s2, s3, s4, s5, p1, p2]
  · subst hl
    have h6 : ¬ (s < 0) := by omega
    have e7 : Int.fmod 6 2147483629 = 6 := by decide
    rw [e7] at p1 p2
    simp [m_w_draw, Cv.run, N_w_draw, b_w_draw, sts, st, ev, evt, evs, startE, asg, setV, getI, setI, feed, h, e1, e2, h6, s1, s2, s3, s4, s5, p1, p2]
end
/-- the feed after c draws or fewer -/
structure Fp (c : Int) (S : Sto) : Prop where
  ex : ∃ cs s r k, S = [.cel (feed cs s r k)] ∧ 0 ≤ s ∧ 0 ≤ r ∧ 0 ≤ k ∧ k ≤ c
theorem draw_ok {c many : Int} {S : Sto} (T : Fp c S) (hc : c < 2 ^ 18) (h1 : 0 < many) (h2 : many < 2 ^ 200) : ∃ v S', m_w_draw [.obj 0, .int many] S = some (.int v, S') ∧ 0 ≤ v ∧ v < many ∧ Fp (c + 1) S' := by
  obtain ⟨cs, s, r, k, rfl, hs, hr, hk, hkc⟩ := T.ex
  by_cases h : 0 < r
  · have m := fmod_pos (a := r) h1
    exact ⟨_, _, draw_rest h1 h2 h, m.1, m.2, ⟨cs, s, _, _, rfl, hs, fdiv_pos h1 hr, by omega, by omega⟩⟩
  · have hr0 : r = 0 := by omega
    have hx : ∃ x, (0 < cs.length ∧ atD (cs.map D.int) (s.fmod cs.length) = some (.int x)) ∨ (cs = [] ∧ x = 6) := by
      by_cases hl : 0 < cs.length
      · have m := fmod_pos (a := s) (b := (cs.length : Int)) (by omega)
        have hj : (s.fmod cs.length).toNat < cs.length := by omega
        exact ⟨cs[(s.fmod cs.length).toNat], .inl ⟨hl, at_i m.1 (by rw [List.getElem?_map, List.getElem?_eq_getElem hj]; rfl)⟩⟩
      · exact ⟨6, .inr ⟨List.eq_nil_of_length_eq_zero (by omega), rfl⟩⟩
    obtain ⟨x, hx⟩ := hx
    by_cases hb : s < cs.length ∧ 10 ^ 18 ≤ x
    · rcases hx with ⟨hl, hx⟩ | ⟨hl, rfl⟩
      · have m := fmod_pos (a := x) h1
        exact ⟨_, _, draw_big h1 h2 hr0 hl hx hb.1 hb.2, m.1, m.2, ⟨cs, s + 1, _, _, rfl, by omega, fdiv_pos h1 (by omega), by omega, by omega⟩⟩
      · exact absurd hb.2 (by decide)
    · obtain ⟨v, e, h3, h4⟩ := draw_mix h1 h2 hr0 hs hk (by omega) hx hb
      exact ⟨v, _, e, h3, h4, ⟨cs, s + 1, r, _, rfl, by omega, hr, by omega, by omega⟩⟩
theorem Fp.mono {c d : Int} {S : Sto} (T : Fp c S) (h : c ≤ d) : Fp d S := by
  obtain ⟨cs, s, r, k, e, a, b, d, f⟩ := T.ex
  exact ⟨cs, s, r, k, e, a, b, d, by omega⟩
/-! ### cutting -/
theorem kp_is_word : m_is_word = Kp.m_is_word := rfl
theorem kp_is_number : m_is_number = Kp.m_is_number := rfl
theorem kp_is_chance : m_is_chance = Kp.m_is_chance := rfl
theorem g_loop {x y : Sl} {S : Sto} : ∀ n, ∀ a b : Nat, b < n → whlM (fun en1 => evt c_w_cut (.cmp .gt (.var 3) (.int 0)) en1) (fun en1 => sts c_w_cut b_w_cut_1 en1) n [x, y, .val (.int a), .val (.int b)] S = some ((.nx, [x, y, .val (.int (Nat.gcd a b)), .val (.int 0)]), S) := by
  intro n
  induction n with
  | zero => intro a b h; omega
  | succ n ih =>
    intro a b h
    by_cases h0 : b = 0
    · subst h0
      refine (whl_end (S1 := S) ?_).trans ?_
      · simp [evt, ev]
      · simp
    · have hp : 0 < b := by omega
      have hf : Int.fmod (a : Int) (b : Int) = ((a % b : Nat) : Int) := by rw [Int.fmod_eq_emod_of_nonneg _ (by omega)]; rfl
      have hi := ih b (a % b) (by have := Nat.mod_lt a (by omega : b > 0); omega)
      have e : Nat.gcd b (a % b) = Nat.gcd a b := by rw [Nat.gcd_comm b, ← Nat.gcd_rec, Nat.gcd_comm]
      rw [e] at hi
      exact whl_go (S1 := S) (by simp [evt, ev, hp]) (by simp [b_w_cut_1, sts, st, ev, h0, hf, setV]) hi
theorem r_cut {x y : Int} {S : Sto} (hy : 0 < y) (h1 : x.natAbs < 2 ^ 3000) (h2 : y.natAbs < 2 ^ 3000) : m_w_cut [.int x, .int y] S = some (fr (lw x y), S) := by
  have hg := gcd_pos (x := x) (y := y) (by omega)
  have hs := gcd_sm (x := x) (y := y) (by omega) h2
  have hl := g_loop (x := .val (.int x)) (y := .val (.int y)) (S := S) FUEL x.natAbs y.natAbs (lt_fuel (Nat.lt_trans h2 (by decide)))
  have hya : ((y.natAbs : Nat) : Int) = y := by omega
  rw [hya] at hl
  have hn : ¬ (Nat.gcd x.natAbs y.natAbs = 0) := by omega
  refine run_go rfl (sts_go (S1 := S) (en1 := [.val (.int x), .val (.int y), .val (.int (x.natAbs : Int)), .val (.int y)]) ?_ (sts_go (S1 := S) (en1 := [.val (.int x), .val (.int y), .val (.int (Nat.gcd x.natAbs y.natAbs : Nat)), .val (.int 0)]) ?_ (sts_fin ?_)))
  · simp [st, ev, startE, N_w_cut, abs_nat, setV]
  · rw [st_whl]; exact hl
  · have hne : (((Nat.gcd x.natAbs y.natAbs : Nat) : Int) ≠ 0) := by omega
    simp only [ev, evs, x_bnd, x_var, g_suc, g_val, x_opt, x_ret, b_fdiv, hs, hne, ne_eq, not_false_eq_true, decide_true, Bool.and_self, if_true]
    rfl
/-! ### sizes -/
open Cv.Kp
theorem r_wnumber {d : D} {S : Sto} (h : Th d) : m_w_is_number [d] S = some (.bl (isN d), S) := by
  have hw := h.ws
  cases d <;> first | (cases hw; done) | (refine run_go rfl (sts_fin ?_); simp [ev, startE, N_w_is_number, isN])
/-- a place's count -/
def isK : D → Bool
  | .int i => decide (1 ≤ i)
  | _ => false
theorem count_ok {d : D} {S : Sto} {v0 v1 v2 v3 : Sl} (h : Th d) : ev c_is_size (.and (.call 1 (.c (.var 4) .n)) (.cmp .ge (.var 4) (.int 1))) [v0, v1, v2, v3, .val d] S = some (.bl (isK d), S) := by
  have g1 := r_number (S := S) h
  have hw := h.ws
  have e1 : c_is_size.fn[1]? = some Kp.m_is_number := rfl
  cases d <;> first | (cases hw; done) | (simp [ev, evs, e1, g1, isN, isK])
def notZ : D → Bool
  | .tup [.int 0, .int 1] => false
  | _ => true
def isS : D → Bool
  | .tup [n, .tup cs, o] => isW n && (!cs.isEmpty && (cs.all isK && (isC o && notZ o)))
  | _ => false
theorem counts_all {cs : List D} {S : Sto} {v0 v1 v3 : Sl} (h : Th (.tup cs)) : ev c_is_size e_is_size_1 [v0, v1, .val (.tup cs), v3, .no] S = some (.lst (cs.map fun c => D.bl (isK c)), S) := by
  have e := lcm_map (f := fun d : D => d) (h := D.bl) (t := fun d => M.bnd (M.opt (asg (.nm 4) d (wipeE [v0, v1, .val (.tup cs), v3, .no] [4]))) fun en2 => evc c_is_size .n en2)
    (el := fun d => M.bnd (M.opt (asg (.nm 4) d (wipeE [v0, v1, .val (.tup cs), v3, .no] [4]))) fun en2 => ev c_is_size (.and (.call 1 (.c (.var 4) .n)) (.cmp .ge (.var 4) (.int 1))) en2) (S0 := S) isK cs (fun x hx => ⟨rfl, count_ok (h.row hx)⟩)
  simp only [List.map_id'] at e
  have ei : evi c_is_size (.sq (.var 2)) [v0, v1, .val (.tup cs), v3, .no] S = some (cs, S) := by simp [evi, ev, seqD]
  rw [e_is_size_1, ev, x_bnd, ei]
  show M.bnd (lcM _ _ _) _ S = _
  rw [x_bnd, e]
  rfl
theorem sz_len {xs : List D} (h : xs.length ≠ 3) : isS (.tup xs) = false := by
  unfold isS
  split
  · rename_i heq
    cases heq
    exact absurd rfl h
  · rfl
theorem tri {xs : List D} (h : xs.length = 3) : ∃ x y z, xs = [x, y, z] := by
  match xs, h with
  | [x, y, z], _ => exact ⟨x, y, z, rfl⟩
theorem nought_ne {o : D} (h : isC o = true) : cmpD .ne o (.tup [.int 0, .int 1]) = some (notZ o) := by
  have hf : isF o = true := by
    unfold isC at h
    simp only [Bool.and_eq_true] at h
    exact h.1
  obtain ⟨a, b, rfl⟩ := isF_two hf
  have e : cmpD .ne (.tup [.int a, .int b]) (.tup [.int 0, .int 1]) = some (!((a == 0) && ((b == 1) && true))) := rfl
  rw [e]
  unfold notZ
  by_cases ha : a = 0
  · subst ha
    by_cases hb : b = 1
    · subst hb; rfl
    · have hb2 : (b == 1) = false := by simpa using hb
      rw [hb2]
      split
      · rename_i heq; cases heq; exact absurd rfl hb
      · rfl
  · have ha2 : (a == 0) = false := by simpa using ha
    rw [ha2]
    split
    · rename_i heq; cases heq; exact absurd rfl ha
    · rfl
theorem empT_eq {ds : List D} (h : shp (.tup ds) = true) : cmpD .eq (.tup ds) (.tup []) = some ds.isEmpty := by
  show (if shp (.tup ds) && shp (.tup []) then some (PyData.eqv (D.tup ds).py (D.tup []).py) else none) = _
  rw [h]
  cases ds <;> rfl
theorem r_size {d : D} {S : Sto} (h : Th d) : m_is_size [d] S = some (.bl (isS d), S) := by
  have hw := h.ws
  have e0 : c_is_size.fn[0]? = some Kp.m_is_word := rfl
  have e2 : c_is_size.fn[2]? = some Kp.m_is_chance := rfl
  have eg : c_is_size.gl[0]? = some (.tup [.int 0, .int 1]) := rfl
  by_cases hd : ∃ xs, d = .tup xs
  · obtain ⟨xs, rfl⟩ := hd
    by_cases hl : xs.length = 3
    · obtain ⟨x, y, z, rfl⟩ := tri hl
      have hx : Th x := h.row (by simp)
      have hy : Th y := h.row (by simp)
      have hz : Th z := h.row (by simp)
      have gx := r_word (S := S) hx
      have gz := r_chance (S := S) hz
      cases bx : isW x with
      | false =>
        rw [bx] at gx
        have er : isS (.tup [x, y, z]) = false := by unfold isS; split <;> first | rfl | (rename_i heq; cases heq; rw [bx]; rfl)
        rw [er]
        refine run_go rfl (sts_ret (st_ifT (S1 := S) ?_ (sts_fin (S1 := S) ?_)))
        · simp [evt, ev, evs, startE, e0, gx]
        · simp [ev]
      | true =>
        rw [bx] at gx
        by_cases hc : ∃ cs, y = .tup cs
        · obtain ⟨cs, rfl⟩ := hc
          have ee := empT_eq (pp hy)
          have ca := counts_all (S := S) (v0 := .val (.tup [x, .tup cs, z])) (v1 := .val x) (v3 := .val z) hy
          have aa := all_map isK cs
          have er : isS (.tup [x, .tup cs, z]) = (!cs.isEmpty && (cs.all isK && (isC z && notZ z))) := by
            show (isW x && _) = _
            rw [bx]; rfl
          rw [er]
          refine run_go (en := [.val (.tup [x, .tup cs, z]), .val x, .val (.tup cs), .val z, .no]) rfl (sts_go (S1 := S) (st_ifF (S1 := S) ?_ sts_end) (sts_go (S1 := S) (en1 := [.val (.tup [x, .tup cs, z]), .val x, .val (.tup cs), .val z, .no]) ?_ ?_))
          · simp [evt, ev, evs, startE, e0, gx]
          · simp [st, ev, asg, setV, startE, N_is_size]
          · cases he : cs.isEmpty with
            | true =>
              rw [he] at ee
              refine sts_ret (st_ifT (S1 := S) ?_ (sts_fin (S1 := S) ?_))
              · simp [evt, ev, evs, ee]
              · simp [ev]
            | false =>
              rw [he] at ee
              cases hk : cs.all isK with
              | false =>
                rw [hk] at aa
                refine sts_ret (st_ifT (S1 := S) ?_ (sts_fin (S1 := S) ?_))
                · simp [evt, ev, evs, ee, ca, aa]
                · simp [ev]
              | true =>
                rw [hk] at aa
                refine sts_go (S1 := S) (st_ifF (S1 := S) ?_ sts_end) (sts_fin (S1 := S) ?_)
                · simp [evt, ev, evs, ee, ca, aa]
                · cases hz2 : isC z with
                  | false =>
                    rw [hz2] at gz
                    simp [ev, evs, e2, gz]
                  | true =>
                    rw [hz2] at gz
                    simp [ev, evs, e2, gz, eg, nought_ne hz2]
        · have er : isS (.tup [x, y, z]) = false := by
            unfold isS
            split
            · rename_i heq; cases heq; exact absurd ⟨_, rfl⟩ hc
            · rfl
          have hi : isiD y "tuple" = some false := by
            have hw := hy.ws
            cases y <;> first | (cases hw; done) | rfl | exact absurd ⟨_, rfl⟩ hc
          rw [er]
          refine run_go rfl (sts_go (S1 := S) (st_ifF (S1 := S) ?_ sts_end) (sts_go (S1 := S) (en1 := [.val (.tup [x, y, z]), .val x, .val y, .val z, .no]) ?_ (sts_ret (st_ifT (S1 := S) ?_ (sts_fin (S1 := S) ?_)))))
          · simp [evt, ev, evs, startE, e0, gx]
          · simp [st, ev, asg, setV, startE, N_is_size]
          · simp [evt, ev, evs, hi]
          · simp [ev]
    · have hn : ¬ ((xs.length : Int) = 3) := by omega
      rw [sz_len hl]
      refine run_go rfl (sts_ret (st_ifT (S1 := S) ?_ (sts_fin (S1 := S) ?_)))
      · simp [evt, ev, evs, startE, hn]
      · simp [ev]
  · have er : isS d = false := by
      unfold isS
      split
      · exact absurd ⟨_, rfl⟩ hd
      · rfl
    have hi : isiD d "tuple" = some false := by
      cases d <;> first | (cases hw; done) | rfl | exact absurd ⟨_, rfl⟩ hd
    rw [er]
    refine run_go rfl (sts_ret (st_ifT (S1 := S) ?_ (sts_fin (S1 := S) ?_)))
    · simp [evt, ev, evs, startE, hi]
    · simp [ev]
/-! ### the law's look at a size -/
theorem w_signs {s : Str} {y z : D} {v1 v2 v3 : Sl} {S : Sto} (h : Th (.str s)) : ev c_w_is_size e_w_is_size_1 [.val (.tup [.str s, y, z]), .no, v2, v3] S = some (.lst ((s.cps.toList.filter fun c => !inL c).map fun c => D.str ⟨#[c]⟩), S) := by
  have hl := len_line h
  have := lcm_filter (S0 := S) (f := fun c : Nat => D.str ⟨#[c]⟩) (h := fun c : Nat => D.str ⟨#[c]⟩) (p := fun c => !inL c) (t := fun d => M.bnd (M.opt (asg (.nm 1) d (wipeE [.val (.tup [.str s, y, z]), .no, v2, v3] [1]))) fun en2 => evc c_w_is_size (.s (.cmp .notin (.var 1) (.str "abcdefghijklmnopqrstuvwxyz"))) en2)
    (el := fun d => M.bnd (M.opt (asg (.nm 1) d (wipeE [.val (.tup [.str s, y, z]), .no, v2, v3] [1]))) fun en2 => ev c_w_is_size (.var 1) en2) s.cps.toList fun c _ => by
      refine ⟨by simp [asg, wipeE, setV, evc, evt, snot], fun _ => ?_⟩
      simp [asg, wipeE, setV]
  have ei : evi c_w_is_size (.sq (.idx (.var 0) (.int 0))) [.val (.tup [.str s, y, z]), .no, v2, v3] S = some (s.cps.toList.map fun c => D.str ⟨#[c]⟩, S) := by simp [evi, ev, seqS hl]
  rw [e_w_is_size_1, ev, x_bnd, ei]
  show M.bnd (lcM _ _ _) _ S = _
  rw [x_bnd, this]
  rfl
theorem w_counts {x z : D} {cs : List D} {v1 v3 : Sl} {S : Sto} (h : Th (.tup cs)) : ev c_w_is_size e_w_is_size_2 [.val (.tup [x, .tup cs, z]), v1, .no, v3] S = some (.lst ((cs.filter fun c => !isK c).map fun _ => D.int 1), S) := by
  have := lcm_filter (S0 := S) (f := fun d : D => d) (h := fun _ : D => D.int 1) (p := fun c => !isK c) (t := fun d => M.bnd (M.opt (asg (.nm 2) d (wipeE [.val (.tup [x, .tup cs, z]), v1, .no, v3] [2]))) fun en2 => evc c_w_is_size (.s (.or (.not (.call 0 (.c (.var 2) .n))) (.cmp .lt (.var 2) (.int 1)))) en2)
    (el := fun d => M.bnd (M.opt (asg (.nm 2) d (wipeE [.val (.tup [x, .tup cs, z]), v1, .no, v3] [2]))) fun en2 => ev c_w_is_size (.int 1) en2) cs fun c hc => by
      have hcc : Th c := h.row hc
      have g1 := r_wnumber (S := S) hcc
      have hw := hcc.ws
      refine ⟨?_, fun _ => by simp [asg, wipeE, setV]⟩
      cases c <;> first | (cases hw; done) | (simp [asg, wipeE, setV, evc, evt, ev, evs, c_w_is_size, g1, isN, isK])
      try (rename_i i; by_cases hi : 1 ≤ i <;> simp [hi] <;> omega)
  rw [List.map_id'] at this
  have ei : evi c_w_is_size (.sq (.idx (.var 0) (.int 1))) [.val (.tup [x, .tup cs, z]), v1, .no, v3] S = some (cs, S) := by simp [evi, ev, seqD]
  rw [e_w_is_size_2, ev, x_bnd, ei]
  show M.bnd (lcM _ _ _) _ S = _
  rw [x_bnd, this]
  rfl
theorem w_two {os : List D} {v0 v1 : Sl} {S : Sto} (h : Th (.tup os)) : ev c_w_is_size e_w_is_size_3 [v0, v1, .no, .val (.tup os)] S = some (.lst (os.filter fun c => !isN c), S) := by
  have := lcm_filter (S0 := S) (f := fun d : D => d) (h := fun d : D => d) (p := fun c => !isN c) (t := fun d => M.bnd (M.opt (asg (.nm 2) d (wipeE [v0, v1, .no, .val (.tup os)] [2]))) fun en2 => evc c_w_is_size (.s (.not (.call 0 (.c (.var 2) .n)))) en2)
    (el := fun d => M.bnd (M.opt (asg (.nm 2) d (wipeE [v0, v1, .no, .val (.tup os)] [2]))) fun en2 => ev c_w_is_size (.var 2) en2) os fun c hc => by
      have hcc : Th c := h.row hc
      have g1 := r_wnumber (S := S) hcc
      refine ⟨by simp [asg, wipeE, setV, evc, evt, ev, evs, c_w_is_size, g1], fun _ => by simp [asg, wipeE, setV]⟩
  rw [List.map_id', List.map_id'] at this
  have ei : evi c_w_is_size (.sq (.var 3)) [v0, v1, .no, .val (.tup os)] S = some (os, S) := by simp [evi, ev, seqD]
  rw [e_w_is_size_3, ev, x_bnd, ei]
  show M.bnd (lcM _ _ _) _ S = _
  rw [x_bnd, this]
  rfl
end liftedworlds_k63_sizes_by_kind

namespace liftedworlds_k63_sizes_by_kind
open PySem Cv Cv.Kp
/-! ### words, rows -/
def lets : List Nat := (Str.ofString "abcdefghijklmnopqrstuvwxyz").cps.toList
def sq1 (c : Nat) : Str := ⟨#[c]⟩
def wds : List Str := lets.flatMap fun a => lets.map fun b => sq1 a ++ sq1 b
theorem lets_len : lets.length = 26 := by decide
theorem wds_len : wds.length = 676 := by decide +kernel
theorem wds_two : wds.all (fun w => decide (w.length = 2) && w.cps.toList.all fun c => decide (c < 128)) = true := by decide +kernel
theorem let_line : (Str.ofString "abcdefghijklmnopqrstuvwxyz").length ≤ sizeLine := by rw [sizeLine_eq]; decide
theorem b_addS (a b : Str) : binD .add (.str a) (.str b) = if a.length + b.length ≤ sizeLine then some (.str (a ++ b)) else none := rfl
theorem s_to {α : Type} (f : α → D) (xs : List α) (k : Nat) : sliD (.lst (xs.map f)) none (some (k : Int)) = some (.lst ((xs.take k).map f)) := by
  show some (D.lst (cutD (xs.map f) none (some (k : Int)))) = _
  rw [cut_to _ (by omega), Int.toNat_natCast, List.map_take]
theorem wds_eq : (List.flatMap (fun a => List.map (fun b => D.str (({ cps := #[a] } : Str) ++ ({ cps := #[b] } : Str))) lets) lets) = wds.map D.str := by
  unfold wds
  rw [List.map_flatMap]
  simp [List.map_map, Function.comp_def, sq1]
theorem sum_map_const {α : Type} (n : Nat) (xs : List α) : (xs.map fun _ => n).sum = xs.length * n := by
  induction xs with
  | nil => simp
  | cons x xs ih => rw [List.map_cons, List.sum_cons, ih, List.length_cons, Nat.add_mul]; omega
theorem r_first_words {n : Nat} : m_first_words [.int n] = M.ret (.lst ((wds.take n).map .str)) := by
  have hs : sliD (.lst (wds.map D.str)) none (some (n : Int)) = some (.lst ((wds.take n).map .str)) := s_to _ _ _
  have hl : (Str.ofString "abcdefghijklmnopqrstuvwxyz").cps.toList = lets := rfl
  have h6 : 26 * 26 ≤ sizeLine := by rw [sizeLine_eq]; decide
  simp (config := { maxSteps := 400000 }) [z_rb, z_bb, z_br, z_os, z_on, z_nb, z_I, z_B, z_O, z_L, z_ib, z_oi, z_lcD, z_lcM, z_lcF, z_lcA, z_lcI, z_catD, z_catM, z_catA, z_catF, -List.map_take, -List.length_flatMap, line1, Cv.run, sts, st, ev, evt, evc, evs, evo, evi, startE, asgC, asg2C, asg3C, asg4C, z_ft, setV, slO, Function.comp_def, wipeE, seqD, m_first_words, N_first_words, b_first_words, e_first_words_1, g_LETTERS_sizes, b_addS, let_line, hl, sum_map_const, lets_len, wds_eq, hs]
  intro h7
  rw [wds_len] at h7
  exact absurd h7 (Nat.not_lt.mpr h6)
/-- grown by each -/
theorem fold_cat {α β γ : Type} (h : α → List β) (k : α → γ) : ∀ (xs : List α) (a : List β) (v : γ), (xs.foldl (fun s c => (s.1 ++ h c, k c)) (a, v)).1 = a ++ xs.flatMap h
  | [], a, v => by simp
  | x :: xs, a, v => by rw [List.foldl_cons, fold_cat h k xs]; simp
theorem flat_len {α β : Type} {h : α → List β} {n : Nat} : ∀ {xs : List α}, (∀ x ∈ xs, (h x).length ≤ n) → (xs.flatMap h).length ≤ xs.length * n
  | [], _ => by simp
  | x :: xs, hx => by
    have h1 := hx x List.mem_cons_self
    have h2 := flat_len (xs := xs) fun y hy => hx y (List.mem_cons_of_mem _ hy)
    rw [List.flatMap_cons, List.length_append, List.length_cons, Nat.add_mul]
    omega
theorem r_w_words {n : Nat} : m_w_words [.int n] = M.ret (.lst ((wds.take n).map .str)) := by
  have hs : sliD (.lst (wds.map D.str)) none (some (n : Int)) = some (.lst ((wds.take n).map .str)) := s_to _ _ _
  have hl : (Str.ofString "abcdefghijklmnopqrstuvwxyz").cps.toList = lets := rfl
  have fo := z_for (σ := List D × Sl) (fun s => [.val (.int n), .val (.str (Str.ofString "abcdefghijklmnopqrstuvwxyz")), .own (.ol s.1), s.2, .no])
    (fun s c => (s.1 ++ lets.map (fun b => D.str (sq1 c ++ sq1 b)), .val (.str (sq1 c)))) (f := fun c => D.str (sq1 c)) (a := fun d en1 => M.opt (asg (.nm 3) d en1)) (b := fun en1 => sts c_w_words b_w_words_2 en1) lets ([], .no) (fun l x r e => by
      have hz := fold_cat (fun c => lets.map (fun b => D.str (sq1 c ++ sq1 b))) (fun c => Sl.val (.str (sq1 c))) l [] Sl.no
      generalize List.foldl _ _ l = s at hz ⊢
      have h2 := flat_len (h := fun c => lets.map (fun b => D.str (sq1 c ++ sq1 b))) (n := 26) (xs := l) (by intro x _; simp [lets_len])
      rw [List.nil_append] at hz
      rw [← hz] at h2
      have h3 : l.length < 26 := by have := congrArg List.length e; rw [lets_len] at this; simp at this; omega
      have h4 : s.1.length + lets.length ≤ sizeLine := by rw [lets_len]; exact line_of (by omega)
      simp (config := { maxSteps := 400000 }) [z_rb, z_bb, z_br, z_os, z_on, z_nb, z_I, z_B, z_O, z_L, z_ib, z_oi, z_lcD, z_lcM, z_lcF, z_lcA, z_lcI, z_catD, z_catM, z_catA, z_catF, -List.map_take, -List.length_flatMap, line1, Cv.run, sts, st, ev, evt, evc, evs, evo, evi, startE, asgC, asg2C, asg3C, asg4C, z_ft, setV, slO, Function.comp_def, wipeE, seqD, b_w_words_2, e_w_words_1, hl, let_line, b_addS, extE, h4, sq1])
  have hz := fold_cat (fun c => lets.map (fun b => D.str (sq1 c ++ sq1 b))) (fun c => Sl.val (.str (sq1 c))) lets [] Sl.no
  generalize List.foldl _ _ lets = s at hz fo
  have hw : lets.flatMap (fun c => lets.map (fun b => D.str (sq1 c ++ sq1 b))) = wds.map D.str := wds_eq
  rw [List.nil_append, hw] at hz
  have hq : (fun c => D.str (sq1 c)) = fun c => D.str ⟨#[c]⟩ := rfl
  rw [hq] at fo
  simp (config := { maxSteps := 400000 }) [z_rb, z_bb, z_br, z_os, z_on, z_nb, z_I, z_B, z_O, z_L, z_ib, z_oi, z_lcD, z_lcM, z_lcF, z_lcA, z_lcI, z_catD, z_catM, z_catA, z_catF, -List.map_take, -List.length_flatMap, line1, Cv.run, sts, st, ev, evt, evc, evs, evo, evi, startE, asgC, asg2C, asg3C, asg4C, z_ft, setV, slO, Function.comp_def, wipeE, seqD, m_w_words, N_w_words, b_w_words, hl, let_line, fo, frzE, hz, hs]
end liftedworlds_k63_sizes_by_kind

namespace liftedworlds_k63_sizes_by_kind
open PySem Cv Cv.Kp
def nxt (rows : List (List Str)) (m : Nat) : List (List Str) := rows.flatMap fun ws => (wds.take m).map fun w => ws ++ [w]
def ro (cs : List Nat) : List (List Str) := cs.foldl nxt [[]]
def eW (ws : List Str) : D := .tup (ws.map .str)
def eN (n : Nat) : D := .int n
theorem fold_fst {α β γ : Type} (f : α → β → α) (k : β → γ) : ∀ (xs : List β) (a : α) (v : γ), (xs.foldl (fun s c => (f s.1 c, k c)) (a, v)).1 = xs.foldl f a
  | [], _, _ => rfl
  | x :: xs, a, v => by rw [List.foldl_cons, fold_fst f k xs]; rfl
theorem ro_ok : ∀ (cs : List Nat) (rows : List (List Str)) (n k : Nat), (∀ ws ∈ rows, ws.length = n) → rows.length ≤ 676 ^ k → (∀ ws ∈ cs.foldl nxt rows, ws.length = n + cs.length) ∧ (cs.foldl nxt rows).length ≤ 676 ^ (k + cs.length)
  | [], rows, n, k, h, h2 => ⟨h, h2⟩
  | m :: cs, rows, n, k, h, h2 => by
    have q := ro_ok cs (nxt rows m) (n + 1) (k + 1) (fun ws hw => by
      obtain ⟨u, hu, hw⟩ := List.mem_flatMap.mp hw
      obtain ⟨w, _, rfl⟩ := List.mem_map.mp hw
      rw [List.length_append, h u hu]
      rfl) (by
      have := flat_len (h := fun ws : List Str => (wds.take m).map fun w => ws ++ [w]) (n := 676) (xs := rows) fun ws _ => by
        rw [List.length_map, List.length_take, wds_len]; omega
      rw [Nat.pow_succ]
      exact Nat.le_trans this (Nat.mul_le_mul_right _ h2))
    rw [List.foldl_cons, List.length_cons, show n + (cs.length + 1) = n + 1 + cs.length by omega, show k + (cs.length + 1) = k + 1 + cs.length by omega]
    exact q
theorem nxt_eq (rows : List (List Str)) (m : Nat) : (rows.flatMap fun ws => (wds.take m).map fun w => D.tup (ws.map D.str ++ [D.str w])) = (nxt rows m).map eW := by
  unfold nxt
  rw [List.map_flatMap]
  simp [eW, Function.comp_def]
theorem ro_small {l : List Nat} (h : l.length ≤ 2) : (∀ ws ∈ ro l, ws.length ≤ 2) ∧ (ro l).length ≤ 456976 := by
  obtain ⟨a, b⟩ := ro_ok l [[]] 0 0 (fun ws hw => by simp at hw; rw [hw]; rfl) (Nat.le_refl _)
  refine ⟨fun ws hw => by have := a ws hw; omega, Nat.le_trans b ?_⟩
  rw [Nat.zero_add]
  exact Nat.pow_le_pow_right (by decide) h
theorem pre_len {α : Type} {cs l r : List α} {x : α} (e : cs = l ++ x :: r) : l.length + 1 ≤ cs.length := by rw [e, List.length_append, List.length_cons]; omega
theorem r_even_rows {cs : List Nat} (hc : cs.length ≤ 2) : m_even_rows [.tup (cs.map eN)] = M.ret (.lst ((ro cs).map eW)) := by
  have fo := z_for (σ := List (List Str) × Sl) (fun s => [.val (.tup (cs.map eN)), .val (.lst (s.1.map eW)), s.2, .no, .no]) (fun s m => (nxt s.1 m, .val (eN m))) (f := eN)
    (a := fun d en1 => M.opt (asg (.nm 2) d en1)) (b := fun en1 => sts c_even_rows b_even_rows_2 en1) cs ([[]], .no) (fun l x r e => by
      have hz : (l.foldl (fun (s : List (List Str) × Sl) m => (nxt s.1 m, Sl.val (eN m))) ([[]], .no)).1 = ro l := fold_fst nxt (fun m => Sl.val (eN m)) l [[]] Sl.no
      generalize List.foldl _ _ l = s at hz ⊢
      have hl := pre_len e
      obtain ⟨q1, q2⟩ := ro_small (l := l) (by omega)
      rw [← hz] at q1 q2
      have q3 : ∀ ws ∈ s.1, ws.length + 1 ≤ sizeLine := fun ws hw => line_of (by have := q1 ws hw; omega)
      have q4 : (nxt s.1 x).length ≤ sizeLine := by
        have hr : nxt s.1 x = ro (l ++ [x]) := by unfold ro; rw [List.foldl_append, hz]; rfl
        obtain ⟨_, q6⟩ := ro_small (l := l ++ [x]) (by rw [List.length_append]; show l.length + 1 ≤ 2; omega)
        rw [hr]
        exact line_of (by omega)
      have q5 := nxt_eq s.1 x
      simp (config := { maxSteps := 400000 }) [z_rb, z_bb, z_br, z_os, z_on, z_nb, z_I, z_B, z_O, z_L, z_ib, z_oi, z_lcD, z_lcM, z_lcF, z_lcA, z_lcI, z_catD, z_catM, z_catA, z_catF, -List.map_take, -List.length_flatMap, line1, Cv.run, sts, st, ev, evt, evc, evs, evo, evi, startE, asgC, asg2C, asg3C, asg4C, z_ft, setV, slO, Function.comp_def, wipeE, seqD, b_even_rows_2, e_even_rows_1, eW, eN, r_first_words]
      rw [catT_all (fun ws => (wds.take x).map fun w => D.tup (ws.map D.str ++ [D.str w])) (fun _ _ => rfl) (fun ws hw => by simp (config := { maxSteps := 400000 }) [z_rb, z_bb, z_br, z_os, z_on, z_nb, z_ib, z_oi, z_lcM, z_lcF, z_lcA, z_lcI, z_catM, z_catA, z_catF, -List.map_take, -List.length_flatMap, z_ft, Function.comp_def, q3 ws hw]), q5]
      simp (config := { maxSteps := 400000 }) [z_rb, z_bb, z_br, z_os, z_on, z_nb, z_ib, z_oi, z_lcM, z_lcF, z_lcA, z_lcI, z_catM, z_catA, z_catF, -List.map_take, -List.length_flatMap, z_ft, Function.comp_def, q4])
  have hz : (cs.foldl (fun (s : List (List Str) × Sl) m => (nxt s.1 m, Sl.val (eN m))) ([[]], .no)).1 = ro cs := fold_fst nxt (fun m => Sl.val (eN m)) cs [[]] Sl.no
  generalize List.foldl _ _ cs = s at hz fo
  have fo : forM (fun d en1 => M.opt (asg (.nm 2) d en1)) (fun en1 => sts c_even_rows b_even_rows_2 en1) (cs.map eN) [.val (.tup (cs.map eN)), .val (.lst [.tup []]), .no, .no, .no] = _ := fo
  simp (config := { maxSteps := 400000 }) [z_rb, z_bb, z_br, z_os, z_on, z_nb, z_I, z_B, z_O, z_L, z_ib, z_oi, z_lcD, z_lcM, z_lcF, z_lcA, z_lcI, z_catD, z_catM, z_catA, z_catF, -List.map_take, -List.length_flatMap, line1, Cv.run, sts, st, ev, evt, evc, evs, evo, evi, startE, asgC, asg2C, asg3C, asg4C, z_ft, setV, slO, Function.comp_def, wipeE, seqD, m_even_rows, N_even_rows, b_even_rows, fo, hz]
/-- the table of a size -/
abbrev Size := Str × List Nat × (Int × Int)
def eS (z : Size) : D := .tup [.str z.1, .tup (z.2.1.map eN), fr z.2.2]
def eR (o : Int × Int) (ws : List Str) : D := .tup [eW ws, fr o]
def eT (z : Size) : D := .tup [.str z.1, .int z.2.1.length, .int z.2.1.length, .tup ((ro z.2.1).map (eR z.2.2))]
theorem r_even_base {zs : List Size} (hz : ∀ z ∈ zs, z.2.1.length ≤ 2) (hl : zs.length ≤ 100) : m_even_base [.tup (zs.map eS)] = M.ret (.tup (zs.map eT)) := by
  obtain ⟨en', fo, v2, v3, v4, rfl⟩ := z_forR (ps := zs) (f := eS) (a := fun d en1 => M.opt (asg (.tp3 (.nm 2) (.nm 3) (.nm 4)) d en1)) (b := fun en1 => sts c_even_base b_even_base_2 en1)
    (fun l en => ∃ v2 v3 v4, en = [.val (.tup (zs.map eS)), .own (.ol (l.map eT)), v2, v3, v4, .no]) (fun l x r en e ⟨v2, v3, v4, he⟩ => by
      subst he
      have h2 := pre_len e
      have h3 : l.length < sizeLine := by rw [sizeLine_eq]; omega
      have h4 := r_even_rows (hz x (by rw [e]; simp))
      refine ⟨_, ?_, .val (.str x.1), .val (.tup (x.2.1.map eN)), .val (fr x.2.2), rfl⟩
      simp (config := { maxSteps := 400000 }) [z_rb, z_bb, z_br, z_os, z_on, z_nb, z_I, z_B, z_O, z_L, z_ib, z_oi, z_lcD, z_lcM, z_lcF, z_lcA, z_lcI, z_catD, z_catM, z_catA, z_catF, -List.map_take, -List.length_flatMap, line1, Cv.run, sts, st, ev, evt, evc, evs, evo, evi, startE, asgC, asg2C, asg3C, asg4C, z_ft, setV, slO, Function.comp_def, wipeE, seqD, b_even_base_2, e_even_base_1, eS, h4, appE, h3, eT, Function.comp_def]
      rfl) zs [] [.val (.tup (zs.map eS)), .own (.ol []), .no, .no, .no, .no] rfl ⟨_, _, _, rfl⟩
  simp (config := { maxSteps := 400000 }) [z_rb, z_bb, z_br, z_os, z_on, z_nb, z_I, z_B, z_O, z_L, z_ib, z_oi, z_lcD, z_lcM, z_lcF, z_lcA, z_lcI, z_catD, z_catM, z_catA, z_catF, -List.map_take, -List.length_flatMap, line1, Cv.run, sts, st, ev, evt, evc, evs, evo, evi, startE, asgC, asg2C, asg3C, asg4C, z_ft, setV, slO, Function.comp_def, wipeE, seqD, m_even_base, N_even_base, b_even_base, fo, frzE]
theorem r_w_even_rows {cs : List Nat} {v0 v1 v2 v3 v4 v6 v7 v8 : Sl} (hc : cs.length ≤ 2) : ∃ w6 w7 w8, forM (fun d en1 => M.opt (asg (.nm 6) d en1)) (fun en1 => sts c_w_even b_w_even_3 en1) (cs.map eN)
      [v0, v1, v2, v3, v4, .val (.lst [.tup []]), v6, v7, v8, .no] = M.ret (.nx, [v0, v1, v2, v3, v4, .val (.lst ((ro cs).map eW)), w6, w7, w8, .no]) := by
  obtain ⟨en', fo, w6, w7, w8, rfl⟩ := z_forR (ps := cs) (f := eN) (a := fun d en1 => M.opt (asg (.nm 6) d en1)) (b := fun en1 => sts c_w_even b_w_even_3 en1)
    (fun l en => ∃ v6 v7 v8, en = [v0, v1, v2, v3, v4, .val (.lst ((ro l).map eW)), v6, v7, v8, .no]) (fun l x r en e ⟨v6, v7, v8, he⟩ => by
      subst he
      have hl := pre_len e
      obtain ⟨q1, q2⟩ := ro_small (l := l) (by omega)
      have q3 : ∀ ws ∈ ro l, ws.length + 1 ≤ sizeLine := fun ws hw => line_of (by have := q1 ws hw; omega)
      have hr : nxt (ro l) x = ro (l ++ [x]) := by unfold ro; rw [List.foldl_append]; rfl
      obtain ⟨_, q6⟩ := ro_small (l := l ++ [x]) (by rw [List.length_append]; show l.length + 1 ≤ 2; omega)
      rw [← hr] at q6
      obtain ⟨en2, fi, w8, rfl⟩ := z_forR (ps := ro l) (f := eW) (a := fun d en1 => M.opt (asg (.nm 8) d en1)) (b := fun en1 => sts c_w_even b_w_even_2 en1)
        (fun k en => ∃ v8, en = [v0, v1, v2, v3, v4, .val (.lst ((ro l).map eW)), .val (.int x), .own (.ol ((nxt k x).map eW)), v8, .no]) (fun k ws r2 en e2 ⟨v8, he⟩ => by
          subst he
          have k1 : (nxt k x).length + ((wds.take x).length) ≤ sizeLine := by
            have k2 : (nxt (k ++ [ws]) x).length ≤ (nxt (ro l) x).length := by
              rw [e2, show k ++ ws :: r2 = k ++ [ws] ++ r2 by simp]
              unfold nxt
              rw [List.flatMap_append (xs := k ++ [ws]), List.length_append (as := List.flatMap _ (k ++ [ws]))]
              omega
            unfold nxt at k2 ⊢
            rw [List.flatMap_append, List.length_append] at k2
            simp only [List.flatMap_cons, List.flatMap_nil, List.append_nil, List.length_map] at k2
            have := line_of (n := 456976) (by decide)
            unfold nxt at q6
            omega
          have k3 : ws.length + 1 ≤ sizeLine := q3 ws (by rw [e2]; simp)
          have k4 : (nxt (k ++ [ws]) x).map eW = (nxt k x).map eW ++ (wds.take x).map fun w => D.tup (ws.map D.str ++ [D.str w]) := by
            unfold nxt
            rw [List.flatMap_append, List.map_append]
            simp [eW, Function.comp_def]
          refine ⟨_, ?_, .val (eW ws), rfl⟩
          rw [k4]
          have k5 : (nxt k x).length + min x wds.length ≤ sizeLine := by rw [List.length_take] at k1; exact k1
          simp (config := { maxSteps := 400000 }) [z_rb, z_bb, z_br, z_os, z_on, z_nb, z_I, z_B, z_O, z_L, z_ib, z_oi, z_lcD, z_lcM, z_lcF, z_lcA, z_lcI, z_catD, z_catM, z_catA, z_catF, -List.map_take, -List.length_flatMap, line1, Cv.run, sts, st, ev, evt, evc, evs, evo, evi, startE, asgC, asg2C, asg3C, asg4C, z_ft, setV, slO, Function.comp_def, wipeE, seqD, b_w_even_2, e_w_even_1, r_w_words, eW, k3, extE, k5]) (ro l) [] [v0, v1, v2, v3, v4, .val (.lst ((ro l).map eW)), .val (.int x), .own (.ol []), v8, .no] rfl ⟨_, rfl⟩
      refine ⟨_, ?_, .val (eN x), .val (.lst ((nxt (ro l) x).map eW)), w8, rfl⟩
      rw [← hr]
      simp (config := { maxSteps := 400000 }) [z_rb, z_bb, z_br, z_os, z_on, z_nb, z_I, z_B, z_O, z_L, z_ib, z_oi, z_lcD, z_lcM, z_lcF, z_lcA, z_lcI, z_catD, z_catM, z_catA, z_catF, -List.map_take, -List.length_flatMap, line1, Cv.run, sts, st, ev, evt, evc, evs, evo, evi, startE, asgC, asg2C, asg3C, asg4C, z_ft, setV, slO, Function.comp_def, wipeE, seqD, b_w_even_3, eN, fi, frzE]) cs [] [v0, v1, v2, v3, v4, .val (.lst [.tup []]), v6, v7, v8, .no] rfl ⟨_, _, _, rfl⟩
  exact ⟨_, _, _, fo⟩
theorem r_w_even {zs : List Size} (hz : ∀ z ∈ zs, z.2.1.length ≤ 2) (hl : zs.length ≤ 100) : m_w_even [.tup (zs.map eS)] = M.ret (.tup (zs.map eT)) := by
  obtain ⟨en', fo, v2, v3, v4, v5, v6, v7, v8, rfl⟩ := z_forR (ps := zs) (f := eS) (a := fun d en1 => M.opt (asg (.tp3 (.nm 2) (.nm 3) (.nm 4)) d en1)) (b := fun en1 => sts c_w_even b_w_even_5 en1)
    (fun l en => ∃ v2 v3 v4 v5 v6 v7 v8, en = [.val (.tup (zs.map eS)), .own (.ol (l.map eT)), v2, v3, v4, v5, v6, v7, v8, .no]) (fun l x r en e ⟨v2, v3, v4, v5, v6, v7, v8, he⟩ => by
      subst he
      have h2 := pre_len e
      have h3 : l.length < sizeLine := by rw [sizeLine_eq]; omega
      obtain ⟨w6, w7, w8, fo⟩ := r_w_even_rows (cs := x.2.1) (v0 := .val (.tup (zs.map eS))) (v1 := .own (.ol (l.map eT))) (v2 := .val (.str x.1)) (v3 := .val (.tup (x.2.1.map eN))) (v4 := .val (fr x.2.2)) (v6 := v6) (v7 := v7) (v8 := v8) (hz x (by rw [e]; simp))
      refine ⟨_, ?_, .val (.str x.1), .val (.tup (x.2.1.map eN)), .val (fr x.2.2), .val (.lst ((ro x.2.1).map eW)), w6, w7, w8, rfl⟩
      simp (config := { maxSteps := 400000 }) [z_rb, z_bb, z_br, z_os, z_on, z_nb, z_I, z_B, z_O, z_L, z_ib, z_oi, z_lcD, z_lcM, z_lcF, z_lcA, z_lcI, z_catD, z_catM, z_catA, z_catF, -List.map_take, -List.length_flatMap, line1, Cv.run, sts, st, ev, evt, evc, evs, evo, evi, startE, asgC, asg2C, asg3C, asg4C, z_ft, setV, slO, Function.comp_def, wipeE, seqD, b_w_even_5, e_w_even_4, eS, fo, appE, h3, eT]
      rfl) zs [] [.val (.tup (zs.map eS)), .own (.ol []), .no, .no, .no, .no, .no, .no, .no, .no] rfl ⟨_, _, _, _, _, _, _, rfl⟩
  simp (config := { maxSteps := 400000 }) [z_rb, z_bb, z_br, z_os, z_on, z_nb, z_I, z_B, z_O, z_L, z_ib, z_oi, z_lcD, z_lcM, z_lcF, z_lcA, z_lcI, z_catD, z_catM, z_catA, z_catF, -List.map_take, -List.length_flatMap, line1, Cv.run, sts, st, ev, evt, evc, evs, evo, evi, startE, asgC, asg2C, asg3C, asg4C, z_ft, setV, slO, Function.comp_def, wipeE, seqD, m_w_even, N_w_even, b_w_even, fo, frzE]
end liftedworlds_k63_sizes_by_kind

namespace liftedworlds_k63_sizes_by_kind
open PySem Cv Cv.Kp
theorem z_up {α : Type} {m : M α} {a : α} (h : ∀ S, m S = some (a, S)) : m = M.ret a := funext h
theorem isi_not {d : D} (hw : d.ws (2 ^ 300) = true) (h : ¬ ∃ xs, d = .tup xs) : isiD d "tuple" = some false := by
  cases d <;> first | (cases hw; done) | rfl | exact absurd ⟨_, rfl⟩ h
theorem isi_notS {d : D} (hw : d.ws (2 ^ 300) = true) (h : ¬ ∃ xs, d = .str xs) : isiD d "str" = some false := by
  cases d <;> first | (cases hw; done) | rfl | exact absurd ⟨_, rfl⟩ h
def oZ (z : D) : Bool := isC z && notZ z
theorem oZ_int (a b : Int) : oZ (.tup [.int a, .int b]) = (decide (0 < a) && (decide (a ≤ b) && (Nat.gcd a.natAbs b.natAbs == 1))) := by
  have e1 : isC (.tup [.int a, .int b]) = ((decide (1 ≤ b) && (Nat.gcd a.natAbs b.natAbs == 1)) && (decide (0 ≤ a) && decide (a ≤ b))) := rfl
  unfold oZ
  rw [e1]
  by_cases h0 : 0 < a
  · have n : notZ (.tup [.int a, .int b]) = true := by
      unfold notZ
      split
      · rename_i q; cases q; omega
      · rfl
    rw [n]
    by_cases h1 : a ≤ b
    · simp [h0, h1, show 1 ≤ b by omega, show 0 ≤ a by omega]
    · simp [h1]
  · by_cases h1 : a = 0
    · subst h1
      by_cases h2 : b = 1
      · subst h2; rfl
      · have : ¬ (Nat.gcd (0 : Int).natAbs b.natAbs = 1 ∧ 1 ≤ b) := by simp; omega
        by_cases h3 : 1 ≤ b
        · have h4 : ¬ (Nat.gcd (0 : Int).natAbs b.natAbs = 1) := fun q => this ⟨q, h3⟩
          simp [h4]
          intro q1 q2
          omega
        · simp [h3]
    · simp [h0, show ¬ 0 ≤ a by omega]
theorem isS_three (x y z : D) : isS (.tup [x, y, z]) = match y with
    | .tup cs => isW x && (!cs.isEmpty && (cs.all isK && oZ z))
    | _ => false := by
  cases y <;> rfl
theorem oZ_cases (z : D) (hw : z.ws (2 ^ 300) = true) : (∃ a b, z = .tup [.int a, .int b]) ∨ (oZ z = false ∧ (isiD z "tuple" = some false ∨ ∃ os, z = .tup os ∧ (os.length ≠ 2 ∨ (os.filter fun c => !isN c).isEmpty = false))) := by
  by_cases ht : ∃ os, z = .tup os
  · obtain ⟨os, rfl⟩ := ht
    by_cases hl : os.length = 2
    · obtain ⟨x, y, rfl⟩ := len2 hl
      by_cases hn : ∃ a b, x = .int a ∧ y = .int b
      · obtain ⟨a, b, rfl, rfl⟩ := hn
        exact .inl ⟨a, b, rfl⟩
      · refine .inr ⟨?_, .inr ⟨_, rfl, .inr ?_⟩⟩
        · have : isF (.tup [x, y]) = false := by
            unfold isF
            split
            · rename_i q; cases q; exact absurd ⟨_, _, rfl, rfl⟩ hn
            · rfl
          simp [oZ, isC, this]
        · rw [filt_emp]
          have hx : ¬ (isN x = true ∧ isN y = true) := fun ⟨q1, q2⟩ => hn (by
            cases x <;> first | (cases q1; done) | skip
            cases y <;> first | (cases q2; done) | skip
            exact ⟨_, _, rfl, rfl⟩)
          simp [List.all]
          intro q
          simpa [q] using hx
    · refine .inr ⟨?_, .inr ⟨_, rfl, .inl hl⟩⟩
      simp [oZ, isC, isF_len hl]
  · refine .inr ⟨?_, .inl (isi_not hw ht)⟩
    have : isF z = false := by
      unfold isF
      split
      · exact absurd ⟨_, rfl⟩ ht
      · rfl
    simp [oZ, isC, this]
theorem r_wsize {d : D} (h : Th d) : m_w_is_size [d] = M.ret (.bl (isS d)) := by
  have hw := h.ws
  by_cases hd : ∃ xs, d = .tup xs
  · obtain ⟨xs, rfl⟩ := hd
    by_cases hl : xs.length = 3
    · obtain ⟨x, y, z, rfl⟩ := tri hl
      have hx : Th x := h.row (by simp)
      have hy : Th y := h.row (by simp)
      have hz : Th z := h.row (by simp)
      by_cases hs : ∃ s, x = .str s
      · obtain ⟨s, rfl⟩ := hs
        have hsl := len_line hx
        have e1 : ∀ v2 v3, ev c_w_is_size e_w_is_size_1 [.val (.tup [.str s, y, z]), .no, v2, v3] = _ := fun v2 v3 => z_up fun S => w_signs (v1 := .no) (v2 := v2) (v3 := v3) (S := S) hx
        have n1 := emp_ne (signs hx fun c => !inL c)
        rw [List.isEmpty_map, filter_emp] at n1
        have fl := f_lenS hsl
        have ew : isW (.str s) = (decide (1 ≤ s.length) && decide (s.length ≤ 8) && s.cps.toList.all inL) := rfl
        generalize hb1 : s.cps.toList.all inL = b1 at n1 ew
        by_cases hc : ∃ cs, y = .tup cs
        · obtain ⟨cs, rfl⟩ := hc
          have ee := empT_eq (pp hy)
          have e2 : ∀ v1 v3, ev c_w_is_size e_w_is_size_2 [.val (.tup [.str s, .tup cs, z]), v1, .no, v3] = _ := fun v1 v3 => z_up fun S => w_counts (v1 := v1) (v3 := v3) (S := S) hy
          have n2 : cmpD .ne (.lst ((cs.filter fun c => !isK c).map fun _ => D.int 1)) (.lst []) = some (!(cs.all isK)) := by
            have := emp_ne (ds := (cs.filter fun c => !isK c).map fun _ => D.int 1) (by
              have : ∀ l : List D, shp (.lst (l.map fun _ => D.int 1)) = true := by
                intro l
                have g : Gs (2 ^ 300) (l.length * 2) 1 (l.map fun _ => D.int 1) := ⟨wss_all.mpr (fun x hx => by obtain ⟨_, _, rfl⟩ := List.mem_map.mp hx; decide), bulk_map (n := 1) (fun _ _ => by decide), dep_map fun _ _ => by decide⟩
                exact g.lst.shp (by decide) (by decide)
              exact this _)
            rw [this, List.isEmpty_map, filt_emp]
          rw [isS_three]
          simp only []
          generalize hb2 : cs.isEmpty = b2 at ee
          generalize hb3 : cs.all isK = b3 at n2
          rcases oZ_cases z hz.ws with ⟨a, b, rfl⟩ | ⟨q, hq⟩
          · rw [oZ_int, ew]
            have e3 : ∀ v0 v1, ev c_w_is_size e_w_is_size_3 [v0, v1, .no, .val (.tup [.int a, .int b])] = _ := fun v0 v1 => z_up fun S => w_two (v0 := v0) (v1 := v1) (S := S) hz
            have e3 : ∀ v0 v1, ev c_w_is_size e_w_is_size_3 [v0, v1, .no, .val (.tup [.int a, .int b])] = M.ret (.lst []) := e3
            have n3 : cmpD .ne (.lst []) (.lst []) = some false := rfl
            by_cases hlen : 1 ≤ s.length ∧ s.length ≤ 8
            · obtain ⟨l1, l2⟩ := hlen
              have l1' : (1 : Int) ≤ s.length := by omega
              have l2' : (s.length : Int) ≤ 8 := by omega
              cases b1
              · funext S; simp (config := { maxSteps := 400000 }) [z_rb, z_bb, z_br, z_os, z_on, z_nb, z_I, z_B, z_O, z_L, z_ib, z_oi, z_lcD, z_lcM, z_lcF, z_lcA, z_lcI, z_catD, z_catM, z_catA, z_catF, -List.map_take, -List.length_flatMap, line1, Cv.run, sts, st, ev, evt, evc, evs, evo, evi, startE, asgC, asg2C, asg3C, asg4C, z_ft, setV, slO, Function.comp_def, wipeE, seqD, m_w_is_size, N_w_is_size, b_w_is_size, fl, l1', l2', e1, n1]
              · cases b2
                · cases b3
                  · funext S; simp (config := { maxSteps := 400000 }) [z_rb, z_bb, z_br, z_os, z_on, z_nb, z_I, z_B, z_O, z_L, z_ib, z_oi, z_lcD, z_lcM, z_lcF, z_lcA, z_lcI, z_catD, z_catM, z_catA, z_catF, -List.map_take, -List.length_flatMap, line1, Cv.run, sts, st, ev, evt, evc, evs, evo, evi, startE, asgC, asg2C, asg3C, asg4C, z_ft, setV, slO, Function.comp_def, wipeE, seqD, m_w_is_size, N_w_is_size, b_w_is_size, fl, l1', l2', e1, n1, ee, e2, n2]
                  · by_cases hab : 0 < a ∧ a ≤ b
                    · obtain ⟨c1, c2⟩ := hab
                      have ia : (D.int a).ws (2 ^ 300) = true := (hz.row (x := .int a) (by simp)).ws
                      have ib : (D.int b).ws (2 ^ 300) = true := (hz.row (x := .int b) (by simp)).ws
                      have ia : a.natAbs ≤ 2 ^ 300 := of_decide_eq_true ia
                      have ib : b.natAbs ≤ 2 ^ 300 := of_decide_eq_true ib
                      have ec : m_w_cut [.int a, .int b] = M.ret (fr (lw a b)) := z_up fun S => r_cut (by omega) (Nat.lt_of_le_of_lt ia (by decide)) (Nat.lt_of_le_of_lt ib (by decide))
                      have el := lw_self (a := a) (b := b) (by omega)
                      funext S; simp (config := { maxSteps := 400000 }) [z_rb, z_bb, z_br, z_os, z_on, z_nb, z_I, z_B, z_O, z_L, z_ib, z_oi, z_lcD, z_lcM, z_lcF, z_lcA, z_lcI, z_catD, z_catM, z_catA, z_catF, -List.map_take, -List.length_flatMap, line1, Cv.run, sts, st, ev, evt, evc, evs, evo, evi, startE, asgC, asg2C, asg3C, asg4C, z_ft, setV, slO, Function.comp_def, wipeE, seqD, m_w_is_size, N_w_is_size, b_w_is_size, fl, l1', l2', e1, n1, ee, e2, n2, e3, n3, c1, c2, ec, el, l1, l2]
                    · have : (decide (0 < a) && (decide (a ≤ b) && (Nat.gcd a.natAbs b.natAbs == 1))) = false := by
                        by_cases c1 : 0 < a
                        · have c2 : ¬ a ≤ b := fun q => hab ⟨c1, q⟩
                          simp [c2]
                        · simp [c1]
                      rw [this]
                      by_cases c1 : 0 < a
                      · have c2 : ¬ a ≤ b := fun q => hab ⟨c1, q⟩
                        funext S; simp (config := { maxSteps := 400000 }) [z_rb, z_bb, z_br, z_os, z_on, z_nb, z_I, z_B, z_O, z_L, z_ib, z_oi, z_lcD, z_lcM, z_lcF, z_lcA, z_lcI, z_catD, z_catM, z_catA, z_catF, -List.map_take, -List.length_flatMap, line1, Cv.run, sts, st, ev, evt, evc, evs, evo, evi, startE, asgC, asg2C, asg3C, asg4C, z_ft, setV, slO, Function.comp_def, wipeE, seqD, m_w_is_size, N_w_is_size, b_w_is_size, fl, l1', l2', e1, n1, ee, e2, n2, e3, n3, c1, c2]
                      · funext S; simp (config := { maxSteps := 400000 }) [z_rb, z_bb, z_br, z_os, z_on, z_nb, z_I, z_B, z_O, z_L, z_ib, z_oi, z_lcD, z_lcM, z_lcF, z_lcA, z_lcI, z_catD, z_catM, z_catA, z_catF, -List.map_take, -List.length_flatMap, line1, Cv.run, sts, st, ev, evt, evc, evs, evo, evi, startE, asgC, asg2C, asg3C, asg4C, z_ft, setV, slO, Function.comp_def, wipeE, seqD, m_w_is_size, N_w_is_size, b_w_is_size, fl, l1', l2', e1, n1, ee, e2, n2, e3, n3, c1]
                · funext S; simp (config := { maxSteps := 400000 }) [z_rb, z_bb, z_br, z_os, z_on, z_nb, z_I, z_B, z_O, z_L, z_ib, z_oi, z_lcD, z_lcM, z_lcF, z_lcA, z_lcI, z_catD, z_catM, z_catA, z_catF, -List.map_take, -List.length_flatMap, line1, Cv.run, sts, st, ev, evt, evc, evs, evo, evi, startE, asgC, asg2C, asg3C, asg4C, z_ft, setV, slO, Function.comp_def, wipeE, seqD, m_w_is_size, N_w_is_size, b_w_is_size, fl, l1', l2', e1, n1, ee]
            · by_cases l1 : 1 ≤ s.length
              · have l2 : ¬ s.length ≤ 8 := fun q => hlen ⟨l1, q⟩
                have l1' : (1 : Int) ≤ s.length := by omega
                have l2' : ¬ (s.length : Int) ≤ 8 := by omega
                funext S; simp (config := { maxSteps := 400000 }) [z_rb, z_bb, z_br, z_os, z_on, z_nb, z_I, z_B, z_O, z_L, z_ib, z_oi, z_lcD, z_lcM, z_lcF, z_lcA, z_lcI, z_catD, z_catM, z_catA, z_catF, -List.map_take, -List.length_flatMap, line1, Cv.run, sts, st, ev, evt, evc, evs, evo, evi, startE, asgC, asg2C, asg3C, asg4C, z_ft, setV, slO, Function.comp_def, wipeE, seqD, m_w_is_size, N_w_is_size, b_w_is_size, fl, l1', l2', l1, l2]
              · have l1' : ¬ (1 : Int) ≤ s.length := by omega
                funext S; simp (config := { maxSteps := 400000 }) [z_rb, z_bb, z_br, z_os, z_on, z_nb, z_I, z_B, z_O, z_L, z_ib, z_oi, z_lcD, z_lcM, z_lcF, z_lcA, z_lcI, z_catD, z_catM, z_catA, z_catF, -List.map_take, -List.length_flatMap, line1, Cv.run, sts, st, ev, evt, evc, evs, evo, evi, startE, asgC, asg2C, asg3C, asg4C, z_ft, setV, slO, Function.comp_def, wipeE, seqD, m_w_is_size, N_w_is_size, b_w_is_size, fl, l1', l1]
          · rw [q]
            have el : (decide (1 ≤ s.length) && decide (s.length ≤ 8)) = true ∨ ((decide (1 ≤ (s.length : Int)) && decide ((s.length : Int) ≤ 8)) = false) := by
              by_cases l1 : 1 ≤ s.length <;> by_cases l2 : s.length ≤ 8 <;> simp [l1, l2] <;> omega
            simp only [Bool.and_false]
            by_cases l1 : (1 : Int) ≤ s.length
            · by_cases l2 : (s.length : Int) ≤ 8
              · cases b1
                · funext S; simp (config := { maxSteps := 400000 }) [z_rb, z_bb, z_br, z_os, z_on, z_nb, z_I, z_B, z_O, z_L, z_ib, z_oi, z_lcD, z_lcM, z_lcF, z_lcA, z_lcI, z_catD, z_catM, z_catA, z_catF, -List.map_take, -List.length_flatMap, line1, Cv.run, sts, st, ev, evt, evc, evs, evo, evi, startE, asgC, asg2C, asg3C, asg4C, z_ft, setV, slO, Function.comp_def, wipeE, seqD, m_w_is_size, N_w_is_size, b_w_is_size, fl, l1, l2, e1, n1]
                · cases b2
                  · cases b3
                    · funext S; simp (config := { maxSteps := 400000 }) [z_rb, z_bb, z_br, z_os, z_on, z_nb, z_I, z_B, z_O, z_L, z_ib, z_oi, z_lcD, z_lcM, z_lcF, z_lcA, z_lcI, z_catD, z_catM, z_catA, z_catF, -List.map_take, -List.length_flatMap, line1, Cv.run, sts, st, ev, evt, evc, evs, evo, evi, startE, asgC, asg2C, asg3C, asg4C, z_ft, setV, slO, Function.comp_def, wipeE, seqD, m_w_is_size, N_w_is_size, b_w_is_size, fl, l1, l2, e1, n1, ee, e2, n2]
                    · rcases hq with hq | ⟨os, rfl, hq⟩
                      · funext S; simp (config := { maxSteps := 400000 }) [z_rb, z_bb, z_br, z_os, z_on, z_nb, z_I, z_B, z_O, z_L, z_ib, z_oi, z_lcD, z_lcM, z_lcF, z_lcA, z_lcI, z_catD, z_catM, z_catA, z_catF, -List.map_take, -List.length_flatMap, line1, Cv.run, sts, st, ev, evt, evc, evs, evo, evi, startE, asgC, asg2C, asg3C, asg4C, z_ft, setV, slO, Function.comp_def, wipeE, seqD, m_w_is_size, N_w_is_size, b_w_is_size, fl, l1, l2, e1, n1, ee, e2, n2, hq]
                      · by_cases ho : os.length = 2
                        · have hq : (os.filter fun c => !isN c).isEmpty = false := by
                            rcases hq with z | z
                            · exact absurd ho z
                            · exact z
                          have e3 : ∀ v0 v1, ev c_w_is_size e_w_is_size_3 [v0, v1, .no, .val (.tup os)] = _ := fun v0 v1 => z_up fun S => w_two (v0 := v0) (v1 := v1) (S := S) hz
                          have n3 := emp_ne (hz.filt fun c => !isN c)
                          rw [hq] at n3
                          generalize (os.filter fun c => !isN c) = fs at e3 n3
                          funext S; simp (config := { maxSteps := 400000 }) [z_rb, z_bb, z_br, z_os, z_on, z_nb, z_I, z_B, z_O, z_L, z_ib, z_oi, z_lcD, z_lcM, z_lcF, z_lcA, z_lcI, z_catD, z_catM, z_catA, z_catF, -List.map_take, -List.length_flatMap, line1, Cv.run, sts, st, ev, evt, evc, evs, evo, evi, startE, asgC, asg2C, asg3C, asg4C, z_ft, setV, slO, Function.comp_def, wipeE, seqD, m_w_is_size, N_w_is_size, b_w_is_size, fl, l1, l2, e1, n1, ee, e2, n2, ho, e3, n3]
                        · have ho' : ¬ ((os.length : Int) = 2) := by omega
                          funext S; simp (config := { maxSteps := 400000 }) [z_rb, z_bb, z_br, z_os, z_on, z_nb, z_I, z_B, z_O, z_L, z_ib, z_oi, z_lcD, z_lcM, z_lcF, z_lcA, z_lcI, z_catD, z_catM, z_catA, z_catF, -List.map_take, -List.length_flatMap, line1, Cv.run, sts, st, ev, evt, evc, evs, evo, evi, startE, asgC, asg2C, asg3C, asg4C, z_ft, setV, slO, Function.comp_def, wipeE, seqD, m_w_is_size, N_w_is_size, b_w_is_size, fl, l1, l2, e1, n1, ee, e2, n2, ho']
                  · funext S; simp (config := { maxSteps := 400000 }) [z_rb, z_bb, z_br, z_os, z_on, z_nb, z_I, z_B, z_O, z_L, z_ib, z_oi, z_lcD, z_lcM, z_lcF, z_lcA, z_lcI, z_catD, z_catM, z_catA, z_catF, -List.map_take, -List.length_flatMap, line1, Cv.run, sts, st, ev, evt, evc, evs, evo, evi, startE, asgC, asg2C, asg3C, asg4C, z_ft, setV, slO, Function.comp_def, wipeE, seqD, m_w_is_size, N_w_is_size, b_w_is_size, fl, l1, l2, e1, n1, ee]
              · funext S; simp (config := { maxSteps := 400000 }) [z_rb, z_bb, z_br, z_os, z_on, z_nb, z_I, z_B, z_O, z_L, z_ib, z_oi, z_lcD, z_lcM, z_lcF, z_lcA, z_lcI, z_catD, z_catM, z_catA, z_catF, -List.map_take, -List.length_flatMap, line1, Cv.run, sts, st, ev, evt, evc, evs, evo, evi, startE, asgC, asg2C, asg3C, asg4C, z_ft, setV, slO, Function.comp_def, wipeE, seqD, m_w_is_size, N_w_is_size, b_w_is_size, fl, l1, l2]
            · funext S; simp (config := { maxSteps := 400000 }) [z_rb, z_bb, z_br, z_os, z_on, z_nb, z_I, z_B, z_O, z_L, z_ib, z_oi, z_lcD, z_lcM, z_lcF, z_lcA, z_lcI, z_catD, z_catM, z_catA, z_catF, -List.map_take, -List.length_flatMap, line1, Cv.run, sts, st, ev, evt, evc, evs, evo, evi, startE, asgC, asg2C, asg3C, asg4C, z_ft, setV, slO, Function.comp_def, wipeE, seqD, m_w_is_size, N_w_is_size, b_w_is_size, fl, l1]
        · have hi := isi_not hy.ws hc
          have e : isS (.tup [.str s, y, z]) = false := by
            rw [isS_three]
            split
            · exact absurd ⟨_, rfl⟩ hc
            · rfl
          rw [e]
          by_cases l1 : (1 : Int) ≤ s.length
          · by_cases l2 : (s.length : Int) ≤ 8
            · cases b1
              · funext S; simp (config := { maxSteps := 400000 }) [z_rb, z_bb, z_br, z_os, z_on, z_nb, z_I, z_B, z_O, z_L, z_ib, z_oi, z_lcD, z_lcM, z_lcF, z_lcA, z_lcI, z_catD, z_catM, z_catA, z_catF, -List.map_take, -List.length_flatMap, line1, Cv.run, sts, st, ev, evt, evc, evs, evo, evi, startE, asgC, asg2C, asg3C, asg4C, z_ft, setV, slO, Function.comp_def, wipeE, seqD, m_w_is_size, N_w_is_size, b_w_is_size, fl, l1, l2, e1, n1]
              · funext S; simp (config := { maxSteps := 400000 }) [z_rb, z_bb, z_br, z_os, z_on, z_nb, z_I, z_B, z_O, z_L, z_ib, z_oi, z_lcD, z_lcM, z_lcF, z_lcA, z_lcI, z_catD, z_catM, z_catA, z_catF, -List.map_take, -List.length_flatMap, line1, Cv.run, sts, st, ev, evt, evc, evs, evo, evi, startE, asgC, asg2C, asg3C, asg4C, z_ft, setV, slO, Function.comp_def, wipeE, seqD, m_w_is_size, N_w_is_size, b_w_is_size, fl, l1, l2, e1, n1, hi]
            · funext S; simp (config := { maxSteps := 400000 }) [z_rb, z_bb, z_br, z_os, z_on, z_nb, z_I, z_B, z_O, z_L, z_ib, z_oi, z_lcD, z_lcM, z_lcF, z_lcA, z_lcI, z_catD, z_catM, z_catA, z_catF, -List.map_take, -List.length_flatMap, line1, Cv.run, sts, st, ev, evt, evc, evs, evo, evi, startE, asgC, asg2C, asg3C, asg4C, z_ft, setV, slO, Function.comp_def, wipeE, seqD, m_w_is_size, N_w_is_size, b_w_is_size, fl, l1, l2]
          · funext S; simp (config := { maxSteps := 400000 }) [z_rb, z_bb, z_br, z_os, z_on, z_nb, z_I, z_B, z_O, z_L, z_ib, z_oi, z_lcD, z_lcM, z_lcF, z_lcA, z_lcI, z_catD, z_catM, z_catA, z_catF, -List.map_take, -List.length_flatMap, line1, Cv.run, sts, st, ev, evt, evc, evs, evo, evi, startE, asgC, asg2C, asg3C, asg4C, z_ft, setV, slO, Function.comp_def, wipeE, seqD, m_w_is_size, N_w_is_size, b_w_is_size, fl, l1]
      · have hi := isi_notS hx.ws hs
        have e : isS (.tup [x, y, z]) = false := by
          rw [isS_three]
          have : isW x = false := by
            unfold isW
            split
            · exact absurd ⟨_, rfl⟩ hs
            · rfl
          rw [this]
          split <;> rfl
        rw [e]
        funext S; simp (config := { maxSteps := 400000 }) [z_rb, z_bb, z_br, z_os, z_on, z_nb, z_I, z_B, z_O, z_L, z_ib, z_oi, z_lcD, z_lcM, z_lcF, z_lcA, z_lcI, z_catD, z_catM, z_catA, z_catF, -List.map_take, -List.length_flatMap, line1, Cv.run, sts, st, ev, evt, evc, evs, evo, evi, startE, asgC, asg2C, asg3C, asg4C, z_ft, setV, slO, Function.comp_def, wipeE, seqD, m_w_is_size, N_w_is_size, b_w_is_size, hi]
    · have hl2 : ¬ ((xs.length : Int) = 3) := by omega
      rw [sz_len hl]
      funext S; simp (config := { maxSteps := 400000 }) [z_rb, z_bb, z_br, z_os, z_on, z_nb, z_I, z_B, z_O, z_L, z_ib, z_oi, z_lcD, z_lcM, z_lcF, z_lcA, z_lcI, z_catD, z_catM, z_catA, z_catF, -List.map_take, -List.length_flatMap, line1, Cv.run, sts, st, ev, evt, evc, evs, evo, evi, startE, asgC, asg2C, asg3C, asg4C, z_ft, setV, slO, Function.comp_def, wipeE, seqD, m_w_is_size, N_w_is_size, b_w_is_size, hl2]
  · have hi := isi_not hw hd
    have e : isS d = false := by
      unfold isS
      split
      · exact absurd ⟨_, rfl⟩ hd
      · rfl
    rw [e]
    funext S; simp (config := { maxSteps := 400000 }) [z_rb, z_bb, z_br, z_os, z_on, z_nb, z_I, z_B, z_O, z_L, z_ib, z_oi, z_lcD, z_lcM, z_lcF, z_lcA, z_lcI, z_catD, z_catM, z_catA, z_catF, -List.map_take, -List.length_flatMap, line1, Cv.run, sts, st, ev, evt, evc, evs, evo, evi, startE, asgC, asg2C, asg3C, asg4C, z_ft, setV, slO, Function.comp_def, wipeE, seqD, m_w_is_size, N_w_is_size, b_w_is_size, hi]
/-! ### sizes -/
def nmS : D → Str
  | .tup (.str n :: _) => n
  | _ => ⟨#[]⟩
theorem isS_shape {d : D} (h : isS d = true) : ∃ n y z, d = .tup [.str n, y, z] ∧ nmS d = n := by
  unfold isS at h
  split at h
  · rename_i n cs o
    have hn : isW n = true := (Bool.and_eq_true_iff.mp h).1
    unfold isW at hn
    split at hn
    · exact ⟨_, _, _, rfl, rfl⟩
    · cases hn
  · cases h
def rise : List Str → Bool
  | a :: b :: r => decide (a.cps.toList < b.cps.toList) && rise (b :: r)
  | _ => true
def isSs : D → Bool
  | .tup xs => xs.all isS && rise (xs.map nmS)
  | _ => false
end liftedworlds_k63_sizes_by_kind

namespace liftedworlds_k63_sizes_by_kind
open PySem Cv Cv.Kp
theorem zipD_zip : ∀ (xs ys : List D), zipD xs ys = (xs.zip ys).map fun p => D.tup [p.1, p.2]
  | [], _ => by simp [zipD]
  | _ :: _, [] => by simp [zipD]
  | x :: xs, y :: ys => by
    show D.tup [x, y] :: zipD xs ys = _
    rw [zipD_zip xs ys]
    rfl
theorem s_tail (xs : List D) : sliD (.tup xs) (some 1) none = some (.tup (xs.drop 1)) := by
  show some (D.tup (cutD xs (some 1) none)) = _
  rw [cut_from _ (by decide)]
  rfl
theorem rise_zip : ∀ xs : List D, ((xs.zip (xs.drop 1)).all fun p => decide ((nmS p.1).cps.toList < (nmS p.2).cps.toList)) = rise (xs.map nmS)
  | [] => rfl
  | [_] => rfl
  | x :: y :: r => by
    have ih := rise_zip (y :: r)
    show (decide ((nmS x).cps.toList < (nmS y).cps.toList) && ((y :: r).zip r).all fun p => decide ((nmS p.1).cps.toList < (nmS p.2).cps.toList)) = (decide ((nmS x).cps.toList < (nmS y).cps.toList) && rise ((y :: r).map nmS))
    rw [← ih]
    rfl
def gt (xs : List D) (k : Nat) : D := xs.getD k .non
theorem rise_range : ∀ xs : List D, ((List.range (xs.length - 1)).all fun k => decide ((nmS (gt xs k)).cps.toList < (nmS (gt xs (k + 1))).cps.toList)) = rise (xs.map nmS)
  | [] => rfl
  | [_] => rfl
  | x :: y :: r => by
    have ih := rise_range (y :: r)
    show _ = (decide ((nmS x).cps.toList < (nmS y).cps.toList) && rise ((y :: r).map nmS))
    rw [← ih, show (x :: y :: r).length - 1 = (y :: r).length - 1 + 1 by simp, List.range_succ_eq_map, List.all_cons, List.all_map]
    rfl
theorem nm_idx {d : D} (h : isS d = true) : idxD d (.int 0) = some (.str (nmS d)) := by
  obtain ⟨n, y, z, rfl, _⟩ := isS_shape h
  rfl
theorem c_ltS (a b : Str) : cmpD .lt (.str a) (.str b) = some (decide (a.cps.toList < b.cps.toList)) := by
  show some (PySem.W.dataLt (.str a) (.str b)) = _
  rw [PySem.W.dataLt_str]
theorem c_geS (a b : Str) : cmpD .ge (.str a) (.str b) = some (!decide (a.cps.toList < b.cps.toList)) := rfl
theorem isSs_not {d : D} (h : ¬ ∃ xs, d = .tup xs) : isSs d = false := by
  unfold isSs
  split
  · exact absurd ⟨_, rfl⟩ h
  · rfl
theorem mem_zip1 {xs : List D} {p : D × D} (h : p ∈ xs.zip (xs.drop 1)) : p.1 ∈ xs ∧ p.2 ∈ xs := by
  obtain ⟨a, b⟩ := List.of_mem_zip (show (p.1, p.2) ∈ _ from h)
  exact ⟨a, List.mem_of_mem_drop b⟩
theorem r_sizes {d : D} (h : Th d) : m_is_sizes [d] = M.ret (.bl (isSs d)) := by
  by_cases hd : ∃ xs, d = .tup xs
  · obtain ⟨xs, rfl⟩ := hd
    have hs : ∀ x ∈ xs, m_is_size [x] = M.ret (.bl (isS x)) := fun x hx => z_up fun S => r_size (h.row hx)
    have e1 : ∀ v1 v2, ev c_is_sizes e_is_sizes_1 [.val (.tup xs), v1, v2] = M.ret (.lst (xs.map fun x => .bl (isS x))) := fun v1 v2 => by
      simp (config := { maxSteps := 400000 }) [z_rb, z_bb, z_br, z_os, z_on, z_nb, z_I, z_B, z_O, z_L, z_ib, z_oi, z_lcD, z_lcM, z_lcF, z_lcA, z_lcI, z_catD, z_catM, z_catA, z_catF, -List.map_take, -List.length_flatMap, line1, Cv.run, sts, st, ev, evt, evc, evs, evo, evi, startE, asgC, asg2C, asg3C, asg4C, z_ft, setV, slO, Function.comp_def, wipeE, seqD, e_is_sizes_1]
      rw [lcT_all (fun x => D.bl (isS x)) (fun _ _ => rfl) hs]
      rfl
    have a1 := all_map isS xs
    show _ = M.ret (D.bl (xs.all isS && rise (xs.map nmS)))
    cases ha : xs.all isS with
    | false =>
      rw [ha] at a1
      simp (config := { maxSteps := 400000 }) [z_rb, z_bb, z_br, z_os, z_on, z_nb, z_I, z_B, z_O, z_L, z_ib, z_oi, z_lcD, z_lcM, z_lcF, z_lcA, z_lcI, z_catD, z_catM, z_catA, z_catF, -List.map_take, -List.length_flatMap, line1, Cv.run, sts, st, ev, evt, evc, evs, evo, evi, startE, asgC, asg2C, asg3C, asg4C, z_ft, setV, slO, Function.comp_def, wipeE, seqD, m_is_sizes, N_is_sizes, b_is_sizes, e1, a1]
    | true =>
      rw [ha] at a1
      have hall := List.all_eq_true.mp ha
      have h1 : ∀ p ∈ xs.zip (xs.drop 1), idxD p.1 (.int 0) = some (.str (nmS p.1)) := fun p hp => nm_idx (hall _ (mem_zip1 hp).1)
      have h2 : ∀ p ∈ xs.zip (xs.drop 1), idxD p.2 (.int 0) = some (.str (nmS p.2)) := fun p hp => nm_idx (hall _ (mem_zip1 hp).2)
      have e2 : ∀ v1 v2, ev c_is_sizes e_is_sizes_2 [.val (.tup xs), v1, v2] = M.ret (.lst ((xs.zip (xs.drop 1)).map fun p => .bl (decide ((nmS p.1).cps.toList < (nmS p.2).cps.toList)))) := fun v1 v2 => by
        have hz : zipS (.tup xs) (.tup (xs.drop 1)) = some ((xs.zip (xs.drop 1)).map fun p => D.tup [p.1, p.2]) := by rw [← zipD_zip]; rfl
        generalize xs.zip (xs.drop 1) = ps at h1 h2 hz
        simp (config := { maxSteps := 400000 }) [z_rb, z_bb, z_br, z_os, z_on, z_nb, z_I, z_B, z_O, z_L, z_ib, z_oi, z_lcD, z_lcM, z_lcF, z_lcA, z_lcI, z_catD, z_catM, z_catA, z_catF, -List.map_take, -List.length_flatMap, line1, Cv.run, sts, st, ev, evt, evc, evs, evo, evi, startE, asgC, asg2C, asg3C, asg4C, z_ft, setV, slO, Function.comp_def, wipeE, seqD, e_is_sizes_2, s_tail, hz, -List.drop_one]
        rw [lcT_all (fun p : D × D => D.bl (decide ((nmS p.1).cps.toList < (nmS p.2).cps.toList))) (fun _ _ => rfl) (fun p hp => by simp (config := { maxSteps := 400000 }) [z_rb, z_bb, z_br, z_os, z_on, z_nb, z_ib, z_oi, z_lcM, z_lcF, z_lcA, z_lcI, z_catM, z_catA, z_catF, -List.map_take, -List.length_flatMap, z_ft, Function.comp_def, h1 p hp, h2 p hp, c_ltS])]
        simp [z_rb]
      have a2 := all_map (fun p : D × D => decide ((nmS p.1).cps.toList < (nmS p.2).cps.toList)) (xs.zip (xs.drop 1))
      rw [rise_zip] at a2
      generalize ((xs.zip (xs.drop 1)).map fun p => D.bl (decide ((nmS p.1).cps.toList < (nmS p.2).cps.toList))) = bs at e2 a2
      simp (config := { maxSteps := 400000 }) [z_rb, z_bb, z_br, z_os, z_on, z_nb, z_I, z_B, z_O, z_L, z_ib, z_oi, z_lcD, z_lcM, z_lcF, z_lcA, z_lcI, z_catD, z_catM, z_catA, z_catF, -List.map_take, -List.length_flatMap, line1, Cv.run, sts, st, ev, evt, evc, evs, evo, evi, startE, asgC, asg2C, asg3C, asg4C, z_ft, setV, slO, Function.comp_def, wipeE, seqD, m_is_sizes, N_is_sizes, b_is_sizes, e1, a1, e2, a2]
  · rw [isSs_not hd]
    have hi := isi_not h.ws hd
    simp (config := { maxSteps := 400000 }) [z_rb, z_bb, z_br, z_os, z_on, z_nb, z_I, z_B, z_O, z_L, z_ib, z_oi, z_lcD, z_lcM, z_lcF, z_lcA, z_lcI, z_catD, z_catM, z_catA, z_catF, -List.map_take, -List.length_flatMap, line1, Cv.run, sts, st, ev, evt, evc, evs, evo, evi, startE, asgC, asg2C, asg3C, asg4C, z_ft, setV, slO, Function.comp_def, wipeE, seqD, m_is_sizes, N_is_sizes, b_is_sizes, hi]
theorem rgOk_nat {n : Nat} (h : n < 2 ^ 20) : rgOk (n : Int) = true := by
  unfold rgOk
  simp only [Bool.and_eq_true, decide_eq_true_eq]
  omega
theorem r_wsizes {d : D} (h : Th d) : m_w_is_sizes [d] = M.ret (.bl (isSs d)) := by
  by_cases hd : ∃ xs, d = .tup xs
  · obtain ⟨xs, rfl⟩ := hd
    have hs : ∀ x ∈ xs, m_w_is_size [x] = M.ret (.bl (isS x)) := fun x hx => r_wsize (h.row hx)
    have e1 : ∀ v1 v2, ev c_w_is_sizes e_w_is_sizes_1 [.val (.tup xs), v1, v2] = M.ret (.lst (xs.filter fun x => !isS x)) := fun v1 v2 => by
      simp (config := { maxSteps := 400000 }) [z_rb, z_bb, z_br, z_os, z_on, z_nb, z_I, z_B, z_O, z_L, z_ib, z_oi, z_lcD, z_lcM, z_lcF, z_lcA, z_lcI, z_catD, z_catM, z_catA, z_catF, -List.map_take, -List.length_flatMap, line1, Cv.run, sts, st, ev, evt, evc, evs, evo, evi, startE, asgC, asg2C, asg3C, asg4C, z_ft, setV, slO, Function.comp_def, wipeE, seqD, e_w_is_sizes_1]
      rw [lcT_eq (fun x => !isS x) (fun x => x) (fun x hx => by simp (config := { maxSteps := 400000 }) [z_rb, z_bb, z_br, z_os, z_on, z_nb, z_ib, z_oi, z_lcM, z_lcF, z_lcA, z_lcI, z_catM, z_catA, z_catF, -List.map_take, -List.length_flatMap, z_ft, Function.comp_def, hs x hx]) (fun _ _ _ => rfl), List.map_id']
      rfl
    have n1 := emp_ne (h.filt fun c => !isS c)
    rw [filt_emp] at n1
    generalize (xs.filter fun x => !isS x) = fs at e1 n1
    show _ = M.ret (D.bl (xs.all isS && rise (xs.map nmS)))
    cases ha : xs.all isS with
    | false =>
      rw [ha] at n1
      simp (config := { maxSteps := 400000 }) [z_rb, z_bb, z_br, z_os, z_on, z_nb, z_I, z_B, z_O, z_L, z_ib, z_oi, z_lcD, z_lcM, z_lcF, z_lcA, z_lcI, z_catD, z_catM, z_catA, z_catF, -List.map_take, -List.length_flatMap, line1, Cv.run, sts, st, ev, evt, evc, evs, evo, evi, startE, asgC, asg2C, asg3C, asg4C, z_ft, setV, slO, Function.comp_def, wipeE, seqD, m_w_is_sizes, N_w_is_sizes, b_w_is_sizes, e1, n1]
    | true =>
      rw [ha] at n1
      have hall := List.all_eq_true.mp ha
      have hlx : xs.length ≤ 8000 := len_sz (Gd'.row (p := 59) h)
      have gk : ∀ k < xs.length, xs[k]? = some (gt xs k) ∧ idxD (gt xs k) (.int 0) = some (.str (nmS (gt xs k))) := fun k hk => by
        have e := List.getElem?_eq_getElem hk
        have e2 : gt xs k = xs[k] := by unfold gt; rw [List.getD_eq_getElem?_getD, e]; rfl
        rw [e2]
        exact ⟨e, nm_idx (hall _ (List.getElem_mem hk))⟩
      have h1 : ∀ k ∈ List.range (xs.length - 1), atD xs (1 + (k : Int) - 1) = some (gt xs k) := fun k hk => by
        rw [show 1 + (k : Int) - 1 = (k : Int) by omega, atD_nat]; exact (gk k (by have := List.mem_range.mp hk; omega)).1
      have h2 : ∀ k ∈ List.range (xs.length - 1), atD xs (1 + (k : Int)) = some (gt xs (k + 1)) := fun k hk => by
        rw [show (1 + (k : Int)) = ((k + 1 : Nat) : Int) by omega, atD_nat]; exact (gk (k + 1) (by have := List.mem_range.mp hk; omega)).1
      have h3 : ∀ k ∈ List.range (xs.length - 1), idxD (gt xs k) (.int 0) = some (.str (nmS (gt xs k))) := fun k hk => (gk k (by have := List.mem_range.mp hk; omega)).2
      have h4 : ∀ k ∈ List.range (xs.length - 1), idxD (gt xs (k + 1)) (.int 0) = some (.str (nmS (gt xs (k + 1)))) := fun k hk => (gk (k + 1) (by have := List.mem_range.mp hk; omega)).2
      have hr : rangeD 1 xs.length = (List.range (xs.length - 1)).map fun (k : Nat) => D.int (1 + (k : Int)) := by
        unfold rangeD
        rw [show ((xs.length : Int) - 1).toNat = xs.length - 1 by omega]
      have ro := rgOk_nat (n := xs.length) (by omega)
      have ro1 : rgOk 1 = true := by decide
      have e2 : ∀ v1 v2, ev c_w_is_sizes e_w_is_sizes_2 [.val (.tup xs), v1, v2] = M.ret (.lst (((List.range (xs.length - 1)).filter fun k => !decide ((nmS (gt xs k)).cps.toList < (nmS (gt xs (k + 1))).cps.toList)).map fun (k : Nat) => D.int (1 + (k : Int)))) := fun v1 v2 => by
        generalize List.range (xs.length - 1) = ks at h1 h2 h3 h4 hr
        simp (config := { maxSteps := 400000 }) [z_rb, z_bb, z_br, z_os, z_on, z_nb, z_I, z_B, z_O, z_L, z_ib, z_oi, z_lcD, z_lcM, z_lcF, z_lcA, z_lcI, z_catD, z_catM, z_catA, z_catF, -List.map_take, -List.length_flatMap, line1, Cv.run, sts, st, ev, evt, evc, evs, evo, evi, startE, asgC, asg2C, asg3C, asg4C, z_ft, setV, slO, Function.comp_def, wipeE, seqD, e_w_is_sizes_2, ro, ro1, hr]
        rw [lcT_eq (fun k => !decide ((nmS (gt xs k)).cps.toList < (nmS (gt xs (k + 1))).cps.toList)) (fun (k : Nat) => D.int (1 + (k : Int))) (fun k hk => by simp (config := { maxSteps := 400000 }) [z_rb, z_bb, z_br, z_os, z_on, z_nb, z_ib, z_oi, z_lcM, z_lcF, z_lcA, z_lcI, z_catM, z_catA, z_catF, -List.map_take, -List.length_flatMap, z_ft, Function.comp_def, h1 k hk, h2 k hk, h3 k hk, h4 k hk, c_geS]) (fun _ _ _ => rfl)]
        simp [z_rb]
      have n2 : cmpD .eq (.lst (((List.range (xs.length - 1)).filter fun k => !decide ((nmS (gt xs k)).cps.toList < (nmS (gt xs (k + 1))).cps.toList)).map fun (k : Nat) => D.int (1 + (k : Int)))) (.lst []) = some (rise (xs.map nmS)) := by
        rw [emp_eq, List.isEmpty_map, filter_emp, rise_range]
        have g : Gs (2 ^ 300) (8000 * 2) 1 (((List.range (xs.length - 1)).filter fun k => !decide ((nmS (gt xs k)).cps.toList < (nmS (gt xs (k + 1))).cps.toList)).map fun (k : Nat) => D.int (1 + (k : Int))) := by
          refine ⟨wss_all.mpr fun x hx => ?_, ?_, dep_map fun _ _ => Nat.zero_le _⟩
          · obtain ⟨k, hk, rfl⟩ := List.mem_map.mp hx
            have := List.mem_range.mp (List.mem_filter.mp hk).1
            exact decide_eq_true (Nat.le_trans (m := 9000) (by omega) (by decide))
          · refine Nat.le_trans (bulk_map (n := 1) fun _ _ => Nat.zero_le _) (Nat.mul_le_mul_right _ ?_)
            refine Nat.le_trans (List.length_filter_le _ _) ?_
            rw [List.length_range]
            omega
        exact g.lst.shp (by decide) (by decide)
      generalize (((List.range (xs.length - 1)).filter fun k => !decide ((nmS (gt xs k)).cps.toList < (nmS (gt xs (k + 1))).cps.toList)).map fun (k : Nat) => D.int (1 + (k : Int))) = ks at e2 n2
      simp (config := { maxSteps := 400000 }) [z_rb, z_bb, z_br, z_os, z_on, z_nb, z_I, z_B, z_O, z_L, z_ib, z_oi, z_lcD, z_lcM, z_lcF, z_lcA, z_lcI, z_catD, z_catM, z_catA, z_catF, -List.map_take, -List.length_flatMap, line1, Cv.run, sts, st, ev, evt, evc, evs, evo, evi, startE, asgC, asg2C, asg3C, asg4C, z_ft, setV, slO, Function.comp_def, wipeE, seqD, m_w_is_sizes, N_w_is_sizes, b_w_is_sizes, e1, n1, e2, n2]
  · rw [isSs_not hd]
    have hi := isi_not h.ws hd
    simp (config := { maxSteps := 400000 }) [z_rb, z_bb, z_br, z_os, z_on, z_nb, z_I, z_B, z_O, z_L, z_ib, z_oi, z_lcD, z_lcM, z_lcF, z_lcA, z_lcI, z_catD, z_catM, z_catA, z_catF, -List.map_take, -List.length_flatMap, line1, Cv.run, sts, st, ev, evt, evc, evs, evo, evi, startE, asgC, asg2C, asg3C, asg4C, z_ft, setV, slO, Function.comp_def, wipeE, seqD, m_w_is_sizes, N_w_is_sizes, b_w_is_sizes, hi]
end liftedworlds_k63_sizes_by_kind

namespace liftedworlds_k63_sizes_by_kind
open PySem Cv Cv.Kp
/-! ### the sizes that are drawn -/
structure OkS (z : Size) : Prop where
  nm : z.1 ∈ ([Str.ofString "r", Str.ofString "s", Str.ofString "t", Str.ofString "u"] : List Str)
  ln : z.2.1.length ≤ 3
  ct : ∀ n ∈ z.2.1, n ≤ 9
  od : z.2.2.1.natAbs ≤ 6 ∧ z.2.2.2.natAbs ≤ 6
theorem counts_ok {c most top : Int} {S : Sto} {v3 v4 v5 v6 : Sl} (T : Fp c S) (hc : c < 2 ^ 17) (h1 : 0 < most) (h2 : most ≤ 3) (h3 : 0 < top) (h4 : top ≤ 9) :
    ∃ (cs : List Nat) (S' : Sto), ev c_w_sizes (.b1 .tuple e_w_sizes_1) [.val (.obj 0), .val (.int most), .val (.int top), v3, v4, v5, v6, .no] S = some (.tup (cs.map eN), S') ∧ (∀ n ∈ cs, n ≤ 9) ∧ cs.length ≤ 3 ∧ Fp (c + 4) S' := by
  obtain ⟨u, S1, t1, a1, b1, T1⟩ := draw_ok T (many := most) (by omega) h1 (by omega)
  have hr : rgOk (1 + u) = true := by
    unfold rgOk
    simp only [Bool.and_eq_true, decide_eq_true_eq]
    omega
  have hl : (rangeD 0 (1 + u)).length = (1 + u).toNat := by simp [rangeD]
  obtain ⟨cs, S2, e1, q1, l1, T2⟩ := lcm_draw (f := eN) (Q := fun n => n ≤ 9) (t := fun d => M.bnd (M.opt (asg (.nm 7) d (wipeE [.val (.obj 0), .val (.int most), .val (.int top), v3, v4, v5, v6, .no] [7]))) fun en2 => evc c_w_sizes .n en2)
    (e := fun d => M.bnd (M.opt (asg (.nm 7) d (wipeE [.val (.obj 0), .val (.int most), .val (.int top), v3, v4, v5, v6, .no] [7]))) fun en2 => ev c_w_sizes (.bin .add (.int 1) (.call 0 (.c (.var 0) (.c (.var 2) .n)))) en2)
    (fun n S => Fp (c + 1 + n) S) 3 (fun x n S hn T => by
      obtain ⟨v, S', t2, a2, b2, T2⟩ := draw_ok T (many := top) (by omega) h3 (by omega)
      refine ⟨by simp [asg, wipeE, setV, evc], (1 + v).toNat, S', ?_, by omega, T2.mono (by omega)⟩
      have : eN (1 + v).toNat = .int (1 + v) := by
        show D.int ((1 + v).toNat : Int) = _
        congr 1
        omega
      rw [this]
      simp [asg, wipeE, setV, ev, evs, t2]) (rangeD 0 (1 + u)) 0 S1 (by rw [hl]; omega) (T1.mono (by omega))
  refine ⟨cs, S2, ?_, q1, by rw [l1, hl]; omega, T2.mono (by rw [hl]; omega)⟩
  have ei : evi c_w_sizes (.rg1 (.bin .add (.int 1) (.call 0 (.c (.var 0) (.c (.var 1) .n))))) [.val (.obj 0), .val (.int most), .val (.int top), v3, v4, v5, v6, .no] S = some (rangeD 0 (1 + u), S1) := by simp [evi, ev, evs, t1, hr]
  exact ev_b1 (ev_lc1 ei e1) rfl
theorem sizes_ok {c most top : Int} {S : Sto} (T : Fp c S) (hc : c < 2 ^ 16) (h1 : 0 < most) (h2 : most ≤ 3) (h3 : 0 < top) (h4 : top ≤ 9) :
    ∃ (zs : List Size) (S' : Sto), m_w_sizes [.obj 0, .int most, .int top] S = some (.tup (zs.map eS), S') ∧ (∀ z ∈ zs, OkS z) ∧ zs.length ≤ 4 ∧ Fp (c + 32) S' := by
  obtain ⟨en', S', fo, zs, v4, v5, v6, rfl, q1, q2, T'⟩ := for_items (f := D.str) (a := fun d en1 => M.opt (asg (.nm 4) d en1)) (b := fun en1 => sts c_w_sizes b_w_sizes_2 en1) (ps := ([Str.ofString "r", Str.ofString "s", Str.ofString "t", Str.ofString "u"] : List Str))
    (fun l en S => ∃ (zs : List Size) (v4 v5 v6 : Sl), en = [.val (.obj 0), .val (.int most), .val (.int top), .own (.ol (zs.map eS)), v4, v5, v6, .no] ∧ (∀ z ∈ zs, OkS z) ∧ zs.length ≤ l.length ∧ Fp (c + 8 * l.length) S)
    (fun l n r en S0 e ⟨zs, v4, v5, v6, he, q1, q2, T⟩ => by
      subst he
      have hl : l.length < 4 := by have := congrArg List.length e; simp at this; omega
      have hn : n ∈ ([Str.ofString "r", Str.ofString "s", Str.ofString "t", Str.ofString "u"] : List Str) := by rw [e]; simp
      obtain ⟨v, S1, t1, a1, b1, T1⟩ := draw_ok T (many := 4) (by omega) (by decide) (by decide)
      refine ⟨[.val (.obj 0), .val (.int most), .val (.int top), .own (.ol (zs.map eS)), .val (.str n), v5, v6, .no], S0, ?_⟩
      by_cases hv : 0 < v
      · obtain ⟨cs, S2, e2, c1, c2, T2⟩ := counts_ok (v3 := .own (.ol (zs.map eS))) (v4 := .val (.str n)) (v5 := v5) (v6 := v6) T1 (by omega) h1 h2 h3 h4
        obtain ⟨u, S3, t3, a3, b3, T3⟩ := draw_ok T2 (many := 6) (by omega) (by decide) (by decide)
        obtain ⟨o, S4, t4, a4, b4, T4⟩ := draw_ok T3 (many := 1 + u) (by omega) (by omega) (by omega)
        have ec := r_cut (x := 1 + o) (y := 1 + u) (S := S4) (by omega) (small3 (by omega)) (small3 (by omega))
        have ll := lw_le (x := 1 + o) (y := 1 + u) (by omega)
        have hz : zs.length < sizeLine := by rw [sizeLine_eq]; omega
        refine ⟨[.val (.obj 0), .val (.int most), .val (.int top), .own (.ol (zs.map eS ++ [eS (n, cs, lw (1 + o) (1 + u))])), .val (.str n), .val (.tup (cs.map eN)), .val (.int (1 + u)), .no], S4, rfl, ?_, zs ++ [(n, cs, lw (1 + o) (1 + u))], _, _, _, by rw [List.map_append]; rfl, ?_, ?_, T4.mono (by simp; omega)⟩
        · refine sts_ret' (st_ifT (S1 := S1) ?_ (sts_go (S1 := S2) (st_set e2 rfl) (sts_go (S1 := S3) (en1 := [.val (.obj 0), .val (.int most), .val (.int top), .own (.ol (zs.map eS)), .val (.str n), .val (.tup (cs.map eN)), .val (.int (1 + u)), .no]) ?_ (sts_go (S1 := S4) ?_ sts_end))))
          · simp [evt, ev, evs, t1, hv]
          · simp [st, ev, evs, t3, asg, setV]
          · simp [st, ev, evs, t4, ec, appE, hz, eS]
        · intro z hm
          rcases List.mem_append.mp hm with h | h
          · exact q1 z h
          · have : z = (n, cs, lw (1 + o) (1 + u)) := by simpa using h
            rw [this]
            exact ⟨hn, c2, c1, Nat.le_trans ll.1 (by omega), Nat.le_trans ll.2 (by omega)⟩
        · simp; omega
      · refine ⟨[.val (.obj 0), .val (.int most), .val (.int top), .own (.ol (zs.map eS)), .val (.str n), v5, v6, .no], S1, rfl, ?_, zs, _, _, _, rfl, q1, by simp; omega, T1.mono (by simp; omega)⟩
        refine sts_ret' (st_ifF (S1 := S1) ?_ sts_end)
        simp [evt, ev, evs, t1, hv]) ([Str.ofString "r", Str.ofString "s", Str.ofString "t", Str.ofString "u"] : List Str) [] [.val (.obj 0), .val (.int most), .val (.int top), .own (.ol []), .no, .no, .no, .no] S rfl ⟨[], _, _, _, rfl, (fun _ h => nomatch h), Nat.le_refl _, T.mono (by simp)⟩
  refine ⟨zs, S', ?_, q1, q2, T'.mono (by simp)⟩
  refine run_go rfl (sts_go (S1 := S) (en1 := [.val (.obj 0), .val (.int most), .val (.int top), .own (.ol []), .no, .no, .no, .no]) ?_ (sts_go (S1 := S') (st_frr (S1 := S) (ds := ([Str.ofString "r", Str.ofString "s", Str.ofString "t", Str.ofString "u"] : List Str).map D.str) ?_ fo) (sts_go (S1 := S') (en1 := [.val (.obj 0), .val (.int most), .val (.int top), .val (.lst (zs.map eS)), v4, v5, v6, .no]) ?_ (sts_fin ?_))))
  · simp [st, ev, evs, startE, N_w_sizes]
  · simp [evi, ev, evs, seqD]
  · simp [st, frzE]
  · simp [ev]
end liftedworlds_k63_sizes_by_kind

namespace liftedworlds_k63_sizes_by_kind
open PySem Cv Cv.Kp
/-! ### bending -/
def odds : List D := [.non, .str "", .str "a", .str "zz", .int 0, .int (-1), .bl true, .bl false, .int 100000000000000000000000000000000000000000000000000000000000, .tup [], .lst [], .str "9", .tup [.tup [.str "a", .int 0]], .int 3]
theorem odds_ok : odds.all (small (10 ^ 59) 20 3) = true := by decide +kernel
theorem odd_tail {me : List D → M D} {d : D} {x2 x3 x4 : Sl} {c : Int} {S : Sto} (T : Fp c S) (hc : c < 2 ^ 17) :
    ∃ d' en' S', sts (c_w_bent me) b_w_bent.tail.tail [.val (.obj 0), .val d, x2, x3, x4] S = some ((.ret d', en'), S') ∧ Gd' (10 ^ 59) 20 3 d' ∧ Fp (c + 1) S' := by
  obtain ⟨v, S1, t1, a1, b1, T1⟩ := draw_ok T (many := 14) (by omega) (by decide) (by decide)
  have hl : odds.length = 14 := rfl
  have hj : v.toNat < odds.length := by omega
  have e1 : atD odds v = some odds[v.toNat] := at_i a1 (List.getElem?_eq_getElem hj)
  refine ⟨odds[v.toNat], _, S1, sts_go (S1 := S) (st_set (d := .lst odds) ?_ rfl) (sts_fin (S1 := S1) ?_), small_ok (List.all_eq_true.mp odds_ok _ (List.getElem_mem hj)), T1⟩
  · simp [ev, evs, odds]
  · have e2 : b1D .len (.lst odds) = some (.int 14) := rfl
    simp [ev, evs, setV, e2, t1, e1]
theorem tail_ok {me : List D → M D} {N b p : Nat} {d : D} {x2 x3 x4 : Sl} {c : Int} {S : Sto} (h : Gd' N b p d) (hN : 10 ^ 59 ≤ N) (T : Fp c S) (hc : c < 2 ^ 16) :
    ∃ d' en' S', sts (c_w_bent me) b_w_bent.tail [.val (.obj 0), .val d, x2, x3, x4] S = some ((.ret d', en'), S') ∧ Gd' (N + 2) (2 * b + 20) (p + 3) d' ∧ Fp (c + 3) S' := by
  have fin : ∀ {S1 : Sto} {c1 : Int}, st (c_w_bent me) (b_w_bent.tail.head (by simp [b_w_bent])) [.val (.obj 0), .val d, x2, x3, x4] S = some ((.nx, [.val (.obj 0), .val d, x2, x3, x4]), S1) → Fp c1 S1 → c1 ≤ c + 1 →
      ∃ d' en' S', sts (c_w_bent me) b_w_bent.tail [.val (.obj 0), .val d, x2, x3, x4] S = some ((.ret d', en'), S') ∧ Gd' (N + 2) (2 * b + 20) (p + 3) d' ∧ Fp (c + 3) S' := by
    intro S1 c1 h1 T1 hc1
    obtain ⟨d', en', S', e, g, T2⟩ := odd_tail (me := me) (d := d) (x2 := x2) (x3 := x3) (x4 := x4) T1 (by omega)
    exact ⟨d', en', S', sts_go h1 e, g.mono (by omega) (by omega) (by omega), T2.mono (by omega)⟩
  have hw := h.ws
  cases d with
  | int i =>
    obtain ⟨v, S1, t1, a1, b1, T1⟩ := draw_ok T (many := 3) (by omega) (by decide) (by decide)
    by_cases hv : 0 < v
    · obtain ⟨u, S2, t2, a2, b2, T2⟩ := draw_ok T1 (many := 3) (by omega) (by decide) (by decide)
      have hx : ∃ k : Int, atD [D.int 1, D.int (-1), D.int 2] u = some (.int k) ∧ k.natAbs ≤ 2 := by
        have : u = 0 ∨ u = 1 ∨ u = 2 := by omega
        rcases this with rfl | rfl | rfl
        · exact ⟨1, rfl, by decide⟩
        · exact ⟨-1, rfl, by decide⟩
        · exact ⟨2, rfl, by decide⟩
      obtain ⟨k, hk, hk2⟩ := hx
      have hi : i.natAbs ≤ N := of_decide_eq_true hw
      refine ⟨.int (i + k), _, S2, sts_ret (st_ifT (S1 := S1) ?_ (sts_fin (S1 := S2) ?_)), ⟨decide_eq_true (by omega), Nat.zero_le _, Nat.zero_le _⟩, T2.mono (by omega)⟩
      · simp [evt, ev, evs, t1, hv]
      · simp [ev, evs, t2, hk]
    · exact fin (S1 := S1) (st_ifF (S1 := S1) (by simp [evt, ev, evs, t1, hv]) sts_end) T1 (by omega)
  | bl i => exact fin (S1 := S) (st_ifF (S1 := S) (by simp [evt, ev, evs]) sts_end) T (by omega)
  | non => exact fin (S1 := S) (st_ifF (S1 := S) (by simp [evt, ev, evs]) sts_end) T (by omega)
  | str i => exact fin (S1 := S) (st_ifF (S1 := S) (by simp [evt, ev, evs]) sts_end) T (by omega)
  | tup i => exact fin (S1 := S) (st_ifF (S1 := S) (by simp [evt, ev, evs]) sts_end) T (by omega)
  | lst i => exact fin (S1 := S) (st_ifF (S1 := S) (by simp [evt, ev, evs]) sts_end) T (by omega)
  | _ => cases hw
theorem s_toT (xs : List D) (k : Nat) : sliD (.tup xs) none (some (k : Int)) = some (.tup (xs.take k)) := by
  show some (D.tup (cutD xs none (some (k : Int)))) = _
  rw [cut_to _ (by omega), Int.toNat_natCast]
theorem s_fromT (xs : List D) (k : Nat) : sliD (.tup xs) (some (k : Int)) none = some (.tup (xs.drop k)) := by
  show some (D.tup (cutD xs (some (k : Int)) none)) = _
  rw [cut_from _ (by omega), Int.toNat_natCast]
theorem s_from1T (xs : List D) (k : Nat) : sliD (.tup xs) (some ((k : Int) + 1)) none = some (.tup (xs.drop (k + 1))) := s_fromT xs (k + 1)
theorem s_oneT (xs : List D) (k : Nat) : sliD (.tup xs) (some (k : Int)) (some ((k : Int) + 1)) = some (.tup ((xs.drop k).take 1)) := by
  show some (D.tup (cutD xs (some (k : Int)) (some ((k : Int) + 1)))) = _
  rw [cut_mid _ (by omega) (by omega), Int.toNat_natCast, show ((k : Int) + 1 - k).toNat = 1 by omega]
theorem bent_ok : ∀ (t : Nat) (N b p : Nat) (d : D) (c : Int) (S : Sto), Gd' N b p d → p < t → p ≤ 90 → 10 ^ 59 ≤ N → b ≤ 2500 → Fp c S → c < 2 ^ 15 + 100 * (100 - p : Nat) →
    ∃ d' S', m_w_bent t [.obj 0, d] S = some (d', S') ∧ Gd' (N + 2) (2 * b + 20) (p + 3) d' ∧ Fp (c + 4 + 4 * p) S'
  | 0, _, p, _, _, _, _, _, hp, _, _, _, _, _ => absurd hp (Nat.not_lt_zero _)
  | t + 1, N, b, p, d, c, S, h, hp, hp9, hN, hb, T, hc => by
    show ∃ d' S', run (c_w_bent (m_w_bent t)) ⟨N_w_bent.length, b_w_bent⟩ 2 [.obj 0, d] S = some (d', S') ∧ _ ∧ _
    have rest : ∀ {S1 : Sto} {c1 : Int}, st (c_w_bent (m_w_bent t)) (b_w_bent.head (by simp [b_w_bent])) [.val (.obj 0), .val d, .no, .no, .no] S = some ((.nx, [.val (.obj 0), .val d, .no, .no, .no]), S1) → Fp c1 S1 → c1 ≤ c + 1 →
        ∃ d' S', run (c_w_bent (m_w_bent t)) ⟨N_w_bent.length, b_w_bent⟩ 2 [.obj 0, d] S = some (d', S') ∧ Gd' (N + 2) (2 * b + 20) (p + 3) d' ∧ Fp (c + 4 + 4 * p) S' := by
      intro S1 c1 h1 T1 hc1
      obtain ⟨d', en', S', e, g, T2⟩ := tail_ok (me := m_w_bent t) (x2 := .no) (x3 := .no) (x4 := .no) h hN T1 (by omega)
      exact ⟨d', S', run_go rfl (sts_go h1 e), g, T2.mono (by omega)⟩
    have hw := h.ws
    by_cases hd : ∃ xs, d = .tup xs
    · obtain ⟨xs, rfl⟩ := hd
      by_cases hx0 : xs = []
      · subst hx0
        exact rest (S1 := S) (st_ifF (S1 := S) (by simp [evt, ev, evs]) sts_end) T (by omega)
      · have lx : 0 < xs.length := by cases xs with | nil => exact absurd rfl hx0 | cons _ _ => exact Nat.succ_pos _
        obtain ⟨p, rfl⟩ : ∃ q, p = q + 1 := ⟨p - 1, by have : PyData.depthAll (D.pys xs) + 1 ≤ p := h.dp; omega⟩
        have g : Gs N b p xs := h.row
        have lx2 := len_sz g
        obtain ⟨v, S1, t1, a1, b1, T1⟩ := draw_ok T (many := 8) (by omega) (by decide) (by decide)
        by_cases hv : 0 < v
        · obtain ⟨u, S2, t2, a2, b2, T2⟩ := draw_ok T1 (many := (xs.length : Int)) (by omega) (by omega) (by omega)
          obtain ⟨k, rfl⟩ : ∃ k : Nat, u = k := ⟨u.toNat, by omega⟩
          have hk : k < xs.length := by omega
          obtain ⟨w, S3, t3, a3, b3, T3⟩ := draw_ok T2 (many := 8) (by omega) (by decide) (by decide)
          have e0 : xs[k]? = some xs[k] := List.getElem?_eq_getElem hk
          have gk := g.mem (List.getElem_mem hk)
          obtain ⟨g1, g2⟩ := g.split k
          obtain ⟨_, g3⟩ := g.split (k + 1)
          obtain ⟨g4, _⟩ := g2.split 1
          have m0 : evt (c_w_bent (m_w_bent t)) (.and (.isi (.var 1) "tuple") (.and (.cmp .gt (.b1 .len (.var 1)) (.int 0)) (.cmp .gt (.call 0 (.c (.var 0) (.c (.int 8) .n))) (.int 0)))) [.val (.obj 0), .val (.tup xs), .no, .no, .no] S = some (true, S1) := by
            have : (0 : Int) < xs.length := by omega
            simp [evt, ev, evs, t1, hv, this, hx0]
          have m1 : st (c_w_bent (m_w_bent t)) (.set (.nm 2) (.call 0 (.c (.var 0) (.c (.b1 .len (.var 1)) .n)))) [.val (.obj 0), .val (.tup xs), .no, .no, .no] S1 = some ((.nx, [.val (.obj 0), .val (.tup xs), .val (.int k), .no, .no]), S2) := by
            simp [st, ev, evs, t2, asg, setV]
          have m2 : st (c_w_bent (m_w_bent t)) (.set (.nm 3) (.call 0 (.c (.var 0) (.c (.int 8) .n)))) [.val (.obj 0), .val (.tup xs), .val (.int k), .no, .no] S2 = some ((.nx, [.val (.obj 0), .val (.tup xs), .val (.int k), .val (.int w), .no]), S3) := by
            simp [st, ev, evs, t3, asg, setV]
          have bk := gk.bk
          have hlen1 : (xs.take k).length ≤ 2500 := by rw [List.length_take]; omega
          have hlen2 : (xs.drop k).length ≤ 2500 := by rw [List.length_drop]; omega
          have hlen3 : (xs.drop (k + 1)).length ≤ 2500 := by rw [List.length_drop]; omega
          have hlen4 : ((xs.drop k).take 1).length ≤ 1 := by rw [List.length_take]; omega
          have ca : ∀ (a b : List D), a.length ≤ 6000 → b.length ≤ 6000 → binD .add (.tup a) (.tup b) = some (.tup (a ++ b)) := fun a b q1 q2 => cat_t (line_of (by omega))
          have c1 := ca _ _ (Nat.le_trans hlen1 (by decide)) (Nat.le_trans hlen3 (by decide))
          have c2 := ca _ _ (Nat.le_trans hlen1 (by decide)) (Nat.le_trans hlen4 (by decide))
          have c3 := ca (xs.take k ++ (xs.drop k).take 1) (xs.drop k) (by rw [List.length_append]; omega) (Nat.le_trans hlen2 (by decide))
          have c4 := ca _ _ (Nat.le_trans hlen2 (by decide)) (Nat.le_trans hlen1 (by decide))
          by_cases w4 : w < 4
          · have key : ∀ r, (∃ en', sts (c_w_bent (m_w_bent t)) b_w_bent [.val (.obj 0), .val (.tup xs), .no, .no, .no] S = some ((.ret r, en'), S3)) → Gd' (N + 2) (2 * b + 20) (p + 1 + 3) r → ∃ d' S', run (c_w_bent (m_w_bent t)) ⟨N_w_bent.length, b_w_bent⟩ 2 [.obj 0, D.tup xs] S = some (d', S') ∧ Gd' (N + 2) (2 * b + 20) (p + 1 + 3) d' ∧ Fp (c + 4 + 4 * (p + 1 : Nat)) S' := by
              intro r ⟨en', e⟩ gr
              exact ⟨r, S3, run_go rfl e, gr, T3.mono (by omega)⟩
            have : w = 0 ∨ w = 1 ∨ w = 2 ∨ w = 3 := by omega
            rcases this with rfl | rfl | rfl | rfl
            · refine key (.tup (xs.take k ++ xs.drop (k + 1))) ⟨_, sts_ret (st_ifT m0 (sts_go m1 (sts_go m2 (sts_ret (st_ifT (S1 := S3) ?_ (sts_fin (S1 := S3) ?_))))))⟩ ((g1.app g3).tup.mono (by omega) (by omega) (by omega))
              · simp [evt, ev]
              · simp [ev, evo, s_toT, s_from1T, -b_addT, c1]
            · refine key (.tup (xs.take k ++ (xs.drop k).take 1 ++ xs.drop k)) ⟨_, sts_ret (st_ifT m0 (sts_go m1 (sts_go m2 (sts_go (S1 := S3) (st_ifF (S1 := S3) ?_ sts_end) (sts_ret (st_ifT (S1 := S3) ?_ (sts_fin (S1 := S3) ?_)))))))⟩ ?_
              · simp [evt, ev]
              · simp [evt, ev]
              · simp [ev, evo, s_toT, s_fromT, s_oneT, -b_addT, -List.append_assoc, c2, c3]
              · have q := (g1.app g4).app g2
                refine ⟨ws_mono (by omega) q.tup.ws, ?_, Nat.le_trans q.tup.dp (by omega)⟩
                show PyData.bulkAll _ ≤ _
                have e1 := bulk_app (xs.take k) (xs.drop k)
                rw [List.take_append_drop] at e1
                have e2 : (xs.drop k).take 1 = [xs[k]] := by rw [List.drop_eq_getElem_cons hk]; rfl
                have e3 : xs[k].py.bulk + 1 ≤ b := Nat.le_trans (bulk_mem (List.getElem_mem hk)) g.bk
                rw [bulk_app, bulk_app, e2]
                have e4 : PyData.bulkAll (D.pys [xs[k]]) = xs[k].py.bulk + 1 + 0 := rfl
                have := g.bk
                omega
            · refine key (.tup (xs.drop k ++ xs.take k)) ⟨_, sts_ret (st_ifT m0 (sts_go m1 (sts_go m2 (sts_go (S1 := S3) (st_ifF (S1 := S3) ?_ sts_end) (sts_go (S1 := S3) (st_ifF (S1 := S3) ?_ sts_end) (sts_ret (st_ifT (S1 := S3) ?_ (sts_fin (S1 := S3) ?_))))))))⟩ ((g2.app g1).tup.mono (by omega) (by omega) (by omega))
              · simp [evt, ev]
              · simp [evt, ev]
              · simp [evt, ev]
              · simp [ev, evo, s_toT, s_fromT, -b_addT, c4]
            · refine key (.lst xs) ⟨_, sts_ret (st_ifT m0 (sts_go m1 (sts_go m2 (sts_go (S1 := S3) (st_ifF (S1 := S3) ?_ sts_end) (sts_go (S1 := S3) (st_ifF (S1 := S3) ?_ sts_end) (sts_go (S1 := S3) (st_ifF (S1 := S3) ?_ sts_end) (sts_ret (st_ifT (S1 := S3) ?_ (sts_fin (S1 := S3) ?_)))))))))⟩ (g.lst.mono (by omega) (by omega) (by omega))
              · simp [evt, ev]
              · simp [evt, ev]
              · simp [evt, ev]
              · simp [evt, ev]
              · simp [ev]
          · have gk' : Gd' N xs[k].py.bulk p xs[k] := ⟨gk.ws, Nat.le_refl _, gk.dp⟩
            obtain ⟨d', S4, e4, gd, T4⟩ := bent_ok t N xs[k].py.bulk p xs[k] (c + 3) S3 gk' (by omega) (by omega) hN (by omega) (T3.mono (by omega)) (by omega)
            refine ⟨.tup (xs.take k ++ [d'] ++ xs.drop (k + 1)), S4, run_go rfl (sts_ret (st_ifT m0 (sts_go m1 (sts_go m2 (sts_go (S1 := S3) (st_ifF (S1 := S3) ?_ sts_end) (sts_go (S1 := S3) (st_ifF (S1 := S3) ?_ sts_end) (sts_go (S1 := S3) (st_ifF (S1 := S3) ?_ sts_end) (sts_go (S1 := S3) (st_ifF (S1 := S3) ?_ sts_end) (sts_fin (S1 := S4) ?_))))))))), ?_, T4.mono (by omega)⟩
            · simp [evt, ev, show ¬ w = 0 by omega]
            · simp [evt, ev, show ¬ w = 1 by omega]
            · simp [evt, ev, show ¬ w = 2 by omega]
            · simp [evt, ev, show ¬ w = 3 by omega]
            · have c5 := ca (xs.take k) [d'] (Nat.le_trans hlen1 (by decide)) (by simp)
              have c6 := ca (xs.take k ++ [d']) (xs.drop (k + 1)) (by rw [List.length_append, List.length_singleton]; omega) (Nat.le_trans hlen3 (by decide))
              simp [ev, evs, evo, s_toT, s_from1T, atD_nat, e0, e4, -b_addT, -List.append_assoc, c5, c6]
            · have hdk : xs.drop k = xs[k] :: xs.drop (k + 1) := List.drop_eq_getElem_cons hk
              have hb1 := bulk_app (xs.take k) (xs.drop k)
              rw [List.take_append_drop, hdk] at hb1
              have hb2 : PyData.bulkAll (D.pys (xs[k] :: xs.drop (k + 1))) = xs[k].py.bulk + 1 + PyData.bulkAll (D.pys (xs.drop (k + 1))) := rfl
              have hb3 := g.bk
              have gdb := gd.bk
              have gdd := gd.dp
              rw [hb2] at hb1
              have q : Gs (N + 2) (b + (2 * xs[k].py.bulk + 20 + 1) + b) (p + 3) (xs.take k ++ [d'] ++ xs.drop (k + 1)) := ((g1.mono (by omega) (Nat.le_refl _) (by omega)).app (Gs.one gd)).app (g3.mono (by omega) (Nat.le_refl _) (by omega))
              refine ⟨q.tup.ws, ?_, Nat.le_trans q.tup.dp (by omega)⟩
              show PyData.bulkAll (D.pys (xs.take k ++ [d'] ++ xs.drop (k + 1))) ≤ _
              rw [bulk_app, bulk_app]
              show _ + (d'.py.bulk + 1 + 0) + _ ≤ _
              omega
        · exact rest (S1 := S1) (st_ifF (S1 := S1) (by
            have : (0 : Int) < xs.length := by omega
            simp [evt, ev, evs, t1, hv, this, hx0]) sts_end) T1 (by omega)
    · have hi : isiD d "tuple" = some false := by
        cases d <;> first | (cases hw; done) | rfl | exact absurd ⟨_, rfl⟩ hd
      exact rest (S1 := S) (st_ifF (S1 := S) (by simp [evt, hi]) sts_end) T (by omega)
end liftedworlds_k63_sizes_by_kind

namespace liftedworlds_k63_sizes_by_kind
open PySem Cv Cv.Kp
/-! ### how great things are -/
theorem gs_map {α : Type} {f : α → D} {N b p k : Nat} {xs : List α} (h : ∀ x ∈ xs, Gd' N b p (f x)) (hl : xs.length ≤ k) : Gs N (k * (b + 1)) p (xs.map f) :=
  ⟨wss_all.mpr fun y hy => by obtain ⟨x, hx, rfl⟩ := List.mem_map.mp hy; exact (h x hx).ws, Nat.le_trans (bulk_map fun x hx => (h x hx).bk) (Nat.mul_le_mul_right _ hl), dep_map fun x hx => (h x hx).dp⟩
theorem gd_int {N : Nat} {i : Int} (h : i.natAbs ≤ N) : Gd' N 0 0 (.int i) := ⟨decide_eq_true h, Nat.le_refl _, Nat.le_refl _⟩
theorem gd_str {N n : Nat} {s : Str} (h : (s.cps.toList.all fun c => decide (c < 128)) = true) (hl : s.length ≤ n) : Gd' N n 0 (.str s) := ⟨h, hl, Nat.le_refl _⟩
theorem gd_fr {N : Nat} {o : Int × Int} (h1 : o.1.natAbs ≤ N) (h2 : o.2.natAbs ≤ N) : Gd' N 2 1 (fr o) := ((Gs.one (gd_int h1)).app (Gs.one (gd_int h2))).tup
theorem ro_in : ∀ (cs : List Nat) (rows : List (List Str)), (∀ ws ∈ rows, ∀ w ∈ ws, w ∈ wds) → ∀ ws ∈ cs.foldl nxt rows, ∀ w ∈ ws, w ∈ wds
  | [], _, h => h
  | m :: cs, rows, h => ro_in cs (nxt rows m) fun ws hw w hm => by
    obtain ⟨u, hu, hw⟩ := List.mem_flatMap.mp hw
    obtain ⟨v, hv, rfl⟩ := List.mem_map.mp hw
    rcases List.mem_append.mp hm with q | q
    · exact h u hu w q
    · have : w = v := by simpa using q
      rw [this]; exact List.mem_of_mem_take hv
theorem nxt_len (rows : List (List Str)) (m : Nat) : (nxt rows m).length ≤ rows.length * m := flat_len fun ws _ => by rw [List.length_map, List.length_take]; omega
theorem gd_W {N : Nat} {cs : List Nat} (hc : cs.length ≤ 2) {ws : List Str} (h : ws ∈ ro cs) : Gd' N 6 1 (eW ws) := by
  have h1 := (ro_small hc).1 ws h
  have h2 := ro_in cs [[]] (fun ws hw w hm => by simp at hw; rw [hw] at hm; cases hm) ws h
  refine (gs_map (k := 2) (b := 2) (p := 0) (fun w hw => ?_) h1).tup
  have := List.all_eq_true.mp wds_two w (h2 w hw)
  simp only [Bool.and_eq_true, decide_eq_true_eq] at this
  exact gd_str this.2 (by omega)
theorem gd_T {N k : Nat} {z : Size} (hn : (z.1.cps.toList.all fun c => decide (c < 128)) = true) (hl : z.1.length ≤ 1) (hc : z.2.1.length ≤ 2) (hk : (ro z.2.1).length ≤ k) (h1 : z.2.2.1.natAbs ≤ N) (h2 : z.2.2.2.natAbs ≤ N) (hN : 2 ≤ N) : Gd' N (k * 11 + 5) 4 (eT z) := by
  have r : ∀ ws ∈ ro z.2.1, Gd' N 10 2 (eR z.2.2 ws) := fun ws hw => ((Gs.one (gd_W hc hw)).app (Gs.one ((gd_fr h1 h2).mono (Nat.le_refl _) (Nat.le_refl _) (by decide)))).tup
  have rows := (gs_map r hk).tup
  have ln : Gd' N 0 3 (.int z.2.1.length) := (gd_int (by omega)).mono (Nat.le_refl _) (Nat.le_refl _) (by decide)
  have q := ((Gs.one ((gd_str (N := N) hn hl).mono (Nat.le_refl _) (Nat.le_refl _) (show 0 ≤ 3 by decide))).app ((Gs.one ln).app ((Gs.one ln).app (Gs.one rows)))).tup
  exact q.mono (Nat.le_refl _) (by omega) (Nat.le_refl _)
theorem r_same {x : D} {s : Str} (h : b1D .repr x = some (.str s)) : m_w_same [x, x] = M.ret (.bl true) := by
  simp (config := { maxSteps := 400000 }) [z_rb, z_bb, z_br, z_os, z_on, z_nb, z_I, z_B, z_O, z_L, z_ib, z_oi, z_lcD, z_lcM, z_lcF, z_lcA, z_lcI, z_catD, z_catM, z_catA, z_catF, -List.map_take, -List.length_flatMap, line1, Cv.run, sts, st, ev, evt, evc, evs, evo, evi, startE, asgC, asg2C, asg3C, asg4C, z_ft, setV, slO, Function.comp_def, wipeE, seqD, m_w_same, N_w_same, b_w_same, h]
theorem gd_rep {N b p : Nat} {d : D} (h : Gd' N b p d) (hN : N ≤ 2 ^ 300) (hb : b ≤ 8000) (hp : p ≤ 60) : ∃ s, b1D .repr d = some (.str s) := ⟨_, h.repr (Nat.lt_of_le_of_lt hN (by decide)) (by omega) hb⟩
theorem same_base {zs : List Size} (hz : ∀ z ∈ zs, z.2.1.length ≤ 2) (hl : zs.length ≤ 100) {b : Nat} (hg : Gs (2 ^ 300) b 5 (zs.map eT)) (hb : b ≤ 8000) :
    ∃ s, m_even_base [.tup (zs.map eS)] = M.ret (.tup (zs.map eT)) ∧ m_w_even [.tup (zs.map eS)] = M.ret (.tup (zs.map eT)) ∧ b1D .repr (.tup (zs.map eT)) = some (.str s) := by
  obtain ⟨s, hs⟩ := gd_rep hg.tup (Nat.le_refl _) hb (by decide)
  exact ⟨s, r_even_base hz hl, r_w_even hz hl, hs⟩
def fr13 (scr : D) (v2 v3 v4 v5 v6 v7 v8 v12 : Sl) : En := [.val scr, .val (.obj 0), v2, v3, v4, v5, v6, v7, v8, .no, .no, .no, v12]
theorem look1 {scr d : D} {v2 v3 v4 v5 v6 v7 v8 v12 : Sl} (h : Th d) : ∃ w8, M.bnd (M.opt (asg (.nm 6) d (fr13 scr v2 v3 v4 v5 v6 v7 v8 v12))) (fun en1 => sts c_law b_law_2 en1) = M.ret (.nx, fr13 scr v2 v3 v4 v5 (.val d) v7 w8 v12) := by
  obtain ⟨s, hs⟩ := gd_rep h (Nat.le_refl _) (Nat.le_refl _) (Nat.le_refl _)
  have e1 := r_sizes h
  have e2 := r_wsizes h
  obtain ⟨s2, hs2⟩ := gd_rep (d := .bl (isSs d)) (N := 2 ^ 300) (b := 0) (p := 0) ⟨rfl, Nat.le_refl _, Nat.le_refl _⟩ (Nat.le_refl _) (by decide) (by decide)
  have e3 := r_same hs2
  refine ⟨.val (.str s), ?_⟩
  simp (config := { maxSteps := 400000 }) [z_rb, z_bb, z_br, z_os, z_on, z_nb, z_I, z_B, z_O, z_L, z_ib, z_oi, z_lcD, z_lcM, z_lcF, z_lcA, z_lcI, z_catD, z_catM, z_catA, z_catF, -List.map_take, -List.length_flatMap, line1, Cv.run, sts, st, ev, evt, evc, evs, evo, evi, startE, asgC, asg2C, asg3C, asg4C, z_ft, setV, slO, Function.comp_def, wipeE, seqD, fr13, b_law_2, hs, e1, e2, e3]
def T0 : List D := [.tup [.tup [.str "r", .tup [.int (10 ^ 30)], .tup [.int 1, .int 2]]], .tup [.tup [.str "r", .tup [], .tup [.int 1, .int 2]]], .tup [.tup [.str "r", .tup [.int 1], .tup [.int 0, .int 1]]], .tup [.tup [.str "r", .tup [.int 1], .tup [.int 2, .int 4]]]]
theorem T0_ok : T0.all (small (2 ^ 300) 8000 60) = true := by decide +kernel
theorem gd_S {z : Size} (h : OkS z) : Gd' (10 ^ 59) 9 2 (eS z) := by
  have hn : (z.1.cps.toList.all fun c => decide (c < 128)) = true ∧ z.1.length ≤ 1 := by
    have := h.nm
    simp only [List.mem_cons, List.not_mem_nil, or_false] at this
    rcases this with e | e | e | e <;> rw [e] <;> decide
  have c := (gs_map (f := eN) (N := 10 ^ 59) (b := 0) (p := 0) (k := 3) (fun n hn => gd_int (i := (n : Int)) (by have := h.ct n hn; simp only [Int.natAbs_natCast]; exact Nat.le_trans this (by decide))) h.ln).tup
  have o := gd_fr (N := 10 ^ 59) (o := z.2.2) (Nat.le_trans h.od.1 (by decide)) (Nat.le_trans h.od.2 (by decide))
  have q := ((Gs.one ((gd_str (N := 10 ^ 59) hn.1 hn.2).mono (Nat.le_refl _) (Nat.le_refl _) (show 0 ≤ 1 by decide))).app ((Gs.one c).app (Gs.one o))).tup
  exact q.mono (Nat.le_refl _) (by omega) (Nat.le_refl _)
theorem cut_last (xs : List D) : ∃ k, cutD xs (some (-1)) none = (xs.drop k).take (xs.length - k) := ⟨_, rfl⟩
theorem s_lastT (xs : List D) : sliD (.tup xs) (some (-1)) none = some (.tup (cutD xs (some (-1)) none)) := rfl
/-- ten bent ones -/
theorem ten_ok {scr : D} {X : D} {v3 v5 v6 v7 v8 v12 : Sl} {ts : List D} {c : Int} {S : Sto} (hX : Gd' (10 ^ 59) 80 3 X) (T : Fp c S) (hc : c < 2 ^ 14) (hts : ∀ t ∈ ts, Th t) (hl : ts.length ≤ 100) :
    ∃ ys w5 w6 S', forM (fun d en1 => M.opt (asg (.nm 5) d en1)) (fun en1 => sts c_law b_law_1 en1) (rangeD 0 10) (fr13 scr (.own (.ol ts)) v3 (.val X) v5 v6 v7 v8 v12) S = some ((.nx, fr13 scr (.own (.ol ys)) v3 (.val X) w5 w6 v7 v8 v12), S') ∧ (∀ t ∈ ys, Th t) ∧ Fp (c + 460) S' := by
  obtain ⟨en', S', fo, ys, w5, w6, rfl, q1, q2, T'⟩ := for_items (f := D.int) (a := fun d en1 => M.opt (asg (.nm 5) d en1)) (b := fun en1 => sts c_law b_law_1 en1) (ps := (List.range 10).map fun (k : Nat) => ((0 : Int) + (k : Int)))
    (fun l en S => ∃ (ys : List D) (w5 w6 : Sl), en = fr13 scr (.own (.ol ys)) v3 (.val X) w5 w6 v7 v8 v12 ∧ (∀ t ∈ ys, Th t) ∧ ys.length ≤ 100 + l.length ∧ Fp (c + 46 * l.length) S)
    (fun l i r en S0 e ⟨ys, w5, w6, he, q1, q2, T⟩ => by
      subst he
      have hl : l.length < 10 := by have := congrArg List.length e; simp at this; omega
      obtain ⟨d1, S1, e1, g1, T1⟩ := bent_ok 8 (10 ^ 59) 80 3 X (c + 46 * l.length) S0 hX (by decide) (by decide) (Nat.le_refl _) (by decide) T (by omega)
      obtain ⟨v, S2, t2, a2, b2, T2⟩ := draw_ok T1 (many := 3) (by omega) (by decide) (by decide)
      have hy : ys.length < sizeLine := by rw [sizeLine_eq]; omega
      refine ⟨fr13 scr (.own (.ol ys)) v3 (.val X) (.val (.int i)) w6 v7 v8 v12, S0, ?_⟩
      by_cases hv : v = 0
      · subst hv
        obtain ⟨d2, S3, e3, g3, T3⟩ := bent_ok 8 (10 ^ 59 + 2) (2 * 80 + 20) 6 d1 (c + 46 * l.length + 4 + 4 * 3 + 1) S2 g1 (by decide) (by decide) (by decide) (by decide) T2 (by omega)
        refine ⟨fr13 scr (.own (.ol (ys ++ [d2]))) v3 (.val X) (.val (.int i)) (.val d1) v7 v8 v12, S3, rfl, ?_, ys ++ [d2], _, _, rfl, ?_, by simp; omega, T3.mono (by simp; omega)⟩
        · refine sts_go (S1 := S1) (en1 := fr13 scr (.own (.ol ys)) v3 (.val X) (.val (.int i)) (.val d1) v7 v8 v12) ?_ (sts_go (S1 := S3) ?_ sts_end)
          · simp [fr13, st, ev, evs, e1, asg, setV]
          · simp [fr13, st, ev, evt, evs, t2, e3, appE, hy]
        · intro t ht
          rcases List.mem_append.mp ht with h | h
          · exact q1 t h
          · have : t = d2 := by simpa using h
            rw [this]
            exact g3.mono (by decide) (by decide) (by decide)
      · refine ⟨fr13 scr (.own (.ol (ys ++ [d1]))) v3 (.val X) (.val (.int i)) (.val d1) v7 v8 v12, S2, rfl, ?_, ys ++ [d1], _, _, rfl, ?_, by simp; omega, T2.mono (by simp; omega)⟩
        · refine sts_go (S1 := S1) (en1 := fr13 scr (.own (.ol ys)) v3 (.val X) (.val (.int i)) (.val d1) v7 v8 v12) ?_ (sts_go (S1 := S2) ?_ sts_end)
          · simp [fr13, st, ev, evs, e1, asg, setV]
          · simp [fr13, st, ev, evt, evs, t2, hv, appE, hy]
        · intro t ht
          rcases List.mem_append.mp ht with h | h
          · exact q1 t h
          · have : t = d1 := by simpa using h
            rw [this]
            exact g1.mono (by decide) (by decide) (by decide)) _ [] (fr13 scr (.own (.ol ts)) v3 (.val X) v5 v6 v7 v8 v12) S rfl ⟨ts, _, _, rfl, hts, by simp; omega, T.mono (by simp)⟩
  have hr : rangeD 0 10 = (((List.range 10).map fun (k : Nat) => ((0 : Int) + (k : Int))).map D.int) := rfl
  exact ⟨ys, w5, w6, S', by rw [hr]; exact fo, q1, T'.mono (by simp)⟩
def items (xs : List D) : List D := [.tup xs, .tup xs.reverse, .lst xs, .tup (xs ++ cutD xs (some (-1)) none), .tup [], .non, .tup (repI 2 (xs.take 1))]
theorem items_ok {xs : List D} (h : Gs (10 ^ 59) 40 2 xs) : ∀ t ∈ items xs, Th t := by
  intro t ht
  unfold items at ht
  simp only [List.mem_cons, List.not_mem_nil, or_false] at ht
  obtain ⟨k, hk⟩ := cut_last xs
  rcases ht with rfl | rfl | rfl | rfl | rfl | rfl | rfl
  · exact h.tup.mono (by decide) (by decide) (by decide)
  · exact (gs_rev h).tup.mono (by decide) (by decide) (by decide)
  · exact h.lst.mono (by decide) (by decide) (by decide)
  · rw [hk]
    exact (h.app ((h.split k).2.split _).1).tup.mono (by decide) (by decide) (by decide)
  · exact ⟨rfl, Nat.zero_le _, by decide⟩
  · exact ⟨rfl, Nat.zero_le _, by decide⟩
  · have e : repI 2 (xs.take 1) = xs.take 1 ++ (xs.take 1 ++ []) := rfl
    rw [e, List.append_nil]
    exact ((h.split 1).1.app (h.split 1).1).tup.mono (by decide) (by decide) (by decide)
theorem items_ev {scr : D} {xs ts : List D} {v3 v5 v6 v7 v8 v12 : Sl} (hx : xs.length ≤ 40) (ht : ts.length ≤ 50) : st c_law (.seto 2 (.bin .add (.var 2) (.lst (.c (.var 4) (.c (.rev (.var 4)) (.c (.b1 .list (.var 4)) (.c (.bin .add (.var 4) (.sli (.var 4) (.s (.neg (.int 1))) .n)) (.c (.tup .n) (.c .non (.c (.bin .mul (.sli (.var 4) .n (.s (.int 1))) (.int 2)) .n))))))))))
    (fr13 scr (.val (.lst ts)) v3 (.val (.tup xs)) v5 v6 v7 v8 v12) = M.ret (.nx, fr13 scr (.own (.ol (ts ++ items xs))) v3 (.val (.tup xs)) v5 v6 v7 v8 v12) := by
  obtain ⟨k, hk⟩ := cut_last xs
  have hc : (cutD xs (some (-1)) none).length ≤ 40 := by rw [hk, List.length_take, List.length_drop]; omega
  have h1 : binD .add (.tup xs) (.tup (cutD xs (some (-1)) none)) = some (.tup (xs ++ cutD xs (some (-1)) none)) := cat_t (line_of (by omega))
  have h2 : sliD (.tup xs) none (some 1) = some (.tup (xs.take 1)) := s_toT xs 1
  have h3 : binD .mul (.tup (xs.take 1)) (.int 2) = some (.tup (repI 2 (xs.take 1))) := by
    show (if decide ((2 : Int) ≤ 2) && decide ((2 : Int) ≤ 1000) && decide ((xs.take 1).length ≤ 1000) then some (D.tup (repI 2 (xs.take 1))) else none) = _
    rw [if_pos]
    rw [List.length_take]
    simp
    omega
  have h4 : ts.length + 7 ≤ sizeLine := line_of (by omega)
  have h5 : revD (.tup xs) = some (.tup xs.reverse) := rfl
  simp (config := { maxSteps := 400000 }) [z_rb, z_bb, z_br, z_os, z_on, z_nb, z_I, z_B, z_O, z_L, z_ib, z_oi, z_lcD, z_lcM, z_lcF, z_lcA, z_lcI, z_catD, z_catM, z_catA, z_catF, -List.map_take, -List.length_flatMap, line1, Cv.run, sts, st, ev, evt, evc, evs, evo, evi, startE, asgC, asg2C, asg3C, asg4C, z_ft, setV, slO, Function.comp_def, wipeE, seqD, fr13, s_lastT, h1, -b_addT, h2, h3, h4, h5, items]
theorem some_ev {scr : D} {zs : List Size} {v2 v3 v5 v6 v7 v8 v12 : Sl} : ev c_law (.b1 .tuple e_law_3) (fr13 scr v2 v3 (.val (.tup (zs.map eS))) v5 v6 v7 v8 v12) = M.ret (.tup ((zs.map fun z => (z.1, z.2.1.take 2, z.2.2)).map eS)) := by
  have h : ∀ z : Size, sliD (.tup (z.2.1.map eN)) none (some 2) = some (.tup ((z.2.1.take 2).map eN)) := fun z => by
    rw [List.map_take]
    exact s_toT _ 2
  simp (config := { maxSteps := 400000 }) [z_rb, z_bb, z_br, z_os, z_on, z_nb, z_I, z_B, z_O, z_L, z_ib, z_oi, z_lcD, z_lcM, z_lcF, z_lcA, z_lcI, z_catD, z_catM, z_catA, z_catF, -List.map_take, -List.length_flatMap, line1, Cv.run, sts, st, ev, evt, evc, evs, evo, evi, startE, asgC, asg2C, asg3C, asg4C, z_ft, setV, slO, Function.comp_def, wipeE, seqD, fr13, e_law_3, eS, h]
end liftedworlds_k63_sizes_by_kind

namespace liftedworlds_k63_sizes_by_kind
open PySem Cv Cv.Kp
theorem z_S {α : Type} {m : M α} {a : α} (h : m = M.ret a) (S : Sto) : m S = some (a, S) := by rw [h]; rfl
theorem looks {scr : D} {ts : List D} {v3 v4 v5 v6 v7 v8 v12 : Sl} (ht : ∀ t ∈ ts, Th t) : ∃ w6 w8, forM (fun d en1 => M.opt (asg (.nm 6) d en1)) (fun en1 => sts c_law b_law_2 en1) ts (fr13 scr (.val (.lst ts)) v3 v4 v5 v6 v7 v8 v12) = M.ret (.nx, fr13 scr (.val (.lst ts)) v3 v4 v5 w6 v7 w8 v12) := by
  obtain ⟨en', fo, w6, w8, rfl⟩ := z_forR (ps := ts) (f := fun d : D => d) (a := fun d en1 => M.opt (asg (.nm 6) d en1)) (b := fun en1 => sts c_law b_law_2 en1)
    (fun l en => ∃ w6 w8, en = fr13 scr (.val (.lst ts)) v3 v4 v5 w6 v7 w8 v12) (fun l x r en e ⟨w6, w8, he⟩ => by
      subst he
      obtain ⟨u8, h⟩ := look1 (scr := scr) (v2 := .val (.lst ts)) (v3 := v3) (v4 := v4) (v5 := v5) (v6 := w6) (v7 := v7) (v8 := w8) (v12 := v12) (ht x (by rw [e]; simp))
      exact ⟨_, h, _, _, rfl⟩) ts [] (fr13 scr (.val (.lst ts)) v3 v4 v5 v6 v7 v8 v12) rfl ⟨_, _, rfl⟩
  rw [List.map_id'] at fo
  exact ⟨w6, w8, fo⟩
theorem ro_81 {cs : List Nat} (h : cs.length ≤ 2) (h2 : ∀ n ∈ cs, n ≤ 9) : (ro cs).length ≤ 81 := by
  match cs, h with
  | [], _ => exact (by decide : ([[]] : List (List Str)).length ≤ 81)
  | [a], _ =>
    have := nxt_len [[]] a
    have ha := h2 a (by simp)
    have e : ro [a] = nxt [[]] a := rfl
    rw [e]
    simp at this
    omega
  | [a, b], _ =>
    have h3 := nxt_len [[]] a
    have h4 := nxt_len (nxt [[]] a) b
    have ha := h2 a (by simp)
    have hb := h2 b (by simp)
    have e : ro [a, b] = nxt (nxt [[]] a) b := rfl
    rw [e]
    have h5 : (nxt [[]] a).length * b ≤ 9 * 9 := Nat.mul_le_mul (by simp at h3; omega) hb
    omega
theorem even_ok {zs : List Size} (hz : ∀ z ∈ zs, OkS z) (hl : zs.length ≤ 4) : ∃ s, m_even_base [.tup ((zs.map fun z => (z.1, z.2.1.take 2, z.2.2)).map eS)] = M.ret (.tup ((zs.map fun z => (z.1, z.2.1.take 2, z.2.2)).map eT)) ∧
    m_w_even [.tup ((zs.map fun z => (z.1, z.2.1.take 2, z.2.2)).map eS)] = M.ret (.tup ((zs.map fun z => (z.1, z.2.1.take 2, z.2.2)).map eT)) ∧ b1D .repr (.tup ((zs.map fun z => (z.1, z.2.1.take 2, z.2.2)).map eT)) = some (.str s) := by
  refine same_base (b := 4 * (896 + 1)) (fun z hm => ?_) (by rw [List.length_map]; omega) (gs_map (k := 4) (b := 896) (fun z hm => ?_) (by rw [List.length_map]; exact hl)) (by decide)
  · obtain ⟨y, hy, rfl⟩ := List.mem_map.mp hm
    rw [List.length_take]; omega
  · obtain ⟨y, hy, rfl⟩ := List.mem_map.mp hm
    have o := hz y hy
    have hn : (y.1.cps.toList.all fun c => decide (c < 128)) = true ∧ y.1.length ≤ 1 := by
      have := o.nm
      simp only [List.mem_cons, List.not_mem_nil, or_false] at this
      rcases this with e | e | e | e <;> rw [e] <;> decide
    have c2 : (y.2.1.take 2).length ≤ 2 := by rw [List.length_take]; omega
    exact (gd_T (N := 2 ^ 300) (k := 81) (z := (y.1, y.2.1.take 2, y.2.2)) hn.1 hn.2 c2 (ro_81 c2 fun n h => o.ct n (List.mem_of_mem_take h)) (Nat.le_trans o.od.1 (by decide)) (Nat.le_trans o.od.2 (by decide)) (by decide)).mono (Nat.le_refl _) (by decide) (by decide)
/-- one lap -/
theorem lap {scr : D} {ts : List D} {i c : Int} {S : Sto} {v3 v4 v5 v6 v7 v8 v12 : Sl} (T : Fp c S) (hc : c < 2 ^ 13) (hts : ∀ t ∈ ts, Th t) (hl : ts.length ≤ 50) :
    ∃ w4 w5 w6 w7 w8 S', sts c_law b_law_4 (fr13 scr (.own (.ol ts)) (.val (.int i)) v4 v5 v6 v7 v8 v12) S = some ((.nx, fr13 scr (.own (.ol [])) (.val (.int i)) w4 w5 w6 w7 w8 v12), S') ∧ Fp (c + 500) S' := by
  obtain ⟨w, top, hw, ht, h1, h2⟩ : ∃ w top : Int, b1D .int (.bl (i == 0)) = some (.int w) ∧ atD [D.int 3, D.int 9] w = some (.int top) ∧ 0 < top ∧ top ≤ 9 := by
    cases h : (i == 0)
    · exact ⟨0, 3, rfl, rfl, by decide, by decide⟩
    · exact ⟨1, 9, rfl, rfl, by decide, by decide⟩
  obtain ⟨zs, S1, e1, q1, l1, T1⟩ := sizes_ok (most := 3) T (by omega) (by decide) (by decide) h1 h2
  have gX : Gs (10 ^ 59) 40 2 (zs.map eS) := gs_map (k := 4) (b := 9) (fun z hz => gd_S (q1 z hz)) l1
  have hX : Gd' (10 ^ 59) 80 3 (.tup (zs.map eS)) := gX.tup.mono (Nat.le_refl _) (by decide) (Nat.le_refl _)
  have hxl : (zs.map eS).length ≤ 40 := by rw [List.length_map]; omega
  have h3 : ∀ t ∈ ts ++ items (zs.map eS), Th t := fun t ht => (List.mem_append.mp ht).elim (hts t) (items_ok gX t)
  obtain ⟨ys, w5, w6, S2, e2, q2, T2⟩ := ten_ok (scr := scr) (v3 := .val (.int i)) (v5 := v5) (v6 := v6) (v7 := v7) (v8 := v8) (v12 := v12) hX T1 (by omega) h3 (by rw [List.length_append]; show ts.length + 7 ≤ 100; omega)
  obtain ⟨w6', w8, e3⟩ := looks (scr := scr) (v3 := .val (.int i)) (v4 := .val (.tup (zs.map eS))) (v5 := w5) (v6 := w6) (v7 := v7) (v8 := v8) (v12 := v12) q2
  obtain ⟨s, b1, b2, b3⟩ := even_ok q1 l1
  refine ⟨.val (.tup (zs.map eS)), w5, w6', .val (.tup ((zs.map fun z => (z.1, z.2.1.take 2, z.2.2)).map eS)), w8, S2, ?_, T2.mono (by omega)⟩
  refine sts_go (S1 := S1) (en1 := fr13 scr (.own (.ol ts)) (.val (.int i)) (.val (.tup (zs.map eS))) v5 v6 v7 v8 v12) ?_
    (sts_go (S1 := S1) (en1 := fr13 scr (.val (.lst ts)) (.val (.int i)) (.val (.tup (zs.map eS))) v5 v6 v7 v8 v12) ?_
    (sts_go (z_S (items_ev hxl hl) S1)
    (sts_go (st_frr (S1 := S1) (ds := rangeD 0 10) ?_ e2)
    (sts_go (S1 := S2) (en1 := fr13 scr (.val (.lst ys)) (.val (.int i)) (.val (.tup (zs.map eS))) w5 w6 v7 v8 v12) ?_
    (sts_go (st_frr (S1 := S2) (ds := ys) ?_ (z_S e3 S2))
    (sts_go (S1 := S2) (en1 := fr13 scr (.own (.ol [])) (.val (.int i)) (.val (.tup (zs.map eS))) w5 w6' v7 w8 v12) ?_
    (sts_go (st_set (z_S some_ev S2) rfl)
    (sts_ret' (st_ifF (S1 := S2) ?_ sts_end)))))))))
  · simp [fr13, st, ev, evs, asg, setV, hw, ht, e1]
  · simp [fr13, st, frzE]
  · simp [evi, ev, show rgOk 10 = true from by decide]
  · simp [fr13, st, frzE]
  · simp [fr13, evi, ev, seqD]
  · simp [fr13, st, ev, evs]
  · have e4 := r_same b3
    refine z_S ?_ S2
    generalize (zs.map fun z => (z.1, z.2.1.take 2, z.2.2)) = ys2 at b1 b2 e4
    simp (config := { maxSteps := 400000 }) [z_rb, z_bb, z_br, z_os, z_on, z_nb, z_I, z_B, z_O, z_L, z_ib, z_oi, z_lcD, z_lcM, z_lcF, z_lcA, z_lcI, z_catD, z_catM, z_catA, z_catF, -List.map_take, -List.length_flatMap, line1, Cv.run, sts, st, ev, evt, evc, evs, evo, evi, startE, asgC, asg2C, asg3C, asg4C, z_ft, setV, slO, Function.comp_def, wipeE, seqD, fr13, b1, b2, e4]
theorem r_feed {ns : List Int} : ∃ cs, m_w_feed [.lst (ns.map D.int)] [] = some (.obj 0, [.cel (feed cs 0 0 0)]) := by
  refine ⟨cutD ns none (some 63), ?_⟩
  have e : cutD (ns.map D.int) none (some 63) = (cutD ns none (some 63)).map D.int := by
    unfold cutD
    rw [List.length_map, List.map_take, List.map_drop]
  have e2 : sliD (.lst (ns.map D.int)) none (some 63) = some (.lst (cutD (ns.map D.int) none (some 63))) := rfl
  simp [m_w_feed, Cv.run, b_w_feed, N_w_feed, sts, st, ev, evs, evo, startE, e2, e, newO, feed]
def far (n : Nat) : List Size := [(Str.ofString "s", [27 + n], (1, 2)), (Str.ofString "t", [2, 30], (1, 3))]
theorem far_ok {n : Nat} (h : n ≤ 299) : ∃ s, m_even_base [.tup ((far n).map eS)] = M.ret (.tup ((far n).map eT)) ∧ m_w_even [.tup ((far n).map eS)] = M.ret (.tup ((far n).map eT)) ∧ b1D .repr (.tup ((far n).map eT)) = some (.str s) := by
  refine same_base (b := 3592 + (666 + 0)) (fun z hm => ?_) (show 2 ≤ 100 by decide) ?_ (by decide)
  · simp only [far, List.mem_cons, List.not_mem_nil, or_false] at hm
    rcases hm with rfl | rfl
    · exact (show 1 ≤ 2 by decide)
    · exact (show 2 ≤ 2 by decide)
  · have g1 := gd_T (N := 2 ^ 300) (k := 326) (z := (Str.ofString "s", [27 + n], (1, 2))) (show ((Str.ofString "s").cps.toList.all fun c => decide (c < 128)) = true by decide) (show (Str.ofString "s").length ≤ 1 by decide) (show 1 ≤ 2 by decide) (by
      have := nxt_len [[]] (27 + n)
      have e : ro [27 + n] = nxt [[]] (27 + n) := rfl
      show (ro [27 + n]).length ≤ 326
      rw [e]
      simp at this
      omega) (show (1 : Int).natAbs ≤ 2 ^ 300 by decide) (show (2 : Int).natAbs ≤ 2 ^ 300 by decide) (by decide)
    have g2 := gd_T (N := 2 ^ 300) (k := 60) (z := (Str.ofString "t", [2, 30], (1, 3))) (by decide) (by decide) (by decide) (by decide +kernel) (by decide) (by decide) (by decide)
    exact ((Gs.one g1).app (Gs.one g2)).mono (Nat.le_refl _) (by decide) (by decide)
theorem says (ns : List Int) (_hn : ns.length ≤ 63) : ∃ S', m_law [.lst (ns.map D.int)] [] = some (.bl true, S') := by
  obtain ⟨cs, et⟩ := r_feed (ns := ns)
  have F0 : Fp 0 [.cel (feed cs 0 0 0)] := ⟨cs, 0, 0, 0, rfl, by decide, by decide, by decide, by decide⟩
  generalize hscr : D.lst (ns.map D.int) = scr at et ⊢
  obtain ⟨en', S1, fo, ts, v3, v4, v5, v6, v7, v8, rfl, q1, q2, T1⟩ := for_items (f := D.int) (a := fun d en1 => M.opt (asg (.nm 3) d en1)) (b := fun en1 => sts c_law b_law_4 en1) (ps := (List.range 3).map fun (k : Nat) => ((0 : Int) + (k : Int)))
    (fun l en S => ∃ (ts : List D) (v3 v4 v5 v6 v7 v8 : Sl), en = fr13 scr (.own (.ol ts)) v3 v4 v5 v6 v7 v8 .no ∧ (∀ t ∈ ts, Th t) ∧ ts.length ≤ 50 ∧ Fp (500 * l.length) S)
    (fun l i r en S0 e ⟨ts, v3, v4, v5, v6, v7, v8, he, q1, q2, T⟩ => by
      subst he
      have hl : l.length < 3 := by have := congrArg List.length e; simp at this; omega
      obtain ⟨w4, w5, w6, w7, w8, S', e1, T'⟩ := lap (scr := scr) (i := i) (v3 := .val (.int i)) (v4 := v4) (v5 := v5) (v6 := v6) (v7 := v7) (v8 := v8) (v12 := .no) T (by omega) q1 q2
      exact ⟨fr13 scr (.own (.ol ts)) (.val (.int i)) v4 v5 v6 v7 v8 .no, S0, _, S', rfl, e1, [], _, _, _, _, _, _, rfl, (fun _ h => nomatch h), by decide, T'.mono (by simp; omega)⟩) _ [] (fr13 scr (.own (.ol T0)) .no .no .no .no .no .no .no) [.cel (feed cs 0 0 0)] rfl ⟨_, _, _, _, _, _, _, rfl, (fun t ht => small_ok (List.all_eq_true.mp T0_ok t ht)), by decide, F0.mono (by simp)⟩
  obtain ⟨v, S2, t2, a2, b2, T2⟩ := draw_ok T1 (many := 300) (by simp) (by decide) (by decide)
  obtain ⟨n, rfl⟩ : ∃ n : Nat, v = n := ⟨v.toNat, by omega⟩
  obtain ⟨s, b1, b2', b3⟩ := far_ok (n := n) (by omega)
  have e4 := r_same b3
  have ef : D.tup ((far n).map eS) = .tup [.tup [.str "s", .tup [.int (27 + n)], .tup [.int 1, .int 2]], .tup [.str "t", .tup [.int 2, .int 30], .tup [.int 1, .int 3]]] := by
    simp [far, eS, eN, fr]
  have hr : rangeD 0 3 = (((List.range 3).map fun (k : Nat) => ((0 : Int) + (k : Int))).map D.int) := rfl
  refine ⟨S2, run_go rfl (sts_go (S1 := [.cel (feed cs 0 0 0)]) (en1 := fr13 scr .no .no .no .no .no .no .no .no) ?_ (sts_go (S1 := [.cel (feed cs 0 0 0)]) (en1 := fr13 scr (.own (.ol T0)) .no .no .no .no .no .no .no) ?_
    (sts_go (st_frr (S1 := [.cel (feed cs 0 0 0)]) (ds := rangeD 0 3) ?_ (by rw [hr]; exact fo)) (sts_go (S1 := S2) (en1 := fr13 scr (.own (.ol ts)) v3 v4 v5 v6 v7 v8 (.val (.tup ((far n).map eS)))) ?_ (sts_fin ?_)))))⟩
  · simp [st, ev, evs, startE, N_law, et, asg, setV, fr13]
  · simp [fr13, st, ev, evs, T0]
  · simp [evi, ev, show rgOk 3 = true from by decide]
  · rw [ef]
    simp [fr13, st, ev, evs, t2, asg, setV]
  · refine z_S ?_ S2
    simp (config := { maxSteps := 400000 }) [z_rb, z_bb, z_br, z_os, z_on, z_nb, z_I, z_B, z_O, z_L, z_ib, z_oi, z_lcD, z_lcM, z_lcF, z_lcA, z_lcI, z_catD, z_catM, z_catA, z_catF, -List.map_take, -List.length_flatMap, line1, Cv.run, sts, st, ev, evt, evc, evs, evo, evi, startE, asgC, asg2C, asg3C, asg4C, z_ft, setV, slO, Function.comp_def, wipeE, seqD, fr13, b1, b2', e4]
end liftedworlds_k63_sizes_by_kind

open PySem PySem.W PySem.Calls PyProof.Rows
theorem PySem.Challenge.cw_liftedworlds_k63_sizes_by_kind_holds : PySem.Challenge.rw_liftedworlds_k63_sizes_by_kind.Holds := by
  w_on; o_law
  refine HandSHeadRun.head_any (r := OpenLaw.row PySem.Challenge.rw_liftedworlds_k63_sizes_by_kind) (q := view (OpenLaw.row PySem.Challenge.rw_liftedworlds_k63_sizes_by_kind).prog [30]) (H := liftedworlds_k63_sizes_by_kind.hk) (ob := liftedworlds_k63_sizes_by_kind.ob) (M := 2000) (loose := liftedworlds_k63_sizes_by_kind.loose) (d := HandSHeadRun.topDef (OpenLaw.row PySem.Challenge.rw_liftedworlds_k63_sizes_by_kind).prog 30) (kwd := []) liftedworlds_k63_sizes_by_kind.ob_eq
    (by kernel_rfl) (fun s => by kernel_rfl) liftedworlds_k63_sizes_by_kind.run0 (by kernel_rfl) (by kernel_rfl) (by kernel_rfl) (by rfl) (by first | assumption | decide +kernel) (by decide +kernel) ⟨rfl, rfl, rfl, rfl, rfl, by decide +kernel⟩ ?hw ?hc
  case hw => w_witness2
  case hc =>
    refine Cv.walk_C (l := PySem.Challenge.rw_liftedworlds_k63_sizes_by_kind) (n := 63) (k := 10) (x := "_law_script") rfl (by decide) (by kernel_rfl) ⟨rfl, by decide, by decide⟩ rfl fun w mg fa h Y G hmg0 => ?_
    obtain ⟨K, KX, c⟩ := Y
    have hmg : mg ("law" : PySem.Str) = some (.ref fa) := by
      have e : (HandSHeadRun.topDef (OpenLaw.row PySem.Challenge.rw_liftedworlds_k63_sizes_by_kind).prog 30).name = ("law" : PySem.Str) := by kernel_rfl
      rw [← e]
      exact hmg0
    obtain ⟨fd, hb, hF⟩ := liftedworlds_k63_sizes_by_kind.facts (P := PySem.Challenge.rw_liftedworlds_k63_sizes_by_kind.prog) (w := w) KX G hmg c
    exact ⟨K, fd, liftedworlds_k63_sizes_by_kind.m_law, KX, hb, liftedworlds_k63_sizes_by_kind.says, hF⟩
