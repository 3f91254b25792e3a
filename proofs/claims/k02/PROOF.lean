import PyProof.Rows.All
import Wide.All
import OpenK.AllK
import Wide.FinOn
import HandS.ForMost
import HandS.ForExc
import HandS.Wide
import HandS.Walk
import HandS.TupAny
import HandS.TupMul
import HandS.Style
import HandS.Rev
import HandS.RevRange
import HandS.Zip
import HandS.IsInst
import HandS.CallSlots
import HandS.SortInts
import HandS.Defaults
import HandS.Small
import HandS.Star
import HandS.Conv
import HandS.WideBits
import PyProof.FactsAll.dict
import PyProof.NeKinds
import PyProof.Rows.SumAny
import PyProof.WalksMore
import HandS.Dict
import HandS.More
import HandS.RaiseMore
import KE.GoesMore
import HandS.SetFor
import HandS.Strs
import HandS.NoneIn
import HandS.DictTup
import HandS.MapObj
import HandS.RevTup
import KE.BitLaws
import PySem.Challenge.RW_pointsenough_k02_whole_lines_through
set_option Elab.async false
set_option linter.all false
set_option maxRecDepth 100000
namespace Px
open PySem
inductive PV where
  | non | bl (b : Bool) | int (i : Int) | str (s : Str)
  | tup (xs : List PV) | lst (xs : List PV) | dic (ks : List L2.Key) (vs : List PV)
  | loc (l : Nat) | ty (n : String) | scr (ns : List Int)
deriving Inhabited
inductive Ob where
  | lst (xs : List PV) | dic (ks : List L2.Key) (vs : List PV) | ins (c : Nat) (fs : List (Str × PV)) | gone
abbrev Mem := List Ob
abbrev Env := List (Option PV)
mutual
def PV.bel (n : Nat) : PV → Bool
  | .tup xs => PV.belA n xs
  | .lst xs => PV.belA n xs
  | .dic _ xs => PV.belA n xs
  | .loc l => decide (l < n)
  | .non => true | .bl _ => true | .int _ => true | .str _ => true | .ty _ => true | .scr _ => true
def PV.belA (n : Nat) : List PV → Bool
  | [] => true
  | x :: xs => PV.bel n x && PV.belA n xs
end
def Ob.bel (n : Nat) : Ob → Bool
  | .lst xs => PV.belA n xs
  | .dic _ xs => PV.belA n xs
  | .ins _ fs => fs.all fun p => p.2.bel n
  | .gone => true
mutual
def PV.beq : PV → PV → Bool
  | .non, .non => true
  | .bl a, .bl b => a == b
  | .int a, .int b => decide (a = b)
  | .str a, .str b => decide (a = b)
  | .tup xs, .tup ys => PV.beqA xs ys
  | .lst xs, .lst ys => PV.beqA xs ys
  | .dic ks xs, .dic js ys => decide (ks = js) && PV.beqA xs ys
  | .loc a, .loc b => decide (a = b)
  | .ty a, .ty b => decide (a = b)
  | .scr a, .scr b => decide (a = b)
  | _, _ => false
def PV.beqA : List PV → List PV → Bool
  | [], [] => true
  | x :: xs, y :: ys => PV.beq x y && PV.beqA xs ys
  | _, _ => false
end
mutual
theorem PV.beq_refl : ∀ a : PV, PV.beq a a = true
  | .non => rfl
  | .bl a => by simp [PV.beq]
  | .int a => by simp [PV.beq]
  | .str a => by simp [PV.beq]
  | .tup xs => by simp [PV.beq, PV.beqA_refl xs]
  | .lst xs => by simp [PV.beq, PV.beqA_refl xs]
  | .dic ks xs => by simp [PV.beq, PV.beqA_refl xs]
  | .loc a => by simp [PV.beq]
  | .ty a => by simp [PV.beq]
  | .scr a => by simp [PV.beq]
theorem PV.beqA_refl : ∀ xs : List PV, PV.beqA xs xs = true
  | [] => rfl
  | x :: xs => by simp [PV.beqA, PV.beq_refl x, PV.beqA_refl xs]
end
mutual
theorem PV.beq_eq : ∀ a b : PV, PV.beq a b = true → a = b
  | .non, b, h => by cases b <;> simp_all [PV.beq]
  | .bl a, b, h => by cases b <;> simp_all [PV.beq]
  | .int a, b, h => by cases b <;> simp_all [PV.beq]
  | .str a, b, h => by cases b <;> simp_all [PV.beq]
  | .tup xs, b, h => by cases b <;> simp_all [PV.beq]; exact PV.beqA_eq _ _ h
  | .lst xs, b, h => by cases b <;> simp_all [PV.beq]; exact PV.beqA_eq _ _ h
  | .dic ks xs, b, h => by cases b <;> simp_all [PV.beq]; exact PV.beqA_eq _ _ h.2
  | .loc a, b, h => by cases b <;> simp_all [PV.beq]
  | .ty a, b, h => by cases b <;> simp_all [PV.beq]
  | .scr a, b, h => by cases b <;> simp_all [PV.beq]
theorem PV.beqA_eq : ∀ xs ys : List PV, PV.beqA xs ys = true → xs = ys
  | [], [], _ => rfl
  | [], _ :: _, h => by simp [PV.beqA] at h
  | _ :: _, [], h => by simp [PV.beqA] at h
  | x :: xs, y :: ys, h => by
    simp only [PV.beqA, Bool.and_eq_true] at h
    rw [PV.beq_eq x y h.1, PV.beqA_eq xs ys h.2]
end
structure Exc where
  cls : Str
  fs : List (Str × PV)
inductive Res (α : Type) where
  | ok (a : α) (m : Mem) | ex (x : Exc) (m : Mem) | no
def Res.bind {α β : Type} : Res α → (α → Mem → Res β) → Res β
  | .ok a m, f => f a m
  | .ex x m, _ => .ex x m
  | .no, _ => .no
def Res.nox {α : Type} : Res α → Res α
  | .ok a m => .ok a m
  | .ex _ _ => .no
  | .no => .no
@[simp] theorem Res.bind_ok {α β : Type} (a : α) (m : Mem) (f : α → Mem → Res β) : (Res.ok a m).bind f = f a m := rfl
@[simp] theorem Res.bind_ex {α β : Type} (x : Exc) (m : Mem) (f : α → Mem → Res β) : (Res.ex x m : Res α).bind f = .ex x m := rfl
@[simp] theorem Res.bind_no {α β : Type} (f : α → Mem → Res β) : (Res.no : Res α).bind f = .no := rfl
@[simp] theorem Res.nox_ok {α : Type} (a : α) (m : Mem) : (Res.ok a m).nox = .ok a m := rfl
@[simp] theorem Res.nox_ex {α : Type} (x : Exc) (m : Mem) : (Res.ex x m : Res α).nox = .no := rfl
@[simp] theorem Res.nox_no {α : Type} : (Res.no : Res α).nox = .no := rfl
inductive Op2 where | add | sub | mul | fdv | mod | pow | shl | shr | band
deriving DecidableEq
inductive Cm where | eq | ne | lt | le | gt | ge | is | isn | inn | nin
deriving DecidableEq
inductive Bf where | len | isi | int | str | tuple | all | any | sum | max | min | abs | bool | ord
deriving DecidableEq
inductive Mt where | append | pop | join | split
deriving DecidableEq
mutual
inductive Ex where
  | var (i : Nat) | gl (x : Str) (v : PV)
  | non | bl (b : Bool) | int (i : Int) | str (s : Str) | ty (n : String)
  | bin (o : Op2) (a b : Ex) | neg (a : Ex) | cmp (c : Cm) (a b : Ex) | chn (c d : Cm) (a b e : Ex)
  | and_ (a b : Ex) | or_ (a b : Ex) | not_ (a : Ex) | ite (c a b : Ex)
  | tup (es : List Ex) | pl (l : LEx) | ml (l : LEx) | emd | mdc
  | idx (a i : Ex) | slc (a : Ex) (lo hi : Option Ex)
  | call (f : Nat) (es : List Ex) | bf (b : Bf) (es : List Ex) | mt (m : Mt) (o : Ex) (es : List Ex)
  | bln (a : Ex) | rv (a : Ex) | tups (ps : List Pt) | ten (a : Ex)
inductive Pt where
  | one (e : Ex) | all (e : Ex) | rng (a b : Ex)
inductive LEx where
  | dsp (es : List Ex) | cp (own : List Nat) (t : Tg) (it : It) (c : Option Ex) (e : Ex)
  | lof (e : Ex) | cat (a b : Ex) | rep (a k : Ex) | rvs (a : Ex) | slc (a : Ex) (lo hi : Option Ex) | srt (e : Ex) | sst (e : Ex) | lrg1 (a : Ex) | lrg2 (a b : Ex) | dsps (ps : List Pt) | cp2 (own own1 : List Nat) (t : Tg) (it : It) (c : Option Ex) (t1 : Tg) (it1 : It) (c1 : Option Ex) (e : Ex)
inductive It where
  | sq (e : Ex) | rg1 (a : Ex) | rg2 (a b : Ex) | rg3 (a b c : Ex) | enm (e : Ex) | zip (a b : Ex) | rev (e : Ex) | rr1 (a : Ex) | rr2 (a b : Ex)
inductive Tg where
  | nm (i : Nat) | tp (ts : List Tg) | ix (o i : Ex)
end
inductive St where
  | asg (t : Tg) (e : Ex) | par (is : List Nat) (es : List Ex) | aug (i : Nat) (o : Op2) (e : Ex) | augx (o i : Ex) (p : Op2) (e : Ex)
  | ex (e : Ex) | ret (e : Option Ex) | iff (c : Ex) (a b : List St) | whl (c : Ex) (b : List St) | for_ (t : Tg) (it : It) (b : List St)
  | rai (c : Str) (es : List Ex) | brk | cnt | pas
def LINE : Nat := 16777216
def asL (m : Mem) : PV → Option (List PV)
  | .lst xs => some xs
  | .loc l => match m[l]? with
    | some (.lst xs) => some xs
    | _ => none
  | _ => none
def asS (m : Mem) : PV → Option (List PV)
  | .tup xs => some xs
  | v => asL m v
mutual
/-- as data for ==; none where it can't be compared -/
def toD (m : Mem) : PV → Option PyData
  | .non => some .none
  | .bl b => some (.bool b)
  | .int i => some (.int i)
  | .str s => some (.str s)
  | .tup xs => (toDA m xs).map .tuple
  | .lst xs => (toDA m xs).map .list
  | .loc _ => none
  | .dic _ _ => none
  | .ty _ => none
  | .scr _ => none
def toDA (m : Mem) : List PV → Option (List PyData)
  | [] => some []
  | x :: xs => match toD m x, toDA m xs with
    | some d, some ds => some (d :: ds)
    | _, _ => none
end
def toDT (m : Mem) (v : PV) : Option PyData :=
  match v with
  | .loc l => match m[l]? with
    | some (.lst xs) => (toDA m xs).map .list
    | _ => none
  | v => toD m v
def dicTup : PV → PV → Bool
  | .dic _ _, .tup _ => true
  | _, _ => false
def locNil : PV → PV → Bool
  | .loc _, .lst [] => true
  | _, _ => false
def pvEq (m : Mem) (x y : PV) : Option Bool := if dicTup x y = true then some false else if locNil x y = true then (asL m x).map List.isEmpty else
  match toDT m x, toDT m y with
  | some d, some e => if SeqAt.shaped d && SeqAt.shaped e then some (PyData.eqv d e) else none
  | _, _ => none
def flat : PV → Bool
  | .non => true | .bl _ => true | .int _ => true | .str _ => true | _ => false
def eqF : PV → PV → Bool
  | .non, .non => true
  | .bl a, .bl b => a == b
  | .bl a, .int j => (if a then 1 else 0) == j
  | .int i, .bl b => i == (if b then 1 else 0)
  | .int i, .int j => decide (i = j)
  | .str a, .str b => decide (a = b)
  | _, _ => false
def opBin (m : Mem) (o : Op2) (x y : PV) : Res PV :=
  match o, x, y with
  | .add, .int i, .int j => .ok (.int (i + j)) m
  | .sub, .int i, .int j => .ok (.int (i - j)) m
  | .mul, .int i, .int j => if i.natAbs.log2 + j.natAbs.log2 < 1000000 then .ok (.int (i * j)) m else .no
  | .fdv, .int i, .int j => if 0 < j ∧ j.natAbs.log2 < 9000 then .ok (.int (i / j)) m else .no
  | .mod, .int i, .int j => if 0 < j then .ok (.int (i % j)) m else .no
  | .pow, .int i, .int j => if 0 ≤ j ∧ j ≤ 1000000 ∧ i.natAbs < 2 ^ 64 then .ok (.int (i ^ j.toNat)) m else .no
  | .shl, .int i, .int j => if 0 ≤ j ∧ j ≤ 1000000 ∧ i.natAbs < 2 ^ 64 then .ok (.int (i * 2 ^ j.toNat)) m else .no
  | .shr, .int i, .int j => if 0 ≤ j then .ok (.int (i / 2 ^ j.toNat)) m else .no
  | .band, .int i, .int j => .ok (.int (Builtin.bitAnd i j)) m
  | .add, .str a, .str b => if a.length + b.length ≤ LINE then .ok (.str (a ++ b)) m else .no
  | .add, .tup xs, .tup ys => if xs.length + ys.length ≤ LINE then .ok (.tup (xs ++ ys)) m else .no
  | .mul, .tup xs, .int k => if -(2 ^ 62) ≤ k ∧ k < 2 ^ 62 ∧ xs.length * k.toNat ≤ 1000000 then .ok (.tup (List.replicate k.toNat xs).flatten) m else .no
  | .add, .lst xs, .lst ys => if xs.length + ys.length ≤ LINE then .ok (.lst (xs ++ ys)) m else .no
  | .mul, .lst xs, .int k => if -(2 ^ 62) ≤ k ∧ k < 2 ^ 62 ∧ xs.length * k.toNat ≤ 1000000 then .ok (.lst (List.replicate k.toNat xs).flatten) m else .no
  | _, _, _ => .no
def keyOf : PV → Option L2.Key
  | .int i => some (.inl i)
  | .str s => some (.inr s)
  | _ => none
def dicAt (m : Mem) (y x : PV) : Option (List L2.Key × List PV × L2.Key) := match y, keyOf x with
  | .loc l, some k => match m[l]? with
    | some (.dic ks vs) => some (ks, vs, k)
    | _ => none
  | _, _ => none
def hasK (k : L2.Key) (ks : List L2.Key) : Bool := ks.any fun j => decide (j = k)
def inD (m : Mem) (y x : PV) (f : Bool → Bool) : Res PV := match dicAt m y x with
  | some q => .ok (.bl (f (hasK q.2.2 q.1))) m
  | none => .no
def getK (k : L2.Key) : List L2.Key → List PV → Option PV
  | j :: js, v :: vs => if j = k then some v else getK k js vs
  | _, _ => none
def putKk (k : L2.Key) (v : PV) (ks : List L2.Key) (vs : List PV) : List L2.Key × List PV :=
  if hasK k ks = true then (ks, (ks.zip vs).map fun p => if p.1 = k then v else p.2) else (ks ++ [k], vs ++ [v])
def asInts : List PV → Option (List Int)
  | [] => some []
  | .int i :: r => (asInts r).map (i :: ·)
  | _ => none
def ltT (m : Mem) (xs ys : List PV) : Res PV := match asInts xs, asInts ys with
  | some ns, some ms => .ok (.bl (HT.lexLt ns ms)) m
  | _, _ => .no
def inDs (m : Mem) (d : PyData) (ds : List PyData) (f : Bool → Bool) : Res PV := if d.canLay0 && decide (d.depth ≤ 60) && PyData.canLayAll0 ds then .ok (.bl (f (ds.any fun z => PyData.eqv z d))) m else .no
def inDat (m : Mem) (x y : PV) (f : Bool → Bool) : Res PV := match toDT m x, toDT m y with
  | some d, some (.tuple ds) => inDs m d ds f
  | some d, some (.list ds) => inDs m d ds f
  | _, _ => .no
def opCmp (m : Mem) (c : Cm) (x y : PV) : Res PV :=
  match c with
  | .eq => match pvEq m x y with
    | some b => .ok (.bl b) m
    | none => .no
  | .ne => match pvEq m x y with
    | some b => .ok (.bl (!b)) m
    | none => .no
  | .lt => match x, y with
    | .int i, .int j => .ok (.bl (decide (i < j))) m
    | .tup xs, .tup ys => ltT m xs ys
    | _, _ => .no
  | .le => match x, y with
    | .int i, .int j => .ok (.bl (decide (i ≤ j))) m
    | _, _ => .no
  | .gt => match x, y with
    | .int i, .int j => .ok (.bl (decide (j < i))) m
    | _, _ => .no
  | .ge => match x, y with
    | .int i, .int j => .ok (.bl (decide (j ≤ i))) m
    | _, _ => .no
  | .is => match x, y with
    | .bl a, .bl b => .ok (.bl (decide (a = b))) m
    | .non, .non => .ok (.bl true) m
    | _, .non => .ok (.bl false) m
    | _, _ => .no
  | .isn => match x, y with
    | .bl a, .bl b => .ok (.bl (!decide (a = b))) m
    | .non, .non => .ok (.bl false) m
    | _, .non => .ok (.bl true) m
    | _, _ => .no
  | .inn => match asS m y with
    | some ys => if flat x && ys.all flat then .ok (.bl (ys.any fun z => eqF z x)) m else inDat m x y id
    | none => inD m y x id
  | .nin => match asS m y with
    | some ys => if flat x && ys.all flat then .ok (.bl (!ys.any fun z => eqF z x)) m else inDat m x y not
    | none => inD m y x not
end Px
set_option Elab.async false
set_option linter.all false
set_option maxRecDepth 100000
namespace Px
open PySem
def idxD (m : Mem) (x y : PV) : Res PV := match dicAt m x y with
  | some q => match getK q.2.2 q.1 q.2.1 with
    | some v => .ok v m
    | none => .no
  | none => .no
def opIdx (m : Mem) (x y : PV) : Res PV :=
  match y with
  | .int i => match asS m x with
    | some xs => match L2.atI xs i with
      | some v => .ok v m
      | none => .no
    | none => match x with
      | .str z => if z.length ≤ LINE then match L2.atI z.cps.toList i with
        | some c => .ok (.str ⟨#[c]⟩) m
        | none => .no else .no
      | .scr ns => match L2.atI ns i with
        | some k => .ok (.int k) m
        | none => .no
      | x => idxD m x (.int i)
  | y => idxD m x y
def cutP (xs : List PV) (lo hi : Option Int) : List PV := (xs.drop (HT.sIx xs.length 0 lo)).take (HT.sIx xs.length xs.length hi - HT.sIx xs.length 0 lo)
def opSlc (m : Mem) (x : PV) (lo hi : Option Int) : Res PV :=
  match x with
  | .tup xs => .ok (.tup (cutP xs lo hi)) m
  | x => match asL m x with
    | some xs => .ok (.lst (cutP xs lo hi)) m
    | none => match x with
      | .str z => if z.length ≤ LINE then .ok (.str (L2.cutS z lo hi)) m else .no
      | _ => .no
def asTru : List PV → Option (List Bool)
  | [] => some []
  | .bl i :: r => (asTru r).map (i :: ·)
  | .int i :: r => (asTru r).map ((i != 0) :: ·)
  | _ => none
def tyNm : PV → Option String
  | .non => some "NoneType" | .bl _ => some "bool" | .int _ => some "int" | .str _ => some "str" | .tup _ => some "tuple" | .lst _ => some "list" | .dic _ _ => some "dict" | _ => none
def tyOf (m : Mem) : PV → Option String
  | .loc l => match m[l]? with
    | some (.lst _) => some "list"
    | some (.dic _ _) => some "dict"
    | _ => none
  | v => tyNm v
def isTy (t c : String) : Option Bool :=
  if t = c then some true
  else if t ∈ ["NoneType", "bool", "int", "str", "tuple", "list", "dict"] ∧ c ∈ ["bool", "int", "str", "tuple", "list", "dict"] then some (decide (t = "bool" ∧ c = "int")) else none
def asTys : List PV → Option (List String)
  | [] => some []
  | .ty c :: r => (asTys r).map (c :: ·)
  | _ => none
def isTys (t : String) : List String → Option Bool
  | [] => some false
  | c :: r => match isTy t c with
    | some true => some true
    | some false => isTys t r
    | none => none
def maxL : Int → List Int → Int
  | a, [] => a
  | a, b :: r => maxL (if b > a then b else a) r
def minL : Int → List Int → Int
  | a, [] => a
  | a, b :: r => minL (if b < a then b else a) r
def opBf (m : Mem) (b : Bf) (vs : List PV) : Res PV :=
  match b, vs with
  | .len, [x] => match asS m x with
    | some xs => .ok (.int xs.length) m
    | none => match x with
      | .str z => if z.length ≤ LINE then .ok (.int z.length) m else .no
      | .scr ns => .ok (.int ns.length) m
      | _ => .no
  | .isi, [x, .ty c] => match tyOf m x with
    | some t => match isTy t c with
      | some b => .ok (.bl b) m
      | none => .no
    | none => .no
  | .isi, [x, .tup cs] => match tyOf m x with
    | some t => match (asTys cs).bind (isTys t) with
      | some b => .ok (.bl b) m
      | none => .no
    | none => .no
  | .int, [.int i] => .ok (.int i) m
  | .int, [.bl k] => .ok (.int (if k then 1 else 0)) m
  | .str, [.int i] => if i.natAbs.log2 < 1920 then .ok (.str (toString i)) m else .no
  | .str, [.str s] => .ok (.str s) m
  | .tuple, [x] => match x with
    | .tup xs => .ok (.tup xs) m
    | x => match asL m x with
      | some xs => .ok (.tup xs) m
      | none => .no
  | .all, [x] => match (asS m x).bind asTru with
    | some bs => .ok (.bl (bs.all id)) m
    | none => .no
  | .any, [x] => match (asS m x).bind asTru with
    | some bs => .ok (.bl (bs.any id)) m
    | none => .no
  | .sum, [x] => match (asS m x).bind asInts with
    | some ns => .ok (.int ns.sum) m
    | none => .no
  | .max, [.int i, .int j] => .ok (.int (if j > i then j else i)) m
  | .min, [.int i, .int j] => .ok (.int (if j < i then j else i)) m
  | .max, [x] => match (asL m x).bind asInts with
    | some (n :: ns) => .ok (.int (maxL n ns)) m
    | _ => .no
  | .min, [x] => match (asL m x).bind asInts with
    | some (n :: ns) => .ok (.int (minL n ns)) m
    | _ => .no
  | .abs, [.int i] => .ok (.int (if i < 0 then -i else i)) m
  | .bool, [.int i] => .ok (.bl (i != 0)) m
  | .bool, [.bl k] => .ok (.bl k) m
  | .ord, [.str x] => if x.length = 1 then .ok (.int (x.cps.getD 0 0 : Nat)) m else .no
  | _, _ => .no
def asStrs : List PV → Option (List Str)
  | [] => some []
  | .str i :: r => (asStrs r).map (i :: ·)
  | _ => none
def opMt (m : Mem) (b : Mt) (o : PV) (vs : List PV) : Res PV :=
  match b, o, vs with
  | .append, .loc l, [v] => match m[l]? with
    | some (.lst xs) => if xs.length < LINE then .ok .non (m.set l (.lst (xs ++ [v]))) else .no
    | _ => .no
  | .pop, .loc l, [] => match m[l]? with
    | some (.lst xs) => match xs[xs.length - 1]? with
      | some v => .ok v (m.set l (.lst xs.dropLast))
      | none => .no
    | _ => .no
  | .join, .str a, [x] => match (asS m x).bind asStrs with
    | some ys => if (ys.map (·.length)).sum + ys.length * a.length ≤ LINE then .ok (.str (Txt.join a ys)) m else .no
    | none => .no
  | .split, .str a, [.str b] => if (b.length == 0) = false ∧ a.length + 2 ≤ LINE then .ok (.lst ((Txt.split a b).map PV.str)) m else .no
  | _, _, _ => .no
abbrev Call := Nat → List PV → Mem → Res PV
def wipeP (η : Env) : List Nat → Env
  | [] => η
  | v :: vs => (wipeP η vs).set v none
def guards (g : List (Nat × List PV)) (m : Mem) : Bool := g.all fun p => match m[p.1]? with
  | some (.lst ys) => PV.beqA ys p.2
  | _ => false
@[simp] theorem guards_nil (m : Mem) : guards [] m = true := rfl
def lcGo (g : List (Nat × List PV)) (bind : PV → Env → Mem → Res Env) (cnd : Env → Mem → Res Bool) (el : Env → Mem → Res PV) (η : Env) : List PV → Mem → Res (List PV)
  | [], m => if guards g m then .ok [] m else .no
  | x :: xs, m => if guards g m then
      (bind x η m).bind fun η1 m1 => (cnd η1 m1).bind fun b m2 => if b then (el η1 m2).bind fun v m3 => (lcGo g bind cnd el η xs m3).bind fun vs m4 => .ok (v :: vs) m4 else lcGo g bind cnd el η xs m2
    else .no
def lc2Go (g : List (Nat × List PV)) (bind : PV → Env → Mem → Res Env) (cnd : Env → Mem → Res Bool) (inner : Env → Mem → Res (List PV)) (η : Env) : List PV → Mem → Res (List PV)
  | [], m => if guards g m then .ok [] m else .no
  | x :: xs, m => if guards g m then
      (bind x η m).bind fun η1 m1 => (cnd η1 m1).bind fun b m2 => if b then (inner η1 m2).bind fun ys m3 => (lc2Go g bind cnd inner η xs m3).bind fun vs m4 => .ok (ys ++ vs) m4 else lc2Go g bind cnd inner η xs m2
    else .no
inductive RS where
  | nx (η : Env) (m : Mem) | rt (v : PV) (m : Mem) | bk (η : Env) (m : Mem) | ct (η : Env) (m : Mem) | ex (x : Exc) (η : Env) (m : Mem) | no
def Res.st {α : Type} (r : Res α) (η : Env) (f : α → Mem → RS) : RS := match r with
  | .ok a m => f a m
  | .ex x m => .ex x η m
  | .no => .no
@[simp] theorem Res.st_ok {α : Type} (a : α) (m : Mem) (η : Env) (f : α → Mem → RS) : (Res.ok a m).st η f = f a m := rfl
@[simp] theorem Res.st_ex {α : Type} (x : Exc) (m : Mem) (η : Env) (f : α → Mem → RS) : (Res.ex x m : Res α).st η f = .ex x η m := rfl
@[simp] theorem Res.st_no {α : Type} (η : Env) (f : α → Mem → RS) : (Res.no : Res α).st η f = .no := rfl
def loopK (r : RS) (k : Env → Mem → RS) : RS := match r with
  | .nx η m => k η m
  | .ct η m => k η m
  | .bk η m => .nx η m
  | r => r
def seqK (r : RS) (k : Env → Mem → RS) : RS := match r with
  | .nx η m => k η m
  | r => r
@[simp] theorem loopK_nx (η : Env) (m : Mem) (k : Env → Mem → RS) : loopK (.nx η m) k = k η m := rfl
@[simp] theorem gC (η : Env) (m : Mem) (k : Env → Mem → RS) : loopK (.ct η m) k = k η m := rfl
@[simp] theorem gD (η : Env) (m : Mem) (k : Env → Mem → RS) : loopK (.bk η m) k = .nx η m := rfl
@[simp] theorem gE (v : PV) (m : Mem) (k : Env → Mem → RS) : loopK (.rt v m) k = .rt v m := rfl
@[simp] theorem loopK_ex (x : Exc) (η : Env) (m : Mem) (k : Env → Mem → RS) : loopK (.ex x η m) k = .ex x η m := rfl
@[simp] theorem gF (k : Env → Mem → RS) : loopK .no k = .no := rfl
@[simp] theorem seqK_nx (η : Env) (m : Mem) (k : Env → Mem → RS) : seqK (.nx η m) k = k η m := rfl
@[simp] theorem gH (η : Env) (m : Mem) (k : Env → Mem → RS) : seqK (.ct η m) k = .ct η m := rfl
@[simp] theorem gI (η : Env) (m : Mem) (k : Env → Mem → RS) : seqK (.bk η m) k = .bk η m := rfl
@[simp] theorem gJ (v : PV) (m : Mem) (k : Env → Mem → RS) : seqK (.rt v m) k = .rt v m := rfl
@[simp] theorem seqK_ex (x : Exc) (η : Env) (m : Mem) (k : Env → Mem → RS) : seqK (.ex x η m) k = .ex x η m := rfl
@[simp] theorem gK (k : Env → Mem → RS) : seqK .no k = .no := rfl
def frGo (g : List (Nat × List PV)) (bind : PV → Env → Mem → Res Env) (body : Env → Mem → RS) : List PV → Env → Mem → RS
  | [], η, m => if guards g m then .nx η m else .no
  | x :: xs, η, m => if guards g m then (bind x η m).st η fun η1 m1 => loopK (body η1 m1) (frGo g bind body xs) else .no
def whGo (cnd : Env → Mem → Res Bool) (body : Env → Mem → RS) : Nat → Env → Mem → RS
  | 0, _, _ => .no
  | n + 1, η, m => (cnd η m).st η fun b m1 => if b then loopK (body η m1) (whGo cnd body n) else .nx η m1
def opAug (m : Mem) (o : Op2) (x y : PV) : Res PV := match o, x, y with
  | .add, .int i, .int j => .ok (.int (i + j)) m
  | .sub, .int i, .int j => .ok (.int (i - j)) m
  | .mul, .int i, .int j => if i.natAbs.log2 + j.natAbs.log2 < 1000000 then .ok (.int (i * j)) m else .no
  | .add, .str a, .str b => if a.length + b.length ≤ LINE then .ok (.str (a ++ b)) m else .no
  | _, _, _ => .no
def rangeV (a : Int) (n : Nat) : List PV := (List.range n).map fun i : Nat => PV.int (a + i)
def rangeC (a c : Int) (n : Nat) : List PV := (List.range n).map fun i : Nat => PV.int (a + i * c)
def enumV (xs : List PV) : List PV := (List.range xs.length).map fun i : Nat => PV.tup [.int i, xs.getD i .non]
def zipV (xs ys : List PV) : List PV := (List.range (min xs.length ys.length)).map fun i : Nat => PV.tup [xs.getD i .non, ys.getD i .non]
def smallI (i : Int) : Bool := decide (-(2 ^ 62) ≤ i) && decide (i < 2 ^ 62)
abbrev Src := List PV × List (Nat × List PV)
def gOf (x : PV) (xs : List PV) : List (Nat × List PV) := match x with
  | .loc l => [(l, xs)]
  | _ => []
def srcSq (m : Mem) (x : PV) : Res Src := match asS m x with
  | some xs => .ok (xs, gOf x xs) m
  | none => match x with
    | .str z => .ok (z.cps.toList.map fun c => PV.str ⟨#[c]⟩, []) m
    | _ => .no
def srcRg (m : Mem) (a b : PV) : Res Src := match a, b with
  | .int i, .int j => if smallI i && smallI j then .ok (rangeV i (j - i).toNat, []) m else .no
  | _, _ => .no
def srcRr (m : Mem) (a b : PV) : Res Src := match a, b with
  | .int i, .int j => if smallI i && smallI j then .ok (rangeC (i + ((j - i).toNat : Int) - 1) (-1) (j - i).toNat, []) m else .no
  | _, _ => .no
def srcRg3 (m : Mem) (a b c : PV) : Res Src := match a, b, c with
  | .int i, .int j, .int k => if smallI i && smallI j && decide (k ≠ 0) && decide (k.natAbs < 1073741824) && Builtin.Range.small i j k && decide (0 ≤ Builtin.Range.rangeSize i j k) then .ok (rangeC i k (Builtin.Range.rangeSize i j k).toNat, []) m else .no
  | _, _, _ => .no
def srcEn (m : Mem) (x : PV) : Res Src := match asS m x with
  | some xs => .ok (enumV xs, gOf x xs) m
  | none => .no
def isTup : PV → Bool
  | .tup _ => true
  | _ => false
def srcZp (m : Mem) (x y : PV) : Res Src := match asS m x, asS m y with
  | some xs, some ys => .ok (zipV xs ys, gOf x xs ++ gOf y ys) m
  | _, _ => .no
def srcRv (m : Mem) (x : PV) : Res Src := match asS m x with
  | some xs => .ok (xs.reverse, gOf x xs) m
  | none => .no
def WF : Nat := 100000000
def okLen (xs : List PV) (m : Mem) : Res (List PV) := if xs.length ≤ LINE then .ok xs m else .no
def negP (m : Mem) : PV → Res PV
  | .int i => .ok (.int (-i)) m
  | _ => .no
def lrgP (m : Mem) : PV → PV → Res (List PV)
  | .int i, .int j => if smallI i && smallI j && decide ((j - i).toNat ≤ LINE) then .ok (rangeV i (j - i).toNat) m else .no
  | _, _ => .no
def allP (m : Mem) (x : PV) : Res (List PV) := match asS m x with
  | some xs => .ok xs m
  | none => .no
def rvE (m : Mem) (x : PV) : Res PV := match x with
  | .tup xs => .ok (.tup xs.reverse) m
  | x => match asL m x with
    | some xs => .ok (.lst xs.reverse) m
    | none => .no
def tenQ (m : Mem) : PV → Res PV
  | .tup xs => .ok (.tup (enumV xs)) m
  | _ => .no
def blnP (m : Mem) : PV → Res PV
  | .int i => .ok (.int (Builtin.Int.intBits i : Nat)) m
  | _ => .no
def brB {α : Type} (x : PV) (t f : Res α) : Res α := match x with
  | .bl true => t
  | .bl false => f
  | _ => .no
def toI (m : Mem) : PV → Res (Option Int)
  | .int i => .ok (some i) m
  | _ => .no
def toB (m : Mem) : PV → Res Bool
  | .bl b => .ok b m
  | _ => .no
def notP (m : Mem) : PV → Res PV
  | .bl k => .ok (.bl (!k)) m
  | _ => .no
def tupP (m : Mem) (xs : List PV) : Res PV := if xs.length ≤ LINE then .ok (.tup xs) m else .no
def lofP (m : Mem) (x : PV) : Res (List PV) := match asS m x with
  | some xs => .ok xs m
  | none => .no
def catP (m : Mem) (x y : PV) : Res (List PV) := match asL m x, asL m y with
  | some xs, some ys => okLen (xs ++ ys) m
  | _, _ => .no
def repP (m : Mem) (x y : PV) : Res (List PV) := match asL m x, y with
  | some xs, .int k => if xs.length * k.toNat ≤ LINE ∧ smallI k = true then .ok (List.replicate k.toNat xs).flatten m else .no
  | _, _ => .no
def rvsP (m : Mem) (x : PV) : Res (List PV) := match asL m x with
  | some xs => .ok xs.reverse m
  | none => .no
def cutL (m : Mem) (x : PV) (l h : Option Int) : Res (List PV) := match asL m x with
  | some xs => .ok (cutP xs l h) m
  | none => .no
def srtP (m : Mem) (x : PV) : Res (List PV) := match (asL m x).bind asInts with
  | some ns => .ok ((ns.mergeSort (fun a b => decide (a ≤ b))).map PV.int) m
  | none => .no
def insI (k : Int) : List Int → List Int
  | [] => [k]
  | x :: xs => if k < x then k :: x :: xs else if k = x then x :: xs else x :: insI k xs
def uniqI (ns : List Int) : List Int := ns.foldr insI []
def sstP (m : Mem) (x : PV) : Res (List PV) := match x with
  | .tup xs => match asInts xs with
    | some ns => if ns.length < 64 then .ok ((uniqI ns).map PV.int) m else .no
    | none => .no
  | _ => .no
def putD (η : Env) (m : Mem) (x y v : PV) : Res Env := match x with
  | .loc l => match dicAt m x y with
    | some q => if q.1.length < LINE then .ok η (m.set l (.dic (putKk q.2.2 v q.1 q.2.1).1 (putKk q.2.2 v q.1 q.2.1).2)) else .no
    | none => .no
  | _ => .no
def putP (η : Env) (m : Mem) (x y v : PV) : Res Env := match x, y with
  | .loc l, .int k => match m[l]? with
    | some (.lst xs) => match L2.ixN xs.length k with
      | some j => .ok η (m.set l (.lst (xs.set j v)))
      | none => .no
    | _ => putD η m (.loc l) (.int k) v
  | x, y => putD η m x y v
def tupN (m : Mem) (n : Nat) (v : PV) (f : List PV → Res Env) : Res Env := match asS m v with
  | some xs => if xs.length = n then f xs else .no
  | none => .no
def getV (η : Env) (m : Mem) (i : Nat) : Res PV := match η[i]? with
  | some (some v) => .ok v m
  | _ => .no
def mtOk (k : Mt) (m : Mem) (x : PV) : Bool := match k, x with
  | .append, .loc l => (asL m (.loc l)).isSome
  | .pop, .loc l => (asL m (.loc l)).isSome
  | .join, .str _ => true
  | .split, .str _ => true
  | _, _ => false
def mtG (k : Mt) (m : Mem) (x : PV) (r : Res PV) : Res PV := if mtOk k m x = true then r else .no
section
variable (Γ : Call)
mutual
def evE : Ex → Env → Mem → Res PV
  | .var i, η, m => getV η m i
  | .gl _ v, _, m => .ok v m
  | .non, _, m => .ok .non m
  | .bl b, _, m => .ok (.bl b) m
  | .int i, _, m => .ok (.int i) m
  | .str s, _, m => .ok (.str s) m
  | .ty n, _, m => .ok (.ty n) m
  | .bin o a b, η, m => (evE a η m).bind fun x m1 => (evE b η m1).bind fun y m2 => opBin m2 o x y
  | .neg a, η, m => (evE a η m).bind fun x m1 => negP m1 x
  | .cmp c a b, η, m => (evE a η m).bind fun x m1 => (evE b η m1).bind fun y m2 => opCmp m2 c x y
  | .chn c d a b e, η, m => (evE a η m).bind fun x m1 => (evE b η m1).bind fun y m2 => (opCmp m2 c x y).bind fun r m3 => brB r ((evE e η m3).bind fun z m4 => opCmp m4 d y z) (.ok (.bl false) m3)
  | .and_ a b, η, m => (evE a η m).bind fun x m1 => brB x (evE b η m1) (.ok (.bl false) m1)
  | .or_ a b, η, m => (evE a η m).bind fun x m1 => brB x (.ok (.bl true) m1) (evE b η m1)
  | .not_ a, η, m => (evE a η m).bind fun x m1 => notP m1 x
  | .ite c a b, η, m => (evE c η m).bind fun x m1 => brB x (evE a η m1) (evE b η m1)
  | .tup es, η, m => (evEs es η m).bind fun xs m1 => tupP m1 xs
  | .pl l, η, m => (evL l η m).bind fun xs m1 => .ok (.lst xs) m1
  | .ml l, η, m => (evL l η m).bind fun xs m1 => .ok (.loc m1.length) (m1 ++ [.lst xs])
  | .emd, _, m => .ok (.dic [] []) m
  | .mdc, _, m => .ok (.loc m.length) (m ++ [.dic [] []])
  | .idx a i, η, m => (evE a η m).bind fun x m1 => (evE i η m1).bind fun y m2 => opIdx m2 x y
  | .slc a lo hi, η, m => (evE a η m).bind fun x m1 => (evO lo η m1).bind fun l m2 => (evO hi η m2).bind fun h m3 => opSlc m3 x l h
  | .call f es, η, m => (evEs es η m).bind fun xs m1 => Γ f xs m1
  | .bf b es, η, m => (evEs es η m).bind fun xs m1 => opBf m1 b xs
  | .tups ps, η, m => (evPs ps η m).bind fun xs m1 => tupP m1 xs
  | .rv a, η, m => (evE a η m).bind fun x m1 => rvE m1 x
  | .bln a, η, m => (evE a η m).bind fun x m1 => blnP m1 x
  | .ten a, η, m => (evE a η m).bind fun x m1 => tenQ m1 x
  | .mt k o es, η, m => (evE o η m).bind fun x m1 => mtG k m1 x ((evEs es η m1).bind fun xs m2 => opMt m2 k x xs)
def evEs : List Ex → Env → Mem → Res (List PV)
  | [], _, m => .ok [] m
  | e :: es, η, m => (evE e η m).bind fun x m1 => (evEs es η m1).bind fun xs m2 => .ok (x :: xs) m2
def evPt : Pt → Env → Mem → Res (List PV)
  | .one e, η, m => (evE e η m).bind fun x m1 => .ok [x] m1
  | .all e, η, m => (evE e η m).bind fun x m1 => allP m1 x
  | .rng a b, η, m => (evE a η m).bind fun x m1 => (evE b η m1).bind fun y m2 => lrgP m2 x y
def evPs : List Pt → Env → Mem → Res (List PV)
  | [], _, m => .ok [] m
  | e :: es, η, m => (evPt e η m).bind fun x m1 => (evPs es η m1).bind fun xs m2 => .ok (x ++ xs) m2
def evO : Option Ex → Env → Mem → Res (Option Int)
  | none, _, m => .ok none m
  | some e, η, m => (evE e η m).bind fun x m1 => toI m1 x
def evC : Option Ex → Env → Mem → Res Bool
  | none, _, m => .ok true m
  | some e, η, m => (evE e η m).bind fun x m1 => toB m1 x
def evL : LEx → Env → Mem → Res (List PV)
  | .dsp es, η, m => (evEs es η m).bind fun xs m1 => okLen xs m1
  | .cp own t it c e, η, m => (evI it η m).bind fun s m1 => if s.1.length ≤ LINE then (lcGo s.2 (bnd t) (evC c) (evE e) (wipeP η own) s.1 m1).nox else .no
  | .cp2 own own1 t it c t1 it1 c1 e, η, m => (evI it η m).bind fun s m1 => ((lc2Go s.2 (bnd t) (evC c) (fun η1 m2 => (evI it1 η1 m2).bind fun s1 m3 => lcGo s1.2 (bnd t1) (evC c1) (evE e) (wipeP η1 own1) s1.1 m3) (wipeP η own) s.1 m1).nox).bind fun vs m' => okLen vs m'
  | .dsps ps, η, m => (evPs ps η m).bind fun xs m1 => okLen xs m1
  | .lof e, η, m => (evE e η m).bind fun x m1 => lofP m1 x
  | .cat a b, η, m => (evE a η m).bind fun x m1 => (evE b η m1).bind fun y m2 => catP m2 x y
  | .rep a k, η, m => (evE a η m).bind fun x m1 => (evE k η m1).bind fun y m2 => repP m2 x y
  | .rvs a, η, m => (evE a η m).bind fun x m1 => rvsP m1 x
  | .slc a lo hi, η, m => (evE a η m).bind fun x m1 => (evO lo η m1).bind fun l m2 => (evO hi η m2).bind fun h m3 => cutL m3 x l h
  | .srt e, η, m => (evE e η m).bind fun x m1 => srtP m1 x
  | .sst e, η, m => (evE e η m).bind fun x m1 => sstP m1 x
  | .lrg1 a, η, m => (evE a η m).bind fun x m1 => lrgP m1 (.int 0) x
  | .lrg2 a b, η, m => (evE a η m).bind fun x m1 => (evE b η m1).bind fun y m2 => lrgP m2 x y
def evI : It → Env → Mem → Res Src
  | .sq e, η, m => (evE e η m).bind fun x m1 => srcSq m1 x
  | .rg1 a, η, m => (evE a η m).bind fun x m1 => srcRg m1 (.int 0) x
  | .rg2 a b, η, m => (evE a η m).bind fun x m1 => (evE b η m1).bind fun y m2 => srcRg m2 x y
  | .rg3 a b c, η, m => (evE a η m).bind fun x m1 => (evE b η m1).bind fun y m2 => (evE c η m2).bind fun z m3 => srcRg3 m3 x y z
  | .enm e, η, m => (evE e η m).bind fun x m1 => srcEn m1 x
  | .zip a b, η, m => (evE a η m).bind fun x m1 => (evE b η m1).bind fun y m2 => srcZp m2 x y
  | .rev e, η, m => (evE e η m).bind fun x m1 => srcRv m1 x
  | .rr1 a, η, m => (evE a η m).bind fun x m1 => srcRr m1 (.int 0) x
  | .rr2 a b, η, m => (evE a η m).bind fun x m1 => (evE b η m1).bind fun y m2 => srcRr m2 x y
def bnd : Tg → PV → Env → Mem → Res Env
  | .nm i, v, η, m => .ok (η.set i (some v)) m
  | .tp ts, v, η, m => tupN m ts.length v fun xs => bnds ts xs η m
  | .ix o i, v, η, m => (evE o η m).bind fun x m1 => (evE i η m1).bind fun y m2 => putP η m2 x y v
def bnds : List Tg → List PV → Env → Mem → Res Env
  | [], [], η, m => .ok η m
  | t :: ts, v :: vs, η, m => (bnd t v η m).bind fun η1 m1 => (bnds ts vs η1 m1).nox
  | _, _, _, _ => .no
end
def setAll : List Nat → List PV → Env → Env
  | i :: is, v :: vs, η => setAll is vs (η.set i (some v))
  | _, _, η => η
def parK (is : List Nat) (vs : List PV) (η : Env) (m : Mem) : RS := if vs.length = is.length then .nx (setAll is vs η) m else .no
mutual
def evS : St → Env → Mem → RS
  | .asg t e, η, m => (evE Γ e η m).st η fun v m1 => (bnd Γ t v η m1).st η fun η1 m2 => .nx η1 m2
  | .par is es, η, m => (evEs Γ es η m).st η fun vs m1 => parK is vs η m1
  | .aug i o e, η, m => (getV η m i).st η fun v m => (evE Γ e η m).st η fun w m1 => (opAug m1 o v w).st η fun z m2 => .nx (η.set i (some z)) m2
  | .augx o i p e, η, m => (evE Γ o η m).st η fun x m1 => (evE Γ i η m1).st η fun y m2 => (opIdx m2 x y).st η fun w m3 => (evE Γ e η m3).st η fun u m4 => (opAug m4 p w u).st η fun z m5 => (putP η m5 x y z).st η fun _ m6 => .nx η m6
  | .ex e, η, m => (evE Γ e η m).st η fun _ m1 => .nx η m1
  | .ret none, _, m => .rt .non m
  | .ret (some e), η, m => (evE Γ e η m).st η fun v m1 => .rt v m1
  | .iff c a b, η, m => (evC Γ (some c) η m).st η fun x m1 => if x then evSs a η m1 else evSs b η m1
  | .whl c b, η, m => whGo (evC Γ (some c)) (evSs b) WF η m
  | .for_ t it b, η, m => (evI Γ it η m).st η fun s m1 => frGo s.2 (bnd Γ t) (evSs b) s.1 η m1
  | .rai _ _, _, _ => .no
  | .brk, η, m => .bk η m
  | .cnt, η, m => .ct η m
  | .pas, η, m => .nx η m
def evSs : List St → Env → Mem → RS
  | [], η, m => .nx η m
  | s :: r, η, m => seqK (evS s η m) (evSs r)
end
end
end Px
set_option Elab.async false
set_option linter.all false
set_option maxRecDepth 100000
namespace Px
open PySem
section
variable (K : PySem.W.Frag)
mutual
inductive RV (r : List Addr) (F : L2.Hp) : PV → L2.V → Prop where
  | non : RV r F .non .non
  | bl (b : Bool) : RV r F (.bl b) (.bl b)
  | int (i : Int) : RV r F (.int i) (.int i)
  | str (s : Str) : RV r F (.str s) (.str s)
  | ty (n : String) : RV r F (.ty n) (.ty n)
  | loc {l : Nat} {a : Addr} : r[l]? = some a → RV r F (.loc l) (.ref a)
  | tup {xs : List PV} {a : Addr} {vs : List L2.V} : L2.SqT K F a vs → RVs r F xs vs → RV r F (.tup xs) (.ref a)
  | lst {xs : List PV} {a : Addr} {vs : List L2.V} : L2.Rd F a (.lst vs) → RVs r F xs vs → RV r F (.lst xs) (.ref a)
  | scr {ns : List Int} {a : Addr} : L2.SqL K F a (ns.map L2.V.int) → RV r F (.scr ns) (.ref a)
  | dic {ks : List L2.Key} {xs : List PV} {a : Addr} {vs : List L2.V} : F a = some (.dK (ks.zip vs)) → ks.length = vs.length → RVs r F xs vs → RV r F (.dic ks xs) (.ref a)
inductive RVs (r : List Addr) (F : L2.Hp) : List PV → List L2.V → Prop where
  | nil : RVs r F [] []
  | cons {x : PV} {v : L2.V} {xs : List PV} {vs : List L2.V} : RV r F x v → RVs r F xs vs → RVs r F (x :: xs) (v :: vs)
end
end
section
variable {K : PySem.W.Frag} {r r' : List Addr} {F F' H H' : L2.Hp}
theorem sqT_mono {a : Addr} {vs : List L2.V} (e : L2.Same F F') (h : L2.SqT K F a vs) : L2.SqT K F' a vs := by
  rcases h with (h | ⟨o, h⟩) | h
  · exact .inl (.inl (e _ _ h))
  · exact .inl (.inr ⟨o, e _ _ h⟩)
  · exact .inr h
theorem rd_mono {a : Addr} {u : L2.HO} (e : L2.Same F F') (h : L2.Rd F a u) : L2.Rd F' a u := by
  rcases h with h | ⟨o, h⟩
  · exact .inl (e _ _ h)
  · exact .inr ⟨o, e _ _ h⟩
theorem sqL_mono {a : Addr} {vs : List L2.V} (e : L2.Same F F') (h : L2.SqL K F a vs) : L2.SqL K F' a vs := by
  rcases h with h | h
  · exact .inl (rd_mono e h)
  · exact .inr h
theorem pre_get {l : Nat} {a : Addr} (hr : r <+: r') (h : r[l]? = some a) : r'[l]? = some a := by
  obtain ⟨t, rfl⟩ := hr
  rw [List.getElem?_append_left]
  · exact h
  · exact (List.getElem?_eq_some_iff.mp h).1
mutual
theorem RV.mono (hr : r <+: r') (hF : L2.Same F F') : ∀ {x : PV} {v : L2.V}, RV K r F x v → RV K r' F' x v
  | _, _, .non => .non
  | _, _, .bl b => .bl b
  | _, _, .int i => .int i
  | _, _, .str s => .str s
  | _, _, .ty n => .ty n
  | _, _, .loc h => .loc (pre_get hr h)
  | _, _, .tup h t => .tup (sqT_mono hF h) (RVs.mono hr hF t)
  | _, _, .lst h t => .lst (rd_mono hF h) (RVs.mono hr hF t)
  | _, _, .scr h => .scr (sqL_mono hF h)
  | _, _, .dic h l t => .dic (hF _ _ h) l (RVs.mono hr hF t)
theorem RVs.mono (hr : r <+: r') (hF : L2.Same F F') : ∀ {xs : List PV} {vs : List L2.V}, RVs K r F xs vs → RVs K r' F' xs vs
  | _, _, .nil => .nil
  | _, _, .cons h t => .cons (RV.mono hr hF h) (RVs.mono hr hF t)
end
mutual
theorem RV.low {n : Nat} : ∀ {x : PV} {v : L2.V}, RV K r F x v → x.bel n = true → RV K (r.take n) F x v
  | _, _, .non, _ => .non
  | _, _, .bl b, _ => .bl b
  | _, _, .int i, _ => .int i
  | _, _, .str s, _ => .str s
  | _, _, .ty m, _ => .ty m
  | _, _, .loc h, b => .loc (by
      simp only [PV.bel, decide_eq_true_eq] at b
      rw [List.getElem?_take_of_lt b]; exact h)
  | _, _, .tup h t, b => .tup h (RVs.low t (by simpa only [PV.bel] using b))
  | _, _, .lst h t, b => .lst h (RVs.low t (by simpa only [PV.bel] using b))
  | _, _, .scr h, _ => .scr h
  | _, _, .dic h l t, b => .dic h l (RVs.low t (by simpa only [PV.bel] using b))
theorem RVs.low {n : Nat} : ∀ {xs : List PV} {vs : List L2.V}, RVs K r F xs vs → PV.belA n xs = true → RVs K (r.take n) F xs vs
  | _, _, .nil, _ => .nil
  | _, _, .cons h t, b => by
    simp only [PV.belA, Bool.and_eq_true] at b
    exact .cons (RV.low h b.1) (RVs.low t b.2)
end
theorem RVs.len : ∀ {xs : List PV} {vs : List L2.V}, RVs K r F xs vs → xs.length = vs.length
  | _, _, .nil => rfl
  | _, _, .cons _ t => by rw [List.length_cons, List.length_cons, RVs.len t]
theorem RVs.get : ∀ {xs : List PV} {vs : List L2.V} {i : Nat} {x : PV}, RVs K r F xs vs → xs[i]? = some x → ∃ v, vs[i]? = some v ∧ RV K r F x v
  | _, _, _, _, .nil, h => by simp at h
  | _, _, 0, _, .cons h _, e => by simp at e; subst e; exact ⟨_, rfl, h⟩
  | _, _, i + 1, x, .cons _ t, e => by
    obtain ⟨v, h1, h2⟩ := RVs.get (i := i) (x := x) t (by simpa using e)
    exact ⟨v, by simpa using h1, h2⟩
theorem RVs.append : ∀ {xs ys : List PV} {vs ws : List L2.V}, RVs K r F xs vs → RVs K r F ys ws → RVs K r F (xs ++ ys) (vs ++ ws)
  | _, _, _, _, .nil, s => s
  | _, _, _, _, .cons h t, s => .cons h (RVs.append t s)
theorem RVs.set {x : PV} {v : L2.V} (h : RV K r F x v) : ∀ {xs : List PV} {vs : List L2.V} (i : Nat), RVs K r F xs vs → RVs K r F (xs.set i x) (vs.set i v)
  | _, _, _, .nil => .nil
  | _, _, 0, .cons _ t => .cons h t
  | _, _, i + 1, .cons q t => .cons q (RVs.set h i t)
theorem RVs.take : ∀ {xs : List PV} {vs : List L2.V} (n : Nat), RVs K r F xs vs → RVs K r F (xs.take n) (vs.take n)
  | _, _, 0, _ => .nil
  | _, _, _ + 1, .nil => .nil
  | _, _, n + 1, .cons h t => .cons h (RVs.take n t)
theorem RVs.drop : ∀ {xs : List PV} {vs : List L2.V} (n : Nat), RVs K r F xs vs → RVs K r F (xs.drop n) (vs.drop n)
  | _, _, 0, h => h
  | _, _, _ + 1, .nil => .nil
  | _, _, n + 1, .cons _ t => RVs.drop n t
theorem RVs.reverse : ∀ {xs : List PV} {vs : List L2.V}, RVs K r F xs vs → RVs K r F xs.reverse vs.reverse
  | _, _, .nil => .nil
  | _, _, .cons h t => by rw [List.reverse_cons, List.reverse_cons]; exact (RVs.reverse t).append (.cons h .nil)
theorem RVs.rep {xs : List PV} {vs : List L2.V} (h : RVs K r F xs vs) : ∀ n : Nat, RVs K r F (List.replicate n xs).flatten (List.replicate n vs).flatten
  | 0 => .nil
  | n + 1 => by rw [List.replicate_succ, List.replicate_succ, List.flatten_cons, List.flatten_cons]; exact h.append (RVs.rep h n)
theorem RVs.ints : ∀ {ns : List Int} {vs : List L2.V}, RVs K r F (ns.map PV.int) vs → vs = ns.map L2.V.int
  | [], _, .nil => rfl
  | _ :: _, _, .cons (.int _) t => by rw [List.map_cons, RVs.ints t]
theorem RVs.ofInts (K : PySem.W.Frag) (r : List Addr) (F : L2.Hp) : ∀ ns : List Int, RVs K r F (ns.map PV.int) (ns.map L2.V.int)
  | [] => .nil
  | n :: ns => .cons (.int n) (RVs.ofInts K r F ns)
theorem RVs.ofStrs (K : PySem.W.Frag) (r : List Addr) (F : L2.Hp) : ∀ ns : List Str, RVs K r F (ns.map PV.str) (ns.map L2.V.str)
  | [] => .nil
  | n :: ns => .cons (.str n) (RVs.ofStrs K r F ns)
theorem asInts_eq : ∀ {xs : List PV} {ns : List Int}, asInts xs = some ns → xs = ns.map PV.int
  | [], ns, h => by simp [asInts] at h; subst h; rfl
  | x :: xs, ns, h => by
    cases x <;> simp [asInts] at h
    obtain ⟨ms, h1, rfl⟩ := h
    rw [List.map_cons, asInts_eq h1]
theorem asStrs_eq : ∀ {xs : List PV} {bs : List Str}, asStrs xs = some bs → xs = bs.map PV.str
  | [], ns, h => by simp [asStrs] at h; subst h; rfl
  | x :: xs, ns, h => by
    cases x <;> simp [asStrs] at h
    obtain ⟨ms, h1, rfl⟩ := h
    rw [List.map_cons, asStrs_eq h1]
theorem RVs.strs : ∀ {ns : List Str} {vs : List L2.V}, RVs K r F (ns.map PV.str) vs → vs = ns.map L2.V.str
  | [], _, .nil => rfl
  | _ :: _, _, .cons (.str _) t => by rw [List.map_cons, RVs.strs t]
def RO (K : PySem.W.Frag) (r : List Addr) (F H : L2.Hp) (o : Ob) (a : Addr) : Prop := match o with
  | .lst xs => ∃ vs, RVs K r F xs vs ∧ H a = some (.lst vs)
  | .dic ks xs => ∃ vs, RVs K r F xs vs ∧ ks.length = vs.length ∧ H a = some (.dK (ks.zip vs))
  | .ins _ _ => False
  | .gone => True
structure RM (K : PySem.W.Frag) (r : List Addr) (F : L2.Hp) (m : Mem) (H : L2.Hp) : Prop where
  sub : L2.Same F H
  len : r.length = m.length
  nd : r.Nodup
  fr : ∀ (l : Nat) (a : Addr), r[l]? = some a → F a = none
  obs : ∀ (l : Nat) (a : Addr) (o : Ob), r[l]? = some a → m[l]? = some o → RO K r F H o a
  liv : ∀ a ∈ r, ∃ o, H a = some o
  nf : ∀ (a : Addr) (o : Obj) (u : L2.HO), F a = some (.frz o u) → ∃ xs, u = .lst xs
theorem RO.mono {o : Ob} {a : Addr} (hr : r <+: r') (hF : L2.Same F F') (hH : H' a = H a) (h : RO K r F H o a) : RO K r' F' H' o a := by
  cases o with
  | lst xs => obtain ⟨vs, h1, h2⟩ := h; exact ⟨vs, h1.mono hr hF, hH.trans h2⟩
  | dic ks xs => obtain ⟨vs, h1, h3, h2⟩ := h; exact ⟨vs, h1.mono hr hF, h3, hH.trans h2⟩
  | ins _ _ => exact h
  | gone => trivial
theorem RM.at {m : Mem} {l : Nat} {o : Ob} (R : RM K r F m H) (h : m[l]? = some o) : ∃ a, r[l]? = some a ∧ RO K r F H o a := by
  have hl : l < r.length := by rw [R.len]; exact (List.getElem?_eq_some_iff.mp h).1
  exact ⟨r[l], List.getElem?_eq_getElem hl, R.obs l _ o (List.getElem?_eq_getElem hl) h⟩
theorem same_upd {H : L2.Hp} {p : Addr} {o : L2.HO} (h : H p = none) : L2.Same H (L2.upd H p o) := fun b x e => by
  rw [L2.upd_ne (L2.ne_of_none e h)]; exact e
theorem RM.frozen {m : Mem} {p : Addr} {o : L2.HO} (R : RM K r F m H) (hp : H p = none) (no : ∀ (ob : Obj) (u : L2.HO), o ≠ .frz ob u := by intro _ _ h; cases h) : RM K r (L2.upd F p o) m (L2.upd H p o) ∧ L2.Same F (L2.upd F p o) := by
  have fp : F p = none := by
    cases q : F p with
    | none => rfl
    | some u => rw [R.sub _ _ q] at hp; cases hp
  have nr : ∀ (l : Nat) (a : Addr), r[l]? = some a → a ≠ p := fun l a h e => by
    obtain ⟨u, hu⟩ := R.liv a (List.mem_of_getElem? h)
    rw [e, hp] at hu; cases hu
  refine ⟨⟨fun b u h => ?_, R.len, R.nd, fun l a h => ?_, fun l a ob h h2 => (R.obs l a ob h h2).mono (List.prefix_refl _) (same_upd fp) (L2.upd_ne (nr l a h)), fun a h => ?_, fun a ob u h => ?_⟩, same_upd fp⟩
  · by_cases hb : b = p
    · subst hb; rw [L2.upd_same] at h ⊢; exact h
    · rw [L2.upd_ne hb] at h ⊢; exact R.sub _ _ h
  · rw [L2.upd_ne (nr l a h)]; exact R.fr l a h
  · by_cases e : a = p
    · subst e; exact ⟨_, L2.upd_same⟩
    · rw [L2.upd_ne e]; exact R.liv a h
  · by_cases e : a = p
    · subst e; rw [L2.upd_same] at h; exact absurd (Option.some.inj h) (no ob u)
    · rw [L2.upd_ne e] at h; exact R.nf a ob u h
theorem RM.push {m : Mem} {p : Addr} {o : L2.HO} {ob : Ob} (R : RM K r F m H) (hp : H p = none) (ho : RO K (r ++ [p]) F (L2.upd H p o) ob p) : RM K (r ++ [p]) F (m ++ [ob]) (L2.upd H p o) := by
  have fp : F p = none := by
    cases q : F p with
    | none => rfl
    | some u => rw [R.sub _ _ q] at hp; cases hp
  have nr : ∀ (l : Nat) (a : Addr), r[l]? = some a → a ≠ p := fun l a h e => by
    obtain ⟨u, hu⟩ := R.liv a (List.mem_of_getElem? h)
    rw [e, hp] at hu; cases hu
  have np : p ∉ r := fun h => by
    obtain ⟨u, hu⟩ := R.liv p h
    rw [hp] at hu; cases hu
  refine ⟨fun b u h => ?_, by rw [List.length_append, List.length_append, R.len]; rfl, ?_, fun l a h => ?_, fun l a ob' h h2 => ?_, fun a h => ?_, R.nf⟩
  · rw [L2.upd_ne (L2.ne_of_none h fp)]; exact R.sub _ _ h
  · rw [List.nodup_append]
    refine ⟨R.nd, by simp, fun a ha b hb e => ?_⟩
    simp only [List.mem_singleton] at hb
    subst hb; subst e; exact np ha
  · by_cases hl : l < r.length
    · rw [List.getElem?_append_left hl] at h; exact R.fr l a h
    · rw [List.getElem?_append_right (by omega)] at h
      by_cases e : l - r.length = 0
      · rw [e] at h; simp at h; subst h; exact fp
      · rw [List.getElem?_eq_none (by simp; omega)] at h; cases h
  · by_cases hl : l < r.length
    · rw [List.getElem?_append_left hl] at h
      rw [List.getElem?_append_left (by rw [← R.len]; exact hl)] at h2
      exact (R.obs l a ob' h h2).mono (List.prefix_append _ _) (L2.Same.refl _) (L2.upd_ne (nr l a h))
    · rw [List.getElem?_append_right (by omega)] at h
      rw [List.getElem?_append_right (by rw [← R.len]; omega), ← R.len] at h2
      by_cases e : l - r.length = 0
      · rw [e] at h h2; simp at h h2; subst h; subst h2; exact ho
      · rw [List.getElem?_eq_none (by simp; omega)] at h; cases h
  · rcases List.mem_append.mp h with h | h
    · rw [L2.upd_ne (fun e => np (by rw [← e]; exact h))]; exact R.liv a h
    · simp only [List.mem_singleton] at h; subst h; exact ⟨_, L2.upd_same⟩
theorem RM.write {m : Mem} {l : Nat} {p : Addr} {o : L2.HO} {ob : Ob} (R : RM K r F m H) (hl : r[l]? = some p) (ho : RO K r F (L2.upd H p o) ob p) : RM K r F (m.set l ob) (L2.upd H p o) := by
  have fp : F p = none := R.fr l p hl
  refine ⟨fun b u h => ?_, by rw [List.length_set]; exact R.len, R.nd, R.fr, fun k a ob' h h2 => ?_, fun a h => ?_, R.nf⟩
  · rw [L2.upd_ne (L2.ne_of_none h fp)]; exact R.sub _ _ h
  · by_cases e : l = k
    · subst e
      rw [hl] at h; cases h
      have hlt : l < m.length := by rw [← R.len]; exact (List.getElem?_eq_some_iff.mp hl).1
      rw [List.getElem?_set_self hlt] at h2; cases h2
      exact ho
    · rw [List.getElem?_set_ne e] at h2
      have na : a ≠ p := fun z => by
        subst z
        obtain ⟨h1, h3⟩ := List.getElem?_eq_some_iff.mp hl
        obtain ⟨h4, h5⟩ := List.getElem?_eq_some_iff.mp h
        exact e ((List.getElem_inj R.nd).mp (h3.trans h5.symm))
      exact (R.obs k a ob' h h2).mono (List.prefix_refl _) (L2.Same.refl _) (L2.upd_ne na)
  · by_cases e : a = p
    · subst e; exact ⟨_, L2.upd_same⟩
    · rw [L2.upd_ne e]; exact R.liv a h
theorem RM.other {m : Mem} (R : RM K r F m H) (h : L2.Same H H') (hr : ∀ a ∈ r, H' a = H a) : RM K r F m H' :=
  ⟨R.sub.trans h, R.len, R.nd, R.fr, fun l a o e e2 => (R.obs l a o e e2).mono (List.prefix_refl _) (L2.Same.refl _) (hr a (List.mem_of_getElem? e)), fun a ha => by rw [hr a ha]; exact R.liv a ha, R.nf⟩
structure RE (K : PySem.W.Frag) (r : List Addr) (F : L2.Hp) (η : Env) (σ : L2.St) : Prop where
  len : η.length = σ.length
  gt : ∀ (i : Nat) (v : PV), η[i]? = some (some v) → ∃ u, σ[i]? = some (some u) ∧ RV K r F v u
theorem RE.mono {η : Env} {σ : L2.St} (hr : r <+: r') (hF : L2.Same F F') (h : RE K r F η σ) : RE K r' F' η σ :=
  ⟨h.len, fun i v e => let ⟨u, h1, h2⟩ := h.gt i v e; ⟨u, h1, h2.mono hr hF⟩⟩
theorem RE.set {η : Env} {σ : L2.St} {i : Nat} {x : PV} {v : L2.V} (h : RE K r F η σ) (hx : RV K r F x v) : RE K r F (η.set i (some x)) (σ.set i (some v)) := by
  refine ⟨by rw [List.length_set, List.length_set, h.len], fun j y e => ?_⟩
  by_cases hi : i = j
  · subst hi
    by_cases hl : i < η.length
    · rw [List.getElem?_set_self hl] at e; cases e
      exact ⟨v, by rw [List.getElem?_set_self (by rw [← h.len]; exact hl)], hx⟩
    · rw [List.getElem?_eq_none (by rw [List.length_set]; omega)] at e; cases e
  · rw [List.getElem?_set_ne hi] at e
    rw [List.getElem?_set_ne hi]
    exact h.gt j y e
theorem wipeP_length (η : Env) : ∀ vs : List Nat, (wipeP η vs).length = η.length
  | [] => rfl
  | v :: vs => by unfold wipeP; rw [List.length_set, wipeP_length η vs]
theorem RE.wipe {η : Env} {σ : L2.St} (h : RE K r F η σ) : ∀ vs : List Nat, RE K r F (wipeP η vs) (L2.wipe σ vs)
  | [] => h
  | v :: vs => by
    have ih := RE.wipe h vs
    refine ⟨by rw [wipeP_length, L2.wipe_length, h.len], fun j y e => ?_⟩
    unfold wipeP at e
    unfold L2.wipe
    by_cases hi : v = j
    · subst hi
      by_cases hl : v < (wipeP η vs).length
      · rw [List.getElem?_set_self hl] at e; cases e
      · rw [List.getElem?_eq_none (by rw [List.length_set]; omega)] at e; cases e
    · rw [List.getElem?_set_ne hi] at e ⊢
      exact ih.gt j y e
end
end Px
set_option Elab.async false
set_option linter.all false
set_option maxRecDepth 100000
set_option maxHeartbeats 4000000
namespace PxEx
open PySem PySem.Spec PyProof.Rows L2
open AutoSeq1 (wpAny_loadPart')
section
variable {prog : Program} {w : World} {A : Around} {E : Value → Shared → Prop} {s : Shared} {l : Addr}
theorem iter_tup {items : Array Value} {Q : Value → Shared → Prop} (hl : s.heap.IsTuple l items)
    (h : ∀ s₂ : Shared, s₂ = { s with heap := s.heap.push { cls := .type "tuple_iterator", data := .fields #[.ref l, .int 0 0] } } →
      (s₂.heap.IsTupleIter s.heap.objs.size l 0 ∧ s₂.heap.IsTuple l items) → (∀ b ∈ [s.heap.objs.size, l], b < s₂.heap.objs.size) → l ≠ s.heap.objs.size → Q (.ref s.heap.objs.size) s₂) :
    wpAny (model prog w) A (pyIter (.ref l)) Q E s := by
  have hlt : l < s.heap.objs.size := by obtain ⟨_, e, _⟩ := hl; exact Heap.lt_size e
  refine wpAny_pyIter_tuple hl (h _ rfl ⟨⟨_, Heap.get?_push_size _ rfl, rfl, rfl⟩, hl.push _⟩ (fun b hb => ?_) (Nat.ne_of_lt hlt))
  show b < (s.heap.push _).objs.size
  rw [Heap.size_push]
  rcases List.mem_cons.mp hb with rfl | hb
  · exact Nat.lt_succ_self _
  · rcases List.mem_cons.mp hb with rfl | hb
    · exact Nat.lt_succ_of_lt hlt
    · cases hb
theorem old_keptT {h' : Heap} (hk : ∀ b o, b ∉ [s.heap.objs.size] → (s.heap.push { cls := .type "tuple_iterator", data := .fields #[.ref l, .int 0 0] }).get? b = some o → h'.get? b = some o) :
    ∀ b o, s.heap.get? b = some o → h'.get? b = some o := fun b o e => by
  refine hk b o (fun hm => ?_) (Heap.get?_push_of_some _ e)
  rcases List.mem_cons.mp hm with e1 | hm
  · exact absurd (e1 ▸ Heap.lt_size e) (Nat.lt_irrefl _)
  · cases hm
theorem sum_tupG {xs : Array (Int × Tok)} {Q : Value → Shared → Prop} (hh : A.handled = none) (hl : s.heap.IsTuple l (intItems xs))
    (h : ∀ h' tk t', (∀ b o, s.heap.get? b = some o → h'.get? b = some o) → Q (.int (preSum (numAt xs) xs.size) t') { s with heap := h', toks := tk }) :
    wpAny (model prog w) A (call (.builtin "sum") [.ref l]) Q E s := by
  refine call_sum_walkG (iter_tup hl fun s₂ e st hfp hlI => ?_)
  subst e
  refine ⟨_, _, _, _, _, _, numAt xs, rfl, Walks.tuple (A := A.in1) hh _ l hlI (intItems xs), st, hfp, (fun _ _ => intItems_at), fun h' tk t' hk => ?_⟩
  have := h h' tk t' (old_keptT hk)
  simpa [intItems] using this
theorem sum_rawT {its : List Value} {ns : List Int} {Q : Value → Shared → Prop} (hh : A.handled = none) (hl : s.heap.IsTuple l its.toArray) (hi : IntsAre its ns)
    (h : ∀ h' tk t', (∀ b o, s.heap.get? b = some o → h'.get? b = some o) → Q (.int ns.sum t') { s with heap := h', toks := tk }) : wpAny (model prog w) A (call (.builtin "sum") [.ref l]) Q E s := by
  obtain ⟨xs, e⟩ := hi.allInts.items
  have hn : numsOf (intItems xs).toList = ns := by rw [← e]; exact hi.numsOf
  rw [nums_intItems] at hn
  rw [e] at hl
  refine sum_tupG hh hl fun h' tk t' hk => ?_
  have := h h' tk t' hk
  rw [preSum_eq, List.take_of_length_le (by simp), hn]; exact this
end
section
variable {X : Cx}
theorem cr_sumT (hc : X.calm = true) : CallR X (.builtin "sum") (fun vs H Q => ∃ (a : Addr) (ns : List Int), vs = [V.ref a] ∧ SqT X.K H a (ns.map V.int) ∧ Q (.int ns.sum) H) := by
  intro pins s σ H vs us Q I r h
  obtain ⟨a, ns, rfl, hs, q⟩ := h
  obtain ⟨its, rv, hl, _⟩ := I.tuple hs
  rw [Vals.ref1 r]
  exact sum_rawT (I.ok.hd hc) hl rv.ints fun h' tk t' hk => ⟨.int _, H, I.kept hk, ⟨_, rfl⟩, q⟩
inductive Tru : V → Bool → Prop
  | bl (b : Bool) : Tru (.bl b) b
  | int (i : Int) : Tru (.int i) (i != 0)
theorem tru_wp {prog : Program} {w : World} {A : Around} {v : V} {b : Bool} {u : Value} {s : Shared} {Q : Bool → Shared → Prop} {E : Value → Shared → Prop} (h : Tru v b) (r : RelV v u) (hq : Q b s) : wpAny (model prog w) A (truthy u) Q E s := by
  cases h with
  | bl b => cases r; exact wpAny_truthy_bool hq
  | int i => obtain ⟨t, rfl⟩ := r; exact PySem.P.truthy_int hq
theorem truth_of {prog : Program} {w : World} {A : Around} {vs : List V} {bs : List Bool} {its : List Value} (h : Paired Tru vs bs) (r : Vals vs its) :
    TruthOf prog w A (fun i v => its.toArray[i]? = some v) (fun i => bs.getD i false) := fun i v s Q E hv hq => by
  have hv' : its[i]? = some v := by simpa using hv
  have : ∀ {vs : List V} {bs : List Bool} {its : List Value} (i : Nat), Paired Tru vs bs → Vals vs its → its[i]? = some v → ∃ x b, bs[i]? = some b ∧ Tru x b ∧ RelV x v := by
    intro vs bs its i h r
    induction h generalizing its i with
    | nil => cases r; intro z; simp at z
    | cons h1 h2 ih =>
      cases r with
      | cons r1 r2 =>
        cases i with
        | zero => intro z; simp at z; subst z; exact ⟨_, _, rfl, h1, r1⟩
        | succ i => intro z; simpa using ih i r2 (by simpa using z)
  obtain ⟨x, b, hb, hx, hr⟩ := this i h r hv'
  have hg : bs.getD i false = b := by rw [List.getD_eq_getElem?_getD, hb]; rfl
  have hq' : Q (bs.getD i false) s := hq
  rw [hg] at hq'
  exact tru_wp hx hr hq'
theorem paired_len {vs : List V} {bs : List Bool} {its : List Value} (h : Paired Tru vs bs) (r : Vals vs its) : its.length = bs.length := by
  induction h generalizing its with
  | nil => cases r; rfl
  | cons _ _ ih => cases r with
    | cons _ r2 => simp [ih r2]
theorem cr_anyX (hc : X.calm = true) : CallR X (.builtin "any") (fun vs H Q => ∃ (a : Addr) (xs : List V) (bs : List Bool), vs = [V.ref a] ∧ (SqL X.K H a xs ∨ SqT X.K H a xs) ∧ Paired Tru xs bs ∧ Q (.bl (bs.any id)) H) := by
  intro pins s σ H vs us Q I r h
  obtain ⟨a, xs, bs, rfl, hs, hb, q⟩ := h
  rw [Vals.ref1 r]
  have kk : ∀ {h' : Heap} {tk : Nat} {c : Obj}, (∀ b o, b ∉ [s.heap.objs.size] → (s.heap.push c).get? b = some o → h'.get? b = some o) → ∀ b o, s.heap.get? b = some o → h'.get? b = some o := fun hk b o eo => hk b o (fun hmem => by
    rcases List.mem_cons.mp hmem with e1 | hmem
    · exact absurd (e1 ▸ Heap.lt_size eo) (Nat.lt_irrefl _)
    · cases hmem) (Heap.get?_push_of_some _ eo)
  rcases hs with hs | hs
  · obtain ⟨its, rv, hl, _⟩ := I.list hs
    have e := paired_len hb rv
    refine call_any_walk (iter_any hl.isList fun s₂ e2 st hne => ?_)
    subst e2
    refine ⟨_, _, _, _, _, _, _, rfl, Walks.list (A := X.A.in1) (I.ok.hd hc) _ a hne its.toArray, st, truth_of hb rv, fun h' tk hk => ?_⟩
    refine ⟨.bl _, H, I.kept (kk (tk := tk) hk), ?_, q⟩
    show Value.bool _ = Value.bool _
    rw [← L2.any_range, List.size_toArray, e]
  · obtain ⟨its, rv, hl, _⟩ := I.tuple hs
    have e := paired_len hb rv
    refine call_any_walk (iter_tup hl fun s₂ e2 st _ hne => ?_)
    subst e2
    refine ⟨_, _, _, _, _, _, _, rfl, Walks.tuple (A := X.A.in1) (I.ok.hd hc) _ a hne its.toArray, st, truth_of hb rv, fun h' tk hk => ?_⟩
    refine ⟨.bl _, H, I.kept (kk (tk := tk) hk), ?_, q⟩
    show Value.bool _ = Value.bool _
    rw [← L2.any_range, List.size_toArray, e]
theorem cr_allX (hc : X.calm = true) : CallR X (.builtin "all") (fun vs H Q => ∃ (a : Addr) (xs : List V) (bs : List Bool), vs = [V.ref a] ∧ (SqL X.K H a xs ∨ SqT X.K H a xs) ∧ Paired Tru xs bs ∧ Q (.bl (bs.all id)) H) := by
  intro pins s σ H vs us Q I r h
  obtain ⟨a, xs, bs, rfl, hs, hb, q⟩ := h
  rw [Vals.ref1 r]
  have kk : ∀ {h' : Heap} {tk : Nat} {c : Obj}, (∀ b o, b ∉ [s.heap.objs.size] → (s.heap.push c).get? b = some o → h'.get? b = some o) → ∀ b o, s.heap.get? b = some o → h'.get? b = some o := fun hk b o eo => hk b o (fun hmem => by
    rcases List.mem_cons.mp hmem with e1 | hmem
    · exact absurd (e1 ▸ Heap.lt_size eo) (Nat.lt_irrefl _)
    · cases hmem) (Heap.get?_push_of_some _ eo)
  rcases hs with hs | hs
  · obtain ⟨its, rv, hl, _⟩ := I.list hs
    have e := paired_len hb rv
    refine call_all_walk (iter_any hl.isList fun s₂ e2 st hne => ?_)
    subst e2
    refine ⟨_, _, _, _, _, _, _, rfl, Walks.list (A := X.A.in1) (I.ok.hd hc) _ a hne its.toArray, st, truth_of hb rv, fun h' tk hk => ?_⟩
    refine ⟨.bl _, H, I.kept (kk (tk := tk) hk), ?_, q⟩
    show Value.bool _ = Value.bool _
    rw [← L2.all_range, List.size_toArray, e]
  · obtain ⟨its, rv, hl, _⟩ := I.tuple hs
    have e := paired_len hb rv
    refine call_all_walk (iter_tup hl fun s₂ e2 st _ hne => ?_)
    subst e2
    refine ⟨_, _, _, _, _, _, _, rfl, Walks.tuple (A := X.A.in1) (I.ok.hd hc) _ a hne its.toArray, st, truth_of hb rv, fun h' tk hk => ?_⟩
    refine ⟨.bl _, H, I.kept (kk (tk := tk) hk), ?_, q⟩
    show Value.bool _ = Value.bool _
    rw [← L2.all_range, List.size_toArray, e]
theorem same_mulW (l : Addr) (items : Array Value) (n : Nat) (dd : Option Addr) (sl : Array (Option Value)) (x : Int) (u : Tok) (c0 : (decide (x < -(2 ^ 63)) || decide (x ≥ 2 ^ 63)) = false) (c1 : (items.isEmpty || x == 1) = true) :
    Meets (Builtin.«tuple.__mul__» ⟨[.ref l, .int x u], []⟩) (fun _ R s => s.heap.get? l = some { cls := .type "tuple", dict := dd, data := .seq items n, slots := sl } ∧ R (.ok (.ret (Value.ref l))) s) :=
  .of_wp fun prog w A R s h => by
    obtain ⟨hp, g, d, tk, os⟩ := s
    obtain ⟨hl, h⟩ := h
    have f1 := AutoSeq1.idx_int
    wp_walk using wpAny_loadPart' hl
    repeat (first
      | (refine wpAny_ite_false (decide_eq_false (by rw [c0]; exact Bool.false_ne_true)) ?_; wp_walk using wpAny_loadPart' hl)
      | (refine wpAny_ite_true (decide_eq_true (by rw [c1])) ?_; wp_walk using wpAny_loadPart' hl))
    exact ⟨_, rfl, h⟩
theorem none_mulW (l : Addr) (items : Array Value) (n : Nat) (dd : Option Addr) (sl : Array (Option Value)) (x : Int) (u : Tok) (c0 : (decide (x < -(2 ^ 63)) || decide (x ≥ 2 ^ 63)) = false) (c1 : (items.isEmpty || x == 1) = false) (c2 : (decide (x ≤ 0) || items.isEmpty) = true) :
    Meets (Builtin.«tuple.__mul__» ⟨[.ref l, .int x u], []⟩) (fun _ R s => s.heap.get? l = some { cls := .type "tuple", dict := dd, data := .seq items n, slots := sl } ∧
      R (.ok (.ret (Value.ref s.heap.objs.size))) { s with heap := s.heap.push { cls := Value.type "tuple", data := Data.seq #[] }, toks := s.toks }) :=
  .of_wp fun prog w A R s h => by
    obtain ⟨hp, g, d, tk, os⟩ := s
    obtain ⟨hl, h⟩ := h
    have f1 := AutoSeq1.idx_int
    wp_walk using wpAny_loadPart' hl
    repeat (first
      | (refine wpAny_ite_false (decide_eq_false (by rw [c0]; exact Bool.false_ne_true)) ?_; wp_walk using wpAny_loadPart' hl)
      | (refine wpAny_ite_false (decide_eq_false (by rw [c1]; exact Bool.false_ne_true)) ?_; wp_walk using wpAny_loadPart' hl)
      | (refine wpAny_ite_true (decide_eq_true (by rw [c2])) ?_; wp_walk using wpAny_loadPart' hl))
    exact ⟨_, rfl, h⟩
theorem op_repX : OpR X (binaryOp .Mult) (fun x y H Q => ∃ l k xs, x = .ref l ∧ y = .int k ∧ SqT X.K H l xs ∧ -(2 ^ 62) ≤ k ∧ k < 2 ^ 62 ∧ xs.length * k.toNat ≤ 1000000 ∧
    (xs = [] ∨ k = 1 → Q (.ref l) H) ∧ (∀ p, H p = none → Q (.ref p) (upd H p (.tup (List.replicate k.toNat xs).flatten)))) := by
  intro pins s σ H x y v u Q I rx ry h
  obtain ⟨l, k, xs, rfl, rfl, hT, k1, k2, hz, q1, q2⟩ := h
  cases rx
  obtain ⟨t, rfl⟩ := ry
  obtain ⟨its, r, ⟨⟨cls, dd, data, sl⟩, ho, hc, n, hd⟩, hs⟩ := I.tuple hT
  simp only at hc hd
  subst hc hd
  have hle : its.length = xs.length := r.length.symm
  have hsz0 : its.toArray.size = xs.length := by rw [List.size_toArray, hle]
  have c0 : (decide (k < -(2 ^ 63)) || decide (k ≥ 2 ^ 63)) = false := by
    rw [decide_eq_false (by omega), decide_eq_false (by omega)] <;> rfl
  have go : ∀ {Q' : Value → Shared → Prop}, wpAny (model X.prog X.w) X.A (call (.builtin "tuple.__mul__") [.ref l, .int k t]) Q' X.xe s → wpAny (model X.prog X.w) X.A (binaryOp .Mult (.ref l) (.int k t)) Q' X.xe s := fun hq =>
    wpAny_binaryOp_repeat_ref (T := "tuple") (U := "int") (by decide) ⟨_, ho, rfl⟩ (fun s' => typeIs_int s' k t) noFill_tuple_mul F.fills_int_mul F.slot_int_rmul repeat_tuple F.slot_int_index.lookup
      (call_meets F.slot_int_rmul (typeIs_int s k t) F.entry_int_rmul (F.args_int_rmul_2 _ _) (int_rmul_tuple k t l its.toArray n dd sl) ⟨ho, rfl, ⟨_, ho, rfl⟩, hq⟩)
  refine go ?_
  by_cases h1 : xs = [] ∨ k = 1
  · have c1 : (its.toArray.isEmpty || k == 1) = true := by
      rcases h1 with rfl | rfl
      · have : its = [] := List.eq_nil_of_length_eq_zero hle
        subst this; rfl
      · simp
    exact call_meets F.slot_tuple_mul ⟨_, ho, rfl⟩ F.entry_tuple_mul (F.args_tuple_mul_2 _ _) (same_mulW l its.toArray n dd sl k t c0 c1) ⟨ho, ⟨.ref l, H, I, rfl, q1 h1⟩⟩
  · have hne : xs ≠ [] := fun e => h1 (.inl e)
    have hk1 : k ≠ 1 := fun e => h1 (.inr e)
    have hn : its ≠ [] := fun e => hne (by
      rw [e] at hle
      exact List.eq_nil_of_length_eq_zero hle.symm)
    have hi : its.toArray.isEmpty = false := by
      cases its with
      | nil => exact absurd rfl hn
      | cons a b => rfl
    have c1 : (its.toArray.isEmpty || k == 1) = false := by
      rw [hi, Bool.false_or]
      exact beq_eq_false_iff_ne.mpr hk1
    have q3 := q2 s.heap.objs.size (I.hok.fresh (Nat.le_refl _))
    by_cases hk0 : k ≤ 0
    · have c2 : (decide (k ≤ 0) || its.toArray.isEmpty) = true := by rw [decide_eq_true hk0]; rfl
      refine call_meets F.slot_tuple_mul ⟨_, ho, rfl⟩ F.entry_tuple_mul (F.args_tuple_mul_2 _ _) (none_mulW l its.toArray n dd sl k t c0 c1 c2) ⟨ho, ?_⟩
      have e0 : k.toNat = 0 := by omega
      rw [e0, List.replicate_zero, List.flatten_nil] at q3
      refine ⟨.ref s.heap.objs.size, _, I.laid (t' := s.toks) (o := .tup []) (fun b ob q => Heap.get?_push_of_some _ q) (Nat.le_refl _) ?_, rfl, q3⟩
      exact ⟨by simp, [], .nil, IsTup.new _ _⟩
    · have xl : 0 < xs.length := List.length_pos_iff.mpr hne
      have hm : ((its.toArray.size : Nat) : Int) * k ≤ 1000000 := by
        rw [hsz0, show k = ((k.toNat : Nat) : Int) from by omega, ← Int.natCast_mul]; omega
      have flen : (List.replicate k.toNat its).flatten.length ≤ sizeLine := by
        rw [PyProof.Rows.lm_len_rep_flat, hle, sizeLine_eq, Nat.mul_comm]; omega
      have c2 : (decide (k ≤ 0) || its.toArray.isEmpty) = false := by
        rw [hi, Bool.or_false]
        exact decide_eq_false (by omega)
      have c4 : Builtin.Tuple.tupleTooMany (((its.toArray.size : Nat) : Int) * k) = false := by
        unfold Builtin.Tuple.tupleTooMany
        rw [sizeLine_eq]
        exact decide_eq_false (by omega)
      refine call_meets F.slot_tuple_mul ⟨_, ho, rfl⟩ F.entry_tuple_mul (F.args_tuple_mul_2 _ _) (tuple_mulW l its.toArray n dd sl k t c0 c1 c2 (by omega) c4 (by rw [size_rep, List.size_toArray]; exact flen)) ⟨ho, ?_⟩
      rw [size_rep]
      refine ⟨.ref s.heap.objs.size, _, I.laid (t' := s.toks) (o := .tup (List.replicate k.toNat xs).flatten) (fun b ob q => Heap.get?_push_of_some _ q) (Nat.le_refl _) ?_, rfl, q3⟩
      exact ⟨by rw [PyProof.Rows.lm_len_rep_flat, sizeLine_eq, Nat.mul_comm]; omega, _, r.rep k.toNat, IsTup.new _ _⟩
end
section
theorem dict_eq_declines_tuple (l b : Addr) (es : Array DictEntry) (items2 : Array Value) (n n2 : Nat) (dd dd2 : Option Addr) (sl sl2 : Array (Option Value)) :
    Meets (Builtin.«dict.__eq__» ⟨[.ref l, .ref b], []⟩) (fun _ R s => s.heap.get? l = some { cls := .type "dict", dict := dd, data := .dict es n, slots := sl } ∧ s.heap.get? b = some { cls := .type "tuple", dict := dd2, data := .seq items2 n2, slots := sl2 } ∧ R (.ok (.ret .notImplemented)) s) :=
  .of_wp fun prog w A R s h => by obtain ⟨hp, g, d, tk, os⟩ := s; obtain ⟨hl, hb, h⟩ := h; have f1 := F.sub_tuple_dict; wp_walk using wpAny_loadPart' hl, wpAny_loadPart' hb, wpAny_load hl, wpAny_load hb; exact ⟨_, rfl, h⟩
theorem tuple_eq_declines_dict (l b : Addr) (es : Array DictEntry) (items2 : Array Value) (n n2 : Nat) (dd dd2 : Option Addr) (sl sl2 : Array (Option Value)) :
    Meets (Builtin.«tuple.__eq__» ⟨[.ref l, .ref b], []⟩) (fun _ R s => s.heap.get? b = some { cls := .type "dict", dict := dd, data := .dict es n, slots := sl } ∧ s.heap.get? l = some { cls := .type "tuple", dict := dd2, data := .seq items2 n2, slots := sl2 } ∧ R (.ok (.ret .notImplemented)) s) :=
  .of_wp fun prog w A R s h => by obtain ⟨hp, g, d, tk, os⟩ := s; obtain ⟨hl, hb, h⟩ := h; have f1 := F.sub_dict_tuple; wp_walk using wpAny_loadPart' hl, wpAny_loadPart' hb; exact ⟨_, rfl, h⟩
theorem dict_ne_declines_tuple (l b : Addr) (es : Array DictEntry) (items2 : Array Value) (n n2 : Nat) (dd dd2 : Option Addr) (sl sl2 : Array (Option Value)) :
    Meets (Builtin.«dict.__ne__» ⟨[.ref l, .ref b], []⟩) (fun _ R s => s.heap.get? l = some { cls := .type "dict", dict := dd, data := .dict es n, slots := sl } ∧ s.heap.get? b = some { cls := .type "tuple", dict := dd2, data := .seq items2 n2, slots := sl2 } ∧ R (.ok (.ret .notImplemented)) s) :=
  .of_wp fun prog w A R s h => by obtain ⟨hp, g, d, tk, os⟩ := s; obtain ⟨hl, hb, h⟩ := h; have f1 := F.sub_tuple_dict; wp_walk using wpAny_loadPart' hl, wpAny_loadPart' hb, wpAny_load hl, wpAny_load hb; exact ⟨_, rfl, h⟩
theorem tuple_ne_declines_dict (l b : Addr) (es : Array DictEntry) (items2 : Array Value) (n n2 : Nat) (dd dd2 : Option Addr) (sl sl2 : Array (Option Value)) :
    Meets (Builtin.«tuple.__ne__» ⟨[.ref l, .ref b], []⟩) (fun _ R s => s.heap.get? b = some { cls := .type "dict", dict := dd, data := .dict es n, slots := sl } ∧ s.heap.get? l = some { cls := .type "tuple", dict := dd2, data := .seq items2 n2, slots := sl2 } ∧ R (.ok (.ret .notImplemented)) s) :=
  .of_wp fun prog w A R s h => by obtain ⟨hp, g, d, tk, os⟩ := s; obtain ⟨hl, hb, h⟩ := h; have f1 := F.sub_dict_tuple; wp_walk using wpAny_loadPart' hl, wpAny_loadPart' hb; exact ⟨_, rfl, h⟩
end
section
variable {X : Cx}
theorem dict_obj {pins : List (Addr × Obj)} {σ : L2.St} {H : Hp} {s : Shared} {a : Addr} {kvs : List (Key × V)} (I : Inv X pins σ H s) (h : H a = some (.dK kvs)) : ∃ es n dd sl, s.heap.get? a = some { cls := .type "dict", dict := dd, data := .dict es n, slots := sl } := by
  obtain ⟨_, _, vs, _, o, es, ep, e, hx, hd, _⟩ := I.hok a _ h
  obtain ⟨c, dd, dt, sl⟩ := o
  refine ⟨es, ep, dd, sl, ?_⟩
  have h1 : c = .type "dict" := hx.1
  have h2 : dt = .dict es ep := hd
  rw [e, h1, h2]
theorem op_eqDT (hu : X.A.units + 64 < cLine) : OpR X (compareOp .Eq) (fun x y H Q => ∃ a b kvs ys, x = .ref a ∧ y = .ref b ∧ H a = some (.dK kvs) ∧ SqT X.K H b ys ∧ Q (.bl false) H) := by
  intro pins s σ H x y v u Q I rx ry h
  obtain ⟨a, b, kvs, ys, rfl, rfl, ha, hb, q⟩ := h
  cases rx
  cases ry
  obtain ⟨es, n, dd, sl, ho⟩ := dict_obj I ha
  obtain ⟨its, r, ⟨⟨cls, dd2, data, sl2⟩, ho2, hc, n2, hd⟩, hs⟩ := I.tuple hb
  simp only at hc hd
  subst hc hd
  have hne : a ≠ b := fun e => by subst e; rw [ho] at ho2; simp at ho2
  exact SeqAt.rc_eq_decline_or (k := false) ⟨_, ho, rfl⟩ ⟨_, ho2, rfl⟩ (by decide) F.sub_tuple_dict F.slot_dict_eq F.slot_tuple_eq_refl
    (fun _ hq => call_meets F.slot_dict_eq ⟨_, ho, rfl⟩ F.entry_dict_eq (F.args_dict_eq_2 _ _) (dict_eq_declines_tuple a b es its.toArray n n2 dd dd2 sl sl2) ⟨ho, ho2, hq⟩)
    (fun _ hq => call_meets F.slot_tuple_eq_refl ⟨_, ho2, rfl⟩ F.entry_tuple_eq (F.args_tuple_eq_2 _ _) (tuple_eq_declines_dict b a es its.toArray n n2 dd dd2 sl sl2) ⟨ho, ho2, hq⟩)
    (fun _ hq => wpAny_isSame_ref_other hne ho ho2 (by simp) hq) (.inr (by omega)) ⟨.bl _, H, I, rfl, q⟩
theorem op_neDT (hu : X.A.units + 64 < cLine) : OpR X (compareOp .NotEq) (fun x y H Q => ∃ a b kvs ys, x = .ref a ∧ y = .ref b ∧ H a = some (.dK kvs) ∧ SqT X.K H b ys ∧ Q (.bl true) H) := by
  intro pins s σ H x y v u Q I rx ry h
  obtain ⟨a, b, kvs, ys, rfl, rfl, ha, hb, q⟩ := h
  cases rx
  cases ry
  obtain ⟨es, n, dd, sl, ho⟩ := dict_obj I ha
  obtain ⟨its, r, ⟨⟨cls, dd2, data, sl2⟩, ho2, hc, n2, hd⟩, hs⟩ := I.tuple hb
  simp only at hc hd
  subst hc hd
  have hne : a ≠ b := fun e => by subst e; rw [ho] at ho2; simp at ho2
  exact SeqAt.rc_ne_decline_or (k := false) ⟨_, ho, rfl⟩ ⟨_, ho2, rfl⟩ (by decide) F.sub_tuple_dict F.slot_dict_ne F.slot_tuple_ne_refl
    (fun _ hq => call_meets F.slot_dict_ne ⟨_, ho, rfl⟩ F.entry_dict_ne (F.args_dict_ne_2 _ _) (dict_ne_declines_tuple a b es its.toArray n n2 dd dd2 sl sl2) ⟨ho, ho2, hq⟩)
    (fun _ hq => call_meets F.slot_tuple_ne_refl ⟨_, ho2, rfl⟩ F.entry_tuple_ne (F.args_tuple_ne_2 _ _) (tuple_ne_declines_dict b a es its.toArray n n2 dd dd2 sl sl2) ⟨ho, ho2, hq⟩)
    (fun _ hq => wpAny_isSame_ref_other hne ho ho2 (by simp) hq) (.inr (by omega)) ⟨.bl _, H, I, rfl, q⟩
end
section
variable {X : L2.Cx}
theorem op_catR : L2.OpR X (binaryOp .Add) (fun x y H Q => ∃ l b xs zs, x = .ref l ∧ y = .ref b ∧ L2.Rd H l (.lst xs) ∧ L2.Rd H b (.lst zs) ∧ xs.length + zs.length ≤ sizeLine ∧ ∀ p, H p = none → Q (.ref p) (L2.upd H p (.lst (xs ++ zs)))) := by
  intro pins s σ H x y v u Q I rx ry h
  obtain ⟨l, b, xs, zs, rfl, rfl, hH, hB, hz, q⟩ := h
  cases rx
  cases ry
  obtain ⟨z, its, n, r, e⟩ := hH.ok I.hok
  obtain ⟨z2, its2, n2, r2, e2⟩ := hB.ok I.hok
  have hl := r.length
  have hl2 := r2.length
  refine PySem.P.add_list e e2 ?_ (by rw [List.size_toArray, List.size_toArray]; omega)
  have ea : its.toArray ++ its2.toArray = (its ++ its2).toArray := by simp
  rw [ea]
  exact ⟨.ref _, _, I.lnew (t' := s.toks) (r.append r2) (by rw [List.length_append]; omega), rfl, q _ I.fresh⟩
theorem op_repR : L2.OpR X (binaryOp .Mult) (fun x y H Q => ∃ l k xs, x = .ref l ∧ y = .int k ∧ L2.Rd H l (.lst xs) ∧ -(2 ^ 63) ≤ k ∧ k < 2 ^ 63 ∧ xs.length * k.toNat ≤ sizeLine ∧
    ∀ p, H p = none → Q (.ref p) (L2.upd H p (.lst (List.replicate k.toNat xs).flatten))) := by
  intro pins s σ H x y v u Q I rx ry h
  obtain ⟨l, k, xs, rfl, rfl, hH, h1, h2, hz, q⟩ := h
  cases rx
  obtain ⟨t, rfl⟩ := ry
  obtain ⟨z, its, n, r, e⟩ := hH.ok I.hok
  have hl := r.length
  have hlen : its.toArray.size * k.toNat ≤ sizeLine := by rw [List.size_toArray, ← hl]; exact hz
  have hcap : ¬ its.toArray.size * k.toNat > (2 ^ 63 - 1) / 8 := by
    have : (sizeLine : Nat) ≤ (2 ^ 63 - 1) / 8 := by decide
    omega
  have hfit : ¬ (!Builtin.List.listFitsIndex k) = true := by
    rw [fitsIndex_both h1 h2]
    exact Bool.false_ne_true
  have hlong : ¬ Builtin.List.listTooLong (its.toArray.size * k.toNat) = true := by
    rw [notLongL hlen]
    exact Bool.false_ne_true
  have hnew : List.foldl (fun x1 x2 => x1 ++ x2) #[] (List.replicate (if its.toArray.isEmpty = true then 0 else k.toNat) its.toArray) = (List.replicate k.toNat its).flatten.toArray := by
    have f0 : ∀ m : Nat, List.foldl (fun x1 x2 => x1 ++ x2) #[] (List.replicate m its.toArray) = (List.replicate m its).flatten.toArray := fun m => by
      have := foldl_rep its m []
      rw [List.nil_append] at this
      exact this
    rw [f0]
    cases its with
    | nil => simp
    | cons a r' => rw [if_neg (by simp)]
  refine wpAny_binaryOp_repeat_ref (T := "list") (U := "int") (by decide) ⟨_, e, rfl⟩ (fun s' => typeIs_int s' k t) noFill_list_mul F.fills_int_mul F.slot_int_rmul repeat_list F.slot_int_index.lookup
    (call_meets F.slot_int_rmul (typeIs_int s k t) F.entry_int_rmul (F.args_int_rmul_2 _ _) (int___rmul___int_list k t l its.toArray n)
      ⟨e, rfl, ⟨_, e, rfl⟩, call_meets F.slot_list_mul ⟨_, e, rfl⟩ F.entry_list_mul (F.args_list_mul_2 _ _) (AutoListH.list___mul___list_int_3 l its.toArray n k t hfit hcap hlong) ⟨e, ?_⟩⟩)
  rw [hnew]
  exact ⟨.ref _, _, I.lnew (t' := s.toks) (r.rep k.toNat) (by rw [PyProof.Rows.lm_len_rep_flat, Nat.mul_comm]; exact hz), rfl, q _ I.fresh⟩
end
section
variable {X : Cx}
theorem op_eqNil (hu : X.A.units + 64 < cLine) : OpR X (compareOp .Eq) (fun x y H Q => ∃ a b xs, x = .ref a ∧ y = .ref b ∧ SqL X.K H a xs ∧ SqL X.K H b [] ∧ Q (.bl xs.isEmpty) H) := by
  intro pins s σ H x y v u Q I rx ry h
  obtain ⟨a, b, xs, rfl, rfl, ha, hb, q⟩ := h
  cases rx
  cases ry
  obtain ⟨its, rv, hl, _⟩ := I.list ha
  obtain ⟨its2, rv2, hl2, _⟩ := I.list hb
  have e2 : its2 = [] := List.eq_nil_of_length_eq_zero (by rw [← rv2.length]; rfl)
  subst e2
  cases xs with
  | nil =>
    have e1 : its = [] := List.eq_nil_of_length_eq_zero (by rw [← rv.length]; rfl)
    subst e1
    exact SeqAt.RcAt.lists (e := fun _ => true) hl.isList hl2.isList rfl (by omega) (fun j h1 => by simp at h1) X.prog X.w _ _ ⟨.bl _, H, I, rfl, q⟩
  | cons z xs =>
    refine SeqAt.RcAt.lists_lengths hl.isList hl2.isList ?_ (by omega) X.prog X.w _ _ ⟨.bl _, H, I, rfl, q⟩
    have := rv.length
    simp only [List.length_cons] at this
    simp only [List.size_toArray, List.length_nil]
    rw [bne_iff_ne]; omega
theorem op_neNil (hu : X.A.units + 64 < cLine) : OpR X (compareOp .NotEq) (fun x y H Q => ∃ a b xs, x = .ref a ∧ y = .ref b ∧ SqL X.K H a xs ∧ SqL X.K H b [] ∧ Q (.bl (!xs.isEmpty)) H) := by
  intro pins s σ H x y v u Q I rx ry h
  obtain ⟨a, b, xs, rfl, rfl, ha, hb, q⟩ := h
  cases rx
  cases ry
  obtain ⟨its, rv, hl, _⟩ := I.list ha
  obtain ⟨its2, rv2, hl2, _⟩ := I.list hb
  have e2 : its2 = [] := List.eq_nil_of_length_eq_zero (by rw [← rv2.length]; rfl)
  subst e2
  cases xs with
  | nil =>
    have e1 : its = [] := List.eq_nil_of_length_eq_zero (by rw [← rv.length]; rfl)
    subst e1
    exact SeqAt.RcNeAt.lists (e := fun _ => true) hl.isList hl2.isList rfl (by omega) (fun j h1 => by simp at h1) X.prog X.w _ _ ⟨.bl _, H, I, rfl, q⟩
  | cons z xs =>
    refine SeqAt.RcNeAt.lists_lengths hl.isList hl2.isList ?_ (by omega) X.prog X.w _ _ ⟨.bl _, H, I, rfl, q⟩
    have := rv.length
    simp only [List.length_cons] at this
    simp only [List.size_toArray, List.length_nil]
    rw [bne_iff_ne]; omega
end
end PxEx
set_option Elab.async false
set_option linter.all false
set_option maxRecDepth 100000
set_option maxHeartbeats 1000000
namespace Px
open PySem
abbrev XG := Str → Option Value
def RX (K : PySem.W.Frag) (r : List Addr) (F H : L2.Hp) (x : Exc) (d : Option Addr) : Prop := x.fs = []
structure Xt (r : List Addr) (F H : L2.Hp) (r' : List Addr) (F' H' : L2.Hp) : Prop where
  pre : r <+: r'
  sub : L2.Same F F'
  unt : ∀ a o, H a = some o → F a = none → a ∉ r → H' a = some o ∧ F' a = none ∧ a ∉ r'
theorem Xt.refl (r : List Addr) (F H : L2.Hp) : Xt r F H r F H := ⟨List.prefix_refl _, L2.Same.refl _, fun _ _ h1 h2 h3 => ⟨h1, h2, h3⟩⟩
theorem Xt.trans {r r1 r2 : List Addr} {F F1 F2 H H1 H2 : L2.Hp} (x : Xt r F H r1 F1 H1) (y : Xt r1 F1 H1 r2 F2 H2) : Xt r F H r2 F2 H2 :=
  ⟨x.pre.trans y.pre, x.sub.trans y.sub, fun a o h1 h2 h3 => let ⟨g1, g2, g3⟩ := x.unt a o h1 h2 h3; y.unt a o g1 g2 g3⟩
def Post {α β : Type} (G : XG) (K : PySem.W.Frag) (r : List Addr) (F H : L2.Hp) (res : Res α) (rel : List Addr → L2.Hp → α → β → Prop) (Q : β → L2.Hp → Prop) (W : Value → Option Addr → L2.Hp → Prop) : Prop :=
  match res with
  | .ok v m => ∀ r' F' H' V, Xt r F H r' F' H' → RM K r' F' m H' → rel r' F' v V → Q V H'
  | .ex x m => ∀ r' F' H' C d, Xt r F H r' F' H' → RM K r' F' m H' → G x.cls = some C → RX K r' F' H' x d → W C d H'
  | .no => False
abbrev RelI {α : Type} : List Addr → L2.Hp → α → α → Prop := fun _ _ a b => a = b
section
variable {G : XG} {K : PySem.W.Frag} {r r' : List Addr} {F F' H H' : L2.Hp} {α β γ δ : Type} {W W' : Value → Option Addr → L2.Hp → Prop}
theorem Post.mono {res : Res α} {rel : List Addr → L2.Hp → α → β → Prop} {Q : β → L2.Hp → Prop} (x : Xt r F H r' F' H') (h : Post G K r F H res rel Q W) : Post G K r' F' H' res rel Q W := by
  cases res with
  | ok v m => exact fun r2 F2 H2 V h1 h3 h4 => h r2 F2 H2 V (x.trans h1) h3 h4
  | ex y m => exact fun r2 F2 H2 C d h1 h3 h4 h5 => h r2 F2 H2 C d (x.trans h1) h3 h4 h5
  | no => exact h
theorem Post.imp {res : Res α} {rel : List Addr → L2.Hp → α → β → Prop} {Q Q' : β → L2.Hp → Prop} (h : Post G K r F H res rel Q W) (hq : ∀ V H', Q V H' → Q' V H') : Post G K r F H res rel Q' W := by
  cases res with
  | ok v m => exact fun r2 F2 H2 V h1 h3 h4 => hq _ _ (h r2 F2 H2 V h1 h3 h4)
  | ex x m => exact h
  | no => exact h
theorem Post.step {res : Res α} {f : α → Mem → Res γ} {rel1 : List Addr → L2.Hp → α → β → Prop} {rel : List Addr → L2.Hp → γ → δ → Prop} {Q : δ → L2.Hp → Prop} (h : Post G K r F H (res.bind f) rel Q W) :
    Post G K r F H res rel1 (fun V H1 => ∃ r1 F1 v m1, Xt r F H r1 F1 H1 ∧ RM K r1 F1 m1 H1 ∧ rel1 r1 F1 v V ∧ Post G K r1 F1 H1 (f v m1) rel Q W) W := by
  cases res with
  | ok v m => exact fun r2 F2 H2 V h1 h3 h4 => ⟨r2, F2, v, m, h1, h3, h4, Post.mono h1 h⟩
  | ex x m => exact h
  | no => exact h
theorem Post.ok {v : α} {m : Mem} {rel : List Addr → L2.Hp → α → β → Prop} {Q : β → L2.Hp → Prop} {V : β} (h : Post G K r F H (.ok v m) rel Q W) (hm : RM K r F m H) (hv : rel r F v V) : Q V H :=
  h r F H V (Xt.refl _ _ _) hm hv
theorem Xt.froze {m : Mem} {o : L2.HO} {p : Addr} (hm : RM K r F m H) (hp : H p = none) : Xt r F H r (L2.upd F p o) (L2.upd H p o) := by
  have fp : F p = none := by
    cases q : F p with
    | none => rfl
    | some u => rw [hm.sub _ _ q] at hp; cases hp
  exact ⟨List.prefix_refl _, same_upd fp, fun a ob h1 h2 h3 => by rw [L2.upd_ne (L2.ne_of_none h1 hp), L2.upd_ne (L2.ne_of_none h1 hp)]; exact ⟨h1, h2, h3⟩⟩
theorem Xt.wrote {o : L2.HO} {p : Addr} (hp : p ∈ r) : Xt r F H r F (L2.upd H p o) :=
  ⟨List.prefix_refl _, L2.Same.refl _, fun a ob h1 h2 h3 => by rw [L2.upd_ne (fun e : a = p => h3 (by rw [e]; exact hp))]; exact ⟨h1, h2, h3⟩⟩
theorem Post.okF {v : α} {m : Mem} {rel : List Addr → L2.Hp → α → β → Prop} {Q : β → L2.Hp → Prop} {V : β} (h : Post G K r F H (.ok v m) rel Q W) {o : L2.HO} {p : Addr} (hm : RM K r F m H) (hp : H p = none) (hv : rel r (L2.upd F p o) v V) (no : ∀ (ob : Obj) (u : L2.HO), o ≠ .frz ob u := by intro _ _ h; cases h) : Q V (L2.upd H p o) :=
  h r _ _ V (Xt.froze hm hp) (hm.frozen (o := o) hp no).1 hv
theorem Post.okW {v : α} {m : Mem} {rel : List Addr → L2.Hp → α → β → Prop} {Q : β → L2.Hp → Prop} {V : β} {o : L2.HO} {p : Addr} {l : Nat} (h : Post G K r F H (.ok v m) rel Q W) (hl : r[l]? = some p) (hm : RM K r F m (L2.upd H p o)) (hv : rel r F v V) : Q V (L2.upd H p o) :=
  h r F _ V (Xt.wrote (List.mem_of_getElem? hl)) hm hv
theorem post_ite {c : Prop} [Decidable c] {a b : Res α} {rel : List Addr → L2.Hp → α → β → Prop} {Q : β → L2.Hp → Prop} (h : Post G K r F H (if c then a else b) rel Q W) : (c ∧ Post G K r F H a rel Q W) ∨ (¬ c ∧ Post G K r F H b rel Q W) := by
  by_cases hc : c
  · rw [if_pos hc] at h; exact .inl ⟨hc, h⟩
  · rw [if_neg hc] at h; exact .inr ⟨hc, h⟩
theorem asL_rd {m : Mem} {x : PV} {V : L2.V} {xs : List PV} (hm : RM K r F m H) (hx : RV K r F x V) (h : asL m x = some xs) : ∃ a vs, V = .ref a ∧ L2.Rd H a (.lst vs) ∧ RVs K r F xs vs := by
  cases hx with
  | lst h1 h2 => simp only [asL, Option.some.injEq] at h; subst h; exact ⟨_, _, rfl, rd_mono hm.sub h1, h2⟩
  | @loc l a h1 =>
    simp only [asL] at h
    split at h
    · rename_i q
      cases h
      obtain ⟨vs, h2, h3⟩ := hm.obs l a _ h1 q
      exact ⟨a, vs, rfl, .inl h3, h2⟩
    · cases h
  | _ => simp [asL] at h
theorem asL_sq {m : Mem} {x : PV} {V : L2.V} {xs : List PV} (hm : RM K r F m H) (hx : RV K r F x V) (h : asL m x = some xs) : ∃ a vs, V = .ref a ∧ L2.SqL K H a vs ∧ RVs K r F xs vs := by
  obtain ⟨a, vs, e, q, t⟩ := asL_rd hm hx h
  exact ⟨a, vs, e, .inl q, t⟩
theorem asS_sq {m : Mem} {x : PV} {V : L2.V} {xs : List PV} (hm : RM K r F m H) (hx : RV K r F x V) (h : asS m x = some xs) : ∃ a vs, V = .ref a ∧ (L2.SqL K H a vs ∨ L2.SqT K H a vs) ∧ RVs K r F xs vs := by
  cases hx with
  | tup h1 h2 => simp only [asS, Option.some.injEq] at h; subst h; exact ⟨_, _, rfl, .inr (sqT_mono hm.sub h1), h2⟩
  | lst h1 h2 => obtain ⟨a, vs, e, q, t⟩ := asL_sq hm (.lst h1 h2) h; exact ⟨a, vs, e, .inl q, t⟩
  | loc h1 => obtain ⟨a, vs, e, q, t⟩ := asL_sq hm (.loc h1) h; exact ⟨a, vs, e, .inl q, t⟩
  | _ => simp [asS, asL] at h
theorem LINE_eq : LINE = sizeLine := by rw [sizeLine_eq]; rfl
end
section
variable {G : XG} {X : L2.Cx}
def rB (G : XG) (K : PySem.W.Frag) (W : Value → Option Addr → L2.Hp → Prop) (f : Mem → PV → PV → Res PV) : L2.R2 := fun V U H Q => ∃ r F m x y, RM K r F m H ∧ RV K r F x V ∧ RV K r F y U ∧ Post G K r F H (f m x y) (RV K) Q W
def opOf : Op2 → Operator
  | .add => .Add | .sub => .Sub | .mul => .Mult | .fdv => .FloorDiv | .mod => .Mod | .pow => .Pow | .shl => .LShift | .shr => .RShift | .band => .BitAnd
theorem ok_bin {W : Value → Option Addr → L2.Hp → Prop} (o : Op2) : L2.OpR X (binaryOp (opOf o)) (rB G X.K W (fun m => opBin m o)) := by
  intro pins s σ H V U v u Q I rx ry h
  obtain ⟨r, F, m, x, y, hm, hx, hy, h⟩ := h
  replace h : Post G X.K r F H (opBin m o x y) (RV X.K) Q W := h
  cases hx <;> cases hy <;> cases o <;> (try exact h.elim)
  case int.int.add i j => exact L2.op_add pins s σ H _ _ v u Q I rx ry ⟨i, j, rfl, rfl, h.ok hm (.int _)⟩
  case int.int.sub i j => exact L2.op_sub pins s σ H _ _ v u Q I rx ry ⟨i, j, rfl, rfl, h.ok hm (.int _)⟩
  case int.int.mul i j =>
    rcases post_ite h with ⟨c, h⟩ | ⟨_, h⟩
    · exact L2.op_mulW pins s σ H _ _ v u Q I rx ry ⟨i, j, rfl, rfl, c, h.ok hm (.int _)⟩
    · exact h.elim
  case int.int.fdv i j =>
    rcases post_ite h with ⟨c, h⟩ | ⟨_, h⟩
    · exact L2.op_fdivW pins s σ H _ _ v u Q I rx ry ⟨i, j, rfl, rfl, c, h.ok hm (.int _)⟩
    · exact h.elim
  case int.int.mod i j =>
    rcases post_ite h with ⟨c, h⟩ | ⟨_, h⟩
    · exact L2.op_mod pins s σ H _ _ v u Q I rx ry ⟨i, j, rfl, rfl, c, h.ok hm (.int _)⟩
    · exact h.elim
  case int.int.pow i j =>
    rcases post_ite h with ⟨c, h⟩ | ⟨_, h⟩
    · exact L2.op_pow pins s σ H _ _ v u Q I rx ry ⟨i, j, rfl, rfl, c, h.ok hm (.int _)⟩
    · exact h.elim
  case int.int.shl i j =>
    rcases post_ite h with ⟨c, h⟩ | ⟨_, h⟩
    · exact L2.op_shl pins s σ H _ _ v u Q I rx ry ⟨i, j, rfl, rfl, c, h.ok hm (.int _)⟩
    · exact h.elim
  case int.int.shr i j =>
    rcases post_ite h with ⟨c, h⟩ | ⟨_, h⟩
    · exact L2.op_shr pins s σ H _ _ v u Q I rx ry ⟨i, j, rfl, rfl, c, h.ok hm (.int _)⟩
    · exact h.elim
  case int.int.band i j => exact L2.op_and pins s σ H _ _ v u Q I rx ry ⟨i, j, rfl, rfl, h.ok hm (.int _)⟩
  case str.str.add i j =>
    rcases post_ite h with ⟨c, h⟩ | ⟨_, h⟩
    · exact L2.op_add_str pins s σ H _ _ v u Q I rx ry ⟨i, j, rfl, rfl, by rw [← LINE_eq]; exact c, h.ok hm (.str _)⟩
    · exact h.elim
  case tup.tup.add xs a vs h1 h2 ys b ws h3 h4 =>
    rcases post_ite h with ⟨c, h⟩ | ⟨_, h⟩
    · refine L2.op_catA pins s σ H _ _ v u Q I rx ry ⟨_, _, vs, ws, rfl, rfl, sqT_mono hm.sub h1, sqT_mono hm.sub h3, by rw [← LINE_eq, ← h2.len, ← h4.len]; exact c, fun e => ?_, fun _ e => ?_, fun _ _ p hp => ?_⟩
      · subst e
        cases h2
        exact h.ok hm (.tup h3 h4)
      · subst e
        cases h4
        rw [List.append_nil] at h
        exact h.ok hm (.tup h1 h2)
      · exact h.okF hm hp (.tup (.inl (.inl L2.upd_same)) ((h2.append h4).mono (List.prefix_refl _) (hm.frozen hp).2))
    · exact h.elim
  case tup.int.mul xs a vs h1 h2 k =>
    rcases post_ite h with ⟨⟨c1, c2, c3⟩, h⟩ | ⟨_, h⟩
    · refine PxEx.op_repX pins s σ H _ _ v u Q I rx ry ⟨_, k, vs, rfl, rfl, sqT_mono hm.sub h1, c1, c2, by rw [← h2.len]; exact c3, fun e => ?_, fun p hp => ?_⟩
      · rcases e with rfl | rfl
        · cases h2
          have : (List.replicate k.toNat ([] : List PV)).flatten = [] := by simp
          rw [this] at h
          exact h.ok hm (.tup h1 .nil)
        · have : (List.replicate (1 : Int).toNat xs).flatten = xs := by simp
          rw [this] at h
          exact h.ok hm (.tup h1 h2)
      · exact h.okF hm hp (.tup (.inl (.inl L2.upd_same)) ((h2.rep _).mono (List.prefix_refl _) (hm.frozen hp).2))
    · exact h.elim
  case lst.lst.add xs a vs h1 h2 ys b ws h3 h4 =>
    rcases post_ite h with ⟨c, h⟩ | ⟨_, h⟩
    · refine PxEx.op_catR pins s σ H _ _ v u Q I rx ry ⟨_, _, vs, ws, rfl, rfl, rd_mono hm.sub h1, rd_mono hm.sub h3, by rw [← LINE_eq, ← h2.len, ← h4.len]; exact c, fun p hp => ?_⟩
      exact h.okF hm hp (.lst (.inl L2.upd_same) ((h2.append h4).mono (List.prefix_refl _) (hm.frozen hp).2))
    · exact h.elim
  case lst.int.mul xs a vs h1 h2 k =>
    rcases post_ite h with ⟨⟨c1, c2, c3⟩, h⟩ | ⟨_, h⟩
    · refine PxEx.op_repR pins s σ H _ _ v u Q I rx ry ⟨_, k, vs, rfl, rfl, rd_mono hm.sub h1, by omega, by omega, by rw [← h2.len]; exact Nat.le_trans c3 (by rw [← LINE_eq]; unfold LINE; decide), fun p hp => ?_⟩
      exact h.okF hm hp (.lst (.inl L2.upd_same) ((h2.rep _).mono (List.prefix_refl _) (hm.frozen hp).2))
    · exact h.elim
mutual
theorem toD_dp {K : PySem.W.Frag} {r : List Addr} {F H : L2.Hp} {m : Mem} (hm : RM K r F m H) : ∀ {x : PV} {V : L2.V} {d : PyData}, RV K r F x V → toD m x = some d → L2.Dp K H V d
  | _, _, _, .non, h => by simp only [toD, Option.some.injEq] at h; subst h; exact .non
  | _, _, _, .bl b, h => by simp only [toD, Option.some.injEq] at h; subst h; exact .bl b
  | _, _, _, .int i, h => by simp only [toD, Option.some.injEq] at h; subst h; exact .int i
  | _, _, _, .str i, h => by simp only [toD, Option.some.injEq] at h; subst h; exact .str i
  | _, _, _, .ty n, h => by simp [toD] at h
  | _, _, _, .scr n, h => by simp [toD] at h
  | _, _, _, .loc q, h => by simp [toD] at h
  | _, _, _, .dic _ _ _, h => by simp [toD] at h
  | _, _, _, .tup q t, h => by
    simp only [toD, Option.map_eq_some_iff] at h
    obtain ⟨ds, h1, rfl⟩ := h
    exact .tup (sqT_mono hm.sub q) (toDA_dp hm t h1)
  | _, _, _, .lst q t, h => by
    simp only [toD, Option.map_eq_some_iff] at h
    obtain ⟨ds, h1, rfl⟩ := h
    exact .lst (.inl (rd_mono hm.sub q)) (toDA_dp hm t h1)
theorem toDA_dp {K : PySem.W.Frag} {r : List Addr} {F H : L2.Hp} {m : Mem} (hm : RM K r F m H) : ∀ {xs : List PV} {vs : List L2.V} {ds : List PyData}, RVs K r F xs vs → toDA m xs = some ds → L2.DpAll K H vs ds
  | _, _, _, .nil, h => by simp only [toDA, Option.some.injEq] at h; subst h; exact .nil
  | _, _, _, .cons q t, h => by
    simp only [toDA] at h
    split at h
    · rename_i d ds h1 h2
      cases h
      exact .cons (toD_dp hm q h1) (toDA_dp hm t h2)
    · cases h
end
theorem toDT_dp {K : PySem.W.Frag} {r : List Addr} {F H : L2.Hp} {m : Mem} {x : PV} {V : L2.V} {d : PyData} (hm : RM K r F m H) (hx : RV K r F x V) (h : toDT m x = some d) : L2.Dp K H V d := by
  cases hx with
  | @loc l a q =>
    simp only [toDT] at h
    split at h
    · rename_i xs q2
      simp only [Option.map_eq_some_iff] at h
      obtain ⟨ds, h1, rfl⟩ := h
      obtain ⟨vs, h2, h3⟩ := hm.obs l a _ q q2
      exact .lst (L2.SqL.of h3) (toDA_dp hm h2 h1)
    · cases h
  | non => exact toD_dp hm .non h
  | bl b => exact toD_dp hm (.bl b) h
  | int b => exact toD_dp hm (.int b) h
  | str b => exact toD_dp hm (.str b) h
  | ty b => exact toD_dp hm (.ty b) h
  | tup h1 h2 => exact toD_dp hm (.tup h1 h2) h
  | lst h1 h2 => exact toD_dp hm (.lst h1 h2) h
  | dic h1 h2 h3 => exact toD_dp hm (.dic h1 h2 h3) h
  | scr h1 => exact toD_dp hm (.scr h1) h
theorem flat_rel {K : PySem.W.Frag} {r : List Addr} {F : L2.Hp} {x : PV} {V : L2.V} (hx : RV K r F x V) (h : flat x = true) : L2.flatV V = true := by
  cases hx <;> first | rfl | (simp [flat] at h)
theorem flat_all {K : PySem.W.Frag} {r : List Addr} {F : L2.Hp} : ∀ {xs : List PV} {vs : List L2.V}, RVs K r F xs vs → xs.all flat = true → vs.all L2.flatV = true
  | _, _, .nil, _ => rfl
  | _, _, .cons h t, e => by
    simp only [List.all_cons, Bool.and_eq_true] at e ⊢
    exact ⟨flat_rel h e.1, flat_all t e.2⟩
theorem eqF_rel {K : PySem.W.Frag} {r : List Addr} {F : L2.Hp} {x y : PV} {V U : L2.V} (hx : RV K r F x V) (hy : RV K r F y U) (h1 : flat x = true) (h2 : flat y = true) : eqF x y = L2.eqV V U := by
  cases hx <;> first | (simp [flat] at h1; done) | (cases hy <;> first | (simp [flat] at h2; done) | (simp [eqF, L2.eqV]; try rfl))
theorem any_rel {K : PySem.W.Frag} {r : List Addr} {F : L2.Hp} {x : PV} {V : L2.V} (hx : RV K r F x V) (h1 : flat x = true) : ∀ {xs : List PV} {vs : List L2.V}, RVs K r F xs vs → xs.all flat = true → (xs.any fun z => eqF z x) = L2.inV V vs
  | _, _, .nil, _ => rfl
  | _, _, .cons h t, e => by
    simp only [List.all_cons, Bool.and_eq_true] at e
    have e1 := eqF_rel h hx e.1 h1
    have e2 := any_rel hx h1 t e.2
    unfold L2.inV at e2 ⊢
    rw [List.any_cons, List.any_cons, e2]
    exact congrArg (· || _) e1
end
end Px
set_option Elab.async false
set_option linter.all false
set_option maxRecDepth 100000
set_option maxHeartbeats 2000000
namespace PxDic
open PySem PySem.Spec PyProof.Rows L2
section
variable {X : Cx}
theorem op_in : OpR X (compareOp .In) (fun x y H Q => ∃ a kvs k, y = .ref a ∧ H a = some (.dK kvs) ∧ x = kV k ∧ Q (.bl (valV kvs k).isSome) H) := by
  intro pins s σ H x y v u Q I rx ry h
  obtain ⟨a, kvs, k, rfl, e, rfl, q⟩ := h
  obtain rfl : u = Value.ref a := ry
  obtain ⟨z, hd, vs, rel, dd⟩ := dk_rd I.hok (.inl e)
  refine wpAny_in_of (kV_is rx) hd dd.mapOf ?_
  rw [← (rel.val k).isSome_eq]
  exact ⟨.bl _, H, I.tok _, rfl, q⟩
theorem op_nin : OpR X (compareOp .NotIn) (fun x y H Q => ∃ a kvs k, y = .ref a ∧ H a = some (.dK kvs) ∧ x = kV k ∧ Q (.bl (!(valV kvs k).isSome)) H) := by
  intro pins s σ H x y v u Q I rx ry h
  obtain ⟨a, kvs, k, rfl, e, rfl, q⟩ := h
  obtain rfl : u = Value.ref a := ry
  obtain ⟨z, hd, vs, rel, dd⟩ := dk_rd I.hok (.inl e)
  refine wpAny_notIn_of (kV_is rx) hd dd.mapOf ?_
  rw [← (rel.val k).isSome_eq]
  exact ⟨.bl _, H, I.tok _, rfl, q⟩
theorem ix_dk : IxR X (fun x y H Q => ∃ a kvs k v, x = .ref a ∧ H a = some (.dK kvs) ∧ y = kV k ∧ valV kvs k = some v ∧ Q v H) := by
  intro value slice pins s σ H x y v u Q I rx ry h hs
  obtain ⟨a, kvs, k, r, rfl, e, rfl, l, q⟩ := h
  obtain rfl : v = Value.ref a := rx
  obtain ⟨z, hd, vs, rel, dd⟩ := dk_rd I.hok (.inl e)
  obtain ⟨w', hw, rw'⟩ := RelO.some_of (v := r) (o := valueAt vs k) (by rw [← l]; exact rel.val k)
  exact tail_any dd.typeIs slot_dict_getitem.lookup (wpAny_getItem_of (kV_is ry) dd.mapOf hw ⟨r, H, I.tok _, rw', q⟩) hs
theorem set_dk : PSet X (fun o i v H Q => ∃ p kvs k, o = .ref p ∧ i = kV k ∧ H p = some (.dK kvs) ∧ kvs.length < sizeLine ∧ Q (upd H p (.dK (putK kvs k v)))) := by
  intro pins s σ H o i v ov iv u Q I ro ri rv h
  obtain ⟨p, kvs, k, rfl, rfl, e, l, q⟩ := h
  obtain rfl : ov = Value.ref p := ro
  obtain ⟨z, hd, vs, rel, dd⟩ := dk_of I.hok e
  have hz : vs.length ≤ sizeLine := by rw [← rel.length]; exact z
  have hl : (putK kvs k v).length ≤ sizeLine := by have := length_putK kvs k v; omega
  refine wpAny_setItem_pairs (hsz := hz) (kV_is ri) dd fun h' dd' hs => ?_
  have he : ∃ q, h'.get? p = some q := let ⟨q, _, _, hq, _⟩ := dd'; ⟨q, hq⟩
  exact ⟨_, d_write I (by rw [e]; exact True.intro) hs he (dk_new hl hd (rel.put k rv) dd'), q⟩
theorem set_or {t t' : TSet} (h : PSet X t) (h' : PSet X t') : PSet X (fun o i v H Q => t o i v H Q ∨ t' o i v H Q) := by
  intro pins s σ H o i v ov iv u Q I ro ri rv q
  rcases q with q | q
  · exact h pins s σ H o i v ov iv u Q I ro ri rv q
  · exact h' pins s σ H o i v ov iv u Q I ro ri rv q
end
end PxDic
namespace Px
open PySem
section
variable {K : PySem.W.Frag} {r : List Addr} {F H : L2.Hp} {m : Mem}
theorem keyOf_rel {x : PV} {V : L2.V} {k : L2.Key} (hx : RV K r F x V) (h : keyOf x = some k) : V = L2.kV k := by
  cases hx <;> simp [keyOf] at h
  · subst h; rfl
  · subst h; rfl
theorem dicAt_rel {x y : PV} {V U : L2.V} {q : List L2.Key × List PV × L2.Key} (hm : RM K r F m H) (hx : RV K r F x V) (hy : RV K r F y U) (h : dicAt m x y = some q) :
    ∃ (l : Nat) (a : Addr) (ws : List L2.V), x = .loc l ∧ m[l]? = some (.dic q.1 q.2.1) ∧ r[l]? = some a ∧ V = .ref a ∧ H a = some (.dK (q.1.zip ws)) ∧ RVs K r F q.2.1 ws ∧ q.1.length = ws.length ∧ U = L2.kV q.2.2 := by
  cases hx with
  | @loc l a hl =>
    simp only [dicAt] at h
    cases e : keyOf y with
    | none => rw [e] at h; cases h
    | some k =>
      rw [e] at h
      cases e2 : m[l]? with
      | none => simp [e2] at h
      | some o =>
        cases o with
        | dic ks vs =>
          simp only [e2, Option.some.injEq] at h
          subst h
          obtain ⟨ws, h1, h2, h3⟩ := hm.obs l a _ hl e2
          exact ⟨l, a, ws, rfl, e2, hl, rfl, h3, h1, h2, keyOf_rel hy e⟩
        | _ => simp [e2] at h
  | _ => simp [dicAt] at h
theorem zip_some : ∀ {ks : List L2.Key} {ws : List L2.V} (k : L2.Key), ks.length = ws.length → (L2.valV (ks.zip ws) k).isSome = hasK k ks
  | [], [], k, _ => rfl
  | j :: ks, w :: ws, k, h => by
    rw [List.zip_cons_cons]
    by_cases e : j = k
    · rw [L2.valV_pos (show (j, w).1 = k from e)]; simp [hasK, e]
    · rw [L2.valV_neg (show ¬ (j, w).1 = k from e), zip_some k (by simpa using h)]
      simp [hasK, e]
theorem getK_rel {k : L2.Key} {v : PV} : ∀ {ks : List L2.Key} {xs : List PV} {ws : List L2.V}, RVs K r F xs ws → getK k ks xs = some v → ∃ w, L2.valV (ks.zip ws) k = some w ∧ RV K r F v w
  | [], _, _, _, h => by simp [getK] at h
  | j :: ks, _, _, .nil, h => by simp [getK] at h
  | j :: ks, _, _, .cons (x := x) (v := w) (xs := xs) (vs := ws) hx t, h => by
    simp only [getK] at h
    by_cases e : j = k
    · rw [if_pos e] at h; cases h
      exact ⟨w, by rw [List.zip_cons_cons, L2.valV_pos (show (j, w).1 = k from e)], hx⟩
    · rw [if_neg e] at h
      obtain ⟨w', h1, h2⟩ := getK_rel t h
      exact ⟨w', by rw [List.zip_cons_cons, L2.valV_neg (show ¬ (j, w).1 = k from e)]; exact h1, h2⟩
theorem rep_rel {k : L2.Key} {v : PV} {V : L2.V} (hv : RV K r F v V) : ∀ {ks : List L2.Key} {xs : List PV} {ws : List L2.V}, RVs K r F xs ws → ks.length = ws.length →
    ∃ zs, RVs K r F ((ks.zip xs).map fun p => if p.1 = k then v else p.2) zs ∧ ks.length = zs.length ∧ (ks.zip ws).map (fun kv => if kv.1 = k then (kv.1, V) else kv) = ks.zip zs
  | [], _, _, .nil, _ => ⟨[], .nil, rfl, rfl⟩
  | j :: ks, _, _, .cons (x := x) (v := w) (xs := xs) (vs := ws) hx t, hl => by
    obtain ⟨zs, h1, h2, h3⟩ := rep_rel (k := k) hv t (by simpa using hl)
    by_cases e : j = k
    · refine ⟨V :: zs, ?_, by simp [h2], ?_⟩
      · rw [List.zip_cons_cons, List.map_cons, if_pos (show (j, x).1 = k from e)]; exact .cons hv h1
      · rw [List.zip_cons_cons, List.map_cons, if_pos (show (j, w).1 = k from e), h3]; rfl
    · refine ⟨w :: zs, ?_, by simp [h2], ?_⟩
      · rw [List.zip_cons_cons, List.map_cons, if_neg (show ¬ (j, x).1 = k from e)]; exact .cons hx h1
      · rw [List.zip_cons_cons, List.map_cons, if_neg (show ¬ (j, w).1 = k from e), h3]; rfl
theorem putK_rel {k : L2.Key} {v : PV} {V : L2.V} (hv : RV K r F v V) {ks : List L2.Key} {xs : List PV} {ws : List L2.V} (h : RVs K r F xs ws) (hl : ks.length = ws.length) :
    ∃ zs, RVs K r F (putKk k v ks xs).2 zs ∧ (putKk k v ks xs).1.length = zs.length ∧ L2.putK (ks.zip ws) k V = (putKk k v ks xs).1.zip zs := by
  have ha : ((ks.zip ws).any fun kv => decide (kv.1 = k)) = hasK k ks := by rw [L2.valV_any, zip_some k hl]
  unfold putKk L2.putK
  rw [ha]
  by_cases e : hasK k ks = true
  · rw [if_pos e, if_pos e]
    exact rep_rel hv h hl
  · rw [if_neg e, if_neg e]
    refine ⟨ws ++ [V], h.append (.cons hv .nil), by simp [hl], ?_⟩
    rw [List.zip_append hl]; rfl
end
end Px
set_option Elab.async false
set_option linter.all false
set_option maxRecDepth 100000
set_option maxHeartbeats 1000000
namespace Px
open PySem
section
variable {G : XG} {X : L2.Cx} {W : Value → Option Addr → L2.Hp → Prop}
def cmOf : Cm → CmpOp
  | .eq => .Eq | .ne => .NotEq | .lt => .Lt | .le => .LtE | .gt => .Gt | .ge => .GtE | .is => .Is | .isn => .IsNot | .inn => .In | .nin => .NotIn
theorem op_inT (hu : X.A.units + 64 < cLine) : L2.OpR X (compareOp .In) (fun x y H Q => ∃ d ds, L2.Dp X.K H x d ∧ (L2.Dp X.K H y (.tuple ds) ∨ L2.Dp X.K H y (.list ds)) ∧ d.canLay0 = true ∧ d.depth ≤ 60 ∧ PyData.canLayAll0 ds = true ∧ Q (.bl (ds.any fun z => PyData.eqv z d)) H) := by
  intro pins s σ H x y v u Q I rx ry ⟨d, ds, hd, he, c1, c2, c3, q⟩
  obtain ⟨as, r1⟩ := L2.Dp.reads I d x v hd rx
  rcases he with he | he
  · obtain ⟨bs, r2⟩ := L2.Dp.reads I (.tuple ds) y u he ry
    exact SeqAt.in_tuple_reads r2 r1 c3 c1 (by omega) ⟨.bl _, H, I, rfl, q⟩
  · obtain ⟨bs, r2⟩ := L2.Dp.reads I (.list ds) y u he ry
    exact SeqAt.in_list_reads r2 r1 c3 c1 (by omega) ⟨.bl _, H, I, rfl, q⟩
theorem op_ninT (hu : X.A.units + 64 < cLine) : L2.OpR X (compareOp .NotIn) (fun x y H Q => ∃ d ds, L2.Dp X.K H x d ∧ (L2.Dp X.K H y (.tuple ds) ∨ L2.Dp X.K H y (.list ds)) ∧ d.canLay0 = true ∧ d.depth ≤ 60 ∧ PyData.canLayAll0 ds = true ∧ Q (.bl (!ds.any fun z => PyData.eqv z d)) H) := by
  intro pins s σ H x y v u Q I rx ry ⟨d, ds, hd, he, c1, c2, c3, q⟩
  obtain ⟨as, r1⟩ := L2.Dp.reads I d x v hd rx
  rcases he with he | he
  · obtain ⟨bs, r2⟩ := L2.Dp.reads I (.tuple ds) y u he ry
    exact SeqAt.notIn_tuple_reads r2 r1 c3 c1 (by omega) ⟨.bl _, H, I, rfl, q⟩
  · obtain ⟨bs, r2⟩ := L2.Dp.reads I (.list ds) y u he ry
    exact SeqAt.notIn_list_reads r2 r1 c3 c1 (by omega) ⟨.bl _, H, I, rfl, q⟩
theorem inDs_post {K : PySem.W.Frag} {r : List Addr} {F H : L2.Hp} {m : Mem} {x y : PV} {V U : L2.V} {f : Bool → Bool} {Q : L2.VK} (hm : RM K r F m H) (hx : RV K r F x V) (hy : RV K r F y U) (h : Post G K r F H (inDat m x y f) (RV K) Q W) :
    ∃ d ds, L2.Dp K H V d ∧ (L2.Dp K H U (.tuple ds) ∨ L2.Dp K H U (.list ds)) ∧ d.canLay0 = true ∧ d.depth ≤ 60 ∧ PyData.canLayAll0 ds = true ∧ Q (.bl (f (ds.any fun z => PyData.eqv z d))) H := by
  have key : ∀ d ds, Post G K r F H (inDs m d ds f) (RV K) Q W → d.canLay0 = true ∧ d.depth ≤ 60 ∧ PyData.canLayAll0 ds = true ∧ Q (.bl (f (ds.any fun z => PyData.eqv z d))) H := fun d ds h => by
    unfold inDs at h
    rcases post_ite h with ⟨c, h⟩ | ⟨_, h⟩
    · simp only [Bool.and_eq_true, decide_eq_true_eq] at c
      exact ⟨c.1.1, c.1.2, c.2, h.ok hm (.bl _)⟩
    · exact h.elim
  unfold inDat at h
  split at h
  · rename_i d ds e1 e2
    exact ⟨d, ds, toDT_dp hm hx e1, .inl (toDT_dp hm hy e2), key d ds h⟩
  · rename_i d ds e1 e2
    exact ⟨d, ds, toDT_dp hm hx e1, .inr (toDT_dp hm hy e2), key d ds h⟩
  · exact h.elim
theorem ok_cmp (hu : X.A.units + 64 < cLine) (o : Cm) : L2.OpR X (compareOp (cmOf o)) (rB G X.K W (fun m => opCmp m o)) := by
  intro pins s σ H V U v u Q I rx ry h
  obtain ⟨r, F, m, x, y, hm, hx, hy, h⟩ := h
  replace h : Post G X.K r F H (opCmp m o x y) (RV X.K) Q W := h
  cases o with
  | eq =>
    simp only [opCmp] at h
    cases e : pvEq m x y with
    | none => rw [e] at h; exact h.elim
    | some b =>
    rw [e] at h
    replace h : Post G X.K r F H (.ok (.bl b) m) (RV X.K) Q W := h
    unfold pvEq at e
    split at e
    · rename_i cdt
      cases e
      cases hx <;> first | (simp [dicTup] at cdt; done) | skip
      cases hy <;> first | (simp [dicTup] at cdt; done) | skip
      rename_i g1 g2 g3 _ _ _ g4 g5
      exact PxEx.op_eqDT hu pins s σ H _ _ v u Q I rx ry ⟨_, _, _, _, rfl, rfl, hm.sub _ _ g1, sqT_mono hm.sub g4, h.ok hm (.bl _)⟩
    split at e
    · rename_i cln
      cases hx with
      | @loc l a q1 =>
        cases hy with
        | @lst ys b vs g4 g5 =>
          cases ys with
          | cons _ _ => simp [locNil] at cln
          | nil =>
            cases g5
            simp only [Option.map_eq_some_iff] at e
            obtain ⟨xs, e1, rfl⟩ := e
            obtain ⟨c, ws, e2, q, t⟩ := asL_sq hm (.loc q1) e1
            cases e2
            have eb : ws.isEmpty = xs.isEmpty := by cases t <;> rfl
            exact PxEx.op_eqNil hu pins s σ H _ _ v u Q I rx ry ⟨_, _, ws, rfl, rfl, q, .inl (rd_mono hm.sub g4), by rw [eb]; exact h.ok hm (.bl _)⟩
        | _ => simp [locNil] at cln
      | _ => simp [locNil] at cln
    split at e
    · rename_i d1 d2 e1 e2
      split at e
      · rename_i c
        cases e
        simp only [Bool.and_eq_true] at c
        exact L2.op_eqD hu pins s σ H _ _ v u Q I rx ry ⟨d1, d2, toDT_dp hm hx e1, toDT_dp hm hy e2, c.1, c.2, h.ok hm (.bl _)⟩
      · cases e
    · cases e
  | ne =>
    simp only [opCmp] at h
    cases e : pvEq m x y with
    | none => rw [e] at h; exact h.elim
    | some b =>
    rw [e] at h
    replace h : Post G X.K r F H (.ok (.bl (!b)) m) (RV X.K) Q W := h
    unfold pvEq at e
    split at e
    · rename_i cdt
      cases e
      cases hx <;> first | (simp [dicTup] at cdt; done) | skip
      cases hy <;> first | (simp [dicTup] at cdt; done) | skip
      rename_i g1 g2 g3 _ _ _ g4 g5
      exact PxEx.op_neDT hu pins s σ H _ _ v u Q I rx ry ⟨_, _, _, _, rfl, rfl, hm.sub _ _ g1, sqT_mono hm.sub g4, h.ok hm (.bl _)⟩
    split at e
    · rename_i cln
      cases hx with
      | @loc l a q1 =>
        cases hy with
        | @lst ys b vs g4 g5 =>
          cases ys with
          | cons _ _ => simp [locNil] at cln
          | nil =>
            cases g5
            simp only [Option.map_eq_some_iff] at e
            obtain ⟨xs, e1, rfl⟩ := e
            obtain ⟨c, ws, e2, q, t⟩ := asL_sq hm (.loc q1) e1
            cases e2
            have eb : ws.isEmpty = xs.isEmpty := by cases t <;> rfl
            exact PxEx.op_neNil hu pins s σ H _ _ v u Q I rx ry ⟨_, _, ws, rfl, rfl, q, .inl (rd_mono hm.sub g4), by rw [eb]; exact h.ok hm (.bl _)⟩
        | _ => simp [locNil] at cln
      | _ => simp [locNil] at cln
    split at e
    · rename_i d1 d2 e1 e2
      split at e
      · rename_i c
        cases e
        simp only [Bool.and_eq_true] at c
        exact L2.op_neD hu pins s σ H _ _ v u Q I rx ry ⟨d1, d2, toDT_dp hm hx e1, toDT_dp hm hy e2, c.1, c.2, h.ok hm (.bl _)⟩
      · cases e
    · cases e
  | lt =>
    cases hx with
    | @tup xs a vs g1 t1 => cases hy with
      | @tup ys b ws g2 t2 =>
        replace h : Post G X.K r F H (ltT m xs ys) (RV X.K) Q W := h
        unfold ltT at h
        split at h
        · rename_i ns ms e1 e2
          rw [asInts_eq e1] at t1
          rw [asInts_eq e2] at t2
          rw [t1.ints] at g1
          rw [t2.ints] at g2
          exact L2.op_ltT (by omega) pins s σ H _ _ v u Q I rx ry ⟨_, _, ns, ms, rfl, rfl, sqT_mono hm.sub g1, sqT_mono hm.sub g2, h.ok hm (.bl _)⟩
        · exact h.elim
      | _ => exact h.elim
    | int _ => cases hy with
      | int _ => exact L2.op_lt pins s σ H _ _ v u Q I rx ry ⟨_, _, rfl, rfl, h.ok hm (.bl _)⟩
      | _ => exact h.elim
    | _ => exact h.elim
  | le => cases hx <;> cases hy <;> first | exact h.elim | exact L2.op_le pins s σ H _ _ v u Q I rx ry ⟨_, _, rfl, rfl, h.ok hm (.bl _)⟩
  | gt => cases hx <;> cases hy <;> first | exact h.elim | exact L2.op_gt pins s σ H _ _ v u Q I rx ry ⟨_, _, rfl, rfl, h.ok hm (.bl _)⟩
  | ge => cases hx <;> cases hy <;> first | exact h.elim | exact L2.op_ge pins s σ H _ _ v u Q I rx ry ⟨_, _, rfl, rfl, h.ok hm (.bl _)⟩
  | is => cases hx <;> cases hy <;> first | exact h.elim | exact L2.op_isN pins s σ H _ _ v u Q I rx ry ⟨rfl, h.ok hm (.bl _)⟩ | exact L2.op_isBl pins s σ H _ _ v u Q I rx ry ⟨_, _, rfl, rfl, h.ok hm (.bl _)⟩
  | isn => cases hx <;> cases hy <;> first | exact h.elim | exact L2.op_notN pins s σ H _ _ v u Q I rx ry ⟨rfl, h.ok hm (.bl _)⟩ | exact L2.op_notBl pins s σ H _ _ v u Q I rx ry ⟨_, _, rfl, rfl, h.ok hm (.bl _)⟩
  | inn =>
    simp only [opCmp] at h
    cases e : asS m y with
    | none =>
      rw [e] at h
      replace h : Post G X.K r F H (inD m y x id) (RV X.K) Q W := h
      unfold inD at h
      cases e2 : dicAt m y x with
      | none => rw [e2] at h; exact h.elim
      | some q =>
        rw [e2] at h
        obtain ⟨l, a, ws, rfl, g1, g2, rfl, g3, g4, g5, rfl⟩ := dicAt_rel hm hy hx e2
        exact PxDic.op_in pins s σ H _ _ v u Q I rx ry ⟨a, _, q.2.2, rfl, g3, rfl, by rw [zip_some _ g5]; exact h.ok hm (.bl _)⟩
    | some ys =>
    rw [e] at h
    replace h : Post G X.K r F H (if flat x && ys.all flat then .ok (.bl (ys.any fun z => eqF z x)) m else inDat m x y id) (RV X.K) Q W := h
    rcases post_ite h with ⟨c, h⟩ | ⟨_, h⟩
    · simp only [Bool.and_eq_true] at c
      obtain ⟨a, vs, rfl, q, t⟩ := asS_sq hm hy e
      rw [any_rel hx c.1 t c.2] at h
      exact L2.op_in_seq pins s σ H _ _ v u Q I rx ry ⟨a, vs, rfl, q, flat_rel hx c.1, flat_all t c.2, h.ok hm (.bl _)⟩
    · exact op_inT hu pins s σ H _ _ v u Q I rx ry (inDs_post hm hx hy h)
  | nin =>
    simp only [opCmp] at h
    cases e : asS m y with
    | none =>
      rw [e] at h
      replace h : Post G X.K r F H (inD m y x not) (RV X.K) Q W := h
      unfold inD at h
      cases e2 : dicAt m y x with
      | none => rw [e2] at h; exact h.elim
      | some q =>
        rw [e2] at h
        obtain ⟨l, a, ws, rfl, g1, g2, rfl, g3, g4, g5, rfl⟩ := dicAt_rel hm hy hx e2
        exact PxDic.op_nin pins s σ H _ _ v u Q I rx ry ⟨a, _, q.2.2, rfl, g3, rfl, by rw [zip_some _ g5]; exact h.ok hm (.bl _)⟩
    | some ys =>
    rw [e] at h
    replace h : Post G X.K r F H (if flat x && ys.all flat then .ok (.bl (!ys.any fun z => eqF z x)) m else inDat m x y not) (RV X.K) Q W := h
    rcases post_ite h with ⟨c, h⟩ | ⟨_, h⟩
    · simp only [Bool.and_eq_true] at c
      obtain ⟨a, vs, rfl, q, t⟩ := asS_sq hm hy e
      rw [any_rel hx c.1 t c.2] at h
      exact L2.op_notIn_seq pins s σ H _ _ v u Q I rx ry ⟨a, vs, rfl, q, flat_rel hx c.1, flat_all t c.2, h.ok hm (.bl _)⟩
    · exact op_ninT hu pins s σ H _ _ v u Q I rx ry (inDs_post hm hx hy h)
theorem atI_rel {K : PySem.W.Frag} {r : List Addr} {F : L2.Hp} {xs : List PV} {vs : List L2.V} {i : Int} {x : PV} (t : RVs K r F xs vs) (h : L2.atI xs i = some x) : ∃ v, L2.atI vs i = some v ∧ RV K r F x v := by
  unfold L2.atI at h ⊢
  rw [t.len] at h
  cases e : L2.ixN vs.length i with
  | none => rw [e] at h; cases h
  | some j =>
    rw [e] at h
    obtain ⟨v, h1, h2⟩ := t.get (show xs[j]? = some x from h)
    exact ⟨v, h1, h2⟩
theorem ok_idx : L2.IxR X (rB G X.K W opIdx) := by
  intro value slice pins s σ H V U v u Q I rx ry h hs
  obtain ⟨r, F, m, x, y, hm, hx, hy, h⟩ := h
  have gen : Post G X.K r F H (idxD m x y) (RV X.K) Q W → PySem.wpAny (PySem.model X.prog X.w) X.A (PyProof.Rows.subscriptTail value slice v u) (L2.EP X pins σ Q) X.xe s := fun h' => by
    unfold idxD at h'
    cases e2 : dicAt m x y with
    | none => rw [e2] at h'; exact h'.elim
    | some q =>
      rw [e2] at h'
      obtain ⟨l, a, ws, rfl, g1, g2, rfl, g3, g4, g5, rfl⟩ := dicAt_rel hm hx hy e2
      replace h' : Post G X.K r F H (match getK q.2.2 q.1 q.2.1 with
        | some v => .ok v m
        | none => .no) (RV X.K) Q W := h'
      cases e3 : getK q.2.2 q.1 q.2.1 with
      | none => rw [e3] at h'; exact h'.elim
      | some z =>
        rw [e3] at h'
        obtain ⟨w, h1, h2⟩ := getK_rel g4 e3
        exact PxDic.ix_dk value slice pins s σ H _ _ v u Q I rx ry ⟨a, _, q.2.2, w, rfl, g3, rfl, h1, h'.ok hm h2⟩ hs
  unfold opIdx at h
  cases hy with
  | int i =>
    dsimp only at h
    cases e : asS m x with
    | some xs =>
      rw [e] at h
      dsimp only at h
      cases e2 : L2.atI xs i with
      | none => rw [e2] at h; exact h.elim
      | some z =>
      rw [e2] at h
      replace h : Post G X.K r F H (.ok z m) (RV X.K) Q W := h
      obtain ⟨a, vs, rfl, q, t⟩ := asS_sq hm hx e
      obtain ⟨w, e3, rw'⟩ := atI_rel t e2
      rcases q with q | q
      · exact L2.ix_list value slice pins s σ H _ _ v u Q I rx ry ⟨a, vs, i, w, rfl, rfl, q, e3, h.ok hm rw'⟩ hs
      · exact L2.ix_tup value slice pins s σ H _ _ v u Q I rx ry ⟨a, vs, i, w, rfl, rfl, q, e3, h.ok hm rw'⟩ hs
    | none =>
      rw [e] at h
      cases hx with
      | str z =>
        rcases post_ite h with ⟨c, h⟩ | ⟨_, h⟩
        · cases e2 : L2.atI z.cps.toList i with
          | none => rw [e2] at h; exact h.elim
          | some d =>
          rw [e2] at h
          replace h : Post G X.K r F H (.ok (.str ⟨#[d]⟩) m) (RV X.K) Q W := h
          exact L2.ix_str value slice pins s σ H _ _ v u Q I rx ry ⟨z, i, d, rfl, rfl, by rw [← LINE_eq]; exact c, e2, h.ok hm (.str _)⟩ hs
        · exact h.elim
      | @scr ns a q =>
        have q2 := sqL_mono hm.sub q
        replace h : Post G X.K r F H (match L2.atI ns i with
          | some k => .ok (.int k) m
          | none => .no) (RV X.K) Q W := h
        cases e2 : L2.atI ns i with
        | none => rw [e2] at h; exact h.elim
        | some k =>
        rw [e2] at h
        refine L2.ix_list value slice pins s σ H _ _ v u Q I rx ry ⟨a, ns.map L2.V.int, i, .int k, rfl, rfl, q2, ?_, h.ok hm (.int _)⟩ hs
        revert e2
        unfold L2.atI
        rw [List.length_map]
        cases L2.ixN ns.length i with
        | none => intro z; cases z
        | some j =>
          intro z
          replace z : ns[j]? = some k := z
          show (ns.map L2.V.int)[j]? = some (.int k)
          rw [List.getElem?_map, z]; rfl
      | _ => exact gen h
  | _ => exact gen h
theorem cut_rel {K : PySem.W.Frag} {r : List Addr} {F : L2.Hp} {xs : List PV} {vs : List L2.V} (t : RVs K r F xs vs) (lo hi : Option Int) : RVs K r F (cutP xs lo hi) (L2.cutV vs lo hi) := by
  unfold cutP L2.cutV
  rw [t.len]
  exact (t.drop _).take _
theorem cut_all {xs : List PV} {lo hi : Option Int} (h : HT.sIx xs.length 0 lo = 0 ∧ HT.sIx xs.length xs.length hi = xs.length) : cutP xs lo hi = xs := by
  unfold cutP
  rw [h.1, h.2]
  simp
def rS (G : XG) (K : PySem.W.Frag) (W : Value → Option Addr → L2.Hp → Prop) : L2.V → Option Int → Option Int → L2.Hp → L2.VK → Prop := fun V lo hi H Q => ∃ r F m x, RM K r F m H ∧ RV K r F x V ∧ Post G K r F H (opSlc m x lo hi) (RV K) Q W
theorem ok_slc : L2.SlR X (rS G X.K W) := by
  intro pins s σ H V v vl vu lo hi sl Q I rx hs pl pu h
  obtain ⟨r, F, m, x, hm, hx, h⟩ := h
  have list : ∀ xs, asL m x = some xs → Post G X.K r F H (.ok (.lst (cutP xs lo hi)) m) (RV X.K) Q W → ∃ T id, typeLookup (.type T) "__getitem__" = pure (some (.builtin id)) ∧ s.TypeIs v T ∧ wpAny (model X.prog X.w) X.A (getItem v (.ref sl)) (L2.EP X pins σ Q) X.xe s := fun xs e h => by
    obtain ⟨a, vs, rfl, q, t⟩ := asL_sq hm hx e
    exact L2.sl_list pins s σ H _ v vl vu lo hi sl Q I rx hs pl pu ⟨a, vs, rfl, q, fun p hp => h.okF hm hp (.lst (.inl L2.upd_same) ((cut_rel t lo hi).mono (List.prefix_refl _) (hm.frozen hp).2))⟩
  cases hx with
  | tup h1 h2 =>
    replace h : Post G X.K r F H (.ok (.tup (cutP _ lo hi)) m) (RV X.K) Q W := h
    refine L2.sl_tupA pins s σ H _ v vl vu lo hi sl Q I rx hs pl pu ⟨_, _, rfl, sqT_mono hm.sub h1, fun c => ?_, fun _ p hp => ?_⟩
    · rw [← h2.len] at c
      rw [cut_all c] at h
      exact h.ok hm (.tup h1 h2)
    · exact h.okF hm hp (.tup (.inl (.inl L2.upd_same)) ((cut_rel h2 lo hi).mono (List.prefix_refl _) (hm.frozen hp).2))
  | lst h1 h2 => exact list _ rfl h
  | @loc l a q =>
    simp only [opSlc] at h
    cases e : asL m (.loc l) with
    | none => rw [e] at h; exact h.elim
    | some xs =>
    rw [e] at h
    exact list xs e h
  | str z =>
    rcases post_ite (show Post G X.K r F H (if z.length ≤ LINE then .ok (.str (L2.cutS z lo hi)) m else .no) (RV X.K) Q W from h) with ⟨c, h⟩ | ⟨_, h⟩
    · exact L2.sl_str pins s σ H _ v vl vu lo hi sl Q I rx hs pl pu ⟨z, rfl, by rw [← LINE_eq]; exact c, h.ok hm (.str _)⟩
    · exact h.elim
  | _ => exact h.elim
end
end Px
set_option Elab.async false
set_option linter.all false
set_option maxRecDepth 100000
set_option maxHeartbeats 1000000
namespace Px
open PySem
section
variable {G : XG} {X : L2.Cx} {W : Value → Option Addr → L2.Hp → Prop}
def rC (G : XG) (K : PySem.W.Frag) (W : Value → Option Addr → L2.Hp → Prop) (f : Mem → List PV → Res PV) : List L2.V → L2.Hp → L2.VK → Prop := fun vs H Q => ∃ r F m xs, RM K r F m H ∧ RVs K r F xs vs ∧ Post G K r F H (f m xs) (RV K) Q W
def bfVal : Bf → Value
  | .len => .builtin "len" | .isi => .builtin "isinstance" | .int => .type "int" | .str => .type "str" | .tuple => .type "tuple" | .all => .builtin "all" | .any => .builtin "any" | .sum => .builtin "sum"
  | .max => .builtin "max" | .min => .builtin "min" | .abs => .builtin "abs" | .bool => .type "bool" | .ord => .builtin "ord"
def bfName : Bf → Str
  | .len => "len" | .isi => "isinstance" | .int => "int" | .str => "str" | .tuple => "tuple" | .all => "all" | .any => "any" | .sum => "sum"
  | .max => "max" | .min => "min" | .abs => "abs" | .bool => "bool" | .ord => "ord"
theorem tyX_of {K : PySem.W.Frag} {r : List Addr} {F H : L2.Hp} {m : Mem} {x : PV} {V : L2.V} {t : String} (hm : RM K r F m H) (hx : RV K r F x V) (h : tyOf m x = some t) : L2.TyX K H V (.type t) := by
  cases hx with
  | non => cases h; exact .base .non
  | bl b => cases h; exact .base (.bl b)
  | int i => cases h; exact .base (.int i)
  | str s => cases h; exact .base (.str s)
  | ty n => cases h
  | @loc l a q =>
    simp only [tyOf] at h
    split at h
    · rename_i q2
      cases h
      obtain ⟨vs, _, h3⟩ := hm.obs l a _ q q2
      exact .base (.lst h3)
    · rename_i q2
      cases h
      obtain ⟨vs, _, _, h3⟩ := hm.obs l a _ q q2
      exact .base (.dK h3)
    · cases h
  | tup h1 h2 =>
    cases h
    rcases sqT_mono hm.sub h1 with (q | ⟨o, q⟩) | ⟨o, its, n, q, c, _⟩
    · exact .base (.tup q)
    · exact .fTuple q
    · exact .kTuple q c
  | lst h1 h2 =>
    cases h
    rcases rd_mono hm.sub h1 with q | ⟨o, q⟩
    · exact .base (.lst q)
    · exact .base (.frz q)
  | dic h1 h2 h3 => cases h; exact .base (.dK (hm.sub _ _ h1))
  | scr q => cases h
theorem kit_isTy {K : PySem.W.Frag} {t c : String} {b : Bool} (h : isTy t c = some b) : PySem.W.kitOne K (.type t) (.type c) = some b := by
  unfold isTy at h
  split at h
  · rename_i e
    subst e
    cases h
    unfold PySem.W.kitOne
    rw [if_pos (by simp)]
  · rename_i ne
    split at h
    · rename_i e
      obtain ⟨h1, h2⟩ := e
      cases h
      simp only [List.mem_cons, List.not_mem_nil, or_false] at h1 h2
      rcases h1 with rfl | rfl | rfl | rfl | rfl | rfl | rfl <;> rcases h2 with rfl | rfl | rfl | rfl | rfl | rfl <;> first | exact absurd rfl ne | (clear ne; unfold PySem.W.kitOne PySem.W.kitCls PySem.W.subIn; kernel_rfl)
    · cases h
theorem kit_isTys {K : PySem.W.Frag} {t : String} : ∀ {cs : List String} {b : Bool}, isTys t cs = some b → PySem.W.kitAny K (.type t) (cs.map Value.type) = some b
  | [], b, h => by simp only [isTys, Option.some.injEq] at h; subst h; rfl
  | c :: cs, b, h => by
    simp only [isTys] at h
    simp only [List.map_cons, PySem.W.kitAny]
    split at h
    · rename_i e
      cases h
      simp only [kit_isTy e]
    · rename_i e
      simp only [kit_isTy e]
      exact kit_isTys h
    · cases h
theorem asTys_rel {K : PySem.W.Frag} {r : List Addr} {F : L2.Hp} : ∀ {cs : List PV} {vs : List L2.V} {ns : List String}, RVs K r F cs vs → asTys cs = some ns → Paired L2.ClsV vs (ns.map Value.type)
  | _, _, ns, .nil, h => by simp only [asTys, Option.some.injEq] at h; subst h; exact .nil
  | _, _, ns, .cons q t, h => by
    cases q with
    | ty c =>
      simp only [asTys, Option.map_eq_some_iff] at h
      obtain ⟨ms, h1, rfl⟩ := h
      exact .cons (.ty c) (asTys_rel t h1)
    | _ => simp [asTys] at h
theorem maxL_spec : ∀ (a : Int) (ns : List Int), maxL a ns ∈ a :: ns ∧ ∀ y ∈ a :: ns, y ≤ maxL a ns
  | a, [] => ⟨by simp [maxL], by simp [maxL]⟩
  | a, b :: r => by
    have h := maxL_spec (if b > a then b else a) r
    simp only [maxL]
    refine ⟨?_, fun y hy => ?_⟩
    · rcases List.mem_cons.mp h.1 with e | e
      · rw [e]; split <;> simp
      · simp [e]
    · have h2 := h.2 (if b > a then b else a) List.mem_cons_self
      rcases List.mem_cons.mp hy with rfl | hy
      · refine Int.le_trans ?_ h2; split <;> omega
      · rcases List.mem_cons.mp hy with rfl | hy
        · refine Int.le_trans ?_ h2; split <;> omega
        · exact h.2 y (List.mem_cons_of_mem _ hy)
theorem minL_spec : ∀ (a : Int) (ns : List Int), minL a ns ∈ a :: ns ∧ ∀ y ∈ a :: ns, minL a ns ≤ y
  | a, [] => ⟨by simp [minL], by simp [minL]⟩
  | a, b :: r => by
    have h := minL_spec (if b < a then b else a) r
    simp only [minL]
    refine ⟨?_, fun y hy => ?_⟩
    · rcases List.mem_cons.mp h.1 with e | e
      · rw [e]; split <;> simp
      · simp [e]
    · have h2 := h.2 (if b < a then b else a) List.mem_cons_self
      rcases List.mem_cons.mp hy with rfl | hy
      · refine Int.le_trans h2 ?_; split <;> omega
      · rcases List.mem_cons.mp hy with rfl | hy
        · refine Int.le_trans h2 ?_; split <;> omega
        · exact h.2 y (List.mem_cons_of_mem _ hy)
theorem ok_len : L2.CallR X (.builtin "len") (rC G X.K W (fun m => opBf m .len)) := by
  intro pins s σ H vs us Q I rs h
  obtain ⟨r, F, m, xs, hm, hx, h⟩ := h
  cases hx with
  | nil => exact h.elim
  | @cons x V xs vs h1 t =>
    cases t with
    | cons _ _ => exact h.elim
    | nil =>
      simp only [opBf] at h
      cases e : asS m x with
      | some ys =>
        rw [e] at h
        replace h : Post G X.K r F H (.ok (.int ys.length) m) (RV X.K) Q W := h
        obtain ⟨a, ws, rfl, q, t⟩ := asS_sq hm h1 e
        rw [t.len] at h
        exact L2.call_len_seq pins s σ H _ us Q I rs ⟨a, ws, rfl, q, h.ok hm (.int _)⟩
      | none =>
        rw [e] at h
        cases h1 with
        | str z =>
          rcases post_ite (show Post G X.K r F H (if z.length ≤ LINE then .ok (.int z.length) m else .no) (RV X.K) Q W from h) with ⟨c, h⟩ | ⟨_, h⟩
          · exact L2.call_len_str pins s σ H _ us Q I rs ⟨z, rfl, by rw [← LINE_eq]; exact c, h.ok hm (.int _)⟩
          · exact h.elim
        | @scr ns a q =>
          replace h : Post G X.K r F H (.ok (.int ns.length) m) (RV X.K) Q W := h
          exact L2.call_len_seq pins s σ H _ us Q I rs ⟨a, _, rfl, .inl (sqL_mono hm.sub q), by rw [List.length_map]; exact h.ok hm (.int _)⟩
        | _ => exact h.elim
theorem ok_isi : L2.CallR X (.builtin "isinstance") (rC G X.K W (fun m => opBf m .isi)) := by
  intro pins s σ H vs us Q I rs h
  obtain ⟨r, F, m, xs, hm, hx, h⟩ := h
  cases hx with
  | nil => exact h.elim
  | @cons x V xs vs h1 t =>
    cases t with
    | nil => exact h.elim
    | @cons c C xs vs h2 t =>
      cases t with
      | cons _ _ => cases h2 <;> exact h.elim
      | nil =>
        cases h2 with
        | ty n =>
          simp only [opBf] at h
          cases e : tyOf m x with
          | none => rw [e] at h; exact h.elim
          | some t =>
            rw [e] at h; dsimp only at h
            cases e2 : isTy t n with
            | none => rw [e2] at h; exact h.elim
            | some b =>
              rw [e2] at h
              replace h : Post G X.K r F H (.ok (.bl b) m) (RV X.K) Q W := h
              exact L2.call_isi pins s σ H _ us Q I rs ⟨V, .ty n, .type t, .type n, b, rfl, .ty n, tyX_of hm h1 e, kit_isTy e2, h.ok hm (.bl _)⟩
        | @tup cs a vs h3 h4 =>
          simp only [opBf] at h
          cases e : tyOf m x with
          | none => rw [e] at h; exact h.elim
          | some t =>
            rw [e] at h; dsimp only at h
            cases e2 : (asTys cs).bind (isTys t) with
            | none => rw [e2] at h; exact h.elim
            | some b =>
              rw [e2] at h
              replace h : Post G X.K r F H (.ok (.bl b) m) (RV X.K) Q W := h
              simp only [Option.bind_eq_some_iff] at e2
              obtain ⟨ns, e3, e4⟩ := e2
              have hp := asTys_rel h4 e3
              rcases h3 with (q | ⟨o, q⟩) | ⟨o, its, n, q, c, d, z, w⟩
              · exact L2.call_isiT pins s σ H _ us Q I rs ⟨V, a, vs, .type t, ns.map Value.type, b, rfl, hm.sub _ _ q, hp, tyX_of hm h1 e, kit_isTys e4, h.ok hm (.bl _)⟩
              · obtain ⟨_, z⟩ := hm.nf _ _ _ q
                cases z
              · obtain ⟨oc, od, odt, osl⟩ := o
                simp only at c d
                subst c d
                refine L2.call_isiK pins s σ H _ us Q I rs ⟨V, a, od, ns.map Value.type, n, osl, .type t, b, rfl, ?_, tyX_of hm h1 e, kit_isTys e4, h.ok hm (.bl _)⟩
                have := L2.ClsV.all hp w
                rw [q, ← this]
        | _ => exact h.elim
theorem one_of {K : PySem.W.Frag} {r : List Addr} {F H : L2.Hp} {m : Mem} {xs : List PV} {vs : List L2.V} {b : Bf} {Q : L2.V → L2.Hp → Prop} (hx : RVs K r F xs vs) (h : Post G K r F H (opBf m b xs) (RV K) Q W)
    (h0 : opBf m b [] = .no := by rfl) (h2 : ∀ x y zs, opBf m b (x :: y :: zs) = .no := by intro x y zs; cases x <;> rfl) : ∃ x V, xs = [x] ∧ vs = [V] ∧ RV K r F x V := by
  cases hx with
  | nil => rw [h0] at h; exact h.elim
  | cons h1 t =>
    cases t with
    | nil => exact ⟨_, _, rfl, rfl, h1⟩
    | cons _ _ => rw [h2] at h; exact h.elim
theorem ok_int : L2.CallR X (.type "int") (rC G X.K W (fun m => opBf m .int)) := by
  intro pins s σ H vs us Q I rs h
  obtain ⟨r, F, m, xs, hm, hx, h⟩ := h
  obtain ⟨x, V, rfl, rfl, h1⟩ := one_of hx h
  cases h1 with
  | int i => exact L2.call_int1 pins s σ H _ us Q I rs (.inl ⟨i, rfl, h.ok hm (.int _)⟩)
  | bl i => exact L2.call_int1 pins s σ H _ us Q I rs (.inr ⟨i, rfl, h.ok hm (.int _)⟩)
  | _ => exact h.elim
theorem ok_str : L2.CallR X (.type "str") (rC G X.K W (fun m => opBf m .str)) := by
  intro pins s σ H vs us Q I rs h
  obtain ⟨r, F, m, xs, hm, hx, h⟩ := h
  obtain ⟨x, V, rfl, rfl, h1⟩ := one_of hx h
  cases h1 with
  | int i =>
    rcases post_ite (show Post G X.K r F H (if i.natAbs.log2 < 1920 then .ok (.str (toString i)) m else .no) (RV X.K) Q W from h) with ⟨c, h⟩ | ⟨_, h⟩
    · exact L2.call_str_int pins s σ H _ us Q I rs ⟨i, rfl, c, h.ok hm (.str _)⟩
    · exact h.elim
  | str i => exact SkE.call_str_str pins s σ H _ us Q I rs ⟨i, rfl, h.ok hm (.str _)⟩
  | _ => exact h.elim
theorem ok_bool : L2.CallR X (.type "bool") (rC G X.K W (fun m => opBf m .bool)) := by
  intro pins s σ H vs us Q I rs h
  obtain ⟨r, F, m, xs, hm, hx, h⟩ := h
  obtain ⟨x, V, rfl, rfl, h1⟩ := one_of hx h
  cases h1 with
  | int i => exact L2.call_bool1 pins s σ H _ us Q I rs (.inl ⟨i, rfl, h.ok hm (.bl _)⟩)
  | bl i => exact L2.call_bool1 pins s σ H _ us Q I rs (.inr ⟨i, rfl, h.ok hm (.bl _)⟩)
  | _ => exact h.elim
theorem ok_abs : L2.CallR X (.builtin "abs") (rC G X.K W (fun m => opBf m .abs)) := by
  intro pins s σ H vs us Q I rs h
  obtain ⟨r, F, m, xs, hm, hx, h⟩ := h
  obtain ⟨x, V, rfl, rfl, h1⟩ := one_of hx h
  cases h1 with
  | int i => exact L2.call_abs pins s σ H _ us Q I rs ⟨i, rfl, h.ok hm (.int _)⟩
  | _ => exact h.elim
theorem ok_ord : L2.CallR X (.builtin "ord") (rC G X.K W (fun m => opBf m .ord)) := by
  intro pins s σ H vs us Q I rs h
  obtain ⟨r, F, m, xs, hm, hx, h⟩ := h
  obtain ⟨x, V, rfl, rfl, h1⟩ := one_of hx h
  cases h1 with
  | str i =>
    rcases post_ite (show Post G X.K r F H (if i.length = 1 then .ok (.int (i.cps.getD 0 0 : Nat)) m else .no) (RV X.K) Q W from h) with ⟨c, h⟩ | ⟨_, h⟩
    · exact L2.call_ord pins s σ H _ us Q I rs ⟨i, rfl, c, h.ok hm (.int _)⟩
    · exact h.elim
  | _ => exact h.elim
theorem ok_tuple : L2.CallR X (.type "tuple") (rC G X.K W (fun m => opBf m .tuple)) := by
  intro pins s σ H vs us Q I rs h
  obtain ⟨r, F, m, xs, hm, hx, h⟩ := h
  obtain ⟨x, V, rfl, rfl, h1⟩ := one_of hx h
  have list : ∀ xs, asL m x = some xs → Post G X.K r F H (.ok (.tup xs) m) (RV X.K) Q W → wpAny (model X.prog X.w) X.A (call (.type "tuple") us) (L2.EP X pins σ Q) X.xe s := fun xs e h => by
    obtain ⟨a, vs, rfl, q, t⟩ := asL_sq hm h1 e
    exact L2.call_tuple_of pins s σ H _ us Q I rs ⟨a, vs, rfl, .inl ⟨q, fun p hp => h.okF hm hp (.tup (.inl (.inl L2.upd_same)) (t.mono (List.prefix_refl _) (hm.frozen hp).2))⟩⟩
  cases h1 with
  | tup q t =>
    replace h : Post G X.K r F H (.ok (.tup _) m) (RV X.K) Q W := h
    exact L2.call_tuple_of pins s σ H _ us Q I rs ⟨_, _, rfl, .inr ⟨sqT_mono hm.sub q, h.ok hm (.tup q t)⟩⟩
  | lst q t => exact list _ rfl h
  | @loc l a q =>
    simp only [opBf] at h
    cases e : asL m (.loc l) with
    | none => rw [e] at h; exact h.elim
    | some xs => rw [e] at h; exact list xs e h
  | _ => exact h.elim
theorem asTru_rel {K : PySem.W.Frag} {r : List Addr} {F : L2.Hp} : ∀ {xs : List PV} {vs : List L2.V} {bs : List Bool}, RVs K r F xs vs → asTru xs = some bs → Paired PxEx.Tru vs bs
  | _, _, bs, .nil, h => by simp only [asTru, Option.some.injEq] at h; subst h; exact .nil
  | _, _, bs, .cons q t, h => by
    cases q with
    | bl c =>
      simp only [asTru, Option.map_eq_some_iff] at h
      obtain ⟨ms, h1, rfl⟩ := h
      exact .cons (.bl c) (asTru_rel t h1)
    | int c =>
      simp only [asTru, Option.map_eq_some_iff] at h
      obtain ⟨ms, h1, rfl⟩ := h
      exact .cons (.int c) (asTru_rel t h1)
    | _ => simp [asTru] at h
theorem ok_all (hc : X.calm = true) : L2.CallR X (.builtin "all") (rC G X.K W (fun m => opBf m .all)) := by
  intro pins s σ H vs us Q I rs h
  obtain ⟨r, F, m, xs, hm, hx, h⟩ := h
  obtain ⟨x, V, rfl, rfl, h1⟩ := one_of hx h
  simp only [opBf] at h
  cases e : (asS m x).bind asTru with
  | none => rw [e] at h; exact h.elim
  | some bs =>
    rw [e] at h
    replace h : Post G X.K r F H (.ok (.bl (bs.all id)) m) (RV X.K) Q W := h
    simp only [Option.bind_eq_some_iff] at e
    obtain ⟨ys, e1, e2⟩ := e
    obtain ⟨a, vs, rfl, q, t⟩ := asS_sq hm h1 e1
    exact PxEx.cr_allX hc pins s σ H _ us Q I rs ⟨a, vs, bs, rfl, q, asTru_rel t e2, h.ok hm (.bl _)⟩
theorem ok_any (hc : X.calm = true) : L2.CallR X (.builtin "any") (rC G X.K W (fun m => opBf m .any)) := by
  intro pins s σ H vs us Q I rs h
  obtain ⟨r, F, m, xs, hm, hx, h⟩ := h
  obtain ⟨x, V, rfl, rfl, h1⟩ := one_of hx h
  simp only [opBf] at h
  cases e : (asS m x).bind asTru with
  | none => rw [e] at h; exact h.elim
  | some bs =>
    rw [e] at h
    replace h : Post G X.K r F H (.ok (.bl (bs.any id)) m) (RV X.K) Q W := h
    simp only [Option.bind_eq_some_iff] at e
    obtain ⟨ys, e1, e2⟩ := e
    obtain ⟨a, vs, rfl, q, t⟩ := asS_sq hm h1 e1
    exact PxEx.cr_anyX hc pins s σ H _ us Q I rs ⟨a, vs, bs, rfl, q, asTru_rel t e2, h.ok hm (.bl _)⟩
theorem ok_sum (hc : X.calm = true) : L2.CallR X (.builtin "sum") (rC G X.K W (fun m => opBf m .sum)) := by
  intro pins s σ H vs us Q I rs h
  obtain ⟨r, F, m, xs, hm, hx, h⟩ := h
  obtain ⟨x, V, rfl, rfl, h1⟩ := one_of hx h
  simp only [opBf] at h
  cases e : (asS m x).bind asInts with
  | none => rw [e] at h; exact h.elim
  | some ns =>
    rw [e] at h
    replace h : Post G X.K r F H (.ok (.int ns.sum) m) (RV X.K) Q W := h
    simp only [Option.bind_eq_some_iff] at e
    obtain ⟨ys, e1, e2⟩ := e
    obtain ⟨a, vs, rfl, q, t⟩ := asS_sq hm h1 e1
    rw [asInts_eq e2] at t
    rw [t.ints] at q
    rcases q with q | q
    · exact L2.cr_sum hc pins s σ H _ us Q I rs ⟨a, ns, rfl, q, h.ok hm (.int _)⟩
    · exact PxEx.cr_sumT hc pins s σ H _ us Q I rs ⟨a, ns, rfl, q, h.ok hm (.int _)⟩
theorem max_one {m : Mem} {x : PV} : opBf m .max [x] = match (asL m x).bind asInts with
    | some (n :: ns) => .ok (.int (maxL n ns)) m
    | _ => .no := by cases x <;> rfl
theorem min_one {m : Mem} {x : PV} : opBf m .min [x] = match (asL m x).bind asInts with
    | some (n :: ns) => .ok (.int (minL n ns)) m
    | _ => .no := by cases x <;> rfl
theorem two_max (hc : X.calm = true) {pins : List (Addr × Obj)} {s : Shared} {σ : L2.St} {H : L2.Hp} {r : List Addr} {F : L2.Hp} {m : Mem} {i j : Int} {us : List Value} {Q : L2.VK} (I : L2.Inv X pins σ H s) (rs : L2.Vals [.int i, .int j] us) (hm : RM X.K r F m H)
    (h : Post G X.K r F H (.ok (.int (if j > i then j else i)) m) (RV X.K) Q W) : wpAny (model X.prog X.w) X.A (call (.builtin "max") us) (L2.EP X pins σ Q) X.xe s :=
  L2.call_max2 hc pins s σ H _ us Q I rs ⟨i, j, rfl, h.ok hm (.int _)⟩
theorem two_min (hc : X.calm = true) {pins : List (Addr × Obj)} {s : Shared} {σ : L2.St} {H : L2.Hp} {r : List Addr} {F : L2.Hp} {m : Mem} {i j : Int} {us : List Value} {Q : L2.VK} (I : L2.Inv X pins σ H s) (rs : L2.Vals [.int i, .int j] us) (hm : RM X.K r F m H)
    (h : Post G X.K r F H (.ok (.int (if j < i then j else i)) m) (RV X.K) Q W) : wpAny (model X.prog X.w) X.A (call (.builtin "min") us) (L2.EP X pins σ Q) X.xe s :=
  L2.call_min2 hc pins s σ H _ us Q I rs ⟨i, j, rfl, h.ok hm (.int _)⟩
theorem ok_max (hc : X.calm = true) : L2.CallR X (.builtin "max") (rC G X.K W (fun m => opBf m .max)) := by
  intro pins s σ H vs us Q I rs h
  obtain ⟨r, F, m, xs, hm, hx, h⟩ := h
  cases hx with
  | nil => exact h.elim
  | @cons x V xs vs h1 t =>
    cases t with
    | nil =>
      replace h : Post G X.K r F H (opBf m .max [x]) (RV X.K) Q W := h
      rw [max_one] at h
      cases e : (asL m x).bind asInts with
      | none => rw [e] at h; exact h.elim
      | some ns =>
        rw [e] at h
        cases ns with
        | nil => exact h.elim
        | cons n ns =>
          replace h : Post G X.K r F H (.ok (.int (maxL n ns)) m) (RV X.K) Q W := h
          simp only [Option.bind_eq_some_iff] at e
          obtain ⟨ys, e1, e2⟩ := e
          obtain ⟨a, vs, rfl, q, t⟩ := asL_sq hm h1 e1
          rw [asInts_eq e2] at t
          rw [t.ints] at q
          refine L2.cr_max hc pins s σ H _ us Q I rs ⟨a, n :: ns, rfl, q, by simp, fun k hk hy => ?_⟩
          have z := maxL_spec n ns
          have : k = maxL n ns := Int.le_antisymm (z.2 k hk) (hy _ z.1)
          rw [this]
          exact h.ok hm (.int _)
    | @cons y U xs vs h2 t =>
      cases t with
      | nil => cases h1 <;> cases h2 <;> first | exact h.elim | exact two_max hc I rs hm h
      | cons _ _ => cases h1 <;> cases h2 <;> exact h.elim
theorem ok_min (hc : X.calm = true) : L2.CallR X (.builtin "min") (rC G X.K W (fun m => opBf m .min)) := by
  intro pins s σ H vs us Q I rs h
  obtain ⟨r, F, m, xs, hm, hx, h⟩ := h
  cases hx with
  | nil => exact h.elim
  | @cons x V xs vs h1 t =>
    cases t with
    | nil =>
      replace h : Post G X.K r F H (opBf m .min [x]) (RV X.K) Q W := h
      rw [min_one] at h
      cases e : (asL m x).bind asInts with
      | none => rw [e] at h; exact h.elim
      | some ns =>
        rw [e] at h
        cases ns with
        | nil => exact h.elim
        | cons n ns =>
          replace h : Post G X.K r F H (.ok (.int (minL n ns)) m) (RV X.K) Q W := h
          simp only [Option.bind_eq_some_iff] at e
          obtain ⟨ys, e1, e2⟩ := e
          obtain ⟨a, vs, rfl, q, t⟩ := asL_sq hm h1 e1
          rw [asInts_eq e2] at t
          rw [t.ints] at q
          refine L2.cr_min hc pins s σ H _ us Q I rs ⟨a, n :: ns, rfl, q, by simp, fun k hk hy => ?_⟩
          have z := minL_spec n ns
          have : k = minL n ns := Int.le_antisymm (hy _ z.1) (z.2 k hk)
          rw [this]
          exact h.ok hm (.int _)
    | @cons y U xs vs h2 t =>
      cases t with
      | nil => cases h1 <;> cases h2 <;> first | exact h.elim | exact two_min hc I rs hm h
      | cons _ _ => cases h1 <;> cases h2 <;> exact h.elim
theorem ok_bf (hc : X.calm = true) (b : Bf) : L2.CallR X (bfVal b) (rC G X.K W (fun m => opBf m b)) := by
  cases b with
  | len => exact ok_len
  | isi => exact ok_isi
  | int => exact ok_int
  | str => exact ok_str
  | tuple => exact ok_tuple
  | all => exact ok_all hc
  | any => exact ok_any hc
  | sum => exact ok_sum hc
  | max => exact ok_max hc
  | min => exact ok_min hc
  | abs => exact ok_abs
  | bool => exact ok_bool
  | ord => exact ok_ord
def rM (G : XG) (K : PySem.W.Frag) (W : Value → Option Addr → L2.Hp → Prop) (f : Mem → PV → List PV → Res PV) : L2.V → List L2.V → L2.Hp → L2.VK → Prop := fun V vs H Q => ∃ r F m x xs, RM K r F m H ∧ RV K r F x V ∧ RVs K r F xs vs ∧ Post G K r F H (f m x xs) (RV K) Q W
theorem ok_append : L2.MtM X "list.append" (rM G X.K W (fun m => opMt m .append)) := by
  intro pins s σ H V vs v us Q I rx rs h
  obtain ⟨r, F, m, x, xs, hm, hx, hxs, h⟩ := h
  cases hx with
  | @loc l a q =>
    cases hxs with
    | nil => exact h.elim
    | @cons y U _ _ h1 t =>
      cases t with
      | cons _ _ => exact h.elim
      | nil =>
        simp only [opMt] at h
        split at h
        · rename_i ys e
          obtain ⟨vs, h2, h3⟩ := hm.obs l a _ q e
          rcases post_ite h with ⟨c, h⟩ | ⟨_, h⟩
          · refine L2.mt_append pins s σ H _ _ v us Q I rx rs ⟨a, vs, U, rfl, rfl, h3, by rw [← LINE_eq, ← h2.len]; exact c, ?_⟩
            exact h.okW q (hm.write q ⟨_, h2.append (.cons h1 .nil), L2.upd_same⟩) .non
          · exact h.elim
        · exact h.elim
  | _ => exact h.elim
theorem ok_pop : L2.MtM X "list.pop" (rM G X.K W (fun m => opMt m .pop)) := by
  intro pins s σ H V vs v us Q I rx rs h
  obtain ⟨r, F, m, x, xs, hm, hx, hxs, h⟩ := h
  cases hx with
  | @loc l a q =>
    cases hxs with
    | cons h1 t => exact h.elim
    | nil =>
      simp only [opMt] at h
      split at h
      · rename_i ys e
        obtain ⟨vs, h2, h3⟩ := hm.obs l a _ q e
        split at h
        · rename_i y e2
          obtain ⟨U, e3, h4⟩ := h2.get e2
          refine L2.mt_pop pins s σ H _ _ v us Q I rx rs ⟨a, vs, U, rfl, rfl, h3, by rw [← h2.len]; exact e3, ?_⟩
          refine h.okW q (hm.write q ⟨_, ?_, L2.upd_same⟩) h4
          rw [List.dropLast_eq_take, List.dropLast_eq_take, ← h2.len]
          exact h2.take _
        · exact h.elim
      · exact h.elim
  | _ => exact h.elim
theorem ok_join : L2.MtR X "str.join" (rM G X.K W (fun m => opMt m .join)) := by
  intro pins s σ H V vs v us Q I rx rs h
  obtain ⟨r, F, m, x, xs, hm, hx, hxs, h⟩ := h
  cases hx with
  | str a =>
    cases hxs with
    | nil => exact h.elim
    | @cons y U _ _ h1 t =>
      cases t with
      | cons _ _ => exact h.elim
      | nil =>
        simp only [opMt] at h
        cases e : (asS m y).bind asStrs with
        | none => rw [e] at h; exact h.elim
        | some ys =>
          rw [e] at h
          rcases post_ite h with ⟨c, h⟩ | ⟨_, h⟩
          · simp only [Option.bind_eq_some_iff] at e
            obtain ⟨zs, e1, e2⟩ := e
            obtain ⟨p, ws, rfl, q, t⟩ := asS_sq hm h1 e1
            rw [asStrs_eq e2] at t
            rw [t.strs] at q
            exact L2.mt_join pins s σ H _ _ v us Q I rx rs ⟨a, p, ys, rfl, rfl, q, c, h.ok hm (.str _)⟩
          · exact h.elim
  | _ => exact h.elim
theorem ok_split : L2.MtR X "str.split" (rM G X.K W (fun m => opMt m .split)) := by
  intro pins s σ H V vs v us Q I rx rs h
  obtain ⟨r, F, m, x, xs, hm, hx, hxs, h⟩ := h
  cases hx with
  | str a =>
    cases hxs with
    | nil => exact h.elim
    | @cons y U _ _ h1 t =>
      cases t with
      | cons _ _ => cases h1 <;> exact h.elim
      | nil =>
        cases h1 with
        | str b =>
          rcases post_ite (show Post G X.K r F H (if (b.length == 0) = false ∧ a.length + 2 ≤ LINE then .ok (.lst ((Txt.split a b).map PV.str)) m else .no) (RV X.K) Q W from h) with ⟨c, h⟩ | ⟨_, h⟩
          · refine L2.mt_split pins s σ H _ _ v us Q I rx rs ⟨a, b, rfl, rfl, c.1, by rw [← LINE_eq]; exact c.2, fun p hp => h.okF hm hp (.lst (.inl L2.upd_same) ?_)⟩
            exact RVs.ofStrs _ _ _ _
          · exact h.elim
        | _ => exact h.elim
  | _ => exact h.elim
end
end Px
set_option Elab.async false
set_option linter.all false
set_option maxRecDepth 100000
set_option maxHeartbeats 1000000
namespace Px
open PySem
structure Chk where
  N : List Str
  fns : List Str
  dfl : List (List PV)
  cst : List (Str × PV)
  xcs : List Str
structure Sc where
  sc : Scope
  own : Option Scope
def Sc.kind (s : Sc) (x : Str) : Option NameKind := s.sc.names.lookup x
def Sc.vis (s : Sc) (x : Str) : Bool := match s.kind x with
  | some .local => true | some .cell => true | some .free => true | _ => false
def Sc.gl (s : Sc) (x : Str) : Bool := match s.kind x with
  | some .globalImplicit => true | _ => false
def Sc.isLocal (s : Sc) (x : Str) : Bool := match s.kind x with
  | some .local => true | _ => false
def Sc.lcl (s : Sc) (x : Str) : Bool := match s.kind x with
  | some .local => true
  | some .cell => (match s.own with
    | none => true
    | some o => match o.names.lookup x with
      | some .cell => true | _ => false)
  | _ => false
def plainNm (x : Str) : Bool := decide (x ≠ ("__debug__" : Str)) && decide (x ≠ ("__classdict__" : Str)) && decide (x ≠ ("__name__" : Str))
def noSet : Expr → Bool
  | .Set .. => false | _ => true
def noSlice : Expr → Bool
  | .Slice .. => false | _ => true
def noStar : Expr → Bool
  | .Starred .. => false | _ => true
def noComp : Expr → Bool
  | .ListComp .. => false | .SetComp .. => false | .DictComp .. => false | _ => true
def noCall0 : Expr → Bool
  | .Call (.Name _ _) [] [] _ => false | _ => true
def plainT : Expr → Bool
  | .UnaryOp .Not _ _ => false | .BoolOp .. => false | .IfExp .. => false | .Compare .. => false | _ => true
def tyNames : List String := ["int", "bool", "str", "tuple", "list", "dict"]
def mtName : Mt → Str
  | .append => "append" | .pop => "pop" | .join => "join" | .split => "split"
def ownOf (N : List Str) (own : List Nat) : List (Str × Nat) := own.map fun i => (N.getD i "", i)
def cstOk : List Ex → List PV → Bool
  | [], [] => true
  | .int i :: r, .int j :: d => decide (i = j) && cstOk r d
  | .non :: r, .non :: d => cstOk r d
  | _, _ => false
def cV : PV → L2.V
  | .int i => .int i
  | _ => .non
mutual
/-- a comprehension's target stores its own names alone -/
def chkSl : List Nat → Tg → Bool
  | own, .nm i => decide (i ∈ own)
  | own, .tp ts => chkSls own ts
  | _, .ix _ _ => false
def chkSls : List Nat → List Tg → Bool
  | _, [] => true
  | own, t :: ts => chkSl own t && chkSls own ts
end
section
variable (c : Chk)
mutual
def chkE : Sc → Ex → Expr → Bool
  | s, .var i, e => match e with
    | .Name x _ => decide (c.N[i]? = some x) && s.vis x && plainNm x
    | _ => false
  | s, .gl x v, e => match e with
    | .Name y _ => decide (x = y) && s.gl x && plainNm x && (match c.cst.lookup x with
      | some w => PV.beq v w
      | none => false)
    | _ => false
  | s, .non, e => match e with
    | .Constant .none _ _ => true
    | _ => false
  | s, .bl b, e => match e with
    | .Constant (.bool d) _ _ => b == d
    | _ => false
  | s, .int i, e => match e with
    | .Constant (.int d) _ _ => decide (i = d)
    | _ => false
  | s, .str i, e => match e with
    | .Constant (.str d) _ _ => decide (i = d)
    | _ => false
  | s, .ty n, e => match e with
    | .Name x _ => decide (x = Str.ofString n) && decide (n ∈ tyNames) && s.gl x
    | _ => false
  | s, .bin o a b, e => match e with
    | .BinOp x p y _ => decide (opOf o = p) && chkE s a x && chkE s b y
    | _ => false
  | s, .neg a, e => match e with
    | .UnaryOp .USub x _ => chkE s a x
    | _ => false
  | s, .cmp o a b, e => match e with
    | .Compare x [p] [y] _ => decide (cmOf o = p) && noSet y && chkE s a x && chkE s b y
    | _ => false
  | s, .chn o o' a b d, e => match e with
    | .Compare x [p, p'] [y, z] _ => decide (cmOf o = p) && decide (cmOf o' = p') && noSet z && chkE s a x && chkE s b y && chkE s d z
    | _ => false
  | s, .and_ a b, e => match e with
    | .BoolOp .And [x, y] _ => chkE s a x && chkE s b y
    | .BoolOp .And (x :: y :: z :: r) p => chkE s a x && chkE s b (.BoolOp .And (y :: z :: r) p)
    | _ => false
  | s, .or_ a b, e => match e with
    | .BoolOp .Or [x, y] _ => chkE s a x && chkE s b y
    | .BoolOp .Or (x :: y :: z :: r) p => chkE s a x && chkE s b (.BoolOp .Or (y :: z :: r) p)
    | _ => false
  | s, .not_ a, e => match e with
    | .UnaryOp .Not x _ => chkE s a x
    | _ => false
  | s, .ite t a b, e => match e with
    | .IfExp x y z _ => chkT s t x && chkE s a y && chkE s b z
    | _ => false
  | s, .tup es, e => match e with
    | .Tuple xs _ _ => chkEs s es xs
    | _ => false
  | s, .pl l, e => chkL s l e
  | s, .ml l, e => chkL s l e
  | s, .emd, e => match e with
    | .Dict [] [] _ => true
    | _ => false
  | s, .mdc, e => match e with
    | .Dict [] [] _ => true
    | _ => false
  | s, .idx a i, e => match e with
    | .Subscript x y _ => noSlice y && chkE s a x && chkE s i y
    | _ => false
  | s, .slc a lo hi, e => match e with
    | .Subscript x (.Slice l h none _) _ => chkE s a x && chkO s lo l && chkO s hi h
    | _ => false
  | s, .call f es, e => match e with
    | .Call (.Name x _) (y :: ys) [] _ => decide (c.fns[f]? = some x) && s.gl x && plainNm x && chkEd s es (y :: ys) (c.dfl.getD f [])
    | _ => false
  | s, .bf b es, e => match e with
    | .Call (.Name x _) (y :: ys) [] _ => decide (bfName b = x) && s.gl x && chkEs s es (y :: ys)
    | _ => false
  | s, .tups ps, e => match e with
    | .Tuple xs _ _ => chkPs s ps xs
    | _ => false
  | s, .rv a, e => match e with
    | .Subscript x (.Slice none none (some (.UnaryOp .USub (.Constant (.int 1) _ _) _)) _) _ => chkE s a x
    | _ => false
  | s, .ten a, e => match e with
    | .Call (.Name x _) [.Call (.Name x2 _) [y] [] _] [] _ => decide (x = ("tuple" : Str)) && s.gl x && decide (x2 = ("enumerate" : Str)) && s.gl x2 && noStar y && chkE s a y
    | _ => false
  | s, .bln a, e => match e with
    | .Call (.Attribute x n ap) [] [] cp => decide (n = ("bit_length" : Str)) && noCall0 x && (ap.endLine == cp.line) && chkE s a x
    | _ => false
  | s, .mt m o es, e => match e with
    | .Call (.Attribute x n ap) ys [] cp => decide (mtName m = n) && noCall0 x && (ap.endLine == cp.line) && decide (ys.length < 29) && (match m with
      | .pop => ys.isEmpty
      | _ => !ys.isEmpty) && chkE s o x && chkEs s es ys
    | _ => false
/-- as a test -/
def chkT : Sc → Ex → Expr → Bool
  | s, .and_ a b, e => match e with
    | .BoolOp .And [x, y] _ => chkT s a x && chkT s b y
    | .BoolOp .And (x :: y :: z :: r) p => chkT s a x && chkT s b (.BoolOp .And (y :: z :: r) p)
    | _ => false
  | s, .or_ a b, e => match e with
    | .BoolOp .Or [x, y] _ => chkT s a x && chkT s b y
    | .BoolOp .Or (x :: y :: z :: r) p => chkT s a x && chkT s b (.BoolOp .Or (y :: z :: r) p)
    | _ => false
  | s, .not_ a, e => match e with
    | .UnaryOp .Not x _ => chkT s a x
    | _ => false
  | s, .cmp o a b, e => match e with
    | .Compare x [p] [y] _ => decide (cmOf o = p) && noSet y && chkE s a x && chkE s b y
    | _ => false
  | s, .chn o o' a b d, e => match e with
    | .Compare x [p, p'] [y, z] _ => decide (cmOf o = p) && decide (cmOf o' = p') && noSet z && chkE s a x && chkE s b y && chkE s d z
    | _ => false
  | s, .var i, e => match e with
    | .Name x _ => decide (c.N[i]? = some x) && s.vis x && plainNm x
    | _ => false
  | s, .bl b, e => match e with
    | .Constant (.bool d) _ _ => b == d
    | _ => false
  | s, .call f es, e => match e with
    | .Call (.Name x _) (y :: ys) [] _ => decide (c.fns[f]? = some x) && s.gl x && plainNm x && chkEd s es (y :: ys) (c.dfl.getD f [])
    | _ => false
  | s, .bf b es, e => match e with
    | .Call (.Name x _) (y :: ys) [] _ => decide (bfName b = x) && s.gl x && chkEs s es (y :: ys)
    | _ => false
  | s, .idx a i, e => match e with
    | .Subscript x y _ => noSlice y && chkE s a x && chkE s i y
    | _ => false
  | _, _, _ => false
def chkEs : Sc → List Ex → List Expr → Bool
  | _, [], [] => true
  | s, a :: as, x :: xs => noStar x && chkE s a x && chkEs s as xs
  | _, _, _ => false
def chkEd : Sc → List Ex → List Expr → List PV → Bool
  | _, as, [], d => cstOk as (d.drop (d.length - as.length))
  | s, a :: as, x :: xs, d => noStar x && chkE s a x && chkEd s as xs d
  | _, [], _ :: _, _ => false
def chkPs : Sc → List Pt → List Expr → Bool
  | _, [], [] => true
  | s, .one a :: as, x :: xs => noStar x && chkE s a x && chkPs s as xs
  | s, .all a :: as, x :: xs => (match x with
    | .Starred y _ => chkE s a y
    | _ => false) && chkPs s as xs
  | s, .rng a b :: as, x :: xs => (match x with
    | .Starred (.Call (.Name x2 _) [y, z] [] _) _ => decide (x2 = ("range" : Str)) && s.gl x2 && noStar y && noStar z && chkE s a y && chkE s b z
    | _ => false) && chkPs s as xs
  | _, _, _ => false
def chkO : Sc → Option Ex → Option Expr → Bool
  | _, none, none => true
  | s, some a, some x => chkE s a x
  | _, _, _ => false
def chkC : Sc → Option Ex → List Expr → Bool
  | _, none, [] => true
  | s, some a, [x] => chkT s a x
  | _, _, _ => false
def chkL : Sc → LEx → Expr → Bool
  | s, .dsp es, e => match e with
    | .List xs _ => chkEs s es xs
    | _ => false
  | s, .cp own t it cd el, e => match e with
    | .ListComp x [⟨tg, iter, ifs, 0⟩] scope _ => noSet iter && L2.blkC c.N s.sc scope (ownOf c.N own) && decide ((ownOf c.N own).map (·.2) = own) && chkI s it tg iter && chkG ⟨L2.relS scope s.sc, some scope⟩ t tg && chkSl own t &&
        chkC ⟨L2.relS scope s.sc, some scope⟩ cd ifs && chkE ⟨L2.relS scope s.sc, some scope⟩ el x
    | _ => false
  | s, .cp2 own own1 t it cd t1 it1 cd1 el, e => match e with
    | .ListComp x [⟨tg, iter, ifs, 0⟩, ⟨tg1, iter1, ifs1, 0⟩] scope _ => noSet iter && noSet iter1 && L2.blkC c.N s.sc scope (ownOf c.N own) && decide ((ownOf c.N own).map (·.2) = own) && own1.all (fun i => decide (i ∈ own)) && chkI s it tg iter && chkG ⟨L2.relS scope s.sc, some scope⟩ t tg && chkSl own t &&
        chkC ⟨L2.relS scope s.sc, some scope⟩ cd ifs && chkI ⟨L2.relS scope s.sc, some scope⟩ it1 tg1 iter1 && chkG ⟨L2.relS scope s.sc, some scope⟩ t1 tg1 && chkSl own1 t1 && chkC ⟨L2.relS scope s.sc, some scope⟩ cd1 ifs1 && chkE ⟨L2.relS scope s.sc, some scope⟩ el x
    | _ => false
  | s, .dsps ps, e => match e with
    | .List xs _ => chkPs s ps xs
    | _ => false
  | s, .lof a, e => match e with
    | .Call (.Name x _) [y] [] _ => decide (x = ("list" : Str)) && s.gl x && noStar y && chkE s a y
    | _ => false
  | s, .cat a b, e => match e with
    | .BinOp x .Add y _ => chkE s a x && chkE s b y
    | _ => false
  | s, .rep a b, e => match e with
    | .BinOp x .Mult y _ => chkE s a x && chkE s b y
    | _ => false
  | s, .rvs a, e => match e with
    | .Subscript x (.Slice none none (some (.UnaryOp .USub (.Constant (.int 1) _ _) _)) _) _ => chkE s a x
    | _ => false
  | s, .slc a lo hi, e => match e with
    | .Subscript x (.Slice l h none _) _ => chkE s a x && chkO s lo l && chkO s hi h
    | _ => false
  | s, .lrg1 a, e => match e with
    | .Call (.Name x _) [.Call (.Name x2 _) [y] [] _] [] _ => decide (x = ("list" : Str)) && s.gl x && decide (x2 = ("range" : Str)) && s.gl x2 && noStar y && chkE s a y
    | _ => false
  | s, .lrg2 a b, e => match e with
    | .Call (.Name x _) [.Call (.Name x2 _) [y, z] [] _] [] _ => decide (x = ("list" : Str)) && s.gl x && decide (x2 = ("range" : Str)) && s.gl x2 && noStar y && noStar z && chkE s a y && chkE s b z
    | _ => false
  | s, .sst a, e => match e with
    | .Call (.Name x _) [.Call (.Name x2 _) [y] [] _] [] _ => decide (x = ("sorted" : Str)) && s.gl x && decide (x2 = ("set" : Str)) && s.gl x2 && noStar y && chkE s a y
    | _ => false
  | s, .srt a, e => match e with
    | .Call (.Name x _) [y] [] _ => decide (x = ("sorted" : Str)) && s.gl x && noStar y && chkE s a y
    | _ => false
/-- what is walked, with the target -/
def chkI : Sc → It → Expr → Expr → Bool
  | s, .sq a, _, e => chkE s a e
  | s, .rg1 a, _, e => match e with
    | .Call (.Name x _) [y] [] _ => decide (x = ("range" : Str)) && s.gl x && noStar y && chkE s a y
    | _ => false
  | s, .rg2 a b, _, e => match e with
    | .Call (.Name x _) [y, z] [] _ => decide (x = ("range" : Str)) && s.gl x && noStar y && noStar z && chkE s a y && chkE s b z
    | _ => false
  | s, .rg3 a b d, _, e => match e with
    | .Call (.Name x _) [y, z, u] [] _ => decide (x = ("range" : Str)) && s.gl x && noStar y && noStar z && noStar u && chkE s a y && chkE s b z && chkE s d u
    | _ => false
  | s, .enm a, tg, e => match tg, e with
    | .Tuple _ _ _, .Call (.Name x _) [y] [] _ => decide (x = ("enumerate" : Str)) && s.gl x && noStar y && chkE s a y
    | _, _ => false
  | s, .zip a b, tg, e => match tg, e with
    | .Tuple _ _ _, .Call (.Name x _) [y, z] [] _ => decide (x = ("zip" : Str)) && s.gl x && noStar y && noStar z && chkE s a y && chkE s b z
    | _, _ => false
  | s, .rev a, _, e => match e with
    | .Call (.Name x _) [y] [] _ => decide (x = ("reversed" : Str)) && s.gl x && noStar y && chkE s a y
    | _ => false
  | s, .rr1 a, _, e => match e with
    | .Call (.Name x _) [.Call (.Name x2 _) [y] [] _] [] _ => decide (x = ("reversed" : Str)) && s.gl x && decide (x2 = ("range" : Str)) && s.gl x2 && noStar y && chkE s a y
    | _ => false
  | s, .rr2 a b, _, e => match e with
    | .Call (.Name x _) [.Call (.Name x2 _) [y, z] [] _] [] _ => decide (x = ("reversed" : Str)) && s.gl x && decide (x2 = ("range" : Str)) && s.gl x2 && noStar y && noStar z && chkE s a y && chkE s b z
    | _ => false
/-- a target -/
def chkG : Sc → Tg → Expr → Bool
  | s, .nm i, e => match e with
    | .Name x _ => decide (c.N[i]? = some x) && s.lcl x
    | _ => false
  | s, .tp ts, e => match e with
    | .Tuple xs _ _ => decide (xs.length = ts.length) && chkGs s ts xs
    | _ => false
  | s, .ix a i, e => match e with
    | .Subscript x y _ => noSlice y && chkE s a x && chkE s i y
    | _ => false
def chkGs : Sc → List Tg → List Expr → Bool
  | _, [], [] => true
  | s, t :: ts, x :: xs => noStar x && chkG s t x && chkGs s ts xs
  | _, _, _ => false
end
end
end Px
set_option Elab.async false
set_option linter.all false
set_option maxRecDepth 100000
set_option maxHeartbeats 2000000
namespace Px
open PySem
abbrev WX := L2.WX
def tt0 : Value → Option Addr → L2.Hp → Prop := fun _ _ _ => True
theorem Post.impW {G : XG} {K : PySem.W.Frag} {r : List Addr} {F H : L2.Hp} {α β : Type} {W W' : Value → Option Addr → L2.Hp → Prop} {res : Res α} {rel : List Addr → L2.Hp → α → β → Prop} {Q : β → L2.Hp → Prop} (h : Post G K r F H res rel Q W) (hw : ∀ C d H', W C d H' → W' C d H') : Post G K r F H res rel Q W' := by
  cases res with
  | ok v m => exact h
  | ex x m => exact fun r2 F2 H2 C d h1 h3 h4 h5 => hw _ _ _ (h r2 F2 H2 C d h1 h3 h4 h5)
  | no => exact h
theorem Post.tt {G : XG} {K : PySem.W.Frag} {r : List Addr} {F H : L2.Hp} {α β : Type} {W : Value → Option Addr → L2.Hp → Prop} {res : Res α} {rel : List Addr → L2.Hp → α → β → Prop} {Q : β → L2.Hp → Prop} (h : Post G K r F H res rel Q W) : Post G K r F H res rel Q tt0 := h.impW fun _ _ _ _ => trivial
section
variable (G : XG) (K : PySem.W.Frag) (Γ : Call) (W : L2.WX)
abbrev atW (σ : L2.St) : Value → Option Addr → L2.Hp → Prop := fun C d H => W C d σ H
def up {α β : Type} (rel : List Addr → L2.Hp → α → β → Prop) (ev : Env → Mem → Res α) (σ : L2.St) (H : L2.Hp) (Q : β → L2.Hp → Prop) : Prop :=
  ∃ r F η m, RM K r F m H ∧ RE K r F η σ ∧ Post G K r F H (ev η m) rel Q (atW W σ)
def upE (a : Ex) : L2.TE := up G K W (RV K) (evE Γ a)
def upEs (as : List Ex) : L2.TA := up G K W (RVs K) (evEs Γ as)
def upPs (as : List Pt) : L2.TA := up G K W (RVs K) (evPs Γ as)
def upT (a : Ex) : L2.TT := up G K W (RelI (α := Bool)) (evC Γ (some a))
def upC (a : Option Ex) : L2.TT := up G K W (RelI (α := Bool)) (evC Γ a)
def upO (a : Option Ex) : L2.TO := up G K W (RelI (α := Option Int)) (evO Γ a)
end
def PostL (G : XG) (K : PySem.W.Frag) (r : List Addr) (F H : L2.Hp) (res : Res (List PV)) (Q : L2.VK) (W : Value → Option Addr → L2.Hp → Prop) : Prop :=
  match res with
  | .ok xs m => ∀ r' F' H' a vs, Xt r F H r' F' H' → RM K r' F' m H' → RVs K r' F' xs vs → H' a = some (.lst vs) → F' a = none → a ∉ r' → H a = none → Q (.ref a) H'
  | .ex x m => ∀ r' F' H' C d, Xt r F H r' F' H' → RM K r' F' m H' → G x.cls = some C → RX K r' F' H' x d → W C d H'
  | .no => False
section
variable {G : XG} {K : PySem.W.Frag} {r r' : List Addr} {F F' H H' : L2.Hp} {α β γ δ : Type} {W W' : Value → Option Addr → L2.Hp → Prop}
theorem Xt.none {m : Mem} {a : Addr} (x : Xt r F H r' F' H') (hm : RM K r' F' m H') (h : H' a = Option.none) : H a = Option.none := by
  cases q : H a with
  | none => rfl
  | some o =>
    cases h1 : F a with
    | some u => rw [hm.sub _ _ (x.sub _ _ h1)] at h; cases h
    | none =>
      by_cases h2 : a ∈ r
      · obtain ⟨u, e⟩ := hm.liv a (x.pre.subset h2)
        rw [e] at h; cases h
      · rw [(x.unt a o q h1 h2).1] at h; cases h
theorem PostL.mono {res : Res (List PV)} {Q : L2.VK} {m : Mem} (x : Xt r F H r' F' H') (hm : RM K r' F' m H') (h : PostL G K r F H res Q W) : PostL G K r' F' H' res Q W := by
  cases res with
  | ok v m => exact fun r2 F2 H2 a vs h1 h2 h3 h4 h5 h6 h7 => h r2 F2 H2 a vs (x.trans h1) h2 h3 h4 h5 h6 (x.none hm h7)
  | ex y m => exact fun r2 F2 H2 C d h1 h3 h4 h5 => h r2 F2 H2 C d (x.trans h1) h3 h4 h5
  | no => exact h
theorem PostL.step {res : Res α} {f : α → Mem → Res (List PV)} {rel1 : List Addr → L2.Hp → α → β → Prop} {Q : L2.VK} (h : PostL G K r F H (res.bind f) Q W) :
    Post G K r F H res rel1 (fun V H1 => ∃ r1 F1 v m1, Xt r F H r1 F1 H1 ∧ RM K r1 F1 m1 H1 ∧ rel1 r1 F1 v V ∧ PostL G K r1 F1 H1 (f v m1) Q W) W := by
  cases res with
  | ok v m => exact fun r2 F2 H2 V h1 h3 h4 => ⟨r2, F2, v, m, h1, h3, h4, PostL.mono h1 h3 h⟩
  | ex x m => exact h
  | no => exact h
theorem PostL.ok {xs : List PV} {m : Mem} {Q : L2.VK} {p : Addr} {vs : List L2.V} (h : PostL G K r F H (.ok xs m) Q W) (hm : RM K r F m H) (hp : H p = Option.none) (hv : RVs K r F xs vs) : Q (.ref p) (L2.upd H p (.lst vs)) := by
  have fp : F p = Option.none := by
    cases q : F p with
    | none => rfl
    | some u => rw [hm.sub _ _ q] at hp; cases hp
  have np : p ∉ r := fun e => by
    obtain ⟨u, hu⟩ := hm.liv p e
    rw [hp] at hu; cases hu
  refine h r F _ p vs ⟨List.prefix_refl _, L2.Same.refl _, fun a o h1 h2 h3 => ⟨?_, h2, h3⟩⟩ (hm.other (same_upd hp) fun a ha => L2.upd_ne fun e => np (by rw [← e]; exact ha)) hv L2.upd_same fp np hp
  rw [L2.upd_ne (L2.ne_of_none h1 hp)]; exact h1
theorem pl_ite {c : Prop} [Decidable c] {a b : Res (List PV)} {Q : L2.VK} (h : PostL G K r F H (if c then a else b) Q W) : (c ∧ PostL G K r F H a Q W) ∨ (¬ c ∧ PostL G K r F H b Q W) := by
  by_cases hc : c
  · rw [if_pos hc] at h; exact .inl ⟨hc, h⟩
  · rw [if_neg hc] at h; exact .inr ⟨hc, h⟩
theorem RM.freeze {m : Mem} {p : Addr} {o : L2.HO} (R : RM K r F m H) (hp : H p = some o) (fp : F p = Option.none) (np : p ∉ r) (no : ∀ (ob : Obj) (u : L2.HO), o ≠ .frz ob u := by intro _ _ h; cases h) : RM K r (L2.upd F p o) m H := by
  refine ⟨fun b u h => ?_, R.len, R.nd, fun l a h => ?_, fun l a ob h h2 => (R.obs l a ob h h2).mono (List.prefix_refl _) (same_upd fp) rfl, R.liv, fun a ob u h => ?_⟩
  · by_cases hb : b = p
    · subst hb; rw [L2.upd_same] at h; rw [hp]; exact h
    · rw [L2.upd_ne hb] at h; exact R.sub _ _ h
  · rw [L2.upd_ne fun e => np (by rw [← e]; exact List.mem_of_getElem? h)]; exact R.fr l a h
  · by_cases e : a = p
    · subst e; rw [L2.upd_same] at h; exact absurd (Option.some.inj h) (no ob u)
    · rw [L2.upd_ne e] at h; exact R.nf a ob u h
theorem RM.adopt {m : Mem} {p : Addr} {xs : List PV} {vs : List L2.V} (R : RM K r F m H) (hp : H p = some (.lst vs)) (fp : F p = Option.none) (np : p ∉ r) (hv : RVs K r F xs vs) : RM K (r ++ [p]) F (m ++ [.lst xs]) H := by
  refine ⟨R.sub, by rw [List.length_append, List.length_append, R.len]; rfl, ?_, fun l a h => ?_, fun l a ob h h2 => ?_, fun a h => ?_, R.nf⟩
  · rw [List.nodup_append]
    refine ⟨R.nd, by simp, fun a ha b hb e => ?_⟩
    simp only [List.mem_singleton] at hb
    subst hb; subst e; exact np ha
  · by_cases hl : l < r.length
    · rw [List.getElem?_append_left hl] at h; exact R.fr l a h
    · rw [List.getElem?_append_right (by omega)] at h
      by_cases e : l - r.length = 0
      · rw [e] at h; simp at h; subst h; exact fp
      · rw [List.getElem?_eq_none (by simp; omega)] at h; cases h
  · by_cases hl : l < r.length
    · rw [List.getElem?_append_left hl] at h
      rw [List.getElem?_append_left (by rw [← R.len]; exact hl)] at h2
      exact (R.obs l a ob h h2).mono (List.prefix_append _ _) (L2.Same.refl _) rfl
    · rw [List.getElem?_append_right (by omega)] at h
      rw [List.getElem?_append_right (by rw [← R.len]; omega), ← R.len] at h2
      by_cases e : l - r.length = 0
      · rw [e] at h h2; simp at h h2; subst h; subst h2
        exact ⟨vs, hv.mono (List.prefix_append _ _) (L2.Same.refl _), hp⟩
      · rw [List.getElem?_eq_none (by simp; omega)] at h; cases h
  · rcases List.mem_append.mp h with h | h
    · exact R.liv a h
    · simp only [List.mem_singleton] at h; subst h; exact ⟨_, hp⟩
theorem PostL.pl {res : Res (List PV)} {Q : L2.VK} (h : Post G K r F H (res.bind fun xs m => .ok (.lst xs) m) (RV K) Q W) : PostL G K r F H res Q W := by
  cases res with
  | ok xs m =>
    intro r' F' H' a vs x R hv ha fa na hn
    refine h r' (L2.upd F' a (.lst vs)) H' (.ref a) ⟨x.pre, x.sub.trans (same_upd fa), fun b o h1 h2 h3 => ?_⟩ (R.freeze ha fa na) (.lst (.inl L2.upd_same) (hv.mono (List.prefix_refl _) (same_upd fa)))
    obtain ⟨g1, g2, g3⟩ := x.unt b o h1 h2 h3
    exact ⟨g1, by rw [L2.upd_ne (L2.ne_of_none h1 hn)]; exact g2, g3⟩
  | ex x m => exact h
  | no => exact h
theorem PostL.ml {res : Res (List PV)} {Q : L2.VK} (h : Post G K r F H (res.bind fun xs m => .ok (.loc m.length) (m ++ [.lst xs])) (RV K) Q W) : PostL G K r F H res Q W := by
  cases res with
  | ok xs m =>
    intro r' F' H' a vs x R hv ha fa na hn
    refine h (r' ++ [a]) F' H' (.ref a) ⟨x.pre.trans (List.prefix_append _ _), x.sub, fun b o h1 h2 h3 => ?_⟩ (R.adopt ha fa na hv) (.loc ?_)
    · obtain ⟨g1, g2, g3⟩ := x.unt b o h1 h2 h3
      refine ⟨g1, g2, fun e => ?_⟩
      rcases List.mem_append.mp e with e | e
      · exact g3 e
      · simp only [List.mem_singleton] at e
        rw [e, hn] at h1; cases h1
    · rw [← R.len, List.getElem?_append_right (Nat.le_refl _), Nat.sub_self]; rfl
  | ex x m => exact h
  | no => exact h
end
section
variable (G : XG) (K : PySem.W.Frag) (Γ : Call) (W : L2.WX)
def upL (a : LEx) : L2.TE := fun σ H Q => ∃ r F η m, RM K r F m H ∧ RE K r F η σ ∧ PostL G K r F H (evL Γ a η m) Q (atW W σ)
end
def bltNames : List Str := ["len", "isinstance", "int", "str", "tuple", "all", "any", "sum", "max", "min", "abs", "bool", "ord", "dict", "list", "range", "enumerate", "zip", "reversed", "sorted", "set"]
def spF (G : XG) (K : PySem.W.Frag) (Γ : Call) (i np : Nat) : L2.Sp := fun vs H Q E => vs.length = np ∧ ∃ r F m xs, RM K r F m H ∧ RVs K r F xs vs ∧ Post G K r F H (Γ i xs m) (RV K) Q E
structure GF (G : XG) (X : L2.Cx) (c : Chk) (Γ : Call) (n : Nat) : Prop where
  fn : ∀ i x, c.fns[i]? = some x → ∃ f fd ps, X.mg x = some (.ref f) ∧ PySem.W.keepIn X.K (.ref f) = true ∧ L2.FnOk X.prog X.w X.K X.mg X.base (L2.CX X.prog X.w) n f fd ps (spF G X.K Γ i ps.length) ∧ (∀ xs m, xs.length ≠ ps.length → Γ i xs m = .no) ∧
    ∀ j ≤ (c.dfl.getD i []).length, ∃ ds, L2.Binds X.K fd ps ds ∧ L2.Vals (((c.dfl.getD i []).drop j).map cV) ds
  cst : ∀ x v, c.cst.lookup x = some v → ∃ u V, X.mg x = some u ∧ L2.RelV V u ∧ ∀ r F, RV X.K r F v V
  blt : ∀ x ∈ bltNames, X.mg x = none
structure Good (X : L2.Cx) (c : Chk) (s : Sc) (n : Nat) : Prop where
  calm : X.calm = true
  nd : X.N.Nodup
  N : X.N = c.N
  sc : X.env.scope = s.sc
  own : ∀ x, s.lcl x = true → X.fn x = true ∨ X.env.scope.names.lookup x = some .local
  room : L2.Room n X.A
section
variable {G : XG} {X : L2.Cx} {c : Chk} {Γ : Call} {n : Nat} {s : Sc} {W : L2.WX}
theorem PE_imp {e : Expr} {t t' : L2.TE} (h : L2.PE X e t) (hi : ∀ σ H Q, t' σ H Q → t σ H Q) : L2.PE X e t' := ⟨fun pins s σ H Q I hw => h.run pins s σ H Q I (hi _ _ _ hw)⟩
theorem PT_imp {e : Expr} {t t' : L2.TT} (h : L2.PT X e t) (hi : ∀ σ H Q, t' σ H Q → t σ H Q) : L2.PT X e t' := ⟨fun pins s σ H Q I hw => h.run pins s σ H Q I (hi _ _ _ hw)⟩
theorem PA_imp {e : List Expr} {t t' : L2.TA} (h : L2.PA X e t) (hi : ∀ σ H Q, t' σ H Q → t σ H Q) : L2.PA X e t' := ⟨fun pos pins s σ H Q I hw => h.run pos pins s σ H Q I (hi _ _ _ hw)⟩
theorem PO_imp {e : Option Expr} {t t' : L2.TO} (h : L2.PO X e t) (hi : ∀ σ H Q, t' σ H Q → t σ H Q) : L2.PO X e t' := ⟨fun pins s σ H Q I hw => h.run pins s σ H Q I (hi _ _ _ hw)⟩
theorem star_cons {e : Expr} {es : List Expr} {env : PySem.Env} (h : noStar e = true) : starEach (e :: es) env = (false, eval e env) :: starEach es env := by
  cases e <;> first | rfl | (simp [noStar] at h)
theorem plain_args {pos : Pos} {env : PySem.Env} : ∀ {es : List Expr}, (∀ e ∈ es, noStar e = true) → (backTo pos (starEach es env)).any (·.1) = false
  | [], _ => rfl
  | e :: es, h => by
    rw [star_cons (h e List.mem_cons_self)]
    exact plain_args fun x hx => h x (List.mem_cons_of_mem _ hx)
theorem vis_of (g : Good X c s n) {x : Str} (h : s.vis x = true) : L2.Vis X.env.scope x := by
  unfold Sc.vis Sc.kind at h
  unfold L2.Vis
  rw [g.sc]
  split at h
  · left; assumption
  · right; left; assumption
  · right; right; assumption
  · cases h
theorem gl_of (g : Good X c s n) {x : Str} (h : s.gl x = true) : L2.Gl X x := by
  unfold Sc.gl Sc.kind at h
  unfold L2.Gl PySem.Env.kindOf
  rw [g.sc]
  split at h
  · assumption
  · cases h
theorem loc_of (g : Good X c s n) {x : Str} (h : s.lcl x = true) : L2.Loc X.env.scope x := by
  unfold Sc.lcl Sc.kind at h
  unfold L2.Loc
  rw [g.sc]
  split at h
  · left; assumption
  · right; assumption
  · cases h
theorem plainNm_of {x : Str} (h : plainNm x = true) : (x == ("__debug__" : Str)) = false ∧ (x == ("__classdict__" : Str)) = false ∧ x ≠ "__name__" := by
  simp only [plainNm, Bool.and_eq_true, decide_eq_true_eq] at h
  exact ⟨beq_eq_false_iff_ne.mpr h.1.1, beq_eq_false_iff_ne.mpr h.1.2, h.2⟩
theorem behind_of {op : CmpOp} {e : Expr} (h : noSet e = true) : behindInMarks op e = false := by
  cases e <;> first | rfl | (simp [noSet] at h)
theorem last_of {o o' : CmpOp} {e d : Expr} (h : noSet d = true) : lastMarks [o, o'] [e, d] = false := by
  show behindInMarks o' d = false
  exact behind_of h
theorem slice_of {e : Expr} (h : noSlice e = true) : L2.PlainIx e := by
  intro o i
  cases e <;> first | rfl | (simp [noSlice] at h)
theorem base_of {e : Expr} {nm : Str} {env : PySem.Env} (h : noCall0 e = true) : attributeBase e nm env (eval e env) = eval e env := by
  unfold attributeBase
  split
  · simp [noCall0] at h
  · rfl
theorem hu64 (g : Good X c s n) : X.A.units + 64 < cLine := g.room.units
theorem plain_true {e : Expr} {env : PySem.Env} (h : plainT e = true) : ∀ whole, isTrue e env whole = (do let v ← whole; standAt e.pos; holding [v] (truthy v)) := by
  intro whole
  cases e <;> first | rfl | (simp [plainT] at h; done) | skip
  case UnaryOp op x p => cases op <;> first | rfl | (simp [plainT] at h)
end
end Px
set_option Elab.async false
set_option linter.all false
set_option maxRecDepth 100000
set_option maxHeartbeats 2000000
namespace Px
open PySem
section
variable {G : XG} {X : L2.Cx} {c : Chk} {Γ : Call} {n : Nat} {s : Sc} {W : L2.WX} {a b d : Ex} {x y z : Expr} {pos p2 : Pos} {es : List Expr}
theorem e_var {i : Nat} {nm : Str} (g : Good X c s n) (h1 : c.N[i]? = some nm) (h2 : s.vis nm = true) (h3 : plainNm nm = true) : L2.PE X (.Name nm pos) (upE G X.K Γ W (.var i)) := by
  obtain ⟨p1, p2, _⟩ := plainNm_of h3
  refine PE_imp (L2.pe_var (by rw [g.N]; exact h1) (vis_of g h2) p1 p2) fun σ H Q ⟨r, F, η, m, R, re, h⟩ => ?_
  simp only [evE, getV] at h
  split at h
  · rename_i v e
    obtain ⟨u, e2, hv⟩ := re.gt i v e
    exact ⟨u, e2, h.ok R hv⟩
  · exact h.elim
theorem e_gl {nm : Str} {v w : PV} (g : Good X c s n) (gf : GF G X c Γ n) (h2 : s.gl nm = true) (h3 : plainNm nm = true) (h4 : c.cst.lookup nm = some w) (h5 : PV.beq v w = true) : L2.PE X (.Name nm pos) (upE G X.K Γ W (.gl nm v)) := by
  obtain ⟨p1, p2, _⟩ := plainNm_of h3
  obtain rfl := PV.beq_eq _ _ h5
  obtain ⟨u, V, e1, e2, e3⟩ := gf.cst nm v h4
  exact PE_imp (L2.pe_glob (gl_of g h2) e1 e2 p1) fun σ H Q ⟨r, F, η, m, R, re, h⟩ => Post.ok (v := v) h R (e3 r F)
theorem boot_ty {t : String} (h : t ∈ tyNames) : bootBuiltins (Str.ofString t) = some (.type t) ∧ Str.ofString t ≠ "__name__" ∧ (Str.ofString t == ("__debug__" : Str)) = false ∧ Str.ofString t ∈ bltNames := by
  simp only [tyNames, List.mem_cons, List.not_mem_nil, or_false] at h
  rcases h with rfl | rfl | rfl | rfl | rfl | rfl <;> refine ⟨by decide +kernel, by decide, by decide, by decide⟩
theorem e_ty {t : String} (g : Good X c s n) (gf : GF G X c Γ n) (h1 : t ∈ tyNames) (h2 : s.gl (Str.ofString t) = true) : L2.PE X (.Name (Str.ofString t) pos) (upE G X.K Γ W (.ty t)) := by
  obtain ⟨b1, b2, b3, b4⟩ := boot_ty h1
  exact PE_imp (L2.pe_bltn (v := .ty t) (gl_of g h2) (gf.blt _ b4) b1 rfl b2 b3) fun σ H Q ⟨r, F, η, m, R, re, h⟩ => Post.ok (v := PV.ty t) h R (RV.ty t)
theorem e_bin {o : Op2} (ha : L2.PE X x (upE G X.K Γ W a)) (hb : L2.PE X y (upE G X.K Γ W b)) : L2.PE X (.BinOp x (opOf o) y pos) (upE G X.K Γ W (.bin o a b)) := by
  refine PE_imp (L2.pe_op (ok_bin (G := G) (W := tt0) o) ha hb) fun σ H Q ⟨r, F, η, m, R, re, h⟩ => ⟨r, F, η, m, R, re, ?_⟩
  simp only [evE] at h
  refine (Post.step (rel1 := RV X.K) h).imp fun V H1 ⟨r1, F1, v, m1, x1, R1, hv, h1⟩ => ⟨r1, F1, η, m1, R1, re.mono x1.pre x1.sub, ?_⟩
  exact (Post.step (rel1 := RV X.K) h1).imp fun U H2 ⟨r2, F2, u, m2, x2, R2, hu, h2⟩ => ⟨r2, F2, m2, v, u, R2, hv.mono x2.pre x2.sub, hu, h2.tt⟩
theorem e_neg (ha : L2.PE X x (upE G X.K Γ W a)) : L2.PE X (.UnaryOp .USub x pos) (upE G X.K Γ W (.neg a)) := by
  refine PE_imp (L2.pe_un L2.un_neg ha) fun σ H Q ⟨r, F, η, m, R, re, h⟩ => ⟨r, F, η, m, R, re, ?_⟩
  simp only [evE] at h
  refine (Post.step (rel1 := RV X.K) h).imp fun V H1 ⟨r1, F1, v, m1, x1, R1, hv, h1⟩ => ?_
  cases hv with
  | int i => exact ⟨i, rfl, Post.ok (v := PV.int (-i)) h1 R1 (RV.int _)⟩
  | _ => exact h1.elim
theorem e_cmp {o : Cm} (g : Good X c s n) (hs : noSet y = true) (ha : L2.PE X x (upE G X.K Γ W a)) (hb : L2.PE X y (upE G X.K Γ W b)) : L2.PE X (.Compare x [cmOf o] [y] pos) (upE G X.K Γ W (.cmp o a b)) := by
  refine PE_imp (L2.pe_cmpR (ok_cmp (G := G) (W := tt0) (hu64 g) o) ha hb (behind_of hs)) fun σ H Q ⟨r, F, η, m, R, re, h⟩ => ⟨r, F, η, m, R, re, ?_⟩
  simp only [evE] at h
  refine (Post.step (rel1 := RV X.K) h).imp fun V H1 ⟨r1, F1, v, m1, x1, R1, hv, h1⟩ => ⟨r1, F1, η, m1, R1, re.mono x1.pre x1.sub, ?_⟩
  exact (Post.step (rel1 := RV X.K) h1).imp fun U H2 ⟨r2, F2, u, m2, x2, R2, hu, h2⟩ => ⟨r2, F2, m2, v, u, R2, hv.mono x2.pre x2.sub, hu, h2.tt⟩
theorem evC_some {η : Env} {m : Mem} : evC Γ (some a) η m = (evE Γ a η m).bind fun v m => toB m v := by simp only [evC]
theorem bind_assoc {α β γ : Type} (x : Res α) (f : α → Mem → Res β) (g : β → Mem → Res γ) : (x.bind f).bind g = x.bind fun a m => (f a m).bind g := by
  cases x <;> rfl
theorem brB_bind {α β : Type} (v : PV) (t f : Res α) (g : α → Mem → Res β) : (brB v t f).bind g = brB v (t.bind g) (f.bind g) := by
  unfold brB
  split <;> rfl
theorem t_cmp {o : Cm} (g : Good X c s n) (hs : noSet y = true) (ha : L2.PE X x (upE G X.K Γ W a)) (hb : L2.PE X y (upE G X.K Γ W b)) : L2.PT X (.Compare x [cmOf o] [y] pos) (upT G X.K Γ W (.cmp o a b)) := by
  refine PT_imp (L2.pt_cmpR (ok_cmp (G := G) (W := tt0) (hu64 g) o) ha hb (behind_of hs)) fun σ H Q ⟨r, F, η, m, R, re, h⟩ => ⟨r, F, η, m, R, re, ?_⟩
  rw [evC_some] at h
  simp only [evE, bind_assoc] at h
  refine (Post.step (rel1 := RV X.K) h).imp fun V H1 ⟨r1, F1, v, m1, x1, R1, hv, h1⟩ => ⟨r1, F1, η, m1, R1, re.mono x1.pre x1.sub, ?_⟩
  refine (Post.step (rel1 := RV X.K) h1).imp fun U H2 ⟨r2, F2, u, m2, x2, R2, hu, h2⟩ => ⟨r2, F2, m2, v, u, R2, hv.mono x2.pre x2.sub, hu, ?_⟩
  refine ((Post.step (rel1 := RV X.K) h2).imp fun V3 H3 ⟨r3, F3, w, m3, x3, R3, hw, h3⟩ => ?_).tt
  cases hw with
  | bl k => exact ⟨k, rfl, Post.ok (v := k) h3 R3 rfl⟩
  | _ => exact h3.elim
theorem t_plain {e : Expr} (he : plainT e = true) (ha : L2.PE X e (upE G X.K Γ W a)) : L2.PT X e (upT G X.K Γ W a) := by
  refine PT_imp (L2.pt_val ha (plain_true he)) fun σ H Q ⟨r, F, η, m, R, re, h⟩ => ⟨r, F, η, m, R, re, ?_⟩
  rw [evC_some] at h
  refine (Post.step (rel1 := RV X.K) h).imp fun V H1 ⟨r1, F1, v, m1, x1, R1, hv, h1⟩ => ?_
  cases hv with
  | bl k => exact ⟨k, rfl, Post.ok (v := k) h1 R1 rfl⟩
  | _ => exact h1.elim
theorem e_chn {o o' : Cm} (g : Good X c s n) (hs : noSet z = true) (ha : L2.PE X x (upE G X.K Γ W a)) (hb : L2.PE X y (upE G X.K Γ W b)) (hd : L2.PE X z (upE G X.K Γ W d)) :
    L2.PE X (.Compare x [cmOf o, cmOf o'] [y, z] pos) (upE G X.K Γ W (.chn o o' a b d)) := by
  refine PE_imp (L2.pe_chain (ok_cmp (G := G) (W := tt0) (hu64 g) o) (ok_cmp (G := G) (W := tt0) (hu64 g) o') ha hb hd (last_of hs)) fun σ H Q ⟨r, F, η, m, R, re, h⟩ => ⟨r, F, η, m, R, re, ?_⟩
  simp only [evE] at h
  refine (Post.step (rel1 := RV X.K) h).imp fun V H1 ⟨r1, F1, v, m1, x1, R1, hv, h1⟩ => ⟨r1, F1, η, m1, R1, re.mono x1.pre x1.sub, ?_⟩
  refine (Post.step (rel1 := RV X.K) h1).imp fun U H2 ⟨r2, F2, u, m2, x2, R2, hu, h2⟩ => ⟨r2, F2, m2, v, u, R2, hv.mono x2.pre x2.sub, hu, ?_⟩
  refine ((Post.step (rel1 := RV X.K) h2).imp fun V3 H3 ⟨r3, F3, w, m3, x3, R3, hw, h3⟩ => ?_).tt
  cases hw with
  | bl k =>
    refine ⟨k, rfl, ?_⟩
    cases k with
    | true =>
      rw [if_pos rfl]
      refine ⟨r3, F3, η, m3, R3, (re.mono (x1.pre.trans x2.pre) (x1.sub.trans x2.sub)).mono x3.pre x3.sub, ?_⟩
      exact (Post.step (rel1 := RV X.K) h3).imp fun V4 H4 ⟨r4, F4, q, m4, x4, R4, hq, h4⟩ => ⟨r4, F4, m4, u, q, R4, (hu.mono x3.pre x3.sub).mono x4.pre x4.sub, hq, h4.tt⟩
    | false =>
      rw [if_neg Bool.false_ne_true]
      exact Post.ok (v := PV.bl false) h3 R3 (.bl _)
  | _ => exact h3.elim
theorem e_and (ha : L2.PE X x (upE G X.K Γ W a)) (hb : L2.PE X (.BoolOp .And (y :: es) pos) (upE G X.K Γ W b)) : L2.PE X (.BoolOp .And (x :: y :: es) pos) (upE G X.K Γ W (.and_ a b)) := by
  refine PE_imp (L2.pe_and ha hb) fun σ H Q ⟨r, F, η, m, R, re, h⟩ => ⟨r, F, η, m, R, re, ?_⟩
  simp only [evE] at h
  refine (Post.step (rel1 := RV X.K) h).imp fun V H1 ⟨r1, F1, v, m1, x1, R1, hv, h1⟩ => ?_
  cases hv with
  | bl k =>
    refine ⟨k, rfl, ?_⟩
    cases k with
    | true => rw [if_pos rfl]; exact ⟨r1, F1, η, m1, R1, re.mono x1.pre x1.sub, h1⟩
    | false => rw [if_neg Bool.false_ne_true]; exact Post.ok (v := PV.bl false) h1 R1 (.bl _)
  | _ => exact h1.elim
theorem e_or (ha : L2.PE X x (upE G X.K Γ W a)) (hb : L2.PE X (.BoolOp .Or (y :: es) pos) (upE G X.K Γ W b)) : L2.PE X (.BoolOp .Or (x :: y :: es) pos) (upE G X.K Γ W (.or_ a b)) := by
  refine PE_imp (L2.pe_or ha hb) fun σ H Q ⟨r, F, η, m, R, re, h⟩ => ⟨r, F, η, m, R, re, ?_⟩
  simp only [evE] at h
  refine (Post.step (rel1 := RV X.K) h).imp fun V H1 ⟨r1, F1, v, m1, x1, R1, hv, h1⟩ => ?_
  cases hv with
  | bl k =>
    refine ⟨k, rfl, ?_⟩
    cases k with
    | false => rw [if_neg Bool.false_ne_true]; exact ⟨r1, F1, η, m1, R1, re.mono x1.pre x1.sub, h1⟩
    | true => rw [if_pos rfl]; exact Post.ok (v := PV.bl true) h1 R1 (.bl _)
  | _ => exact h1.elim
theorem e_not (ha : L2.PE X x (upE G X.K Γ W a)) : L2.PE X (.UnaryOp .Not x pos) (upE G X.K Γ W (.not_ a)) := by
  refine PE_imp (L2.pe_not ha) fun σ H Q ⟨r, F, η, m, R, re, h⟩ => ⟨r, F, η, m, R, re, ?_⟩
  simp only [evE] at h
  refine (Post.step (rel1 := RV X.K) h).imp fun V H1 ⟨r1, F1, v, m1, x1, R1, hv, h1⟩ => ?_
  cases hv with
  | bl k => exact ⟨k, rfl, Post.ok (v := PV.bl (!k)) h1 R1 (.bl _)⟩
  | _ => exact h1.elim
theorem t_not (ha : L2.PT X x (upT G X.K Γ W a)) : L2.PT X (.UnaryOp .Not x pos) (upT G X.K Γ W (.not_ a)) := by
  refine PT_imp (L2.pt_not ha) fun σ H Q ⟨r, F, η, m, R, re, h⟩ => ⟨r, F, η, m, R, re, ?_⟩
  rw [evC_some] at h
  simp only [evE, bind_assoc] at h
  show Post G X.K r F H (evC Γ (some a) η m) _ _ _
  rw [evC_some]
  cases e : evE Γ a η m with
  | ok v m1 =>
    rw [e] at h
    cases v with
    | bl k => exact fun r1 F1 H1 V x1 R1 hv => h r1 F1 H1 (!V) x1 R1 (by show (!k) = !V; rw [show k = V from hv])
    | _ => exact h.elim
  | ex v m1 => rw [e] at h; exact h
  | no => rw [e] at h; exact h
theorem w_and (ha : L2.PT X x (upT G X.K Γ W a)) (hb : L2.PW X (.BoolOp .And (y :: es) pos) (upT G X.K Γ W b)) : L2.PW X (.BoolOp .And (x :: y :: es) pos) (upT G X.K Γ W (.and_ a b)) := by
  refine ⟨fun wh pins st σ H Q I h => (L2.pw_and ha hb).run wh pins st σ H Q I ?_⟩
  obtain ⟨r, F, η, m, R, re, h⟩ := h
  refine ⟨r, F, η, m, R, re, ?_⟩
  rw [evC_some] at h
  simp only [evE, bind_assoc, brB_bind] at h
  show Post G X.K r F H (evC Γ (some a) η m) _ _ _
  rw [evC_some]
  cases e : evE Γ a η m with
  | ok v m1 =>
    rw [e] at h
    cases v with
    | bl k =>
      intro r1 F1 H1 V x1 R1 hv
      obtain rfl : k = V := hv
      cases k with
      | true =>
        rw [if_pos rfl]
        refine ⟨r1, F1, η, m1, R1, re.mono x1.pre x1.sub, ?_⟩
        show Post G X.K r1 F1 H1 (evC Γ (some b) η m1) _ _ _
        rw [evC_some]
        exact Post.mono x1 h
      | false =>
        rw [if_neg Bool.false_ne_true]
        exact (Post.mono (res := .ok false m1) x1 h).ok R1 rfl
    | _ => exact h.elim
  | ex v m1 => rw [e] at h; exact h
  | no => rw [e] at h; exact h
theorem w_or (ha : L2.PT X x (upT G X.K Γ W a)) (hb : L2.PW X (.BoolOp .Or (y :: es) pos) (upT G X.K Γ W b)) : L2.PW X (.BoolOp .Or (x :: y :: es) pos) (upT G X.K Γ W (.or_ a b)) := by
  refine ⟨fun wh pins st σ H Q I h => (L2.pw_or ha hb).run wh pins st σ H Q I ?_⟩
  obtain ⟨r, F, η, m, R, re, h⟩ := h
  refine ⟨r, F, η, m, R, re, ?_⟩
  rw [evC_some] at h
  simp only [evE, bind_assoc, brB_bind] at h
  show Post G X.K r F H (evC Γ (some a) η m) _ _ _
  rw [evC_some]
  cases e : evE Γ a η m with
  | ok v m1 =>
    rw [e] at h
    cases v with
    | bl k =>
      intro r1 F1 H1 V x1 R1 hv
      obtain rfl : k = V := hv
      cases k with
      | false =>
        rw [if_neg Bool.false_ne_true]
        refine ⟨r1, F1, η, m1, R1, re.mono x1.pre x1.sub, ?_⟩
        show Post G X.K r1 F1 H1 (evC Γ (some b) η m1) _ _ _
        rw [evC_some]
        exact Post.mono x1 h
      | true =>
        rw [if_pos rfl]
        exact (Post.mono (res := .ok true m1) x1 h).ok R1 rfl
    | _ => exact h.elim
  | ex v m1 => rw [e] at h; exact h
  | no => rw [e] at h; exact h
theorem t_chn {o o' : Cm} (g : Good X c s n) (hs : noSet z = true) (ha : L2.PE X x (upE G X.K Γ W a)) (hb : L2.PE X y (upE G X.K Γ W b)) (hd : L2.PE X z (upE G X.K Γ W d)) :
    L2.PT X (.Compare x [cmOf o, cmOf o'] [y, z] pos) (upT G X.K Γ W (.chn o o' a b d)) := by
  refine PT_imp (L2.pt_chain (ok_cmp (G := G) (W := tt0) (hu64 g) o) (ok_cmp (G := G) (W := tt0) (hu64 g) o') ha hb hd (last_of hs)) fun σ H Q ⟨r, F, η, m, R, re, h⟩ => ⟨r, F, η, m, R, re, ?_⟩
  rw [evC_some] at h
  simp only [evE, bind_assoc, brB_bind] at h
  refine (Post.step (rel1 := RV X.K) h).imp fun V H1 ⟨r1, F1, v, m1, x1, R1, hv, h1⟩ => ⟨r1, F1, η, m1, R1, re.mono x1.pre x1.sub, ?_⟩
  refine (Post.step (rel1 := RV X.K) h1).imp fun U H2 ⟨r2, F2, u, m2, x2, R2, hu, h2⟩ => ⟨r2, F2, m2, v, u, R2, hv.mono x2.pre x2.sub, hu, ?_⟩
  refine ((Post.step (rel1 := RV X.K) h2).imp fun V3 H3 ⟨r3, F3, w, m3, x3, R3, hw, h3⟩ => ?_).tt
  cases hw with
  | bl k =>
    refine ⟨k, rfl, ?_⟩
    cases k with
    | true =>
      rw [if_pos rfl]
      refine ⟨r3, F3, η, m3, R3, (re.mono (x1.pre.trans x2.pre) (x1.sub.trans x2.sub)).mono x3.pre x3.sub, ?_⟩
      refine (Post.step (rel1 := RV X.K) h3).imp fun V4 H4 ⟨r4, F4, q, m4, x4, R4, hq, h4⟩ => ⟨r4, F4, m4, u, q, R4, (hu.mono x3.pre x3.sub).mono x4.pre x4.sub, hq, ?_⟩
      refine ((Post.step (rel1 := RV X.K) h4).imp fun V5 H5 ⟨r5, F5, w5, m5, x5, R5, hw5, h5⟩ => ?_).tt
      cases hw5 with
      | bl k5 => exact ⟨k5, rfl, Post.ok (v := k5) h5 R5 rfl⟩
      | _ => exact h5.elim
    | false =>
      rw [if_neg Bool.false_ne_true]
      exact ⟨false, rfl, Post.ok (v := false) h3 R3 rfl⟩
  | _ => exact h3.elim
theorem e_ite (ht : L2.PT X x (upT G X.K Γ W a)) (ha : L2.PE X y (upE G X.K Γ W b)) (hb : L2.PE X z (upE G X.K Γ W d)) : L2.PE X (.IfExp x y z pos) (upE G X.K Γ W (.ite a b d)) := by
  refine PE_imp (L2.pe_ifExp ht ha hb) fun σ H Q ⟨r, F, η, m, R, re, h⟩ => ⟨r, F, η, m, R, re, ?_⟩
  simp only [evE] at h
  show Post G X.K r F H (evC Γ (some a) η m) _ _ _
  rw [evC_some]
  cases e : evE Γ a η m with
  | ok v m1 =>
    rw [e] at h
    cases v with
    | bl k =>
      intro r1 F1 H1 V x1 R1 hv
      obtain rfl : k = V := hv
      cases k with
      | true => rw [if_pos rfl]; exact ⟨r1, F1, η, m1, R1, re.mono x1.pre x1.sub, Post.mono x1 h⟩
      | false => rw [if_neg Bool.false_ne_true]; exact ⟨r1, F1, η, m1, R1, re.mono x1.pre x1.sub, Post.mono x1 h⟩
    | _ => exact h.elim
  | ex v m1 => rw [e] at h; exact h
  | no => rw [e] at h; exact h
theorem a_nil : L2.PA X [] (upEs G X.K Γ W []) := PA_imp L2.pa_nil fun σ H Q ⟨r, F, η, m, R, re, h⟩ => by
  simp only [evEs] at h
  exact h.ok R .nil
theorem a_cons {as : List Ex} (hs : noStar x = true) (ha : L2.PE X x (upE G X.K Γ W a)) (hr : L2.PA X es (upEs G X.K Γ W as)) : L2.PA X (x :: es) (upEs G X.K Γ W (a :: as)) := by
  refine PA_imp (L2.pa_cons ha hr (star_cons hs)) fun σ H Q ⟨r, F, η, m, R, re, h⟩ => ⟨r, F, η, m, R, re, ?_⟩
  simp only [evEs] at h
  refine (Post.step (rel1 := RV X.K) h).imp fun V H1 ⟨r1, F1, v, m1, x1, R1, hv, h1⟩ => ⟨r1, F1, η, m1, R1, re.mono x1.pre x1.sub, ?_⟩
  exact (Post.step (rel1 := RVs X.K) h1).imp fun U H2 ⟨r2, F2, u, m2, x2, R2, hu, h2⟩ => h2.ok R2 (.cons (hv.mono x2.pre x2.sub) hu)
theorem e_tup {as : List Ex} {k : Nat} (h : L2.PA X es (upEs G X.K Γ W as)) : L2.PE X (.Tuple es k pos) (upE G X.K Γ W (.tup as)) := by
  refine PE_imp (L2.pe_tup h) fun σ H Q ⟨r, F, η, m, R, re, h⟩ => ⟨r, F, η, m, R, re, ?_⟩
  simp only [evE] at h
  refine (Post.step (rel1 := RVs X.K) h).imp fun V H1 ⟨r1, F1, v, m1, x1, R1, hv, h1⟩ => ?_
  rcases post_ite h1 with ⟨q, h1⟩ | ⟨_, h1⟩
  · exact ⟨by rw [← LINE_eq, ← hv.len]; exact q, fun p hp => h1.okF R1 hp (.tup (.inl (.inl L2.upd_same)) (hv.mono (List.prefix_refl _) (R1.frozen hp).2))⟩
  · exact h1.elim
theorem p_nil : L2.PA X [] (upPs G X.K Γ W []) := PA_imp L2.pa_nil fun σ H Q ⟨r, F, η, m, R, re, h⟩ => by
  simp only [evPs] at h
  exact h.ok R .nil
theorem p_one {as : List Pt} (hs : noStar x = true) (ha : L2.PE X x (upE G X.K Γ W a)) (hr : L2.PA X es (upPs G X.K Γ W as)) : L2.PA X (x :: es) (upPs G X.K Γ W (.one a :: as)) := by
  refine PA_imp (L2.pa_cons ha hr (star_cons hs)) fun σ H Q ⟨r, F, η, m, R, re, h⟩ => ⟨r, F, η, m, R, re, ?_⟩
  simp only [evPs, evPt, bind_assoc, Res.bind_ok] at h
  refine (Post.step (rel1 := RV X.K) h).imp fun V H1 ⟨r1, F1, v, m1, x1, R1, hv, h1⟩ => ⟨r1, F1, η, m1, R1, re.mono x1.pre x1.sub, ?_⟩
  exact (Post.step (rel1 := RVs X.K) h1).imp fun U H2 ⟨r2, F2, u, m2, x2, R2, hu, h2⟩ => h2.ok R2 (.cons (hv.mono x2.pre x2.sub) hu)
theorem p_all {as : List Pt} {ps : Pos} (ha : L2.PE X x (upE G X.K Γ W a)) (hr : L2.PA X es (upPs G X.K Γ W as)) : L2.PA X (.Starred x ps :: es) (upPs G X.K Γ W (.all a :: as)) := by
  refine PA_imp (StX.pa_star ha hr rfl) fun σ H Q ⟨r, F, η, m, R, re, h⟩ => ⟨r, F, η, m, R, re, ?_⟩
  simp only [evPs, evPt, bind_assoc] at h
  refine (Post.step (rel1 := RV X.K) h).imp fun V H1 ⟨r1, F1, v, m1, x1, R1, hv, h1⟩ => ?_
  cases e : asS m1 v with
  | none => simp only [allP, e, Res.bind_no] at h1; exact h1.elim
  | some xs =>
    simp only [allP, e, Res.bind_ok] at h1
    obtain ⟨p, vs, rfl, q, t⟩ := asS_sq R1 hv e
    refine ⟨p, vs, rfl, q.symm, r1, F1, η, m1, R1, re.mono x1.pre x1.sub, ?_⟩
    exact (Post.step (rel1 := RVs X.K) h1).imp fun U H2 ⟨r2, F2, u, m2, x2, R2, hu, h2⟩ => h2.ok R2 ((t.mono x2.pre x2.sub).append hu)
theorem e_tups {as : List Pt} {k : Nat} (h : L2.PA X es (upPs G X.K Γ W as)) : L2.PE X (.Tuple es k pos) (upE G X.K Γ W (.tups as)) := by
  refine PE_imp (L2.pe_tup h) fun σ H Q ⟨r, F, η, m, R, re, h⟩ => ⟨r, F, η, m, R, re, ?_⟩
  simp only [evE] at h
  refine (Post.step (rel1 := RVs X.K) h).imp fun V H1 ⟨r1, F1, v, m1, x1, R1, hv, h1⟩ => ?_
  rcases post_ite h1 with ⟨q, h1⟩ | ⟨_, h1⟩
  · exact ⟨by rw [← LINE_eq, ← hv.len]; exact q, fun p hp => h1.okF R1 hp (.tup (.inl (.inl L2.upd_same)) (hv.mono (List.prefix_refl _) (R1.frozen hp).2))⟩
  · exact h1.elim
theorem e_bln {ap cp : Pos} (hb : noCall0 x = true) (hline : (ap.endLine == cp.line) = true) (ha : L2.PE X x (upE G X.K Γ W a)) : L2.PE X (.Call (.Attribute x "bit_length" ap) [] [] cp) (upE G X.K Γ W (.bln a)) := by
  refine PE_imp (L2.pe_bits ha (base_of hb) hline) fun σ H Q ⟨r, F, η, m, R, re, h⟩ => ⟨r, F, η, m, R, re, ?_⟩
  simp only [evE] at h
  refine (Post.step (rel1 := RV X.K) h).imp fun V H1 ⟨r1, F1, v, m1, x1, R1, hv, h1⟩ => ?_
  cases hv with
  | int i => exact ⟨i, rfl, h1.ok R1 (.int _)⟩
  | _ => exact h1.elim
theorem e_emd : L2.PE X (.Dict [] [] pos) (upE G X.K Γ W .emd) := by
  refine PE_imp L2.pe_dnewK fun σ H Q ⟨r, F, η, m, R, re, h⟩ p hp => ?_
  simp only [evE] at h
  exact h.okF R hp (.dic (vs := []) L2.upd_same rfl .nil)
theorem e_mdc : L2.PE X (.Dict [] [] pos) (upE G X.K Γ W .mdc) := by
  refine PE_imp L2.pe_dnewK fun σ H Q ⟨r, F, η, m, R, re, h⟩ p hp => ?_
  simp only [evE] at h
  have np : p ∉ r := fun e => by
    obtain ⟨u, hu⟩ := R.liv p e
    rw [hp] at hu; cases hu
  refine h (r ++ [p]) F _ (.ref p) ⟨List.prefix_append _ _, L2.Same.refl _, fun b o h1 h2 h3 => ?_⟩ (R.push hp ⟨[], .nil, rfl, L2.upd_same⟩) (.loc ?_)
  · refine ⟨by rw [L2.upd_ne (L2.ne_of_none h1 hp)]; exact h1, h2, fun e => ?_⟩
    rcases List.mem_append.mp e with e | e
    · exact h3 e
    · simp only [List.mem_singleton] at e
      rw [e, hp] at h1; cases h1
  · rw [← R.len, List.getElem?_append_right (Nat.le_refl _), Nat.sub_self]; rfl
theorem e_idx (hs : noSlice y = true) (ha : L2.PE X x (upE G X.K Γ W a)) (hb : L2.PE X y (upE G X.K Γ W b)) : L2.PE X (.Subscript x y pos) (upE G X.K Γ W (.idx a b)) := by
  refine PE_imp (L2.pe_ix (ok_idx (G := G) (W := tt0)) ha hb (slice_of hs)) fun σ H Q ⟨r, F, η, m, R, re, h⟩ => ⟨r, F, η, m, R, re, ?_⟩
  simp only [evE] at h
  refine (Post.step (rel1 := RV X.K) h).imp fun V H1 ⟨r1, F1, v, m1, x1, R1, hv, h1⟩ => ⟨r1, F1, η, m1, R1, re.mono x1.pre x1.sub, ?_⟩
  exact (Post.step (rel1 := RV X.K) h1).imp fun U H2 ⟨r2, F2, u, m2, x2, R2, hu, h2⟩ => ⟨r2, F2, m2, v, u, R2, hv.mono x2.pre x2.sub, hu, h2.tt⟩
theorem o_none : L2.PO X none (upO G X.K Γ W none) := PO_imp L2.po_none fun σ H Q ⟨r, F, η, m, R, re, h⟩ => by
  simp only [evO] at h
  exact h.ok R rfl
theorem o_some (ha : L2.PE X x (upE G X.K Γ W a)) : L2.PO X (some x) (upO G X.K Γ W (some a)) := by
  refine PO_imp (L2.po_some ha) fun σ H Q ⟨r, F, η, m, R, re, h⟩ => ⟨r, F, η, m, R, re, ?_⟩
  simp only [evO] at h
  refine (Post.step (rel1 := RV X.K) h).imp fun V H1 ⟨r1, F1, v, m1, x1, R1, hv, h1⟩ => ?_
  cases hv with
  | int i => exact ⟨i, rfl, Post.ok (v := some i) h1 R1 rfl⟩
  | _ => exact h1.elim
theorem e_slc {l h' : Option Ex} {lo hi : Option Expr} (ha : L2.PE X x (upE G X.K Γ W a)) (hl : L2.PO X lo (upO G X.K Γ W l)) (hh : L2.PO X hi (upO G X.K Γ W h')) : L2.PE X (.Subscript x (.Slice lo hi none p2) pos) (upE G X.K Γ W (.slc a l h')) := by
  refine PE_imp (L2.pe_slice (ok_slc (G := G) (W := tt0)) ha hl hh) fun σ H Q ⟨r, F, η, m, R, re, h⟩ => ⟨r, F, η, m, R, re, ?_⟩
  simp only [evE] at h
  refine (Post.step (rel1 := RV X.K) h).imp fun V H1 ⟨r1, F1, v, m1, x1, R1, hv, h1⟩ => ⟨r1, F1, η, m1, R1, re.mono x1.pre x1.sub, ?_⟩
  refine (Post.step (rel1 := RelI (α := Option Int)) h1).imp fun U H2 ⟨r2, F2, u, m2, x2, R2, hu, h2⟩ => ⟨r2, F2, η, m2, R2, (re.mono x1.pre x1.sub).mono x2.pre x2.sub, ?_⟩
  refine (Post.step (rel1 := RelI (α := Option Int)) h2).imp fun U3 H3 ⟨r3, F3, u3, m3, x3, R3, hu3, h3⟩ => ?_
  obtain rfl : u = U := hu
  obtain rfl : u3 = U3 := hu3
  exact ⟨r3, F3, m3, v, R3, (hv.mono x2.pre x2.sub).mono x3.pre x3.sub, h3.tt⟩
end
end Px
set_option Elab.async false
set_option linter.all false
set_option maxRecDepth 100000
set_option maxHeartbeats 2000000
namespace Px
open PySem
section
variable {G : XG} {X : L2.Cx} {c : Chk} {Γ : Call} {n : Nat} {s : Sc} {W : L2.WX} {a b d : Ex} {x y z : Expr} {pos p2 : Pos} {es : List Expr}
def relD (K : PySem.W.Frag) (dvs : List L2.V) : List Addr → L2.Hp → List PV → List L2.V → Prop := fun r F xs vs => RVs K r F xs (vs ++ dvs)
def upEd (G : XG) (K : PySem.W.Frag) (Γ : Call) (W : L2.WX) (dvs : List L2.V) (as : List Ex) : L2.TA := up G K W (relD K dvs) (evEs Γ as)
theorem cst_ev : ∀ {as : List Ex} {d : List PV} {η : Env} {m : Mem}, cstOk as d = true → evEs Γ as η m = .ok d m
  | [], [], η, m, _ => by simp only [evEs]
  | .int i :: r, .int j :: d, η, m, h => by
    simp only [cstOk, Bool.and_eq_true, decide_eq_true_eq] at h
    obtain ⟨rfl, h⟩ := h
    simp only [evEs, evE, Res.bind_ok, cst_ev h]
  | .non :: r, .non :: d, η, m, h => by
    simp only [cstOk] at h
    simp only [evEs, evE, Res.bind_ok, cst_ev h]
theorem cst_rel {K : PySem.W.Frag} {r : List Addr} {F : L2.Hp} : ∀ {as : List Ex} {d : List PV}, cstOk as d = true → RVs K r F d (d.map cV)
  | [], [], _ => .nil
  | .int i :: r, .int j :: d, h => by
    simp only [cstOk, Bool.and_eq_true, decide_eq_true_eq] at h
    exact .cons (.int j) (cst_rel h.2)
  | .non :: r, .non :: d, h => by
    simp only [cstOk] at h
    exact .cons .non (cst_rel h)
theorem d_nil {as : List Ex} {d : List PV} (h : cstOk as d = true) : L2.PA X [] (upEd G X.K Γ W (d.map cV) as) := PA_imp L2.pa_nil fun σ H Q ⟨r, F, η, m, R, re, q⟩ => by
  rw [cst_ev h] at q
  exact q.ok R (cst_rel h)
theorem d_cons {as : List Ex} {dvs : List L2.V} (hs : noStar x = true) (ha : L2.PE X x (upE G X.K Γ W a)) (hr : L2.PA X es (upEd G X.K Γ W dvs as)) : L2.PA X (x :: es) (upEd G X.K Γ W dvs (a :: as)) := by
  refine PA_imp (L2.pa_cons ha hr (star_cons hs)) fun σ H Q ⟨r, F, η, m, R, re, h⟩ => ⟨r, F, η, m, R, re, ?_⟩
  simp only [evEs] at h
  refine (Post.step (rel1 := RV X.K) h).imp fun V H1 ⟨r1, F1, v, m1, x1, R1, hv, h1⟩ => ⟨r1, F1, η, m1, R1, re.mono x1.pre x1.sub, ?_⟩
  exact (Post.step (rel1 := relD X.K dvs) h1).imp fun U H2 ⟨r2, F2, u, m2, x2, R2, hu, h2⟩ => h2.ok R2 (.cons (hv.mono x2.pre x2.sub) hu)
theorem e_call {f : Nat} {nm : Str} {as : List Ex} {j : Nat} (g : Good X c s n) (gf : GF G X c Γ n) (tk : L2.Takes X W) (h1 : c.fns[f]? = some nm) (h2 : s.gl nm = true) (h3 : plainNm nm = true) (hj : j ≤ (c.dfl.getD f []).length)
    (hst : ∀ e ∈ x :: es, noStar e = true) (ha : L2.PA X (x :: es) (upEd G X.K Γ W (((c.dfl.getD f []).drop j).map cV) as)) : L2.PE X (.Call (.Name nm p2) (x :: es) [] pos) (upE G X.K Γ W (.call f as)) := by
  obtain ⟨p1, p3, p4⟩ := plainNm_of h3
  obtain ⟨fa, fd, ps, e1, e2, e3, e4, e5⟩ := gf.fn f nm h1
  obtain ⟨ds, b1, b2⟩ := e5 j hj
  refine PE_imp (L2.pe_callSD (E := L2.WE W) e3 g.room (gl_of g h2) e1 e2 b1 b2 (fun σ => L2.passAt tk σ) ha p1 (star_cons (hst x List.mem_cons_self)) (plain_args fun e he => hst e (List.mem_cons_of_mem _ he))) fun σ H Q ⟨r, F, η, m, R, re, h⟩ => ⟨r, F, η, m, R, re, ?_⟩
  simp only [evE] at h
  refine (Post.step (rel1 := relD X.K (((c.dfl.getD f []).drop j).map cV)) h).imp fun V H1 ⟨r1, F1, v, m1, x1, R1, hv, h1⟩ => ?_
  by_cases hl : v.length = ps.length
  · exact ⟨by rw [← hl]; exact (RVs.len hv).symm, r1, F1, m1, v, R1, hv, h1⟩
  · rw [e4 v m1 hl] at h1; exact h1.elim
theorem bf_boot (b : Bf) : bootBuiltins (bfName b) = some (bfVal b) ∧ bfName b ≠ "__name__" ∧ (bfName b == ("__debug__" : Str)) = false ∧ bfName b ∈ bltNames := by
  cases b <;> refine ⟨by decide +kernel, by decide, by decide, by decide⟩
theorem e_bf {k : Bf} {as : List Ex} (g : Good X c s n) (gf : GF G X c Γ n) (h2 : s.gl (bfName k) = true) (hst : ∀ e ∈ x :: es, noStar e = true) (ha : L2.PA X (x :: es) (upEs G X.K Γ W as)) :
    L2.PE X (.Call (.Name (bfName k) p2) (x :: es) [] pos) (upE G X.K Γ W (.bf k as)) := by
  obtain ⟨b1, b2, b3, b4⟩ := bf_boot k
  have hc := ok_bf (X := X) (G := G) (W := tt0) g.calm k
  have hm := gf.blt _ b4
  have he := star_cons (env := X.env) (es := es) (hst x List.mem_cons_self)
  have hp := plain_args (env := X.env) (pos := pos) (fun e he => hst e (List.mem_cons_of_mem _ he) : ∀ e ∈ es, noStar e = true)
  have main : L2.PE X (.Call (.Name (bfName k) p2) (x :: es) [] pos) (L2.tCB (rC G X.K tt0 (fun m => opBf m k)) (upEs G X.K Γ W as)) := by
    cases k <;> first
      | exact L2.pe_callB hc (gl_of g h2) hm b1 ha b2 b3 he hp
      | exact L2.pe_callTy hc (gl_of g h2) hm b1 ha b2 b3 he hp
  refine PE_imp main fun σ H Q ⟨r, F, η, m, R, re, h⟩ => ⟨r, F, η, m, R, re, ?_⟩
  simp only [evE] at h
  exact (Post.step (rel1 := RVs X.K) h).imp fun V H1 ⟨r1, F1, v, m1, x1, R1, hv, h1⟩ => ⟨r1, F1, m1, v, R1, hv, h1.tt⟩
theorem few_args {cpos : Pos} {env : PySem.Env} (hl : (x :: es).length < 29) (hst : ∀ e ∈ x :: es, noStar e = true) : ((backTo cpos (starEach (x :: es) env)).all (fun x => !x.1) && (backToKw cpos (keywordEach [] env)).all (fun x => x.1.isSome)
      && decide ((x :: es).length + ([] : List Keyword).length + (if ([] : List Keyword).isEmpty then 0 else 1) < 30)) = true := by
  have key : ∀ l : List Expr, (∀ e ∈ l, noStar e = true) → (backTo cpos (starEach l env)).all (fun x => !x.1) = true := by
    intro l
    induction l with
    | nil => intro _; rfl
    | cons e l ih =>
      intro h
      rw [star_cons (h e List.mem_cons_self)]
      exact ih fun u hu => h u (List.mem_cons_of_mem _ hu)
  rw [key _ hst, Bool.true_and]
  have : (backToKw cpos (keywordEach [] env)).all (fun x => x.1.isSome) = true := rfl
  rw [this, Bool.true_and]
  simp only [List.isEmpty_nil, if_true, List.length_nil, decide_eq_true_eq]
  omega
theorem mt_step {k : Mt} {as : List Ex} {σ : L2.St} {H : L2.Hp} {Q : L2.VK} {T : String} (h : upE G X.K Γ W (.mt k a as) σ H Q)
    (hty : ∀ (r : List Addr) (F H : L2.Hp) (m : Mem) (v : PV) (V : L2.V), RM X.K r F m H → RV X.K r F v V → mtOk k m v = true → L2.tyV X.K T V H) :
    upE G X.K Γ W a σ H fun V H1 => L2.tyV X.K T V H1 ∧ upEs G X.K Γ W as σ H1 fun vs H2 => rM G X.K tt0 (fun m => opMt m k) V vs H2 Q := by
  obtain ⟨r, F, η, m, R, re, h⟩ := h
  refine ⟨r, F, η, m, R, re, ?_⟩
  simp only [evE] at h
  refine (Post.step (rel1 := RV X.K) h).imp fun V H1 ⟨r1, F1, v, m1, x1, R1, hv, h1⟩ => ?_
  rcases post_ite h1 with ⟨q, h1⟩ | ⟨_, h1⟩
  · refine ⟨hty _ _ _ _ _ _ R1 hv q, r1, F1, η, m1, R1, re.mono x1.pre x1.sub, ?_⟩
    exact (Post.step (rel1 := RVs X.K) h1).imp fun U H2 ⟨r2, F2, u, m2, x2, R2, hu, h2⟩ => ⟨r2, F2, m2, v, u, R2, hv.mono x2.pre x2.sub, hu, h2.tt⟩
  · exact h1.elim
theorem tyL {k : Mt} (hk : k = .append ∨ k = .pop) (r : List Addr) (F H : L2.Hp) (m : Mem) (v : PV) (V : L2.V) (R : RM X.K r F m H) (hv : RV X.K r F v V) (h : mtOk k m v = true) : L2.tyV X.K "list" V H := by
  cases hv with
  | @loc l a q =>
    have h : (asL m (.loc l)).isSome = true := by rcases hk with rfl | rfl <;> exact h
    obtain ⟨xs, e⟩ := Option.isSome_iff_exists.mp h
    obtain ⟨a', vs, e1, e2, _⟩ := asL_sq R (.loc q) e
    cases e1
    exact .inl ⟨rfl, vs, e2⟩
  | _ => rcases hk with rfl | rfl <;> cases h
theorem tyS {k : Mt} (hk : k = .join ∨ k = .split) (r : List Addr) (F H : L2.Hp) (m : Mem) (v : PV) (V : L2.V) (R : RM X.K r F m H) (hv : RV X.K r F v V) (h : mtOk k m v = true) : L2.tyV X.K "str" V H := by
  cases hv with
  | str z => rfl
  | _ => rcases hk with rfl | rfl <;> cases h
theorem e_append {ap cp : Pos} {as : List Ex} (hb : noCall0 z = true) (hline : (ap.endLine == cp.line) = true) (hl : (x :: es).length < 29) (hst : ∀ e ∈ x :: es, noStar e = true) (ho : L2.PE X z (upE G X.K Γ W a)) (ha : L2.PA X (x :: es) (upEs G X.K Γ W as)) :
    L2.PE X (.Call (.Attribute z "append" ap) (x :: es) [] cp) (upE G X.K Γ W (.mt .append a as)) :=
  PE_imp (L2.pe_bm PySem.F.plainAttrs_list PySem.F.slot_list_append PySem.F.type_list_append (ok_append (G := G) (W := tt0)) ho ha (base_of hb) (few_args hl hst) hline (star_cons (hst x List.mem_cons_self)) (plain_args fun e he => hst e (List.mem_cons_of_mem _ he)))
    fun σ H Q h => mt_step h (tyL (.inl rfl))
theorem e_pop {ap cp : Pos} (hb : noCall0 z = true) (hline : (ap.endLine == cp.line) = true) (ho : L2.PE X z (upE G X.K Γ W a)) : L2.PE X (.Call (.Attribute z "pop" ap) [] [] cp) (upE G X.K Γ W (.mt .pop a [])) := by
  refine PE_imp (L2.pe_bm0 PySem.F.plainAttrs_list PySem.F.slot_list_pop PySem.F.type_list_pop (ok_pop (G := G) (W := tt0)) ho (base_of hb) hline) fun σ H Q h => ?_
  obtain ⟨r, F, η, m, R, re, h⟩ := h
  refine ⟨r, F, η, m, R, re, ?_⟩
  simp only [evE, evEs, Res.bind_ok] at h
  refine (Post.step (rel1 := RV X.K) h).imp fun V H1 ⟨r1, F1, v, m1, x1, R1, hv, h1⟩ => ?_
  rcases post_ite h1 with ⟨q, h1⟩ | ⟨_, h1⟩
  · exact ⟨tyL (.inr rfl) _ _ _ _ _ _ R1 hv q, r1, F1, m1, v, [], R1, hv, .nil, h1.tt⟩
  · exact h1.elim
theorem e_join {ap cp : Pos} {as : List Ex} (hb : noCall0 z = true) (hline : (ap.endLine == cp.line) = true) (hl : (x :: es).length < 29) (hst : ∀ e ∈ x :: es, noStar e = true) (ho : L2.PE X z (upE G X.K Γ W a)) (ha : L2.PA X (x :: es) (upEs G X.K Γ W as)) :
    L2.PE X (.Call (.Attribute z "join" ap) (x :: es) [] cp) (upE G X.K Γ W (.mt .join a as)) :=
  PE_imp (L2.pe_bm PySem.F.plainAttrs_str PySem.F.slot_str_join PySem.F.type_str_join (ok_join (G := G) (W := tt0)) ho ha (base_of hb) (few_args hl hst) hline (star_cons (hst x List.mem_cons_self)) (plain_args fun e he => hst e (List.mem_cons_of_mem _ he)))
    fun σ H Q h => mt_step h (tyS (.inl rfl))
theorem e_split {ap cp : Pos} {as : List Ex} (hb : noCall0 z = true) (hline : (ap.endLine == cp.line) = true) (hl : (x :: es).length < 29) (hst : ∀ e ∈ x :: es, noStar e = true) (ho : L2.PE X z (upE G X.K Γ W a)) (ha : L2.PA X (x :: es) (upEs G X.K Γ W as)) :
    L2.PE X (.Call (.Attribute z "split" ap) (x :: es) [] cp) (upE G X.K Γ W (.mt .split a as)) :=
  PE_imp (L2.pe_bm PySem.F.plainAttrs_str PySem.F.slot_str_split PySem.F.type_str_split (ok_split (G := G) (W := tt0)) ho ha (base_of hb) (few_args hl hst) hline (star_cons (hst x List.mem_cons_self)) (plain_args fun e he => hst e (List.mem_cons_of_mem _ he)))
    fun σ H Q h => mt_step h (tyS (.inr rfl))
theorem e_pl {l : LEx} (h : L2.PE X x (upL G X.K Γ W l)) : L2.PE X x (upE G X.K Γ W (.pl l)) := PE_imp h fun σ H Q ⟨r, F, η, m, R, re, q⟩ => ⟨r, F, η, m, R, re, PostL.pl (by simpa only [evE] using q)⟩
theorem e_ml {l : LEx} (h : L2.PE X x (upL G X.K Γ W l)) : L2.PE X x (upE G X.K Γ W (.ml l)) := PE_imp h fun σ H Q ⟨r, F, η, m, R, re, q⟩ => ⟨r, F, η, m, R, re, PostL.ml (by simpa only [evE] using q)⟩
theorem l_dsp {as : List Ex} (h : L2.PA X es (upEs G X.K Γ W as)) : L2.PE X (.List es pos) (upL G X.K Γ W (.dsp as)) := by
  refine PE_imp (L2.pe_lst h) fun σ H Q ⟨r, F, η, m, R, re, h⟩ => ⟨r, F, η, m, R, re, ?_⟩
  simp only [evL] at h
  refine (PostL.step (rel1 := RVs X.K) h).imp fun V H1 ⟨r1, F1, v, m1, x1, R1, hv, h1⟩ => ?_
  rcases pl_ite h1 with ⟨q, h1⟩ | ⟨_, h1⟩
  · exact ⟨by rw [← LINE_eq, ← hv.len]; exact q, fun p hp => h1.ok R1 hp hv⟩
  · exact h1.elim
theorem l_dsps {as : List Pt} (h : L2.PA X es (upPs G X.K Γ W as)) : L2.PE X (.List es pos) (upL G X.K Γ W (.dsps as)) := by
  refine PE_imp (L2.pe_lst h) fun σ H Q ⟨r, F, η, m, R, re, h⟩ => ⟨r, F, η, m, R, re, ?_⟩
  simp only [evL] at h
  refine (PostL.step (rel1 := RVs X.K) h).imp fun V H1 ⟨r1, F1, v, m1, x1, R1, hv, h1⟩ => ?_
  rcases pl_ite h1 with ⟨q, h1⟩ | ⟨_, h1⟩
  · exact ⟨by rw [← LINE_eq, ← hv.len]; exact q, fun p hp => h1.ok R1 hp hv⟩
  · exact h1.elim
theorem blt_boot : (bootBuiltins "list" = some (.type "list") ∧ ("list" : Str) ≠ "__name__" ∧ (("list" : Str) == ("__debug__" : Str)) = false) ∧ (bootBuiltins "sorted" = some (.builtin "sorted") ∧ ("sorted" : Str) ≠ "__name__" ∧ (("sorted" : Str) == ("__debug__" : Str)) = false) :=
  ⟨⟨by decide +kernel, by decide, by decide⟩, ⟨by decide +kernel, by decide, by decide⟩⟩
theorem a_one (hs : noStar x = true) (ha : L2.PE X x (upE G X.K Γ W a)) : L2.PA X [x] (upEs G X.K Γ W [a]) := a_cons hs ha a_nil
theorem l_lof (g : Good X c s n) (gf : GF G X c Γ n) (h2 : s.gl "list" = true) (hs : noStar x = true) (ha : L2.PE X x (upE G X.K Γ W a)) : L2.PE X (.Call (.Name "list" p2) [x] [] pos) (upL G X.K Γ W (.lof a)) := by
  obtain ⟨⟨b1, b2, b3⟩, _⟩ := blt_boot
  refine PE_imp (L2.pe_callTy L2.call_list_of (gl_of g h2) (gf.blt _ (by decide)) b1 (a_one hs ha) b2 b3 (star_cons hs) rfl) fun σ H Q ⟨r, F, η, m, R, re, h⟩ => ⟨r, F, η, m, R, re, ?_⟩
  simp only [evL] at h
  simp only [evEs, bind_assoc, Res.bind_ok]
  cases e : evE Γ a η m with
  | ok v m1 =>
    rw [e] at h
    intro r1 F1 H1 V x1 R1 hv
    cases hv with
    | cons hv t =>
      cases t
      have h := PostL.mono x1 R1 h
      simp only [Res.bind_ok, lofP] at h
      cases e2 : asS m1 v with
      | none => rw [e2] at h; exact h.elim
      | some ys =>
        rw [e2] at h
        obtain ⟨p, vs, rfl, q, t⟩ := asS_sq R1 hv e2
        exact ⟨p, vs, rfl, q, fun l hl => h.ok R1 hl t⟩
  | ex v m1 => rw [e] at h; exact h
  | no => rw [e] at h; exact h
theorem RVs.mapR {K : PySem.W.Frag} {r : List Addr} {F : L2.Hp} {α : Type} {f : α → PV} {h : α → L2.V} (e : ∀ x, RV K r F (f x) (h x)) : ∀ l : List α, RVs K r F (l.map f) (l.map h)
  | [] => .nil
  | x :: l => .cons (e x) (RVs.mapR e l)
theorem rg_ok {i j : Int} (h : (smallI i && smallI j && decide ((j - i).toNat ≤ LINE)) = true) : L2.RgOk i j := by
  simp only [Bool.and_eq_true, decide_eq_true_eq, smallI] at h
  obtain ⟨⟨⟨h1, h2⟩, h3, h4⟩, h5⟩ := h
  exact ⟨h1, h2, h3, h4, h5⟩
theorem rg_post {r : List Addr} {F H : L2.Hp} {m : Mem} {Q : L2.VK} {i j : Int} {W' : Value → Option Addr → L2.Hp → Prop} (R : RM X.K r F m H) (h : PostL G X.K r F H (lrgP m (.int i) (.int j)) Q W') : L2.RgOk i j ∧ ∀ q, H q = none → Q (.ref q) (L2.upd H q (.lst (L2.rgV i j))) := by
  rcases pl_ite (show PostL G X.K r F H (if (smallI i && smallI j && decide ((j - i).toNat ≤ LINE)) = true then .ok (rangeV i (j - i).toNat) m else .no) Q W' from h) with ⟨c, h⟩ | ⟨_, h⟩
  · exact ⟨rg_ok c, fun q hq => h.ok R hq (RVs.mapR (fun x => .int _) _)⟩
  · exact h.elim
theorem l_lrg1 {p3 p4 : Pos} (g : Good X c s n) (gf : GF G X c Γ n) (h2 : s.gl "list" = true) (h3 : s.gl "range" = true) (hs : noStar x = true) (ha : L2.PE X x (upE G X.K Γ W a)) : L2.PE X (.Call (.Name "list" p2) [.Call (.Name "range" p3) [x] [] p4] [] pos) (upL G X.K Γ W (.lrg1 a)) := by
  refine PE_imp (L2.pe_listRg g.calm (gl_of g h2) (gf.blt _ (by decide)) (L2.prg_1 (gl_of g h3) (gf.blt _ (by decide)) ha (star_cons hs)) (star_cons rfl)) fun σ H Q ⟨r, F, η, m, R, re, h⟩ => ⟨r, F, η, m, R, re, ?_⟩
  simp only [evL] at h
  refine (PostL.step (rel1 := RV X.K) h).imp fun V H1 ⟨r1, F1, v, m1, x1, R1, hv, h1⟩ => ?_
  cases hv with
  | int j => exact ⟨j, rfl, rg_post R1 h1⟩
  | _ => exact h1.elim
theorem l_lrg2 {p3 p4 : Pos} (g : Good X c s n) (gf : GF G X c Γ n) (h2 : s.gl "list" = true) (h3 : s.gl "range" = true) (hs : noStar x = true) (hs' : noStar y = true) (ha : L2.PE X x (upE G X.K Γ W a)) (hb : L2.PE X y (upE G X.K Γ W b)) : L2.PE X (.Call (.Name "list" p2) [.Call (.Name "range" p3) [x, y] [] p4] [] pos) (upL G X.K Γ W (.lrg2 a b)) := by
  refine PE_imp (L2.pe_listRg g.calm (gl_of g h2) (gf.blt _ (by decide)) (L2.prg_2 (gl_of g h3) (gf.blt _ (by decide)) ha hb (na := star_cons hs) (nb := star_cons hs') (hp := by rw [star_cons hs']; rfl)) (star_cons rfl)) fun σ H Q ⟨r, F, η, m, R, re, h⟩ => ⟨r, F, η, m, R, re, ?_⟩
  simp only [evL] at h
  refine (PostL.step (rel1 := RV X.K) h).imp fun V H1 ⟨r1, F1, v, m1, x1, R1, hv, h1⟩ => ⟨r1, F1, η, m1, R1, re.mono x1.pre x1.sub, ?_⟩
  refine (PostL.step (rel1 := RV X.K) h1).imp fun U H2 ⟨r2, F2, u, m2, x2, R2, hu, h2⟩ => ?_
  cases hv with
  | int i => cases hu with
    | int j => exact ⟨i, j, rfl, rfl, rg_post R2 h2⟩
    | _ => exact h2.elim
  | _ => exact h2.elim
theorem l_cat (ha : L2.PE X x (upE G X.K Γ W a)) (hb : L2.PE X y (upE G X.K Γ W b)) : L2.PE X (.BinOp x .Add y pos) (upL G X.K Γ W (.cat a b)) := by
  refine PE_imp (L2.pe_op PxEx.op_catR ha hb) fun σ H Q ⟨r, F, η, m, R, re, h⟩ => ⟨r, F, η, m, R, re, ?_⟩
  simp only [evL] at h
  refine (PostL.step (rel1 := RV X.K) h).imp fun V H1 ⟨r1, F1, v, m1, x1, R1, hv, h1⟩ => ⟨r1, F1, η, m1, R1, re.mono x1.pre x1.sub, ?_⟩
  refine (PostL.step (rel1 := RV X.K) h1).imp fun U H2 ⟨r2, F2, u, m2, x2, R2, hu, h2⟩ => ?_
  simp only [catP] at h2
  cases e1 : asL m2 v with
  | none => rw [e1] at h2; exact h2.elim
  | some xs =>
    cases e2 : asL m2 u with
    | none => rw [e1, e2] at h2; exact h2.elim
    | some ys =>
      rw [e1, e2] at h2
      obtain ⟨p, vs, rfl, q, t⟩ := asL_rd R2 (hv.mono x2.pre x2.sub) e1
      obtain ⟨p', ws, rfl, q', t'⟩ := asL_rd R2 hu e2
      rcases pl_ite h2 with ⟨c, h2⟩ | ⟨_, h2⟩
      · refine ⟨p, p', vs, ws, rfl, rfl, q, q', ?_, fun l hl => h2.ok R2 hl (t.append t')⟩
        rw [← LINE_eq, ← t.len, ← t'.len, ← List.length_append]; exact c
      · exact h2.elim
theorem l_rep (ha : L2.PE X x (upE G X.K Γ W a)) (hb : L2.PE X y (upE G X.K Γ W b)) : L2.PE X (.BinOp x .Mult y pos) (upL G X.K Γ W (.rep a b)) := by
  refine PE_imp (L2.pe_op PxEx.op_repR ha hb) fun σ H Q ⟨r, F, η, m, R, re, h⟩ => ⟨r, F, η, m, R, re, ?_⟩
  simp only [evL] at h
  refine (PostL.step (rel1 := RV X.K) h).imp fun V H1 ⟨r1, F1, v, m1, x1, R1, hv, h1⟩ => ⟨r1, F1, η, m1, R1, re.mono x1.pre x1.sub, ?_⟩
  refine (PostL.step (rel1 := RV X.K) h1).imp fun U H2 ⟨r2, F2, u, m2, x2, R2, hu, h2⟩ => ?_
  simp only [repP] at h2
  cases e1 : asL m2 v with
  | none => rw [e1] at h2; exact h2.elim
  | some xs =>
    rw [e1] at h2
    cases hu with
    | int k =>
      obtain ⟨p, vs, rfl, q, t⟩ := asL_rd R2 (hv.mono x2.pre x2.sub) e1
      rcases pl_ite h2 with ⟨⟨c1, c2⟩, h2⟩ | ⟨_, h2⟩
      · simp only [smallI, Bool.and_eq_true, decide_eq_true_eq] at c2
        exact ⟨p, k, vs, rfl, rfl, q, by omega, by omega, by rw [← LINE_eq, ← t.len]; exact c1, fun l hl => h2.ok R2 hl (t.rep _)⟩
      · exact h2.elim
    | _ => exact h2.elim
theorem l_rvs {k : Nat} {p3 p4 p5 : Pos} (ha : L2.PE X x (upE G X.K Γ W a)) : L2.PE X (.Subscript x (.Slice none none (some (.UnaryOp .USub (.Constant (.int 1) k p3) p4)) p5) pos) (upL G X.K Γ W (.rvs a)) := by
  refine PE_imp (L2.pe_revL ha) fun σ H Q ⟨r, F, η, m, R, re, h⟩ => ⟨r, F, η, m, R, re, ?_⟩
  simp only [evL] at h
  refine (PostL.step (rel1 := RV X.K) h).imp fun V H1 ⟨r1, F1, v, m1, x1, R1, hv, h1⟩ => ?_
  simp only [rvsP] at h1
  cases e1 : asL m1 v with
  | none => rw [e1] at h1; exact h1.elim
  | some xs =>
    rw [e1] at h1
    obtain ⟨p, vs, rfl, q, t⟩ := asL_sq R1 hv e1
    exact ⟨p, vs, rfl, q, fun l hl => h1.ok R1 hl t.reverse⟩
theorem l_slc {l h' : Option Ex} {lo hi : Option Expr} (ha : L2.PE X x (upE G X.K Γ W a)) (hl : L2.PO X lo (upO G X.K Γ W l)) (hh : L2.PO X hi (upO G X.K Γ W h')) : L2.PE X (.Subscript x (.Slice lo hi none p2) pos) (upL G X.K Γ W (.slc a l h')) := by
  refine PE_imp (L2.pe_slice L2.sl_list ha hl hh) fun σ H Q ⟨r, F, η, m, R, re, h⟩ => ⟨r, F, η, m, R, re, ?_⟩
  simp only [evL] at h
  refine (PostL.step (rel1 := RV X.K) h).imp fun V H1 ⟨r1, F1, v, m1, x1, R1, hv, h1⟩ => ⟨r1, F1, η, m1, R1, re.mono x1.pre x1.sub, ?_⟩
  refine (PostL.step (rel1 := RelI (α := Option Int)) h1).imp fun U H2 ⟨r2, F2, u, m2, x2, R2, hu, h2⟩ => ⟨r2, F2, η, m2, R2, (re.mono x1.pre x1.sub).mono x2.pre x2.sub, ?_⟩
  refine (PostL.step (rel1 := RelI (α := Option Int)) h2).imp fun U3 H3 ⟨r3, F3, u3, m3, x3, R3, hu3, h3⟩ => ?_
  obtain rfl : u = U := hu
  obtain rfl : u3 = U3 := hu3
  simp only [cutL] at h3
  cases e1 : asL m3 v with
  | none => rw [e1] at h3; exact h3.elim
  | some xs =>
    rw [e1] at h3
    obtain ⟨p, vs, rfl, q, t⟩ := asL_sq R3 ((hv.mono x2.pre x2.sub).mono x3.pre x3.sub) e1
    exact ⟨p, vs, rfl, q, fun l hl => h3.ok R3 hl (cut_rel t _ _)⟩
theorem sort_uniq {ns ms : List Int} (h1 : ms.Perm ns) (h2 : ms.Pairwise (· ≤ ·)) : ms = ns.mergeSort (fun a b => decide (a ≤ b)) := by
  have p := List.mergeSort_perm ns (fun a b => decide (a ≤ b))
  have s := List.pairwise_mergeSort (le := fun a b : Int => decide (a ≤ b)) (fun a b c h h' => by simp only [decide_eq_true_eq] at *; omega) (fun a b => by simp only [Bool.or_eq_true, decide_eq_true_eq]; omega) ns
  refine List.Perm.eq_of_pairwise (le := (· ≤ ·)) (fun a b _ _ h h' => Int.le_antisymm h h') h2 (s.imp fun h => by simpa using h) (h1.trans p.symm)
theorem l_srt (g : Good X c s n) (gf : GF G X c Γ n) (h2 : s.gl "sorted" = true) (hs : noStar x = true) (ha : L2.PE X x (upE G X.K Γ W a)) : L2.PE X (.Call (.Name "sorted" p2) [x] [] pos) (upL G X.K Γ W (.srt a)) := by
  obtain ⟨_, ⟨b1, b2, b3⟩⟩ := blt_boot
  refine PE_imp (L2.pe_callB L2.cr_sortedI (gl_of g h2) (gf.blt _ (by decide)) b1 (a_one hs ha) b2 b3 (star_cons hs) rfl) fun σ H Q ⟨r, F, η, m, R, re, h⟩ => ⟨r, F, η, m, R, re, ?_⟩
  simp only [evL] at h
  simp only [evEs, bind_assoc, Res.bind_ok]
  cases e : evE Γ a η m with
  | ok v m1 =>
    rw [e] at h
    intro r1 F1 H1 V x1 R1 hv
    cases hv with
    | cons hv t =>
      cases t
      have h := PostL.mono x1 R1 h
      simp only [Res.bind_ok, srtP] at h
      cases e2 : (asL m1 v).bind asInts with
      | none => rw [e2] at h; exact h.elim
      | some ns =>
        rw [e2] at h
        simp only [Option.bind_eq_some_iff] at e2
        obtain ⟨ys, e3, e4⟩ := e2
        obtain ⟨p, vs, rfl, q, t⟩ := asL_sq R1 hv e3
        rw [asInts_eq e4] at t
        rw [t.ints] at q
        refine ⟨p, ns, rfl, q, fun ms l k1 k2 hl => ?_⟩
        rw [sort_uniq k1 k2]
        exact h.ok R1 hl (RVs.ofInts _ _ _ _)
  | ex v m1 => rw [e] at h; exact h
  | no => rw [e] at h; exact h
end
end Px
set_option Elab.async false
set_option linter.all false
set_option maxRecDepth 100000
set_option maxHeartbeats 2000000
namespace PxZip
open PySem PySem.Spec PyProof.Rows L2
def SqB (K : PySem.W.Frag) (H : Hp) (t : Bool) (a : Addr) (xs : List V) : Prop := if t = true then SqT K H a xs else SqL K H a xs
def stB (t : Bool) (it a : Addr) (i : Nat) (h : Heap) : Prop := if t = true then h.IsTupleIter it a i else h.IsListIter it a i
def srB (t : Bool) (a : Addr) (its : List Value) (h : Heap) : Prop := if t = true then h.IsTuple a its.toArray else h.IsList a its.toArray
theorem stB_at {t : Bool} {it a : Addr} {i : Nat} {h h' : Heap} (x : stB t it a i h) (k : ∀ o, h.get? it = some o → h'.get? it = some o) : stB t it a i h' := by
  cases t with
  | true => exact (show h.IsTupleIter it a i from x).at k
  | false => exact (show h.IsListIter it a i from x).at k
theorem stB_obj {t : Bool} {it a : Addr} {i : Nat} {h : Heap} (x : stB t it a i h) : ∃ o, h.get? it = some o ∧ ∀ v, o.data ≠ .cell v := by
  cases t with
  | true => obtain ⟨o, e, _, d⟩ := (show h.IsTupleIter it a i from x); exact ⟨o, e, fun v q => by rw [d] at q; cases q⟩
  | false => obtain ⟨o, e, _, d⟩ := (show h.IsListIter it a i from x); exact ⟨o, e, fun v q => by rw [d] at q; cases q⟩
section
variable {X : Cx} {pins : List (Addr × Obj)} {σ : L2.St} {H : Hp} {s : Shared}
theorem drw (hc : X.calm = true) (I : Inv X pins σ H s) {t : Bool} {a : Addr} {xs : List V} (hq : SqB X.K H t a xs) : ∃ its : List Value, Vals xs its ∧ a < s.heap.objs.size ∧ srB t a its s.heap ∧
    ∀ it, a ≠ it → Draws X.prog X.w X.A.in1 it [it, a] its.length (fun i v => its[i]? = some v) (fun i h => stB t it a i h ∧ srB t a its h) := by
  cases t with
  | true =>
    obtain ⟨its, rv, p, _⟩ := I.tuple (show SqT X.K H a xs from hq)
    obtain ⟨o, ho, _⟩ := id p
    refine ⟨its, rv, Heap.lt_size ho, p, fun it hne => ?_⟩
    have D := Draws.tuple (prog := X.prog) (w := X.w) (A := X.A.in1) (I.ok.hd hc) it a hne its.toArray
    simpa [stB, srB] using D
  | false =>
    obtain ⟨its, rv, p, _⟩ := I.list (show SqL X.K H a xs from hq)
    have p' := p.isList
    refine ⟨its, rv, p.lt, p', fun it hne => ?_⟩
    have D := Draws.list (prog := X.prog) (w := X.w) (A := X.A.in1) (I.ok.hd hc) it a hne its.toArray
    simpa [stB, srB] using D
theorem sqB_inj (I : Inv X pins σ H s) {t : Bool} {a : Addr} {xs ys : List V} (h : SqB X.K H t a xs) (h' : SqB X.K H t a ys) : xs = ys := by
  cases t with
  | true => exact I.tuple_inj h h'
  | false => exact I.list_inj h h'
end
def ItzX (K : PySem.W.Frag) (ta tb : Bool) (a b : Addr) : It :=
  ⟨fun i H => ∃ (xs ys : List V) (x y : V), SqB K H ta a xs ∧ SqB K H tb b ys ∧ xs[i]? = some x ∧ ys[i]? = some y,
    fun i H v H' => ∃ T x y, v = .ref T ∧ H T = none ∧ H' = upd H T (.tup [x, y]) ∧ (∀ xs, SqB K H ta a xs → xs[i]? = some x) ∧ ∀ ys, SqB K H tb b ys → ys[i]? = some y,
    fun i H => ∃ xs ys : List V, SqB K H ta a xs ∧ SqB K H tb b ys ∧ i ≤ xs.length ∧ i ≤ ys.length ∧ (xs.length = i ∨ ys.length = i)⟩
theorem turn_zipX {P : Program} {w : World} {K : PySem.W.Frag} {elts : List Expr} {kk : Nat} {tpos : Pos} {ta tb : Bool} {a b z TI TO i1 i2 : Addr} (D : ZipApart z TI TO i1 i2 a b) :
    Turn P w K (.Tuple elts kk tpos) (ItzX K ta tb a b) [z, TI, TO, i1, i2] z (fun i h => IsZip h z TI TO .none ∧ IsTupOf2 h TI (.ref i1) (.ref i2) ∧ (∃ x y, IsTupOf2 h TO x y) ∧ stB ta i1 a i h ∧ stB tb i2 b i h) where
  mem := by simp
  obj := fun i h st c hc => by
    obtain ⟨hz, hTI, ⟨x, y, hTO⟩, h1, h2⟩ := st
    have e' : c = z ∨ c = TI ∨ c = TO ∨ c = i1 ∨ c = i2 := by simpa using hc
    rcases e' with q | q | q | q | q
    · rw [q]; exact ⟨_, hz, fun v q => nomatch q⟩
    · rw [q]; exact ⟨_, hTI, fun v q => nomatch q⟩
    · rw [q]; exact ⟨_, hTO, fun v q => nomatch q⟩
    · rw [q]; exact stB_obj h1
    · rw [q]; exact stB_obj h2
  keep := fun i h h' st k => by
    obtain ⟨hz, hTI, ⟨x, y, hTO⟩, h1, h2⟩ := st
    exact ⟨k z (by simp) _ hz, k TI (by simp) _ hTI, ⟨x, y, k TO (by simp) _ hTO⟩, stB_at h1 fun o q => k i1 (by simp) o q, stB_at h2 fun o q => k i2 (by simp) o q⟩
  item := by
    intro X hP hw hK hc i pins s σ H E I hf st hg
    subst hP hw hK
    obtain ⟨hz, hTI, ⟨x0, y0, hTO⟩, h1, h2⟩ := st
    obtain ⟨xs, ys, x, y, hqx, hqy, hx, hy⟩ := hg
    obtain ⟨its, rv, la, p, D1⟩ := drw hc I hqx
    obtain ⟨its2, rv2, lb, p2, D2⟩ := drw hc I hqy
    obtain ⟨u, hu, ru⟩ := rv.get hx
    obtain ⟨u2, hu2, ru2⟩ := rv2.get hy
    have hzl : z < s.heap.objs.size := Heap.lt_size hz
    have S : ZipSep2 z TI TO i1 i2 [i1, a] [i2, b] := ⟨D.TIz, D.TOz, D.TITO, D.TIi1, by simp, by simp [D.i1z.symm, D.l1z.symm], by simp [D.TOi1, D.l1TO.symm], D.TIi2, by simp, by simp [D.i2z.symm, D.l2z.symm], by simp [D.TOi2, D.l2TO.symm], by simp [D.i12, D.l2i1.symm], by simp [D.i12.symm, D.l1i2.symm]⟩
    have hi1 : i < its.length := (List.getElem?_eq_some_iff.mp hu).1
    have hi2 : i < its2.length := (List.getElem?_eq_some_iff.mp hu2).1
    refine wpAny_pyNext_zipD2_item S (D1 i1 D.l1i1) (D2 i2 D.l2i2) hz hTI hTO ⟨h1, p⟩ ⟨h2, p2⟩ hi1 hi2 fun x1 x2 h' tk y1 y2 z' TO' h1' h2' hT hsz hk => ?_
    have e1 : x1 = u := by rw [hu] at y1; exact (Option.some.inj y1).symm
    have e2 : x2 = u2 := by rw [hu2] at y2; exact (Option.some.inj y2).symm
    subst e1 e2
    refine ⟨_, rfl, wpAny_letOwnedTupleGo_zip (s := { s with heap := h', toks := tk }) z' fun h'' z'' sb => ?_⟩
    have hT2 : h''.get? s.heap.objs.size = some { cls := .type "tuple", data := .seq #[x1, x2] } := (sb.2 _ (Nat.ne_of_gt hzl)).trans hT
    have new : ObjOk X.prog X.w (upd H s.heap.objs.size (.tup [x, y])) h'' s.heap.objs.size (.tup [x, y]) :=
      ⟨by show 2 ≤ sizeLine; decide, [x1, x2], .cons ru (.cons ru2 .nil), ⟨_, hT2, rfl, _, rfl⟩⟩
    have I1 : Inv X pins σ (upd H s.heap.objs.size (.tup [x, y])) { s with heap := h'', toks := tk } :=
      I.turnedNew (t' := tk) (ch := [z, TI, TO, i1, i2]) (fun c o hb q => (sb.2 c (fun q' => hb (by simp [q']))).trans (hk c o (fun q' => hb (by simp [q'])) (fun q' => hb (by simp [q'])) (fun q' => hb (by simp [q'])) (fun q' => hb (by simp [q'])) q)) hf (Nat.le_refl _) new
    refine ⟨.ref s.heap.objs.size, _, I1, rfl, ⟨_, x, y, rfl, I.hok.fresh (Nat.le_refl _), rfl, fun l hl => by rw [sqB_inj I hl hqx]; exact hx, fun l hl => by rw [sqB_inj I hl hqy]; exact hy⟩, ⟨z'', ?_, ⟨x1, x2, ?_⟩, ?_, ?_⟩, fun c hcm => ?_⟩
    · exact (sb.2 _ D.TIz).trans (hk _ _ D.TIz D.TITO D.TIi1 D.TIi2 hTI)
    · exact (sb.2 _ D.TOz).trans TO'
    · exact stB_at h1'.1 fun o q => (sb.2 _ D.i1z).trans q
    · exact stB_at h2'.1 fun o q => (sb.2 _ D.i2z).trans q
    · have hlt : c < s.heap.objs.size := by
        have e' : c = z ∨ c = TI ∨ c = TO ∨ c = i1 ∨ c = i2 := by simpa using hcm
        rcases e' with q | q | q | q | q
        · rw [q]; exact hzl
        · rw [q]; exact Heap.lt_size hTI
        · rw [q]; exact Heap.lt_size hTO
        · rw [q]; obtain ⟨_, e1, _⟩ := stB_obj h1; exact Heap.lt_size e1
        · rw [q]; obtain ⟨_, e2, _⟩ := stB_obj h2; exact Heap.lt_size e2
      rw [upd_ne (Nat.ne_of_lt hlt)]
      exact (hf c hcm).1
  done := by
    intro X hP hw hK hc i pins s σ H E I hf st hg
    subst hP hw hK
    obtain ⟨hz, hTI, ⟨x0, y0, hTO⟩, h1, h2⟩ := st
    obtain ⟨xs, ys, hqx, hqy, le1, le2, hend⟩ := hg
    obtain ⟨its, rv, la, p, D1⟩ := drw hc I hqx
    obtain ⟨its2, rv2, lb, p2, D2⟩ := drw hc I hqy
    have l1 := rv.length
    have l2 := rv2.length
    have S : ZipSep2 z TI TO i1 i2 [i1, a] [i2, b] := ⟨D.TIz, D.TOz, D.TITO, D.TIi1, by simp, by simp [D.i1z.symm, D.l1z.symm], by simp [D.TOi1, D.l1TO.symm], D.TIi2, by simp, by simp [D.i2z.symm, D.l2z.symm], by simp [D.TOi2, D.l2TO.symm], by simp [D.i12, D.l2i1.symm], by simp [D.i12.symm, D.l1i2.symm]⟩
    refine wpAny_pyNext_zipD2_end S (D1 i1 D.l1i1) (D2 i2 D.l2i2) hz hTI hTO ⟨h1, p⟩ ⟨h2, p2⟩ (by omega) (by omega) (by omega) fun h' tk hk => ⟨rfl, I.turnedL (t' := tk) (ch := [z, TI, TO, i1, i2]) (fun c o hb q =>
      hk c o (fun q' => hb (by simp [q'])) (fun q' => hb (by simp [q'])) (fun q' => hb (by simp [q'])) (fun q' => hb (by simp [q'])) q) hf⟩
  self := fun A i s Q E st h => wpAny_pyIter_zip st.1 h
def iZipX (K : PySem.W.Frag) (tx : TA) : TI := fun σ H R => tx σ H fun vs H1 => ∃ a b xs ys ta tb, vs = [.ref a, .ref b] ∧ SqB K H1 ta a xs ∧ SqB K H1 tb b ys ∧ R (ItzX K ta tb a b) H1
def begB (t : Bool) (a : Addr) : Obj := if t = true then { cls := .type "tuple_iterator", data := .fields #[.ref a, .int 0 0] } else { cls := .type "list_iterator", data := .fields #[.ref a, .int 0 0] }
theorem begins_B (t : Bool) (a : Addr) (its : List Value) : Begins (.ref a) (begB t a) fun h => srB t a its h := by
  cases t with
  | true => exact begins_tuple a its.toArray
  | false => exact begins_list a its.toArray
theorem stB_0 {t : Bool} {it a : Addr} {h : Heap} (e : h.get? it = some (begB t a)) : stB t it a 0 h := by
  cases t with
  | true => exact ⟨_, e, rfl, rfl⟩
  | false => exact ⟨_, e, rfl, rfl⟩
theorem pi_zipX {X : Cx} {e e2 : Expr} {ta : TA} {p pos tpos : Pos} {elts : List Expr} {kk : Nat} (hc : X.calm = true) (hg : Gl X "zip") (hm : X.mg "zip" = none) (ha : PA X [e, e2] ta)
    (hs : starEach [e, e2] X.env = (false, eval e X.env) :: starEach [e2] X.env := by rfl) (hpl : (backTo pos (starEach [e2] X.env)).any (·.1) = false := by rfl) :
    PI X (.Tuple elts kk tpos) (.Call (.Name "zip" p) [e, e2] [] pos) (iZipX X.K ta) := by
  refine ⟨fun pins s σ H R I h => ?_⟩
  refine Call_ (ld_blt I hg hm PyProof.Rows.boot_zip (PyProof.Rows.callWith_type1 (thn (ha.run pos pins s σ H _ I h) fun us s1 ⟨vs, H1, I1, r1, q1⟩ => ?_) hs hpl))
  obtain ⟨a, b, xs, ys, t1, t2, ex, hqx, hqy, q⟩ := q1
  subst ex
  cases r1 with
  | cons r rr =>
    cases rr with
    | cons r' rr =>
      cases rr
      cases r
      cases r'
      have fresh5 : ∀ c, c ∈ [s1.heap.objs.size + 4, s1.heap.objs.size + 2, s1.heap.objs.size + 3, s1.heap.objs.size, s1.heap.objs.size + 1] → FpOk X pins H1 c := fun c hcm => by
        have e' : c = s1.heap.objs.size + 4 ∨ c = s1.heap.objs.size + 2 ∨ c = s1.heap.objs.size + 3 ∨ c = s1.heap.objs.size ∨ c = s1.heap.objs.size + 1 := by simpa using hcm
        have hle : s1.heap.objs.size ≤ c := by
          rcases e' with z | z | z | z | z
          · rw [z]; exact Nat.le_add_right _ _
          · rw [z]; exact Nat.le_add_right _ _
          · rw [z]; exact Nat.le_add_right _ _
          · rw [z]; exact Nat.le_refl _
          · rw [z]; exact Nat.le_add_right _ _
        exact I1.fpOk hle (I1.hok.fresh hle)
      obtain ⟨its, rv, la, p1, _⟩ := drw hc I1 hqx
      obtain ⟨its2, rv2, lb, p2, _⟩ := drw hc I1 hqy
      refine zip_begins2 (begins_B t1 a its) (begins_B t2 b its2) p1 p2 fun h' hz hTI hTO g1 g2 hsz hk => wpAny_pyIter_zip hz ?_
      have I2 : Inv X pins σ H1 { s1 with heap := h' } := I1.kept (t' := s1.toks) hk
      exact ⟨s1.heap.objs.size + 4, [s1.heap.objs.size + 4, s1.heap.objs.size + 2, s1.heap.objs.size + 3, s1.heap.objs.size, s1.heap.objs.size + 1], _, _, H1, rfl, I2, turn_zipX (PySem.W.ktu_apart s1.heap.objs.size a b la lb), ⟨hz, hTI, ⟨_, _, hTO⟩, stB_0 g1, stB_0 g2⟩, fresh5, q⟩
end PxZip
set_option Elab.async false
set_option linter.all false
set_option maxRecDepth 100000
set_option maxHeartbeats 4000000
namespace PxRv
open PySem PySem.Spec PyProof.Rows L2 HT
theorem rev_pick (xs : Array Value) : ((List.range xs.size).filterMap fun (k : Nat) => xs[(((xs.size : Int) - 1) + (k : Int) * (-1)).toNat]?).toArray = xs.toList.reverse.toArray := by
  have e : ∀ n, n = xs.size → (List.range n).filterMap (fun (k : Nat) => xs[(((n : Int) - 1) + (k : Int) * (-1)).toNat]?) = xs.toList.reverse := by
    intro n hn
    have h1 : (List.range n).filterMap (fun (k : Nat) => xs[(((n : Int) - 1) + (k : Int) * (-1)).toNat]?) = (List.range n).filterMap (fun (k : Nat) => xs[n - 1 - k]?) := by
      congr 1
      funext k
      rw [show (((n : Int) - 1) + (k : Int) * (-1)).toNat = n - 1 - k from by omega]
    have h2 : (List.range n).filterMap (fun (k : Nat) => xs[n - 1 - k]?) = ((List.range n).map fun k => n - 1 - k).filterMap (xs[·]?) := by rw [List.filterMap_map]; rfl
    rw [h1, h2, PySem.W.krv_range, List.filterMap_reverse]
    subst hn
    rw [PySem.W.krv_all]
  rw [e _ rfl]
section
variable {prog : Program} {w : World} {A : Around} {E : Value → Shared → Prop} {s : Shared}
theorem sliceApplied_rev {sl : Addr} {vl vu vs : Value} {n : Nat} {Q : Int × Int × Nat → Shared → Prop} (hs : s.heap.IsSliceOf sl vl vu vs) (pl : IsPart vl none) (pu : IsPart vu none) (ps : IsPart vs (some (-1)))
    (h : Q ((n : Int) - 1, -1, n) s) : wpAny (model prog w) A (Builtin.Slice.sliceApplied (.ref sl) (pure (n : Int))) Q E s := by
  obtain ⟨os, hos, hcs, hds⟩ := id hs
  unfold Builtin.Slice.sliceApplied Builtin.Slice.sliceFields
  refine wpAny_bind (wpAny_bind (wpAny_field hos hds (x := vl) rfl (wpAny_bind (wpAny_field hos hds (x := vu) rfl (wpAny_bind (wpAny_field hos hds (x := vs) rfl (wpAny_pure ?_)))))))
  refine wpAny_bind (slicePart_ ps ?_)
  show wpAny _ _ (if ((-1 : Int) == 0) = true then _ else _) _ _ s
  rw [if_neg (by decide)]
  refine wpAny_bind (slicePart_ pl (wpAny_bind (slicePart_ pu (wpAny_bind (wpAny_pure ?_)))))
  have e1 : Builtin.Slice.sliceAdjust none none (-1) (n : Int) = ((n : Int) - 1, -1) := rfl
  show wpAny _ _ (match Builtin.Slice.sliceAdjust none none (-1) (n : Int) with | (lo, hi) => pure (lo, (-1 : Int), Builtin.Slice.slicePlaces lo hi (-1))) _ _ s
  rw [e1]
  have e2 : Builtin.Slice.slicePlaces ((n : Int) - 1) (-1) (-1) = n := by
    unfold Builtin.Slice.slicePlaces
    have h1 : ¬ ((-1 : Int) > 0) := by decide
    simp only [h1, if_false]
    rw [show (- -1 : Int) = 1 from rfl, Int.ediv_one]
    split <;> omega
  show wpAny _ _ (pure ((n : Int) - 1, (-1 : Int), Builtin.Slice.slicePlaces ((n : Int) - 1) (-1) (-1))) _ _ s
  rw [e2]
  exact wpAny_pure h
theorem getItem_tuple_rev {t sl : Addr} {items : Array Value} {vl vu vs : Value} {Q : Value → Shared → Prop} (ht : IsTup s.heap t items) (hs : s.heap.IsSliceOf sl vl vu vs) (pl : IsPart vl none) (pu : IsPart vu none) (ps : IsPart vs (some (-1)))
    (h : Q (.ref s.heap.objs.size) { s with heap := s.heap.push { cls := .type "tuple", data := .seq items.toList.reverse.toArray } })
    (hsz : items.size ≤ sizeLine) : wpAny (model prog w) A (getItem (.ref t) (.ref sl)) Q E s := by
  have htake : sizeOk (.seq items.toList.reverse.toArray) := by
    show items.toList.reverse.toArray.size ≤ sizeLine
    rw [List.size_toArray, List.length_reverse, Array.length_toList]
    exact hsz
  obtain ⟨os, hos, hcs, hds⟩ := id hs
  have hTs : s.TypeIs (.ref sl) "slice" := ⟨os, hos, hcs⟩
  unfold getItem
  try with_reducible refine wpAny_holding ?_
  first | refine wpAny_bind (wpAny_pure ?_) | skip
  refine wpAny_bind (wpAny_sequenceKey ht.typeIs (by decide) ?_)
  refine wpAny_bind (wpAny_callSpecial?_slot (name := Str.ofString "__getitem__") ht.typeIs PyProof.Rows.slot_tuple_getitem
    (wpAny_call_entry PyProof.Rows.slot_tuple_getitem ht.typeIs entry_tuple_getitem ?_ (args_tuple_getitem _ _)))
  show wpAny _ _ (Builtin.Tuple.tupleItemsOf (.ref t) >>= _) _ _ s
  refine wpAny_bind (tupleItemsOf_ ht ?_)
  refine wpAny_bind (wpAny_typeOf hTs ?_)
  rw [if_pos (by decide)]
  refine wpAny_bind (sliceApplied_rev hs pl pu ps ?_)
  have hno : ¬ ((((items.size : Int) - 1) == 0 && (-1 : Int) == 1 && items.size == items.size) = true) := by
    have : ((-1 : Int) == 1) = false := by decide
    rw [this]; simp
  show wpAny _ _ (if (((items.size : Int) - 1) == 0 && (-1 : Int) == 1 && items.size == items.size) = true then _ else _) _ _ s
  rw [if_neg hno, rev_pick]
  first
    | exact wpAny_bind (m := Builtin.Tuple.tupleExact _) (wpAny_newObj_type (wpAny_pure ⟨_, rfl, wpAny_pure h⟩) htake)
    | exact wpAny_bind (m := Builtin.Tuple.tupleExact _) (wpAny_newObj_type (wpAny_bind (wpAny_pure (wpAny_pure ⟨_, rfl, wpAny_pure h⟩))) htake)
    | exact wpAny_bind (wpAny_bind (m := Builtin.Tuple.tupleExact _) (wpAny_newObj_type (wpAny_pure (wpAny_pure ⟨_, rfl, wpAny_pure h⟩)) htake))
    | exact wpAny_bind (wpAny_bind (m := Builtin.Tuple.tupleExact _) (wpAny_newObj_type (wpAny_pure ⟨_, rfl, wpAny_pure h⟩) htake))
end
def tRevB (K : PySem.W.Frag) (te : TE) : TE := fun σ H Q => te σ H fun x H1 => ∃ (t : Bool) (a : Addr) (xs : List V), x = .ref a ∧ PxZip.SqB K H1 t a xs ∧ ∀ p, H1 p = none → Q (.ref p) (upd H1 p (if t = true then .tup xs.reverse else .lst xs.reverse))
theorem pe_revB {X : Cx} {e : Expr} {te : TE} {k : Nat} {p1 p2 p3 pos : Pos} (he : PE X e te) : PE X (.Subscript e (.Slice none none (some (.UnaryOp .USub (.Constant (.int 1) k p1) p2)) p3) pos) (tRevB X.K te) := by
  refine ⟨fun pins s σ H Q I h => ?_⟩
  refine Subscript_ (thn (he.run pins s σ H _ I h) fun v s1 ⟨x, H1, I1, r1, q1⟩ => ?_)
  obtain ⟨tb, a, xs, ex, hx, q⟩ := q1
  subst ex
  cases r1
  have hst : PO X (some (.UnaryOp .USub (.Constant (.int 1) k p1) p2)) (tPart (tUn (rU fun i => .int (-i)) (tC (.int 1)))) := po_some (pe_un un_neg pe_int)
  refine wpAny_Slice (thn (po_none.run pins s1 σ H1 (fun o H2 => o = none ∧ H2 = H1) I1 ⟨rfl, rfl⟩) fun vl s2 ⟨l, H2, I2, pl, el, e2⟩ => ?_)
  subst el e2
  refine thn (po_none.run pins s2 σ H2 (fun o H3 => o = none ∧ H3 = H2) I2 ⟨rfl, rfl⟩) fun vu s3 ⟨u, H3, I3, pu, eu, e3⟩ => ?_
  subst eu e3
  refine thn (hst.run pins s3 σ H3 (fun o H4 => o = some (-1) ∧ H4 = H3) I3 ⟨1, rfl, -1, rfl, rfl, rfl⟩) fun vs s4 ⟨o, H4, I4, ps, eo, e4⟩ => ?_
  subst eo e4
  have I5 : Inv X pins σ H4 { s4 with heap := s4.heap.push { cls := .type "slice", data := .fields #[vl, vu, vs] } } := I4.kept (t' := s4.toks) fun b ob q => Heap.get?_push_of_some _ q
  show wpAny (model X.prog X.w) X.A (subscriptTail e (.Slice none none (some (.UnaryOp .USub (.Constant (.int 1) k p1) p2)) p3) (.ref a) (.ref s4.heap.objs.size)) (EP X pins σ Q) X.xe { s4 with heap := s4.heap.push { cls := .type "slice", data := .fields #[vl, vu, vs] } }
  cases tb with
  | false =>
    obtain ⟨its, r, ht, hz⟩ := I5.list (show SqL X.K H4 a xs from hx)
    have hlen := r.length
    refine tail_any (ops := [.ref a, .ref s4.heap.objs.size]) ht.isList.typeIs (PySem.slot_list_getitem.lookup) ?_ (by with_unfolding_all rfl)
    refine wpAny_getItem_list_slice ht.isList (Heap.IsSliceOf.new _ vl vu vs) pl pu ps (by decide) ?_ (by rw [List.size_toArray]; omega)
    rw [PySem.W.krv_pick]
    refine ⟨.ref _, _, I5.laid (t' := s4.toks) (o := .lst xs.reverse) (fun b ob q => Heap.get?_push_of_some _ q) (Nat.le_refl _) ?_, rfl, q _ (I5.hok.fresh (Nat.le_refl _))⟩
    exact ⟨by rw [List.length_reverse]; exact hz, _, 0, r.reverse, Heap.get?_push_size _ rfl⟩
  | true =>
    obtain ⟨its, r, ht, hz⟩ := I5.tuple (show SqT X.K H4 a xs from hx)
    have hlen := r.length
    refine tail_any (ops := [.ref a, .ref s4.heap.objs.size]) ht.typeIs (PyProof.Rows.slot_tuple_getitem.lookup) ?_ (by with_unfolding_all rfl)
    refine getItem_tuple_rev ht (Heap.IsSliceOf.new _ vl vu vs) pl pu ps ?_ (by rw [List.size_toArray]; omega)
    refine ⟨.ref _, _, I5.laid (t' := s4.toks) (o := .tup xs.reverse) (fun b ob q => Heap.get?_push_of_some _ q) (Nat.le_refl _) ?_, rfl, q _ (I5.hok.fresh (Nat.le_refl _))⟩
    exact ⟨by rw [List.length_reverse]; exact hz, _, r.reverse, IsTup.new _ _⟩
end PxRv
namespace Px
open PySem
section
variable {G : XG} {X : L2.Cx} {c : Chk} {Γ : Call} {n : Nat} {s : Sc} {W : L2.WX} {a : Ex} {x : Expr} {pos p2 p3 p4 : Pos}
theorem e_rv {k : Nat} {p3 p4 p5 : Pos} (ha : L2.PE X x (upE G X.K Γ W a)) : L2.PE X (.Subscript x (.Slice none none (some (.UnaryOp .USub (.Constant (.int 1) k p3) p4)) p5) pos) (upE G X.K Γ W (.rv a)) := by
  refine PE_imp (PxRv.pe_revB ha) fun σ H Q ⟨r, F, η, m, R, re, h⟩ => ⟨r, F, η, m, R, re, ?_⟩
  simp only [evE] at h
  refine (Post.step (rel1 := RV X.K) h).imp fun V H1 ⟨r1, F1, v, m1, x1, R1, hv, h1⟩ => ?_
  have lst : ∀ xs, asL m1 v = some xs → Post G X.K r1 F1 H1 (.ok (.lst xs.reverse) m1) (RV X.K) Q (atW W σ) → ∃ (t : Bool) (a : Addr) (xs : List L2.V), V = .ref a ∧ PxZip.SqB X.K H1 t a xs ∧ ∀ p, H1 p = none → Q (.ref p) (L2.upd H1 p (if t = true then .tup xs.reverse else .lst xs.reverse)) := fun xs e1 h1 => by
    obtain ⟨p, vs, rfl, q, t⟩ := asL_sq R1 hv e1
    refine ⟨false, p, vs, rfl, q, fun l hl => ?_⟩
    exact Post.okF h1 R1 hl (.lst (.inl L2.upd_same) (t.reverse.mono (List.prefix_refl _) (R1.frozen hl).2))
  cases hv' : v with
  | tup xs =>
    subst hv'
    simp only [rvE] at h1
    cases hv with
    | tup hq t =>
      refine ⟨true, _, _, rfl, sqT_mono R1.sub hq, fun p hp => ?_⟩
      exact Post.okF h1 R1 hp (.tup (.inl (.inl L2.upd_same)) (t.reverse.mono (List.prefix_refl _) (R1.frozen hp).2))
  | lst xs => subst hv'; exact lst xs rfl h1
  | loc l =>
    subst hv'
    simp only [rvE] at h1
    cases e1 : asL m1 (.loc l) with
    | none => rw [e1] at h1; exact h1.elim
    | some xs => rw [e1] at h1; exact lst xs e1 h1
  | _ => subst hv'; exact h1.elim
end
end Px
set_option Elab.async false
set_option linter.all false
set_option maxRecDepth 100000
set_option maxHeartbeats 2000000
namespace PxSst
open PySem PySem.Spec PyProof.Rows L2
def rSetTI (K : PySem.W.Frag) (w : World) : List V → Hp → VK → Prop := fun vs H Q => ∃ (p : Addr) (ns : List Int), vs = [.ref p] ∧ SqT K H p (ns.map V.int) ∧ ns.length ≤ 1000 ∧
  ∀ (a : Addr) (S : Int → Bool) (n : Nat), H a = none → (∀ j, S j = decide (j ∈ ns)) → n ≤ ns.length → Q (.ref a) (upd H a (SetO w a S n))
theorem cr_setTI {X : Cx} (hc : X.calm = true) : CallR X (.type "set") (rSetTI X.K X.w) := by
  intro pins s σ H vs us Q I r h
  obtain ⟨p, ns, rfl, hq, hl, q⟩ := h
  cases r with
  | cons r rr =>
    cases rr
    cases r
    obtain ⟨its, rv, pt, hz⟩ := I.tuple hq
    have hi : IntsAre its.toArray.toList ns := ints_of_vals rv
    refine call_set_tupI ns (I.ok.hd hc) (show s.heap.IsTuple p its.toArray from pt) hi (by unfold scanBound; omega) fun h' tk c R1 hcn k => ?_
    exact ⟨.ref _, upd H s.heap.objs.size (SetO X.w s.heap.objs.size (fun j => decide (j ∈ ns)) c), I.laid (t' := tk) k (Nat.le_refl _) (setO_new R1), rfl, q _ _ c (I.hok.fresh (Nat.le_refl _)) (fun j => rfl) hcn⟩
end PxSst
namespace Px
open PySem
theorem insI_mem (k j : Int) : ∀ l : List Int, j ∈ insI k l ↔ j = k ∨ j ∈ l
  | [] => by simp [insI]
  | x :: xs => by
    simp only [insI]
    split
    · simp
    · split
      · rename_i h; subst h; simp
      · simp only [List.mem_cons, insI_mem k j xs]; constructor <;> (intro h; rcases h with h | h | h <;> simp [h])
theorem insI_asc (k : Int) : ∀ l : List Int, l.Pairwise (· < ·) → (insI k l).Pairwise (· < ·)
  | [], _ => by simp [insI]
  | x :: xs, h => by
    simp only [insI]
    obtain ⟨h1, h2⟩ := List.pairwise_cons.mp h
    split
    · rename_i q
      refine List.pairwise_cons.mpr ⟨fun y hy => ?_, h⟩
      rcases List.mem_cons.mp hy with rfl | hy
      · exact q
      · have := h1 y hy; omega
    · split
      · exact h
      · refine List.pairwise_cons.mpr ⟨fun y hy => ?_, insI_asc k xs h2⟩
        rcases (insI_mem k y xs).mp hy with rfl | hy
        · omega
        · exact h1 y hy
theorem uniqI_asc (ns : List Int) : (uniqI ns).Pairwise (· < ·) := by
  induction ns with
  | nil => simp [uniqI]
  | cons a l ih => exact insI_asc a _ ih
theorem uniqI_mem (j : Int) (ns : List Int) : j ∈ uniqI ns ↔ j ∈ ns := by
  induction ns with
  | nil => simp [uniqI]
  | cons a l ih =>
    show j ∈ insI a (uniqI l) ↔ _
    rw [insI_mem, ih, List.mem_cons]
theorem asc_one : ∀ {l r : List Int}, l.Pairwise (· < ·) → r.Pairwise (· < ·) → (∀ j, j ∈ l ↔ j ∈ r) → l = r
  | [], [], _, _, _ => rfl
  | [], b :: r, _, _, h => by have := (h b).mpr List.mem_cons_self; cases this
  | a :: l, [], _, _, h => by have := (h a).mp List.mem_cons_self; cases this
  | a :: l, b :: r, hl, hr, h => by
    obtain ⟨l1, l2⟩ := List.pairwise_cons.mp hl
    obtain ⟨r1, r2⟩ := List.pairwise_cons.mp hr
    have e : a = b := by
      rcases List.mem_cons.mp ((h a).mp List.mem_cons_self) with q | q
      · exact q
      · rcases List.mem_cons.mp ((h b).mpr List.mem_cons_self) with q' | q'
        · exact q'.symm
        · have := r1 a q; have := l1 b q'; omega
    subst e
    rw [asc_one l2 r2 fun j => ?_]
    constructor
    · intro q
      rcases List.mem_cons.mp ((h j).mp (List.mem_cons_of_mem _ q)) with rfl | q'
      · have := l1 j q; omega
      · exact q'
    · intro q
      rcases List.mem_cons.mp ((h j).mpr (List.mem_cons_of_mem _ q)) with rfl | q'
      · have := r1 j q; omega
      · exact q'
theorem set_boot : bootBuiltins "set" = some (.type "set") ∧ ("set" : Str) ≠ "__name__" ∧ (("set" : Str) == ("__debug__" : Str)) = false := ⟨by decide +kernel, by decide, by decide⟩
section
variable {G : XG} {X : L2.Cx} {c : Chk} {Γ : Call} {n : Nat} {s : Sc} {W : L2.WX} {a : Ex} {x : Expr} {pos p2 p3 p4 : Pos}
theorem l_sst (g : Good X c s n) (gf : GF G X c Γ n) (h2 : s.gl "sorted" = true) (h3 : s.gl "set" = true) (hs : noStar x = true) (ha : L2.PE X x (upE G X.K Γ W a)) : L2.PE X (.Call (.Name "sorted" p2) [.Call (.Name "set" p3) [x] [] p4] [] pos) (upL G X.K Γ W (.sst a)) := by
  obtain ⟨_, ⟨b1, b2, b3⟩⟩ := blt_boot
  obtain ⟨c1, c2, c3⟩ := set_boot
  have e1 := L2.pe_callTy (pos := p4) (p := p3) (PxSst.cr_setTI g.calm) (gl_of g h3) (gf.blt _ (by decide)) c1 (a_one hs ha) c2 c3 (star_cons hs) rfl
  have hs' : noStar (.Call (.Name "set" p3) [x] [] p4) = true := rfl
  refine PE_imp (L2.pe_callB (L2.cr_sortedSet g.calm) (gl_of g h2) (gf.blt _ (by decide)) b1 (L2.pa_cons e1 L2.pa_nil (star_cons hs')) b2 b3 (star_cons hs') rfl) fun σ H Q ⟨r, F, η, m, R, re, h⟩ => ⟨r, F, η, m, R, re, ?_⟩
  simp only [evL] at h
  simp only [evEs, bind_assoc, Res.bind_ok]
  cases e : evE Γ a η m with
  | ok v m1 =>
    rw [e] at h
    intro r1 F1 H1 V x1 R1 hv
    cases hv with
    | cons hv t =>
      cases t
      have h := PostL.mono x1 R1 h
      simp only [Res.bind_ok, sstP] at h
      cases v with
      | tup xs =>
        simp only at h
        cases e2 : asInts xs with
        | none => rw [e2] at h; exact h.elim
        | some ns =>
          rw [e2] at h
          rcases pl_ite h with ⟨hl, h⟩ | ⟨_, h⟩
          · cases hv with
            | tup hq t =>
              rw [asInts_eq e2] at t
              rw [t.ints] at hq
              refine ⟨_, ns, rfl, sqT_mono R1.sub hq, by omega, fun a' S k hn hS hle => ?_⟩
              refine ⟨a', S, k, rfl, L2.upd_same, by omega, fun ms p k1 k2 k3 hp => ?_⟩
              have np : a' ∉ r1 := fun e => by
                obtain ⟨u, hu⟩ := R1.liv a' e
                rw [hn] at hu; cases hu
              have x2 : Xt r1 F1 H1 r1 F1 (L2.upd H1 a' (L2.SetO X.w a' S k)) := ⟨List.prefix_refl _, L2.Same.refl _, fun b o q1 q2 q3 => ⟨by rw [L2.upd_ne (L2.ne_of_none q1 hn)]; exact q1, q2, q3⟩⟩
              have R2 : RM X.K r1 F1 m1 (L2.upd H1 a' (L2.SetO X.w a' S k)) := R1.other (same_upd hn) fun b hb => L2.upd_ne fun e => np (by rw [← e]; exact hb)
              rw [asc_one k1 (uniqI_asc ns) fun j => by rw [k2, hS, uniqI_mem, decide_eq_true_eq]]
              exact (PostL.mono x2 R2 h).ok R2 hp (RVs.ofInts _ _ _ _)
          · exact h.elim
      | _ => exact h.elim
  | ex v m1 => rw [e] at h; exact h
  | no => rw [e] at h; exact h
end
end Px
set_option Elab.async false
set_option linter.all false
set_option maxRecDepth 100000
set_option maxHeartbeats 2000000
namespace PxStr
open PySem PySem.Spec PyProof.Rows L2
theorem pa_starRg {X : Cx} {e : Expr} {es : List Expr} {te : L2.St → Hp → (Int → Int → Hp → Prop) → Prop} {t : TA} {p : Pos} (hc : X.calm = true) (he : PRg X e te) (hr : PA X es t)
    (hs : starEach (.Starred e p :: es) X.env = (true, eval e X.env) :: starEach es X.env := by rfl) :
    PA X (.Starred e p :: es) (fun σ H Q => te σ H fun a b H1 => RgOk a b ∧ t σ H1 fun vs H2 => Q (rgV a b ++ vs) H2) := by
  refine ⟨fun pos pins s σ H Q I h => ?_⟩
  refine PySem.W.items_star (thn (he pins s σ H _ I h) fun x s1 ⟨r, a, b, t1, u, v, H1, ex, hrg, I1, ok, q⟩ => ?_) hs
  subst ex
  obtain ⟨b1, b2, b3, b4, b5⟩ := ok
  have hT : s1.TypeIs (.ref r) "range" := ⟨_, hrg, rfl⟩
  unfold PySem.W.StarOf notIterableAtAll
  refine wpAny_bind (wpAny_specialOf hT F.slot_range_iter.lookup (wpAny_pure ⟨rfl, ?_⟩))
  refine collect_range (n := (b - a).toNat) (I1.ok.hd hc) hrg (small_one b1 b2 b3 b4) (rangeSize_nat a b) b5 fun h' tk acc hk hi => ?_
  have I2 : Inv X pins σ H1 { s1 with heap := h', toks := tk } := I1.kept hk
  exact thn (hr.run pos pins _ σ H1 _ I2 q) fun ws s3 ⟨vs, H3, I3, r3, q3⟩ => ⟨rgV a b ++ vs, H3, I3, (vals_rg hi).append r3, q3⟩
end PxStr
namespace Px
open PySem
section
variable {G : XG} {c : Chk} {Γ : Call} {n : Nat} {X : L2.Cx} {W : L2.WX} {s : Sc} {a b : Ex} {x y : Expr} {es : List Expr} {pos p2 : Pos}
theorem p_rng {as : List Pt} {p3 p4 : Pos} (g : Good X c s n) (gf : GF G X c Γ n) (h3 : s.gl "range" = true) (hs : noStar x = true) (hs' : noStar y = true) (ha : L2.PE X x (upE G X.K Γ W a)) (hb : L2.PE X y (upE G X.K Γ W b)) (hr : L2.PA X es (upPs G X.K Γ W as)) :
    L2.PA X (.Starred (.Call (.Name "range" p3) [x, y] [] p4) pos :: es) (upPs G X.K Γ W (.rng a b :: as)) := by
  refine PA_imp (PxStr.pa_starRg g.calm (L2.prg_2 (gl_of g h3) (gf.blt _ (by decide)) ha hb (na := star_cons hs) (nb := star_cons hs') (hp := by rw [star_cons hs']; rfl)) hr rfl) fun σ H Q ⟨r, F, η, m, R, re, h⟩ => ⟨r, F, η, m, R, re, ?_⟩
  simp only [evPs, evPt, bind_assoc] at h
  refine (Post.step (rel1 := RV X.K) h).imp fun V H1 ⟨r1, F1, v, m1, x1, R1, hv, h1⟩ => ⟨r1, F1, η, m1, R1, re.mono x1.pre x1.sub, ?_⟩
  refine (Post.step (rel1 := RV X.K) h1).imp fun U H2 ⟨r2, F2, u, m2, x2, R2, hu, h2⟩ => ?_
  cases hv with
  | int i => cases hu with
    | int j =>
      by_cases c1 : (smallI i && smallI j && decide ((j - i).toNat ≤ LINE)) = true
      · have e : lrgP m2 (.int i) (.int j) = .ok (rangeV i (j - i).toNat) m2 := by show (if _ then _ else _) = _; rw [if_pos c1]
        rw [e, Res.bind_ok] at h2
        refine ⟨i, j, rfl, rfl, rg_ok c1, r2, F2, η, m2, R2, (re.mono x1.pre x1.sub).mono x2.pre x2.sub, ?_⟩
        have t : RVs X.K r2 F2 (rangeV i (j - i).toNat) (L2.rgV i j) := RVs.mapR (fun x => .int _) _
        exact (Post.step (rel1 := RVs X.K) h2).imp fun U H3 ⟨r3, F3, u, m3, x3, R3, hu, h3⟩ => h3.ok R3 ((t.mono x3.pre x3.sub).append hu)
      · have e : lrgP m2 (.int i) (.int j) = .no := by show (if _ then _ else _) = _; rw [if_neg c1]
        rw [e] at h2
        exact h2.elim
    | _ => exact h2.elim
  | _ => exact h2.elim
end
end Px
set_option Elab.async false
set_option linter.all false
set_option maxRecDepth 100000
set_option maxHeartbeats 2000000
namespace PySem
namespace PxEn
open PySem.Spec PyProof.Rows L2
open AutoSeq1 (wpAny_loadPart')
theorem meets_enumT (l : Addr) (items : Array Value) (n : Nat) (dct : Option Addr) (sl : Array (Option Value)) :
    Meets (Builtin.«enumerate.__new__» ⟨[.type "enumerate", .ref l], []⟩) (fun _ R s => s.heap.get? l = some { cls := .type "tuple", dict := dct, data := .seq items n, slots := sl } ∧
      R (.ok (.ret (.ref (s.heap.push { cls := .type "tuple_iterator", data := .fields #[.ref l, .int 0 0] }).objs.size)))
        { s with heap := (s.heap.push { cls := .type "tuple_iterator", data := .fields #[.ref l, .int 0 0] }).push { cls := .type "enumerate", data := .fields #[.none, .bool false, .ref s.heap.objs.size, rawInt 0, .none, .none] } }) :=
  .of_wp fun prog w A R s h => by
    obtain ⟨hp, g, d, tk, os⟩ := s; obtain ⟨hl, h⟩ := h
    have hsub := sub_enumerate
    have hL : Heap.IsTuple (Shared.heap ⟨hp, g, d, tk, os⟩) l items := ⟨_, hl, rfl, n, rfl⟩
    wp_walk using wpAny_loadPart' hl
    refine wpAny_stack_any fun st => wpAny_pure ?_
    split
    · rename_i c _ _ _ _ _
      cases (c == Value.type "enumerate")
      · wp_walk using wpAny_loadPart' hl, wpAny_pyIter_tuple hL
        exact ⟨_, rfl, h⟩
      · wp_walk using wpAny_loadPart' hl, wpAny_pyIter_tuple hL
        exact ⟨_, rfl, h⟩
    · wp_walk using wpAny_loadPart' hl, wpAny_pyIter_tuple hL
      exact ⟨_, rfl, h⟩
theorem call_enumT {prog : Program} {w : World} {A : Around} {E : Value → Shared → Prop} {s : Shared} {l : Addr} {items : Array Value} {Q : Value → Shared → Prop} (hL : s.heap.IsTuple l items)
    (h : ∀ h', IsEnum h' (s.heap.objs.size + 1) s.heap.objs.size 0 .none → h'.IsTupleIter s.heap.objs.size l 0 → h'.objs.size = s.heap.objs.size + 2 →
      (∀ b o, s.heap.get? b = some o → h'.get? b = some o) → Q (.ref (s.heap.objs.size + 1)) { s with heap := h' }) :
    wpAny (model prog w) A (call (.type "enumerate") [.ref l]) Q E s := by
  obtain ⟨⟨c, dct, dt, sl⟩, hl, hc, n, hd⟩ := hL
  replace hc : c = .type "tuple" := hc
  replace hd : dt = .seq items n := hd
  subst hc hd
  refine callType_new F.called_enumerate (by decide) (F.typeCall_enumerate_1 _) (F.newCall_enumerate_1 _) (fun obj => F.args_object_init_2 obj _) F.entry_enumerate_new
    (meets_enumT l items n dct sl) ⟨hl, ?_⟩
  have hz : (s.heap.push { cls := .type "tuple_iterator", data := .fields #[.ref l, .int 0 0] }).objs.size = s.heap.objs.size + 1 := Heap.size_push ..
  show _ ∧ _
  rw [hz]
  have he : IsEnum ((s.heap.push { cls := .type "tuple_iterator", data := .fields #[.ref l, .int 0 0] }).push
      { cls := .type "enumerate", data := .fields #[.none, .bool false, .ref s.heap.objs.size, rawInt 0, .none, .none] }) (s.heap.objs.size + 1) s.heap.objs.size 0 .none := by
    have := Heap.get?_push_size (s.heap.push { cls := .type "tuple_iterator", data := .fields #[.ref l, .int 0 0] })
      (o := { cls := .type "enumerate", data := .fields #[.none, .bool false, .ref s.heap.objs.size, rawInt 0, .none, .none] }) rfl
    rw [hz] at this; exact this
  refine ⟨⟨_, he, rfl⟩, h _ he ⟨_, Heap.get?_push_of_some _ (Heap.get?_push_size _ rfl), rfl, rfl⟩ (by rw [Heap.size_push, hz]) fun b o x => Heap.get?_push_of_some _ (Heap.get?_push_of_some _ x)⟩
def IteT (K : PySem.W.Frag) (a : Addr) : It :=
  ⟨fun i H => ∃ (xs : List V) (x : V), SqT K H a xs ∧ xs[i]? = some x, fun i H v H' => ∃ T x, v = .ref T ∧ H T = none ∧ H' = upd H T (.tup [.int (i : Nat), x]) ∧ ∀ xs, SqT K H a xs → xs[i]? = some x, fun i H => ∃ xs : List V, SqT K H a xs ∧ xs.length = i⟩
theorem turn_enumT {P : Program} {w : World} {K : PySem.W.Frag} {elts : List Expr} {kk : Nat} {tpos : Pos} (a e it : Addr) :
    Turn P w K (.Tuple elts kk tpos) (IteT K a) [e, it] e (fun i h => (∃ old, IsEnum h e it ((i : Nat) : Int) old) ∧ h.IsTupleIter it a i ∧ e ≠ it) where
  mem := by simp
  obj := fun i h st b hb => by
    obtain ⟨⟨old, he⟩, ⟨o, ho, hc, hd⟩, _⟩ := st
    have e' : b = e ∨ b = it := by simpa using hb
    rcases e' with z | z
    · rw [z]; exact ⟨_, he, fun v q => nomatch q⟩
    · rw [z]; exact ⟨o, ho, fun v q => by rw [hd] at q; cases q⟩
  keep := fun i h h' st k => let ⟨⟨old, he⟩, hi, hne⟩ := st; ⟨⟨old, k e (by simp) _ he⟩, hi.at fun o q => k it (by simp) o q, hne⟩
  item := by
    intro X hP hw hK hc i pins s σ H E I hf st hg
    subst hP hw hK
    obtain ⟨⟨old, he⟩, hit, hne⟩ := st
    obtain ⟨xs, x, hq, hx⟩ := hg
    obtain ⟨its, rv, p, hz⟩ := I.tuple hq
    obtain ⟨u, hu, ru⟩ := rv.get hx
    have hel : e < s.heap.objs.size := Heap.lt_size he
    have hil : it < s.heap.objs.size := by obtain ⟨_, q, _⟩ := hit; exact Heap.lt_size q
    have hne2 : a ≠ it := fun z => by
      obtain ⟨o, e1, e2, e3⟩ := hit
      obtain ⟨o', f1, f2, n, f3⟩ := p
      rw [z, e1] at f1; cases f1
      rw [e3] at f3; cases f3
    have hne3 : e ≠ a := fun z => by
      obtain ⟨o', f1, f2, n, f3⟩ := p
      rw [← z] at f1
      have he' := he
      unfold IsEnum at he'
      rw [he'] at f1; cases f1
      exact absurd f2 (by simp)
    have D := Draws.tuple (prog := X.prog) (w := X.w) (A := X.A.in1) (I.ok.hd hc) it a hne2 its.toArray
    have hlt : i < its.toArray.size := by
      rw [List.size_toArray]
      exact (List.getElem?_eq_some_iff.mp hu).1
    refine wpAny_pyNext_enum_itemD D he ⟨hit, p⟩ hlt hne (by simp; exact ⟨hne, hne3⟩) fun y h' tk hy ho hst' hT hsz hk => ?_
    have ey : y = u := by
      have : its.toArray[i]? = some u := by simpa using hu
      rw [hy] at this
      exact Option.some.inj this
    subst ey
    refine ⟨_, rfl, wpAny_letOwnedTupleGo_enum (s := { s with heap := h', toks := tk + 1 }) ho fun h'' he' sb => ?_⟩
    have hT2 : h''.get? s.heap.objs.size = some { cls := .type "tuple", data := .seq #[.int i tk, y] } := (sb.2 _ (Nat.ne_of_gt hel)).trans hT
    have new : ObjOk X.prog X.w (upd H s.heap.objs.size (.tup [.int (i : Nat), x])) h'' s.heap.objs.size (.tup [.int (i : Nat), x]) :=
      ⟨by show 2 ≤ sizeLine; decide, [.int i tk, y], .cons ⟨_, rfl⟩ (.cons ru .nil), ⟨_, hT2, rfl, _, rfl⟩⟩
    have I1 : Inv X pins σ (upd H s.heap.objs.size (.tup [.int (i : Nat), x])) { s with heap := h'', toks := tk + 1 } :=
      I.turnedNew (ch := [e, it]) (fun b ob hb q => (sb.2 b (fun z => hb (by simp [z]))).trans (hk b ob (fun z => hb (by simp [z])) (fun z => hb (by simp [z])) q)) hf (Nat.le_refl _) new
    refine ⟨.ref s.heap.objs.size, _, I1, rfl, ⟨_, x, rfl, I.hok.fresh (Nat.le_refl _), rfl, fun ys hy => by rw [I.tuple_inj hy hq]; exact hx⟩, ⟨⟨y, ?_⟩, hst'.1.at fun o q => (sb.2 it (Ne.symm hne)).trans q, hne⟩, fun b hb => ?_⟩
    · have e1 : ((i + 1 : Nat) : Int) = (i : Int) + 1 := by omega
      rw [e1]; exact he'
    · have hb' : b < s.heap.objs.size := by
        have e' : b = e ∨ b = it := by simpa using hb
        rcases e' with z | z
        · rw [z]; exact hel
        · rw [z]; exact hil
      rw [upd_ne (Nat.ne_of_lt hb')]
      exact (hf b hb).1
  done := by
    intro X hP hw hK hc i pins s σ H E I hf st hg
    subst hP hw hK
    obtain ⟨⟨old, he⟩, hit, hne⟩ := st
    obtain ⟨xs, hq, hx⟩ := hg
    obtain ⟨its, rv, p, hz⟩ := I.tuple hq
    obtain ⟨f0, f1, f2, f3, f4, f5⟩ := hf it (by simp)
    have hl := rv.length
    have hne2 : a ≠ it := fun z => by
      obtain ⟨o, e1, e2, e3⟩ := hit
      obtain ⟨o', f1, f2, n, f3⟩ := p
      rw [z, e1] at f1; cases f1
      rw [e3] at f3; cases f3
    have D := Draws.tuple (prog := X.prog) (w := X.w) (A := X.A.in1) (I.ok.hd hc) it a hne2 its.toArray
    have hst : (fun i (h : Heap) => h.IsTupleIter it a i ∧ h.IsTuple a its.toArray) its.toArray.size s.heap := by
      refine ⟨?_, p⟩
      rw [List.size_toArray, ← hl, hx]
      exact hit
    exact wpAny_pyNext_enum_endD D he hst fun h' eb => ⟨rfl, I.turned (t' := s.toks) (fun b o hb q => eb b o hb q) f0 f1 f3 f4 f5⟩
  self := fun A i s Q E st h => let ⟨⟨_, he⟩, _⟩ := st; wpAny_pyIter_enum he h
def iEnumT (K : PySem.W.Frag) (ta : TA) : TI := fun σ H R => ta σ H fun vs H1 => ∃ a xs, vs = [.ref a] ∧ SqT K H1 a xs ∧ R (IteT K a) H1
theorem pi_enumT {X : Cx} {e : Expr} {ta : TA} {p pos tpos : Pos} {elts : List Expr} {kk : Nat} (hg : Gl X "enumerate") (hm : X.mg "enumerate" = none) (ha : PA X [e] ta) (hs : starEach [e] X.env = [(false, eval e X.env)] := by rfl) :
    PI X (.Tuple elts kk tpos) (.Call (.Name "enumerate" p) [e] [] pos) (iEnumT X.K ta) := by
  refine ⟨fun pins s σ H R I h => ?_⟩
  refine Call_ (ld_blt I hg hm boot_enumerate (PyProof.Rows.callWith_type1 (thn (ha.run pos pins s σ H _ I h) fun us s1 ⟨vs, H1, I1, r1, q1⟩ => ?_) hs rfl))
  obtain ⟨a, xs, ex, hq, q⟩ := q1
  subst ex
  cases r1 with
  | cons r rr =>
    cases rr
    cases r
    obtain ⟨its, rv, p', hz⟩ := I1.tuple hq
    refine call_enumT p' fun h' he hit hsz hk => wpAny_pyIter_enum he ?_
    have I2 : Inv X pins σ H1 { s1 with heap := h' } := I1.kept (t' := s1.toks) hk
    refine ⟨s1.heap.objs.size + 1, [s1.heap.objs.size + 1, s1.heap.objs.size], _, _, H1, rfl, I2, turn_enumT a (s1.heap.objs.size + 1) s1.heap.objs.size, ⟨⟨.none, he⟩, hit, Nat.succ_ne_self _⟩, fun b hb => ?_, q⟩
    have e' : b = s1.heap.objs.size + 1 ∨ b = s1.heap.objs.size := by simpa using hb
    have hle : s1.heap.objs.size ≤ b := by
      rcases e' with z | z
      · rw [z]; exact Nat.le_add_right _ _
      · rw [z]; exact Nat.le_refl _
    exact I1.fpOk hle (I1.hok.fresh hle)
end PxEn
end PySem
set_option Elab.async false
set_option linter.all false
set_option maxRecDepth 100000
set_option maxHeartbeats 2000000
namespace PySem
namespace PxTE
open PySem PySem.W PySem.Calls PyProof.Rows PyProof.V PySem.Spec
def EnO (h : Heap) (e it a : Addr) (f : Bool) (c : Int) (x : Value) : Prop :=
  h.get? e = some { cls := .type "enumerate", dict := none, data := .fields #[rawInt a, .bool f, .ref it, rawInt c, .none, x], slots := #[] }
section
variable {prog : Program} {w : World} {A : Around} {E : Value → Shared → Prop} {s : Shared}
theorem next_out {e it a : Addr} {f : Bool} {oa : Obj} {fp : List Addr} {n i : Nat} {P : Nat → Value → Prop} {St : Nat → Heap → Prop} {old : Value} {Q : Value → Shared → Prop}
    (D : Draws prog w A it fp n P St) (he : EnO s.heap e it a f i old) (ha : s.heap.get? a = some oa) (hae : a ≠ e) (hai : a ≠ it) (hst : St i s.heap) (hlt : i < n) (hne : e ≠ it) (hef : e ∉ fp)
    (hQ : ∀ x h' tk, P i x → EnO h' e it a true ((i : Int) + 1) old → St (i + 1) h' →
      h'.get? s.heap.objs.size = some { cls := .type "tuple", data := .seq #[.int i tk, x] } → h'.objs.size = s.heap.objs.size + 1 →
      (∀ b o, b ≠ e → b ≠ it → s.heap.get? b = some o → h'.get? b = some o) → Q (.ref s.heap.objs.size) { s with heap := h', toks := tk + 1 }) :
    wpAny (model prog w) A (Builtin.«enumerate.__next__» ⟨[.ref e], []⟩) (fun fin s' => ∃ v, fin = .done (.ret v) ∧ Q v s') E s := by
  obtain ⟨hp, g, d, tk₀, os⟩ := s
  show wpAny _ _ (field (.ref e) 2 >>= _) _ _ _
  refine wpAny_bind (wpAny_field he rfl (x := .ref it) rfl ?_)
  refine wpAny_bind (D.item i _ _ _ hlt hst fun x h₁ tk hPx hit₁ hs₁ => ?_)
  replace hs₁ : Heap.SameBut it hp h₁ := hs₁
  have he₁ : EnO h₁ e it a f i old := (hs₁.2 e hne).trans he
  show wpAny _ _ (field (.ref e) 3 >>= _) _ _ ⟨h₁, g, d, tk, os⟩
  refine wpAny_bind (wpAny_field he₁ rfl (x := rawInt i) rfl ?_)
  show wpAny _ _ (field (.ref e) 4 >>= _) _ _ ⟨h₁, g, d, tk, os⟩
  refine wpAny_bind (wpAny_field he₁ rfl (x := .none) rfl ?_)
  show wpAny _ _ (mkInt i >>= _) _ _ ⟨h₁, g, d, tk, os⟩
  refine wpAny_bind (wpAny_mkInt ?_)
  show wpAny _ _ (setField (.ref e) 3 (rawInt ((i : Int) + 1)) >>= _) _ _ ⟨h₁, g, d, tk + 1, os⟩
  refine wpAny_bind (wpAny_setField_rec he₁ (by simp) fun h₂ he₂ hs₂ => ?_)
  replace hs₂ : Heap.SameBut e h₁ h₂ := hs₂
  replace he₂ : EnO h₂ e it a f ((i : Int) + 1) old := he₂
  show wpAny _ _ (setField (.ref e) 4 .none >>= _) _ _ ⟨h₂, g, d, tk + 1, os⟩
  refine wpAny_bind (wpAny_setField_rec he₂ (by simp) fun h₃ he₃ hs₃ => ?_)
  replace hs₃ : Heap.SameBut e h₂ h₃ := hs₃
  replace he₃ : EnO h₃ e it a f ((i : Int) + 1) old := he₃
  show wpAny _ _ (newTuple [.int i tk, x] >>= _) _ _ ⟨h₃, g, d, tk + 1, os⟩
  refine wpAny_bind (wpAny_newTuple ?_)
  have he₄ : EnO (h₃.push { cls := .type "tuple", data := .seq #[.int i tk, x] }) e it a f ((i : Int) + 1) old := Heap.get?_push_of_some _ he₃
  generalize hh₄ : h₃.push { cls := .type "tuple", data := .seq #[.int i tk, x] } = h₄ at he₄
  have hsz : h₃.objs.size = hp.objs.size := by rw [hs₃.1, hs₂.1, hs₁.1]
  have hel : e < hp.objs.size := Heap.lt_size he
  have ht₄ : h₄.get? hp.objs.size = some { cls := .type "tuple", data := .seq #[.int i tk, x] } := by rw [← hh₄, ← hsz]; exact Heap.get?_push_size _ rfl
  have hz₄ : h₄.objs.size = hp.objs.size + 1 := by rw [← hh₄, Heap.size_push, hsz]
  have hk₄ : ∀ b o, b ≠ e → b ≠ it → hp.get? b = some o → h₄.get? b = some o := fun b o hbe hbi hb => by
    rw [← hh₄]; exact Heap.get?_push_of_some _ (hs₃.extBut b o hbe (hs₂.extBut b o hbe (hs₁.extBut b o hbi hb)))
  have hit₄ : St (i + 1) h₄ := D.frame _ _ _ hit₁ fun b hb o y => by
    have hbe : b ≠ e := fun q => hef (q ▸ hb)
    rw [← hh₄]; exact Heap.get?_push_of_some _ (hs₃.extBut b o hbe (hs₂.extBut b o hbe y))
  show wpAny _ _ (Builtin.SmallTypes.ownedTupleIsFree (.ref e) >>= _) _ _ ⟨h₄, g, d, tk + 1, os⟩
  rw [hsz]
  have ha₄ : h₄.get? a = some oa := hk₄ a oa hae hai ha
  clear hh₄ he₃ hs₃ he₂ hs₂ he₁ hs₁ hit₁ hsz h₃ h₂ h₁
  have fin : ∀ h₅ : Heap, EnO h₅ e it a true ((i : Int) + 1) old → Heap.SameBut e h₄ h₅ → Q (.ref hp.objs.size) ⟨h₅, g, d, tk + 1, os⟩ := fun h₅ he₅ hs₅ =>
    hQ x h₅ tk hPx he₅ (D.frame _ _ _ hit₄ fun b hb o y => hs₅.extBut b o (fun q => hef (q ▸ hb)) y) (hs₅.extBut _ _ (Nat.ne_of_gt hel) ht₄) (by show h₅.objs.size = hp.objs.size + 1; rw [hs₅.1, hz₄])
      fun b o hbe hbi hb => hs₅.extBut b o hbe (hk₄ b o hbe hbi hb)
  refine wpAny_bind ?_
  unfold Builtin.SmallTypes.ownedTupleIsFree
  refine wpAny_bind (wpAny_field he₄ rfl (x := rawInt a) rfl ?_)
  show wpAny _ _ (loadIfAlive ((a : Int).toNat) >>= _) _ _ _
  rw [Int.toNat_natCast]
  refine wpAny_bind (kdx_alive ha₄ ?_)
  simp only [Option.isNone_some, Bool.false_eq_true, if_false]
  refine wpAny_bind (wpAny_field he₄ rfl (x := .bool f) rfl ?_)
  cases f with
  | true =>
    rw [if_neg (show ¬ ((Value.bool true != Value.bool true) = true) from Bool.false_ne_true)]
    refine wpAny_pure ?_
    simp only [Bool.false_eq_true, if_false]
    exact wpAny_pure ⟨_, rfl, fin h₄ he₄ (Heap.SameBut.refl _ _)⟩
  | false =>
    rw [if_pos (show (Value.bool false != Value.bool true) = true from rfl)]
    refine wpAny_bind (wpAny_setField_rec he₄ (by simp) fun h₅ he₅ hs₅ => ?_)
    replace hs₅ : Heap.SameBut e h₄ h₅ := hs₅
    replace he₅ : EnO h₅ e it a true ((i : Int) + 1) old := he₅
    refine wpAny_pure ?_
    simp only [Bool.false_eq_true, if_false]
    exact wpAny_pure ⟨_, rfl, fin h₅ he₅ hs₅⟩
theorem pynext_out {e it a : Addr} {f : Bool} {oa : Obj} {fp : List Addr} {n i : Nat} {P : Nat → Value → Prop} {St : Nat → Heap → Prop} {old : Value} {Q : Option Value → Shared → Prop}
    (D : Draws prog w A.in1 it fp n P St) (he : EnO s.heap e it a f i old) (ha : s.heap.get? a = some oa) (hae : a ≠ e) (hai : a ≠ it) (hst : St i s.heap) (hlt : i < n) (hne : e ≠ it) (hef : e ∉ fp)
    (hQ : ∀ x h' tk, P i x → EnO h' e it a true ((i : Int) + 1) old → St (i + 1) h' →
      h'.get? s.heap.objs.size = some { cls := .type "tuple", data := .seq #[.int i tk, x] } → h'.objs.size = s.heap.objs.size + 1 →
      (∀ b o, b ≠ e → b ≠ it → s.heap.get? b = some o → h'.get? b = some o) → Q (some (.ref s.heap.objs.size)) { s with heap := h', toks := tk + 1 }) :
    wpAny (model prog w) A (pyNext (.ref e)) Q E s := by
  have hT : s.TypeIs (.ref e) "enumerate" := ⟨_, he, rfl⟩
  unfold pyNext
  exact wpAny_bind (wpAny_attempt (wpAny_callSpecial?_slot (name := Str.ofString "__next__") hT F.slot_enumerate_next
    (wpAny_call_entry F.slot_enumerate_next hT F.entry_enumerate_next
      (next_out D he ha hae hai hst hlt hne hef fun x h' tk a b c d k q => wpAny_pure (hQ x h' tk a b c d k q)) (F.args_enumerate_next_1 _))))
theorem pyend_out {e it a : Addr} {f : Bool} {fp : List Addr} {n : Nat} {P : Nat → Value → Prop} {St : Nat → Heap → Prop} {i : Int} {old : Value} {Q : Option Value → Shared → Prop}
    (D : Draws prog w A.in1 it fp n P St) (he : EnO s.heap e it a f i old) (hst : St n s.heap)
    (hQ : ∀ h', Heap.ExtBut it s.heap h' → Q none { s with heap := h' }) : wpAny (model prog w) A (pyNext (.ref e)) Q E s := by
  have hT : s.TypeIs (.ref e) "enumerate" := ⟨_, he, rfl⟩
  unfold pyNext
  refine wpAny_bind (wpAny_attempt (wpAny_callSpecial?_slot (name := Str.ofString "__next__") hT F.slot_enumerate_next
    (wpAny_call_entry F.slot_enumerate_next hT F.entry_enumerate_next ?_ (F.args_enumerate_next_1 _))))
  show wpAny _ _ (field (.ref e) 2 >>= _) _ _ _
  refine wpAny_bind (wpAny_field he rfl (x := .ref it) rfl ?_)
  refine wpAny_bind (D.done _ _ _ hst fun h' x he' hx' => ?_)
  obtain ⟨o, ho, hc⟩ := hx'
  refine wpAny_bind (wpAny_isInstance (T := "StopIteration") (b := true) ⟨o, ho, hc⟩ isSubtype_stop ?_)
  exact wpAny_pure (hQ _ he')
def KS (h : Heap) (e it S : Addr) (i : Nat) : Prop := (∃ old, IsEnum h e it i old) ∨ ∃ a f x oa, EnO h e it a f i x ∧ h.get? a = some oa ∧ a ≠ e ∧ a ≠ it ∧ a ≠ S
theorem KS.keep {h h' : Heap} {e it S : Addr} {i : Nat} (x : KS h e it S i) (hSe : S ≠ e) (k : ∀ b o, b ≠ S → h.get? b = some o → h'.get? b = some o) : KS h' e it S i := by
  rcases x with ⟨old, he⟩ | ⟨a, f, x, oa, he, ha, h1, h2, h3⟩
  · exact .inl ⟨old, k e _ (Ne.symm hSe) he⟩
  · exact .inr ⟨a, f, x, oa, k e _ (Ne.symm hSe) he, k a _ h3 ha, h1, h2, h3⟩
theorem nxtE {e it S : Addr} {fp : List Addr} {n i : Nat} {P : Nat → Value → Prop} {St : Nat → Heap → Prop} {Q : Option Value → Shared → Prop}
    (D : Draws prog w A.in1 it fp n P St) (ks : KS s.heap e it S i) (hst : St i s.heap) (hS : S < s.heap.objs.size) (hit : it < s.heap.objs.size) (hlt : i < n) (hne : e ≠ it) (hef : e ∉ fp)
    (hQ : ∀ x h' tk, P i x → KS h' e it S (i + 1) → St (i + 1) h' →
      h'.get? s.heap.objs.size = some { cls := .type "tuple", data := .seq #[.int i tk, x] } → h'.objs.size = s.heap.objs.size + 1 →
      (∀ b o, b ≠ e → b ≠ it → s.heap.get? b = some o → h'.get? b = some o) → Q (some (.ref s.heap.objs.size)) { s with heap := h', toks := tk + 1 }) :
    wpAny (model prog w) A (pyNext (.ref e)) Q E s := by
  have e1 : ((i + 1 : Nat) : Int) = (i : Int) + 1 := by omega
  rcases ks with ⟨old, he⟩ | ⟨a, f, x, oa, he, ha, h1, h2, h3⟩
  · have hel : e < s.heap.objs.size := Heap.lt_size he
    exact wpAny_pyNext_enum_itemD D he hst hlt hne hef fun x h' tk hP ho hs' hT hsz hk => hQ x h' tk hP (.inr ⟨_, false, x, _, by rw [e1]; exact ho, hT, Nat.ne_of_gt hel, Nat.ne_of_gt hit, Nat.ne_of_gt hS⟩) hs' hT hsz hk
  · exact pynext_out D he ha h1 h2 hst hlt hne hef fun y h' tk hP ho hs' hT hsz hk => hQ y h' tk hP (.inr ⟨a, true, x, oa, by rw [e1]; exact ho, hk a _ h1 h2 ha, h1, h2, h3⟩) hs' hT hsz hk
theorem finE {e it S : Addr} {fp : List Addr} {n : Nat} {P : Nat → Value → Prop} {St : Nat → Heap → Prop} {Q : Option Value → Shared → Prop}
    (D : Draws prog w A.in1 it fp n P St) (ks : KS s.heap e it S n) (hst : St n s.heap)
    (hQ : ∀ h', Heap.ExtBut it s.heap h' → Q none { s with heap := h' }) : wpAny (model prog w) A (pyNext (.ref e)) Q E s := by
  rcases ks with ⟨old, he⟩ | ⟨a, f, x, oa, he, _⟩
  · exact wpAny_pyNext_enum_endD D he hst hQ
  · exact pyend_out D he hst hQ
end
structure MadeE (P : Nat → Value → Prop) (lo : Addr) (h : Heap) (as : List Addr) : Prop where
  rise : as.Pairwise (· < ·)
  above : ∀ a ∈ as, lo ≤ a
  pairs : ∀ (j : Nat) (a : Addr), as[j]? = some a → ∃ x tk, P j x ∧ h.get? a = some { cls := .type "tuple", data := .seq #[.int (j : Nat) tk, x] }
section
variable {prog : Program} {w : World} {A : Around} {s : Shared} {R : Result → Shared → Prop}
theorem loopE {S e it lo : Addr} {fp : List Addr} {n : Nat} {P : Nat → Value → Prop} {St : Nat → Heap → Prop} (D : Draws prog w A.in1.in1 it fp n P St) (hne : e ≠ it) (hef : e ∉ fp) (hSe : S ≠ e) (hSi : S ≠ it) (hSf : S ∉ fp)
    (lS : S < lo) (le : e < lo) (li : it < lo) (hn : n ≤ sizeLine) (res : Value) {h₁ : Heap}
    (hR : ∀ h' tk acc c as, (∀ b o, b ≠ S → b ≠ e → b ≠ it → h₁.get? b = some o → h'.get? b = some o) → h'.get? S = some { cls := .type "list", dict := none, data := .seq acc c, slots := #[] } → as.length = n → MadeE P lo h' as →
      acc.toList = as.map Value.ref → R (.ok (.ret res)) { s with heap := h', toks := tk }) :
    ∀ (k i : Nat) (h : Heap) (tk c : Nat) (acc : Array Value) (as : List Addr), n - i = k → i ≤ n → KS h e it S i → St i h → (∀ b o, b ≠ S → b ≠ e → b ≠ it → h₁.get? b = some o → h.get? b = some o) →
      h.get? S = some { cls := .type "list", dict := none, data := .seq acc c, slots := #[] } → acc.toList = as.map Value.ref → as.length = i → MadeE P lo h as → lo ≤ h.objs.size →
      codeAny (model prog w) A (.builtin "list.extend.loop" ⟨[.ref S, .ref e, res], []⟩) R { s with heap := h, toks := tk } := by
  intro k
  induction k with
  | zero =>
    intro i h tk c acc as hk hi hst hD hkeep hS hacc hal hG hIs
    have hin : i = n := by omega
    subst hin
    refine codeAny_builtin PySem.F.entry_extend_loop ?_
    rw [Around.under_plainId PySem.F.plain_extend_loop _]
    show wpAny _ A.in1 (pyNext (.ref e) >>= _) _ _ _
    refine wpAny_bind (finE (s := { s with heap := h, toks := tk }) (A := A.in1) D hst hD fun h' he => ?_)
    refine wpAny_pure (hR h' tk acc c as (fun b o h1 h2 h3 e => he b o h3 (hkeep b o h1 h2 h3 e)) (he S _ hSi hS) (by omega) ⟨hG.rise, hG.above, fun j a hj => ?_⟩ hacc)
    obtain ⟨x, tk2, e1, e3⟩ := hG.pairs j a hj
    have := hG.above a (List.mem_of_getElem? hj)
    exact ⟨x, tk2, e1, he a _ (Nat.ne_of_gt (Nat.lt_of_lt_of_le li this)) e3⟩
  | succ k ih =>
    intro i h tk c acc as hk hi hst hD hkeep hS hacc hal hG hIs
    have hlt : i < n := by omega
    have hsz : acc.size = i := by rw [← Array.length_toList, hacc, List.length_map, hal]
    refine codeAny_builtin PySem.F.entry_extend_loop ?_
    rw [Around.under_plainId PySem.F.plain_extend_loop _]
    show wpAny _ A.in1 (pyNext (.ref e) >>= _) _ _ _
    have hSl : S < h.objs.size := Heap.lt_size hS
    refine wpAny_bind (nxtE (s := { s with heap := h, toks := tk }) (A := A.in1) (S := S) D hst hD hSl (Nat.lt_of_lt_of_le li hIs) hlt hne hef fun x h' tk' hP hst' hD' ht hz hkp => ?_)
    dsimp only at ht hz hkp ⊢
    have hS' := hkp S _ hSe hSi hS
    have up : ∀ b o, b ≠ S → h'.get? b = some o → (h'.update S (Obj.mapSeq (·.push (Value.ref h.objs.size)))).get? b = some o := fun b o hb e => (Heap.get?_update_other _ _ (Ne.symm hb)).trans e
    show wpAny _ A.in1 (updateSeq S (·.push (Value.ref h.objs.size)) >>= _) _ _ _
    refine wpAny_bind ?_
    refine wpAny_updateSeq hS' rfl (wpAny_pure ⟨plainId_quiet PySem.F.plain_extend_loop _, ih (i + 1) _ (tk' + 1) _ (acc.push (Value.ref h.objs.size)) (as ++ [h.objs.size]) (by omega) hlt (hst'.keep hSe up) (D.frame _ _ _ hD' fun b hb o e => up b o (fun q => hSf (q ▸ hb)) e)
      (fun b o h1 h2 h3 e => up b o h1 (hkp b o h2 h3 (hkeep b o h1 h2 h3 e))) (Heap.get?_update_self _ hS' rfl) (by rw [Array.toList_push, hacc, List.map_append]; rfl) (by rw [List.length_append, hal]; rfl) ⟨?_, ?_, ?_⟩ ?_⟩) (by rw [hsz]; omega) (by show (acc.push (Value.ref h.objs.size)).size ≤ sizeLine + 1; rw [Array.size_push, hsz]; omega)
    · refine List.pairwise_append.mpr ⟨hG.rise, List.pairwise_singleton _ _, fun a ha b hb => ?_⟩
      rw [List.mem_singleton.mp hb]
      obtain ⟨j, hj⟩ := List.mem_iff_getElem?.mp ha
      obtain ⟨_, _, _, e3⟩ := hG.pairs j a hj
      exact Heap.lt_size e3
    · intro a ha
      rcases List.mem_append.mp ha with ha | ha
      · exact hG.above a ha
      · rw [List.mem_singleton.mp ha]; exact hIs
    · intro j b hj
      rcases Nat.lt_trichotomy j as.length with h1 | h1 | h1
      · rw [List.getElem?_append_left h1] at hj
        obtain ⟨y, tk2, e1, e3⟩ := hG.pairs j b hj
        have hb := hG.above b (List.mem_of_getElem? hj)
        exact ⟨y, tk2, e1, up b _ (Nat.ne_of_gt (Nat.lt_of_lt_of_le lS hb)) (hkp b _ (Nat.ne_of_gt (Nat.lt_of_lt_of_le le hb)) (Nat.ne_of_gt (Nat.lt_of_lt_of_le li hb)) e3)⟩
      · subst h1
        have hb : h.objs.size = b := by simpa using hj
        subst hb
        exact ⟨x, tk', by rw [hal]; exact hP, up _ _ (Nat.ne_of_gt hSl) (by rw [hal]; exact ht)⟩
      · have hnone : (as ++ [h.objs.size])[j]? = none := List.getElem?_eq_none (by rw [List.length_append, List.length_singleton]; omega)
        rw [hnone] at hj; cases hj
    · have e : (h'.update S (Obj.mapSeq (·.push (Value.ref h.objs.size)))).get? h.objs.size = _ := up _ _ (Nat.ne_of_gt hSl) ht
      exact Nat.le_trans hIs (Nat.le_of_lt (Heap.lt_size e))
theorem nolen_en : typeLookup (.type "enumerate") "__len__" = pure none := by rw [typeLookup_type, builtinLookup_eq_fast]; kernel_rfl
theorem nohint_en : typeLookup (.type "enumerate") "__length_hint__" = pure none := by rw [typeLookup_type, builtinLookup_eq_fast]; kernel_rfl
end
section
variable {prog : Program} {w : World} {A : Around} {E : Value → Shared → Prop} {s : Shared}
theorem collectE {e it : Addr} {fp : List Addr} {n : Nat} {P : Nat → Value → Prop} {St : Nat → Heap → Prop} {old : Value} {Q : List Value → Shared → Prop} (D : Draws prog w A.in1.in1 it fp n P St) (he : IsEnum s.heap e it 0 old) (hst : St 0 s.heap) (hne : e ≠ it) (hef : e ∉ fp)
    (hfp : ∀ b ∈ fp, b < s.heap.objs.size) (hit : it < s.heap.objs.size) (hn : n ≤ sizeLine)
    (hQ : ∀ (h' : Heap) (tk : Nat) (as : List Addr), (∀ b o, b ≠ e → b ≠ it → s.heap.get? b = some o → h'.get? b = some o) → as.length = n → MadeE P (s.heap.objs.size + 1) h' as → s.heap.objs.size < h'.objs.size → Q (as.map Value.ref) { s with heap := h', toks := tk }) :
    wpAny (model prog w) A (collect (.ref e)) Q E s := by
  have hel : e < s.heap.objs.size := Heap.lt_size he
  have hSe : s.heap.objs.size ≠ e := Nat.ne_of_gt hel
  have hSi : s.heap.objs.size ≠ it := Nat.ne_of_gt hit
  have hSf : s.heap.objs.size ∉ fp := fun hm => Nat.lt_irrefl _ (hfp _ hm)
  unfold collect
  refine wpAny_bind (wpAny_runValue (codeAny_builtin F.entry_proto_collect ?_))
  rw [Around.under_plainId F.plain_proto_collect _]
  show wpAny _ A.in1 (newList [] >>= fun l => again (.builtin "list.__iadd__" ⟨[l, .ref e], []⟩)) _ _ s
  refine wpAny_bind (wpAny_newObj_type ?_)
  refine wpAny_pure ⟨plainId_quiet F.plain_list_iadd _, codeAny_builtin F.entry_list_iadd ?_⟩
  rw [Around.under_plainId F.plain_list_iadd _]
  have he₁ : IsEnum (s.heap.push { cls := .type "list", data := .seq ([] : List Value).toArray }) e it 0 old := Heap.get?_push_of_some _ he
  have hT₁ : ({ s with heap := s.heap.push { cls := .type "list", data := .seq ([] : List Value).toArray } } : Shared).TypeIs (.ref e) "enumerate" := ⟨_, he₁, rfl⟩
  have hst₁ : St 0 (s.heap.push { cls := .type "list", data := .seq ([] : List Value).toArray }) := D.frame _ _ _ hst fun b _ o e => Heap.get?_push_of_some _ e
  show wpAny _ A.in1 (Builtin.List.listExtendWith (.ref s.heap.objs.size) (.ref e) (.ref s.heap.objs.size)) _ _ _
  unfold Builtin.List.listExtendWith
  refine wpAny_bind (wpAny_typeOf hT₁ ?_)
  have h1 : Builtin.List.listSameRef (.ref s.heap.objs.size) (.ref e) = false := by simp [Builtin.List.listSameRef, hSe]
  have h2 : (Value.type "enumerate" == Value.type "list") = false := by decide
  have h3 : (Value.type "enumerate" == Value.type "tuple") = false := by decide
  simp only [h1, h2, h3, Bool.or_false, Bool.false_eq_true, if_false]
  refine wpAny_bind (wpAny_pyIter_enum (s := { s with heap := s.heap.push { cls := .type "list", data := .seq ([] : List Value).toArray } }) he₁ ?_)
  refine wpAny_bind (wpAny_holding ?_)
  unfold Builtin.List.listLengthHint
  refine wpAny_bind (wpAny_specialOf hT₁ nolen_en ?_)
  show wpAny _ A.in1 (specialOf (Value.ref e) (Str.ofString "__length_hint__") >>= _) _ _ _
  refine wpAny_bind (wpAny_specialOf hT₁ nohint_en ?_)
  refine wpAny_pure ?_
  show wpAny _ A.in1 (rule "list.extend.makes-room" >>= fun _ => Builtin.List.listTouch (.ref s.heap.objs.size) >>= fun _ =>
    again (.builtin "list.extend.loop" ⟨[.ref s.heap.objs.size, .ref e, .ref s.heap.objs.size], []⟩)) _ _ _
  refine wpAny_bind (wpAny_rule ?_)
  have hS₁ : (s.heap.push { cls := .type "list", data := .seq ([] : List Value).toArray }).get? s.heap.objs.size = some { cls := .type "list", data := .seq ([] : List Value).toArray } := Heap.get?_push_size _ rfl
  refine wpAny_bind ?_
  show wpAny _ A.in1 (updateSeq s.heap.objs.size (·.push .none) >>= fun _ => updateSeq s.heap.objs.size (·.pop)) _ _ _
  refine wpAny_bind (wpAny_updateSeq hS₁ rfl ?_)
  have hS₂ := Heap.get?_update_self (Obj.mapSeq (·.push Value.none)) hS₁ rfl
  refine wpAny_updateSeq hS₂ rfl ?_
  have hS₃ := Heap.get?_update_self (Obj.mapSeq (·.pop)) hS₂ rfl
  have oth : ∀ b o, b ≠ s.heap.objs.size → (s.heap.push { cls := .type "list", data := .seq ([] : List Value).toArray }).get? b = some o →
      (((s.heap.push { cls := .type "list", data := .seq ([] : List Value).toArray }).update s.heap.objs.size (Obj.mapSeq (·.push Value.none))).update s.heap.objs.size (Obj.mapSeq (·.pop))).get? b = some o :=
    fun b o hb e => (Heap.get?_update_other _ _ (Ne.symm hb)).trans ((Heap.get?_update_other _ _ (Ne.symm hb)).trans e)
  refine wpAny_pure ⟨plainId_quiet F.plain_extend_loop _, loopE (lo := s.heap.objs.size + 1) (h₁ := s.heap) D hne hef hSe hSi hSf (Nat.lt_succ_self _) (Nat.lt_succ_of_lt hel) (Nat.lt_succ_of_lt hit) hn _
    (fun h' tk acc c as hk hS' hl hG hacc => ?_) n 0 _ _ _ _ [] rfl (Nat.zero_le _) (.inl ⟨old, oth _ _ (Ne.symm hSe) he₁⟩) (D.frame _ _ _ hst₁ fun b hb o y => oth b o (fun q => hSf (q ▸ hb)) y)
    (fun b o h1 h2 h3 y => oth b o h1 (Heap.get?_push_of_some _ y)) hS₃ rfl rfl ⟨List.Pairwise.nil, (fun a ha => nomatch ha), (fun j a hj => by simp at hj)⟩ ?_⟩
  · show wpAny _ A (load s.heap.objs.size >>= _) _ _ _
    refine wpAny_bind (wpAny_load hS' ?_)
    refine wpAny_pure ?_
    show Q acc.toList _
    rw [hacc]
    exact hQ h' tk as (fun b o h2 h3 y => hk b o (Nat.ne_of_lt (Heap.lt_size y)) h2 h3 y) hl hG (Heap.lt_size hS')
  · exact Heap.lt_size hS₃
theorem code_tuple_new_enum {e it : Addr} {fp : List Addr} {n : Nat} {P : Nat → Value → Prop} {St : Nat → Heap → Prop} {old : Value} {Q₁ : Value → Shared → Prop} (D : Draws prog w A.in1.in1.in1 it fp n P St) (he : IsEnum s.heap e it 0 old) (hst : St 0 s.heap) (hne : e ≠ it) (hef : e ∉ fp)
    (hfp : ∀ b ∈ fp, b < s.heap.objs.size) (hit : it < s.heap.objs.size) (hn : n ≤ sizeLine)
    (h : ∀ (h' : Heap) (tk : Nat) (as : List Addr), (∀ b o, b ≠ e → b ≠ it → s.heap.get? b = some o → h'.get? b = some o) → as.length = n → MadeE P (s.heap.objs.size + 1) h' as → s.heap.objs.size < h'.objs.size →
      Q₁ (.ref h'.objs.size) { s with heap := h'.push { cls := .type "tuple", data := .seq (as.map Value.ref).toArray }, toks := tk }) :
    codeAny (model prog w) A (.call (.builtin "tuple.__new__") ⟨[.type "tuple", .ref e], []⟩) (wants Q₁ E) s := by
  refine codeAny_of_tree ?_
  show wpAny _ A.in1 (do checkBuiltinCall "tuple.__new__" ⟨[.type "tuple", .ref e], []⟩; again (.builtin "tuple.__new__" ⟨[.type "tuple", .ref e], []⟩)) _ _ s
  refine wpAny_bind (wpAny_of_eq (F.newCall_tuple_1 _) (wpAny_pure ⟨plainId_quiet F.plain_tuple_new _, codeAny_builtin F.entry_tuple_new ?_⟩))
  rw [Around.under_plainId F.plain_tuple_new _]
  have hsub := sub_tuple_self
  have hinit := init_tuple_lookup
  have hmh := madeHere_tuple
  have hTI : s.TypeIs (.ref e) "enumerate" := ⟨_, he, rfl⟩
  wp_walk using wpAny_typeOf hTI, collectE (A := A.in1) D he hst hne hef hfp hit hn
  intro h' tk as hk hl hG hsz
  show wpAny _ _ (Builtin.Tuple.tupleExact (as.map Value.ref).toArray >>= fun v => ret v) _ _ _
  unfold Builtin.Tuple.tupleExact
  refine wpAny_bind (wpAny_newObj_type ?_ (by show (as.map Value.ref).toArray.size ≤ sizeLine; simp only [List.size_toArray, List.length_map]; rw [hl]; exact hn))
  refine wpAny_pure ?_
  exact h h' tk as hk hl hG hsz
theorem call_tuple_enum {e it : Addr} {fp : List Addr} {n : Nat} {P : Nat → Value → Prop} {St : Nat → Heap → Prop} {old : Value} {Q : Value → Shared → Prop} (D : Draws prog w A.in1.in1.in1.in1 it fp n P St) (he : IsEnum s.heap e it 0 old) (hst : St 0 s.heap) (hne : e ≠ it) (hef : e ∉ fp)
    (hfp : ∀ b ∈ fp, b < s.heap.objs.size) (hit : it < s.heap.objs.size) (hn : n ≤ sizeLine)
    (hQ : ∀ (h' : Heap) (tk : Nat) (as : List Addr), (∀ b o, b ≠ e → b ≠ it → s.heap.get? b = some o → h'.get? b = some o) → as.length = n → MadeE P (s.heap.objs.size + 1) h' as → s.heap.objs.size < h'.objs.size →
      Q (.ref h'.objs.size) { s with heap := h'.push { cls := .type "tuple", data := .seq (as.map Value.ref).toArray }, toks := tk }) :
    wpAny (model prog w) A (call (.type "tuple") [.ref e]) Q E s := by
  refine callType_codes (Q₁ := fun obj s₁ => s₁.TypeIs obj "tuple" ∧ Q obj s₁) F.called_tuple (F.typeCall_tuple_1 _) F.entry_object_init
    (code_tuple_new_enum (A := A.in1) D he hst hne hef hfp hit hn fun h' tk as hk hl hG hsz => ⟨⟨_, Heap.get?_push_size _ rfl, rfl⟩, hQ h' tk as hk hl hG hsz⟩) fun obj s₁ h₁ => ?_
  exact ⟨h₁.1, F.args_object_init_2 obj _, object_init_meets F.called_tuple.init.lookup F.called_tuple.made (by decide) prog w A.in1 _ s₁ ⟨h₁.1, rfl, h₁.2⟩⟩
end
end PxTE
end PySem
set_option Elab.async false
set_option linter.all false
set_option maxRecDepth 100000
set_option maxHeartbeats 2000000
namespace PySem
namespace PxTE
open PySem PySem.Spec PyProof.Rows L2
def tTupEn (K : PySem.W.Frag) (ta : TA) : TE := fun σ H Q => ta σ H fun vs H1 => ∃ a xs, vs = [.ref a] ∧ SqT K H1 a xs ∧ ∀ (H2 : Hp) (T : Addr) (Ts : List Addr), (∀ b o, H1 b = some o → H2 b = some o) → H1 T = none → (∀ b ∈ Ts, H1 b = none) → T ∉ Ts → Ts.Nodup →
  H2 T = some (.tup (Ts.map V.ref)) → Ts.length = xs.length → (∀ (j : Nat) (b : Addr), Ts[j]? = some b → ∃ x, xs[j]? = some x ∧ H2 b = some (.tup [.int (j : Nat), x])) → Q (.ref T) H2
theorem pe_tupEnum {X : Cx} {e : Expr} {ta : TA} {p pe pos q : Pos} (hc : X.calm = true) (hg : Gl X "tuple") (hm : X.mg "tuple" = none) (hg2 : Gl X "enumerate") (hm2 : X.mg "enumerate" = none) (ha : PA X [e] ta) (hs : starEach [e] X.env = [(false, eval e X.env)]) :
    PE X (.Call (.Name "tuple" p) [.Call (.Name "enumerate" pe) [e] [] q] [] pos) (tTupEn X.K ta) := by
  refine ⟨fun pins s σ H Q I h => ?_⟩
  refine wpAny_Call_Name_kw (ld_blt I hg hm boot_tuple ?_ (by decide) (by decide))
  refine PyProof.Rows.callWith_type1 ?_ rfl rfl
  show wpAny _ _ (spliced ((false, eval (.Call (.Name "enumerate" pe) [e] [] q) X.env) :: backTo pos (starEach [] X.env))) _ _ s
  refine Calls.spliced_cons ?_
  refine wpAny_Call_Name_kw (ld_blt I hg2 hm2 boot_enumerate ?_ (by decide) (by decide))
  refine PyProof.Rows.callWith_type1 (thn (ha.run q pins s σ H _ I h) fun us s1 ⟨vs, H1, I1, r1, q1⟩ => ?_) hs rfl
  obtain ⟨a, xs, ex, hq, hQ⟩ := q1
  subst ex
  cases r1 with
  | cons r rr =>
    cases rr
    cases r
    obtain ⟨its, rv, p', hz⟩ := I1.tuple hq
    refine PxEn.call_enumT p' fun h' he hit hsz hk => ?_
    refine Calls.spliced_nil ?_
    have hsz' := hsz
    have p2 : h'.IsTuple a its.toArray := by obtain ⟨o, ho, r⟩ := p'; exact ⟨o, hk a o ho, r⟩
    have hal : a < s1.heap.objs.size := by obtain ⟨o, ho, _⟩ := p'; exact Heap.lt_size ho
    have hne : s1.heap.objs.size + 1 ≠ s1.heap.objs.size := Nat.succ_ne_self _
    have ha1 : a ≠ s1.heap.objs.size := Nat.ne_of_lt hal
    have ha2 : a ≠ s1.heap.objs.size + 1 := Nat.ne_of_lt (Nat.lt_succ_of_lt hal)
    have D := Draws.tuple (prog := X.prog) (w := X.w) (A := X.A.in1.in1.in1.in1) (I1.ok.hd hc) s1.heap.objs.size a ha1 its.toArray
    have hlen := rv.length
    refine call_tuple_enum (s := { s1 with heap := h' }) (old := .none) D he ⟨hit, p2⟩ hne (by simp; exact fun z => ha2 z.symm) (fun b hb => ?_) ?_ (by rw [List.size_toArray, ← hlen]; exact hz) fun h2 tk as hk2 hl hG hsz3 => ?_
    · have hz2 : ({ s1 with heap := h' } : Shared).heap.objs.size = s1.heap.objs.size + 2 := hsz'
      rw [hz2]
      rcases List.mem_cons.mp hb with rfl | hb
      · exact Nat.lt_succ_of_lt (Nat.lt_succ_self _)
      · rw [List.mem_singleton.mp hb]; exact Nat.lt_succ_of_lt (Nat.lt_succ_of_lt hal)
    · have hz2 : ({ s1 with heap := h' } : Shared).heap.objs.size = s1.heap.objs.size + 2 := hsz'
      rw [hz2]
      exact Nat.lt_succ_of_lt (Nat.lt_succ_self _)
    · have old : ∀ b o, s1.heap.get? b = some o → h2.get? b = some o := fun b o q => hk2 b o (Nat.ne_of_lt (Nat.lt_succ_of_lt (Heap.lt_size q))) (Nat.ne_of_lt (Heap.lt_size q)) (hk b o q)
      have old2 : ∀ b o, s1.heap.get? b = some o → (h2.push { cls := .type "tuple", data := .seq (as.map Value.ref).toArray }).get? b = some o := fun b o q => Heap.get?_push_of_some _ (old b o q)
      have I2 : Inv X pins σ H1 { s1 with heap := h2.push { cls := .type "tuple", data := .seq (as.map Value.ref).toArray }, toks := tk } := I1.kept (t' := tk) old2
      have lo : ∀ b ∈ as, s1.heap.objs.size ≤ b := fun b hb => by
        have h1 := hG.above b hb
        have hz2 : ({ s1 with heap := h' } : Shared).heap.objs.size = s1.heap.objs.size + 2 := hsz'
        rw [hz2] at h1
        exact Nat.le_trans (Nat.le_add_right _ 3) h1
      have hi : ∀ b ∈ as, b < h2.objs.size := fun b hb => by
        obtain ⟨j, hj⟩ := List.mem_iff_getElem?.mp hb
        obtain ⟨_, _, _, e3⟩ := hG.pairs j b hj
        exact Heap.lt_size e3
      have nT : h2.objs.size ∉ as := fun hm => Nat.lt_irrefl _ (hi _ hm)
      have nd : as.Nodup := hG.rise.imp fun h => Nat.ne_of_lt h
      have szT : s1.heap.objs.size ≤ h2.objs.size := by
        have hz2 : ({ s1 with heap := h' } : Shared).heap.objs.size = s1.heap.objs.size + 2 := hsz'
        rw [hz2] at hsz3
        exact Nat.le_trans (Nat.le_add_right _ 2) (Nat.le_of_lt hsz3)
      obtain ⟨H2, I3, gr, qt⟩ := DX.takeT (P := fun b vs => (b = h2.objs.size ∧ vs = as.map V.ref) ∨ ∃ (j : Nat) (x : V), as[j]? = some b ∧ xs[j]? = some x ∧ vs = [.int (j : Nat), x]) I1 (h2.objs.size :: as) H1 I2 (List.nodup_cons.mpr ⟨nT, nd⟩) fun b hb => by
        rcases List.mem_cons.mp hb with rfl | hb
        · refine ⟨szT, I1.hok.fresh szT, as.map V.ref, .inl ⟨rfl, rfl⟩, fun H3 => ⟨by rw [List.length_map, hl, List.size_toArray, ← hlen]; exact hz, as.map Value.ref, vals_maps (fun z : Addr => V.ref z) Value.ref as fun _ _ => rfl, ⟨_, Heap.get?_push_size _ rfl, rfl, _, rfl⟩⟩⟩
        · obtain ⟨j, hj⟩ := List.mem_iff_getElem?.mp hb
          obtain ⟨y, tk2, hy, e3⟩ := hG.pairs j b hj
          have hjl : j < xs.length := by
            have := (List.getElem?_eq_some_iff.mp hj).1
            rw [hl, List.size_toArray, ← hlen] at this
            exact this
          obtain ⟨u, hu, ru⟩ := rv.get (List.getElem?_eq_getElem hjl)
          have ey : y = u := by
            have : its.toArray[j]? = some u := by simpa using hu
            rw [hy] at this
            exact Option.some.inj this
          subst ey
          refine ⟨lo b hb, I1.hok.fresh (lo b hb), [.int (j : Nat), xs[j]], .inr ⟨j, xs[j], hj, List.getElem?_eq_getElem hjl, rfl⟩, fun H3 => ⟨by show 2 ≤ sizeLine; decide, [.int (j : Nat) tk2, y], .cons ⟨_, rfl⟩ (.cons ru .nil), ⟨_, Heap.get?_push_of_some _ e3, rfl, _, rfl⟩⟩⟩
      refine ⟨.ref h2.objs.size, H2, I3, rfl, hQ H2 h2.objs.size as gr (I1.hok.fresh szT) (fun b hb => I1.hok.fresh (lo b hb)) nT nd ?_ (by rw [hl, List.size_toArray, ← hlen]) fun j b hj => ?_⟩
      · obtain ⟨vs, hv, hH⟩ := qt h2.objs.size List.mem_cons_self
        rcases hv with ⟨_, rfl⟩ | ⟨j, x, hj, _, _⟩
        · exact hH
        · exact absurd (List.mem_of_getElem? hj) nT
      · have hb := List.mem_of_getElem? hj
        obtain ⟨vs, hv, hH⟩ := qt b (List.mem_cons_of_mem _ hb)
        rcases hv with ⟨rfl, _⟩ | ⟨j2, x, hj2, hx, rfl⟩
        · exact absurd hb nT
        · have eij : j = j2 := (List.getElem?_inj (List.getElem?_eq_some_iff.mp hj).1 nd).mp (hj.trans hj2.symm)
          subst eij
          exact ⟨x, hx, hH⟩
end PxTE
end PySem
set_option Elab.async false
set_option linter.all false
set_option maxRecDepth 100000
set_option maxHeartbeats 2000000
namespace Px
open PySem
section
variable {G : XG} {K : PySem.W.Frag} {r : List Addr} {F H H2 : L2.Hp} {W : Value → Option Addr → L2.Hp → Prop}
theorem Post.okN {α β : Type} {v : α} {m : Mem} {rel : List Addr → L2.Hp → α → β → Prop} {Q : β → L2.Hp → Prop} {V : β} (h : Post G K r F H (.ok v m) rel Q W) (hm : RM K r F m H) (L : List Addr) (hN : ∀ b ∈ L, H b = none) (he : ∀ b o, H b = some o → H2 b = some o)
    (ht : ∀ b ∈ L, ∃ vs, H2 b = some (.tup vs)) (hv : ∀ F2 : L2.Hp, L2.Same F F2 → (∀ b ∈ L, F2 b = H2 b) → rel r F2 v V) : Q V H2 := by
  obtain ⟨F2, hF2⟩ : ∃ F2 : L2.Hp, F2 = fun b => if b ∈ L then H2 b else F b := ⟨_, rfl⟩
  have f1 : ∀ b ∈ L, F2 b = H2 b := fun b hb => by rw [hF2]; exact if_pos hb
  have f2 : ∀ b, b ∉ L → F2 b = F b := fun b hb => by rw [hF2]; exact if_neg hb
  have nL : ∀ b o, H b = some o → b ∉ L := fun b o e hb => by rw [hN b hb] at e; cases e
  have sF : L2.Same F F2 := fun b o e => by rw [f2 b (nL b o (hm.sub b o e))]; exact e
  refine h r F2 H2 V ⟨List.prefix_refl _, sF, fun a o h1 h2 h3 => ⟨he a o h1, by rw [f2 a (nL a o h1)]; exact h2, h3⟩⟩ ?_ (hv F2 sF f1)
  refine { sub := fun b o e => ?_, len := hm.len, nd := hm.nd, fr := fun l a e => ?_, obs := fun l a o e1 e2 => ?_, liv := fun a ha => ?_, nf := fun a o u e => ?_ }
  · by_cases hb : b ∈ L
    · rw [f1 b hb] at e; exact e
    · rw [f2 b hb] at e; exact he b o (hm.sub b o e)
  · obtain ⟨o, ho⟩ := hm.liv a (List.mem_of_getElem? e)
    rw [f2 a (nL a o ho)]; exact hm.fr l a e
  · obtain ⟨o', ho⟩ := hm.liv a (List.mem_of_getElem? e1)
    exact (hm.obs l a o e1 e2).mono (List.prefix_refl _) sF ((he a o' ho).trans ho.symm)
  · obtain ⟨o, ho⟩ := hm.liv a ha
    exact ⟨o, he a o ho⟩
  · by_cases ha : a ∈ L
    · rw [f1 a ha] at e
      obtain ⟨vs, q⟩ := ht a ha
      rw [q] at e; cases e
    · rw [f2 a ha] at e; exact hm.nf a o u e
theorem rvs_of : ∀ {xs : List PV} {vs : List L2.V}, xs.length = vs.length → (∀ (j : Nat) (x : PV) (v : L2.V), xs[j]? = some x → vs[j]? = some v → RV K r F x v) → RVs K r F xs vs
  | [], [], _, _ => .nil
  | x :: xs, v :: vs, hl, h => .cons (h 0 x v rfl rfl) (rvs_of (by simpa using hl) fun j y u h1 h2 => h (j + 1) y u h1 h2)
  | [], _ :: _, hl, _ => by simp at hl
  | _ :: _, [], hl, _ => by simp at hl
theorem rvs_at {xs : List PV} {vs : List L2.V} (t : RVs K r F xs vs) : ∀ (j : Nat) (v : L2.V), vs[j]? = some v → ∃ x, xs[j]? = some x ∧ RV K r F x v := by
  induction vs generalizing xs with
  | nil => intro j v h; simp at h
  | cons u vs ih =>
    cases t with
    | cons a b =>
      intro j v h
      cases j with
      | zero => simp only [List.getElem?_cons_zero, Option.some.injEq] at h; subst h; exact ⟨_, rfl, a⟩
      | succ j => exact ih b j v (by simpa using h)
end
section
variable {G : XG} {X : L2.Cx} {c : Chk} {Γ : Call} {n : Nat} {s : Sc} {W : L2.WX} {a : Ex} {x : Expr} {pos p2 p3 p4 : Pos}
theorem e_ten0 (g : Good X c s n) (gf : GF G X c Γ n) (h2 : s.gl "tuple" = true) (h3 : s.gl "enumerate" = true) (hs : noStar x = true) (ha : L2.PE X x (upE G X.K Γ W a)) :
    L2.PE X (.Call (.Name "tuple" p2) [.Call (.Name "enumerate" p3) [x] [] p4] [] pos) (up G X.K W (RV X.K) fun η m => (evE Γ a η m).bind fun v m1 => tenQ m1 v) := by
  refine PE_imp (PxTE.pe_tupEnum g.calm (gl_of g h2) (gf.blt _ (by decide)) (gl_of g h3) (gf.blt _ (by decide)) (a_one hs ha) (star_cons hs)) fun σ H Q ⟨r, F, η, m, R, re, h⟩ => ⟨r, F, η, m, R, re, ?_⟩
  simp only [evEs, bind_assoc, Res.bind_ok]
  dsimp only at h
  cases e : evE Γ a η m with
  | ok v m1 =>
    rw [e] at h
    intro r1 F1 H1 V x1 R1 hv
    cases hv with
    | cons hv t =>
      cases t
      have h := Post.mono x1 h
      simp only [Res.bind_ok] at h
      cases v with
      | tup xs =>
        simp only [tenQ] at h
        cases hv with
        | @tup _ b vs hq t =>
          refine ⟨_, vs, rfl, sqT_mono R1.sub hq, fun H2 T Ts hk hT hTs nT nd hTT hl hp => ?_⟩
          refine Post.okN h R1 (T :: Ts) (fun b hb => ?_) hk (fun b hb => ?_) fun F2 sF f2 => ?_
          · rcases List.mem_cons.mp hb with rfl | hb
            · exact hT
            · exact hTs b hb
          · rcases List.mem_cons.mp hb with rfl | hb
            · exact ⟨_, hTT⟩
            · obtain ⟨j, hj⟩ := List.mem_iff_getElem?.mp hb
              obtain ⟨y, _, hy⟩ := hp j b hj
              exact ⟨_, hy⟩
          · refine .tup (.inl (.inl ((f2 T List.mem_cons_self).trans hTT))) (rvs_of (by simp [enumV, hl, t.len]) fun j z u h1 h2 => ?_)
            rw [List.getElem?_map] at h2
            cases hb : Ts[j]? with
            | none => rw [hb] at h2; simp at h2
            | some b =>
              rw [hb] at h2
              simp only [Option.map_some, Option.some.injEq] at h2
              subst h2
              obtain ⟨y, hy, hH⟩ := hp j b hb
              obtain ⟨w, hw, hr⟩ := rvs_at t j y hy
              have hjl : j < xs.length := (List.getElem?_eq_some_iff.mp hw).1
              have ez : z = .tup [.int j, w] := by
                simp only [enumV, List.getElem?_map, List.getElem?_range hjl, Option.map_some, Option.some.injEq] at h1
                rw [← h1, List.getD_eq_getElem?_getD, hw]; rfl
              subst ez
              exact .tup (.inl (.inl ((f2 b (List.mem_cons_of_mem _ (List.mem_of_getElem? hb))).trans hH))) (.cons (.int _) (.cons (hr.mono (List.prefix_refl _) sF) .nil))
      | _ => exact h.elim
  | ex v m1 => rw [e] at h; exact h
  | no => rw [e] at h; exact h
theorem e_ten (g : Good X c s n) (gf : GF G X c Γ n) (h2 : s.gl "tuple" = true) (h3 : s.gl "enumerate" = true) (hs : noStar x = true) (ha : L2.PE X x (upE G X.K Γ W a)) :
    L2.PE X (.Call (.Name "tuple" p2) [.Call (.Name "enumerate" p3) [x] [] p4] [] pos) (upE G X.K Γ W (.ten a)) := by
  refine PE_imp (e_ten0 g gf h2 h3 hs ha) fun σ H Q ⟨r, F, η, m, R, re, h⟩ => ⟨r, F, η, m, R, re, ?_⟩
  simp only [evE] at h
  exact h
end
end Px
set_option Elab.async false
set_option linter.all false
set_option maxRecDepth 100000
set_option maxHeartbeats 2000000
namespace Px
open PySem
structure Ext (r : List Addr) (F : L2.Hp) (r' : List Addr) (F' : L2.Hp) : Prop where
  pre : r <+: r'
  sub : L2.Same F F'
theorem Ext.refl (r : List Addr) (F : L2.Hp) : Ext r F r F := ⟨List.prefix_refl _, L2.Same.refl _⟩
theorem Ext.trans {r r1 r2 : List Addr} {F F1 F2 : L2.Hp} (x : Ext r F r1 F1) (y : Ext r1 F1 r2 F2) : Ext r F r2 F2 := ⟨x.pre.trans y.pre, x.sub.trans y.sub⟩
theorem Xt.ext {r r' : List Addr} {F F' H H' : L2.Hp} (x : Xt r F H r' F' H') : Ext r F r' F' := ⟨x.pre, x.sub⟩
structure Wk (K : PySem.W.Frag) (r : List Addr) (F H : L2.Hp) (J : L2.It) (s : Src) : Prop where
  go : ∀ (i : Nat) r' F' m' H', Ext r F r' F' → RM K r' F' m' H' → guards s.2 m' = true → i < s.1.length → J.go i H'
  yl : ∀ (i : Nat) r' F' m' H' x H'', Ext r F r' F' → RM K r' F' m' H' → guards s.2 m' = true → i < s.1.length → J.yld i H' x H'' → ∃ F'', Xt r' F' H' r' F'' H'' ∧ RM K r' F'' m' H'' ∧ ∃ v, s.1[i]? = some v ∧ RV K r' F'' v x
  st : ∀ r' F' m' H', Ext r F r' F' → RM K r' F' m' H' → guards s.2 m' = true → J.stop s.1.length H'
theorem Wk.mono1 {K : PySem.W.Frag} {r r1 : List Addr} {F H F1 H1 : L2.Hp} {J : L2.It} {s : Src} (x : Ext r F r1 F1) (w : Wk K r F H J s) : Wk K r1 F1 H1 J s :=
  ⟨fun i r' F' m' H' y => w.go i r' F' m' H' (x.trans y), fun i r' F' m' H' v H'' y => w.yl i r' F' m' H' v H'' (x.trans y), fun r' F' m' H' y => w.st r' F' m' H' (x.trans y)⟩
theorem Wk.mono {K : PySem.W.Frag} {r r1 : List Addr} {F H F1 H1 : L2.Hp} {J : L2.It} {s : Src} (x : Xt r F H r1 F1 H1) (w : Wk K r F H J s) : Wk K r1 F1 H1 J s := w.mono1 x.ext
def PostI (G : XG) (K : PySem.W.Frag) (r : List Addr) (F H : L2.Hp) (res : Res Src) (Q : L2.It → L2.Hp → Prop) (W : Value → Option Addr → L2.Hp → Prop) : Prop :=
  match res with
  | .ok s m => ∀ r' F' H' J, Xt r F H r' F' H' → RM K r' F' m H' → Wk K r' F' H' J s → Q J H'
  | .ex x m => ∀ r' F' H' C d, Xt r F H r' F' H' → RM K r' F' m H' → G x.cls = some C → RX K r' F' H' x d → W C d H'
  | .no => False
section
variable {G : XG} {K : PySem.W.Frag} {r r' : List Addr} {F F' H H' : L2.Hp} {α β γ δ : Type} {W W' : Value → Option Addr → L2.Hp → Prop}
theorem PostI.mono {res : Res Src} {Q : L2.It → L2.Hp → Prop} (x : Xt r F H r' F' H') (h : PostI G K r F H res Q W) : PostI G K r' F' H' res Q W := by
  cases res with
  | ok v m => exact fun r2 F2 H2 V h1 h3 h4 => h r2 F2 H2 V (x.trans h1) h3 h4
  | ex y m => exact fun r2 F2 H2 C d h1 h3 h4 h5 => h r2 F2 H2 C d (x.trans h1) h3 h4 h5
  | no => exact h
theorem PostI.step {res : Res α} {f : α → Mem → Res Src} {rel1 : List Addr → L2.Hp → α → β → Prop} {Q : L2.It → L2.Hp → Prop} (h : PostI G K r F H (res.bind f) Q W) :
    Post G K r F H res rel1 (fun V H1 => ∃ r1 F1 v m1, Xt r F H r1 F1 H1 ∧ RM K r1 F1 m1 H1 ∧ rel1 r1 F1 v V ∧ PostI G K r1 F1 H1 (f v m1) Q W) W := by
  cases res with
  | ok v m => exact fun r2 F2 H2 V h1 h3 h4 => ⟨r2, F2, v, m, h1, h3, h4, PostI.mono h1 h⟩
  | ex x m => exact h
  | no => exact h
theorem PostI.ok {s : Src} {m : Mem} {Q : L2.It → L2.Hp → Prop} {J : L2.It} (h : PostI G K r F H (.ok s m) Q W) (hm : RM K r F m H) (w : Wk K r F H J s) : Q J H := h r F H J (Xt.refl _ _ _) hm w
theorem later {m m' : Mem} {x : PV} {xs : List PV} {a : Addr} (hm : RM K r F m H) (hx : RV K r F x (.ref a)) (e : asS m x = some xs) (X1 : Ext r F r' F') (R' : RM K r' F' m' H') (hg : guards (gOf x xs) m' = true) :
    ∃ vs, (if isTup x = true then L2.SqT K H' a vs else L2.SqL K H' a vs) ∧ RVs K r' F' xs vs := by
  cases hx with
  | tup h1 h2 =>
    simp only [asS, Option.some.injEq] at e; subst e
    exact ⟨_, by rw [if_pos (show isTup (.tup _) = true from rfl)]; exact sqT_mono (X1.sub.trans R'.sub) h1, h2.mono X1.pre X1.sub⟩
  | lst h1 h2 =>
    simp only [asS, asL, Option.some.injEq] at e; subst e
    exact ⟨_, by rw [if_neg (by simp [isTup])]; exact .inl (rd_mono (X1.sub.trans R'.sub) h1), h2.mono X1.pre X1.sub⟩
  | @loc l a q =>
    simp only [gOf, guards, List.all_cons, List.all_nil, Bool.and_true] at hg
    split at hg
    · rename_i ys e2
      obtain rfl := PV.beqA_eq _ _ hg
      obtain ⟨vs, h2, h3⟩ := R'.obs l a _ (pre_get X1.pre q) e2
      exact ⟨vs, by rw [if_neg (by simp [isTup])]; exact .inl (.inl h3), h2⟩
    · cases hg
  | scr q => simp [asS, asL] at e
  | dic h1 h2 h3 => simp [asS, asL] at e
theorem get_lt {xs : List PV} {vs : List L2.V} {i : Nat} (t : RVs K r F xs vs) (h : i < xs.length) : ∃ x v, xs[i]? = some x ∧ vs[i]? = some v ∧ RV K r F x v := by
  obtain ⟨v, h1, h2⟩ := t.get (List.getElem?_eq_getElem h)
  exact ⟨_, v, List.getElem?_eq_getElem h, h1, h2⟩
theorem wk_list {m : Mem} {x : PV} {xs : List PV} {a : Addr} (hm : RM K r F m H) (hx : RV K r F x (.ref a)) (e : asS m x = some xs) (ht : isTup x = false) : Wk K r F H (L2.Itl K a) (xs, gOf x xs) := by
  refine ⟨fun i r' F' m' H' x1 R' hg hi => ?_, fun i r' F' m' H' v H'' x1 R' hg hi y => ?_, fun r' F' m' H' x1 R' hg => ?_⟩
  all_goals obtain ⟨vs, q, t⟩ := later hm hx e x1 R' hg
  all_goals rw [if_neg (by rw [ht]; exact Bool.false_ne_true)] at q
  · obtain ⟨_, v, _, h2, _⟩ := get_lt t hi
    exact ⟨vs, v, q, h2⟩
  · obtain ⟨u, w, h1, h2, h3⟩ := get_lt t hi
    obtain ⟨rfl, y⟩ := y
    have := y vs q
    rw [h2] at this; cases this
    exact ⟨F', Xt.refl _ _ _, R', u, h1, h3⟩
  · exact ⟨vs, q, by rw [← t.len]; exact Nat.le_refl _⟩
theorem wk_tup {m : Mem} {x : PV} {xs : List PV} {a : Addr} (hm : RM K r F m H) (hx : RV K r F x (.ref a)) (e : asS m x = some xs) (ht : isTup x = true) : Wk K r F H (L2.Itt K a) (xs, gOf x xs) := by
  refine ⟨fun i r' F' m' H' x1 R' hg hi => ?_, fun i r' F' m' H' v H'' x1 R' hg hi y => ?_, fun r' F' m' H' x1 R' hg => ?_⟩
  all_goals obtain ⟨vs, q, t⟩ := later hm hx e x1 R' hg
  all_goals rw [if_pos ht] at q
  · obtain ⟨_, v, _, h2, _⟩ := get_lt t hi
    exact ⟨vs, v, q, h2⟩
  · obtain ⟨u, w, h1, h2, h3⟩ := get_lt t hi
    obtain ⟨rfl, y⟩ := y
    have := y vs q
    rw [h2] at this; cases this
    exact ⟨F', Xt.refl _ _ _, R', u, h1, h3⟩
  · exact ⟨vs, q, by rw [← t.len]; exact Nat.le_refl _⟩
theorem wk_str {z : Str} : Wk K r F H (L2.Its z) (z.cps.toList.map fun c => PV.str ⟨#[c]⟩, []) := by
  refine ⟨fun i r' F' m' H' x1 R' hg hi => ?_, fun i r' F' m' H' v H'' x1 R' hg hi y => ?_, fun r' F' m' H' x1 R' hg => ?_⟩
  · show i < z.cps.size
    simpa using hi
  · obtain ⟨rfl, cc, h1, rfl⟩ := y
    exact ⟨F', Xt.refl _ _ _, R', _, by rw [List.getElem?_map]; simp [h1], .str _⟩
  · show z.cps.size ≤ _
    simp
theorem rangeV_get {a : Int} {n i : Nat} (h : i < n) : (rangeV a n)[i]? = some (.int (a + i)) := by
  unfold rangeV
  rw [List.getElem?_map, List.getElem?_range h]; rfl
theorem rangeC_get {a d : Int} {n i : Nat} (h : i < n) : (rangeC a d n)[i]? = some (.int (a + i * d)) := by
  unfold rangeC
  rw [List.getElem?_map, List.getElem?_range h]; rfl
theorem rangeV_len (a : Int) (n : Nat) : (rangeV a n).length = n := by unfold rangeV; rw [List.length_map, List.length_range]
theorem rangeC_len (a d : Int) (n : Nat) : (rangeC a d n).length = n := by unfold rangeC; rw [List.length_map, List.length_range]
theorem wk_rg {a : Int} {n : Nat} : Wk K r F H (L2.Itr a n) (rangeV a n, []) := by
  refine ⟨fun i r' F' m' H' x1 R' hg hi => ?_, fun i r' F' m' H' v H'' x1 R' hg hi y => ?_, fun r' F' m' H' x1 R' hg => ?_⟩
  · rw [rangeV_len] at hi; exact hi
  · rw [rangeV_len] at hi
    obtain ⟨rfl, rfl⟩ := y
    exact ⟨F', Xt.refl _ _ _, R', _, rangeV_get hi, .int _⟩
  · show n ≤ _
    rw [rangeV_len]; exact Nat.le_refl _
theorem wk_rc {a d : Int} {n : Nat} : Wk K r F H (L2.Itc a d n) (rangeC a d n, []) := by
  refine ⟨fun i r' F' m' H' x1 R' hg hi => ?_, fun i r' F' m' H' v H'' x1 R' hg hi y => ?_, fun r' F' m' H' x1 R' hg => ?_⟩
  · rw [rangeC_len] at hi; exact hi
  · rw [rangeC_len] at hi
    obtain ⟨rfl, rfl⟩ := y
    exact ⟨F', Xt.refl _ _ _, R', _, rangeC_get hi, .int _⟩
  · show n ≤ _
    rw [rangeC_len]; exact Nat.le_refl _
theorem enumV_len (xs : List PV) : (enumV xs).length = xs.length := by unfold enumV; rw [List.length_map, List.length_range]
theorem enumV_get {xs : List PV} {i : Nat} {x : PV} (h : xs[i]? = some x) : (enumV xs)[i]? = some (.tup [.int i, x]) := by
  unfold enumV
  rw [List.getElem?_map, List.getElem?_range (List.getElem?_eq_some_iff.mp h).1]
  simp [h]
theorem new_pair {m : Mem} {T : Addr} {x y : PV} {V U : L2.V} (R : RM K r F m H) (hT : H T = none) (hx : RV K r F x V) (hy : RV K r F y U) :
    ∃ F'', Xt r F H r F'' (L2.upd H T (.tup [V, U])) ∧ RM K r F'' m (L2.upd H T (.tup [V, U])) ∧ RV K r F'' (.tup [x, y]) (.ref T) :=
  ⟨L2.upd F T (.tup [V, U]), Xt.froze R hT, (R.frozen hT).1, .tup (.inl (.inl L2.upd_same)) (.cons (hx.mono (List.prefix_refl _) (R.frozen hT).2) (.cons (hy.mono (List.prefix_refl _) (R.frozen hT).2) .nil))⟩
theorem wk_enum {m : Mem} {x : PV} {xs : List PV} {a : Addr} (hm : RM K r F m H) (hx : RV K r F x (.ref a)) (e : asS m x = some xs) (ht : isTup x = false) : Wk K r F H (L2.Ite K a) (enumV xs, gOf x xs) := by
  refine ⟨fun i r' F' m' H' x1 R' hg hi => ?_, fun i r' F' m' H' v H'' x1 R' hg hi y => ?_, fun r' F' m' H' x1 R' hg => ?_⟩
  all_goals obtain ⟨vs, q, t⟩ := later hm hx e x1 R' hg
  all_goals rw [if_neg (by rw [ht]; exact Bool.false_ne_true)] at q
  · rw [enumV_len] at hi
    obtain ⟨_, v, _, h2, _⟩ := get_lt t hi
    exact ⟨vs, v, q, h2⟩
  · rw [enumV_len] at hi
    obtain ⟨u, w, h1, h2, h3⟩ := get_lt t hi
    obtain ⟨T, w', rfl, hT, rfl, y⟩ := y
    have := y vs q
    rw [h2] at this; cases this
    obtain ⟨F'', g1, g2, g3⟩ := new_pair R' hT (.int (i : Int)) h3
    exact ⟨F'', g1, g2, _, enumV_get h1, g3⟩
  · exact ⟨vs, q, by rw [enumV_len, ← t.len]; exact Nat.le_refl _⟩
theorem wk_enumT {m : Mem} {x : PV} {xs : List PV} {a : Addr} (hm : RM K r F m H) (hx : RV K r F x (.ref a)) (e : asS m x = some xs) (ht : isTup x = true) : Wk K r F H (PxEn.IteT K a) (enumV xs, gOf x xs) := by
  refine ⟨fun i r' F' m' H' x1 R' hg hi => ?_, fun i r' F' m' H' v H'' x1 R' hg hi y => ?_, fun r' F' m' H' x1 R' hg => ?_⟩
  all_goals obtain ⟨vs, q, t⟩ := later hm hx e x1 R' hg
  all_goals rw [if_pos ht] at q
  · rw [enumV_len] at hi
    obtain ⟨_, v, _, h2, _⟩ := get_lt t hi
    exact ⟨vs, v, q, h2⟩
  · rw [enumV_len] at hi
    obtain ⟨u, w, h1, h2, h3⟩ := get_lt t hi
    obtain ⟨T, w', rfl, hT, rfl, y⟩ := y
    have := y vs q
    rw [h2] at this; cases this
    obtain ⟨F'', g1, g2, g3⟩ := new_pair R' hT (.int (i : Int)) h3
    exact ⟨F'', g1, g2, _, enumV_get h1, g3⟩
  · exact ⟨vs, q, by rw [enumV_len, ← t.len]⟩
theorem zipV_len (xs ys : List PV) : (zipV xs ys).length = min xs.length ys.length := by unfold zipV; rw [List.length_map, List.length_range]
theorem zipV_get {xs ys : List PV} {i : Nat} {x y : PV} (h : xs[i]? = some x) (h' : ys[i]? = some y) : (zipV xs ys)[i]? = some (.tup [x, y]) := by
  have h1 := (List.getElem?_eq_some_iff.mp h).1
  have h2 := (List.getElem?_eq_some_iff.mp h').1
  unfold zipV
  rw [List.getElem?_map, List.getElem?_range (by omega)]
  simp [h, h']
theorem guards_app {g1 g2 : List (Nat × List PV)} {m : Mem} (h : guards (g1 ++ g2) m = true) : guards g1 m = true ∧ guards g2 m = true := by
  unfold guards at *
  rw [List.all_append, Bool.and_eq_true] at h
  exact h
theorem wk_zipX {m : Mem} {x y : PV} {xs ys : List PV} {a b : Addr} (hm : RM K r F m H) (hx : RV K r F x (.ref a)) (hy : RV K r F y (.ref b)) (e : asS m x = some xs) (e' : asS m y = some ys) :
    Wk K r F H (PxZip.ItzX K (isTup x) (isTup y) a b) (zipV xs ys, gOf x xs ++ gOf y ys) := by
  refine ⟨fun i r' F' m' H' x1 R' hg hi => ?_, fun i r' F' m' H' v H'' x1 R' hg hi y => ?_, fun r' F' m' H' x1 R' hg => ?_⟩
  all_goals obtain ⟨vs, q, t⟩ := later hm hx e x1 R' (guards_app hg).1
  all_goals obtain ⟨ws, q', t'⟩ := later hm hy e' x1 R' (guards_app hg).2
  · rw [zipV_len] at hi
    obtain ⟨_, v, _, h2, _⟩ := get_lt t (show i < xs.length by omega)
    obtain ⟨_, w, _, h4, _⟩ := get_lt t' (show i < ys.length by omega)
    exact ⟨vs, ws, v, w, q, q', h2, h4⟩
  · rw [zipV_len] at hi
    obtain ⟨u, w, h1, h2, h3⟩ := get_lt t (show i < xs.length by omega)
    obtain ⟨u', w', h1', h2', h3'⟩ := get_lt t' (show i < ys.length by omega)
    obtain ⟨T, z, z', rfl, hT, rfl, y, y'⟩ := y
    have := y vs q
    rw [h2] at this; cases this
    have := y' ws q'
    rw [h2'] at this; cases this
    obtain ⟨F'', g1, g2, g3⟩ := new_pair R' hT h3 h3'
    exact ⟨F'', g1, g2, _, zipV_get h1 h1', g3⟩
  · refine ⟨vs, ws, q, q', ?_⟩
    rw [zipV_len, ← t.len, ← t'.len]
    omega
theorem rev_get {α : Type} {xs : List α} {i : Nat} (h : i < xs.length) : xs.reverse[i]? = xs[xs.length - 1 - i]? := by
  rw [List.getElem?_reverse h]
theorem wk_rev {m : Mem} {x : PV} {xs : List PV} {a : Addr} {n : Nat} (hm : RM K r F m H) (hx : RV K r F x (.ref a)) (e : asS m x = some xs) (ht : isTup x = false) (hn : n = xs.length) : Wk K r F H (L2.Itv K a n) (xs.reverse, gOf x xs) := by
  subst hn
  refine ⟨fun i r' F' m' H' x1 R' hg hi => ?_, fun i r' F' m' H' v H'' x1 R' hg hi y => ?_, fun r' F' m' H' x1 R' hg => ?_⟩
  all_goals obtain ⟨vs, q, t⟩ := later hm hx e x1 R' hg
  all_goals rw [if_neg (by rw [ht]; exact Bool.false_ne_true)] at q
  · rw [List.length_reverse] at hi
    obtain ⟨_, v, _, h2, _⟩ := get_lt t (show xs.length - 1 - i < xs.length by omega)
    exact ⟨hi, vs, v, q, h2⟩
  · rw [List.length_reverse] at hi
    obtain ⟨u, w, h1, h2, h3⟩ := get_lt t (show xs.length - 1 - i < xs.length by omega)
    obtain ⟨rfl, y⟩ := y
    have := y vs q
    rw [h2] at this; cases this
    exact ⟨F', Xt.refl _ _ _, R', u, by rw [rev_get hi]; exact h1, h3⟩
  · show xs.length ≤ _
    rw [List.length_reverse]; exact Nat.le_refl _
theorem wk_revT {m : Mem} {x : PV} {xs : List PV} {a : Addr} {n : Nat} (hm : RM K r F m H) (hx : RV K r F x (.ref a)) (e : asS m x = some xs) (ht : isTup x = true) (hn : n = xs.length) : Wk K r F H (RT.ItvT K a n) (xs.reverse, gOf x xs) := by
  subst hn
  refine ⟨fun i r' F' m' H' x1 R' hg hi => ?_, fun i r' F' m' H' v H'' x1 R' hg hi y => ?_, fun r' F' m' H' x1 R' hg => ?_⟩
  all_goals obtain ⟨vs, q, t⟩ := later hm hx e x1 R' hg
  all_goals rw [if_pos ht] at q
  · rw [List.length_reverse] at hi
    obtain ⟨_, v, _, h2, _⟩ := get_lt t (show xs.length - 1 - i < xs.length by omega)
    exact ⟨hi, vs, v, q, h2⟩
  · rw [List.length_reverse] at hi
    obtain ⟨u, w, h1, h2, h3⟩ := get_lt t (show xs.length - 1 - i < xs.length by omega)
    obtain ⟨rfl, y⟩ := y
    have := y vs q
    rw [h2] at this; cases this
    exact ⟨F', Xt.refl _ _ _, R', u, by rw [rev_get hi]; exact h1, h3⟩
  · show xs.length ≤ _
    rw [List.length_reverse]; exact Nat.le_refl _
end
end Px
set_option Elab.async false
set_option linter.all false
set_option maxRecDepth 100000
set_option maxHeartbeats 2000000
namespace Px
open PySem
section
variable (G : XG) (K : PySem.W.Frag) (Γ : Call) (W : L2.WX)
def upI (a : It) : L2.TI := fun σ H R => ∃ r F η m, RM K r F m H ∧ RE K r F η σ ∧ PostI G K r F H (evI Γ a η m) R (atW W σ)
def Chg (t : Tg) (σ σ' : L2.St) : Prop := σ'.length = σ.length ∧ ∀ own, chkSl own t = true → L2.wipe σ' own = L2.wipe σ own
def Chgs (ts : List Tg) (σ σ' : L2.St) : Prop := σ'.length = σ.length ∧ ∀ own, chkSls own ts = true → L2.wipe σ' own = L2.wipe σ own
def upG (t : Tg) : L2.TG := fun V σ H Q => ∃ r F η m v, RM K r F m H ∧ RE K r F η σ ∧ RV K r F v V ∧ Post G K r F H (bnd Γ t v η m) (fun r F η' σ' => RE K r F η' σ' ∧ Chg t σ σ') Q (atW W σ)
def upGs (ts : List Tg) : L2.TGs := fun Vs σ H Q => ∃ r F η m vs, RM K r F m H ∧ RE K r F η σ ∧ RVs K r F vs Vs ∧ Post G K r F H (bnds Γ ts vs η m) (fun r F η' σ' => RE K r F η' σ' ∧ Chgs ts σ σ') Q (atW W σ)
end
section
variable {G : XG} {X : L2.Cx} {c : Chk} {Γ : Call} {n : Nat} {s : Sc} {W : L2.WX} {a b d : Ex} {x y z tg : Expr} {pos p2 : Pos} {es : List Expr}
theorem PI_imp {e : Expr} {t t' : L2.TI} (h : L2.PI X tg e t) (hi : ∀ σ H R, t' σ H R → t σ H R) : L2.PI X tg e t' := ⟨fun pins s σ H Q I hw => h.run pins s σ H Q I (hi _ _ _ hw)⟩
theorem PI_or {e : Expr} {t t' : L2.TI} (h : L2.PI X tg e t) (h' : L2.PI X tg e t') : L2.PI X tg e (fun σ H R => t σ H R ∨ t' σ H R) := ⟨fun pins s σ H Q I hw => hw.elim (h.run pins s σ H Q I) (h'.run pins s σ H Q I)⟩
theorem tup_cases {K : PySem.W.Frag} {r : List Addr} {F : L2.Hp} {m : Mem} {v : PV} {xs : List PV} (e : asS m v = some xs) {V : L2.V} (hv : RV K r F v V) : ∃ a, V = .ref a := by
  cases hv with
  | tup _ _ => exact ⟨_, rfl⟩
  | lst _ _ => exact ⟨_, rfl⟩
  | loc _ => exact ⟨_, rfl⟩
  | _ => simp [asS, asL] at e
theorem sq_now {K : PySem.W.Frag} {r : List Addr} {F H : L2.Hp} {m : Mem} {v : PV} {xs : List PV} {a : Addr} (R : RM K r F m H) (e : asS m v = some xs) (hv : RV K r F v (.ref a)) : ∃ vs, (if isTup v = true then L2.SqT K H a vs else L2.SqL K H a vs) ∧ RVs K r F xs vs := by
  have g : guards (gOf v xs) m = true := by
    cases hv with
    | @loc l a q =>
      simp only [asS, asL] at e
      split at e
      · rename_i q2
        cases e
        simp only [gOf, guards, List.all_cons, List.all_nil, Bool.and_true, q2, PV.beqA_refl]
      · cases e
    | _ => rfl
  exact later R hv e (Ext.refl _ _) R g
theorem i_sq (ha : L2.PE X x (upE G X.K Γ W a)) : L2.PI X tg x (upI G X.K Γ W (.sq a)) := by
  refine PI_imp (PI_or (L2.pi_list ha) (PI_or (L2.pi_tup ha) (L2.pi_str ha))) fun σ H Rr ⟨r, F, η, m, R, re, h⟩ => ?_
  simp only [evI] at h
  cases e : evE Γ a η m with
  | no => rw [e] at h; exact h.elim
  | ex v m1 => rw [e] at h; exact .inl ⟨r, F, η, m, R, re, by rw [e]; exact h⟩
  | ok v m1 =>
    rw [e] at h
    replace h : PostI G X.K r F H (srcSq m1 v) Rr (atW W σ) := h
    simp only [srcSq] at h
    cases e2 : asS m1 v with
    | some xs =>
      rw [e2] at h
      cases ht : isTup v with
      | false =>
        refine .inl ⟨r, F, η, m, R, re, ?_⟩
        rw [e]
        intro r1 F1 H1 V x1 R1 hv
        obtain ⟨p, rfl⟩ := tup_cases e2 hv
        obtain ⟨vs, q, t⟩ := sq_now R1 e2 hv
        rw [if_neg (by rw [ht]; exact Bool.false_ne_true)] at q
        exact ⟨p, rfl, ⟨vs, q⟩, (PostI.mono (res := .ok (xs, gOf v xs) m1) x1 h).ok R1 (wk_list R1 hv e2 ht)⟩
      | true =>
        refine .inr (.inl ⟨r, F, η, m, R, re, ?_⟩)
        rw [e]
        intro r1 F1 H1 V x1 R1 hv
        obtain ⟨p, rfl⟩ := tup_cases e2 hv
        obtain ⟨vs, q, t⟩ := sq_now R1 e2 hv
        rw [if_pos ht] at q
        exact ⟨p, rfl, ⟨vs, q⟩, (PostI.mono (res := .ok (xs, gOf v xs) m1) x1 h).ok R1 (wk_tup R1 hv e2 ht)⟩
    | none =>
      rw [e2] at h
      cases v with
      | str z =>
        refine .inr (.inr ⟨r, F, η, m, R, re, ?_⟩)
        rw [e]
        intro r1 F1 H1 V x1 R1 hv
        cases hv
        exact ⟨z, rfl, (PostI.mono (res := .ok (z.cps.toList.map fun c => PV.str ⟨#[c]⟩, []) m1) x1 h).ok R1 wk_str⟩
      | _ => exact h.elim
theorem smallI_of {i : Int} (h : smallI i = true) : -(2 ^ 62) ≤ i ∧ i < 2 ^ 62 := by
  simp only [smallI, Bool.and_eq_true, decide_eq_true_eq] at h
  exact h
theorem pi_ite {K : PySem.W.Frag} {r : List Addr} {F H : L2.Hp} {W : Value → Option Addr → L2.Hp → Prop} {c : Prop} [Decidable c] {a b : Res Src} {Q : L2.It → L2.Hp → Prop} (h : PostI G K r F H (if c then a else b) Q W) : (c ∧ PostI G K r F H a Q W) ∨ (¬ c ∧ PostI G K r F H b Q W) := by
  by_cases hc : c
  · rw [if_pos hc] at h; exact .inl ⟨hc, h⟩
  · rw [if_neg hc] at h; exact .inr ⟨hc, h⟩
theorem i_rg1 (g : Good X c s n) (gf : GF G X c Γ n) (h2 : s.gl "range" = true) (hs : noStar x = true) (ha : L2.PE X x (upE G X.K Γ W a)) : L2.PI X tg (.Call (.Name "range" p2) [x] [] pos) (upI G X.K Γ W (.rg1 a)) := by
  refine PI_imp (L2.pi_range1 (gl_of g h2) (gf.blt _ (by decide)) (a_one hs ha) (star_cons hs)) fun σ H Rr ⟨r, F, η, m, R, re, h⟩ => ⟨r, F, η, m, R, re, ?_⟩
  simp only [evI] at h
  simp only [evEs, bind_assoc, Res.bind_ok]
  cases e : evE Γ a η m with
  | ok v m1 =>
    rw [e] at h
    intro r1 F1 H1 V x1 R1 hv
    cases hv with
    | cons hv t =>
      cases t
      have h := PostI.mono x1 h
      simp only [Res.bind_ok] at h
      cases hv with
      | int j =>
        rcases pi_ite h with ⟨q, h⟩ | ⟨_, h⟩
        · simp only [Bool.and_eq_true] at q
          have q2 := smallI_of q.2
          refine ⟨j, rfl, q2.1, q2.2, ?_⟩
          rw [show j - 0 = j by omega] at h
          exact h.ok R1 wk_rg
        · exact h.elim
      | _ => exact h.elim
  | ex v m1 => rw [e] at h; exact h
  | no => rw [e] at h; exact h
theorem a_two (hs : noStar x = true) (hs' : noStar y = true) (ha : L2.PE X x (upE G X.K Γ W a)) (hb : L2.PE X y (upE G X.K Γ W b)) : L2.PA X [x, y] (upEs G X.K Γ W [a, b]) := a_cons hs ha (a_one hs' hb)
theorem two_ev {η : Env} {m : Mem} {σ : L2.St} {H : L2.Hp} {r : List Addr} {F : L2.Hp} {f : Mem → PV → PV → Res Src} {Rr : L2.It → L2.Hp → Prop} {Q : List L2.V → L2.Hp → Prop}
    (h : PostI G X.K r F H ((evE Γ a η m).bind fun u m1 => (evE Γ b η m1).bind fun v m2 => f m2 u v) Rr (atW W σ))
    (hq : ∀ r1 F1 H1 m1 u v U V, Xt r F H r1 F1 H1 → RM X.K r1 F1 m1 H1 → RV X.K r1 F1 u U → RV X.K r1 F1 v V → PostI G X.K r1 F1 H1 (f m1 u v) Rr (atW W σ) → Q [U, V] H1) : Post G X.K r F H (evEs Γ [a, b] η m) (RVs X.K) Q (atW W σ) := by
  simp only [evEs, bind_assoc, Res.bind_ok]
  cases e : evE Γ a η m with
  | ex v m1 => rw [e] at h; exact h
  | no => rw [e] at h; exact h
  | ok u m1 =>
    rw [e] at h
    simp only [Res.bind_ok] at h ⊢
    cases e2 : evE Γ b η m1 with
    | ex v m2 => rw [e2] at h; exact h
    | no => rw [e2] at h; exact h
    | ok v m2 =>
      rw [e2] at h
      simp only [Res.bind_ok] at h ⊢
      intro r1 F1 H1 V x1 R1 hv
      cases hv with
      | cons h1 t =>
        cases t with
        | cons h2 t => cases t; exact hq r1 F1 H1 m2 u v _ _ x1 R1 h1 h2 (PostI.mono x1 h)
theorem i_rg2 (g : Good X c s n) (gf : GF G X c Γ n) (h2 : s.gl "range" = true) (hs : noStar x = true) (hs' : noStar y = true) (ha : L2.PE X x (upE G X.K Γ W a)) (hb : L2.PE X y (upE G X.K Γ W b)) :
    L2.PI X tg (.Call (.Name "range" p2) [x, y] [] pos) (upI G X.K Γ W (.rg2 a b)) := by
  refine PI_imp (L2.pi_range2 (gl_of g h2) (gf.blt _ (by decide)) (a_two hs hs' ha hb) (by rw [star_cons hs, star_cons hs']; rfl) (by rw [star_cons hs']; rfl)) fun σ H Rr ⟨r, F, η, m, R, re, h⟩ => ⟨r, F, η, m, R, re, ?_⟩
  simp only [evI] at h
  refine two_ev h fun r1 F1 H1 m1 u v U V x1 R1 hu hv h => ?_
  cases hu with
  | int i =>
    cases hv with
    | int j =>
      rcases pi_ite h with ⟨q, h⟩ | ⟨_, h⟩
      · simp only [Bool.and_eq_true] at q
        have q1 := smallI_of q.1
        have q2 := smallI_of q.2
        exact ⟨i, j, rfl, ⟨q1.1, q1.2, q2.1, q2.2⟩, h.ok R1 wk_rg⟩
      · exact h.elim
    | _ => exact h.elim
  | _ => exact h.elim
theorem i_rg3 (g : Good X c s n) (gf : GF G X c Γ n) (h2 : s.gl "range" = true) (hs : noStar x = true) (hs' : noStar y = true) (hs'' : noStar z = true) (ha : L2.PE X x (upE G X.K Γ W a)) (hb : L2.PE X y (upE G X.K Γ W b)) (hd : L2.PE X z (upE G X.K Γ W d)) :
    L2.PI X tg (.Call (.Name "range" p2) [x, y, z] [] pos) (upI G X.K Γ W (.rg3 a b d)) := by
  refine PI_imp (L2.pi_range3 (gl_of g h2) (gf.blt _ (by decide)) (a_cons hs ha (a_two hs' hs'' hb hd)) (star_cons hs) (by rw [star_cons hs', star_cons hs'']; rfl)) fun σ H Rr ⟨r, F, η, m, R, re, h⟩ => ⟨r, F, η, m, R, re, ?_⟩
  simp only [evI] at h
  simp only [evEs, bind_assoc, Res.bind_ok]
  cases e : evE Γ a η m with
  | ex v m1 => rw [e] at h; exact h
  | no => rw [e] at h; exact h
  | ok u m1 =>
    rw [e] at h
    simp only [Res.bind_ok] at h ⊢
    cases e2 : evE Γ b η m1 with
    | ex v m2 => rw [e2] at h; exact h
    | no => rw [e2] at h; exact h
    | ok v m2 =>
      rw [e2] at h
      simp only [Res.bind_ok] at h ⊢
      cases e3 : evE Γ d η m2 with
      | ex v m2 => rw [e3] at h; exact h
      | no => rw [e3] at h; exact h
      | ok w m3 =>
        rw [e3] at h
        simp only [Res.bind_ok] at h ⊢
        intro r1 F1 H1 V x1 R1 hv
        have h := PostI.mono x1 h
        cases hv with
        | cons h1 t =>
          cases t with
          | cons h2 t =>
            cases t with
            | cons h3 t =>
              cases t
              cases h1 with
              | int i =>
                cases h2 with
                | int j =>
                  cases h3 with
                  | int k =>
                    rcases pi_ite h with ⟨q, h⟩ | ⟨_, h⟩
                    · simp only [Bool.and_eq_true, decide_eq_true_eq] at q
                      exact ⟨i, j, k, _, rfl, ⟨q.1.1.1.2, q.1.1.2, q.1.2, by rw [Int.toNat_of_nonneg q.2]⟩, h.ok R1 wk_rc⟩
                    · exact h.elim
                  | _ => exact h.elim
                | _ => exact h.elim
              | _ => exact h.elim
theorem i_enm {k : Nat} {tpos : Pos} (g : Good X c s n) (gf : GF G X c Γ n) (h2 : s.gl "enumerate" = true) (hs : noStar x = true) (ha : L2.PE X x (upE G X.K Γ W a)) : L2.PI X (.Tuple es k tpos) (.Call (.Name "enumerate" p2) [x] [] pos) (upI G X.K Γ W (.enm a)) := by
  refine PI_imp (PI_or (L2.pi_enum (gl_of g h2) (gf.blt _ (by decide)) (a_one hs ha) (star_cons hs)) (PxEn.pi_enumT (gl_of g h2) (gf.blt _ (by decide)) (a_one hs ha) (star_cons hs))) fun σ H Rr ⟨r, F, η, m, R, re, h⟩ => ?_
  simp only [evI] at h
  cases e : evE Γ a η m with
  | no => rw [e] at h; exact h.elim
  | ex v m1 => rw [e] at h; exact .inl ⟨r, F, η, m, R, re, by simp only [evEs, bind_assoc, Res.bind_ok]; rw [e]; exact h⟩
  | ok v m1 =>
    rw [e] at h
    replace h : PostI G X.K r F H (srcEn m1 v) Rr (atW W σ) := h
    simp only [srcEn] at h
    cases e2 : asS m1 v with
    | none => rw [e2] at h; exact h.elim
    | some xs =>
      rw [e2] at h
      cases ht : isTup v with
      | false =>
        refine .inl ⟨r, F, η, m, R, re, ?_⟩
        simp only [evEs, bind_assoc, Res.bind_ok]
        rw [e]
        intro r1 F1 H1 V x1 R1 hv
        cases hv with
        | cons hv t =>
        cases t
        obtain ⟨p, rfl⟩ := tup_cases e2 hv
        obtain ⟨vs, q, t⟩ := sq_now R1 e2 hv
        rw [if_neg (by rw [ht]; exact Bool.false_ne_true)] at q
        exact ⟨p, vs, rfl, q, (PostI.mono (res := .ok (enumV xs, gOf v xs) m1) x1 h).ok R1 (wk_enum R1 hv e2 ht)⟩
      | true =>
        refine .inr ⟨r, F, η, m, R, re, ?_⟩
        simp only [evEs, bind_assoc, Res.bind_ok]
        rw [e]
        intro r1 F1 H1 V x1 R1 hv
        cases hv with
        | cons hv t =>
        cases t
        obtain ⟨p, rfl⟩ := tup_cases e2 hv
        obtain ⟨vs, q, t⟩ := sq_now R1 e2 hv
        rw [if_pos ht] at q
        exact ⟨p, vs, rfl, q, (PostI.mono (res := .ok (enumV xs, gOf v xs) m1) x1 h).ok R1 (wk_enumT R1 hv e2 ht)⟩
theorem i_zip {k : Nat} {tpos : Pos} (g : Good X c s n) (gf : GF G X c Γ n) (h2 : s.gl "zip" = true) (hs : noStar x = true) (hs' : noStar y = true) (ha : L2.PE X x (upE G X.K Γ W a)) (hb : L2.PE X y (upE G X.K Γ W b)) :
    L2.PI X (.Tuple es k tpos) (.Call (.Name "zip" p2) [x, y] [] pos) (upI G X.K Γ W (.zip a b)) := by
  refine PI_imp (PxZip.pi_zipX g.calm (gl_of g h2) (gf.blt _ (by decide)) (a_two hs hs' ha hb) (star_cons hs) (by rw [star_cons hs']; rfl)) fun σ H Rr ⟨r, F, η, m, R, re, h⟩ => ⟨r, F, η, m, R, re, ?_⟩
  simp only [evI] at h
  refine two_ev h fun r1 F1 H1 m1 u v U V x1 R1 hu hv h => ?_
  simp only [srcZp] at h
  cases e1 : asS m1 u with
  | none => rw [e1] at h; exact h.elim
  | some xs =>
    cases e2 : asS m1 v with
    | none => rw [e1, e2] at h; exact h.elim
    | some ys =>
      rw [e1, e2] at h
      obtain ⟨p, rfl⟩ := tup_cases e1 hu
      obtain ⟨p', rfl⟩ := tup_cases e2 hv
      obtain ⟨vs, q1, t⟩ := sq_now R1 e1 hu
      obtain ⟨ws, q2, t'⟩ := sq_now R1 e2 hv
      exact ⟨p, p', vs, ws, isTup u, isTup v, rfl, q1, q2, h.ok R1 (wk_zipX R1 hu hv e1 e2)⟩
theorem i_rev (g : Good X c s n) (gf : GF G X c Γ n) (h2 : s.gl "reversed" = true) (hs : noStar x = true) (ha : L2.PE X x (upE G X.K Γ W a)) : L2.PI X tg (.Call (.Name "reversed" p2) [x] [] pos) (upI G X.K Γ W (.rev a)) := by
  refine PI_imp (RT.pi_revA (gl_of g h2) (gf.blt _ (by decide)) ha (star_cons hs)) fun σ H Rr ⟨r, F, η, m, R, re, h⟩ => ⟨r, F, η, m, R, re, ?_⟩
  simp only [evI] at h
  cases e : evE Γ a η m with
  | no => rw [e] at h; exact h
  | ex v m1 => rw [e] at h; exact h
  | ok v m1 =>
    rw [e] at h
    replace h : PostI G X.K r F H (srcRv m1 v) Rr (atW W σ) := h
    simp only [srcRv] at h
    cases e2 : asS m1 v with
    | none => rw [e2] at h; exact h.elim
    | some xs =>
      rw [e2] at h
      intro r1 F1 H1 V x1 R1 hv
      obtain ⟨p, rfl⟩ := tup_cases e2 hv
      obtain ⟨vs, q, t⟩ := sq_now R1 e2 hv
      have h := PostI.mono (res := .ok (xs.reverse, gOf v xs) m1) x1 h
      refine ⟨p, vs, rfl, ?_⟩
      cases ht : isTup v with
      | false =>
        rw [if_neg (by rw [ht]; exact Bool.false_ne_true)] at q
        exact .inl ⟨q, h.ok R1 (wk_rev R1 hv e2 ht t.len.symm)⟩
      | true =>
        rw [if_pos ht] at q
        exact .inr ⟨q, h.ok R1 (wk_revT R1 hv e2 ht t.len.symm)⟩
theorem i_rr1 {p3 p4 : Pos} (g : Good X c s n) (gf : GF G X c Γ n) (h2 : s.gl "reversed" = true) (h3 : s.gl "range" = true) (hs : noStar x = true) (ha : L2.PE X x (upE G X.K Γ W a)) :
    L2.PI X tg (.Call (.Name "reversed" p2) [.Call (.Name "range" p3) [x] [] p4] [] pos) (upI G X.K Γ W (.rr1 a)) := by
  refine PI_imp (L2.pi_revR (gl_of g h2) (gf.blt _ (by decide)) (L2.prg_1 (gl_of g h3) (gf.blt _ (by decide)) ha (star_cons hs)) (star_cons rfl)) fun σ H Rr ⟨r, F, η, m, R, re, h⟩ => ⟨r, F, η, m, R, re, ?_⟩
  simp only [evI] at h
  cases e : evE Γ a η m with
  | no => rw [e] at h; exact h
  | ex v m1 => rw [e] at h; exact h
  | ok v m1 =>
    rw [e] at h
    replace h : PostI G X.K r F H (srcRr m1 (.int 0) v) Rr (atW W σ) := h
    intro r1 F1 H1 V x1 R1 hv
    have h := PostI.mono x1 h
    cases hv with
    | int j =>
      rcases pi_ite h with ⟨q, h⟩ | ⟨_, h⟩
      · simp only [Bool.and_eq_true] at q
        have q1 := smallI_of q.1
        have q2 := smallI_of q.2
        exact ⟨j, rfl, q1.1, q1.2, q2.1, q2.2, h.ok R1 wk_rc⟩
      · exact h.elim
    | _ => exact h.elim
theorem i_rr2 {p3 p4 : Pos} (g : Good X c s n) (gf : GF G X c Γ n) (h2 : s.gl "reversed" = true) (h3 : s.gl "range" = true) (hs : noStar x = true) (hs' : noStar y = true) (ha : L2.PE X x (upE G X.K Γ W a)) (hb : L2.PE X y (upE G X.K Γ W b)) :
    L2.PI X tg (.Call (.Name "reversed" p2) [.Call (.Name "range" p3) [x, y] [] p4] [] pos) (upI G X.K Γ W (.rr2 a b)) := by
  refine PI_imp (L2.pi_revR (gl_of g h2) (gf.blt _ (by decide)) (L2.prg_2 (gl_of g h3) (gf.blt _ (by decide)) ha hb (na := star_cons hs) (nb := star_cons hs') (hp := by rw [star_cons hs']; rfl)) (star_cons rfl)) fun σ H Rr ⟨r, F, η, m, R, re, h⟩ => ⟨r, F, η, m, R, re, ?_⟩
  simp only [evI] at h
  refine (PostI.step (rel1 := RV X.K) h).imp fun V H1 ⟨r1, F1, v, m1, x1, R1, hv, h1⟩ => ⟨r1, F1, η, m1, R1, re.mono x1.pre x1.sub, ?_⟩
  refine (PostI.step (rel1 := RV X.K) h1).imp fun U H2 ⟨r2, F2, u, m2, x2, R2, hu, h2⟩ => ?_
  cases hv with
  | int i =>
    cases hu with
    | int j =>
      rcases pi_ite h2 with ⟨q, h⟩ | ⟨_, h⟩
      · simp only [Bool.and_eq_true] at q
        have q1 := smallI_of q.1
        have q2 := smallI_of q.2
        exact ⟨i, j, rfl, rfl, q1.1, q1.2, q2.1, q2.2, h.ok R2 wk_rc⟩
      · exact h.elim
    | _ => exact h2.elim
  | _ => exact h2.elim
theorem wipe_get {σ : L2.St} {j : Nat} : ∀ vs : List Nat, (L2.wipe σ vs)[j]? = if j ∈ vs ∧ j < σ.length then some none else σ[j]?
  | [] => by simp [L2.wipe]
  | v :: vs => by
    unfold L2.wipe
    rw [List.getElem?_set, wipe_get vs, L2.wipe_length]
    by_cases h1 : v = j
    · subst h1
      by_cases h2 : v < σ.length
      · simp [h2]
      · rw [if_pos rfl, if_neg h2, if_neg (by simp [h2]), List.getElem?_eq_none (by omega)]
    · rw [if_neg h1]
      simp only [List.mem_cons]
      by_cases h2 : j ∈ vs ∧ j < σ.length
      · rw [if_pos h2, if_pos ⟨.inr h2.1, h2.2⟩]
      · rw [if_neg h2, if_neg fun z => h2 ⟨z.1.elim (fun e => absurd e.symm h1) id, z.2⟩]
theorem wipe_set {σ : L2.St} {i : Nat} {v : Option L2.V} {own : List Nat} (h : i ∈ own) : L2.wipe (σ.set i v) own = L2.wipe σ own := by
  apply List.ext_getElem?
  intro j
  rw [wipe_get, wipe_get, List.length_set, List.getElem?_set]
  by_cases h1 : i = j
  · subst h1
    by_cases h2 : i < σ.length
    · rw [if_pos ⟨h, h2⟩, if_pos ⟨h, h2⟩]
    · simp only [h2, and_false, if_false, if_true]
      rw [List.getElem?_eq_none (by omega)]
  · rw [if_neg h1]
theorem g_nm {i : Nat} {nm : Str} (g : Good X c s n) (h1 : c.N[i]? = some nm) (h2 : s.lcl nm = true) : L2.PG X (.Name nm pos) (upG G X.K Γ W (.nm i)) := by
  refine ⟨fun pins st σ H v u Q I rv ⟨r, F, η, m, w, R, re, hw, h⟩ => ?_⟩
  refine (L2.pg_name g.nd (by rw [g.N]; exact h1) (loc_of g h2) (g.own nm h2)).run pins st σ H v u Q I rv ?_
  simp only [bnd] at h
  refine h.ok R ⟨re.set hw, List.length_set, fun own ho => ?_⟩
  simp only [chkSl, decide_eq_true_eq] at ho
  exact wipe_set ho
theorem assign_sub {env : PySem.Env} (hs : noSlice y = true) : ∀ v, assign (.Subscript x y pos) env v = (do
      let ov ← holding [v] (eval x env)
      let iv ← holding [v, ov] (eval y env)
      standAt pos
      holding [v, ov, iv] (setItem ov iv v)
      release [v, ov, iv] []) := by
  intro v
  cases y <;> first | rfl | (simp [noSlice] at hs)
theorem g_ix (hs : noSlice y = true) (ha : L2.PE X x (upE G X.K Γ W a)) (hb : L2.PE X y (upE G X.K Γ W b)) : L2.PG X (.Subscript x y pos) (upG G X.K Γ W (.ix a b)) := by
  refine ⟨fun pins st σ H v u Q I rv ⟨r, F, η, m, w, R, re, hw, h⟩ => ?_⟩
  refine (L2.pg_sub ha hb (PxDic.set_or L2.set_list PxDic.set_dk) (assign_sub hs)).run pins st σ H v u Q I rv ⟨r, F, η, m, R, re, ?_⟩
  simp only [bnd] at h
  refine (Post.step (rel1 := RV X.K) h).imp fun V H1 ⟨r1, F1, v1, m1, x1, R1, hv, h1⟩ => ⟨r1, F1, η, m1, R1, re.mono x1.pre x1.sub, ?_⟩
  refine (Post.step (rel1 := RV X.K) h1).imp fun U H2 ⟨r2, F2, u2, m2, x2, R2, hu, h2⟩ => ?_
  have hv2 := hv.mono x2.pre x2.sub
  have hw2 := (hw.mono x1.pre x1.sub).mono x2.pre x2.sub
  have re2 := (re.mono x1.pre x1.sub).mono x2.pre x2.sub
  have dic : ∀ l, v1 = .loc l → Post G X.K r2 F2 H2 (putD η m2 v1 u2 w) (fun r F η' σ' => RE X.K r F η' σ' ∧ Chg (.ix a b) σ σ') Q (atW W σ) → (L2.rSetL V U v H2 (fun H' => Q σ H') ∨ ∃ p kvs k, V = .ref p ∧ U = L2.kV k ∧ H2 p = some (.dK kvs) ∧ kvs.length < sizeLine ∧ Q σ (L2.upd H2 p (.dK (L2.putK kvs k v)))) := fun l el h2 => by
    subst el
    unfold putD at h2
    cases e2 : dicAt m2 (.loc l) u2 with
    | none => rw [e2] at h2; exact h2.elim
    | some q =>
      rw [e2] at h2
      obtain ⟨l', p, ws, el', g1, g2, rfl, g3, g4, g5, rfl⟩ := dicAt_rel R2 hv2 hu e2
      cases el'
      rcases post_ite h2 with ⟨c, h2⟩ | ⟨_, h2⟩
      · obtain ⟨zs, k1, k2, k3⟩ := putK_rel (k := q.2.2) hw2 g4 g5
        refine .inr ⟨p, _, q.2.2, rfl, rfl, g3, by rw [List.length_zip, ← g5, Nat.min_self, ← LINE_eq]; exact c, ?_⟩
        rw [k3]
        exact h2.okW g2 (R2.write g2 ⟨_, k1, k2, L2.upd_same⟩) ⟨re2, rfl, fun _ _ => rfl⟩
      · exact h2.elim
  cases hv with
  | @loc l p q =>
    cases hu with
    | int k =>
      simp only [putP] at h2
      split at h2
      · rename_i xs e1
        obtain ⟨vs, h3, h4⟩ := R2.obs l p _ (pre_get x2.pre q) e1
        split at h2
        · rename_i j e2
          refine .inl ⟨p, vs, k, j, rfl, rfl, h4, by rw [← h3.len]; exact e2, ?_⟩
          refine h2.okW (pre_get x2.pre q) (R2.write (pre_get x2.pre q) ⟨_, h3.set hw2 j, L2.upd_same⟩) ⟨re2, rfl, fun _ _ => rfl⟩
        · exact h2.elim
      · exact dic l rfl h2
    | _ => exact dic l rfl h2
  | _ =>
    cases hu <;> exact h2.elim
theorem each_cons {e : Expr} {es : List Expr} {env : PySem.Env} (h : noStar e = true) : assignEach (e :: es) env = (false, assign e env) :: assignEach es env := by
  cases e <;> first | rfl | (simp [noStar] at h)
theorem gs_nil : L2.PGs X [] (upGs G X.K Γ W []) := by
  refine ⟨fun pins st σ H vs us Q I rv ⟨r, F, η, m, w, R, re, hw, h⟩ => L2.pgs_nil.run pins st σ H vs us Q I rv ?_⟩
  cases hw with
  | nil =>
    simp only [bnds] at h
    exact ⟨rfl, h.ok R ⟨re, rfl, fun _ _ => rfl⟩⟩
  | cons _ _ => simp only [bnds] at h; exact h.elim
theorem gs_cons {t : Tg} {ts : List Tg} (hs : noStar x = true) (h1 : L2.PG X x (upG G X.K Γ W t)) (h2 : L2.PGs X es (upGs G X.K Γ W ts)) : L2.PGs X (x :: es) (upGs G X.K Γ W (t :: ts)) := by
  refine ⟨fun pins st σ H vs us Q I rv ⟨r, F, η, m, w, R, re, hw, h⟩ => (L2.pgs_cons h1 h2 (by rw [each_cons hs]; rfl)).run pins st σ H vs us Q I rv ?_⟩
  cases hw with
  | nil => simp only [bnds] at h; exact h.elim
  | @cons v V ws Vs q t' =>
    simp only [bnds] at h
    refine ⟨V, Vs, rfl, r, F, η, m, v, R, re, q, ?_⟩
    cases e : bnd Γ t v η m with
    | no => rw [e] at h; exact h
    | ex x m1 => rw [e] at h; exact h
    | ok η1 m1 =>
      rw [e] at h
      intro r1 F1 H1 σ1 x1 R1 ⟨re1, cl, cw⟩
      refine ⟨r1, F1, η1, m1, ws, R1, re1, t'.mono x1.pre x1.sub, ?_⟩
      have h : Post G X.K r1 F1 H1 (bnds Γ ts ws η1 m1).nox (fun r F η' σ' => RE X.K r F η' σ' ∧ Chgs (t :: ts) σ σ') Q (atW W σ) := Post.mono x1 h
      revert h
      cases bnds Γ ts ws η1 m1 with
      | no => exact fun h => h
      | ex x m2 => exact fun h => h.elim
      | ok η2 m2 =>
        intro h r2 F2 H2 σ2 x2 R2 ⟨re2, cl2, cw2⟩
        refine h r2 F2 H2 σ2 x2 R2 ⟨re2, cl2.trans cl, fun own ho => ?_⟩
        simp only [chkSls, Bool.and_eq_true] at ho
        rw [cw2 own ho.2, cw own ho.1]
theorem each_len {env : PySem.Env} : ∀ {es : List Expr}, (∀ e ∈ es, noStar e = true) → (assignEach es env).length = es.length ∧ (assignEach es env).findIdx? (·.1) = none
  | [], _ => ⟨rfl, rfl⟩
  | e :: es, h => by
    obtain ⟨h1, h2⟩ := each_len (env := env) fun x hx => h x (List.mem_cons_of_mem _ hx)
    rw [each_cons (h e List.mem_cons_self)]
    refine ⟨by rw [List.length_cons, List.length_cons, h1], ?_⟩
    rw [List.findIdx?_cons, h2]
    rfl
theorem g_tp {ts : List Tg} {k : Nat} (g : Good X c s n) (hl : es.length = ts.length) (hs : ∀ e ∈ es, noStar e = true) (h1 : L2.PGs X es (upGs G X.K Γ W ts)) : L2.PG X (.Tuple es k pos) (upG G X.K Γ W (.tp ts)) := by
  obtain ⟨e1, e2⟩ := each_len (env := X.env) hs
  refine ⟨fun pins st σ H v u Q I rv ⟨r, F, η, m, w, R, re, hw, h⟩ => ?_⟩
  simp only [bnd, tupN] at h
  cases ea : asS m w with
  | none => rw [ea] at h; exact h.elim
  | some xs =>
    rw [ea] at h
    obtain ⟨a, vs, rfl, q, t⟩ := asS_sq R hw ea
    rcases post_ite h with ⟨e, h⟩ | ⟨_, h⟩
    · have fin : upGs G X.K Γ W ts vs σ H Q := by
        refine ⟨r, F, η, m, xs, R, re, t, ?_⟩
        revert h
        cases bnds Γ ts xs η m with
        | no => exact fun h => h
        | ex x m2 => exact fun h => h
        | ok η2 m2 =>
          intro h r2 F2 H2 σ2 x2 R2 ⟨re2, cl2, cw2⟩
          exact h r2 F2 H2 σ2 x2 R2 ⟨re2, cl2, fun own ho => cw2 own (by simpa only [chkSl] using ho)⟩
      rcases q with q | q
      · exact (L2.pg_unl g.calm h1 e1 e2).run pins st σ H _ u Q I rv ⟨a, vs, rfl, q, by rw [← t.len, e, hl], fin⟩
      · exact (L2.pg_tup g.calm h1 e1 e2).run pins st σ H _ u Q I rv ⟨a, vs, rfl, q, by rw [← t.len, e, hl], fin⟩
    · exact h.elim
end
end Px
set_option Elab.async false
set_option linter.all false
set_option maxRecDepth 100000
set_option maxHeartbeats 2000000
namespace Px
open PySem
def W0 : L2.WX := fun _ _ _ _ => False
section
variable {G : XG} {X : L2.Cx} {c : Chk} {Γ : Call} {n : Nat} {s : Sc} {W : L2.WX} {a b d : Ex} {x y z tg : Expr} {pos p2 : Pos} {es : List Expr}
theorem takes_none {X : L2.Cx} : L2.Takes X W0 := L2.takes0
theorem GF.blk (gf : GF G X c Γ n) (st : Shared) (H : L2.Hp) (scope : Scope) (ce : PySem.Env) (fp : List Addr) : GF G (X.blk st H scope ce fp) c Γ n := ⟨gf.fn, gf.cst, gf.blt⟩
theorem Good.blk (g : Good X c s n) (st : Shared) (H : L2.Hp) (scope : Scope) (C : Addr) (cl : List (Str × Addr)) (fp : List Addr) : Good (X.blk st H scope (compEnvC scope cl C X.env) fp) c ⟨L2.relS scope s.sc, some scope⟩ n := by
  refine ⟨g.calm, g.nd, g.N, ?_, fun x h => ?_, g.room⟩
  · show (compEnvC scope cl C X.env).scope = _
    rw [← g.sc]; rfl
  · unfold Sc.lcl at h
    split at h
    · rename_i e
      right
      show (compEnvC scope cl C X.env).scope.names.lookup x = _
      have : (compEnvC scope cl C X.env).scope = L2.relS scope X.env.scope := rfl
      rw [this, g.sc]
      exact e
    · left
      simp only at h
      split at h
      · rename_i e
        show (scope.names.lookup x == some .cell) = true
        rw [e]; rfl
      · cases h
    · cases h
theorem fold_of {env : PySem.Env} {e : Expr} (h : noSet e = true) : ∀ v, foldedSetIterable e env v = pure v := by
  intro v
  cases e <;> first | rfl | (simp [noSet] at h)
theorem c_none : L2.PTs X [] (upC G X.K Γ W none) := ⟨fun pins st σ H Q I ⟨r, F, η, m, R, re, h⟩ => L2.pts_nil.run pins st σ H Q I (by
  simp only [evC] at h
  exact h.ok R rfl)⟩
theorem c_some (h : L2.PT X x (upT G X.K Γ W a)) : L2.PTs X [x] (upC G X.K Γ W (some a)) := L2.pts_one h
theorem nox_ok {α : Type} {res : Res α} {v : α} {m : Mem} (h : res.nox = .ok v m) : res = .ok v m := by
  cases res with
  | ok a b => exact h
  | ex _ _ => cases h
  | no => cases h
def lcRest (Γ : Call) (g : List (Nat × List PV)) (t : Tg) (cd : Option Ex) (el : Ex) (η : Env) (src : List PV) (m : Mem) (acc : List PV) : Res (List PV) :=
  ((lcGo g (bnd Γ t) (evC Γ cd) (evE Γ el) η src m).nox).bind fun vs m' => .ok (acc ++ vs) m'
theorem l_cp {own : List Nat} {t : Tg} {it : It} {cd : Option Ex} {el : Ex} {ifs : List Expr} {iter : Expr} {scope : Scope} (g : Good X c s n) (hfold : noSet iter = true)
    (hblk : L2.blkC c.N s.sc scope (ownOf c.N own) = true) (hown : (ownOf c.N own).map (·.2) = own) (hsl : chkSl own t = true)
    (hi : L2.PI X tg iter (upI G X.K Γ W it))
    (hg : ∀ (st : Shared) (H : L2.Hp) (C : Addr) (cl : List (Str × Addr)) (fp : List Addr), L2.PG (X.blk st H scope (compEnvC scope cl C X.env) fp) tg (upG G X.K Γ W0 t))
    (ht : ∀ (st : Shared) (H : L2.Hp) (C : Addr) (cl : List (Str × Addr)) (fp : List Addr), L2.PTs (X.blk st H scope (compEnvC scope cl C X.env) fp) ifs (upC G X.K Γ W0 cd))
    (he : ∀ (st : Shared) (H : L2.Hp) (C : Addr) (cl : List (Str × Addr)) (fp : List Addr), L2.PE (X.blk st H scope (compEnvC scope cl C X.env) fp) x (upE G X.K Γ W0 el)) :
    ∀ σ H Q, upL G X.K Γ W (.cp own t it cd el) σ H Q → L2.tLc (upI G X.K Γ W it) (upG G X.K Γ W0 t) (upC G X.K Γ W0 cd) (upE G X.K Γ W0 el) ((ownOf c.N own).map (·.2)) σ H Q := by
  rintro σ H Q ⟨r, F, η, m, R, re, h⟩
  rw [hown]
  refine ⟨r, F, η, m, R, re, ?_⟩
  simp only [evL] at h
  cases e : evI Γ it η m with
  | no => rw [e] at h; exact h
  | ex v m1 => rw [e] at h; exact h
  | ok sr m1 =>
    rw [e] at h
    obtain ⟨src, gd⟩ := sr
    replace h : PostL G X.K r F H (if src.length ≤ LINE then (lcGo gd (bnd Γ t) (evC Γ cd) (evE Γ el) (wipeP η own) src m1).nox else .no) Q (atW W σ) := h
    refine (pl_ite h).elim (fun ⟨hlen, h⟩ => ?_) (fun ⟨_, h⟩ => h.elim)
    intro r1 F1 H1 J x1 R1 wk D hD
    have h : PostL G X.K r1 F1 H1 (lcRest Γ gd t cd el (wipeP η own) src m1 []) Q (atW W σ) := by
      have h := PostL.mono x1 R1 h
      unfold lcRest
      revert h
      cases (lcGo gd (bnd Γ t) (evC Γ cd) (evE Γ el) (wipeP η own) src m1).nox <;> exact id
    have re1 : RE X.K r1 F1 (wipeP η own) (L2.wipe σ own) := (re.mono x1.pre x1.sub).wipe own
    have F1D : F1 D = none := by
      cases q : F1 D with
      | none => rfl
      | some u => rw [R1.sub _ _ q] at hD; cases hD
    have D1 : D ∉ r1 := fun z => by
      obtain ⟨u, hu⟩ := R1.liv D z
      rw [hD] at hu; cases hu
    refine ⟨fun i k H' => k = src.length - i ∧ i ≤ src.length ∧ ∃ r' F' m' acc av, Xt r1 F1 H1 r' F' H' ∧ RM X.K r' F' m' H' ∧ H' D = some (.lst av) ∧ F' D = none ∧ D ∉ r' ∧ RVs X.K r' F' acc av ∧ acc.length ≤ i ∧
      PostL G X.K r1 F1 H1 (lcRest Γ gd t cd el (wipeP η own) (src.drop i) m' acc) Q (atW W σ), ⟨src.length, by simp, Nat.zero_le _, r1, F1, m1, [], [], ?_, ?_, L2.upd_same, F1D, D1, .nil, Nat.le_refl _, by simpa using h⟩, ?_⟩
    · exact ⟨List.prefix_refl _, L2.Same.refl _, fun a o h1 h2 h3 => by rw [L2.upd_ne (L2.ne_of_none h1 hD)]; exact ⟨h1, h2, h3⟩⟩
    · exact R1.other (same_upd hD) fun a ha => L2.upd_ne fun z => D1 (by rw [← z]; exact ha)
    · rintro i k H' ⟨rfl, hi', r', F', m', acc, av, x2, R2, eD, fD, nD, hv, hacc, h⟩
      have w2 := wk.mono x2
      by_cases hlt : i < src.length
      · have ed : src.drop i = src[i] :: src.drop (i + 1) := List.drop_eq_getElem_cons hlt
        rw [ed] at h
        unfold lcRest at h
        simp only [lcGo] at h
        cases eg : guards gd m' with
        | false => rw [eg] at h; exact h.elim
        | true =>
          rw [eg, if_pos rfl] at h
          refine .inr ⟨w2.go i r' F' m' H' (Ext.refl _ _) R2 eg hlt, fun H' => i + 1 ≤ src.length ∧ ∃ r' F' m' acc av, Xt r1 F1 H1 r' F' H' ∧ RM X.K r' F' m' H' ∧ H' D = some (.lst av) ∧ F' D = none ∧ D ∉ r' ∧ RVs X.K r' F' acc av ∧ acc.length ≤ i + 1 ∧
            PostL G X.K r1 F1 H1 (lcRest Γ gd t cd el (wipeP η own) (src.drop (i + 1)) m' acc) Q (atW W σ), fun H' hN => ⟨src.length - (i + 1), by omega, rfl, hN.1, hN.2⟩, fun xv H3 hy => ?_⟩
          obtain ⟨F3, x3, R3, v, ev, hxv⟩ := w2.yl i r' F' m' H' xv H3 (Ext.refl _ _) R2 eg hlt hy
          have ev' : v = src[i] := by rw [List.getElem?_eq_getElem hlt] at ev; exact (Option.some.inj ev).symm
          subst ev'
          obtain ⟨eD3, fD3, nD3⟩ := x3.unt D _ eD fD nD
          refine ⟨r', F3, wipeP η own, m', src[i], R3, re1.mono (x2.pre.trans x3.pre) (x2.sub.trans x3.sub), hxv, ?_⟩
          cases eb : bnd Γ t src[i] (wipeP η own) m' with
          | no => rw [eb] at h; exact h
          | ex u m4 => rw [eb] at h; exact h.elim
          | ok η4 m4 =>
            rw [eb] at h
            simp only [Res.bind_ok] at h
            intro r4 F4 H4 σ4 x4 R4 ⟨re4, cl4, cw4⟩
            refine ⟨(cw4 own hsl).trans ?_, ?_⟩
            · apply List.ext_getElem?
              intro j
              rw [wipe_get, wipe_get, L2.wipe_length]
              by_cases q : j ∈ own ∧ j < σ.length
              · rw [if_pos q, if_pos q]
              · rw [if_neg q, if_neg q]
            · refine ⟨r4, F4, η4, m4, R4, re4, ?_⟩
              cases ec : evC Γ cd η4 m4 with
              | no => rw [ec] at h; exact h
              | ex u m5 => rw [ec] at h; exact h.elim
              | ok k5 m5 =>
                rw [ec] at h
                simp only [Res.bind_ok] at h
                intro r5 F5 H5 b5 x5 R5 hb5
                obtain rfl : k5 = b5 := hb5
                have x15 := ((x2.trans x3).trans x4).trans x5
                obtain ⟨eD5, fD5, nD5⟩ := (x4.trans x5).unt D _ eD3 fD3 nD3
                cases k5 with
                | false =>
                  rw [if_neg Bool.false_ne_true]
                  rw [if_neg Bool.false_ne_true] at h
                  exact ⟨hlt, r5, F5, m5, acc, av, x15, R5, eD5, fD5, nD5, ((hv.mono x3.pre x3.sub).mono x4.pre x4.sub).mono x5.pre x5.sub, by omega, h⟩
                | true =>
                  rw [if_pos rfl]
                  rw [if_pos rfl] at h
                  refine ⟨r5, F5, η4, m5, R5, re4.mono x5.pre x5.sub, ?_⟩
                  cases ee : evE Γ el η4 m5 with
                  | no => rw [ee] at h; exact h
                  | ex u m6 => rw [ee] at h; exact h.elim
                  | ok v6 m6 =>
                    rw [ee] at h
                    simp only [Res.bind_ok] at h
                    intro r6 F6 H6 V6 x6 R6 hv6
                    obtain ⟨eD6, fD6, nD6⟩ := x6.unt D _ eD5 fD5 nD5
                    have x16 := x15.trans x6
                    have hv' := (((hv.mono x3.pre x3.sub).mono x4.pre x4.sub).mono x5.pre x5.sub).mono x6.pre x6.sub
                    refine ⟨av, eD6, by rw [← hv.len, ← LINE_eq]; omega, hlt, r6, F6, m6, acc ++ [v6], av ++ [V6], ?_, ?_, L2.upd_same, fD6, nD6, hv'.append (.cons hv6 .nil), by rw [List.length_append, List.length_singleton]; omega, ?_⟩
                    · refine ⟨x16.pre, x16.sub, fun a o h1 h2 h3 => ?_⟩
                      rw [L2.upd_ne (L2.ne_of_none h1 hD)]
                      exact x16.unt a o h1 h2 h3
                    · refine ⟨fun a o q => ?_, R6.len, R6.nd, R6.fr, fun l a o q1 q2 => (R6.obs l a o q1 q2).mono (List.prefix_refl _) (L2.Same.refl _) (L2.upd_ne fun z => nD6 (by rw [← z]; exact List.mem_of_getElem? q1)), fun a ha => ?_, R6.nf⟩
                      · rw [L2.upd_ne (L2.ne_of_none q fD6)]; exact R6.sub _ _ q
                      · rw [L2.upd_ne fun z => nD6 (by rw [← z]; exact ha)]; exact R6.liv a ha
                    · unfold lcRest
                      revert h
                      cases lcGo gd (bnd Γ t) (evC Γ cd) (evE Γ el) (wipeP η own) (src.drop (i + 1)) m6 with
                      | ok vs m7 => simp only [Res.bind_ok, Res.nox_ok, List.append_assoc, List.singleton_append]; exact id
                      | ex u m7 => exact fun h => h.elim
                      | no => exact fun h => h.elim
      · have e : i = src.length := by omega
        subst e
        rw [List.drop_length] at h
        unfold lcRest at h
        simp only [lcGo] at h
        cases eg : guards gd m' with
        | false => rw [eg] at h; exact h.elim
        | true =>
          rw [eg, if_pos rfl] at h
          simp only [Res.bind_ok, Res.nox_ok, List.append_nil] at h
          exact .inl ⟨w2.st r' F' m' H' (Ext.refl _ _) R2 eg, h r' F' H' D av x2 R2 hv eD fD nD hD⟩
end
end Px
set_option Elab.async false
set_option linter.all false
set_option maxRecDepth 100000
set_option maxHeartbeats 4000000
namespace Px
open PySem
section
variable {G : XG} {X : L2.Cx} {c : Chk} {Γ : Call} {n : Nat} {s : Sc} {W : L2.WX} {a b d : Ex} {x y z : Expr} {pos p2 : Pos} {es : List Expr} {tg tg1 : Expr}
def inn2 (Γ : Call) (own1 : List Nat) (t1 : Tg) (it1 : It) (cd1 : Option Ex) (el : Ex) (η : Env) (m : Mem) : Res (List PV) :=
  (evI Γ it1 η m).bind fun s1 m3 => lcGo s1.2 (bnd Γ t1) (evC Γ cd1) (evE Γ el) (wipeP η own1) s1.1 m3
def out2 (Γ : Call) (g : List (Nat × List PV)) (t : Tg) (cd : Option Ex) (inner : Env → Mem → Res (List PV)) (η : Env) (src : List PV) (m : Mem) (acc : List PV) : Res (List PV) :=
  ((lc2Go g (bnd Γ t) (evC Γ cd) inner η src m).nox).bind fun vs m' => okLen (acc ++ vs) m'
def mid2 (Γ : Call) (g1 : List (Nat × List PV)) (t1 : Tg) (cd1 : Option Ex) (el : Ex) (η1 : Env) (src1 : List PV) (m : Mem) (acc : List PV) (K : List PV → Mem → Res (List PV)) : Res (List PV) :=
  ((lcGo g1 (bnd Γ t1) (evC Γ cd1) (evE Γ el) η1 src1 m).nox).bind fun ys m' => K (acc ++ ys) m'
theorem out2_len {K : PySem.W.Frag} {r : List Addr} {F H : L2.Hp} {Q : L2.VK} {W' : Value → Option Addr → L2.Hp → Prop} {g : List (Nat × List PV)} {t : Tg} {cd : Option Ex} {inner : Env → Mem → Res (List PV)} {η : Env} {src : List PV} {m : Mem} {acc : List PV}
    (h : PostL G K r F H (out2 Γ g t cd inner η src m acc) Q W') : acc.length ≤ LINE := by
  unfold out2 at h
  cases e : (lc2Go g (bnd Γ t) (evC Γ cd) inner η src m).nox with
  | no => rw [e] at h; exact h.elim
  | ex x m' =>
    cases e2 : lc2Go g (bnd Γ t) (evC Γ cd) inner η src m <;> rw [e2] at e <;> cases e
  | ok vs m' =>
    rw [e, Res.bind_ok] at h
    rcases pl_ite (show PostL G K r F H (if (acc ++ vs).length ≤ LINE then .ok (acc ++ vs) m' else .no) Q W' from h) with ⟨c, _⟩ | ⟨_, h⟩
    · rw [List.length_append] at c; omega
    · exact h.elim
theorem mid2_len {K : PySem.W.Frag} {r : List Addr} {F H : L2.Hp} {Q : L2.VK} {W' : Value → Option Addr → L2.Hp → Prop} {g g1 : List (Nat × List PV)} {t t1 : Tg} {cd cd1 : Option Ex} {el : Ex} {inner : Env → Mem → Res (List PV)} {η η1 : Env} {src src1 : List PV} {m : Mem} {acc : List PV}
    (h : PostL G K r F H (mid2 Γ g1 t1 cd1 el η1 src1 m acc fun a m => out2 Γ g t cd inner η src m a) Q W') : acc.length ≤ LINE := by
  unfold mid2 at h
  cases e : (lcGo g1 (bnd Γ t1) (evC Γ cd1) (evE Γ el) η1 src1 m).nox with
  | no => rw [e] at h; exact h.elim
  | ex x m' =>
    cases e2 : lcGo g1 (bnd Γ t1) (evC Γ cd1) (evE Γ el) η1 src1 m <;> rw [e2] at e <;> cases e
  | ok vs m' =>
    rw [e, Res.bind_ok] at h
    have := out2_len h
    rw [List.length_append] at this; omega
theorem wipe_idem (σ : L2.St) (own : List Nat) : L2.wipe (L2.wipe σ own) own = L2.wipe σ own := by
  apply List.ext_getElem?
  intro j
  rw [wipe_get, wipe_get, L2.wipe_length]
  by_cases q : j ∈ own ∧ j < σ.length
  · rw [if_pos q, if_pos q]
  · rw [if_neg q, if_neg q]
theorem RM.stay {K : PySem.W.Frag} {r : List Addr} {F H : L2.Hp} {m : Mem} {D : Addr} {o : L2.HO} (R : RM K r F m H) (fD : F D = none) (nD : D ∉ r) : RM K r F m (L2.upd H D o) :=
  ⟨fun a u q => by rw [L2.upd_ne (L2.ne_of_none q fD)]; exact R.sub _ _ q, R.len, R.nd, R.fr, fun l a u q1 q2 => (R.obs l a u q1 q2).mono (List.prefix_refl _) (L2.Same.refl _) (L2.upd_ne fun z => nD (by rw [← z]; exact List.mem_of_getElem? q1)),
    fun a ha => by rw [L2.upd_ne fun z => nD (by rw [← z]; exact ha)]; exact R.liv a ha, R.nf⟩
theorem Xt.stay {r r' : List Addr} {F F' H H' : L2.Hp} {D : Addr} {o : L2.HO} (x : Xt r F H r' F' H') (hD : H D = Option.none) : Xt r F H r' F' (L2.upd H' D o) :=
  ⟨x.pre, x.sub, fun a u h1 h2 h3 => by rw [L2.upd_ne (L2.ne_of_none h1 hD)]; exact x.unt a u h1 h2 h3⟩
theorem l_cp2 {own own1 : List Nat} {t t1 : Tg} {it it1 : It} {cd cd1 : Option Ex} {el : Ex} (hown : (ownOf c.N own).map (·.2) = own) (hsl : chkSl own t = true) (hsl1 : chkSl own1 t1 = true) :
    ∀ σ H Q, upL G X.K Γ W (.cp2 own own1 t it cd t1 it1 cd1 el) σ H Q → L2.tLc2 (upI G X.K Γ W it) (upG G X.K Γ W0 t) (upC G X.K Γ W0 cd) (upI G X.K Γ W0 it1) (upG G X.K Γ W0 t1) (upC G X.K Γ W0 cd1) (upE G X.K Γ W0 el) ((ownOf c.N own).map (·.2)) own1 σ H Q := by
  rintro σ H Q ⟨r, F, η, m, R, re, h⟩
  rw [hown]
  refine ⟨r, F, η, m, R, re, ?_⟩
  simp only [evL] at h
  cases e : evI Γ it η m with
  | no => rw [e] at h; exact h
  | ex v m1 => rw [e] at h; exact h
  | ok sr m1 =>
    rw [e] at h
    obtain ⟨src, gd⟩ := sr
    replace h : PostL G X.K r F H (out2 Γ gd t cd (inn2 Γ own1 t1 it1 cd1 el) (wipeP η own) src m1 []) Q (atW W σ) := h
    intro r1 F1 H1 J x1 R1 wk D hD
    have h := PostL.mono x1 R1 h
    have re1 : RE X.K r1 F1 (wipeP η own) (L2.wipe σ own) := (re.mono x1.pre x1.sub).wipe own
    have F1D : F1 D = none := by
      cases q : F1 D with
      | none => rfl
      | some u => rw [R1.sub _ _ q] at hD; cases hD
    have D1 : D ∉ r1 := fun z => by
      obtain ⟨u, hu⟩ := R1.liv D z
      rw [hD] at hu; cases hu
    refine ⟨fun i k H' => k = src.length - i ∧ i ≤ src.length ∧ ∃ r' F' m' acc av, Xt r1 F1 H1 r' F' H' ∧ RM X.K r' F' m' H' ∧ H' D = some (.lst av) ∧ F' D = none ∧ D ∉ r' ∧ RVs X.K r' F' acc av ∧
      PostL G X.K r1 F1 H1 (out2 Γ gd t cd (inn2 Γ own1 t1 it1 cd1 el) (wipeP η own) (src.drop i) m' acc) Q (atW W σ), ⟨src.length, by simp, Nat.zero_le _, r1, F1, m1, [], [], (Xt.refl _ _ _).stay hD, R1.stay F1D D1, L2.upd_same, F1D, D1, .nil, by simpa using h⟩, ?_⟩
    rintro i k H' ⟨rfl, hi', r', F', m', acc, av, x2, R2, eD, fD, nD, hv, h⟩
    have w2 := wk.mono x2
    by_cases hlt : i < src.length
    · have ed : src.drop i = src[i] :: src.drop (i + 1) := List.drop_eq_getElem_cons hlt
      rw [ed] at h
      unfold out2 at h
      simp only [lc2Go] at h
      cases eg : guards gd m' with
      | false => rw [eg] at h; exact h.elim
      | true =>
        rw [eg, if_pos rfl] at h
        refine .inr ⟨w2.go i r' F' m' H' (Ext.refl _ _) R2 eg hlt, fun H' => i + 1 ≤ src.length ∧ ∃ r' F' m' acc av, Xt r1 F1 H1 r' F' H' ∧ RM X.K r' F' m' H' ∧ H' D = some (.lst av) ∧ F' D = none ∧ D ∉ r' ∧ RVs X.K r' F' acc av ∧
          PostL G X.K r1 F1 H1 (out2 Γ gd t cd (inn2 Γ own1 t1 it1 cd1 el) (wipeP η own) (src.drop (i + 1)) m' acc) Q (atW W σ), fun H' hN => ⟨src.length - (i + 1), by omega, rfl, hN.1, hN.2⟩, fun xv H3 hy => ?_⟩
        obtain ⟨F3, x3, R3, v, ev, hxv⟩ := w2.yl i r' F' m' H' xv H3 (Ext.refl _ _) R2 eg hlt hy
        have ev' : v = src[i] := by rw [List.getElem?_eq_getElem hlt] at ev; exact (Option.some.inj ev).symm
        subst ev'
        obtain ⟨eD3, fD3, nD3⟩ := x3.unt D _ eD fD nD
        refine ⟨r', F3, wipeP η own, m', src[i], R3, re1.mono (x2.pre.trans x3.pre) (x2.sub.trans x3.sub), hxv, ?_⟩
        cases eb : bnd Γ t src[i] (wipeP η own) m' with
        | no => rw [eb] at h; exact h
        | ex u m4 => rw [eb] at h; exact h.elim
        | ok η4 m4 =>
          rw [eb] at h
          simp only [Res.bind_ok] at h
          intro r4 F4 H4 σ4 x4 R4 ⟨re4, cl4, cw4⟩
          refine ⟨(cw4 own hsl).trans (wipe_idem σ own), ?_⟩
          refine ⟨r4, F4, η4, m4, R4, re4, ?_⟩
          cases ec : evC Γ cd η4 m4 with
          | no => rw [ec] at h; exact h
          | ex u m5 => rw [ec] at h; exact h.elim
          | ok k5 m5 =>
            rw [ec] at h
            simp only [Res.bind_ok] at h
            intro r5 F5 H5 b5 x5 R5 hb5
            obtain rfl : k5 = b5 := hb5
            have x15 := ((x2.trans x3).trans x4).trans x5
            obtain ⟨eD5, fD5, nD5⟩ := (x4.trans x5).unt D _ eD3 fD3 nD3
            have hv5 := ((hv.mono x3.pre x3.sub).mono x4.pre x4.sub).mono x5.pre x5.sub
            cases k5 with
            | false =>
              rw [if_neg Bool.false_ne_true]
              rw [if_neg Bool.false_ne_true] at h
              exact ⟨hlt, r5, F5, m5, acc, av, x15, R5, eD5, fD5, nD5, hv5, h⟩
            | true =>
              rw [if_pos rfl]
              rw [if_pos rfl] at h
              have re5 := re4.mono x5.pre x5.sub
              refine ⟨r5, F5, η4, m5, R5, re5, ?_⟩
              unfold inn2 at h
              cases ei : evI Γ it1 η4 m5 with
              | no => rw [ei] at h; exact h
              | ex u m6 => rw [ei] at h; exact h.elim
              | ok s1 m6 =>
              rw [ei] at h
              simp only [Res.bind_ok] at h
              obtain ⟨src1, g1⟩ := s1
              replace h : PostL G X.K r1 F1 H1 (mid2 Γ g1 t1 cd1 el (wipeP η4 own1) src1 m6 acc fun a m => out2 Γ gd t cd (inn2 Γ own1 t1 it1 cd1 el) (wipeP η own) (src.drop (i + 1)) m a) Q (atW W σ) := by
                revert h
                unfold mid2 out2 inn2
                cases lcGo g1 (bnd Γ t1) (evC Γ cd1) (evE Γ el) (wipeP η4 own1) src1 m6 with
                | ex u m7 => exact fun h => h.elim
                | no => exact fun h => h.elim
                | ok ys m7 =>
                  simp only [Res.bind_ok, Res.nox_ok]
                  cases lc2Go gd (bnd Γ t) (evC Γ cd) (fun η m => (evI Γ it1 η m).bind fun s1 m3 => lcGo s1.2 (bnd Γ t1) (evC Γ cd1) (evE Γ el) (wipeP η own1) s1.1 m3) (wipeP η own) (src.drop (i + 1)) m7 with
                  | ex u m8 => exact fun h => h.elim
                  | no => exact fun h => h.elim
                  | ok vs m8 => simp only [Res.bind_ok, Res.nox_ok, List.append_assoc]; exact id
              intro r6 F6 H6 J1 x6 R6 wk1
              have x16 := x15.trans x6
              obtain ⟨eD6, fD6, nD6⟩ := x6.unt D _ eD5 fD5 nD5
              have hv6 := hv5.mono x6.pre x6.sub
              have re6 : RE X.K r6 F6 (wipeP η4 own1) (L2.wipe σ4 own1) := (re5.mono x6.pre x6.sub).wipe own1
              refine ⟨fun j k H' => k = src1.length - j ∧ j ≤ src1.length ∧ ∃ r' F' m' acc av, Xt r1 F1 H1 r' F' H' ∧ Ext r6 F6 r' F' ∧ RM X.K r' F' m' H' ∧ H' D = some (.lst av) ∧ F' D = none ∧ D ∉ r' ∧ RVs X.K r' F' acc av ∧
                PostL G X.K r1 F1 H1 (mid2 Γ g1 t1 cd1 el (wipeP η4 own1) (src1.drop j) m' acc fun a m => out2 Γ gd t cd (inn2 Γ own1 t1 it1 cd1 el) (wipeP η own) (src.drop (i + 1)) m a) Q (atW W σ),
                ⟨src1.length, by simp, Nat.zero_le _, r6, F6, m6, acc, av, x16, Ext.refl _ _, R6, eD6, fD6, nD6, hv6, by simpa using h⟩, ?_⟩
              rintro j k H7 ⟨rfl, hj', r7, F7, m7, acc7, av7, x7, y7, R7, eD7, fD7, nD7, hv7, h7⟩
              have wk7 : Wk X.K r7 F7 H7 J1 (src1, g1) := wk1.mono1 y7
              by_cases hlt1 : j < src1.length
              · have ed1 : src1.drop j = src1[j] :: src1.drop (j + 1) := List.drop_eq_getElem_cons hlt1
                rw [ed1] at h7
                unfold mid2 at h7
                simp only [lcGo] at h7
                cases eg1 : guards g1 m7 with
                | false => rw [eg1] at h7; exact h7.elim
                | true =>
                  rw [eg1, if_pos rfl] at h7
                  refine .inr ⟨wk7.go j r7 F7 m7 H7 (Ext.refl _ _) R7 eg1 hlt1, fun H' => j + 1 ≤ src1.length ∧ ∃ r' F' m' acc av, Xt r1 F1 H1 r' F' H' ∧ Ext r6 F6 r' F' ∧ RM X.K r' F' m' H' ∧ H' D = some (.lst av) ∧ F' D = none ∧ D ∉ r' ∧ RVs X.K r' F' acc av ∧
                    PostL G X.K r1 F1 H1 (mid2 Γ g1 t1 cd1 el (wipeP η4 own1) (src1.drop (j + 1)) m' acc fun a m => out2 Γ gd t cd (inn2 Γ own1 t1 it1 cd1 el) (wipeP η own) (src.drop (i + 1)) m a) Q (atW W σ), fun H' hN => ⟨src1.length - (j + 1), by omega, rfl, hN.1, hN.2⟩, fun xw H8 hy8 => ?_⟩
                  obtain ⟨F8, x8, R8, v8, ev8, hxv8⟩ := wk7.yl j r7 F7 m7 H7 xw H8 (Ext.refl _ _) R7 eg1 hlt1 hy8
                  have ev8' : v8 = src1[j] := by rw [List.getElem?_eq_getElem hlt1] at ev8; exact (Option.some.inj ev8).symm
                  subst ev8'
                  obtain ⟨eD8, fD8, nD8⟩ := x8.unt D _ eD7 fD7 nD7
                  refine ⟨r7, F8, wipeP η4 own1, m7, src1[j], R8, (re6.mono y7.pre y7.sub).mono x8.pre x8.sub, hxv8, ?_⟩
                  cases eb1 : bnd Γ t1 src1[j] (wipeP η4 own1) m7 with
                  | no => rw [eb1] at h7; exact h7
                  | ex u m9 => rw [eb1] at h7; exact h7.elim
                  | ok η9 m9 =>
                    rw [eb1] at h7
                    simp only [Res.bind_ok] at h7
                    intro r9 F9 H9 σ9 x9 R9 ⟨re9, cl9, cw9⟩
                    refine ⟨(cw9 own1 hsl1).trans (wipe_idem σ4 own1), ?_⟩
                    refine ⟨r9, F9, η9, m9, R9, re9, ?_⟩
                    cases ec1 : evC Γ cd1 η9 m9 with
                    | no => rw [ec1] at h7; exact h7
                    | ex u m10 => rw [ec1] at h7; exact h7.elim
                    | ok k10 m10 =>
                      rw [ec1] at h7
                      simp only [Res.bind_ok] at h7
                      intro r10 F10 H10 b10 x10 R10 hb10
                      obtain rfl : k10 = b10 := hb10
                      have xs10 := ((x7.trans x8).trans x9).trans x10
                      have ys10 := ((y7.trans x8.ext).trans x9.ext).trans x10.ext
                      obtain ⟨eD10, fD10, nD10⟩ := (x9.trans x10).unt D _ eD8 fD8 nD8
                      have hv10 := ((hv7.mono x8.pre x8.sub).mono x9.pre x9.sub).mono x10.pre x10.sub
                      cases k10 with
                      | false =>
                        rw [if_neg Bool.false_ne_true]
                        rw [if_neg Bool.false_ne_true] at h7
                        exact ⟨hlt1, r10, F10, m10, acc7, av7, xs10, ys10, R10, eD10, fD10, nD10, hv10, h7⟩
                      | true =>
                        rw [if_pos rfl]
                        rw [if_pos rfl] at h7
                        refine ⟨r10, F10, η9, m10, R10, re9.mono x10.pre x10.sub, ?_⟩
                        cases ee : evE Γ el η9 m10 with
                        | no => rw [ee] at h7; exact h7
                        | ex u m11 => rw [ee] at h7; exact h7.elim
                        | ok v11 m11 =>
                          rw [ee] at h7
                          simp only [Res.bind_ok] at h7
                          replace h7 : PostL G X.K r1 F1 H1 (mid2 Γ g1 t1 cd1 el (wipeP η4 own1) (src1.drop (j + 1)) m11 (acc7 ++ [v11]) fun a m => out2 Γ gd t cd (inn2 Γ own1 t1 it1 cd1 el) (wipeP η own) (src.drop (i + 1)) m a) Q (atW W σ) := by
                            revert h7
                            unfold mid2
                            cases lcGo g1 (bnd Γ t1) (evC Γ cd1) (evE Γ el) (wipeP η4 own1) (src1.drop (j + 1)) m11 with
                            | ok vs m12 => simp only [Res.bind_ok, Res.nox_ok, List.append_assoc, List.singleton_append]; exact id
                            | ex u m12 => exact fun h => h.elim
                            | no => exact fun h => h.elim
                          have len := mid2_len h7
                          intro r11 F11 H11 V11 x11 R11 hv11
                          obtain ⟨eD11, fD11, nD11⟩ := x11.unt D _ eD10 fD10 nD10
                          have hv' := hv10.mono x11.pre x11.sub
                          refine ⟨av7, eD11, by rw [← hv'.len, ← LINE_eq]; rw [List.length_append, List.length_singleton] at len; omega, hlt1, r11, F11, m11, acc7 ++ [v11], av7 ++ [V11], (xs10.trans x11).stay hD, ys10.trans x11.ext, R11.stay fD11 nD11, L2.upd_same, fD11, nD11, hv'.append (.cons hv11 .nil), h7⟩
              · have e1 : j = src1.length := by omega
                subst e1
                rw [List.drop_length] at h7
                unfold mid2 at h7
                simp only [lcGo] at h7
                cases eg1 : guards g1 m7 with
                | false => rw [eg1] at h7; exact h7.elim
                | true =>
                  rw [eg1, if_pos rfl] at h7
                  simp only [Res.bind_ok, Res.nox_ok, List.append_nil] at h7
                  exact .inl ⟨wk7.st r7 F7 m7 H7 (Ext.refl _ _) R7 eg1, hlt, r7, F7, m7, acc7, av7, x7, R7, eD7, fD7, nD7, hv7, h7⟩
    · have e : i = src.length := by omega
      subst e
      rw [List.drop_length] at h
      unfold out2 at h
      simp only [lc2Go] at h
      cases eg : guards gd m' with
      | false => rw [eg] at h; exact h.elim
      | true =>
        rw [eg, if_pos rfl] at h
        simp only [Res.bind_ok, Res.nox_ok, List.append_nil] at h
        rcases pl_ite (show PostL G X.K r1 F1 H1 (if acc.length ≤ LINE then .ok acc m' else .no) Q (atW W σ) from h) with ⟨_, h⟩ | ⟨_, h⟩
        · exact .inl ⟨w2.st r' F' m' H' (Ext.refl _ _) R2 eg, h r' F' H' D av x2 R2 hv eD fD nD hD⟩
        · exact h.elim
end
end Px
set_option Elab.async false
set_option linter.all false
set_option maxRecDepth 100000
set_option maxHeartbeats 4000000
namespace Px
open PySem
section
variable {G : XG} {c : Chk} {Γ : Call} {n : Nat}
theorem stars : ∀ {as : List Ex} {xs : List Expr} {s : Sc}, chkEs c s as xs = true → ∀ e ∈ xs, noStar e = true
  | [], [], _, _ => fun _ h => by cases h
  | [], _ :: _, _, h => by simp [chkEs] at h
  | _ :: _, [], _, h => by simp [chkEs] at h
  | a :: as, x :: xs, s, h => by
    simp only [chkEs, Bool.and_eq_true] at h
    intro e he
    rcases List.mem_cons.mp he with rfl | he
    · exact h.1.1
    · exact stars h.2 e he
theorem starsD : ∀ {as : List Ex} {xs : List Expr} {s : Sc} {d : List PV}, chkEd c s as xs d = true → ∀ e ∈ xs, noStar e = true
  | _, [], _, _, _ => fun _ h => by cases h
  | [], _ :: _, _, _, h => by simp [chkEd] at h
  | a :: as, x :: xs, s, d, h => by
    simp only [chkEd, Bool.and_eq_true] at h
    intro e he
    rcases List.mem_cons.mp he with rfl | he
    · exact h.1.1
    · exact starsD h.2 e he
theorem starsG : ∀ {ts : List Tg} {xs : List Expr} {s : Sc}, chkGs c s ts xs = true → ∀ e ∈ xs, noStar e = true
  | [], [], _, _ => fun _ h => by cases h
  | [], _ :: _, _, h => by simp [chkGs] at h
  | _ :: _, [], _, h => by simp [chkGs] at h
  | a :: as, x :: xs, s, h => by
    simp only [chkGs, Bool.and_eq_true] at h
    intro e he
    rcases List.mem_cons.mp he with rfl | he
    · exact h.1.1
    · exact starsG h.2 e he
def Snd (G : XG) (c : Chk) (Γ : Call) (n : Nat) (s : Sc) (P : L2.Cx → L2.WX → Prop) : Prop := ∀ X W, GF G X c Γ n → Good X c s n → L2.Takes X W → P X W
theorem and_one {X : L2.Cx} {W : L2.WX} {b : Ex} {y : Expr} {pos : Pos} {o : BoolOp} (h : L2.PE X y (upE G X.K Γ W b)) : L2.PE X (.BoolOp o [y] pos) (upE G X.K Γ W b) := L2.pe_one h
mutual
theorem sE : ∀ (a : Ex) (s : Sc) (e : Expr), chkE c s a e = true → Snd G c Γ n s fun X W => L2.PE X e (upE G X.K Γ W a)
  | .var i, s, e, h => fun X W gf g tk => by
    simp only [chkE] at h
    split at h
    · simp only [Bool.and_eq_true, decide_eq_true_eq] at h
      exact e_var g h.1.1 h.1.2 h.2
    · cases h
  | .gl x v, s, e, h => fun X W gf g tk => by
    simp only [chkE] at h
    split at h
    · simp only [Bool.and_eq_true, decide_eq_true_eq] at h
      obtain ⟨⟨⟨rfl, h2⟩, h3⟩, h4⟩ := h
      split at h4
      · rename_i w e1
        exact e_gl g gf h2 h3 e1 h4
      · cases h4
    · cases h
  | .non, s, e, h => fun X W gf g tk => by
    simp only [chkE] at h
    split at h
    · exact PE_imp L2.pe_non fun σ H Q ⟨r, F, η, m, R, re, q⟩ => Post.ok (v := PV.non) (by simpa only [evE] using q) R (RV.non)
    · cases h
  | .bl b, s, e, h => fun X W gf g tk => by
    simp only [chkE] at h
    split at h
    · obtain rfl : b = _ := by simpa using h
      exact PE_imp L2.pe_bl fun σ H Q ⟨r, F, η, m, R, re, q⟩ => Post.ok (v := PV.bl b) (by simpa only [evE] using q) R (RV.bl _)
    · cases h
  | .int i, s, e, h => fun X W gf g tk => by
    simp only [chkE] at h
    split at h
    · obtain rfl : i = _ := by simpa using h
      exact PE_imp L2.pe_int fun σ H Q ⟨r, F, η, m, R, re, q⟩ => Post.ok (v := PV.int i) (by simpa only [evE] using q) R (RV.int _)
    · cases h
  | .str i, s, e, h => fun X W gf g tk => by
    simp only [chkE] at h
    split at h
    · obtain rfl : i = _ := by simpa using h
      exact PE_imp L2.pe_str fun σ H Q ⟨r, F, η, m, R, re, q⟩ => Post.ok (v := PV.str i) (by simpa only [evE] using q) R (RV.str _)
    · cases h
  | .ty t, s, e, h => fun X W gf g tk => by
    simp only [chkE] at h
    split at h
    · simp only [Bool.and_eq_true, decide_eq_true_eq] at h
      obtain ⟨⟨rfl, h2⟩, h3⟩ := h
      exact e_ty g gf h2 h3
    · cases h
  | .bin o a b, s, e, h => fun X W gf g tk => by
    simp only [chkE] at h
    split at h
    · simp only [Bool.and_eq_true, decide_eq_true_eq] at h
      obtain ⟨⟨rfl, h2⟩, h3⟩ := h
      exact e_bin (sE a s _ h2 X W gf g tk) (sE b s _ h3 X W gf g tk)
    · cases h
  | .neg a, s, e, h => fun X W gf g tk => by
    simp only [chkE] at h
    split at h
    · exact e_neg (sE a s _ h X W gf g tk)
    · cases h
  | .cmp o a b, s, e, h => fun X W gf g tk => by
    simp only [chkE] at h
    split at h
    · simp only [Bool.and_eq_true, decide_eq_true_eq] at h
      obtain ⟨⟨⟨rfl, h1⟩, h2⟩, h3⟩ := h
      exact e_cmp g h1 (sE a s _ h2 X W gf g tk) (sE b s _ h3 X W gf g tk)
    · cases h
  | .chn o o' a b d, s, e, h => fun X W gf g tk => by
    simp only [chkE] at h
    split at h
    · simp only [Bool.and_eq_true, decide_eq_true_eq] at h
      obtain ⟨⟨⟨⟨⟨rfl, rfl⟩, h1⟩, h2⟩, h3⟩, h4⟩ := h
      exact e_chn g h1 (sE a s _ h2 X W gf g tk) (sE b s _ h3 X W gf g tk) (sE d s _ h4 X W gf g tk)
    · cases h
  | .and_ a b, s, e, h => fun X W gf g tk => by
    simp only [chkE] at h
    split at h
    · simp only [Bool.and_eq_true] at h
      exact e_and (sE a s _ h.1 X W gf g tk) (and_one (sE b s _ h.2 X W gf g tk))
    · simp only [Bool.and_eq_true] at h
      exact e_and (sE a s _ h.1 X W gf g tk) (sE b s _ h.2 X W gf g tk)
    · cases h
  | .or_ a b, s, e, h => fun X W gf g tk => by
    simp only [chkE] at h
    split at h
    · simp only [Bool.and_eq_true] at h
      exact e_or (sE a s _ h.1 X W gf g tk) (and_one (sE b s _ h.2 X W gf g tk))
    · simp only [Bool.and_eq_true] at h
      exact e_or (sE a s _ h.1 X W gf g tk) (sE b s _ h.2 X W gf g tk)
    · cases h
  | .not_ a, s, e, h => fun X W gf g tk => by
    simp only [chkE] at h
    split at h
    · exact e_not (sE a s _ h X W gf g tk)
    · cases h
  | .ite t a b, s, e, h => fun X W gf g tk => by
    simp only [chkE] at h
    split at h
    · simp only [Bool.and_eq_true] at h
      exact e_ite (sT t s _ h.1.1 X W gf g tk).1 (sE a s _ h.1.2 X W gf g tk) (sE b s _ h.2 X W gf g tk)
    · cases h
  | .tup es, s, e, h => fun X W gf g tk => by
    simp only [chkE] at h
    split at h
    · exact e_tup (sEs es s _ h X W gf g tk)
    · cases h
  | .pl l, s, e, h => fun X W gf g tk => e_pl (sL l s e (by simpa only [chkE] using h) X W gf g tk)
  | .ml l, s, e, h => fun X W gf g tk => e_ml (sL l s e (by simpa only [chkE] using h) X W gf g tk)
  | .emd, s, e, h => fun X W gf g tk => by
    simp only [chkE] at h
    split at h
    · exact e_emd
    · cases h
  | .mdc, s, e, h => fun X W gf g tk => by
    simp only [chkE] at h
    split at h
    · exact e_mdc
    · cases h
  | .idx a i, s, e, h => fun X W gf g tk => by
    simp only [chkE] at h
    split at h
    · simp only [Bool.and_eq_true] at h
      exact e_idx h.1.1 (sE a s _ h.1.2 X W gf g tk) (sE i s _ h.2 X W gf g tk)
    · cases h
  | .slc a lo hi, s, e, h => fun X W gf g tk => by
    simp only [chkE] at h
    split at h
    · simp only [Bool.and_eq_true] at h
      exact e_slc (sE a s _ h.1.1 X W gf g tk) (sO lo s _ h.1.2 X W gf g tk) (sO hi s _ h.2 X W gf g tk)
    · cases h
  | .call f es, s, e, h => fun X W gf g tk => by
    simp only [chkE] at h
    split at h
    · simp only [Bool.and_eq_true, decide_eq_true_eq] at h
      obtain ⟨j, hj, hs⟩ := sEd es s _ _ h.2
      exact e_call g gf tk h.1.1.1 h.1.1.2 h.1.2 hj (starsD h.2) (hs X W gf g tk)
    · cases h
  | .bf b es, s, e, h => fun X W gf g tk => by
    simp only [chkE] at h
    split at h
    · simp only [Bool.and_eq_true, decide_eq_true_eq] at h
      obtain ⟨⟨rfl, h2⟩, h3⟩ := h
      exact e_bf g gf h2 (stars h3) (sEs es s _ h3 X W gf g tk)
    · cases h
  | .tups ps, s, e, h => fun X W gf g tk => by
    simp only [chkE] at h
    split at h
    · exact e_tups (sPs ps s _ h X W gf g tk)
    · cases h
  | .rv a, s, e, h => fun X W gf g tk => by
    simp only [chkE] at h
    split at h
    · exact e_rv (sE a s _ h X W gf g tk)
    · cases h
  | .ten a, s, e, h => fun X W gf g tk => by
    simp only [chkE] at h
    split at h
    · simp only [Bool.and_eq_true, decide_eq_true_eq] at h
      obtain ⟨⟨⟨⟨⟨rfl, h1⟩, rfl⟩, h2⟩, h3⟩, h4⟩ := h
      exact e_ten g gf h1 h2 h3 (sE a s _ h4 X W gf g tk)
    · cases h
  | .bln a, s, e, h => fun X W gf g tk => by
    simp only [chkE] at h
    split at h
    · simp only [Bool.and_eq_true, decide_eq_true_eq] at h
      obtain ⟨⟨⟨rfl, h1⟩, h2⟩, h3⟩ := h
      exact e_bln h1 h2 (sE a s _ h3 X W gf g tk)
    · cases h
  | .mt m o es, s, e, h => fun X W gf g tk => by
    simp only [chkE] at h
    split at h
    · rename_i x nm ap ys cp
      simp only [Bool.and_eq_true, decide_eq_true_eq] at h
      obtain ⟨⟨⟨⟨⟨⟨rfl, h1⟩, h2⟩, h3⟩, h4⟩, h5⟩, h6⟩ := h
      have ho := sE o s _ h5 X W gf g tk
      have ha := sEs es s _ h6 X W gf g tk
      have hst := stars h6
      cases ys with
      | nil =>
        cases m with
        | pop =>
          cases es with
          | nil => exact e_pop h1 h2 ho
          | cons _ _ => simp [chkEs] at h6
        | _ => cases h4
      | cons y ys =>
        cases m with
        | pop => cases h4
        | append => exact e_append h1 h2 h3 hst ho ha
        | join => exact e_join h1 h2 h3 hst ho ha
        | split => exact e_split h1 h2 h3 hst ho ha
    · cases h
theorem sT : ∀ (a : Ex) (s : Sc) (e : Expr), chkT c s a e = true → Snd G c Γ n s fun X W => L2.PT X e (upT G X.K Γ W a) ∧ ((∃ o xs p, e = .BoolOp o xs p) → L2.PW X e (upT G X.K Γ W a))
  | .and_ a b, s, e, h => fun X W gf g tk => by
    simp only [chkT] at h
    split at h
    · simp only [Bool.and_eq_true] at h
      rename_i pos
      have w := w_and (pos := pos) (sT a s _ h.1 X W gf g tk).1 (L2.pw_and1 (sT b s _ h.2 X W gf g tk).1)
      exact ⟨w.pt, fun _ => w⟩
    · simp only [Bool.and_eq_true] at h
      have w := w_and (sT a s _ h.1 X W gf g tk).1 ((sT b s _ h.2 X W gf g tk).2 ⟨_, _, _, rfl⟩)
      exact ⟨w.pt, fun _ => w⟩
    · cases h
  | .or_ a b, s, e, h => fun X W gf g tk => by
    simp only [chkT] at h
    split at h
    · simp only [Bool.and_eq_true] at h
      rename_i pos
      have w := w_or (pos := pos) (sT a s _ h.1 X W gf g tk).1 (L2.pw_or1 (sT b s _ h.2 X W gf g tk).1)
      exact ⟨w.pt, fun _ => w⟩
    · simp only [Bool.and_eq_true] at h
      have w := w_or (sT a s _ h.1 X W gf g tk).1 ((sT b s _ h.2 X W gf g tk).2 ⟨_, _, _, rfl⟩)
      exact ⟨w.pt, fun _ => w⟩
    · cases h
  | .not_ a, s, e, h => fun X W gf g tk => by
    simp only [chkT] at h
    split at h
    · exact ⟨t_not (sT a s _ h X W gf g tk).1, fun ⟨_, _, _, q⟩ => by cases q⟩
    · cases h
  | .cmp o a b, s, e, h => fun X W gf g tk => by
    simp only [chkT] at h
    split at h
    · simp only [Bool.and_eq_true, decide_eq_true_eq] at h
      obtain ⟨⟨⟨rfl, h1⟩, h2⟩, h3⟩ := h
      exact ⟨t_cmp g h1 (sE a s _ h2 X W gf g tk) (sE b s _ h3 X W gf g tk), fun ⟨_, _, _, q⟩ => by cases q⟩
    · cases h
  | .chn o o' a b d, s, e, h => fun X W gf g tk => by
    simp only [chkT] at h
    split at h
    · simp only [Bool.and_eq_true, decide_eq_true_eq] at h
      obtain ⟨⟨⟨⟨⟨rfl, rfl⟩, h1⟩, h2⟩, h3⟩, h4⟩ := h
      exact ⟨t_chn g h1 (sE a s _ h2 X W gf g tk) (sE b s _ h3 X W gf g tk) (sE d s _ h4 X W gf g tk), fun ⟨_, _, _, q⟩ => by cases q⟩
    · cases h
  | .var i, s, e, h => fun X W gf g tk => by
    simp only [chkT] at h
    split at h
    · simp only [Bool.and_eq_true, decide_eq_true_eq] at h
      exact ⟨t_plain rfl (e_var g h.1.1 h.1.2 h.2), fun ⟨_, _, _, q⟩ => by cases q⟩
    · cases h
  | .bl b, s, e, h => fun X W gf g tk => by
    simp only [chkT] at h
    split at h
    · obtain rfl : b = _ := by simpa using h
      exact ⟨t_plain rfl (PE_imp L2.pe_bl fun σ H Q ⟨r, F, η, m, R, re, q⟩ => Post.ok (v := PV.bl b) (by simpa only [evE] using q) R (RV.bl _)), fun ⟨_, _, _, q⟩ => by cases q⟩
    · cases h
  | .call f es, s, e, h => fun X W gf g tk => by
    simp only [chkT] at h
    split at h
    · simp only [Bool.and_eq_true, decide_eq_true_eq] at h
      obtain ⟨j, hj, hs⟩ := sEd es s _ _ h.2
      exact ⟨t_plain rfl (e_call g gf tk h.1.1.1 h.1.1.2 h.1.2 hj (starsD h.2) (hs X W gf g tk)), fun ⟨_, _, _, q⟩ => by cases q⟩
    · cases h
  | .bf b es, s, e, h => fun X W gf g tk => by
    simp only [chkT] at h
    split at h
    · simp only [Bool.and_eq_true, decide_eq_true_eq] at h
      obtain ⟨⟨rfl, h2⟩, h3⟩ := h
      exact ⟨t_plain rfl (e_bf g gf h2 (stars h3) (sEs es s _ h3 X W gf g tk)), fun ⟨_, _, _, q⟩ => by cases q⟩
    · cases h
  | .idx a i, s, e, h => fun X W gf g tk => by
    simp only [chkT] at h
    split at h
    · simp only [Bool.and_eq_true] at h
      exact ⟨t_plain rfl (e_idx h.1.1 (sE a s _ h.1.2 X W gf g tk) (sE i s _ h.2 X W gf g tk)), fun ⟨_, _, _, q⟩ => by cases q⟩
    · cases h
  | .gl .., s, e, h | .non, s, e, h | .int .., s, e, h | .str .., s, e, h | .ty .., s, e, h | .bin .., s, e, h | .neg .., s, e, h | .ite .., s, e, h | .tup .., s, e, h | .pl .., s, e, h | .ml .., s, e, h | .emd, s, e, h | .mdc, s, e, h | .slc .., s, e, h | .mt .., s, e, h | .bln .., s, e, h | .ten .., s, e, h | .rv .., s, e, h | .tups .., s, e, h => by simp [chkT] at h
theorem sEs : ∀ (as : List Ex) (s : Sc) (es : List Expr), chkEs c s as es = true → Snd G c Γ n s fun X W => L2.PA X es (upEs G X.K Γ W as)
  | [], s, es, h => fun X W gf g tk => by
    cases es with
    | nil => exact a_nil
    | cons _ _ => simp [chkEs] at h
  | a :: as, s, es, h => fun X W gf g tk => by
    cases es with
    | nil => simp [chkEs] at h
    | cons x xs =>
      simp only [chkEs, Bool.and_eq_true] at h
      exact a_cons h.1.1 (sE a s x h.1.2 X W gf g tk) (sEs as s xs h.2 X W gf g tk)
theorem sPs : ∀ (as : List Pt) (s : Sc) (es : List Expr), chkPs c s as es = true → Snd G c Γ n s fun X W => L2.PA X es (upPs G X.K Γ W as)
  | [], s, es, h => fun X W gf g tk => by
    cases es with
    | nil => exact p_nil
    | cons _ _ => simp [chkPs] at h
  | .one a :: as, s, es, h => fun X W gf g tk => by
    cases es with
    | nil => simp [chkPs] at h
    | cons x xs =>
      simp only [chkPs, Bool.and_eq_true] at h
      exact p_one h.1.1 (sE a s x h.1.2 X W gf g tk) (sPs as s xs h.2 X W gf g tk)
  | .all a :: as, s, es, h => fun X W gf g tk => by
    cases es with
    | nil => simp [chkPs] at h
    | cons x xs =>
      simp only [chkPs, Bool.and_eq_true] at h
      obtain ⟨h1, h2⟩ := h
      split at h1
      · exact p_all (sE a s _ h1 X W gf g tk) (sPs as s xs h2 X W gf g tk)
      · cases h1
  | .rng a b :: as, s, es, h => fun X W gf g tk => by
    cases es with
    | nil => simp [chkPs] at h
    | cons x xs =>
      simp only [chkPs, Bool.and_eq_true] at h
      obtain ⟨h1, h2⟩ := h
      split at h1
      · simp only [Bool.and_eq_true, decide_eq_true_eq] at h1
        obtain ⟨⟨⟨⟨⟨rfl, e2⟩, e3⟩, e4⟩, e5⟩, e6⟩ := h1
        exact p_rng g gf e2 e3 e4 (sE a s _ e5 X W gf g tk) (sE b s _ e6 X W gf g tk) (sPs as s xs h2 X W gf g tk)
      · cases h1
theorem sEd : ∀ (as : List Ex) (s : Sc) (es : List Expr) (d : List PV), chkEd c s as es d = true → ∃ j ≤ d.length, Snd G c Γ n s fun X W => L2.PA X es (upEd G X.K Γ W ((d.drop j).map cV) as)
  | [], s, es, d, h => by
    cases es with
    | nil =>
      simp only [chkEd] at h
      exact ⟨_, Nat.sub_le _ _, fun X W gf g tk => d_nil h⟩
    | cons _ _ => simp [chkEd] at h
  | a :: as, s, es, d, h => by
    cases es with
    | nil =>
      simp only [chkEd] at h
      exact ⟨_, Nat.sub_le _ _, fun X W gf g tk => d_nil h⟩
    | cons x xs =>
      simp only [chkEd, Bool.and_eq_true] at h
      obtain ⟨j, hj, hs⟩ := sEd as s xs d h.2
      exact ⟨j, hj, fun X W gf g tk => d_cons h.1.1 (sE a s x h.1.2 X W gf g tk) (hs X W gf g tk)⟩
theorem sO : ∀ (a : Option Ex) (s : Sc) (e : Option Expr), chkO c s a e = true → Snd G c Γ n s fun X W => L2.PO X e (upO G X.K Γ W a)
  | none, s, e, h => fun X W gf g tk => by
    cases e with
    | none => exact o_none
    | some _ => simp [chkO] at h
  | some a, s, e, h => fun X W gf g tk => by
    cases e with
    | none => simp [chkO] at h
    | some x => exact o_some (sE a s x (by simpa only [chkO] using h) X W gf g tk)
theorem sC : ∀ (a : Option Ex) (s : Sc) (e : List Expr), chkC c s a e = true → Snd G c Γ n s fun X W => L2.PTs X e (upC G X.K Γ W a)
  | none, s, e, h => fun X W gf g tk => by
    cases e with
    | nil => exact c_none
    | cons _ _ => simp [chkC] at h
  | some a, s, e, h => fun X W gf g tk => by
    match e, h with
    | [x], h => exact c_some (sT a s x (by simpa only [chkC] using h) X W gf g tk).1
    | [], h => simp [chkC] at h
    | _ :: _ :: _, h => simp [chkC] at h
theorem sL : ∀ (a : LEx) (s : Sc) (e : Expr), chkL c s a e = true → Snd G c Γ n s fun X W => L2.PE X e (upL G X.K Γ W a)
  | .dsp es, s, e, h => fun X W gf g tk => by
    simp only [chkL] at h
    split at h
    · exact l_dsp (sEs es s _ h X W gf g tk)
    · cases h
  | .cp own t it cd el, s, e, h => fun X W gf g tk => by
    simp only [chkL] at h
    split at h
    · rename_i x tg iter ifs scope pos
      simp only [Bool.and_eq_true, decide_eq_true_eq] at h
      obtain ⟨⟨⟨⟨⟨⟨⟨h1, h2⟩, h3⟩, h4⟩, h5⟩, h6⟩, h7⟩, h8⟩ := h
      have hi := sI it s tg iter h4 X W gf g tk
      have hg := fun (st : Shared) (H : L2.Hp) (C : Addr) (cl : List (Str × Addr)) (fp : List Addr) => sG t _ tg h5 (X.blk st H scope (compEnvC scope cl C X.env) fp) W0 (gf.blk st H scope _ fp) (g.blk st H scope C cl fp) takes_none
      have ht := fun (st : Shared) (H : L2.Hp) (C : Addr) (cl : List (Str × Addr)) (fp : List Addr) => sC cd _ ifs h7 (X.blk st H scope (compEnvC scope cl C X.env) fp) W0 (gf.blk st H scope _ fp) (g.blk st H scope C cl fp) takes_none
      have he := fun (st : Shared) (H : L2.Hp) (C : Addr) (cl : List (Str × Addr)) (fp : List Addr) => sE el _ x h8 (X.blk st H scope (compEnvC scope cl C X.env) fp) W0 (gf.blk st H scope _ fp) (g.blk st H scope C cl fp) takes_none
      exact PE_imp (L2.pe_lc g.calm g.nd hi (by rw [g.N, g.sc]; exact L2.blkOk_by h2) hg ht he (fold_of h1)) (l_cp g h1 h2 h3 h6 hi hg ht he)
    · cases h
  | .cp2 own own1 t it cd t1 it1 cd1 el, s, e, h => fun X W gf g tk => by
    simp only [chkL] at h
    split at h
    · rename_i x tg iter ifs tg1 iter1 ifs1 scope pos
      simp only [Bool.and_eq_true, decide_eq_true_eq, List.all_eq_true] at h
      obtain ⟨⟨⟨⟨⟨⟨⟨⟨⟨⟨⟨⟨⟨h1, h1b⟩, h2⟩, h3⟩, hv⟩, h4⟩, h5⟩, h6⟩, h7⟩, h8⟩, h9⟩, h10⟩, h11⟩, h12⟩ := h
      have hi := sI it s tg iter h4 X W gf g tk
      have hg := fun (st : Shared) (H : L2.Hp) (C : Addr) (cl : List (Str × Addr)) (fp : List Addr) => sG t _ tg h5 (X.blk st H scope (compEnvC scope cl C X.env) fp) W0 (gf.blk st H scope _ fp) (g.blk st H scope C cl fp) takes_none
      have ht := fun (st : Shared) (H : L2.Hp) (C : Addr) (cl : List (Str × Addr)) (fp : List Addr) => sC cd _ ifs h7 (X.blk st H scope (compEnvC scope cl C X.env) fp) W0 (gf.blk st H scope _ fp) (g.blk st H scope C cl fp) takes_none
      have hi1 := fun (st : Shared) (H : L2.Hp) (C : Addr) (cl : List (Str × Addr)) (fp : List Addr) => sI it1 _ tg1 iter1 h8 (X.blk st H scope (compEnvC scope cl C X.env) fp) W0 (gf.blk st H scope _ fp) (g.blk st H scope C cl fp) takes_none
      have hg1 := fun (st : Shared) (H : L2.Hp) (C : Addr) (cl : List (Str × Addr)) (fp : List Addr) => sG t1 _ tg1 h9 (X.blk st H scope (compEnvC scope cl C X.env) fp) W0 (gf.blk st H scope _ fp) (g.blk st H scope C cl fp) takes_none
      have ht1 := fun (st : Shared) (H : L2.Hp) (C : Addr) (cl : List (Str × Addr)) (fp : List Addr) => sC cd1 _ ifs1 h11 (X.blk st H scope (compEnvC scope cl C X.env) fp) W0 (gf.blk st H scope _ fp) (g.blk st H scope C cl fp) takes_none
      have he := fun (st : Shared) (H : L2.Hp) (C : Addr) (cl : List (Str × Addr)) (fp : List Addr) => sE el _ x h12 (X.blk st H scope (compEnvC scope cl C X.env) fp) W0 (gf.blk st H scope _ fp) (g.blk st H scope C cl fp) takes_none
      exact PE_imp (L2.pe_lc2 (vs1 := own1) (wi := upI G X.K Γ W it) (g := upG G X.K Γ W0 t) (tt := upC G X.K Γ W0 cd) (wi1 := upI G X.K Γ W0 it1) (g1 := upG G X.K Γ W0 t1) (tt1 := upC G X.K Γ W0 cd1) (te := upE G X.K Γ W0 el) g.calm g.nd hi (by rw [g.N, g.sc]; exact L2.blkOk_by h2) (fun i hi => by rw [h3]; exact hv i hi) hg ht hi1 hg1 ht1 he (fold_of h1) (fun env => fold_of h1b)) (l_cp2 h3 h6 h10)
    · cases h
  | .dsps ps, s, e, h => fun X W gf g tk => by
    simp only [chkL] at h
    split at h
    · exact l_dsps (sPs ps s _ h X W gf g tk)
    · cases h
  | .lof a, s, e, h => fun X W gf g tk => by
    simp only [chkL] at h
    split at h
    · simp only [Bool.and_eq_true, decide_eq_true_eq] at h
      obtain ⟨⟨⟨rfl, h1⟩, h2⟩, h3⟩ := h
      exact l_lof g gf h1 h2 (sE a s _ h3 X W gf g tk)
    · cases h
  | .cat a b, s, e, h => fun X W gf g tk => by
    simp only [chkL] at h
    split at h
    · simp only [Bool.and_eq_true] at h
      exact l_cat (sE a s _ h.1 X W gf g tk) (sE b s _ h.2 X W gf g tk)
    · cases h
  | .rep a b, s, e, h => fun X W gf g tk => by
    simp only [chkL] at h
    split at h
    · simp only [Bool.and_eq_true] at h
      exact l_rep (sE a s _ h.1 X W gf g tk) (sE b s _ h.2 X W gf g tk)
    · cases h
  | .rvs a, s, e, h => fun X W gf g tk => by
    simp only [chkL] at h
    split at h
    · exact l_rvs (sE a s _ h X W gf g tk)
    · cases h
  | .slc a lo hi, s, e, h => fun X W gf g tk => by
    simp only [chkL] at h
    split at h
    · simp only [Bool.and_eq_true] at h
      exact l_slc (sE a s _ h.1.1 X W gf g tk) (sO lo s _ h.1.2 X W gf g tk) (sO hi s _ h.2 X W gf g tk)
    · cases h
  | .lrg1 a, s, e, h => fun X W gf g tk => by
    simp only [chkL] at h
    split at h
    · simp only [Bool.and_eq_true, decide_eq_true_eq] at h
      obtain ⟨⟨⟨⟨⟨rfl, h1⟩, rfl⟩, h2⟩, h3⟩, h4⟩ := h
      exact l_lrg1 g gf h1 h2 h3 (sE a s _ h4 X W gf g tk)
    · cases h
  | .lrg2 a b, s, e, h => fun X W gf g tk => by
    simp only [chkL] at h
    split at h
    · simp only [Bool.and_eq_true, decide_eq_true_eq] at h
      obtain ⟨⟨⟨⟨⟨⟨⟨rfl, h1⟩, rfl⟩, h2⟩, h3⟩, h4⟩, h5⟩, h6⟩ := h
      exact l_lrg2 g gf h1 h2 h3 h4 (sE a s _ h5 X W gf g tk) (sE b s _ h6 X W gf g tk)
    · cases h
  | .sst a, s, e, h => fun X W gf g tk => by
    simp only [chkL] at h
    split at h
    · simp only [Bool.and_eq_true, decide_eq_true_eq] at h
      obtain ⟨⟨⟨⟨⟨rfl, h1⟩, rfl⟩, h2⟩, h3⟩, h4⟩ := h
      exact l_sst g gf h1 h2 h3 (sE a s _ h4 X W gf g tk)
    · cases h
  | .srt a, s, e, h => fun X W gf g tk => by
    simp only [chkL] at h
    split at h
    · simp only [Bool.and_eq_true, decide_eq_true_eq] at h
      obtain ⟨⟨⟨rfl, h1⟩, h2⟩, h3⟩ := h
      exact l_srt g gf h1 h2 (sE a s _ h3 X W gf g tk)
    · cases h
theorem sI : ∀ (a : It) (s : Sc) (tg e : Expr), chkI c s a tg e = true → Snd G c Γ n s fun X W => L2.PI X tg e (upI G X.K Γ W a)
  | .sq a, s, tg, e, h => fun X W gf g tk => i_sq (sE a s e (by simpa only [chkI] using h) X W gf g tk)
  | .rg1 a, s, tg, e, h => fun X W gf g tk => by
    simp only [chkI] at h
    split at h
    · simp only [Bool.and_eq_true, decide_eq_true_eq] at h
      obtain ⟨⟨⟨rfl, h1⟩, h2⟩, h3⟩ := h
      exact i_rg1 g gf h1 h2 (sE a s _ h3 X W gf g tk)
    · cases h
  | .rg2 a b, s, tg, e, h => fun X W gf g tk => by
    simp only [chkI] at h
    split at h
    · simp only [Bool.and_eq_true, decide_eq_true_eq] at h
      obtain ⟨⟨⟨⟨⟨rfl, h1⟩, h2⟩, h3⟩, h4⟩, h5⟩ := h
      exact i_rg2 g gf h1 h2 h3 (sE a s _ h4 X W gf g tk) (sE b s _ h5 X W gf g tk)
    · cases h
  | .rg3 a b d, s, tg, e, h => fun X W gf g tk => by
    simp only [chkI] at h
    split at h
    · simp only [Bool.and_eq_true, decide_eq_true_eq] at h
      obtain ⟨⟨⟨⟨⟨⟨⟨rfl, h1⟩, h2⟩, h3⟩, h4⟩, h5⟩, h6⟩, h7⟩ := h
      exact i_rg3 g gf h1 h2 h3 h4 (sE a s _ h5 X W gf g tk) (sE b s _ h6 X W gf g tk) (sE d s _ h7 X W gf g tk)
    · cases h
  | .enm a, s, tg, e, h => fun X W gf g tk => by
    simp only [chkI] at h
    split at h
    · simp only [Bool.and_eq_true, decide_eq_true_eq] at h
      obtain ⟨⟨⟨rfl, h1⟩, h2⟩, h3⟩ := h
      exact i_enm g gf h1 h2 (sE a s _ h3 X W gf g tk)
    · cases h
  | .zip a b, s, tg, e, h => fun X W gf g tk => by
    simp only [chkI] at h
    split at h
    · simp only [Bool.and_eq_true, decide_eq_true_eq] at h
      obtain ⟨⟨⟨⟨⟨rfl, h1⟩, h2⟩, h3⟩, h4⟩, h5⟩ := h
      exact i_zip g gf h1 h2 h3 (sE a s _ h4 X W gf g tk) (sE b s _ h5 X W gf g tk)
    · cases h
  | .rev a, s, tg, e, h => fun X W gf g tk => by
    simp only [chkI] at h
    split at h
    · simp only [Bool.and_eq_true, decide_eq_true_eq] at h
      obtain ⟨⟨⟨rfl, h1⟩, h2⟩, h3⟩ := h
      exact i_rev g gf h1 h2 (sE a s _ h3 X W gf g tk)
    · cases h
  | .rr1 a, s, tg, e, h => fun X W gf g tk => by
    simp only [chkI] at h
    split at h
    · simp only [Bool.and_eq_true, decide_eq_true_eq] at h
      obtain ⟨⟨⟨⟨⟨rfl, h1⟩, rfl⟩, h2⟩, h3⟩, h4⟩ := h
      exact i_rr1 g gf h1 h2 h3 (sE a s _ h4 X W gf g tk)
    · cases h
  | .rr2 a b, s, tg, e, h => fun X W gf g tk => by
    simp only [chkI] at h
    split at h
    · simp only [Bool.and_eq_true, decide_eq_true_eq] at h
      obtain ⟨⟨⟨⟨⟨⟨⟨rfl, h1⟩, rfl⟩, h2⟩, h3⟩, h4⟩, h5⟩, h6⟩ := h
      exact i_rr2 g gf h1 h2 h3 h4 (sE a s _ h5 X W gf g tk) (sE b s _ h6 X W gf g tk)
    · cases h
theorem sG : ∀ (a : Tg) (s : Sc) (e : Expr), chkG c s a e = true → Snd G c Γ n s fun X W => L2.PG X e (upG G X.K Γ W a)
  | .nm i, s, e, h => fun X W gf g tk => by
    simp only [chkG] at h
    split at h
    · simp only [Bool.and_eq_true, decide_eq_true_eq] at h
      exact g_nm g h.1 h.2
    · cases h
  | .tp ts, s, e, h => fun X W gf g tk => by
    simp only [chkG] at h
    split at h
    · simp only [Bool.and_eq_true, decide_eq_true_eq] at h
      exact g_tp g h.1 (starsG h.2) (sGs ts s _ h.2 X W gf g tk)
    · cases h
  | .ix a i, s, e, h => fun X W gf g tk => by
    simp only [chkG] at h
    split at h
    · simp only [Bool.and_eq_true] at h
      exact g_ix h.1.1 (sE a s _ h.1.2 X W gf g tk) (sE i s _ h.2 X W gf g tk)
    · cases h
theorem sGs : ∀ (a : List Tg) (s : Sc) (e : List Expr), chkGs c s a e = true → Snd G c Γ n s fun X W => L2.PGs X e (upGs G X.K Γ W a)
  | [], s, es, h => fun X W gf g tk => by
    cases es with
    | nil => exact gs_nil
    | cons _ _ => simp [chkGs] at h
  | a :: as, s, es, h => fun X W gf g tk => by
    cases es with
    | nil => simp [chkGs] at h
    | cons x xs =>
      simp only [chkGs, Bool.and_eq_true] at h
      exact gs_cons h.1.1 (sG a s x h.1.2 X W gf g tk) (sGs as s xs h.2 X W gf g tk)
end
end
end Px
set_option Elab.async false
set_option linter.all false
set_option maxRecDepth 100000
set_option maxHeartbeats 4000000
namespace Px
open PySem
def nmTs (s : Sc) (line : Nat) (ts : List Expr) : List Str := ts.filterMap fun
  | .Name id pos => if s.kind id == some .local && pos.line == line then some id else none
  | _ => none
def swD (s : Sc) (ts vs : List Expr) : Nat :=
  if !(ts.length == 2 || ts.length == 3) || vs.length != ts.length then 0
  else if vs.any fun | .Starred .. => true | _ => false then 0
  else if (nmTs s ((ts.head?.map (·.pos.line)).getD 0) ts).length != ts.length || (nmTs s ((ts.head?.map (·.pos.line)).getD 0) ts).eraseDups.length != (nmTs s ((ts.head?.map (·.pos.line)).getD 0) ts).length then 0
  else if vs.all (foldedForSure 8) then 0
  else if vs.all (constantsAlone 8) then 2 else 1
def swapB (s : Sc) (tg v : Expr) : Bool := match v with
  | .ListComp _ _ sc _ => (match tg with
    | .Name t p => s.isLocal t && p.line == v.pos.line && !(sc.names.any fun (n, k) => n == t && (k == .local || k == .cell))
    | _ => false)
  | .SetComp .. => true
  | .DictComp .. => true
  | _ => false
def parB (s : Sc) (tg v : Expr) : Bool := match tg, v with
  | .Tuple ts _ _, .Tuple vs _ _ => swD s ts vs != 0
  | _, _ => false
def setlc (c : Chk) (s : Sc) (t : Tg) (e : Ex) (tg v : Expr) : Bool := match t, tg with
  | .nm i, .Name y _ => swapB s tg v && decide (c.N[i]? = some y) && s.isLocal y && (match v with
    | .ListComp .. => true
    | _ => false) && (match e with
    | .pl (.cp own t it cd el) => chkL c s (.cp own t it cd el) v
    | .ml (.cp own t it cd el) => chkL c s (.cp own t it cd el) v
    | .pl (.cp2 own own1 t it cd t1 it1 cd1 el) => chkL c s (.cp2 own own1 t it cd t1 it1 cd1 el) v
    | _ => false)
  | _, _ => false
def nameAt (c : Chk) (s : Sc) (i : Nat) : Expr → Bool
  | .Name x _ => decide (c.N[i]? = some x) && s.isLocal x
  | _ => false
mutual
def chkS (c : Chk) : Sc → St → Stmt → Bool
  | s, .asg t e, st => match st with
    | .Assign [tg] v _ => (!swapB s tg v && !parB s tg v && chkG c s t tg && chkE c s e v) || setlc c s t e tg v
    | _ => false
  | s, .par is es, st => match is, es, st with
    | [i, j], es, .Assign [.Tuple [x, y] _ _] (.Tuple [a, b] _ _) _ => swD s [x, y] [a, b] == 1 && decide (i ≠ j) && nameAt c s i x && nameAt c s j y && chkEs c s es [a, b]
    | [i, j, k], es, .Assign [.Tuple [x, y, z] _ _] (.Tuple [a, b, d] _ _) _ => swD s [x, y, z] [a, b, d] == 1 && decide (i ≠ j) && decide (i ≠ k) && decide (j ≠ k) && nameAt c s i x && nameAt c s j y && nameAt c s k z && chkEs c s es [a, b, d]
    | _, _, _ => false
  | s, .aug i o e, st => match st with
    | .AugAssign (.Name x _) p v _ => decide (c.N[i]? = some x) && s.lcl x && decide (opOf o = p) && chkE c s e v
    | _ => false
  | _, .augx _ _ _ _, _ => false
  | s, .ex e, st => match st with
    | .Expr v _ => noComp v && chkE c s e v
    | _ => false
  | s, .ret e, st => match e, st with
    | none, .Return none _ => true
    | some e, .Return (some v) _ => chkE c s e v
    | _, _ => false
  | s, .iff t a b, st => match st with
    | .If x p q _ => chkT c s t x && chkSs c s a p && chkSs c s b q
    | _ => false
  | s, .whl t a, st => match st with
    | .While x p [] _ => chkT c s t x && chkSs c s a p
    | _ => false
  | s, .for_ t it b, st => match st with
    | .For tg iter p [] _ => noSet iter && chkG c s t tg && chkI c s it tg iter && chkSs c s b p
    | _ => false
  | _, .rai _ _, _ => true
  | _, .brk, st => match st with
    | .Break _ => true
    | _ => false
  | _, .cnt, st => match st with
    | .Continue _ => true
    | _ => false
  | _, .pas, st => match st with
    | .Pass _ => true
    | .Expr (.Constant (.str _) _ _) _ => true
    | _ => false
def chkSs (c : Chk) : Sc → List St → List Stmt → Bool
  | _, [], [] => true
  | s, x :: xs, y :: ys => chkS c s x y && chkSs c s xs ys
  | _, _, _ => false
end
def PostS (G : XG) (K : PySem.W.Frag) (r : List Addr) (F H : L2.Hp) (W : WX) (D : L2.Ends) : RS → Prop
  | .nx η m => ∀ r' F' H' σ', Xt r F H r' F' H' → RM K r' F' m H' → RE K r' F' η σ' → D.nx σ' H'
  | .rt v m => ∀ r' F' H' V, Xt r F H r' F' H' → RM K r' F' m H' → RV K r' F' v V → D.rt V H'
  | .bk η m => ∀ r' F' H' σ', Xt r F H r' F' H' → RM K r' F' m H' → RE K r' F' η σ' → D.bk σ' H'
  | .ct η m => ∀ r' F' H' σ', Xt r F H r' F' H' → RM K r' F' m H' → RE K r' F' η σ' → D.ct σ' H'
  | .ex x η m => ∀ r' F' H' σ' C d, Xt r F H r' F' H' → RM K r' F' m H' → RE K r' F' η σ' → G x.cls = some C → RX K r' F' H' x d → W C d σ' H'
  | .no => False
def upS (G : XG) (K : PySem.W.Frag) (W : WX) (ev : Env → Mem → RS) : L2.TS := fun D σ H => ∃ r F η m, RM K r F m H ∧ RE K r F η σ ∧ PostS G K r F H W D (ev η m)
section
variable {G : XG} {K : PySem.W.Frag} {r r' : List Addr} {F F' H H' : L2.Hp} {α β γ δ : Type} {W : WX} {D D' : L2.Ends}
theorem PostS.mono {res : RS} (x : Xt r F H r' F' H') (h : PostS G K r F H W D res) : PostS G K r' F' H' W D res := by
  cases res with
  | no => exact h
  | nx => exact fun r2 F2 H2 a h1 => h r2 F2 H2 a (x.trans h1)
  | rt => exact fun r2 F2 H2 a h1 => h r2 F2 H2 a (x.trans h1)
  | bk => exact fun r2 F2 H2 a h1 => h r2 F2 H2 a (x.trans h1)
  | ct => exact fun r2 F2 H2 a h1 => h r2 F2 H2 a (x.trans h1)
  | ex => exact fun r2 F2 H2 a b d h1 => h r2 F2 H2 a b d (x.trans h1)
theorem PostS.st {res : Res α} {η : Env} {σ : L2.St} {f : α → Mem → RS} {rel : List Addr → L2.Hp → α → β → Prop} (re : RE K r F η σ) (h : PostS G K r F H W D (res.st η f)) :
    Post G K r F H res rel (fun V H1 => ∃ r1 F1 v m1, Xt r F H r1 F1 H1 ∧ RM K r1 F1 m1 H1 ∧ rel r1 F1 v V ∧ PostS G K r1 F1 H1 W D (f v m1)) (atW W σ) := by
  cases res with
  | ok v m => exact fun r2 F2 H2 V h1 h3 h4 => ⟨r2, F2, v, m, h1, h3, h4, PostS.mono h1 h⟩
  | ex x m => exact fun r2 F2 H2 C d h1 h3 h4 h5 => h r2 F2 H2 σ C d h1 h3 (re.mono h1.pre h1.sub) h4 h5
  | no => exact h
theorem PostS.stI {res : Res Src} {η : Env} {σ : L2.St} {f : Src → Mem → RS} (re : RE K r F η σ) (h : PostS G K r F H W D (res.st η f)) :
    PostI G K r F H res (fun J H1 => ∃ r1 F1 s m1, Xt r F H r1 F1 H1 ∧ RM K r1 F1 m1 H1 ∧ Wk K r1 F1 H1 J s ∧ PostS G K r1 F1 H1 W D (f s m1)) (atW W σ) := by
  cases res with
  | ok v m => exact fun r2 F2 H2 V h1 h3 h4 => ⟨r2, F2, v, m, h1, h3, h4, PostS.mono h1 h⟩
  | ex x m => exact fun r2 F2 H2 C d h1 h3 h4 h5 => h r2 F2 H2 σ C d h1 h3 (re.mono h1.pre h1.sub) h4 h5
  | no => exact h
theorem PostS.stL {res : Res (List PV)} {η : Env} {σ : L2.St} {f : List PV → Mem → RS} (re : RE K r F η σ) (h : PostS G K r F H W D (res.st η f)) :
    Post G K r F H res (RVs K) (fun V H1 => ∃ r1 F1 v m1, Xt r F H r1 F1 H1 ∧ RM K r1 F1 m1 H1 ∧ RVs K r1 F1 v V ∧ PostS G K r1 F1 H1 W D (f v m1)) (atW W σ) := PostS.st re h
theorem PostS.nx {η : Env} {m : Mem} {σ : L2.St} (h : PostS G K r F H W D (.nx η m)) (hm : RM K r F m H) (re : RE K r F η σ) : D.nx σ H := h r F H σ (Xt.refl _ _ _) hm re
theorem PostS.seq {res : RS} {k : Env → Mem → RS} (h : PostS G K r F H W D (seqK res k)) : PostS G K r F H W { D with nx := upS G K W k D } res := by
  cases res with
  | nx η m => exact fun r2 F2 H2 σ h1 h2 h3 => ⟨r2, F2, η, m, h2, h3, PostS.mono h1 h⟩
  | _ => exact h
theorem PostS.turn {res : RS} {k : Env → Mem → RS} (h : PostS G K r F H W D (loopK res k)) :
    PostS G K r F H W { D with nx := fun σ' H' => ∃ r' F' η m, Xt r F H r' F' H' ∧ RM K r' F' m H' ∧ RE K r' F' η σ' ∧ PostS G K r' F' H' W D (k η m), ct := fun σ' H' => ∃ r' F' η m, Xt r F H r' F' H' ∧ RM K r' F' m H' ∧ RE K r' F' η σ' ∧ PostS G K r' F' H' W D (k η m), bk := D.nx } res := by
  cases res with
  | nx η m => exact fun r2 F2 H2 σ h1 h2 h3 => ⟨r2, F2, η, m, h1, h2, h3, PostS.mono h1 h⟩
  | ct η m => exact fun r2 F2 H2 σ h1 h2 h3 => ⟨r2, F2, η, m, h1, h2, h3, PostS.mono h1 h⟩
  | _ => exact h
theorem PostS.ends {res : RS} (h : PostS G K r F H W D res) (h1 : ∀ σ H, D.nx σ H → D'.nx σ H) (h2 : ∀ σ H, D.rt σ H → D'.rt σ H) (h3 : ∀ σ H, D.bk σ H → D'.bk σ H) (h4 : ∀ σ H, D.ct σ H → D'.ct σ H) : PostS G K r F H W D' res := by
  cases res with
  | no => exact h
  | nx => exact fun r2 F2 H2 a x y z => h1 _ _ (h r2 F2 H2 a x y z)
  | rt => exact fun r2 F2 H2 a x y z => h2 _ _ (h r2 F2 H2 a x y z)
  | bk => exact fun r2 F2 H2 a x y z => h3 _ _ (h r2 F2 H2 a x y z)
  | ct => exact fun r2 F2 H2 a x y z => h4 _ _ (h r2 F2 H2 a x y z)
  | ex => exact h
end
structure GoodS (X : L2.Cx) (c : Chk) (s : Sc) (n : Nat) : Prop where
  g : Good X c s n
  kind : X.env.blockKind = .function
  own : s.own = none
  fn : ∀ x, X.fn x = true
  pass : PassesOwn (model X.prog X.w) X.A X.env X.xe
section
variable {G : XG} {X : L2.Cx} {c : Chk} {Γ : Call} {n : Nat} {s : Sc} {W : L2.WX} {pos p2 : Pos} {a b e : Ex} {x y z v a' b' d' : Expr}
theorem PS_imp {e : Stmt} {t t' : L2.TS} (h : L2.PS X e t) (hi : ∀ D σ H, t' D σ H → t D σ H) : L2.PS X e t' := ⟨fun pins s σ H Q I hw => h.run pins s σ H Q I (hi _ _ _ hw)⟩
theorem PSs_imp {e : List Stmt} {t t' : L2.TS} (h : L2.PSs X e t) (hi : ∀ D σ H, t' D σ H → t D σ H) : L2.PSs X e t' := ⟨fun pins s σ H Q I hw => h.run pins s σ H Q I (hi _ _ _ hw)⟩
theorem kindOf_eq (g : Good X c s n) (x : Str) : X.env.kindOf x = s.kind x := by
  unfold PySem.Env.kindOf Sc.kind; rw [g.sc]
theorem isLocal_iff {x : Str} (h : s.isLocal x = true) : s.kind x = some .local := by
  unfold Sc.isLocal at h
  split at h
  · assumption
  · cases h
theorem names_eq (g : Good X c s n) (ts : List Expr) (line : Nat) : (ts.filterMap fun
    | .Name id pos => if X.env.kindOf id == some .local && pos.line == line then some id else none
    | _ => none) = nmTs s line ts := by
  unfold nmTs
  congr 1
  funext e
  cases e <;> first | rfl | (simp only [kindOf_eq g])
theorem sw_kind (g : GoodS X c s n) : (X.env.blockKind != .function) = false := by rw [g.kind]; rfl
theorem swapped_eq (g : GoodS X c s n) {ts vs : List Expr} {k k2 : Nat} {p p2 : Pos} : swappedStores [.Tuple ts k p] (.Tuple vs k2 p2) X.env =
    if swD s ts vs = 0 then pure none else if swD s ts vs = 2 then unsupported "assign.tuple-of-constant-expressions:order-of-the-stores" else pure (some (nmTs s ((ts.head?.map (·.pos.line)).getD 0) ts)) := by
  unfold swappedStores swD
  simp only [sw_kind g, Bool.or_false]
  generalize hq : List.filterMap _ ts = ms
  obtain rfl : ms = nmTs s ((ts.head?.map (·.pos.line)).getD 0) ts := by rw [← hq]; exact names_eq g.g ts _
  clear hq
  generalize (!(ts.length == 2 || ts.length == 3) || vs.length != ts.length) = c1
  generalize (vs.any _) = c2
  generalize (nmTs s _ ts) = ns
  generalize (ns.length != ts.length || ns.eraseDups.length != ns.length) = c3
  generalize (vs.all (foldedForSure 8)) = c4
  generalize (vs.all (constantsAlone 8)) = c5
  cases c1 <;> cases c2 <;> cases c3 <;> cases c4 <;> cases c5 <;> rfl
theorem stores_none (g : GoodS X c s n) {tg v : Expr} (h : parB s tg v = false) (hl : ∀ xs p, tg ≠ .List xs p) : swappedStores [tg] v X.env = pure none := by
  cases tg with
  | List xs p => exact absurd rfl (hl xs p)
  | Tuple ts k p =>
    cases v with
    | Tuple vs k2 p2 => rw [swapped_eq g, if_pos (by simpa [parB] using h)]
    | _ => rfl
  | _ => rfl
theorem local_eq (t : Str) : (s.kind t == some .local) = s.isLocal t := by
  unfold Sc.isLocal
  cases s.kind t with
  | none => rfl
  | some k => cases k <;> rfl
theorem fn_eq : (ScopeKind.function == ScopeKind.function) = true := rfl
theorem swap_none (g : GoodS X c s n) {tg v : Expr} {line : Nat} (h : swapB s tg v = false) : swapsWithSole [tg] v line X.env = pure false := by
  show swapsWith v (some tg) line X.env = pure false
  cases v with
  | ListComp el gs sc p =>
    cases tg with
    | Name t p2 =>
      show (pure _ : Sem Bool) = pure false
      congr 1
      rw [kindOf_eq g.g, g.kind, local_eq, fn_eq, Bool.true_and]
      exact h
    | _ => rfl
  | SetComp el gs sc p => cases h
  | DictComp el gs sc p => cases h
  | _ => rfl
theorem swap_some (g : GoodS X c s n) {t : Str} {p : Pos} {el : Expr} {gs : List Comprehension} {sc : Scope} {pc : Pos} {line : Nat} (h : swapB s (.Name t p) (.ListComp el gs sc pc) = true) : swapsWith (.ListComp el gs sc pc) (some (.Name t p)) line X.env = pure true := by
  show (pure _ : Sem Bool) = pure true
  congr 1
  rw [kindOf_eq g.g, g.kind, local_eq, fn_eq, Bool.true_and]
  exact h
theorem each_one {e : Expr} (h : noStar e = true) : (assignEach [e] X.env).map (·.2) = [assign e X.env] := by
  rw [each_cons h]; rfl
theorem chkG_star : ∀ {t : Tg} {e : Expr}, chkG c s t e = true → noStar e = true ∧ ∀ xs p, e ≠ .List xs p
  | .nm i, e, h => by
    simp only [chkG] at h
    split at h
    · exact ⟨rfl, fun _ _ z => by cases z⟩
    · cases h
  | .tp i, e, h => by
    simp only [chkG] at h
    split at h
    · exact ⟨rfl, fun _ _ z => by cases z⟩
    · cases h
  | .ix a i, e, h => by
    simp only [chkG] at h
    split at h
    · exact ⟨rfl, fun _ _ z => by cases z⟩
    · cases h
theorem s_asg {t : Tg} {tg : Expr} (g : GoodS X c s n) (h1 : swapB s tg v = false) (h2 : parB s tg v = false) (h3 : noStar tg = true) (h4 : ∀ xs p, tg ≠ .List xs p) (hg : L2.PG X tg (upG G X.K Γ W t)) (he : L2.PE X v (upE G X.K Γ W e)) :
    L2.PS X (.Assign [tg] v pos) (upS G X.K W (evS Γ (.asg t e))) := by
  refine PS_imp (L2.ps_asg he hg (swap_none g h1) (stores_none g h2 h4) (each_one h3)) fun D σ H ⟨r, F, η, m, R, re, h⟩ => ⟨r, F, η, m, R, re, ?_⟩
  simp only [evS] at h
  refine (PostS.st (rel := RV X.K) re h).imp fun V H1 ⟨r1, F1, v1, m1, x1, R1, hv, h1⟩ => ?_
  have re1 := re.mono x1.pre x1.sub
  refine ⟨r1, F1, η, m1, v1, R1, re1, hv, ?_⟩
  exact (PostS.st (rel := fun r F η' σ' => RE X.K r F η' σ' ∧ Chg t σ σ') re1 h1).imp fun σ2 H2 ⟨r2, F2, η2, m2, x2, R2, ⟨re2, _⟩, h2⟩ => h2.nx R2 re2
theorem s_setlc {own : List Nat} {i : Nat} {y : Str} {py pc : Pos} {t : Tg} {it : It} {cd : Option Ex} {el : Ex} {elt tg iter : Expr} {ifs : List Expr} {scope : Scope} (gs : GoodS X c s n) (gf : GF G X c Γ n) (tk : L2.Takes X W) (hy : c.N[i]? = some y) (hl : s.isLocal y = true)
    (hsw : swapB s (.Name y py) (.ListComp elt [⟨tg, iter, ifs, 0⟩] scope pc) = true) (h : chkL c s (.cp own t it cd el) (.ListComp elt [⟨tg, iter, ifs, 0⟩] scope pc) = true) (ev : Env → Mem → RS)
    (hev : ∀ r F σ H (D : L2.Ends) η m, RM X.K r F m H → RE X.K r F η σ → PostS G X.K r F H W D (ev η m) → PostL G X.K r F H (evL Γ (.cp own t it cd el) η m) (fun V H1 => D.nx (σ.set i (some V)) H1) (atW W σ)) :
    L2.PS X (.Assign [.Name y py] (.ListComp elt [⟨tg, iter, ifs, 0⟩] scope pc) pos) (upS G X.K W ev) := by
  have g := gs.g
  simp only [chkL, Bool.and_eq_true, decide_eq_true_eq] at h
  obtain ⟨⟨⟨⟨⟨⟨⟨h1, h2⟩, h3⟩, h4⟩, h5⟩, h6⟩, h7⟩, h8⟩ := h
  have hi := sI it s tg iter h4 X W gf g tk
  have hg := fun (st : Shared) (H : L2.Hp) (C : Addr) (cl : List (Str × Addr)) (fp : List Addr) => sG t _ tg h5 (X.blk st H scope (compEnvC scope cl C X.env) fp) W0 (gf.blk st H scope _ fp) (g.blk st H scope C cl fp) takes_none
  have ht := fun (st : Shared) (H : L2.Hp) (C : Addr) (cl : List (Str × Addr)) (fp : List Addr) => sC cd _ ifs h7 (X.blk st H scope (compEnvC scope cl C X.env) fp) W0 (gf.blk st H scope _ fp) (g.blk st H scope C cl fp) takes_none
  have he := fun (st : Shared) (H : L2.Hp) (C : Addr) (cl : List (Str × Addr)) (fp : List Addr) => sE el _ elt h8 (X.blk st H scope (compEnvC scope cl C X.env) fp) W0 (gf.blk st H scope _ fp) (g.blk st H scope C cl fp) takes_none
  refine PS_imp (L2.ps_setLc (g := upG G X.K Γ W0 t) (tt := upC G X.K Γ W0 cd) (te := upE G X.K Γ W0 el) g.calm g.nd (by rw [g.N]; exact hy) (by rw [g.sc]; exact isLocal_iff hl) (swap_some gs hsw) hi (by rw [g.N, g.sc]; exact L2.blkOk_by h2) hg ht he (fold_of h1)) fun D σ H ⟨r, F, η, m, R, re, h⟩ => ?_
  exact l_cp (W := W) g h1 h2 h3 h6 hi hg ht he σ H _ ⟨r, F, η, m, R, re, hev r F σ H D η m R re h⟩
theorem s_setlc2 {own own1 : List Nat} {i : Nat} {y : Str} {py pc : Pos} {t t1 : Tg} {it it1 : It} {cd cd1 : Option Ex} {el : Ex} {elt tg iter tg1 iter1 : Expr} {ifs ifs1 : List Expr} {scope : Scope} (gs : GoodS X c s n) (gf : GF G X c Γ n) (tk : L2.Takes X W) (hy : c.N[i]? = some y) (hl : s.isLocal y = true)
    (hsw : swapB s (.Name y py) (.ListComp elt [⟨tg, iter, ifs, 0⟩, ⟨tg1, iter1, ifs1, 0⟩] scope pc) = true) (h : chkL c s (.cp2 own own1 t it cd t1 it1 cd1 el) (.ListComp elt [⟨tg, iter, ifs, 0⟩, ⟨tg1, iter1, ifs1, 0⟩] scope pc) = true) (ev : Env → Mem → RS)
    (hev : ∀ r F σ H (D : L2.Ends) η m, RM X.K r F m H → RE X.K r F η σ → PostS G X.K r F H W D (ev η m) → PostL G X.K r F H (evL Γ (.cp2 own own1 t it cd t1 it1 cd1 el) η m) (fun V H1 => D.nx (σ.set i (some V)) H1) (atW W σ)) :
    L2.PS X (.Assign [.Name y py] (.ListComp elt [⟨tg, iter, ifs, 0⟩, ⟨tg1, iter1, ifs1, 0⟩] scope pc) pos) (upS G X.K W ev) := by
  have g := gs.g
  simp only [chkL, Bool.and_eq_true, decide_eq_true_eq, List.all_eq_true] at h
  obtain ⟨⟨⟨⟨⟨⟨⟨⟨⟨⟨⟨⟨⟨h1, h1b⟩, h2⟩, h3⟩, hv⟩, h4⟩, h5⟩, h6⟩, h7⟩, h8⟩, h9⟩, h10⟩, h11⟩, h12⟩ := h
  have hi := sI it s tg iter h4 X W gf g tk
  have hg := fun (st : Shared) (H : L2.Hp) (C : Addr) (cl : List (Str × Addr)) (fp : List Addr) => sG t _ tg h5 (X.blk st H scope (compEnvC scope cl C X.env) fp) W0 (gf.blk st H scope _ fp) (g.blk st H scope C cl fp) takes_none
  have ht := fun (st : Shared) (H : L2.Hp) (C : Addr) (cl : List (Str × Addr)) (fp : List Addr) => sC cd _ ifs h7 (X.blk st H scope (compEnvC scope cl C X.env) fp) W0 (gf.blk st H scope _ fp) (g.blk st H scope C cl fp) takes_none
  have hi1 := fun (st : Shared) (H : L2.Hp) (C : Addr) (cl : List (Str × Addr)) (fp : List Addr) => sI it1 _ tg1 iter1 h8 (X.blk st H scope (compEnvC scope cl C X.env) fp) W0 (gf.blk st H scope _ fp) (g.blk st H scope C cl fp) takes_none
  have hg1 := fun (st : Shared) (H : L2.Hp) (C : Addr) (cl : List (Str × Addr)) (fp : List Addr) => sG t1 _ tg1 h9 (X.blk st H scope (compEnvC scope cl C X.env) fp) W0 (gf.blk st H scope _ fp) (g.blk st H scope C cl fp) takes_none
  have ht1 := fun (st : Shared) (H : L2.Hp) (C : Addr) (cl : List (Str × Addr)) (fp : List Addr) => sC cd1 _ ifs1 h11 (X.blk st H scope (compEnvC scope cl C X.env) fp) W0 (gf.blk st H scope _ fp) (g.blk st H scope C cl fp) takes_none
  have he := fun (st : Shared) (H : L2.Hp) (C : Addr) (cl : List (Str × Addr)) (fp : List Addr) => sE el _ elt h12 (X.blk st H scope (compEnvC scope cl C X.env) fp) W0 (gf.blk st H scope _ fp) (g.blk st H scope C cl fp) takes_none
  refine PS_imp (L2.ps_setLc2 (vs1 := own1) (wi := upI G X.K Γ W it) (g := upG G X.K Γ W0 t) (tt := upC G X.K Γ W0 cd) (wi1 := upI G X.K Γ W0 it1) (g1 := upG G X.K Γ W0 t1) (tt1 := upC G X.K Γ W0 cd1) (te := upE G X.K Γ W0 el) g.calm g.nd (by rw [g.N]; exact hy) (by rw [g.sc]; exact isLocal_iff hl) (swap_some gs hsw) hi (by rw [g.N, g.sc]; exact L2.blkOk_by h2) (fun i hi => by rw [h3]; exact hv i hi) hg ht hi1 hg1 ht1 he (fold_of h1) (fun env => fold_of h1b)) fun D σ H ⟨r, F, η, m, R, re, h⟩ => ?_
  exact l_cp2 (W := W) h3 h6 h10 σ H _ ⟨r, F, η, m, R, re, hev r F σ H D η m R re h⟩
theorem post_asgE {r : List Addr} {F H : L2.Hp} {σ : L2.St} {D : L2.Ends} {η : Env} {m : Mem} {i : Nat} {e : Ex} (re : RE X.K r F η σ) (h : PostS G X.K r F H W D (evS Γ (.asg (.nm i) e) η m)) : Post G X.K r F H (evE Γ e η m) (RV X.K) (fun V H1 => D.nx (σ.set i (some V)) H1) (atW W σ) := by
  simp only [evS, bnd, Res.st_ok] at h
  exact (PostS.st (rel := RV X.K) re h).imp fun V H1 ⟨r1, F1, v1, m1, x1, R1, hv, h1⟩ => h1.nx R1 ((re.mono x1.pre x1.sub).set hv)
theorem nameAt_inv {i : Nat} {e : Expr} (h : nameAt c s i e = true) : ∃ x p, e = .Name x p ∧ c.N[i]? = some x ∧ s.kind x = some .local := by
  unfold nameAt at h
  split at h
  · simp only [Bool.and_eq_true, decide_eq_true_eq] at h
    exact ⟨_, _, rfl, h.1, isLocal_iff h.2⟩
  · cases h
theorem nm_two (g : GoodS X c s n) {x y : Str} {p1 p2 p pt : Pos} {k k2 : Nat} {vs : List Expr} (h : swD s [.Name x p1, .Name y p2] vs = 1) : swappedStores [.Tuple [.Name x p1, .Name y p2] k p] (.Tuple vs k2 pt) X.env = pure (some [x, y]) := by
  rw [swapped_eq g, if_neg (by rw [h]; decide), if_neg (by rw [h]; decide)]
  have hl : (nmTs s ((([.Name x p1, .Name y p2] : List Expr).head?.map (·.pos.line)).getD 0) [.Name x p1, .Name y p2]).length = 2 := by
    unfold swD at h
    split at h
    · cases h
    · split at h
      · cases h
      · split at h
        · cases h
        · rename_i q
          simp only [Bool.or_eq_true, not_or, bne_iff_ne, ne_eq, Decidable.not_not] at q
          exact q.1
  congr 2
  revert hl
  unfold nmTs
  simp only [List.filterMap_cons, List.filterMap_nil]
  split <;> split <;> simp_all
theorem nm_three (g : GoodS X c s n) {x y z : Str} {p1 p2 p3 p pt : Pos} {k k2 : Nat} {vs : List Expr} (h : swD s [.Name x p1, .Name y p2, .Name z p3] vs = 1) : swappedStores [.Tuple [.Name x p1, .Name y p2, .Name z p3] k p] (.Tuple vs k2 pt) X.env = pure (some [x, y, z]) := by
  rw [swapped_eq g, if_neg (by rw [h]; decide), if_neg (by rw [h]; decide)]
  have hl : (nmTs s ((([.Name x p1, .Name y p2, .Name z p3] : List Expr).head?.map (·.pos.line)).getD 0) [.Name x p1, .Name y p2, .Name z p3]).length = 3 := by
    unfold swD at h
    split at h
    · cases h
    · split at h
      · cases h
      · split at h
        · cases h
        · rename_i q
          simp only [Bool.or_eq_true, not_or, bne_iff_ne, ne_eq, Decidable.not_not] at q
          exact q.1
  congr 2
  revert hl
  unfold nmTs
  simp only [List.filterMap_cons, List.filterMap_nil]
  split <;> split <;> split <;> simp_all
theorem s_par2 {i j : Nat} {es : List Ex} {kt k2 : Nat} {pt pt2 : Pos} (g : GoodS X c s n) (h1 : swD s [x, y] [a', b'] = 1) (hij : i ≠ j) (hx : nameAt c s i x = true) (hy : nameAt c s j y = true) (ha : L2.PA X [a', b'] (upEs G X.K Γ W es)) :
    L2.PS X (.Assign [.Tuple [x, y] kt pt] (.Tuple [a', b'] k2 pt2) pos) (upS G X.K W (evS Γ (.par [i, j] es))) := by
  obtain ⟨x, px, rfl, nx, lx⟩ := nameAt_inv hx
  obtain ⟨y, py, rfl, ny, ly⟩ := nameAt_inv hy
  refine PS_imp (L2.ps_par g.g.calm g.g.nd (by rw [g.g.N]; exact nx) (by rw [g.g.N]; exact ny) hij (by rw [g.g.sc]; exact lx) (by rw [g.g.sc]; exact ly) ha (nm_two g h1) rfl) fun D σ H ⟨r, F, η, m, R, re, h⟩ => ⟨r, F, η, m, R, re, ?_⟩
  simp only [evS] at h
  refine (PostS.stL re h).imp fun V H1 ⟨r1, F1, v1, m1, x1, R1, hv, h1⟩ => ?_
  unfold parK at h1
  split at h1
  · rename_i hl
    cases hv with
    | nil => cases hl
    | cons u t => cases t with
      | nil => cases hl
      | cons u' t => cases t with
        | nil => exact ⟨_, _, rfl, h1.nx R1 (((re.mono x1.pre x1.sub).set u).set u')⟩
        | cons _ _ => simp at hl
  · exact h1.elim
theorem s_par3 {i j l : Nat} {es : List Ex} {kt k2 : Nat} {pt pt2 : Pos} (g : GoodS X c s n) (h1 : swD s [x, y, z] [a', b', d'] = 1) (hij : i ≠ j) (hil : i ≠ l) (hjl : j ≠ l) (hx : nameAt c s i x = true) (hy : nameAt c s j y = true) (hz : nameAt c s l z = true) (ha : L2.PA X [a', b', d'] (upEs G X.K Γ W es)) :
    L2.PS X (.Assign [.Tuple [x, y, z] kt pt] (.Tuple [a', b', d'] k2 pt2) pos) (upS G X.K W (evS Γ (.par [i, j, l] es))) := by
  obtain ⟨x, px, rfl, nx, lx⟩ := nameAt_inv hx
  obtain ⟨y, py, rfl, ny, ly⟩ := nameAt_inv hy
  obtain ⟨z, pz, rfl, nz, lz⟩ := nameAt_inv hz
  refine PS_imp (L2.ps_par3 g.g.calm g.g.nd (by rw [g.g.N]; exact nx) (by rw [g.g.N]; exact ny) (by rw [g.g.N]; exact nz) hij hil hjl (by rw [g.g.sc]; exact lx) (by rw [g.g.sc]; exact ly) (by rw [g.g.sc]; exact lz) ha (nm_three g h1) rfl) fun D σ H ⟨r, F, η, m, R, re, h⟩ => ⟨r, F, η, m, R, re, ?_⟩
  simp only [evS] at h
  refine (PostS.stL re h).imp fun V H1 ⟨r1, F1, v1, m1, x1, R1, hv, h1⟩ => ?_
  unfold parK at h1
  split at h1
  · rename_i hl
    cases hv with
    | nil => cases hl
    | cons u t => cases t with
      | nil => cases hl
      | cons u' t => cases t with
        | nil => cases hl
        | cons u2 t => cases t with
          | nil => exact ⟨_, _, _, rfl, h1.nx R1 ((((re.mono x1.pre x1.sub).set u).set u').set u2)⟩
          | cons _ _ => simp at hl
  · exact h1.elim
theorem ok_aug {W : Value → Option Addr → L2.Hp → Prop} (o : Op2) : L2.PIp X (opOf o) (rB G X.K W (fun m => opAug m o)) := by
  intro pins s σ H V U v u Q I rx ry h
  obtain ⟨r, F, m, x, y, hm, hx, hy, h⟩ := h
  replace h : Post G X.K r F H (opAug m o x y) (RV X.K) Q W := h
  cases hx <;> cases hy <;> cases o <;> (try exact h.elim)
  case int.int.add i j => exact L2.ip_add pins s σ H _ _ v u Q I rx ry ⟨i, j, rfl, rfl, h.ok hm (.int _)⟩
  case int.int.sub i j => exact L2.ip_sub pins s σ H _ _ v u Q I rx ry ⟨i, j, rfl, rfl, h.ok hm (.int _)⟩
  case int.int.mul i j =>
    rcases post_ite h with ⟨c, h⟩ | ⟨_, h⟩
    · obtain ⟨t, rfl⟩ := rx
      obtain ⟨t', rfl⟩ := ry
      exact P.imul_int ⟨.int _, H, I.tok _, ⟨_, rfl⟩, h.ok hm (.int _)⟩ (L2.CMulW.ok c)
    · exact h.elim
  case str.str.add i j =>
    rcases post_ite h with ⟨c, h⟩ | ⟨_, h⟩
    · exact L2.iop_add_str pins s σ H _ _ v u Q I rx ry ⟨i, j, rfl, rfl, by rw [← LINE_eq]; exact c, h.ok hm (.str _)⟩
    · exact h.elim
theorem s_aug {i : Nat} {nm : Str} {o : Op2} (g : GoodS X c s n) (h1 : c.N[i]? = some nm) (h2 : s.lcl nm = true) (he : L2.PE X v (upE G X.K Γ W e)) : L2.PS X (.AugAssign (.Name nm p2) (opOf o) v pos) (upS G X.K W (evS Γ (.aug i o e))) := by
  refine PS_imp (L2.ps_aug (ti := rB G X.K tt0 (fun m => opAug m o)) g.g.nd (by rw [g.g.N]; exact h1) (loc_of g.g h2) he (ok_aug o) (.inl (g.fn _))) fun D σ H ⟨r, F, η, m, R, re, h⟩ => ?_
  simp only [evS, getV] at h
  split at h
  · rename_i w e1
    obtain ⟨V, e2, hV⟩ := re.gt i w e1
    refine ⟨V, e2, r, F, η, m, R, re, ?_⟩
    simp only [Res.st_ok] at h
    refine (PostS.st (rel := RV X.K) re h).imp fun U H1 ⟨r1, F1, u, m1, x1, R1, hu, h1⟩ => ⟨r1, F1, m1, w, u, R1, hV.mono x1.pre x1.sub, hu, ?_⟩
    have re1 := re.mono x1.pre x1.sub
    exact (((PostS.st (rel := RV X.K) re1 h1).imp fun Z H2 ⟨r2, F2, z, m2, x2, R2, hz, h2⟩ => h2.nx R2 ((re1.mono x2.pre x2.sub).set hz))).tt
  · exact h.elim
theorem s_ex (g : GoodS X c s n) (hc : noComp v = true) (he : L2.PE X v (upE G X.K Γ W e)) : L2.PS X (.Expr v pos) (upS G X.K W (evS Γ (.ex e))) := by
  refine PS_imp (L2.ps_expr he ?_) fun D σ H ⟨r, F, η, m, R, re, h⟩ => ⟨r, F, η, m, R, re, ?_⟩
  · cases v <;> first | rfl | (simp [noComp] at hc)
  · simp only [evS] at h
    exact (PostS.st (rel := RV X.K) re h).imp fun V H1 ⟨r1, F1, v1, m1, x1, R1, hv, h1⟩ => h1.nx R1 (re.mono x1.pre x1.sub)
theorem s_ret (he : L2.PE X v (upE G X.K Γ W e)) : L2.PS X (.Return (some v) pos) (upS G X.K W (evS Γ (.ret (some e)))) := by
  refine PS_imp (L2.ps_ret he) fun D σ H ⟨r, F, η, m, R, re, h⟩ => ⟨r, F, η, m, R, re, ?_⟩
  simp only [evS] at h
  exact (PostS.st (rel := RV X.K) re h).imp fun V H1 ⟨r1, F1, v1, m1, x1, R1, hv, h1⟩ => h1 r1 F1 H1 V (Xt.refl _ _ _) R1 hv
theorem s_retN : L2.PS X (.Return none pos) (upS G X.K W (evS Γ (.ret none))) := by
  refine PS_imp L2.ps_retN fun D σ H ⟨r, F, η, m, R, re, h⟩ => ?_
  simp only [evS] at h
  exact h r F H .non (Xt.refl _ _ _) R RV.non
theorem s_if {t : Ex} {as bs : List St} {p q : List Stmt} (ht : L2.PT X x (upT G X.K Γ W t)) (ha : L2.PSs X p (upS G X.K W (evSs Γ as))) (hb : L2.PSs X q (upS G X.K W (evSs Γ bs))) : L2.PS X (.If x p q pos) (upS G X.K W (evS Γ (.iff t as bs))) := by
  refine PS_imp (L2.ps_if ht ha hb) fun D σ H ⟨r, F, η, m, R, re, h⟩ => ⟨r, F, η, m, R, re, ?_⟩
  simp only [evS] at h
  refine (PostS.st (rel := RelI (α := Bool)) re h).imp fun k H1 ⟨r1, F1, k1, m1, x1, R1, hk, h1⟩ => ?_
  obtain rfl : k1 = k := hk
  cases k1 with
  | true => rw [if_pos rfl] at h1 ⊢; exact ⟨r1, F1, η, m1, R1, re.mono x1.pre x1.sub, h1⟩
  | false => rw [if_neg Bool.false_ne_true] at h1 ⊢; exact ⟨r1, F1, η, m1, R1, re.mono x1.pre x1.sub, h1⟩
theorem s_while {t : Ex} {as : List St} {p : List Stmt} (g : GoodS X c s n) (ht : L2.PT X x (upT G X.K Γ W t)) (ha : L2.PSs X p (upS G X.K W (evSs Γ as))) : L2.PS X (.While x p [] pos) (upS G X.K W (evS Γ (.whl t as))) := by
  refine PS_imp (L2.ps_while g.pass ht ha) fun D σ H ⟨r, F, η, m, R, re, h⟩ => ?_
  simp only [evS] at h
  refine ⟨fun k σ' H' => ∃ r' F' η' m', RM X.K r' F' m' H' ∧ RE X.K r' F' η' σ' ∧ PostS G X.K r' F' H' W D (whGo (evC Γ (some t)) (evSs Γ as) k η' m'), ⟨_, r, F, η, m, R, re, h⟩, ?_⟩
  rintro k σ1 H1 ⟨r1, F1, η1, m1, R1, re1, h1⟩
  cases k with
  | zero => exact h1.elim
  | succ k =>
    simp only [whGo] at h1
    refine ⟨r1, F1, η1, m1, R1, re1, ?_⟩
    refine (PostS.st (rel := RelI (α := Bool)) re1 h1).imp fun b H2 ⟨r2, F2, b2, m2, x2, R2, hb, h2⟩ => ?_
    obtain rfl : b2 = b := hb
    have re2 := re1.mono x2.pre x2.sub
    cases b2 with
    | true =>
      rw [if_pos rfl] at h2 ⊢
      refine ⟨fun σ' H' => ∃ r' F' η' m', RM X.K r' F' m' H' ∧ RE X.K r' F' η' σ' ∧ PostS G X.K r' F' H' W D (whGo (evC Γ (some t)) (evSs Γ as) k η' m'), fun σ' H' hN => ⟨k, Nat.lt_succ_self k, hN⟩, r2, F2, η1, m2, R2, re2, ?_⟩
      refine h2.turn.ends (fun σ H ⟨r, F, η, m, _, b, c, d⟩ => ⟨r, F, η, m, b, c, d⟩) (fun _ _ => id) (fun _ _ => id) (fun σ H ⟨r, F, η, m, _, b, c, d⟩ => ⟨r, F, η, m, b, c, d⟩)
    | false =>
      rw [if_neg Bool.false_ne_true] at h2 ⊢
      exact h2.nx R2 re2
theorem s_for {t : Tg} {it : It} {bs : List St} {tg iter : Expr} {p : List Stmt} (g : GoodS X c s n) (hf : noSet iter = true) (hi : L2.PI X tg iter (upI G X.K Γ W it)) (hg : L2.PG X tg (upG G X.K Γ W t)) (hb : L2.PSs X p (upS G X.K W (evSs Γ bs))) :
    L2.PS X (.For tg iter p [] pos) (upS G X.K W (evS Γ (.for_ t it bs))) := by
  refine PS_imp (L2.ps_for g.pass g.g.calm hi hg hb (fold_of hf)) fun D σ H ⟨r, F, η, m, R, re, h⟩ => ⟨r, F, η, m, R, re, ?_⟩
  simp only [evS] at h
  have h' := PostS.stI re h
  cases e : evI Γ it η m with
  | no => rw [e] at h'; exact h'
  | ex u m1 => rw [e] at h'; exact h'
  | ok sr m1 =>
  rw [e] at h h'
  intro r1 F1 H1 J x1 R1 wk
  obtain ⟨r0, F0, s0, m0, x0, R0, wk0, h0⟩ := h' r1 F1 H1 J x1 R1 wk
  have h1 : PostS G X.K r1 F1 H1 W D (frGo sr.2 (bnd Γ t) (evSs Γ bs) sr.1 η m1) := PostS.mono x1 h
  clear h h' h0 wk0 R0 x0 s0 m0 F0 r0
  have re1 := re.mono x1.pre x1.sub
  refine ⟨fun i k σ' H' => k = sr.1.length - i ∧ i ≤ sr.1.length ∧ ∃ r' F' η' m', Xt r1 F1 H1 r' F' H' ∧ RM X.K r' F' m' H' ∧ RE X.K r' F' η' σ' ∧ PostS G X.K r' F' H' W D (frGo sr.2 (bnd Γ t) (evSs Γ bs) (sr.1.drop i) η' m'),
    ⟨_, rfl, Nat.zero_le _, r1, F1, η, m1, Xt.refl _ _ _, R1, re1, h1⟩, ?_⟩
  rintro i k σ2 H2 ⟨rfl, hi', r2, F2, η2, m2, x2, R2, re2, h2⟩
  have w2 := wk.mono x2
  by_cases hlt : i < sr.1.length
  · have ed : sr.1.drop i = sr.1[i] :: sr.1.drop (i + 1) := List.drop_eq_getElem_cons hlt
    rw [ed] at h2
    simp only [frGo] at h2
    cases eg : guards sr.2 m2 with
    | false => rw [eg] at h2; exact h2.elim
    | true =>
      rw [eg, if_pos rfl] at h2
      refine .inr ⟨w2.go i r2 F2 m2 H2 (Ext.refl _ _) R2 eg hlt, fun σ' H' => ∃ r' F' η' m', Xt r1 F1 H1 r' F' H' ∧ RM X.K r' F' m' H' ∧ RE X.K r' F' η' σ' ∧ PostS G X.K r' F' H' W D (frGo sr.2 (bnd Γ t) (evSs Γ bs) (sr.1.drop (i + 1)) η' m'),
        fun σ' H' hN => ⟨sr.1.length - (i + 1), by omega, rfl, hlt, hN⟩, fun xv H3 hy => ?_⟩
      obtain ⟨F3, x3, R3, v, ev, hxv⟩ := w2.yl i r2 F2 m2 H2 xv H3 (Ext.refl _ _) R2 eg hlt hy
      have ev' : v = sr.1[i] := by rw [List.getElem?_eq_getElem hlt] at ev; exact (Option.some.inj ev).symm
      subst ev'
      have re3 := re2.mono x3.pre x3.sub
      refine ⟨r2, F3, η2, m2, sr.1[i], R3, re3, hxv, ?_⟩
      refine (PostS.st (rel := fun r F η' σ' => RE X.K r F η' σ' ∧ Chg t σ2 σ') re3 (PostS.mono x3 h2)).imp fun σ4 H4 ⟨r4, F4, η4, m4, x4, R4, ⟨re4, _⟩, h4⟩ => ?_
      refine ⟨r4, F4, η4, m4, R4, re4, ?_⟩
      refine h4.turn.ends (fun σ H ⟨r, F, η, m, y, b, c, d⟩ => ⟨r, F, η, m, ((x2.trans x3).trans x4).trans y, b, c, d⟩) (fun _ _ => id) (fun _ _ => id) (fun σ H ⟨r, F, η, m, y, b, c, d⟩ => ⟨r, F, η, m, ((x2.trans x3).trans x4).trans y, b, c, d⟩)
  · have e : i = sr.1.length := by omega
    subst e
    rw [List.drop_length] at h2
    simp only [frGo] at h2
    cases eg : guards sr.2 m2 with
    | false => rw [eg] at h2; exact h2.elim
    | true =>
      rw [eg, if_pos rfl] at h2
      exact .inl ⟨w2.st r2 F2 m2 H2 (Ext.refl _ _) R2 eg, h2.nx R2 re2⟩
end
end Px
set_option Elab.async false
set_option linter.all false
set_option maxRecDepth 100000
set_option maxHeartbeats 4000000
namespace Px
open PySem
section
variable {G : XG} {c : Chk} {Γ : Call} {n : Nat}
def SndS (G : XG) (c : Chk) (Γ : Call) (n : Nat) (s : Sc) (P : L2.Cx → L2.WX → Prop) : Prop := ∀ X W, GF G X c Γ n → GoodS X c s n → L2.Takes X W → P X W
theorem s_never {X : L2.Cx} {W : WX} {st : Stmt} {ev : Env → Mem → RS} (h : ∀ η m, ev η m = .no) : L2.PS X st (upS G X.K W ev) := PS_imp L2.ps_never fun D σ H ⟨r, F, η, m, R, re, q⟩ => by
  rw [h] at q; exact q
mutual
theorem sS : ∀ (a : St) (s : Sc) (st : Stmt), chkS c s a st = true → SndS G c Γ n s fun X W => L2.PS X st (upS G X.K W (evS Γ a))
  | .asg t e, s, st, h => fun X W gf g tk => by
    simp only [chkS] at h
    split at h
    · rename_i tg v pos
      simp only [Bool.or_eq_true] at h
      rcases h with h | h
      · simp only [Bool.and_eq_true, Bool.not_eq_true'] at h
        obtain ⟨⟨⟨h1, h2⟩, h3⟩, h4⟩ := h
        exact s_asg g h1 h2 (chkG_star h3).1 (chkG_star h3).2 (sG t s tg h3 X W gf g.g tk) (sE e s v h4 X W gf g.g tk)
      · unfold setlc at h
        split at h
        · rename_i i y py
          simp only [Bool.and_eq_true, decide_eq_true_eq] at h
          obtain ⟨⟨⟨⟨h1, h2⟩, h3⟩, h4⟩, h5⟩ := h
          split at h4
          · rename_i elt gens scope pc
            split at h5
            · rename_i own t it cd el
              have h5' := h5
              simp only [chkL] at h5'
              split at h5'
              · rename_i _ x tg iter ifs _ _ heq
                cases heq
                refine s_setlc g gf tk h2 h3 h1 h5 _ fun r F σ H D η m R re q => ?_
                exact PostL.pl (by simpa only [evE] using post_asgE re q)
              · cases h5'
            · rename_i own t it cd el
              have h5' := h5
              simp only [chkL] at h5'
              split at h5'
              · rename_i _ x tg iter ifs _ _ heq
                cases heq
                refine s_setlc g gf tk h2 h3 h1 h5 _ fun r F σ H D η m R re q => ?_
                exact PostL.ml (by simpa only [evE] using post_asgE re q)
              · cases h5'
            · rename_i own own1 t it cd t1 it1 cd1 el
              have h5' := h5
              simp only [chkL] at h5'
              split at h5'
              · rename_i _ x tg iter ifs tg1 iter1 ifs1 _ _ heq
                cases heq
                refine s_setlc2 g gf tk h2 h3 h1 h5 _ fun r F σ H D η m R re q => ?_
                exact PostL.pl (by simpa only [evE] using post_asgE re q)
              · cases h5'
            · cases h5
          · cases h4
        · cases h
    · cases h
  | .par is es, s, st, h => fun X W gf g tk => by
    simp only [chkS] at h
    split at h
    · simp only [Bool.and_eq_true, decide_eq_true_eq, beq_iff_eq] at h
      obtain ⟨⟨⟨⟨h1, h2⟩, h3⟩, h4⟩, h5⟩ := h
      exact s_par2 g h1 h2 h3 h4 (sEs es s _ h5 X W gf g.g tk)
    · simp only [Bool.and_eq_true, decide_eq_true_eq, beq_iff_eq] at h
      obtain ⟨⟨⟨⟨⟨⟨⟨h1, h2⟩, h3⟩, h4⟩, h5⟩, h6⟩, h7⟩, h8⟩ := h
      exact s_par3 g h1 h2 h3 h4 h5 h6 h7 (sEs es s _ h8 X W gf g.g tk)
    · cases h
  | .aug i o e, s, st, h => fun X W gf g tk => by
    simp only [chkS] at h
    split at h
    · simp only [Bool.and_eq_true, decide_eq_true_eq] at h
      obtain ⟨⟨⟨h1, h2⟩, rfl⟩, h4⟩ := h
      exact s_aug g h1 h2 (sE e s _ h4 X W gf g.g tk)
    · cases h
  | .augx o i p e, s, st, h => by simp [chkS] at h
  | .ex e, s, st, h => fun X W gf g tk => by
    simp only [chkS] at h
    split at h
    · simp only [Bool.and_eq_true] at h
      exact s_ex g h.1 (sE e s _ h.2 X W gf g.g tk)
    · cases h
  | .ret none, s, st, h => fun X W gf g tk => by
    cases st with
    | Return v p => cases v with
      | none => exact s_retN
      | some _ => simp [chkS] at h
    | _ => simp [chkS] at h
  | .ret (some e), s, st, h => fun X W gf g tk => by
    cases st with
    | Return v p => cases v with
      | none => simp [chkS] at h
      | some v => exact s_ret (sE e s _ (by simpa only [chkS] using h) X W gf g.g tk)
    | _ => simp [chkS] at h
  | .iff t a b, s, st, h => fun X W gf g tk => by
    simp only [chkS] at h
    split at h
    · simp only [Bool.and_eq_true] at h
      exact s_if (sT t s _ h.1.1 X W gf g.g tk).1 (sSs a s _ h.1.2 X W gf g tk) (sSs b s _ h.2 X W gf g tk)
    · cases h
  | .whl t a, s, st, h => fun X W gf g tk => by
    simp only [chkS] at h
    split at h
    · simp only [Bool.and_eq_true] at h
      exact s_while g (sT t s _ h.1 X W gf g.g tk).1 (sSs a s _ h.2 X W gf g tk)
    · cases h
  | .for_ t it b, s, st, h => fun X W gf g tk => by
    simp only [chkS] at h
    split at h
    · simp only [Bool.and_eq_true] at h
      obtain ⟨⟨⟨h1, h2⟩, h3⟩, h4⟩ := h
      exact s_for g h1 (sI it s _ _ h3 X W gf g.g tk) (sG t s _ h2 X W gf g.g tk) (sSs b s _ h4 X W gf g tk)
    · cases h
  | .rai _ _, s, st, h => fun X W gf g tk => s_never fun η m => by simp only [evS]
  | .brk, s, st, h => fun X W gf g tk => by
    simp only [chkS] at h
    split at h
    · exact PS_imp L2.ps_break fun D σ H ⟨r, F, η, m, R, re, q⟩ => by
        simp only [evS] at q
        exact q r F H σ (Xt.refl _ _ _) R re
    · cases h
  | .cnt, s, st, h => fun X W gf g tk => by
    simp only [chkS] at h
    split at h
    · exact PS_imp L2.ps_continue fun D σ H ⟨r, F, η, m, R, re, q⟩ => by
        simp only [evS] at q
        exact q r F H σ (Xt.refl _ _ _) R re
    · cases h
  | .pas, s, st, h => fun X W gf g tk => by
    simp only [chkS] at h
    split at h
    · exact PS_imp L2.ps_pass fun D σ H ⟨r, F, η, m, R, re, q⟩ => by
        simp only [evS] at q
        exact q.nx R re
    · exact PS_imp L2.ps_doc fun D σ H ⟨r, F, η, m, R, re, q⟩ => by
        simp only [evS] at q
        exact q.nx R re
    · cases h
theorem sSs : ∀ (a : List St) (s : Sc) (st : List Stmt), chkSs c s a st = true → SndS G c Γ n s fun X W => L2.PSs X st (upS G X.K W (evSs Γ a))
  | [], s, st, h => fun X W gf g tk => by
    cases st with
    | nil =>
      exact PSs_imp L2.pss_nil fun D σ H ⟨r, F, η, m, R, re, q⟩ => by
        simp only [evSs] at q
        exact q.nx R re
    | cons _ _ => simp [chkSs] at h
  | a :: as, s, st, h => fun X W gf g tk => by
    cases st with
    | nil => simp [chkSs] at h
    | cons y ys =>
      simp only [chkSs, Bool.and_eq_true] at h
      exact PSs_imp (L2.pss_cons (sS a s y h.1 X W gf g tk) (sSs as s ys h.2 X W gf g tk)) fun D σ H ⟨r, F, η, m, R, re, q⟩ => by
        simp only [evSs] at q
        exact ⟨r, F, η, m, R, re, q.seq⟩
end
end
end Px
set_option Elab.async false
set_option linter.all false
set_option maxRecDepth 100000
set_option maxHeartbeats 4000000
namespace Px
open PySem L2 in
abbrev dArgs (s : Stmt) := defArgs s
open PySem L2 in
abbrev dBody (s : Stmt) := defBody s
open PySem L2 in
abbrev dScope (s : Stmt) := defScope s
open PySem
structure Def where
  N : List Str
  np : Nat
  body : List St
def obEq : List Ob → List Ob → Bool
  | [], [] => true
  | .lst xs :: r, .lst ys :: s => PV.beqA xs ys && obEq r s
  | .dic ks xs :: r, .dic ls ys :: s => decide (ks = ls) && PV.beqA xs ys && obEq r s
  | .gone :: r, .gone :: s => obEq r s
  | .ins c fs :: r, .ins d gs :: s => decide (c = d) && decide (fs.map Prod.fst = gs.map Prod.fst) && PV.beqA (fs.map Prod.snd) (gs.map Prod.snd) && obEq r s
  | _, _ => false
def gcP (m : Mem) (r : Res PV) : Res PV := match r with
  | .ok v m' => if v.bel m.length && (obEq (m'.take m.length) m || (m'.take m.length).all (Ob.bel m.length)) then .ok v (m'.take m.length) else .ok v m'
  | r => r
def retP (r : RS) : Res PV := match r with
  | .nx _ m => .ok .non m
  | .rt v m => .ok v m
  | .ex x _ m => .ex x m
  | _ => .no
def evDef (Γ : Call) (d : Def) (xs : List PV) (m : Mem) : Res PV := if xs.length = d.np then gcP m (retP (evSs Γ d.body (xs.map some ++ List.replicate (d.N.length - xs.length) none) m)) else .no
def callF (ds : List Def) : Nat → Call
  | 0, _, _, _ => .no
  | k + 1, i, xs, m => match ds[i]? with
    | some d => evDef (callF ds k) d xs m
    | none => .no
theorem obEq_eq : ∀ {a b : List Ob}, obEq a b = true → a = b
  | [], [], _ => rfl
  | [], _ :: _, h => by simp [obEq] at h
  | _ :: _, [], h => by simp [obEq] at h
  | .lst xs :: r, .lst ys :: s, h => by
    simp only [obEq, Bool.and_eq_true] at h
    rw [PV.beqA_eq _ _ h.1, obEq_eq h.2]
  | .dic ks xs :: r, .dic ls ys :: s, h => by
    simp only [obEq, Bool.and_eq_true, decide_eq_true_eq] at h
    rw [PV.beqA_eq _ _ h.1.2, h.1.1, obEq_eq h.2]
  | .gone :: r, .gone :: s, h => by
    simp only [obEq] at h
    rw [obEq_eq h]
  | .lst _ :: _, .dic _ _ :: _, h => by simp [obEq] at h
  | .lst _ :: _, .gone :: _, h => by simp [obEq] at h
  | .lst _ :: _, .ins _ _ :: _, h => by simp [obEq] at h
  | .dic _ _ :: _, .lst _ :: _, h => by simp [obEq] at h
  | .dic _ _ :: _, .gone :: _, h => by simp [obEq] at h
  | .dic _ _ :: _, .ins _ _ :: _, h => by simp [obEq] at h
  | .gone :: _, .lst _ :: _, h => by simp [obEq] at h
  | .gone :: _, .dic _ _ :: _, h => by simp [obEq] at h
  | .gone :: _, .ins _ _ :: _, h => by simp [obEq] at h
  | .ins c fs :: r, .ins d gs :: s, h => by
    simp only [obEq, Bool.and_eq_true, decide_eq_true_eq] at h
    have e : fs = gs := by
      have h1 := h.1.1.2
      have h2 := PV.beqA_eq _ _ h.1.2
      have z : ∀ l : List (Str × PV), l = (l.map Prod.fst).zip (l.map Prod.snd) := fun l => by
        induction l with
        | nil => rfl
        | cons a l ih => rw [List.map_cons, List.map_cons, List.zip_cons_cons, ← ih]
      rw [z fs, z gs, h1, h2]
    rw [h.1.1.1, e, obEq_eq h.2]
  | .ins _ _ :: _, .lst _ :: _, h => by simp [obEq] at h
  | .ins _ _ :: _, .dic _ _ :: _, h => by simp [obEq] at h
  | .ins _ _ :: _, .gone :: _, h => by simp [obEq] at h
theorem obEq_refl : ∀ (a : List Ob), obEq a a = true
  | [] => rfl
  | .lst xs :: r => by simp only [obEq, PV.beqA_refl, obEq_refl r, Bool.and_self]
  | .dic ks xs :: r => by simp only [obEq, PV.beqA_refl, obEq_refl r, decide_true, Bool.and_self]
  | .gone :: r => by simp only [obEq, obEq_refl r]
  | .ins c fs :: r => by simp only [obEq, PV.beqA_refl, obEq_refl r, decide_true, Bool.and_self]
theorem gcP_app {m t : Mem} {v : PV} (h : v.bel m.length = true) : gcP m (.ok v (m ++ t)) = .ok v m := by
  have e : (m ++ t).take m.length = m := List.take_left
  simp only [gcP, e, h, obEq_refl, Bool.true_or, Bool.and_self, if_true]
section
variable {G : XG} {K : PySem.W.Frag} {r r' : List Addr} {F F' H H' : L2.Hp} {W : WX} {D : L2.Ends}
mutual
theorem RV.isbel : ∀ {x : PV} {v : L2.V}, RV K r F x v → x.bel r.length = true
  | _, _, .non => rfl
  | _, _, .bl b => rfl
  | _, _, .int i => rfl
  | _, _, .str s => rfl
  | _, _, .ty m => rfl
  | _, _, .loc h => by simp only [PV.bel, decide_eq_true_eq]; exact (List.getElem?_eq_some_iff.mp h).1
  | _, _, .tup h t => by simp only [PV.bel]; exact RVs.isbel t
  | _, _, .lst h t => by simp only [PV.bel]; exact RVs.isbel t
  | _, _, .scr _ => rfl
  | _, _, .dic h l t => by simp only [PV.bel]; exact RVs.isbel t
theorem RVs.isbel : ∀ {xs : List PV} {vs : List L2.V}, RVs K r F xs vs → PV.belA r.length xs = true
  | _, _, .nil => rfl
  | _, _, .cons h t => by simp only [PV.belA, RV.isbel h, RVs.isbel t, Bool.and_self]
end
theorem RM.closed {m : Mem} (R : RM K r F m H) : m.all (Ob.bel m.length) = true := by
  rw [List.all_eq_true]
  intro o ho
  obtain ⟨l, hl, rfl⟩ := List.getElem_of_mem ho
  obtain ⟨a, h1, h2⟩ := R.at (List.getElem?_eq_getElem hl)
  revert h2
  cases m[l] with
  | lst xs => rintro ⟨vs, h3, _⟩; rw [← R.len]; exact h3.isbel
  | dic ks xs => rintro ⟨vs, h3, _⟩; rw [← R.len]; exact h3.isbel
  | ins _ _ => exact fun h => h.elim
  | gone => exact fun _ => rfl
theorem RM.cut {m m' : Mem} (R : RM K r F m H) (x : Xt r F H r' F' H') (R' : RM K r' F' m' H') (hc : (m'.take m.length).all (Ob.bel m.length) = true) : RM K r F' (m'.take m.length) H' ∧ r'.take m.length = r := by
  obtain ⟨t, rfl⟩ := x.pre
  have er : (r ++ t).take m.length = r := by rw [← R.len, List.take_left']; rfl
  have le : m.length ≤ m'.length := by rw [← R.len, ← R'.len, List.length_append]; omega
  refine ⟨⟨R'.sub, by rw [List.length_take, R.len]; omega, R.nd, fun l a h => R'.fr l a (pre_get (List.prefix_append _ _) h), fun l a o h h2 => ?_, fun a ha => R'.liv a (List.mem_append_left _ ha), R'.nf⟩, er⟩
  have hl : l < m.length := by rw [← R.len]; exact (List.getElem?_eq_some_iff.mp h).1
  have h2' : m'[l]? = some o := by rw [List.getElem?_take_of_lt hl] at h2; exact h2
  have q := R'.obs l a o (pre_get (List.prefix_append _ _) h) h2'
  have cb := List.all_eq_true.mp hc o (List.mem_of_getElem? h2)
  revert q cb
  cases o with
  | lst xs => rintro ⟨vs, h3, h4⟩ cb; exact ⟨vs, by have := RVs.low h3 cb; rw [er] at this; exact this, h4⟩
  | dic ks xs => rintro ⟨vs, h3, h4, h5⟩ cb; exact ⟨vs, by have := RVs.low h3 cb; rw [er] at this; exact this, h4, h5⟩
  | ins _ _ => exact fun h _ => h.elim
  | gone => exact fun _ _ => trivial
theorem Post.gc {m : Mem} {res : Res PV} {Q : L2.VK} {E : Value → Option Addr → L2.Hp → Prop} (R : RM K r F m H) (h : Post G K r F H (gcP m res) (RV K) Q E) : Post G K r F H res (RV K) Q E := by
  cases res with
  | no => exact h
  | ex x m1 => exact h
  | ok v m1 =>
    simp only [gcP] at h
    split at h
    · rename_i c
      simp only [Bool.and_eq_true, Bool.or_eq_true] at c
      intro r' F' H' V x R' hv
      have cl : (m1.take m.length).all (Ob.bel m.length) = true := by
        rcases c.2 with c | c
        · rw [obEq_eq c]; exact R.closed
        · exact c
      obtain ⟨R2, er⟩ := R.cut x R' cl
      refine h r F' H' V ⟨List.prefix_refl _, x.sub, fun a o h1 h2 h3 => ?_⟩ R2 ?_
      · obtain ⟨g1, g2, _⟩ := x.unt a o h1 h2 h3
        exact ⟨g1, g2, h3⟩
      · have := RV.low hv c.1
        rw [er] at this; exact this
    · exact h
theorem PostS.of_ret {res : RS} {Q : L2.VK} {E : Value → Option Addr → L2.Hp → Prop} (h : Post G K r F H (retP res) (RV K) Q E) : PostS G K r F H (fun cls d _ H => E cls d H) { nx := fun _ H' => Q .non H', rt := Q } res := by
  cases res with
  | no => exact h
  | nx η m => exact fun r' F' H' σ x R re => h r' F' H' _ x R RV.non
  | rt v m => exact h
  | bk _ _ => exact h.elim
  | ct _ _ => exact h.elim
  | ex x η m => exact fun r' F' H' σ C d x R re => h r' F' H' C d x R
theorem RE.start {N : List Str} {xs : List PV} {vs : List L2.V} (h : RVs K r F xs vs) : RE K r F (xs.map some ++ List.replicate (N.length - xs.length) none) (L2.start N vs) := by
  have hl := h.len
  refine ⟨by simp [L2.start, hl], fun i v e => ?_⟩
  by_cases hi : i < xs.length
  · rw [List.getElem?_append_left (by simpa using hi), List.getElem?_map] at e
    cases q : xs[i]? with
    | none => rw [q] at e; cases e
    | some u =>
      rw [q] at e
      simp only [Option.map_some, Option.some.injEq] at e
      subst e
      obtain ⟨w, h1, h2⟩ := h.get q
      refine ⟨w, ?_, h2⟩
      unfold L2.start
      rw [List.getElem?_append_left (by rw [List.length_map, ← hl]; exact hi), List.getElem?_map, h1]; rfl
  · rw [List.getElem?_append_right (by simpa using hi), List.getElem?_replicate] at e
    split at e <;> simp at e
end
structure DefAt (P : Program) (w : World) (K : PySem.W.Frag) (mg : Str → Option Value) (c : Chk) (ds : List Def) (i : Nat) (x : Str) (f : Addr) (fd : FuncData) (ps : List Str) : Prop where
  mg : mg x = some (.ref f)
  kp : PySem.W.keepIn K (.ref f) = true
  ok : ∃ (d : Def) (st : Stmt), ds[i]? = some d ∧ L2.FunD K x x (dArgs st) (dBody st) (dScope st) ((c.dfl.getD i []).map cV) [] f fd ∧ L2.FnScope d.N ps (dScope st) ∧ ps.length = d.np ∧
    chkSs { c with N := d.N } ⟨dScope st, none⟩ d.body (dBody st) = true
  bi : ∀ j ≤ (c.dfl.getD i []).length, ∃ vs, L2.Binds K fd ps vs ∧ L2.Vals (((c.dfl.getD i []).drop j).map cV) vs
section
variable {G : XG} {P : Program} {w : World} {K : PySem.W.Frag} {mg : Str → Option Value} {c : Chk} {ds : List Def} {base : Heap}
theorem all_ok (hd : ∀ i x, c.fns[i]? = some x → ∃ f fd ps, DefAt P w K mg c ds i x f fd ps) (hc : ∀ x v, c.cst.lookup x = some v → ∃ u V, mg x = some u ∧ L2.RelV V u ∧ ∀ r F, RV K r F v V) (hb : ∀ x ∈ bltNames, mg x = none) :
    ∀ k i x f fd ps, DefAt P w K mg c ds i x f fd ps → L2.FnOk P w K mg base (L2.CX P w) k f fd ps (spF G K (callF ds k) i ps.length)
  | 0, i, x, f, fd, ps, D => by
    have no : ∀ vs H Q E, ¬ spF G K (callF ds 0) i ps.length vs H Q E := fun vs H Q E ⟨_, r, F, m, xs, _, _, h⟩ => h
    exact ⟨fun vs H Q E h => absurd h (no vs H Q E), fun A outer s H args us vs Q E _ _ _ _ h => absurd h (no vs H Q E)⟩
  | k + 1, i, x, f, fd, ps, D => by
    obtain ⟨d, st, e1, FD, S, hl, ck⟩ := D.ok
    refine FD.ok S (fun vs H Q E h => h.1) fun cdv A outer s H vs Q E hr h => ?_
    obtain ⟨hv, r, F, m, xs, R, hx, h⟩ := h
    have GFk : GF G (L2.cxOf (L2.CX P w) P w K mg base d.N x (dScope st) f cdv A outer s H E) { c with N := d.N } (callF ds k) k := by
      refine ⟨fun j y hy => ?_, hc, hb⟩
      obtain ⟨f', fd', ps', D'⟩ := hd j y hy
      refine ⟨f', fd', ps', D'.mg, D'.kp, all_ok hd hc hb k j y f' fd' ps' D', fun xs' m' hne => ?_, D'.bi⟩
      cases k with
      | zero => rfl
      | succ k =>
        obtain ⟨d', st', e1', _, _, hl', _⟩ := D'.ok
        simp only [callF, e1', evDef]
        rw [if_neg (by rw [← hl']; exact hne)]
    have GSk : GoodS (L2.cxOf (L2.CX P w) P w K mg base d.N x (dScope st) f cdv A outer s H E) { c with N := d.N } ⟨dScope st, none⟩ k :=
      ⟨⟨rfl, S.nd, rfl, rfl, fun _ _ => .inl rfl, hr⟩, (by
        have q := S.kind
        show (if (dScope st).kind.isAnnotationScope then ScopeKind.function else (dScope st).kind) = .function
        rw [q]; rfl), rfl, fun _ => rfl, L2.passes_of rfl⟩
    refine ⟨_, sSs d.body _ _ ck _ (fun cls d _ H => E cls d H) GFk GSk (L2.takes_of rfl rfl rfl rfl), r, F, xs.map some ++ List.replicate (d.N.length - xs.length) none, m, R, RE.start hx, PostS.of_ret (Post.gc R ?_)⟩
    simp only [callF, e1, evDef] at h
    split at h
    · exact h
    · exact h.elim
end
end Px
set_option Elab.async false
set_option linter.all false
set_option maxRecDepth 100000
set_option maxHeartbeats 1000000
namespace Px
open PySem
section
variable {Γ : Call} {η : Env} {m : Mem} {i f : Nat} {x : Str} {v : PV} {j : Int} {s : Str} {n : String} {o o2 : Op2} {a b c e : Ex} {es : List Ex} {l : LEx} {lo hi : Option Ex} {k : Bf}
@[simp] theorem aB  : evE Γ (.var i) η m = getV η m i := by simp only [evE]
@[simp] theorem aC  : evE Γ (.gl x v) η m = .ok v m := by simp only [evE]
@[simp] theorem aD  : evE Γ (.non) η m = .ok .non m := by simp only [evE]
@[simp] theorem aE {b : Bool} : evE Γ (.bl b) η m = .ok (.bl b) m := by simp only [evE]
@[simp] theorem aF  : evE Γ (.int j) η m = .ok (.int j) m := by simp only [evE]
@[simp] theorem aG  : evE Γ (.str s) η m = .ok (.str s) m := by simp only [evE]
@[simp] theorem aH  : evE Γ (.ty n) η m = .ok (.ty n) m := by simp only [evE]
@[simp] theorem aI  : evE Γ (.bin o a b) η m = (evE Γ a η m).bind fun x m1 => (evE Γ b η m1).bind fun y m2 => opBin m2 o x y := by simp only [evE]
@[simp] theorem aJ  : evE Γ (.neg a) η m = (evE Γ a η m).bind fun x m1 => negP m1 x := by simp only [evE]
@[simp] theorem aK {o : Cm} : evE Γ (.cmp o a b) η m = (evE Γ a η m).bind fun x m1 => (evE Γ b η m1).bind fun y m2 => opCmp m2 o x y := by simp only [evE]
@[simp] theorem aL {o o2 : Cm} : evE Γ (.chn o o2 a b e) η m = (evE Γ a η m).bind fun x m1 => (evE Γ b η m1).bind fun y m2 => (opCmp m2 o x y).bind fun r m3 => brB r ((evE Γ e η m3).bind fun z m4 => opCmp m4 o2 y z) (.ok (.bl false) m3) := by simp only [evE]
@[simp] theorem aM  : evE Γ (.and_ a b) η m = (evE Γ a η m).bind fun x m1 => brB x (evE Γ b η m1) (.ok (.bl false) m1) := by simp only [evE]
@[simp] theorem aN  : evE Γ (.or_ a b) η m = (evE Γ a η m).bind fun x m1 => brB x (.ok (.bl true) m1) (evE Γ b η m1) := by simp only [evE]
@[simp] theorem aO  : evE Γ (.not_ a) η m = (evE Γ a η m).bind fun x m1 => notP m1 x := by simp only [evE]
@[simp] theorem aP  : evE Γ (.ite c a b) η m = (evE Γ c η m).bind fun x m1 => brB x (evE Γ a η m1) (evE Γ b η m1) := by simp only [evE]
@[simp] theorem aQ  : evE Γ (.tup es) η m = (evEs Γ es η m).bind fun xs m1 => tupP m1 xs := by simp only [evE]
@[simp] theorem aR  : evE Γ (.pl l) η m = (evL Γ l η m).bind fun xs m1 => .ok (.lst xs) m1 := by simp only [evE]
@[simp] theorem aS  : evE Γ (.ml l) η m = (evL Γ l η m).bind fun xs m1 => .ok (.loc m1.length) (m1 ++ [.lst xs]) := by simp only [evE]
@[simp] theorem aT  : evE Γ (.emd) η m = .ok (.dic [] []) m := by simp only [evE]
@[simp] theorem aU : evE Γ .mdc η m = .ok (.loc m.length) (m ++ [.dic [] []]) := by simp only [evE]
@[simp] theorem aV  : evE Γ (.idx a b) η m = (evE Γ a η m).bind fun x m1 => (evE Γ b η m1).bind fun y m2 => opIdx m2 x y := by simp only [evE]
@[simp] theorem aW  : evE Γ (.slc a lo hi) η m = (evE Γ a η m).bind fun x m1 => (evO Γ lo η m1).bind fun l m2 => (evO Γ hi η m2).bind fun h m3 => opSlc m3 x l h := by simp only [evE]
@[simp] theorem aX  : evE Γ (.call f es) η m = (evEs Γ es η m).bind fun xs m1 => Γ f xs m1 := by simp only [evE]
@[simp] theorem aY  : evE Γ (.bf k es) η m = (evEs Γ es η m).bind fun xs m1 => opBf m1 k xs := by simp only [evE]
@[simp] theorem aZ {ps : List Pt} : evE Γ (.tups ps) η m = (evPs Γ ps η m).bind fun xs m1 => tupP m1 xs := by simp only [evE]
@[simp] theorem bA  : evE Γ (.rv a) η m = (evE Γ a η m).bind fun x m1 => rvE m1 x := by simp only [evE]
@[simp] theorem bB  : evE Γ (.ten a) η m = (evE Γ a η m).bind fun x m1 => tenQ m1 x := by simp only [evE]
@[simp] theorem bC  : evE Γ (.bln a) η m = (evE Γ a η m).bind fun x m1 => blnP m1 x := by simp only [evE]
@[simp] theorem bD {k : Mt} {o : Ex} : evE Γ (.mt k o es) η m = (evE Γ o η m).bind fun x m1 => mtG k m1 x ((evEs Γ es η m1).bind fun xs m2 => opMt m2 k x xs) := by simp only [evE]
@[simp] theorem bE : evEs Γ [] η m = .ok [] m := by simp only [evEs]
@[simp] theorem bF : evEs Γ (e :: es) η m = (evE Γ e η m).bind fun x m1 => (evEs Γ es η m1).bind fun xs m2 => .ok (x :: xs) m2 := by simp only [evEs]
@[simp] theorem bG : evPt Γ (.one e) η m = (evE Γ e η m).bind fun x m1 => .ok [x] m1 := by simp only [evPt]
@[simp] theorem bH : evPt Γ (.all e) η m = (evE Γ e η m).bind fun x m1 => allP m1 x := by simp only [evPt]
@[simp] theorem bI {b : Ex} : evPt Γ (.rng a b) η m = (evE Γ a η m).bind fun x m1 => (evE Γ b η m1).bind fun y m2 => lrgP m2 x y := by simp only [evPt]
@[simp] theorem bJ : evPs Γ [] η m = .ok [] m := by simp only [evPs]
@[simp] theorem bK {p : Pt} {ps : List Pt} : evPs Γ (p :: ps) η m = (evPt Γ p η m).bind fun x m1 => (evPs Γ ps η m1).bind fun xs m2 => .ok (x ++ xs) m2 := by simp only [evPs]
@[simp] theorem bL : evO Γ none η m = .ok none m := by simp only [evO]
@[simp] theorem bM : evO Γ (some e) η m = (evE Γ e η m).bind fun x m1 => toI m1 x := by simp only [evO]
@[simp] theorem bN : evC Γ none η m = .ok true m := by simp only [evC]
@[simp] theorem bO : evC Γ (some e) η m = (evE Γ e η m).bind fun x m1 => toB m1 x := by simp only [evC]
@[simp] theorem bP  : evL Γ (.dsp es) η m = (evEs Γ es η m).bind fun xs m1 => okLen xs m1 := by simp only [evL]
@[simp] theorem bQ {own : List Nat} {t : Tg} {it : It} {c : Option Ex} : evL Γ (.cp own t it c e) η m = (evI Γ it η m).bind fun s m1 => if s.1.length ≤ LINE then (lcGo s.2 (bnd Γ t) (evC Γ c) (evE Γ e) (wipeP η own) s.1 m1).nox else .no := by simp only [evL]
@[simp] theorem bR {ps : List Pt} : evL Γ (.dsps ps) η m = (evPs Γ ps η m).bind fun xs m1 => okLen xs m1 := by simp only [evL]
@[simp] theorem bS  : evL Γ (.lof e) η m = (evE Γ e η m).bind fun x m1 => lofP m1 x := by simp only [evL]
@[simp] theorem bT  : evL Γ (.cat a b) η m = (evE Γ a η m).bind fun x m1 => (evE Γ b η m1).bind fun y m2 => catP m2 x y := by simp only [evL]
@[simp] theorem bU  : evL Γ (.rep a b) η m = (evE Γ a η m).bind fun x m1 => (evE Γ b η m1).bind fun y m2 => repP m2 x y := by simp only [evL]
@[simp] theorem bV  : evL Γ (.rvs a) η m = (evE Γ a η m).bind fun x m1 => rvsP m1 x := by simp only [evL]
@[simp] theorem bW  : evL Γ (.slc a lo hi) η m = (evE Γ a η m).bind fun x m1 => (evO Γ lo η m1).bind fun l m2 => (evO Γ hi η m2).bind fun h m3 => cutL m3 x l h := by simp only [evL]
@[simp] theorem bX  : evL Γ (.srt e) η m = (evE Γ e η m).bind fun x m1 => srtP m1 x := by simp only [evL]
@[simp] theorem bY  : evL Γ (.sst e) η m = (evE Γ e η m).bind fun x m1 => sstP m1 x := by simp only [evL]
@[simp] theorem bZ  : evL Γ (.lrg1 a) η m = (evE Γ a η m).bind fun x m1 => lrgP m1 (.int 0) x := by simp only [evL]
@[simp] theorem cA  : evL Γ (.lrg2 a b) η m = (evE Γ a η m).bind fun x m1 => (evE Γ b η m1).bind fun y m2 => lrgP m2 x y := by simp only [evL]
@[simp] theorem cB : evI Γ (.sq e) η m = (evE Γ e η m).bind fun x m1 => srcSq m1 x := by simp only [evI]
@[simp] theorem cC : evI Γ (.rg1 a) η m = (evE Γ a η m).bind fun x m1 => srcRg m1 (.int 0) x := by simp only [evI]
@[simp] theorem cD : evI Γ (.rg2 a b) η m = (evE Γ a η m).bind fun x m1 => (evE Γ b η m1).bind fun y m2 => srcRg m2 x y := by simp only [evI]
@[simp] theorem cE : evI Γ (.rg3 a b c) η m = (evE Γ a η m).bind fun x m1 => (evE Γ b η m1).bind fun y m2 => (evE Γ c η m2).bind fun z m3 => srcRg3 m3 x y z := by simp only [evI]
@[simp] theorem cF : evI Γ (.enm e) η m = (evE Γ e η m).bind fun x m1 => srcEn m1 x := by simp only [evI]
@[simp] theorem cG : evI Γ (.zip a b) η m = (evE Γ a η m).bind fun x m1 => (evE Γ b η m1).bind fun y m2 => srcZp m2 x y := by simp only [evI]
@[simp] theorem cH : evI Γ (.rev e) η m = (evE Γ e η m).bind fun x m1 => srcRv m1 x := by simp only [evI]
@[simp] theorem cI : evI Γ (.rr1 a) η m = (evE Γ a η m).bind fun x m1 => srcRr m1 (.int 0) x := by simp only [evI]
@[simp] theorem cJ : evI Γ (.rr2 a b) η m = (evE Γ a η m).bind fun x m1 => (evE Γ b η m1).bind fun y m2 => srcRr m2 x y := by simp only [evI]
@[simp] theorem cK  : bnd Γ (.nm i) v η m = .ok (η.set i (some v)) m := by simp only [bnd]
@[simp] theorem cL {ts : List Tg} : bnd Γ (.tp ts) v η m = tupN m ts.length v fun xs => bnds Γ ts xs η m := by simp only [bnd]
@[simp] theorem cM {o i : Ex} : bnd Γ (.ix o i) v η m = (evE Γ o η m).bind fun x m1 => (evE Γ i η m1).bind fun y m2 => putP η m2 x y v := by simp only [bnd]
@[simp] theorem cN : bnds Γ [] [] η m = .ok η m := by simp only [bnds]
@[simp] theorem cO {t : Tg} {ts : List Tg} {vs : List PV} : bnds Γ (t :: ts) (v :: vs) η m = (bnd Γ t v η m).bind fun η1 m1 => (bnds Γ ts vs η1 m1).nox := by simp only [bnds]
@[simp] theorem cP {t : Tg} : evS Γ (.asg t e) η m = (evE Γ e η m).st η fun v m1 => (bnd Γ t v η m1).st η fun η1 m2 => .nx η1 m2 := by simp only [evS]
@[simp] theorem cQ {is : List Nat} : evS Γ (.par is es) η m = (evEs Γ es η m).st η fun vs m1 => parK is vs η m1 := by simp only [evS]
@[simp] theorem cR  : evS Γ (.aug i o e) η m = (getV η m i).st η fun v m => (evE Γ e η m).st η fun w m1 => (opAug m1 o v w).st η fun z m2 => .nx (η.set i (some z)) m2 := by simp only [evS]
@[simp] theorem cS  : evS Γ (.ex e) η m = (evE Γ e η m).st η fun _ m1 => .nx η m1 := by simp only [evS]
@[simp] theorem cT  : evS Γ (.ret none) η m = .rt .non m := by simp only [evS]
@[simp] theorem cU  : evS Γ (.ret (some e)) η m = (evE Γ e η m).st η fun v m1 => .rt v m1 := by simp only [evS]
@[simp] theorem cW {a b : List St} : evS Γ (.iff c a b) η m = (evC Γ (some c) η m).st η fun x m1 => if x then evSs Γ a η m1 else evSs Γ b η m1 := by simp only [evS]
@[simp] theorem cX {b : List St} : evS Γ (.whl c b) η m = whGo (evC Γ (some c)) (evSs Γ b) WF η m := by simp only [evS]
@[simp] theorem cY {t : Tg} {it : It} {b : List St} : evS Γ (.for_ t it b) η m = (evI Γ it η m).st η fun s m1 => frGo s.2 (bnd Γ t) (evSs Γ b) s.1 η m1 := by simp only [evS]
@[simp] theorem cZ {c : Str} : evS Γ (.rai c es) η m = .no := by simp only [evS]
@[simp] theorem dA  : evS Γ (.brk) η m = .bk η m := by simp only [evS]
@[simp] theorem dB  : evS Γ (.cnt) η m = .ct η m := by simp only [evS]
@[simp] theorem dC  : evS Γ (.pas) η m = .nx η m := by simp only [evS]
@[simp] theorem dD : evSs Γ [] η m = .nx η m := by simp only [evSs]
@[simp] theorem dE {s : St} {r : List St} : evSs Γ (s :: r) η m = seqK (evS Γ s η m) (evSs Γ r) := by simp only [evSs]
end
theorem fY {α β : Type} (a : α) (m : Mem) (f : α → Mem → Res β) : (Res.ok a m).bind f = f a m := by cases h : f a m <;> exact h
theorem fZ {α : Type} (a : α) (m : Mem) : (Res.ok a m).nox = .ok a m := by rw [Res.nox_ok]
theorem gA {α : Type} (a : α) (m : Mem) (η : Env) (f : α → Mem → RS) : (Res.ok a m).st η f = f a m := by cases h : f a m <;> exact h
theorem gB (η : Env) (m : Mem) (k : Env → Mem → RS) : loopK (.nx η m) k = k η m := by cases h : k η m <;> exact h
theorem gG (η : Env) (m : Mem) (k : Env → Mem → RS) : seqK (.nx η m) k = k η m := by cases h : k η m <;> exact h
@[simp] theorem dF {η : Env} {m : Mem} {v : PV} : getV (some v :: η) m 0 = .ok v m := rfl
@[simp] theorem dG {a : Option PV} {η : Env} {m : Mem} {i : Nat} : getV (a :: η) m (i + 1) = getV η m i := by simp [getV]
@[simp] theorem dH {α : Type} (t f : Res α) : brB (.bl true) t f = t := rfl
@[simp] theorem dI {α : Type} (t f : Res α) : brB (.bl false) t f = f := rfl
theorem brB_if {α : Type} (b : Bool) (t f : Res α) : brB (.bl b) t f = if b then t else f := by cases b <;> rfl
@[simp] theorem dJ (m : Mem) (b : Bool) : toB m (.bl b) = .ok b m := rfl
@[simp] theorem dL (m : Mem) (i : Int) : toI m (.int i) = .ok (some i) m := rfl
@[simp] theorem dM (m : Mem) (b : Bool) : notP m (.bl b) = .ok (.bl (!b)) m := rfl
@[simp] theorem dN (m : Mem) (i : Int) : negP m (.int i) = .ok (.int (-i)) m := rfl
@[simp] theorem dO (m : Mem) (i j : Int) : opBin m .add (.int i) (.int j) = .ok (.int (i + j)) m := rfl
@[simp] theorem dP (m : Mem) (i j : Int) : opBin m .sub (.int i) (.int j) = .ok (.int (i - j)) m := rfl
theorem mul_ii {m : Mem} {i j : Int} (h : i.natAbs.log2 + j.natAbs.log2 < 1000000) : opBin m .mul (.int i) (.int j) = .ok (.int (i * j)) m := by show (if _ then _ else _) = _; rw [if_pos h]
theorem mod_ii {m : Mem} {i j : Int} (h : 0 < j) : opBin m .mod (.int i) (.int j) = .ok (.int (i % j)) m := by show (if _ then _ else _) = _; rw [if_pos h]
theorem fdv_ii {m : Mem} {i j : Int} (h : 0 < j) (h2 : j.natAbs.log2 < 9000) : opBin m .fdv (.int i) (.int j) = .ok (.int (i / j)) m := by show (if _ then _ else _) = _; rw [if_pos ⟨h, h2⟩]
theorem pow_ii {m : Mem} {i j : Int} (h : 0 ≤ j ∧ j ≤ 1000000 ∧ i.natAbs < 2 ^ 64) : opBin m .pow (.int i) (.int j) = .ok (.int (i ^ j.toNat)) m := by show (if _ then _ else _) = _; rw [if_pos h]
@[simp] theorem dQ (m : Mem) (i j : Int) : opCmp m .lt (.int i) (.int j) = .ok (.bl (decide (i < j))) m := rfl
@[simp] theorem dR (m : Mem) (i j : Int) : opCmp m .le (.int i) (.int j) = .ok (.bl (decide (i ≤ j))) m := rfl
@[simp] theorem dS (m : Mem) (i j : Int) : opCmp m .gt (.int i) (.int j) = .ok (.bl (decide (j < i))) m := rfl
@[simp] theorem dT (m : Mem) (i j : Int) : opCmp m .ge (.int i) (.int j) = .ok (.bl (decide (j ≤ i))) m := rfl
@[simp] theorem dU (m : Mem) (i j : Int) : opCmp m .eq (.int i) (.int j) = .ok (.bl (decide (i = j))) m := by
  simp only [opCmp, pvEq, toDT, toD]
  have : (SeqAt.shaped (.int i) && SeqAt.shaped (.int j)) = true := rfl
  rw [this, if_pos rfl]
  have e : PyData.eqv (.int i) (.int j) = decide (i = j) := by by_cases h : i = j <;> simp [PyData.eqv, h]
  rw [e]
  rfl
@[simp] theorem dV (m : Mem) (i j : Int) : opCmp m .ne (.int i) (.int j) = .ok (.bl (!decide (i = j))) m := by
  have := dU m i j
  simp only [opCmp] at this ⊢
  split at this
  · rename_i b e
    cases this; rfl
  · cases this
@[simp] theorem dW (m : Mem) (i j : Bool) : opCmp m .eq (.bl i) (.bl j) = .ok (.bl (decide (i = j))) m := by
  cases i <;> cases j <;> rfl
@[simp] theorem dX (m : Mem) (i j : Bool) : opCmp m .ne (.bl i) (.bl j) = .ok (.bl (!decide (i = j))) m := by
  cases i <;> cases j <;> rfl
@[simp] theorem dY (m : Mem) (i j : Bool) : opCmp m .is (.bl i) (.bl j) = .ok (.bl (decide (i = j))) m := rfl
@[simp] theorem dZ (m : Mem) (i j : Bool) : opCmp m .isn (.bl i) (.bl j) = .ok (.bl (!decide (i = j))) m := rfl
@[simp] theorem eA (m : Mem) (i : Bool) : opCmp m .is (.bl i) .non = .ok (.bl false) m := rfl
@[simp] theorem eB (m : Mem) (i : Int) : opCmp m .is (.int i) .non = .ok (.bl false) m := rfl
@[simp] theorem eC (m : Mem) : opCmp m .eq (.lst []) (.lst []) = .ok (.bl true) m := rfl
@[simp] theorem eE (m : Mem) : opCmp m .ne (.lst []) (.lst []) = .ok (.bl false) m := rfl
theorem isi_ty (m : Mem) (x : PV) (c : String) : opBf m .isi [x, .ty c] = match tyOf m x with
    | some t => match isTy t c with
      | some b => .ok (.bl b) m
      | none => .no
    | none => .no := rfl
@[simp] theorem eG (m : Mem) (i : Int) : opBf m .int [.int i] = .ok (.int i) m := rfl
@[simp] theorem eH (cnd : Env → Mem → Res Bool) (body : Env → Mem → RS) (n : Nat) (η : Env) (m : Mem) : whGo cnd body (n + 1) η m = (cnd η m).st η fun b m1 => if b then loopK (body η m1) (whGo cnd body n) else .nx η m1 := rfl
@[simp] theorem eI (bind : PV → Env → Mem → Res Env) (body : Env → Mem → RS) (η : Env) (m : Mem) : frGo [] bind body [] η m = .nx η m := rfl
@[simp] theorem eJ (bind : PV → Env → Mem → Res Env) (body : Env → Mem → RS) (x : PV) (xs : List PV) (η : Env) (m : Mem) : frGo [] bind body (x :: xs) η m = (bind x η m).st η fun η1 m1 => loopK (body η1 m1) (frGo [] bind body xs) := rfl
@[simp] theorem eK (bind : PV → Env → Mem → Res Env) (cnd : Env → Mem → Res Bool) (el : Env → Mem → Res PV) (η : Env) (m : Mem) : lcGo [] bind cnd el η [] m = .ok [] m := rfl
@[simp] theorem eL (bind : PV → Env → Mem → Res Env) (cnd : Env → Mem → Res Bool) (el : Env → Mem → Res PV) (η : Env) (x : PV) (xs : List PV) (m : Mem) : lcGo [] bind cnd el η (x :: xs) m =
    (bind x η m).bind fun η1 m1 => (cnd η1 m1).bind fun b m2 => if b then (el η1 m2).bind fun v m3 => (lcGo [] bind cnd el η xs m3).bind fun vs m4 => .ok (v :: vs) m4 else lcGo [] bind cnd el η xs m2 := rfl
@[simp] theorem eM (i j : Nat) (v w : PV) (η : Env) (m : Mem) : parK [i, j] [v, w] η m = .nx ((η.set i (some v)).set j (some w)) m := rfl
@[simp] theorem eN (i j k : Nat) (v w u : PV) (η : Env) (m : Mem) : parK [i, j, k] [v, w, u] η m = .nx (((η.set i (some v)).set j (some w)).set k (some u)) m := rfl
@[simp] theorem eO (v : PV) (m : Mem) : retP (.rt v m) = .ok v m := rfl
@[simp] theorem eP (η : Env) (m : Mem) : retP (.nx η m) = .ok .non m := rfl
theorem gcP_same {m m' : Mem} {v : PV} (h : m'.length = m.length) : gcP m (.ok v m') = .ok v m' := by
  simp only [gcP]
  split
  · rw [← h, List.take_length]
  · rfl
@[simp] theorem aA {m : Mem} {v : PV} : gcP m (.ok v m) = .ok v m := gcP_same rfl
theorem call_eq {ds : List Def} {i : Nat} {d : Def} (h : ds[i]? = some d) (k : Nat) (xs : List PV) (m : Mem) : callF ds (k + 1) i xs m = evDef (callF ds k) d xs m := by simp only [callF, h]
theorem natCast_log {a b : Nat} (h : a < 2 ^ b) (hb : b ≠ 0) : ((a : Int)).natAbs.log2 < b := by
  rw [Int.natAbs_natCast]
  by_cases h0 : a = 0
  · subst h0; simp; omega
  · exact (Nat.log2_lt h0).mpr h
@[simp] theorem eQ (m : Mem) (x a b : Int) : opCmp m .inn (.int x) (.tup [.int a, .int b]) = .ok (.bl (decide (a = x) || decide (b = x))) m := by
  simp [opCmp, asS, flat, eqF]
@[simp] theorem eR (m : Mem) (a b : PV) : tupP m [a, b] = .ok (.tup [a, b]) m := rfl
@[simp] theorem eS : (0 ≤ LINE) = True := by simp
@[simp] theorem eT : (1 ≤ LINE) = True := by simp [LINE]
@[simp] theorem eU : (2 ≤ LINE) = True := by simp [LINE]
@[simp] theorem eV : (3 ≤ LINE) = True := by simp [LINE]
@[simp] theorem eW : (4 ≤ LINE) = True := by simp [LINE]
@[simp] theorem eX : (5 ≤ LINE) = True := by simp [LINE]
@[simp] theorem eY : (6 ≤ LINE) = True := by simp [LINE]
@[simp] theorem eZ : (7 ≤ LINE) = True := by simp [LINE]
@[simp] theorem fA : (8 ≤ LINE) = True := by simp [LINE]
@[simp] theorem fB : (9 ≤ LINE) = True := by simp [LINE]
@[simp] theorem fC : (10 ≤ LINE) = True := by simp [LINE]
@[simp] theorem fE : (11 ≤ LINE) = True := by simp [LINE]
@[simp] theorem fF : (12 ≤ LINE) = True := by simp [LINE]
@[simp] theorem fG : (13 ≤ LINE) = True := by simp [LINE]
@[simp] theorem fH : (14 ≤ LINE) = True := by simp [LINE]
@[simp] theorem fI : (15 ≤ LINE) = True := by simp [LINE]
@[simp] theorem fJ : (16 ≤ LINE) = True := by simp [LINE]
@[simp] theorem fK : (17 ≤ LINE) = True := by simp [LINE]
@[simp] theorem fL : (18 ≤ LINE) = True := by simp [LINE]
@[simp] theorem fM : (19 ≤ LINE) = True := by simp [LINE]
@[simp] theorem fN : (20 ≤ LINE) = True := by simp [LINE]
@[simp] theorem fO : (21 ≤ LINE) = True := by simp [LINE]
@[simp] theorem fP : (22 ≤ LINE) = True := by simp [LINE]
@[simp] theorem fQ : (23 ≤ LINE) = True := by simp [LINE]
@[simp] theorem fR : (24 ≤ LINE) = True := by simp [LINE]
@[simp] theorem fS : (25 ≤ LINE) = True := by simp [LINE]
@[simp] theorem fT : (26 ≤ LINE) = True := by simp [LINE]
@[simp] theorem fU : (27 ≤ LINE) = True := by simp [LINE]
@[simp] theorem fV : (28 ≤ LINE) = True := by simp [LINE]
@[simp] theorem fW : (29 ≤ LINE) = True := by simp [LINE]
@[simp] theorem fX : (30 ≤ LINE) = True := by simp [LINE]
end Px
set_option Elab.async false
set_option linter.all false
set_option maxRecDepth 100000
set_option maxHeartbeats 1000000
namespace Px
open PySem
section
variable {ds : List Def} {k : Nat} {m : Mem}
def bInt : List St := [.ret (some (.and_ (.bf .isi [.var 0, .ty "int"]) (.not_ (.bf .isi [.var 0, .ty "bool"]))))]
theorem int_ok {i : Nat} {N : List Str} (h : ds[i]? = some ⟨N, 1, bInt⟩) (n : Int) : callF ds (k + 1) i [.int n] m = .ok (.bl true) m := by
  rw [call_eq h]
  simp [evDef, bInt, isi_ty, tyOf, tyNm, isTy, brB_if]
def bFrom (j : Nat) : List St := [.ret (some (.and_ (.call j [.var 0]) (.chn .le .le (.var 1) (.var 0) (.var 2))))]
theorem from_ok {i j : Nat} {N N' : List Str} (h : ds[i]? = some ⟨N, 3, bFrom j⟩) (hj : ds[j]? = some ⟨N', 1, bInt⟩) (n lo hi : Int) : callF ds (k + 2) i [.int n, .int lo, .int hi] m = .ok (.bl (decide (lo ≤ n) && decide (n ≤ hi))) m := by
  rw [call_eq h]
  simp [evDef, bFrom, int_ok hj, brB_if]
  by_cases h1 : lo ≤ n <;> simp [h1]
def bRaised : List St := [
  .par [3, 1] [.int 1, .bin .mod (.var 1) (.var 0)],
  .whl (.cmp .gt (.var 2) (.int 0)) [.iff (.cmp .eq (.bin .mod (.var 2) (.int 2)) (.int 1)) [.asg (.nm 3) (.bin .mod (.bin .mul (.var 3) (.var 1)) (.var 0))] [], .par [1, 2] [.bin .mod (.bin .mul (.var 1) (.var 1)) (.var 0), .bin .fdv (.var 2) (.int 2)]],
  .ret (some (.var 3))]
theorem pow_step (p f b t : Nat) : f * b ^ t % p = (if t % 2 = 1 then f * b % p else f) * (b * b % p) ^ (t / 2) % p := by
  have e : b ^ t = (b * b) ^ (t / 2) * (if t % 2 = 1 then b else 1) := by
    have h : t = 2 * (t / 2) + t % 2 := by omega
    conv => lhs; rw [h]
    rw [Nat.pow_add, Nat.pow_mul, Nat.pow_two]
    rcases Nat.mod_two_eq_zero_or_one t with h | h <;> simp [h]
  rw [e, Nat.mul_mod _ ((b * b % p) ^ _), Nat.pow_mod (b * b % p), Nat.mod_mod, ← Nat.pow_mod, ← Nat.mul_mod]
  split
  · rw [Nat.mul_mod (f * b % p), Nat.mod_mod, ← Nat.mul_mod]
    congr 1
    rw [Nat.mul_comm _ b, ← Nat.mul_assoc]
  · rw [Nat.mul_one]
theorem lt64 {a b : Nat} (ha : a < 2 ^ 64) (hb : b < 2 ^ 64) : (a : Int).natAbs.log2 + (b : Int).natAbs.log2 < 1000000 := by
  have := natCast_log ha (by omega)
  have := natCast_log hb (by omega)
  omega
theorem two_log : (2 : Int).natAbs.log2 < 9000 := by decide
theorem raised_loop {Γ : Call} {p : Nat} (hp : 1 < p) (hp2 : p < 2 ^ 64) : ∀ (n t b f : Nat), t < 2 ^ n → b < p → f < p → ∀ fuel, n < fuel → ∃ b' : Nat,
    whGo (evC Γ (some (.cmp .gt (.var 2) (.int 0)))) (evSs Γ [.iff (.cmp .eq (.bin .mod (.var 2) (.int 2)) (.int 1)) [.asg (.nm 3) (.bin .mod (.bin .mul (.var 3) (.var 1)) (.var 0))] [], .par [1, 2] [.bin .mod (.bin .mul (.var 1) (.var 1)) (.var 0), .bin .fdv (.var 2) (.int 2)]]) fuel
      [some (.int p), some (.int b), some (.int t), some (.int f)] m = .nx [some (.int p), some (.int b'), some (.int 0), some (.int (f * b ^ t % p : Nat))] m
  | n, t, b, f, ht, hb, hf, 0, h => by omega
  | n, t, b, f, ht, hb, hf, fuel + 1, h => by
    by_cases h0 : t = 0
    · subst h0
      refine ⟨b, ?_⟩
      have e : f * b ^ 0 % p = f := by rw [Nat.pow_zero, Nat.mul_one]; exact Nat.mod_eq_of_lt hf
      rw [e]
      have hh : decide ((0 : Int) < ((0 : Nat) : Int)) = false := by decide
      simp only [aB, aC, aD, aE, aF, aG, aH, aI, aJ, aK, aL, aM, aN, aO, aP, aQ, aR, aS, aT, aU, aV, aW, aX, aY, aZ, bA, bB, bC, bD, bE, bF, bG, bH, bI, bJ, bK, bL, bM, bN, bO, bP, bQ, bR, bS, bT, bU, bV, bW, bX, bY, bZ, cA, cB, cC, cD, cE, cF, cG, cH, cI, cJ, cK, cL, cM, cN, cO, cP, cQ, cR, cS, cT, cU, cW, cX, cY, cZ, dA, dB, dC, dD, dE, dF, dG, dH, dI, dJ, dL, dM, dN, dO, dP, dQ, dR, dS, dT, dU, dV, dW, dX, dY, dZ, eA, eB, eC, eE, eG, eH, eI, eJ, eK, eL, eM, eN, eO, eP, aA, eQ, eR, eS, eT, eU, eV, eW, eX, eY, eZ, fA, fB, fC, fE, fF, fG, fH, fI, fJ, fK, fL, fM, fN, fO, fP, fQ, fR, fS, fT, fU, fV, fW, fX, fY, Res.bind_ex, Res.bind_no, fZ, gA, Res.st_ex, Res.st_no, gB, gC, gD, gE, gF, gG, gH, gI, gJ, gK, List.set_cons_zero, List.set_cons_succ, List.length_cons, List.length_nil, List.map_cons, List.map_nil, List.replicate, List.cons_append, List.nil_append, Nat.reduceSub, Nat.reduceAdd, Nat.reduceLT, List.append_nil, if_true, if_false, Bool.false_eq_true, ite_true, ite_false, decide_true, decide_false, Bool.not_true, Bool.not_false, hh]
      rfl
    · cases n with
      | zero => rw [Nat.pow_zero] at ht; omega
      | succ n =>
      have h1 : decide ((0 : Int) < (t : Int)) = true := decide_eq_true (by omega)
      have hp0 : (0 : Int) < (p : Int) := by omega
      have hbb := lt64 (Nat.lt_trans hb hp2) (Nat.lt_trans hb hp2)
      have hfb := lt64 (Nat.lt_trans hf hp2) (Nat.lt_trans hb hp2)
      obtain ⟨b', ih⟩ := raised_loop (Γ := Γ) hp hp2 n (t / 2) (b * b % p) (if t % 2 = 1 then f * b % p else f) (by rw [Nat.pow_succ] at ht; omega) (Nat.mod_lt _ (by omega)) (by split; exact Nat.mod_lt _ (by omega); exact hf) fuel (by omega)
      refine ⟨b', ?_⟩
      rw [← pow_step] at ih
      rw [← ih]
      have q1 : ((b : Int) * b % p) = ((b * b % p : Nat) : Int) := by rw [Int.natCast_emod, Int.natCast_mul]
      have q2 : ((f : Int) * b % p) = ((f * b % p : Nat) : Int) := by rw [Int.natCast_emod, Int.natCast_mul]
      have q3 : ((t : Int) / 2) = ((t / 2 : Nat) : Int) := by omega
      by_cases ho : t % 2 = 1
      · have ho' : decide ((t : Int) % 2 = 1) = true := decide_eq_true (by omega)
        simp only [aB, aC, aD, aE, aF, aG, aH, aI, aJ, aK, aL, aM, aN, aO, aP, aQ, aR, aS, aT, aU, aV, aW, aX, aY, aZ, bA, bB, bC, bD, bE, bF, bG, bH, bI, bJ, bK, bL, bM, bN, bO, bP, bQ, bR, bS, bT, bU, bV, bW, bX, bY, bZ, cA, cB, cC, cD, cE, cF, cG, cH, cI, cJ, cK, cL, cM, cN, cO, cP, cQ, cR, cS, cT, cU, cW, cX, cY, cZ, dA, dB, dC, dD, dE, dF, dG, dH, dI, dJ, dL, dM, dN, dO, dP, dQ, dR, dS, dT, dU, dV, dW, dX, dY, dZ, eA, eB, eC, eE, eG, eH, eI, eJ, eK, eL, eM, eN, eO, eP, aA, eQ, eR, eS, eT, eU, eV, eW, eX, eY, eZ, fA, fB, fC, fE, fF, fG, fH, fI, fJ, fK, fL, fM, fN, fO, fP, fQ, fR, fS, fT, fU, fV, fW, fX, fY, Res.bind_ex, Res.bind_no, fZ, gA, Res.st_ex, Res.st_no, gB, gC, gD, gE, gF, gG, gH, gI, gJ, gK, List.set_cons_zero, List.set_cons_succ, List.length_cons, List.length_nil, List.map_cons, List.map_nil, List.replicate, List.cons_append, List.nil_append, Nat.reduceSub, Nat.reduceAdd, Nat.reduceLT, List.append_nil, if_true, if_false, Bool.false_eq_true, ite_true, ite_false, decide_true, decide_false, Bool.not_true, Bool.not_false, h1, mod_ii (show (0 : Int) < 2 by decide), ho', mul_ii hfb, mod_ii hp0, mul_ii hbb, fdv_ii (show (0 : Int) < 2 by decide) two_log, q1, q2, q3, ho]
      · have ho' : decide ((t : Int) % 2 = 1) = false := decide_eq_false (by omega)
        simp only [aB, aC, aD, aE, aF, aG, aH, aI, aJ, aK, aL, aM, aN, aO, aP, aQ, aR, aS, aT, aU, aV, aW, aX, aY, aZ, bA, bB, bC, bD, bE, bF, bG, bH, bI, bJ, bK, bL, bM, bN, bO, bP, bQ, bR, bS, bT, bU, bV, bW, bX, bY, bZ, cA, cB, cC, cD, cE, cF, cG, cH, cI, cJ, cK, cL, cM, cN, cO, cP, cQ, cR, cS, cT, cU, cW, cX, cY, cZ, dA, dB, dC, dD, dE, dF, dG, dH, dI, dJ, dL, dM, dN, dO, dP, dQ, dR, dS, dT, dU, dV, dW, dX, dY, dZ, eA, eB, eC, eE, eG, eH, eI, eJ, eK, eL, eM, eN, eO, eP, aA, eQ, eR, eS, eT, eU, eV, eW, eX, eY, eZ, fA, fB, fC, fE, fF, fG, fH, fI, fJ, fK, fL, fM, fN, fO, fP, fQ, fR, fS, fT, fU, fV, fW, fX, fY, Res.bind_ex, Res.bind_no, fZ, gA, Res.st_ex, Res.st_no, gB, gC, gD, gE, gF, gG, gH, gI, gJ, gK, List.set_cons_zero, List.set_cons_succ, List.length_cons, List.length_nil, List.map_cons, List.map_nil, List.replicate, List.cons_append, List.nil_append, Nat.reduceSub, Nat.reduceAdd, Nat.reduceLT, List.append_nil, if_true, if_false, Bool.false_eq_true, ite_true, ite_false, decide_true, decide_false, Bool.not_true, Bool.not_false, h1, mod_ii (show (0 : Int) < 2 by decide), ho', mul_ii hfb, mod_ii hp0, mul_ii hbb, fdv_ii (show (0 : Int) < 2 by decide) two_log, q1, q2, q3, ho]
theorem raised_ok {i : Nat} {N : List Str} (hN : N.length = 4) (h : ds[i]? = some ⟨N, 3, bRaised⟩) {p b t : Nat} (hp : 1 < p) (hp2 : p < 2 ^ 64) (ht : t < 2 ^ 1000) : callF ds (k + 1) i [.int p, .int b, .int t] m = .ok (.int (b ^ t % p : Nat)) m := by
  rw [call_eq h]
  have hp0 : (0 : Int) < (p : Int) := by omega
  obtain ⟨b', e⟩ := raised_loop (m := m) (Γ := callF ds k) hp hp2 1000 t (b % p) 1 ht (Nat.mod_lt _ (by omega)) hp WF (by decide)
  have q : ((b : Int) % p) = ((b % p : Nat) : Int) := by rw [Int.natCast_emod]
  have e2 : 1 * (b % p) ^ t % p = b ^ t % p := by rw [Nat.one_mul, ← Nat.pow_mod]
  rw [e2] at e
  simp only [evDef, bRaised, hN, aB, aC, aD, aE, aF, aG, aH, aI, aJ, aK, aL, aM, aN, aO, aP, aQ, aR, aS, aT, aU, aV, aW, aX, aY, aZ, bA, bB, bC, bD, bE, bF, bG, bH, bI, bJ, bK, bL, bM, bN, bO, bP, bQ, bR, bS, bT, bU, bV, bW, bX, bY, bZ, cA, cB, cC, cD, cE, cF, cG, cH, cI, cJ, cK, cL, cM, cN, cO, cP, cQ, cR, cS, cT, cU, cW, cX, cY, cZ, dA, dB, dC, dD, dE, dF, dG, dH, dI, dJ, dL, dM, dN, dO, dP, dQ, dR, dS, dT, dU, dV, dW, dX, dY, dZ, eA, eB, eC, eE, eG, eH, eI, eJ, eK, eL, eM, eN, eO, eP, aA, eQ, eR, eS, eT, eU, eV, eW, eX, eY, eZ, fA, fB, fC, fE, fF, fG, fH, fI, fJ, fK, fL, fM, fN, fO, fP, fQ, fR, fS, fT, fU, fV, fW, fX, fY, Res.bind_ex, Res.bind_no, fZ, gA, Res.st_ex, Res.st_no, gB, gC, gD, gE, gF, gG, gH, gI, gJ, gK, List.set_cons_zero, List.set_cons_succ, List.length_cons, List.length_nil, List.map_cons, List.map_nil, List.replicate, List.cons_append, List.nil_append, Nat.reduceSub, Nat.reduceAdd, Nat.reduceLT, List.append_nil, if_true, if_false, Bool.false_eq_true, ite_true, ite_false, decide_true, decide_false, Bool.not_true, Bool.not_false, mod_ii hp0, q]
  rw [show (((1 : Nat)) : Int) = 1 from rfl] at e
  rw [e]
  simp only [aB, aC, aD, aE, aF, aG, aH, aI, aJ, aK, aL, aM, aN, aO, aP, aQ, aR, aS, aT, aU, aV, aW, aX, aY, aZ, bA, bB, bC, bD, bE, bF, bG, bH, bI, bJ, bK, bL, bM, bN, bO, bP, bQ, bR, bS, bT, bU, bV, bW, bX, bY, bZ, cA, cB, cC, cD, cE, cF, cG, cH, cI, cJ, cK, cL, cM, cN, cO, cP, cQ, cR, cS, cT, cU, cW, cX, cY, cZ, dA, dB, dC, dD, dE, dF, dG, dH, dI, dJ, dL, dM, dN, dO, dP, dQ, dR, dS, dT, dU, dV, dW, dX, dY, dZ, eA, eB, eC, eE, eG, eH, eI, eJ, eK, eL, eM, eN, eO, eP, aA, eQ, eR, eS, eT, eU, eV, eW, eX, eY, eZ, fA, fB, fC, fE, fF, fG, fH, fI, fJ, fK, fL, fM, fN, fO, fP, fQ, fR, fS, fT, fU, fV, fW, fX, fY, Res.bind_ex, Res.bind_no, fZ, gA, Res.st_ex, Res.st_no, gB, gC, gD, gE, gF, gG, gH, gI, gJ, gK, List.set_cons_zero, List.set_cons_succ, List.length_cons, List.length_nil, List.map_cons, List.map_nil, List.replicate, List.cons_append, List.nil_append, Nat.reduceSub, Nat.reduceAdd, Nat.reduceLT, List.append_nil, if_true, if_false, Bool.false_eq_true, ite_true, ite_false, decide_true, decide_false, Bool.not_true, Bool.not_false, aA]
def splitN : Nat → Nat → Nat → Nat × Nat
  | 0, t, s => (t, s)
  | n + 1, t, s => if t % 2 = 0 then splitN n (t / 2) (s + 1) else (t, s)
def sqLoop : Nat → Nat → Nat → Bool
  | 0, _, _ => false
  | n + 1, x, v => let y := x * x % v; (y == v - 1) || sqLoop n y v
def passP (v b : Nat) : Bool :=
  let q := splitN 40 (v - 1) 0
  let x := b ^ q.1 % v
  ((x == 1) || (x == v - 1)) || sqLoop (q.2 - 1) x v
def bPasses (j : Nat) : List St := [
  .par [2, 3] [.bin .sub (.var 0) (.int 1), .int 0],
  .whl (.cmp .eq (.bin .mod (.var 2) (.int 2)) (.int 0)) [.par [2, 3] [.bin .fdv (.var 2) (.int 2), .bin .add (.var 3) (.int 1)]],
  .asg (.nm 4) (.call j [.var 0, .var 1, .var 2]),
  .iff (.cmp .inn (.var 4) (.tup [.int 1, .bin .sub (.var 0) (.int 1)])) [.ret (some (.bl true))] [],
  .for_ (.nm 5) (.rg1 (.bin .sub (.var 3) (.int 1))) [.asg (.nm 4) (.bin .mod (.bin .mul (.var 4) (.var 4)) (.var 0)), .iff (.cmp .eq (.var 4) (.bin .sub (.var 0) (.int 1))) [.ret (some (.bl true))] []],
  .ret (some (.bl false))]
theorem split_loop {Γ : Call} {v b : PV} : ∀ (n t s : Nat), 0 < t → t < 2 ^ n → ∀ fuel, n < fuel →
    whGo (evC Γ (some (.cmp .eq (.bin .mod (.var 2) (.int 2)) (.int 0)))) (evSs Γ [.par [2, 3] [.bin .fdv (.var 2) (.int 2), .bin .add (.var 3) (.int 1)]]) fuel
      [some v, some b, some (.int t), some (.int s), none, none] m = .nx [some v, some b, some (.int (splitN n t s).1), some (.int (splitN n t s).2), none, none] m
  | n, t, s, h0, ht, 0, h => by omega
  | 0, t, s, h0, ht, fuel + 1, h => by rw [Nat.pow_zero] at ht; omega
  | n + 1, t, s, h0, ht, fuel + 1, h => by
    have q3 : ((t : Int) / 2) = ((t / 2 : Nat) : Int) := by omega
    have q4 : ((s : Int) + 1) = ((s + 1 : Nat) : Int) := by omega
    by_cases ho : t % 2 = 0
    · have ho' : decide ((t : Int) % 2 = 0) = true := decide_eq_true (by omega)
      have ih := split_loop (Γ := Γ) (v := v) (b := b) n (t / 2) (s + 1) (by omega) (by rw [Nat.pow_succ] at ht; omega) fuel (by omega)
      simp only [splitN, ho]
      rw [if_pos trivial, ← ih]
      simp only [aB, aC, aD, aE, aF, aG, aH, aI, aJ, aK, aL, aM, aN, aO, aP, aQ, aR, aS, aT, aU, aV, aW, aX, aY, aZ, bA, bB, bC, bD, bE, bF, bG, bH, bI, bJ, bK, bL, bM, bN, bO, bP, bQ, bR, bS, bT, bU, bV, bW, bX, bY, bZ, cA, cB, cC, cD, cE, cF, cG, cH, cI, cJ, cK, cL, cM, cN, cO, cP, cQ, cR, cS, cT, cU, cW, cX, cY, cZ, dA, dB, dC, dD, dE, dF, dG, dH, dI, dJ, dL, dM, dN, dO, dP, dQ, dR, dS, dT, dU, dV, dW, dX, dY, dZ, eA, eB, eC, eE, eG, eH, eI, eJ, eK, eL, eM, eN, eO, eP, aA, eQ, eR, eS, eT, eU, eV, eW, eX, eY, eZ, fA, fB, fC, fE, fF, fG, fH, fI, fJ, fK, fL, fM, fN, fO, fP, fQ, fR, fS, fT, fU, fV, fW, fX, fY, Res.bind_ex, Res.bind_no, fZ, gA, Res.st_ex, Res.st_no, gB, gC, gD, gE, gF, gG, gH, gI, gJ, gK, List.set_cons_zero, List.set_cons_succ, List.length_cons, List.length_nil, List.map_cons, List.map_nil, List.replicate, List.cons_append, List.nil_append, Nat.reduceSub, Nat.reduceAdd, Nat.reduceLT, List.append_nil, if_true, if_false, Bool.false_eq_true, ite_true, ite_false, decide_true, decide_false, Bool.not_true, Bool.not_false, mod_ii (show (0 : Int) < 2 by decide), ho', fdv_ii (show (0 : Int) < 2 by decide) two_log, q3, q4]
    · have ho' : decide ((t : Int) % 2 = 0) = false := decide_eq_false (by omega)
      simp only [splitN, ho, aB, aC, aD, aE, aF, aG, aH, aI, aJ, aK, aL, aM, aN, aO, aP, aQ, aR, aS, aT, aU, aV, aW, aX, aY, aZ, bA, bB, bC, bD, bE, bF, bG, bH, bI, bJ, bK, bL, bM, bN, bO, bP, bQ, bR, bS, bT, bU, bV, bW, bX, bY, bZ, cA, cB, cC, cD, cE, cF, cG, cH, cI, cJ, cK, cL, cM, cN, cO, cP, cQ, cR, cS, cT, cU, cW, cX, cY, cZ, dA, dB, dC, dD, dE, dF, dG, dH, dI, dJ, dL, dM, dN, dO, dP, dQ, dR, dS, dT, dU, dV, dW, dX, dY, dZ, eA, eB, eC, eE, eG, eH, eI, eJ, eK, eL, eM, eN, eO, eP, aA, eQ, eR, eS, eT, eU, eV, eW, eX, eY, eZ, fA, fB, fC, fE, fF, fG, fH, fI, fJ, fK, fL, fM, fN, fO, fP, fQ, fR, fS, fT, fU, fV, fW, fX, fY, Res.bind_ex, Res.bind_no, fZ, gA, Res.st_ex, Res.st_no, gB, gC, gD, gE, gF, gG, gH, gI, gJ, gK, List.set_cons_zero, List.set_cons_succ, List.length_cons, List.length_nil, List.map_cons, List.map_nil, List.replicate, List.cons_append, List.nil_append, Nat.reduceSub, Nat.reduceAdd, Nat.reduceLT, List.append_nil, if_true, if_false, Bool.false_eq_true, ite_true, ite_false, decide_true, decide_false, Bool.not_true, Bool.not_false, mod_ii (show (0 : Int) < 2 by decide), ho']
theorem split_le : ∀ n t s, (splitN n t s).1 ≤ t ∧ (splitN n t s).2 ≤ n + s
  | 0, t, s => ⟨Nat.le_refl _, by simp [splitN]⟩
  | n + 1, t, s => by
    simp only [splitN]
    split
    · have := split_le n (t / 2) (s + 1)
      omega
    · exact ⟨Nat.le_refl _, by show s ≤ _; omega⟩
theorem sq_loop {Γ : Call} {v : Nat} {b d e : PV} (h1 : 1 < v) (h2 : v < 2 ^ 64) : ∀ (xs : List PV) (f : Nat) (u : Option PV), f < v →
    (sqLoop xs.length f v = true → frGo [] (bnd Γ (.nm 5)) (evSs Γ [.asg (.nm 4) (.bin .mod (.bin .mul (.var 4) (.var 4)) (.var 0)), .iff (.cmp .eq (.var 4) (.bin .sub (.var 0) (.int 1))) [.ret (some (.bl true))] []]) xs [some (.int v), some b, some d, some e, some (.int f), u] m = .rt (.bl true) m) ∧
    (sqLoop xs.length f v = false → ∃ η, frGo [] (bnd Γ (.nm 5)) (evSs Γ [.asg (.nm 4) (.bin .mod (.bin .mul (.var 4) (.var 4)) (.var 0)), .iff (.cmp .eq (.var 4) (.bin .sub (.var 0) (.int 1))) [.ret (some (.bl true))] []]) xs [some (.int v), some b, some d, some e, some (.int f), u] m = .nx η m)
  | [], f, u, hf => ⟨fun h => by simp [sqLoop] at h, fun _ => ⟨_, rfl⟩⟩
  | x :: xs, f, u, hf => by
    have hp0 : (0 : Int) < (v : Int) := by omega
    have q2 : ((f : Int) * f % v) = ((f * f % v : Nat) : Int) := by rw [Int.natCast_emod, Int.natCast_mul]
    have hff := lt64 (Nat.lt_trans hf h2) (Nat.lt_trans hf h2)
    have q5 : decide (((f * f % v : Nat) : Int) = (v : Int) - 1) = decide (f * f % v = v - 1) := by
      by_cases z : f * f % v = v - 1
      · rw [decide_eq_true z]; exact decide_eq_true (by omega)
      · rw [decide_eq_false z]; exact decide_eq_false (by omega)
    have ih := sq_loop (Γ := Γ) (b := b) (d := d) (e := e) h1 h2 xs (f * f % v) (some x) (Nat.mod_lt _ (by omega))
    rw [List.length_cons]
    simp only [sqLoop]
    by_cases z : f * f % v = v - 1
    · have z' : (f * f % v == v - 1) = true := by simpa using z
      rw [z']
      have q5' := q5.trans (decide_eq_true z)
      refine ⟨fun _ => ?_, fun h => by cases h⟩
      simp only [aB, aC, aD, aE, aF, aG, aH, aI, aJ, aK, aL, aM, aN, aO, aP, aQ, aR, aS, aT, aU, aV, aW, aX, aY, aZ, bA, bB, bC, bD, bE, bF, bG, bH, bI, bJ, bK, bL, bM, bN, bO, bP, bQ, bR, bS, bT, bU, bV, bW, bX, bY, bZ, cA, cB, cC, cD, cE, cF, cG, cH, cI, cJ, cK, cL, cM, cN, cO, cP, cQ, cR, cS, cT, cU, cW, cX, cY, cZ, dA, dB, dC, dD, dE, dF, dG, dH, dI, dJ, dL, dM, dN, dO, dP, dQ, dR, dS, dT, dU, dV, dW, dX, dY, dZ, eA, eB, eC, eE, eG, eH, eI, eJ, eK, eL, eM, eN, eO, eP, aA, eQ, eR, eS, eT, eU, eV, eW, eX, eY, eZ, fA, fB, fC, fE, fF, fG, fH, fI, fJ, fK, fL, fM, fN, fO, fP, fQ, fR, fS, fT, fU, fV, fW, fX, fY, Res.bind_ex, Res.bind_no, fZ, gA, Res.st_ex, Res.st_no, gB, gC, gD, gE, gF, gG, gH, gI, gJ, gK, List.set_cons_zero, List.set_cons_succ, List.length_cons, List.length_nil, List.map_cons, List.map_nil, List.replicate, List.cons_append, List.nil_append, Nat.reduceSub, Nat.reduceAdd, Nat.reduceLT, List.append_nil, if_true, if_false, Bool.false_eq_true, ite_true, ite_false, decide_true, decide_false, Bool.not_true, Bool.not_false, mul_ii hff, mod_ii hp0, q2, q5']
    · have z' : (f * f % v == v - 1) = false := by simpa using z
      rw [z', Bool.false_or]
      have q5' := q5.trans (decide_eq_false z)
      simp only [aB, aC, aD, aE, aF, aG, aH, aI, aJ, aK, aL, aM, aN, aO, aP, aQ, aR, aS, aT, aU, aV, aW, aX, aY, aZ, bA, bB, bC, bD, bE, bF, bG, bH, bI, bJ, bK, bL, bM, bN, bO, bP, bQ, bR, bS, bT, bU, bV, bW, bX, bY, bZ, cA, cB, cC, cD, cE, cF, cG, cH, cI, cJ, cK, cL, cM, cN, cO, cP, cQ, cR, cS, cT, cU, cW, cX, cY, cZ, dA, dB, dC, dD, dE, dF, dG, dH, dI, dJ, dL, dM, dN, dO, dP, dQ, dR, dS, dT, dU, dV, dW, dX, dY, dZ, eA, eB, eC, eE, eG, eH, eI, eJ, eK, eL, eM, eN, eO, eP, aA, eQ, eR, eS, eT, eU, eV, eW, eX, eY, eZ, fA, fB, fC, fE, fF, fG, fH, fI, fJ, fK, fL, fM, fN, fO, fP, fQ, fR, fS, fT, fU, fV, fW, fX, fY, Res.bind_ex, Res.bind_no, fZ, gA, Res.st_ex, Res.st_no, gB, gC, gD, gE, gF, gG, gH, gI, gJ, gK, List.set_cons_zero, List.set_cons_succ, List.length_cons, List.length_nil, List.map_cons, List.map_nil, List.replicate, List.cons_append, List.nil_append, Nat.reduceSub, Nat.reduceAdd, Nat.reduceLT, List.append_nil, if_true, if_false, Bool.false_eq_true, ite_true, ite_false, decide_true, decide_false, Bool.not_true, Bool.not_false, mul_ii hff, mod_ii hp0, q2, q5']
      exact ih
theorem len_rangeV (a : Int) (n : Nat) : (rangeV a n).length = n := by simp [rangeV]
theorem srcRg_ii {m : Mem} {i j : Int} (h1 : -(2 ^ 62) ≤ i) (h2 : i < 2 ^ 62) (h3 : -(2 ^ 62) ≤ j) (h4 : j < 2 ^ 62) : srcRg m (.int i) (.int j) = .ok (rangeV i (j - i).toNat, []) m := by
  show (if (smallI i && smallI j) = true then _ else _) = _
  rw [if_pos (by simp only [smallI, decide_eq_true h1, decide_eq_true h2, decide_eq_true h3, decide_eq_true h4]; rfl)]
theorem passes_ok {i j : Nat} {N N' : List Str} (hN : N.length = 6) (hN' : N'.length = 4) (h : ds[i]? = some ⟨N, 2, bPasses j⟩) (hj : ds[j]? = some ⟨N', 3, bRaised⟩) {v b : Nat} (hv : 2 < v) (hv2 : v < 2 ^ 40) : callF ds (k + 2) i [.int v, .int b] m = .ok (.bl (passP v b)) m := by
  rw [call_eq h]
  have hv3 : v < 2 ^ 64 := Nat.lt_trans hv2 (by decide)
  have e := split_loop (m := m) (Γ := callF ds (k + 1)) (v := .int v) (b := .int b) 40 (v - 1) 0 (by omega) (by omega) WF (by decide)
  have q : ((v : Int) - 1) = ((v - 1 : Nat) : Int) := by omega
  have le := split_le 40 (v - 1) 0
  have r := raised_ok (k := k) (m := m) hN' hj (p := v) (b := b) (t := (splitN 40 (v - 1) 0).1) (by omega) hv3 (Nat.lt_of_le_of_lt (Nat.le_trans le.1 (Nat.sub_le _ _)) (Nat.lt_trans hv3 (Nat.pow_lt_pow_right (by decide) (by decide))))
  rw [show (((0 : Nat)) : Int) = 0 from rfl] at e
  simp only [evDef, bPasses, hN, aB, aC, aD, aE, aF, aG, aH, aI, aJ, aK, aL, aM, aN, aO, aP, aQ, aR, aS, aT, aU, aV, aW, aX, aY, aZ, bA, bB, bC, bD, bE, bF, bG, bH, bI, bJ, bK, bL, bM, bN, bO, bP, bQ, bR, bS, bT, bU, bV, bW, bX, bY, bZ, cA, cB, cC, cD, cE, cF, cG, cH, cI, cJ, cK, cL, cM, cN, cO, cP, cQ, cR, cS, cT, cU, cW, cX, cY, cZ, dA, dB, dC, dD, dE, dF, dG, dH, dI, dJ, dL, dM, dN, dO, dP, dQ, dR, dS, dT, dU, dV, dW, dX, dY, dZ, eA, eB, eC, eE, eG, eH, eI, eJ, eK, eL, eM, eN, eO, eP, aA, eQ, eR, eS, eT, eU, eV, eW, eX, eY, eZ, fA, fB, fC, fE, fF, fG, fH, fI, fJ, fK, fL, fM, fN, fO, fP, fQ, fR, fS, fT, fU, fV, fW, fX, fY, Res.bind_ex, Res.bind_no, fZ, gA, Res.st_ex, Res.st_no, gB, gC, gD, gE, gF, gG, gH, gI, gJ, gK, List.set_cons_zero, List.set_cons_succ, List.length_cons, List.length_nil, List.map_cons, List.map_nil, List.replicate, List.cons_append, List.nil_append, Nat.reduceSub, Nat.reduceAdd, Nat.reduceLT, List.append_nil, if_true, if_false, Bool.false_eq_true, ite_true, ite_false, decide_true, decide_false, Bool.not_true, Bool.not_false, q, e, r]
  have pe : passP v b = (((b ^ (splitN 40 (v - 1) 0).1 % v == 1) || (b ^ (splitN 40 (v - 1) 0).1 % v == v - 1)) || sqLoop ((splitN 40 (v - 1) 0).2 - 1) (b ^ (splitN 40 (v - 1) 0).1 % v) v) := rfl
  rw [pe]
  generalize hx : b ^ (splitN 40 (v - 1) 0).1 % v = x at *
  have xlt : x < v := by rw [← hx]; exact Nat.mod_lt _ (by omega)
  have q1 : (decide ((1 : Int) = (x : Int)) || decide (((v - 1 : Nat) : Int) = (x : Int))) = ((x == 1) || (x == v - 1)) := by
    congr 1
    · by_cases z : x = 1
      · rw [z]; rfl
      · rw [decide_eq_false (by omega)]; simp [z]
    · by_cases z : x = v - 1
      · rw [z]; simp
      · rw [decide_eq_false (by omega)]; simp [z]
  rw [q1]
  cases hb : ((x == 1) || (x == v - 1)) with
  | true => simp only [aB, aC, aD, aE, aF, aG, aH, aI, aJ, aK, aL, aM, aN, aO, aP, aQ, aR, aS, aT, aU, aV, aW, aX, aY, aZ, bA, bB, bC, bD, bE, bF, bG, bH, bI, bJ, bK, bL, bM, bN, bO, bP, bQ, bR, bS, bT, bU, bV, bW, bX, bY, bZ, cA, cB, cC, cD, cE, cF, cG, cH, cI, cJ, cK, cL, cM, cN, cO, cP, cQ, cR, cS, cT, cU, cW, cX, cY, cZ, dA, dB, dC, dD, dE, dF, dG, dH, dI, dJ, dL, dM, dN, dO, dP, dQ, dR, dS, dT, dU, dV, dW, dX, dY, dZ, eA, eB, eC, eE, eG, eH, eI, eJ, eK, eL, eM, eN, eO, eP, aA, eQ, eR, eS, eT, eU, eV, eW, eX, eY, eZ, fA, fB, fC, fE, fF, fG, fH, fI, fJ, fK, fL, fM, fN, fO, fP, fQ, fR, fS, fT, fU, fV, fW, fX, fY, Res.bind_ex, Res.bind_no, fZ, gA, Res.st_ex, Res.st_no, gB, gC, gD, gE, gF, gG, gH, gI, gJ, gK, List.set_cons_zero, List.set_cons_succ, List.length_cons, List.length_nil, List.map_cons, List.map_nil, List.replicate, List.cons_append, List.nil_append, Nat.reduceSub, Nat.reduceAdd, Nat.reduceLT, List.append_nil, if_true, if_false, Bool.false_eq_true, ite_true, ite_false, decide_true, decide_false, Bool.not_true, Bool.not_false, Bool.true_or, aA]
  | false =>
    have s := sq_loop (m := m) (Γ := callF ds (k + 1)) (b := .int b) (d := .int (splitN 40 (v - 1) 0).1) (e := .int (splitN 40 (v - 1) 0).2) (by omega) hv3 (rangeV 0 ((splitN 40 (v - 1) 0).2 - 1)) x none xlt
    rw [len_rangeV] at s
    have q6 : ((((splitN 40 (v - 1) 0).2 : Nat) : Int) - 1 - 0).toNat = (splitN 40 (v - 1) 0).2 - 1 := by omega
    simp only [aB, aC, aD, aE, aF, aG, aH, aI, aJ, aK, aL, aM, aN, aO, aP, aQ, aR, aS, aT, aU, aV, aW, aX, aY, aZ, bA, bB, bC, bD, bE, bF, bG, bH, bI, bJ, bK, bL, bM, bN, bO, bP, bQ, bR, bS, bT, bU, bV, bW, bX, bY, bZ, cA, cB, cC, cD, cE, cF, cG, cH, cI, cJ, cK, cL, cM, cN, cO, cP, cQ, cR, cS, cT, cU, cW, cX, cY, cZ, dA, dB, dC, dD, dE, dF, dG, dH, dI, dJ, dL, dM, dN, dO, dP, dQ, dR, dS, dT, dU, dV, dW, dX, dY, dZ, eA, eB, eC, eE, eG, eH, eI, eJ, eK, eL, eM, eN, eO, eP, aA, eQ, eR, eS, eT, eU, eV, eW, eX, eY, eZ, fA, fB, fC, fE, fF, fG, fH, fI, fJ, fK, fL, fM, fN, fO, fP, fQ, fR, fS, fT, fU, fV, fW, fX, fY, Res.bind_ex, Res.bind_no, fZ, gA, Res.st_ex, Res.st_no, gB, gC, gD, gE, gF, gG, gH, gI, gJ, gK, List.set_cons_zero, List.set_cons_succ, List.length_cons, List.length_nil, List.map_cons, List.map_nil, List.replicate, List.cons_append, List.nil_append, Nat.reduceSub, Nat.reduceAdd, Nat.reduceLT, List.append_nil, if_true, if_false, Bool.false_eq_true, ite_true, ite_false, decide_true, decide_false, Bool.not_true, Bool.not_false, Bool.false_or, srcRg_ii (show -(2 ^ 62) ≤ (0 : Int) by decide) (show (0 : Int) < 2 ^ 62 by decide) (show -(2 ^ 62) ≤ (((splitN 40 (v - 1) 0).2 : Nat) : Int) - 1 by omega) (show (((splitN 40 (v - 1) 0).2 : Nat) : Int) - 1 < 2 ^ 62 by omega), q6]
    cases hq : sqLoop ((splitN 40 (v - 1) 0).2 - 1) x v with
    | true => rw [s.1 hq]; simp only [aB, aC, aD, aE, aF, aG, aH, aI, aJ, aK, aL, aM, aN, aO, aP, aQ, aR, aS, aT, aU, aV, aW, aX, aY, aZ, bA, bB, bC, bD, bE, bF, bG, bH, bI, bJ, bK, bL, bM, bN, bO, bP, bQ, bR, bS, bT, bU, bV, bW, bX, bY, bZ, cA, cB, cC, cD, cE, cF, cG, cH, cI, cJ, cK, cL, cM, cN, cO, cP, cQ, cR, cS, cT, cU, cW, cX, cY, cZ, dA, dB, dC, dD, dE, dF, dG, dH, dI, dJ, dL, dM, dN, dO, dP, dQ, dR, dS, dT, dU, dV, dW, dX, dY, dZ, eA, eB, eC, eE, eG, eH, eI, eJ, eK, eL, eM, eN, eO, eP, aA, eQ, eR, eS, eT, eU, eV, eW, eX, eY, eZ, fA, fB, fC, fE, fF, fG, fH, fI, fJ, fK, fL, fM, fN, fO, fP, fQ, fR, fS, fT, fU, fV, fW, fX, fY, Res.bind_ex, Res.bind_no, fZ, gA, Res.st_ex, Res.st_no, gB, gC, gD, gE, gF, gG, gH, gI, gJ, gK, List.set_cons_zero, List.set_cons_succ, List.length_cons, List.length_nil, List.map_cons, List.map_nil, List.replicate, List.cons_append, List.nil_append, Nat.reduceSub, Nat.reduceAdd, Nat.reduceLT, List.append_nil, if_true, if_false, Bool.false_eq_true, ite_true, ite_false, decide_true, decide_false, Bool.not_true, Bool.not_false, aA]
    | false =>
      obtain ⟨η, s2⟩ := s.2 hq
      rw [s2]; simp only [aB, aC, aD, aE, aF, aG, aH, aI, aJ, aK, aL, aM, aN, aO, aP, aQ, aR, aS, aT, aU, aV, aW, aX, aY, aZ, bA, bB, bC, bD, bE, bF, bG, bH, bI, bJ, bK, bL, bM, bN, bO, bP, bQ, bR, bS, bT, bU, bV, bW, bX, bY, bZ, cA, cB, cC, cD, cE, cF, cG, cH, cI, cJ, cK, cL, cM, cN, cO, cP, cQ, cR, cS, cT, cU, cW, cX, cY, cZ, dA, dB, dC, dD, dE, dF, dG, dH, dI, dJ, dL, dM, dN, dO, dP, dQ, dR, dS, dT, dU, dV, dW, dX, dY, dZ, eA, eB, eC, eE, eG, eH, eI, eJ, eK, eL, eM, eN, eO, eP, aA, eQ, eR, eS, eT, eU, eV, eW, eX, eY, eZ, fA, fB, fC, fE, fF, fG, fH, fI, fJ, fK, fL, fM, fN, fO, fP, fQ, fR, fS, fT, fU, fV, fW, fX, fY, Res.bind_ex, Res.bind_no, fZ, gA, Res.st_ex, Res.st_no, gB, gC, gD, gE, gF, gG, gH, gI, gJ, gK, List.set_cons_zero, List.set_cons_succ, List.length_cons, List.length_nil, List.map_cons, List.map_nil, List.replicate, List.cons_append, List.nil_append, Nat.reduceSub, Nat.reduceAdd, Nat.reduceLT, List.append_nil, if_true, if_false, Bool.false_eq_true, ite_true, ite_false, decide_true, decide_false, Bool.not_true, Bool.not_false, aA]
def bPrime (jf jp : Nat) (mp bs : Str) : List St := [
  .iff (.not_ (.call jf [.var 0, .int 5, .gl mp (PV.int 2147483647)])) [.ret (some (.bl false))] [],
  .iff (.cmp .inn (.var 0) (.gl bs (PV.tup [PV.int 2, PV.int 3, PV.int 5, PV.int 7]))) [.ret (some (.bl true))] [],
  .iff (.bf .any [.pl (.cp [1] (.nm 1) (.sq (.gl bs (PV.tup [PV.int 2, PV.int 3, PV.int 5, PV.int 7]))) none (.cmp .eq (.bin .mod (.var 0) (.var 1)) (.int 0)))]) [.ret (some (.bl false))] [],
  .ret (some (.bf .all [.pl (.cp [1] (.nm 1) (.sq (.gl bs (PV.tup [PV.int 2, PV.int 3, PV.int 5, PV.int 7]))) none (.call jp [.var 0, .var 1]))]))]
def primeP (v : Nat) : Bool :=
  if v < 5 || 2147483647 < v then false
  else if v == 5 || v == 7 then true
  else if v % 2 == 0 || v % 3 == 0 || v % 5 == 0 || v % 7 == 0 then false
  else passP v 2 && passP v 3 && passP v 5 && passP v 7
theorem any_4 (m : Mem) (a b c d : Bool) : opBf m .any [.lst [.bl a, .bl b, .bl c, .bl d]] = .ok (.bl (a || b || c || d)) m := by
  cases a <;> cases b <;> cases c <;> cases d <;> rfl
theorem all_4 (m : Mem) (a b c d : Bool) : opBf m .all [.lst [.bl a, .bl b, .bl c, .bl d]] = .ok (.bl (a && b && c && d)) m := by
  cases a <;> cases b <;> cases c <;> cases d <;> rfl
theorem inn_4 (m : Mem) (x a b c d : Int) : opCmp m .inn (.int x) (.tup [.int a, .int b, .int c, .int d]) = .ok (.bl (decide (a = x) || (decide (b = x) || (decide (c = x) || decide (d = x))))) m := by
  simp [opCmp, asS, flat, eqF]
theorem src_4 (m : Mem) (a b c d : PV) : srcSq m (.tup [a, b, c, d]) = .ok ([a, b, c, d], []) m := rfl
theorem mod0 (v n : Nat) : decide ((v : Int) % (n : Int) = 0) = (v % n == 0) := by
  rw [← Int.natCast_emod]
  by_cases z : v % n = 0
  · rw [z]; rfl
  · rw [decide_eq_false (by omega)]; simp [z]
theorem prime_ok {i jf ji jp jr : Nat} {N Nf Ni Np Nr : List Str} {mp bs : Str} (hN : N.length = 2) (hNp : Np.length = 6) (hNr : Nr.length = 4) (h : ds[i]? = some ⟨N, 1, bPrime jf jp mp bs⟩) (hf : ds[jf]? = some ⟨Nf, 3, bFrom ji⟩) (hi : ds[ji]? = some ⟨Ni, 1, bInt⟩)
    (hp : ds[jp]? = some ⟨Np, 2, bPasses jr⟩) (hr : ds[jr]? = some ⟨Nr, 3, bRaised⟩) (v : Nat) : callF ds (k + 3) i [.int v] m = .ok (.bl (primeP v)) m := by
  rw [call_eq h]
  have f := fun (n : Int) => from_ok (k := k) (m := m) hf hi n 5 2147483647
  simp only [evDef, bPrime, hN, aB, aC, aD, aE, aF, aG, aH, aI, aJ, aK, aL, aM, aN, aO, aP, aQ, aR, aS, aT, aU, aV, aW, aX, aY, aZ, bA, bB, bC, bD, bE, bF, bG, bH, bI, bJ, bK, bL, bM, bN, bO, bP, bQ, bR, bS, bT, bU, bV, bW, bX, bY, bZ, cA, cB, cC, cD, cE, cF, cG, cH, cI, cJ, cK, cL, cM, cN, cO, cP, cQ, cR, cS, cT, cU, cW, cX, cY, cZ, dA, dB, dC, dD, dE, dF, dG, dH, dI, dJ, dL, dM, dN, dO, dP, dQ, dR, dS, dT, dU, dV, dW, dX, dY, dZ, eA, eB, eC, eE, eG, eH, eI, eJ, eK, eL, eM, eN, eO, eP, aA, eQ, eR, eS, eT, eU, eV, eW, eX, eY, eZ, fA, fB, fC, fE, fF, fG, fH, fI, fJ, fK, fL, fM, fN, fO, fP, fQ, fR, fS, fT, fU, fV, fW, fX, fY, Res.bind_ex, Res.bind_no, fZ, gA, Res.st_ex, Res.st_no, gB, gC, gD, gE, gF, gG, gH, gI, gJ, gK, List.set_cons_zero, List.set_cons_succ, List.length_cons, List.length_nil, List.map_cons, List.map_nil, List.replicate, List.cons_append, List.nil_append, Nat.reduceSub, Nat.reduceAdd, Nat.reduceLT, List.append_nil, if_true, if_false, Bool.false_eq_true, ite_true, ite_false, decide_true, decide_false, Bool.not_true, Bool.not_false, f]
  unfold primeP
  by_cases h1 : v < 5 ∨ 2147483647 < v
  · have e1 : (decide ((5 : Int) ≤ (v : Int)) && decide ((v : Int) ≤ 2147483647)) = false := by
      rcases h1 with h1 | h1
      · rw [decide_eq_false (by omega)]; rfl
      · rw [decide_eq_false (p := (v : Int) ≤ 2147483647) (by omega), Bool.and_false]
    have e2 : (decide (v < 5) || decide (2147483647 < v)) = true := by simpa using h1
    rw [if_pos e2]
    simp only [e1, aB, aC, aD, aE, aF, aG, aH, aI, aJ, aK, aL, aM, aN, aO, aP, aQ, aR, aS, aT, aU, aV, aW, aX, aY, aZ, bA, bB, bC, bD, bE, bF, bG, bH, bI, bJ, bK, bL, bM, bN, bO, bP, bQ, bR, bS, bT, bU, bV, bW, bX, bY, bZ, cA, cB, cC, cD, cE, cF, cG, cH, cI, cJ, cK, cL, cM, cN, cO, cP, cQ, cR, cS, cT, cU, cW, cX, cY, cZ, dA, dB, dC, dD, dE, dF, dG, dH, dI, dJ, dL, dM, dN, dO, dP, dQ, dR, dS, dT, dU, dV, dW, dX, dY, dZ, eA, eB, eC, eE, eG, eH, eI, eJ, eK, eL, eM, eN, eO, eP, aA, eQ, eR, eS, eT, eU, eV, eW, eX, eY, eZ, fA, fB, fC, fE, fF, fG, fH, fI, fJ, fK, fL, fM, fN, fO, fP, fQ, fR, fS, fT, fU, fV, fW, fX, fY, Res.bind_ex, Res.bind_no, fZ, gA, Res.st_ex, Res.st_no, gB, gC, gD, gE, gF, gG, gH, gI, gJ, gK, List.set_cons_zero, List.set_cons_succ, List.length_cons, List.length_nil, List.map_cons, List.map_nil, List.replicate, List.cons_append, List.nil_append, Nat.reduceSub, Nat.reduceAdd, Nat.reduceLT, List.append_nil, if_true, if_false, Bool.false_eq_true, ite_true, ite_false, decide_true, decide_false, Bool.not_true, Bool.not_false, aA]
  · have e1 : (decide ((5 : Int) ≤ (v : Int)) && decide ((v : Int) ≤ 2147483647)) = true := by
      rw [decide_eq_true (by omega), decide_eq_true (by omega)]; rfl
    have e2 : ¬ (decide (v < 5) || decide (2147483647 < v)) = true := by simpa using h1
    rw [if_neg e2]
    simp only [e1, aB, aC, aD, aE, aF, aG, aH, aI, aJ, aK, aL, aM, aN, aO, aP, aQ, aR, aS, aT, aU, aV, aW, aX, aY, aZ, bA, bB, bC, bD, bE, bF, bG, bH, bI, bJ, bK, bL, bM, bN, bO, bP, bQ, bR, bS, bT, bU, bV, bW, bX, bY, bZ, cA, cB, cC, cD, cE, cF, cG, cH, cI, cJ, cK, cL, cM, cN, cO, cP, cQ, cR, cS, cT, cU, cW, cX, cY, cZ, dA, dB, dC, dD, dE, dF, dG, dH, dI, dJ, dL, dM, dN, dO, dP, dQ, dR, dS, dT, dU, dV, dW, dX, dY, dZ, eA, eB, eC, eE, eG, eH, eI, eJ, eK, eL, eM, eN, eO, eP, aA, eQ, eR, eS, eT, eU, eV, eW, eX, eY, eZ, fA, fB, fC, fE, fF, fG, fH, fI, fJ, fK, fL, fM, fN, fO, fP, fQ, fR, fS, fT, fU, fV, fW, fX, fY, Res.bind_ex, Res.bind_no, fZ, gA, Res.st_ex, Res.st_no, gB, gC, gD, gE, gF, gG, gH, gI, gJ, gK, List.set_cons_zero, List.set_cons_succ, List.length_cons, List.length_nil, List.map_cons, List.map_nil, List.replicate, List.cons_append, List.nil_append, Nat.reduceSub, Nat.reduceAdd, Nat.reduceLT, List.append_nil, if_true, if_false, Bool.false_eq_true, ite_true, ite_false, decide_true, decide_false, Bool.not_true, Bool.not_false, inn_4]
    have e3 : (decide ((2 : Int) = (v : Int)) || (decide ((3 : Int) = (v : Int)) || (decide ((5 : Int) = (v : Int)) || decide ((7 : Int) = (v : Int))))) = (v == 5 || v == 7) := by
      rw [decide_eq_false (by omega), decide_eq_false (p := (3 : Int) = (v : Int)) (by omega), Bool.false_or, Bool.false_or]
      congr 1
      · by_cases z : v = 5
        · rw [z]; rfl
        · rw [decide_eq_false (by omega)]; simp [z]
      · by_cases z : v = 7
        · rw [z]; rfl
        · rw [decide_eq_false (by omega)]; simp [z]
    rw [e3]
    by_cases h3 : (v == 5 || v == 7) = true
    · rw [if_pos h3, h3]
      simp only [aB, aC, aD, aE, aF, aG, aH, aI, aJ, aK, aL, aM, aN, aO, aP, aQ, aR, aS, aT, aU, aV, aW, aX, aY, aZ, bA, bB, bC, bD, bE, bF, bG, bH, bI, bJ, bK, bL, bM, bN, bO, bP, bQ, bR, bS, bT, bU, bV, bW, bX, bY, bZ, cA, cB, cC, cD, cE, cF, cG, cH, cI, cJ, cK, cL, cM, cN, cO, cP, cQ, cR, cS, cT, cU, cW, cX, cY, cZ, dA, dB, dC, dD, dE, dF, dG, dH, dI, dJ, dL, dM, dN, dO, dP, dQ, dR, dS, dT, dU, dV, dW, dX, dY, dZ, eA, eB, eC, eE, eG, eH, eI, eJ, eK, eL, eM, eN, eO, eP, aA, eQ, eR, eS, eT, eU, eV, eW, eX, eY, eZ, fA, fB, fC, fE, fF, fG, fH, fI, fJ, fK, fL, fM, fN, fO, fP, fQ, fR, fS, fT, fU, fV, fW, fX, fY, Res.bind_ex, Res.bind_no, fZ, gA, Res.st_ex, Res.st_no, gB, gC, gD, gE, gF, gG, gH, gI, gJ, gK, List.set_cons_zero, List.set_cons_succ, List.length_cons, List.length_nil, List.map_cons, List.map_nil, List.replicate, List.cons_append, List.nil_append, Nat.reduceSub, Nat.reduceAdd, Nat.reduceLT, List.append_nil, if_true, if_false, Bool.false_eq_true, ite_true, ite_false, decide_true, decide_false, Bool.not_true, Bool.not_false, aA]
    · have h3' : (v == 5 || v == 7) = false := by simpa using h3
      rw [if_neg h3, h3']
      have m2 := mod0 v 2
      have m3 := mod0 v 3
      have m5 := mod0 v 5
      have m7 := mod0 v 7
      have p2 := passes_ok (k := k) (m := m) hNp hNr hp hr (v := v) (b := 2) (by omega) (by omega)
      have p3 := passes_ok (k := k) (m := m) hNp hNr hp hr (v := v) (b := 3) (by omega) (by omega)
      have p5 := passes_ok (k := k) (m := m) hNp hNr hp hr (v := v) (b := 5) (by omega) (by omega)
      have p7 := passes_ok (k := k) (m := m) hNp hNr hp hr (v := v) (b := 7) (by omega) (by omega)
      simp only [show (((2 : Nat)) : Int) = 2 from rfl, show (((3 : Nat)) : Int) = 3 from rfl, show (((5 : Nat)) : Int) = 5 from rfl, show (((7 : Nat)) : Int) = 7 from rfl] at m2 m3 m5 m7 p2 p3 p5 p7
      simp only [aB, aC, aD, aE, aF, aG, aH, aI, aJ, aK, aL, aM, aN, aO, aP, aQ, aR, aS, aT, aU, aV, aW, aX, aY, aZ, bA, bB, bC, bD, bE, bF, bG, bH, bI, bJ, bK, bL, bM, bN, bO, bP, bQ, bR, bS, bT, bU, bV, bW, bX, bY, bZ, cA, cB, cC, cD, cE, cF, cG, cH, cI, cJ, cK, cL, cM, cN, cO, cP, cQ, cR, cS, cT, cU, cW, cX, cY, cZ, dA, dB, dC, dD, dE, dF, dG, dH, dI, dJ, dL, dM, dN, dO, dP, dQ, dR, dS, dT, dU, dV, dW, dX, dY, dZ, eA, eB, eC, eE, eG, eH, eI, eJ, eK, eL, eM, eN, eO, eP, aA, eQ, eR, eS, eT, eU, eV, eW, eX, eY, eZ, fA, fB, fC, fE, fF, fG, fH, fI, fJ, fK, fL, fM, fN, fO, fP, fQ, fR, fS, fT, fU, fV, fW, fX, fY, Res.bind_ex, Res.bind_no, fZ, gA, Res.st_ex, Res.st_no, gB, gC, gD, gE, gF, gG, gH, gI, gJ, gK, List.set_cons_zero, List.set_cons_succ, List.length_cons, List.length_nil, List.map_cons, List.map_nil, List.replicate, List.cons_append, List.nil_append, Nat.reduceSub, Nat.reduceAdd, Nat.reduceLT, List.append_nil, if_true, if_false, Bool.false_eq_true, ite_true, ite_false, decide_true, decide_false, Bool.not_true, Bool.not_false, src_4, mod_ii (show (0 : Int) < 2 by decide), mod_ii (show (0 : Int) < 3 by decide), mod_ii (show (0 : Int) < 5 by decide), mod_ii (show (0 : Int) < 7 by decide), m2, m3, m5, m7, any_4, wipeP]
      cases h4 : (v % 2 == 0 || v % 3 == 0 || v % 5 == 0 || v % 7 == 0) with
      | true => simp only [aB, aC, aD, aE, aF, aG, aH, aI, aJ, aK, aL, aM, aN, aO, aP, aQ, aR, aS, aT, aU, aV, aW, aX, aY, aZ, bA, bB, bC, bD, bE, bF, bG, bH, bI, bJ, bK, bL, bM, bN, bO, bP, bQ, bR, bS, bT, bU, bV, bW, bX, bY, bZ, cA, cB, cC, cD, cE, cF, cG, cH, cI, cJ, cK, cL, cM, cN, cO, cP, cQ, cR, cS, cT, cU, cW, cX, cY, cZ, dA, dB, dC, dD, dE, dF, dG, dH, dI, dJ, dL, dM, dN, dO, dP, dQ, dR, dS, dT, dU, dV, dW, dX, dY, dZ, eA, eB, eC, eE, eG, eH, eI, eJ, eK, eL, eM, eN, eO, eP, aA, eQ, eR, eS, eT, eU, eV, eW, eX, eY, eZ, fA, fB, fC, fE, fF, fG, fH, fI, fJ, fK, fL, fM, fN, fO, fP, fQ, fR, fS, fT, fU, fV, fW, fX, fY, Res.bind_ex, Res.bind_no, fZ, gA, Res.st_ex, Res.st_no, gB, gC, gD, gE, gF, gG, gH, gI, gJ, gK, List.set_cons_zero, List.set_cons_succ, List.length_cons, List.length_nil, List.map_cons, List.map_nil, List.replicate, List.cons_append, List.nil_append, Nat.reduceSub, Nat.reduceAdd, Nat.reduceLT, List.append_nil, if_true, if_false, Bool.false_eq_true, ite_true, ite_false, decide_true, decide_false, Bool.not_true, Bool.not_false, aA]
      | false => simp only [aB, aC, aD, aE, aF, aG, aH, aI, aJ, aK, aL, aM, aN, aO, aP, aQ, aR, aS, aT, aU, aV, aW, aX, aY, aZ, bA, bB, bC, bD, bE, bF, bG, bH, bI, bJ, bK, bL, bM, bN, bO, bP, bQ, bR, bS, bT, bU, bV, bW, bX, bY, bZ, cA, cB, cC, cD, cE, cF, cG, cH, cI, cJ, cK, cL, cM, cN, cO, cP, cQ, cR, cS, cT, cU, cW, cX, cY, cZ, dA, dB, dC, dD, dE, dF, dG, dH, dI, dJ, dL, dM, dN, dO, dP, dQ, dR, dS, dT, dU, dV, dW, dX, dY, dZ, eA, eB, eC, eE, eG, eH, eI, eJ, eK, eL, eM, eN, eO, eP, aA, eQ, eR, eS, eT, eU, eV, eW, eX, eY, eZ, fA, fB, fC, fE, fF, fG, fH, fI, fJ, fK, fL, fM, fN, fO, fP, fQ, fR, fS, fT, fU, fV, fW, fX, fY, Res.bind_ex, Res.bind_no, fZ, gA, Res.st_ex, Res.st_no, gB, gC, gD, gE, gF, gG, gH, gI, gJ, gK, List.set_cons_zero, List.set_cons_succ, List.length_cons, List.length_nil, List.map_cons, List.map_nil, List.replicate, List.cons_append, List.nil_append, Nat.reduceSub, Nat.reduceAdd, Nat.reduceLT, List.append_nil, if_true, if_false, Bool.false_eq_true, ite_true, ite_false, decide_true, decide_false, Bool.not_true, Bool.not_false, src_4, p2, p3, p5, p7, all_4, wipeP, aA]
end
end Px
set_option Elab.async false
set_option linter.all false
set_option maxRecDepth 100000
set_option maxHeartbeats 1000000
namespace Px
open PySem
section
variable {ds : List Def} {k : Nat} {m : Mem} {rest : Mem}
def Row (ns : List Int) (x : Ob) : Prop := ∃ i s c : Int, x = .lst [.scr ns, .int i, .int s, .int c] ∧ 0 ≤ i ∧ 0 ≤ s ∧ s < 2147483648
theorem rg_0 (a b c d : PV) : opIdx (.lst [a, b, c, d] :: rest) (.loc 0) (.int 0) = .ok a (.lst [a, b, c, d] :: rest) := rfl
theorem rg_1 (a b c d : PV) : opIdx (.lst [a, b, c, d] :: rest) (.loc 0) (.int 1) = .ok b (.lst [a, b, c, d] :: rest) := rfl
theorem rg_2 (a b c d : PV) : opIdx (.lst [a, b, c, d] :: rest) (.loc 0) (.int 2) = .ok c (.lst [a, b, c, d] :: rest) := rfl
theorem rg_3 (a b c d : PV) : opIdx (.lst [a, b, c, d] :: rest) (.loc 0) (.int 3) = .ok d (.lst [a, b, c, d] :: rest) := rfl
theorem rp_1 (η : Env) (a b c d v : PV) : putP η (.lst [a, b, c, d] :: rest) (.loc 0) (.int 1) v = .ok η (.lst [a, v, c, d] :: rest) := rfl
theorem rp_2 (η : Env) (a b c d v : PV) : putP η (.lst [a, b, c, d] :: rest) (.loc 0) (.int 2) v = .ok η (.lst [a, b, v, d] :: rest) := rfl
theorem rp_3 (η : Env) (a b c d v : PV) : putP η (.lst [a, b, c, d] :: rest) (.loc 0) (.int 3) v = .ok η (.lst [a, b, c, v] :: rest) := rfl
theorem len_scr (m : Mem) (ns : List Int) : opBf m .len [.scr ns] = .ok (.int ns.length) m := rfl
theorem ix_scr {m : Mem} {ns : List Int} {j : Int} (h0 : 0 ≤ j) (h : j < ns.length) : ∃ z, opIdx m (.scr ns) (.int j) = .ok (.int z) m := by
  have hj : j.toNat < ns.length := by omega
  have e := L2.atI_nat (List.getElem?_eq_getElem hj)
  rw [show ((j.toNat : Nat) : Int) = j from by omega] at e
  refine ⟨ns[j.toNat], ?_⟩
  show (match L2.atI ns j with
        | some k => Res.ok (PV.int k) m
        | none => .no) = _
  rw [e]
def bTaken : List St := [
  .iff (.cmp .gt (.idx (.var 0) (.int 3)) (.int 0)) [.asg (.nm 2) (.bin .mod (.bf .int [.idx (.var 0) (.int 3)]) (.var 1)), .asg (.ix (.var 0) (.int 3)) (.bin .fdv (.idx (.var 0) (.int 3)) (.var 1)), .ret (some (.var 2))] [],
  .asg (.ix (.var 0) (.int 1)) (.bin .add (.idx (.var 0) (.int 1)) (.int 1)),
  .iff (.cmp .gt (.idx (.var 0) (.int 1)) (.bf .len [.idx (.var 0) (.int 0)])) [.asg (.ix (.var 0) (.int 2)) (.bin .mod (.bf .int [.bin .add (.bin .mul (.idx (.var 0) (.int 2)) (.int 48271)) (.int 11)]) (.int 2147483647)), .ret (some (.bin .mod (.bf .int [.bin .fdv (.idx (.var 0) (.int 2)) (.int 7)]) (.var 1)))] [],
  .asg (.nm 3) (.idx (.idx (.var 0) (.int 0)) (.bin .sub (.idx (.var 0) (.int 1)) (.int 1))),
  .asg (.ix (.var 0) (.int 2)) (.bin .mod (.bf .int [.bin .add (.bin .add (.bin .mul (.idx (.var 0) (.int 2)) (.int 48271)) (.var 3)) (.int 11)]) (.int 2147483647)),
  .iff (.cmp .ge (.var 3) (.bin .pow (.int 10) (.int 18))) [.asg (.ix (.var 0) (.int 3)) (.bin .fdv (.var 3) (.var 1))] [],
  .ret (some (.bin .mod (.bf .int [.var 3]) (.var 1)))]
theorem gcP_row (x x' : Ob) (v : PV) : gcP (x :: rest) (.ok v (x' :: rest)) = .ok v (x' :: rest) := gcP_same rfl
theorem taken_ok {i : Nat} {N : List Str} (hN : N.length = 4) (h : ds[i]? = some ⟨N, 2, bTaken⟩) {ns : List Int} {x : Ob} (hx : Row ns x) {many : Int} (h0 : 0 < many) (h1 : many < 18446744073709551616) :
    ∃ (v : Int) (x' : Ob), callF ds (k + 1) i [.loc 0, .int many] (x :: rest) = .ok (.int v) (x' :: rest) ∧ Row ns x' ∧ 0 ≤ v ∧ v < many := by
  obtain ⟨a, s, c, rfl, ha, hs, hs2⟩ := hx
  rw [call_eq h]
  have hlog : many.natAbs.log2 < 9000 := by
    have := natCast_log (a := many.natAbs) (b := 64) (by omega) (by omega)
    rw [Int.natAbs_natCast] at this; omega
  have hm : s.natAbs.log2 + (48271 : Int).natAbs.log2 < 1000000 := by
    have h2 := natCast_log (a := s.natAbs) (b := 64) (by omega) (by omega)
    rw [Int.natAbs_natCast] at h2
    have h3 : (48271 : Int).natAbs.log2 < 64 := by decide
    omega
  have p7 : (0 : Int) < 7 := by decide
  have l7 : (7 : Int).natAbs.log2 < 9000 := by decide
  have pM : (0 : Int) < 2147483647 := by decide
  have hp : opBin (.lst [.scr ns, .int (a + 1), .int ((s * 48271 + 0 + 11) % 2147483647), .int c] :: rest) .pow (.int 10) (.int 18) = .ok (.int 1000000000000000000) (.lst [.scr ns, .int (a + 1), .int ((s * 48271 + 0 + 11) % 2147483647), .int c] :: rest) := pow_ii (by decide)
  by_cases hc : 0 < c
  · refine ⟨c % many, _, ?_, ⟨a, s, c / many, rfl, ha, hs, hs2⟩, Int.emod_nonneg _ (by omega), Int.emod_lt_of_pos _ h0⟩
    simp only [evDef, bTaken, hN, aB, aC, aD, aE, aF, aG, aH, aI, aJ, aK, aL, aM, aN, aO, aP, aQ, aR, aS, aT, aU, aV, aW, aX, aY, aZ, bA, bB, bC, bD, bE, bF, bG, bH, bI, bJ, bK, bL, bM, bN, bO, bP, bQ, bR, bS, bT, bU, bV, bW, bX, bY, bZ, cA, cB, cC, cD, cE, cF, cG, cH, cI, cJ, cK, cL, cM, cN, cO, cP, cQ, cR, cS, cT, cU, cW, cX, cY, cZ, dA, dB, dC, dD, dE, dF, dG, dH, dI, dJ, dL, dM, dN, dO, dP, dQ, dR, dS, dT, dU, dV, dW, dX, dY, dZ, eA, eB, eC, eE, eG, eH, eI, eJ, eK, eL, eM, eN, eO, eP, aA, eQ, eR, eS, eT, eU, eV, eW, eX, eY, eZ, fA, fB, fC, fE, fF, fG, fH, fI, fJ, fK, fL, fM, fN, fO, fP, fQ, fR, fS, fT, fU, fV, fW, fX, fY, Res.bind_ex, Res.bind_no, fZ, gA, Res.st_ex, Res.st_no, gB, gC, gD, gE, gF, gG, gH, gI, gJ, gK, List.set_cons_zero, List.set_cons_succ, List.length_cons, List.length_nil, List.map_cons, List.map_nil, List.replicate, List.cons_append, List.nil_append, Nat.reduceSub, Nat.reduceAdd, Nat.reduceLT, List.append_nil, if_true, if_false, Bool.false_eq_true, ite_true, ite_false, decide_true, decide_false, Bool.not_true, Bool.not_false, rg_0, rg_1, rg_2, rg_3, rp_1, rp_2, rp_3, hc, mod_ii h0, fdv_ii h0 hlog, gcP_row]
  · by_cases hl : (ns.length : Int) < a + 1
    · refine ⟨((s * 48271 + 11) % 2147483647 / 7) % many, _, ?_, ⟨a + 1, (s * 48271 + 11) % 2147483647, c, rfl, by omega, Int.emod_nonneg _ (by omega), by omega⟩, Int.emod_nonneg _ (by omega), Int.emod_lt_of_pos _ h0⟩
      simp only [evDef, bTaken, hN, aB, aC, aD, aE, aF, aG, aH, aI, aJ, aK, aL, aM, aN, aO, aP, aQ, aR, aS, aT, aU, aV, aW, aX, aY, aZ, bA, bB, bC, bD, bE, bF, bG, bH, bI, bJ, bK, bL, bM, bN, bO, bP, bQ, bR, bS, bT, bU, bV, bW, bX, bY, bZ, cA, cB, cC, cD, cE, cF, cG, cH, cI, cJ, cK, cL, cM, cN, cO, cP, cQ, cR, cS, cT, cU, cW, cX, cY, cZ, dA, dB, dC, dD, dE, dF, dG, dH, dI, dJ, dL, dM, dN, dO, dP, dQ, dR, dS, dT, dU, dV, dW, dX, dY, dZ, eA, eB, eC, eE, eG, eH, eI, eJ, eK, eL, eM, eN, eO, eP, aA, eQ, eR, eS, eT, eU, eV, eW, eX, eY, eZ, fA, fB, fC, fE, fF, fG, fH, fI, fJ, fK, fL, fM, fN, fO, fP, fQ, fR, fS, fT, fU, fV, fW, fX, fY, Res.bind_ex, Res.bind_no, fZ, gA, Res.st_ex, Res.st_no, gB, gC, gD, gE, gF, gG, gH, gI, gJ, gK, List.set_cons_zero, List.set_cons_succ, List.length_cons, List.length_nil, List.map_cons, List.map_nil, List.replicate, List.cons_append, List.nil_append, Nat.reduceSub, Nat.reduceAdd, Nat.reduceLT, List.append_nil, if_true, if_false, Bool.false_eq_true, ite_true, ite_false, decide_true, decide_false, Bool.not_true, Bool.not_false, rg_0, rg_1, rg_2, rg_3, rp_1, rp_2, rp_3, hc, len_scr, hl, mul_ii hm, mod_ii pM, mod_ii h0, fdv_ii p7 l7, gcP_row]
    · obtain ⟨z, hz⟩ := ix_scr (m := .lst [.scr ns, .int (a + 1), .int s, .int c] :: rest) (ns := ns) (j := a + 1 - 1) (by omega) (by omega)
      have hpw : ∀ m : Mem, opBin m .pow (.int 10) (.int 18) = .ok (.int 1000000000000000000) m := fun m => pow_ii (by decide)
      by_cases hzz : (1000000000000000000 : Int) ≤ z
      · refine ⟨z % many, _, ?_, ⟨a + 1, (s * 48271 + z + 11) % 2147483647, z / many, rfl, by omega, Int.emod_nonneg _ (by omega), by omega⟩, Int.emod_nonneg _ (by omega), Int.emod_lt_of_pos _ h0⟩
        simp only [evDef, bTaken, hN, aB, aC, aD, aE, aF, aG, aH, aI, aJ, aK, aL, aM, aN, aO, aP, aQ, aR, aS, aT, aU, aV, aW, aX, aY, aZ, bA, bB, bC, bD, bE, bF, bG, bH, bI, bJ, bK, bL, bM, bN, bO, bP, bQ, bR, bS, bT, bU, bV, bW, bX, bY, bZ, cA, cB, cC, cD, cE, cF, cG, cH, cI, cJ, cK, cL, cM, cN, cO, cP, cQ, cR, cS, cT, cU, cW, cX, cY, cZ, dA, dB, dC, dD, dE, dF, dG, dH, dI, dJ, dL, dM, dN, dO, dP, dQ, dR, dS, dT, dU, dV, dW, dX, dY, dZ, eA, eB, eC, eE, eG, eH, eI, eJ, eK, eL, eM, eN, eO, eP, aA, eQ, eR, eS, eT, eU, eV, eW, eX, eY, eZ, fA, fB, fC, fE, fF, fG, fH, fI, fJ, fK, fL, fM, fN, fO, fP, fQ, fR, fS, fT, fU, fV, fW, fX, fY, Res.bind_ex, Res.bind_no, fZ, gA, Res.st_ex, Res.st_no, gB, gC, gD, gE, gF, gG, gH, gI, gJ, gK, List.set_cons_zero, List.set_cons_succ, List.length_cons, List.length_nil, List.map_cons, List.map_nil, List.replicate, List.cons_append, List.nil_append, Nat.reduceSub, Nat.reduceAdd, Nat.reduceLT, List.append_nil, if_true, if_false, Bool.false_eq_true, ite_true, ite_false, decide_true, decide_false, Bool.not_true, Bool.not_false, rg_0, rg_1, rg_2, rg_3, rp_1, rp_2, rp_3, hc, len_scr, hl, hz, mul_ii hm, mod_ii pM, mod_ii h0, fdv_ii h0 hlog, hpw, hzz, gcP_row]
      · refine ⟨z % many, _, ?_, ⟨a + 1, (s * 48271 + z + 11) % 2147483647, c, rfl, by omega, Int.emod_nonneg _ (by omega), by omega⟩, Int.emod_nonneg _ (by omega), Int.emod_lt_of_pos _ h0⟩
        simp only [evDef, bTaken, hN, aB, aC, aD, aE, aF, aG, aH, aI, aJ, aK, aL, aM, aN, aO, aP, aQ, aR, aS, aT, aU, aV, aW, aX, aY, aZ, bA, bB, bC, bD, bE, bF, bG, bH, bI, bJ, bK, bL, bM, bN, bO, bP, bQ, bR, bS, bT, bU, bV, bW, bX, bY, bZ, cA, cB, cC, cD, cE, cF, cG, cH, cI, cJ, cK, cL, cM, cN, cO, cP, cQ, cR, cS, cT, cU, cW, cX, cY, cZ, dA, dB, dC, dD, dE, dF, dG, dH, dI, dJ, dL, dM, dN, dO, dP, dQ, dR, dS, dT, dU, dV, dW, dX, dY, dZ, eA, eB, eC, eE, eG, eH, eI, eJ, eK, eL, eM, eN, eO, eP, aA, eQ, eR, eS, eT, eU, eV, eW, eX, eY, eZ, fA, fB, fC, fE, fF, fG, fH, fI, fJ, fK, fL, fM, fN, fO, fP, fQ, fR, fS, fT, fU, fV, fW, fX, fY, Res.bind_ex, Res.bind_no, fZ, gA, Res.st_ex, Res.st_no, gB, gC, gD, gE, gF, gG, gH, gI, gJ, gK, List.set_cons_zero, List.set_cons_succ, List.length_cons, List.length_nil, List.map_cons, List.map_nil, List.replicate, List.cons_append, List.nil_append, Nat.reduceSub, Nat.reduceAdd, Nat.reduceLT, List.append_nil, if_true, if_false, Bool.false_eq_true, ite_true, ite_false, decide_true, decide_false, Bool.not_true, Bool.not_false, rg_0, rg_1, rg_2, rg_3, rp_1, rp_2, rp_3, hc, len_scr, hl, hz, mul_ii hm, mod_ii pM, mod_ii h0, fdv_ii h0 hlog, hpw, hzz, gcP_row]
def bPick (j : Nat) : List St := [.ret (some (.idx (.var 1) (.call j [.var 0, .bf .len [.var 1]])))]
theorem ix_lst {m : Mem} {xs : List PV} {j : Int} (h0 : 0 ≤ j) (h : j < xs.length) : ∃ z, z ∈ xs ∧ opIdx m (.lst xs) (.int j) = .ok z m := by
  have hj : j.toNat < xs.length := by omega
  have e := L2.atI_nat (List.getElem?_eq_getElem hj)
  rw [show ((j.toNat : Nat) : Int) = j from by omega] at e
  refine ⟨xs[j.toNat], List.getElem_mem hj, ?_⟩
  show (match L2.atI xs j with
        | some k => Res.ok k m
        | none => .no) = _
  rw [e]
theorem len_lst (m : Mem) (xs : List PV) : opBf m .len [.lst xs] = .ok (.int xs.length) m := rfl
theorem pick_ok {i j : Nat} {N N' : List Str} (hN : N.length = 2) (hN' : N'.length = 4) (h : ds[i]? = some ⟨N, 2, bPick j⟩) (hj : ds[j]? = some ⟨N', 2, bTaken⟩) {ns : List Int} {x : Ob} (hx : Row ns x) {xs : List PV} (h0 : 0 < xs.length) (h1 : xs.length < 1000000) :
    ∃ (v : PV) (x' : Ob), callF ds (k + 2) i [.loc 0, .lst xs] (x :: rest) = .ok v (x' :: rest) ∧ Row ns x' ∧ v ∈ xs := by
  obtain ⟨v, x', e, hr, hv0, hv1⟩ := taken_ok (k := k) (rest := rest) hN' hj hx (many := xs.length) (by omega) (by omega)
  obtain ⟨z, hz, e2⟩ := ix_lst (m := x' :: rest) hv0 hv1
  refine ⟨z, x', ?_, hr, hz⟩
  rw [call_eq h]
  simp only [evDef, bPick, hN, aB, aC, aD, aE, aF, aG, aH, aI, aJ, aK, aL, aM, aN, aO, aP, aQ, aR, aS, aT, aU, aV, aW, aX, aY, aZ, bA, bB, bC, bD, bE, bF, bG, bH, bI, bJ, bK, bL, bM, bN, bO, bP, bQ, bR, bS, bT, bU, bV, bW, bX, bY, bZ, cA, cB, cC, cD, cE, cF, cG, cH, cI, cJ, cK, cL, cM, cN, cO, cP, cQ, cR, cS, cT, cU, cW, cX, cY, cZ, dA, dB, dC, dD, dE, dF, dG, dH, dI, dJ, dL, dM, dN, dO, dP, dQ, dR, dS, dT, dU, dV, dW, dX, dY, dZ, eA, eB, eC, eE, eG, eH, eI, eJ, eK, eL, eM, eN, eO, eP, aA, eQ, eR, eS, eT, eU, eV, eW, eX, eY, eZ, fA, fB, fC, fE, fF, fG, fH, fI, fJ, fK, fL, fM, fN, fO, fP, fQ, fR, fS, fT, fU, fV, fW, fX, fY, Res.bind_ex, Res.bind_no, fZ, gA, Res.st_ex, Res.st_no, gB, gC, gD, gE, gF, gG, gH, gI, gJ, gK, List.set_cons_zero, List.set_cons_succ, List.length_cons, List.length_nil, List.map_cons, List.map_nil, List.replicate, List.cons_append, List.nil_append, Nat.reduceSub, Nat.reduceAdd, Nat.reduceLT, List.append_nil, if_true, if_false, Bool.false_eq_true, ite_true, ite_false, decide_true, decide_false, Bool.not_true, Bool.not_false, len_lst, e, e2, gcP_row]
theorem isi_int (m : Mem) (n : Int) (c : String) (b : Bool) (h : isTy "int" c = some b) : opBf m .isi [.int n, .ty c] = .ok (.bl b) m := by
  show (match some "int" with
    | some t => match isTy t c with
      | some b => Res.ok (PV.bl b) m
      | none => .no
    | none => .no) = _
  simp only [h]
theorem isi_bl (m : Mem) (n : Bool) (c : String) (b : Bool) (h : isTy "bool" c = some b) : opBf m .isi [.bl n, .ty c] = .ok (.bl b) m := by
  show (match some "bool" with
    | some t => match isTy t c with
      | some b => Res.ok (PV.bl b) m
      | none => .no
    | none => .no) = _
  simp only [h]
theorem isi_int_tl (m : Mem) (n : Int) : opBf m .isi [.int n, .tup [.ty "tuple", .ty "list"]] = .ok (.bl false) m := rfl
theorem isi_bl_tl (m : Mem) (n : Bool) : opBf m .isi [.bl n, .tup [.ty "tuple", .ty "list"]] = .ok (.bl false) m := rfl
theorem t_ii : isTy "int" "int" = some true := by decide
theorem t_ib : isTy "int" "bool" = some false := by decide
theorem t_is : isTy "int" "str" = some false := by decide
theorem t_id : isTy "int" "dict" = some false := by decide
theorem t_bi : isTy "bool" "int" = some true := by decide
theorem t_bb : isTy "bool" "bool" = some true := by decide
theorem t_bs : isTy "bool" "str" = some false := by decide
theorem t_bd : isTy "bool" "dict" = some false := by decide
end
end Px
set_option Elab.async false
set_option linter.all false
set_option maxRecDepth 100000
set_option maxHeartbeats 1000000
namespace Px
def spF1 : Nat → Nat → Nat → Nat × Nat
  | 0, t, s => (t, s)
  | n + 1, t, s => match Nat.beq (t % 2) 0 with
    | true => spF1 n (t / 2) (s + 1)
    | false => (t, s)
def sqF1 : Nat → Nat → Nat → Nat → Bool
  | 0, _, _, _ => false
  | n + 1, x, v, w => match Nat.beq (x * x % v) w with
    | true => true
    | false => sqF1 n (x * x % v) v w
def pwF1 (x s v w : Nat) : Bool := match Nat.beq x 1 with
  | true => true
  | false => match Nat.beq x w with
    | true => true
    | false => sqF1 (s - 1) x v w
def psF1 (q : Nat × Nat) (v b : Nat) : Bool := pwF1 (b ^ q.1 % v) q.2 v (v - 1)
def an4 (a b c d : Bool) : Bool := match a with
  | false => false
  | true => match b with
    | false => false
    | true => match c with
      | false => false
      | true => d
def tdF1 : Nat → Nat → Nat → Bool
  | 0, _, _ => true
  | n + 1, i, v => match Nat.ble v i with
    | true => true
    | false => match Nat.beq (v % i) 0 with
      | true => false
      | false => tdF1 n (i + 1) v
end Px
set_option Elab.async false
set_option linter.all false
set_option maxRecDepth 100000
set_option maxHeartbeats 1000000
namespace Px
def IsP (p : Nat) : Prop := 1 < p ∧ ∀ d, 1 < d → d < p → p % d ≠ 0
theorem IsP.cop {p x : Nat} (h : IsP p) (hx : ¬ p ∣ x) : Nat.Coprime p x := by
  have h1 : Nat.gcd p x ∣ p := Nat.gcd_dvd_left p x
  have h2 : Nat.gcd p x ∣ x := Nat.gcd_dvd_right p x
  have h0 : 0 < Nat.gcd p x := Nat.gcd_pos_of_pos_left _ (by have := h.1; omega)
  have hle : Nat.gcd p x ≤ p := Nat.le_of_dvd (by have := h.1; omega) h1
  by_cases e1 : Nat.gcd p x = 1
  · exact e1
  · by_cases e2 : Nat.gcd p x = p
    · rw [e2] at h2; exact absurd h2 hx
    · exact absurd (Nat.mod_eq_zero_of_dvd h1) (h.2 _ (by omega) (by omega))
theorem IsP.euclid {p x y : Nat} (h : IsP p) (hx : ¬ p ∣ x) (hd : p ∣ x * y) : p ∣ y := (h.cop hx).dvd_of_dvd_mul_left hd
theorem mod_dvd {p a b : Nat} (e : a % p = b % p) : p ∣ b - a := Nat.dvd_of_mod_eq_zero (Nat.sub_mod_eq_zero_of_mod_eq e.symm)
theorem dvd_mod {p a b : Nat} (h : a ≤ b) (d : p ∣ b - a) : a % p = b % p := by
  obtain ⟨c, hc⟩ := d
  have : b = a + p * c := by omega
  rw [this, Nat.add_mul_mod_self_left]
theorem perm_of : ∀ {A B : List Nat}, A.Nodup → A ⊆ B → A.length = B.length → A.Perm B
  | [], B, _, _, hl => by
    have : B = [] := List.length_eq_zero_iff.mp hl.symm
    subst this; exact .nil
  | x :: A, B, hn, hs, hl => by
    have hx : x ∈ B := hs List.mem_cons_self
    have q := List.nodup_cons.mp hn
    have ih := perm_of (A := A) (B := B.erase x) q.2 (fun y hy => (List.mem_erase_of_ne (fun e => q.1 (by rw [← e]; exact hy))).mpr (hs (List.mem_cons_of_mem _ hy))) (by
      rw [List.length_erase_of_mem hx]; rw [List.length_cons] at hl; omega)
    exact (ih.cons x).trans (List.perm_cons_erase hx).symm
def prd : List Nat → Nat
  | [] => 1
  | x :: r => x * prd r
theorem prd_perm {A B : List Nat} (h : A.Perm B) : prd A = prd B := by
  induction h with
  | nil => rfl
  | cons x _ ih => simp only [prd, ih]
  | swap x y l => simp only [prd]; rw [← Nat.mul_assoc, ← Nat.mul_assoc, Nat.mul_comm x y]
  | trans _ _ i1 i2 => exact i1.trans i2
theorem prd_map (a p : Nat) : ∀ L : List Nat, prd (L.map fun i => a * i % p) % p = a ^ L.length * prd L % p
  | [] => by simp [prd]
  | x :: r => by
    simp only [List.map_cons, prd, List.length_cons, Nat.pow_succ]
    rw [Nat.mul_mod, prd_map a p r, Nat.mod_mod, ← Nat.mul_mod]
    congr 1
    rw [Nat.mul_assoc (a ^ r.length) a, Nat.mul_comm (a ^ r.length) (a * (x * prd r)), Nat.mul_assoc a x, Nat.mul_assoc a, Nat.mul_assoc x, Nat.mul_comm (prd r)]
theorem IsP.prd {p : Nat} (h : IsP p) : ∀ L : List Nat, (∀ x ∈ L, ¬ p ∣ x) → ¬ p ∣ prd L
  | [], _ => fun z => by have := Nat.le_of_dvd (by decide) z; have := h.1; simp [Px.prd] at *; omega
  | x :: r, hL => fun z => IsP.prd h r (fun y hy => hL y (List.mem_cons_of_mem _ hy)) (h.euclid (hL x List.mem_cons_self) z)
theorem flt {p a : Nat} (h : IsP p) (ha : ¬ p ∣ a) : a ^ (p - 1) % p = 1 := by
  have h1 := h.1
  have mem : ∀ i, i ∈ (List.range (p - 1)).map (· + 1) ↔ 0 < i ∧ i < p := fun i => by
    simp only [List.mem_map, List.mem_range]
    constructor
    · rintro ⟨j, hj, rfl⟩; omega
    · intro hi; exact ⟨i - 1, by omega, by omega⟩
  have nd : ((List.range (p - 1)).map (· + 1)).Nodup := by
    rw [List.nodup_iff_pairwise_ne, List.pairwise_map]
    exact (List.nodup_iff_pairwise_ne.mp List.nodup_range).imp fun e z => e (by omega)
  have nod : ∀ i, i ∈ (List.range (p - 1)).map (· + 1) → ¬ p ∣ i := fun i hi z => by
    have := Nat.le_of_dvd ((mem i).mp hi).1 z
    have := ((mem i).mp hi).2
    omega
  have nd2 : (((List.range (p - 1)).map (· + 1)).map fun i => a * i % p).Nodup := by
    rw [List.nodup_iff_pairwise_ne, List.pairwise_map]
    have q := List.nodup_iff_pairwise_ne.mp nd
    refine List.Pairwise.imp_of_mem (fun {i j} hi hj e z => e ?_) q
    have hi' := (mem i).mp hi
    have hj' := (mem j).mp hj
    rcases Nat.le_total i j with l | l
    · have d : p ∣ a * (j - i) := by
        rw [Nat.mul_sub]
        exact mod_dvd z
      have d2 := h.euclid ha d
      by_cases e0 : j - i = 0
      · omega
      · have := Nat.le_of_dvd (by omega) d2; omega
    · have d : p ∣ a * (i - j) := by
        rw [Nat.mul_sub]
        exact mod_dvd z.symm
      have d2 := h.euclid ha d
      by_cases e0 : i - j = 0
      · omega
      · have := Nat.le_of_dvd (by omega) d2; omega
  have P := perm_of nd2 (B := (List.range (p - 1)).map (· + 1)) (fun y hy => by
    obtain ⟨i, hi, rfl⟩ := List.mem_map.mp hy
    refine (mem _).mpr ⟨?_, Nat.mod_lt _ (by omega)⟩
    rcases Nat.eq_zero_or_pos (a * i % p) with z | z
    · exact absurd (h.euclid ha (Nat.dvd_of_mod_eq_zero z)) (nod i hi)
    · exact z) (by rw [List.length_map])
  have e := prd_map a p ((List.range (p - 1)).map (· + 1))
  rw [prd_perm P, List.length_map, List.length_range] at e
  have np := h.prd _ nod
  generalize prd ((List.range (p - 1)).map (· + 1)) = Q at e np
  have hpos : 0 < a ^ (p - 1) := Nat.pow_pos (Nat.pos_of_ne_zero fun z => ha (by rw [z]; exact Nat.dvd_zero p))
  have d : p ∣ Q * (a ^ (p - 1) - 1) := by
    rw [Nat.mul_sub, Nat.mul_one, Nat.mul_comm]
    exact mod_dvd e
  have d2 := h.euclid np d
  have e3 : (a ^ (p - 1)) % p = 1 % p := (dvd_mod hpos d2).symm
  rw [e3, Nat.mod_eq_of_lt h1]
end Px
set_option Elab.async false
set_option linter.all false
set_option maxRecDepth 100000
set_option maxHeartbeats 1000000
namespace Px
theorem tdF1_ok : ∀ (n i v : Nat), tdF1 n i v = true → ∀ d, i ≤ d → d < i + n → d < v → v % d ≠ 0
  | 0, i, v, _, d, h1, h2, _ => by omega
  | n + 1, i, v, h, d, h1, h2, h3 => by
    simp only [tdF1] at h
    split at h
    · rename_i e
      have := Nat.le_of_ble_eq_true e
      omega
    · split at h
      · cases h
      · rename_i e
        by_cases hd : d = i
        · subst hd
          intro z
          rw [z] at e; cases e
        · exact tdF1_ok n (i + 1) v h d (by omega) (by omega) h3
theorem isP_of {p n : Nat} (h1 : 1 < p) (h : tdF1 n 2 p = true) (hn : p < (n + 2) * (n + 2)) : IsP p := by
  refine ⟨h1, fun d d1 d2 z => ?_⟩
  by_cases hd : d < n + 2
  · exact tdF1_ok n 2 p h d (by omega) (by omega) d2 z
  · have e : p / d * d = p := Nat.div_mul_cancel (Nat.dvd_of_mod_eq_zero z)
    have l : p / d < n + 2 := by
      rcases Nat.lt_or_ge (p / d) (n + 2) with q | q
      · exact q
      · have := Nat.mul_le_mul q (show n + 2 ≤ d by omega)
        omega
    have g1 : 1 < p / d := by
      rcases Nat.lt_or_ge 1 (p / d) with q | q
      · exact q
      · have : p / d * d ≤ 1 * d := Nat.mul_le_mul_right d q
        omega
    have g2 : p / d < p := Nat.div_lt_self (by omega) d1
    exact tdF1_ok n 2 p h (p / d) (by omega) (by omega) g2 (Nat.mod_eq_zero_of_dvd ⟨d, e.symm⟩)
theorem pr_5 : IsP 5 := isP_of (n := 10) (by decide) (by decide +kernel) (by decide)
theorem pr_7 : IsP 7 := isP_of (n := 10) (by decide) (by decide +kernel) (by decide)
theorem pr_11 : IsP 11 := isP_of (n := 10) (by decide) (by decide +kernel) (by decide)
theorem pr_13 : IsP 13 := isP_of (n := 10) (by decide) (by decide +kernel) (by decide)
theorem pr_101 : IsP 101 := isP_of (n := 10) (by decide) (by decide +kernel) (by decide)
theorem pr_65537 : IsP 65537 := isP_of (n := 260) (by decide) (by decide +kernel) (by decide)
theorem pr_M : IsP 2147483647 := isP_of (n := 46400) (by decide) (by decide +kernel) (by decide)
def pmF1 : Nat → Nat → Nat → Nat → Nat → Nat
  | 0, _, f, _, _ => f
  | n + 1, p, f, b, t => match Nat.beq t 0 with
    | true => f
    | false => match Nat.beq (t % 2) 1 with
      | true => pmF1 n p (f * b % p) (b * b % p) (t / 2)
      | false => pmF1 n p f (b * b % p) (t / 2)
theorem pmF1_ok (p : Nat) (hp : 1 < p) : ∀ (n f b t : Nat), t < 2 ^ n → f < p → pmF1 n p f b t = f * b ^ t % p
  | 0, f, b, t, ht, hf => by
    have : t = 0 := by rw [Nat.pow_zero] at ht; omega
    subst this
    simp only [pmF1, Nat.pow_zero, Nat.mul_one]
    exact (Nat.mod_eq_of_lt hf).symm
  | n + 1, f, b, t, ht, hf => by
    simp only [pmF1]
    split
    · rename_i e
      have : t = 0 := Nat.eq_of_beq_eq_true e
      subst this
      rw [Nat.pow_zero, Nat.mul_one]
      exact (Nat.mod_eq_of_lt hf).symm
    · rw [pow_step p f b t]
      split
      · rename_i e
        have : t % 2 = 1 := Nat.eq_of_beq_eq_true e
        rw [if_pos this]
        exact pmF1_ok p hp n _ _ _ (by rw [Nat.pow_succ] at ht; omega) (Nat.mod_lt _ (by omega))
      · rename_i e
        have : ¬ t % 2 = 1 := fun z => by rw [z] at e; cases e
        rw [if_neg this]
        exact pmF1_ok p hp n _ _ _ (by rw [Nat.pow_succ] at ht; omega) hf
end Px
set_option Elab.async false
set_option linter.all false
set_option maxRecDepth 100000
set_option maxHeartbeats 1000000
namespace Px
theorem spF1_eq : ∀ n t s, spF1 n t s = splitN n t s
  | 0, t, s => rfl
  | n + 1, t, s => by
    simp only [spF1, splitN]
    split
    · rename_i e
      rw [if_pos (Nat.eq_of_beq_eq_true e)]; exact spF1_eq n _ _
    · rename_i e
      rw [if_neg fun z => by rw [z] at e; cases e]
theorem sqF1_eq : ∀ n x v, sqF1 n x v (v - 1) = sqLoop n x v
  | 0, x, v => rfl
  | n + 1, x, v => by
    have q : sqLoop (n + 1) x v = ((x * x % v == v - 1) || sqLoop n (x * x % v) v) := rfl
    rw [q]
    simp only [sqF1]
    split
    · rename_i e
      rw [show (x * x % v == v - 1) = true from by simpa using Nat.eq_of_beq_eq_true e]; rfl
    · rename_i e
      rw [show (x * x % v == v - 1) = false from (by rw [beq_eq_false_iff_ne]; intro z; rw [z, Nat.beq_refl] at e; cases e), Bool.false_or]
      exact sqF1_eq n _ v
theorem pwF1_eq (x s v : Nat) : pwF1 x s v (v - 1) = (((x == 1) || (x == v - 1)) || sqLoop (s - 1) x v) := by
  simp only [pwF1]
  split
  · rename_i e
    rw [show (x == 1) = true from by simpa using Nat.eq_of_beq_eq_true e]; rfl
  · rename_i e
    rw [show (x == 1) = false from (by rw [beq_eq_false_iff_ne]; intro z; rw [z] at e; cases e), Bool.false_or]
    split
    · rename_i e
      rw [show (x == v - 1) = true from by simpa using Nat.eq_of_beq_eq_true e]; rfl
    · rename_i e
      rw [show (x == v - 1) = false from (by rw [beq_eq_false_iff_ne]; intro z; rw [z, Nat.beq_refl] at e; cases e), Bool.false_or]
      exact sqF1_eq _ _ _
theorem psF1_eq (v b : Nat) : psF1 (spF1 40 (v - 1) 0) v b = passP v b := by
  rw [spF1_eq]
  exact pwF1_eq _ _ _
def psM1 (q : Nat × Nat) (v b : Nat) : Bool := pwF1 (pmF1 40 v 1 b q.1) q.2 v (v - 1)
def chkM1 (v : Nat) : Bool := Nat.ble 8 v && Nat.ble v 2147483647 && !Nat.beq (v % 2) 0 && !Nat.beq (v % 3) 0 && !Nat.beq (v % 5) 0 && !Nat.beq (v % 7) 0 && psM1 (spF1 40 (v - 1) 0) v 2 && psM1 (spF1 40 (v - 1) 0) v 3 && psM1 (spF1 40 (v - 1) 0) v 5 && psM1 (spF1 40 (v - 1) 0) v 7
theorem psM1_eq {v b : Nat} (h : 1 < v) (h2 : v ≤ 2147483647) : psM1 (spF1 40 (v - 1) 0) v b = passP v b := by
  rw [← psF1_eq]
  have le := split_le 40 (v - 1) 0
  rw [← spF1_eq] at le
  unfold psM1 psF1
  rw [pmF1_ok v h 40 1 b _ (by omega) h, Nat.one_mul]
theorem primeP_of {v : Nat} (h : chkM1 v = true) : primeP v = true := by
  unfold chkM1 at h
  simp only [Bool.and_eq_true, Bool.not_eq_true'] at h
  obtain ⟨⟨⟨⟨⟨⟨⟨⟨⟨h1, h2⟩, h3⟩, h4⟩, h5⟩, h6⟩, p2⟩, p3⟩, p5⟩, p7⟩ := h
  have l1 := Nat.le_of_ble_eq_true h1
  have l2 := Nat.le_of_ble_eq_true h2
  have nf : ∀ {a b : Nat}, Nat.beq a b = false → (a == b) = false := fun {a b} e => by
    rw [beq_eq_false_iff_ne]; intro z; rw [z, Nat.beq_refl] at e; cases e
  rw [psM1_eq (by omega) l2] at p2 p3 p5 p7
  unfold primeP
  rw [if_neg (by rw [decide_eq_false (show ¬ v < 5 by omega), decide_eq_false (show ¬ 2147483647 < v by omega)]; decide)]
  split
  · rfl
  · rw [if_neg (by rw [nf h3, nf h4, nf h5, nf h6]; decide), p2, p3, p5, p7]; rfl
theorem pp_M : primeP 2147483647 = true := primeP_of (by decide +kernel)
theorem pp_65537 : primeP 65537 = true := primeP_of (by decide +kernel)
theorem pp_101 : primeP 101 = true := primeP_of (by decide +kernel)
theorem pp_13 : primeP 13 = true := primeP_of (by decide +kernel)
theorem pp_11 : primeP 11 = true := primeP_of (by decide +kernel)
theorem pp_7 : primeP 7 = true := rfl
theorem pp_5 : primeP 5 = true := rfl
end Px
set_option Elab.async false
set_option linter.all false
set_option maxRecDepth 100000
set_option maxHeartbeats 1000000
namespace Px
open PySem
section
variable {ds : List Def} {k : Nat} {m : Mem} {rest : Mem}
def bNeedPrime (j : Nat) : List St := [.iff (.or_ (.not_ (.call j [.var 0])) (.cmp .lt (.var 0) (.var 1))) [.rai "" []] []]
def bLawPrime (j : Nat) : List St := [.ret (some (.call j [.var 0, .pl (.dsp [.int 5, .int 5, .int 7, .int 7, .int 11, .int 13, .int 101, .int 65537, .int 2147483647])]))]
def bLawNumber (j : Nat) : List St := [
  .asg (.nm 2) (.call j [.var 0, .int 5]),
  .iff (.cmp .lt (.var 2) (.int 3)) [.ret (some (.idx (.pl (.dsp [.int 0, .int 1, .bin .sub (.var 1) (.int 1)])) (.var 2)))] [],
  .ret (some (.bin .mod (.bin .add (.bin .mul (.call j [.var 0, .int 1000]) (.int 2147483)) (.call j [.var 0, .int 1000])) (.var 1)))]
def bLawInverse : List St := [
  .par [2, 3, 4] [.int 1, .bin .mod (.var 1) (.var 0), .bin .sub (.var 0) (.int 2)],
  .whl (.cmp .gt (.var 4) (.int 0)) [.iff (.cmp .eq (.bin .mod (.var 4) (.int 2)) (.int 1)) [.asg (.nm 2) (.bin .mod (.bin .mul (.var 2) (.var 3)) (.var 0))] [], .par [3, 4] [.bin .mod (.bin .mul (.var 3) (.var 3)) (.var 0), .bin .fdv (.var 4) (.int 2)]],
  .ret (some (.var 2))]
theorem need_prime_ok {i j : Nat} {N : List Str} (hN : N.length = 2) (h : ds[i]? = some ⟨N, 2, bNeedPrime j⟩) {p least : Int} (hp : callF ds k j [.int p] m = .ok (.bl true) m) (hl : least ≤ p) : callF ds (k + 1) i [.int p, .int least] m = .ok .non m := by
  rw [call_eq h]
  have : decide (p < least) = false := decide_eq_false (by omega)
  simp only [evDef, bNeedPrime, hN, aB, aC, aD, aE, aF, aG, aH, aI, aJ, aK, aL, aM, aN, aO, aP, aQ, aR, aS, aT, aU, aV, aW, aX, aY, aZ, bA, bB, bC, bD, bE, bF, bG, bH, bI, bJ, bK, bL, bM, bN, bO, bP, bQ, bR, bS, bT, bU, bV, bW, bX, bY, bZ, cA, cB, cC, cD, cE, cF, cG, cH, cI, cJ, cK, cL, cM, cN, cO, cP, cQ, cR, cS, cT, cU, cW, cX, cY, cZ, dA, dB, dC, dD, dE, dF, dG, dH, dI, dJ, dL, dM, dN, dO, dP, dQ, dR, dS, dT, dU, dV, dW, dX, dY, dZ, eA, eB, eC, eE, eG, eH, eI, eJ, eK, eL, eM, eN, eO, eP, aA, eQ, eR, eS, eT, eU, eV, eW, eX, eY, eZ, fA, fB, fC, fE, fF, fG, fH, fI, fJ, fK, fL, fM, fN, fO, fP, fQ, fR, fS, fT, fU, fV, fW, fX, fY, Res.bind_ex, Res.bind_no, fZ, gA, Res.st_ex, Res.st_no, gB, gC, gD, gE, gF, gG, gH, gI, gJ, gK, List.set_cons_zero, List.set_cons_succ, List.length_cons, List.length_nil, List.map_cons, List.map_nil, List.replicate, List.cons_append, List.nil_append, Nat.reduceSub, Nat.reduceAdd, Nat.reduceLT, List.append_nil, if_true, if_false, Bool.false_eq_true, ite_true, ite_false, decide_true, decide_false, Bool.not_true, Bool.not_false, hp, this, aA]
theorem okLen_9 (m : Mem) (a b c d e f g h i : PV) : okLen [a, b, c, d, e, f, g, h, i] m = .ok [a, b, c, d, e, f, g, h, i] m := rfl
theorem okLen_3 (m : Mem) (a b c : PV) : okLen [a, b, c] m = .ok [a, b, c] m := rfl
theorem law_prime_ok {i j jt : Nat} {N Nj Nt : List Str} (hN : N.length = 1) (hNj : Nj.length = 2) (hNt : Nt.length = 4) (h : ds[i]? = some ⟨N, 1, bLawPrime j⟩) (hj : ds[j]? = some ⟨Nj, 2, bPick jt⟩) (ht : ds[jt]? = some ⟨Nt, 2, bTaken⟩) {ns : List Int} {x : Ob} (hx : Row ns x) :
    ∃ (p : Nat) (x' : Ob), callF ds (k + 3) i [.loc 0] (x :: rest) = .ok (.int p) (x' :: rest) ∧ Row ns x' ∧ IsP p ∧ primeP p = true ∧ 5 ≤ p ∧ p ≤ 2147483647 := by
  obtain ⟨v, x', e, hr, hv⟩ := pick_ok (k := k) (rest := rest) hNj hNt hj ht hx (xs := [.int 5, .int 5, .int 7, .int 7, .int 11, .int 13, .int 101, .int 65537, .int 2147483647]) (by decide) (by decide)
  have q : ∃ p : Nat, v = .int p ∧ IsP p ∧ primeP p = true ∧ 5 ≤ p ∧ p ≤ 2147483647 := by
    simp only [List.mem_cons, List.not_mem_nil, or_false] at hv
    rcases hv with rfl | rfl | rfl | rfl | rfl | rfl | rfl | rfl | rfl
    · exact ⟨5, rfl, pr_5, pp_5, by decide, by decide⟩
    · exact ⟨5, rfl, pr_5, pp_5, by decide, by decide⟩
    · exact ⟨7, rfl, pr_7, pp_7, by decide, by decide⟩
    · exact ⟨7, rfl, pr_7, pp_7, by decide, by decide⟩
    · exact ⟨11, rfl, pr_11, pp_11, by decide, by decide⟩
    · exact ⟨13, rfl, pr_13, pp_13, by decide, by decide⟩
    · exact ⟨101, rfl, pr_101, pp_101, by decide, by decide⟩
    · exact ⟨65537, rfl, pr_65537, pp_65537, by decide, by decide⟩
    · exact ⟨2147483647, rfl, pr_M, pp_M, by decide, by decide⟩
  obtain ⟨p, rfl, q⟩ := q
  refine ⟨p, x', ?_, hr, q⟩
  rw [call_eq h]
  simp only [evDef, bLawPrime, hN, aB, aC, aD, aE, aF, aG, aH, aI, aJ, aK, aL, aM, aN, aO, aP, aQ, aR, aS, aT, aU, aV, aW, aX, aY, aZ, bA, bB, bC, bD, bE, bF, bG, bH, bI, bJ, bK, bL, bM, bN, bO, bP, bQ, bR, bS, bT, bU, bV, bW, bX, bY, bZ, cA, cB, cC, cD, cE, cF, cG, cH, cI, cJ, cK, cL, cM, cN, cO, cP, cQ, cR, cS, cT, cU, cW, cX, cY, cZ, dA, dB, dC, dD, dE, dF, dG, dH, dI, dJ, dL, dM, dN, dO, dP, dQ, dR, dS, dT, dU, dV, dW, dX, dY, dZ, eA, eB, eC, eE, eG, eH, eI, eJ, eK, eL, eM, eN, eO, eP, aA, eQ, eR, eS, eT, eU, eV, eW, eX, eY, eZ, fA, fB, fC, fE, fF, fG, fH, fI, fJ, fK, fL, fM, fN, fO, fP, fQ, fR, fS, fT, fU, fV, fW, fX, fY, Res.bind_ex, Res.bind_no, fZ, gA, Res.st_ex, Res.st_no, gB, gC, gD, gE, gF, gG, gH, gI, gJ, gK, List.set_cons_zero, List.set_cons_succ, List.length_cons, List.length_nil, List.map_cons, List.map_nil, List.replicate, List.cons_append, List.nil_append, Nat.reduceSub, Nat.reduceAdd, Nat.reduceLT, List.append_nil, if_true, if_false, Bool.false_eq_true, ite_true, ite_false, decide_true, decide_false, Bool.not_true, Bool.not_false, okLen_9, e, gcP_row]
theorem law_number_ok {i jt : Nat} {N Nt : List Str} (hN : N.length = 3) (hNt : Nt.length = 4) (h : ds[i]? = some ⟨N, 2, bLawNumber jt⟩) (ht : ds[jt]? = some ⟨Nt, 2, bTaken⟩) {ns : List Int} {x : Ob} (hx : Row ns x) {p : Nat} (hp : 1 < p) (hp2 : p < 2 ^ 60) :
    ∃ (n : Nat) (x' : Ob), callF ds (k + 2) i [.loc 0, .int p] (x :: rest) = .ok (.int n) (x' :: rest) ∧ Row ns x' ∧ n < p := by
  obtain ⟨v, x1, e1, r1, v0, v1⟩ := taken_ok (k := k) (rest := rest) hNt ht hx (many := 5) (by decide) (by decide)
  obtain ⟨u, x2, e2, r2, u0, u1⟩ := taken_ok (k := k) (rest := rest) hNt ht r1 (many := 1000) (by decide) (by decide)
  obtain ⟨w, x3, e3, r3, w0, w1⟩ := taken_ok (k := k) (rest := rest) hNt ht r2 (many := 1000) (by decide) (by decide)
  have hp0 : (0 : Int) < (p : Int) := by omega
  by_cases hv : v < 3
  · obtain ⟨z, hz, e4⟩ := ix_lst (m := x1 :: rest) (xs := [.int 0, .int 1, .int ((p : Int) - 1)]) v0 (by simpa using hv)
    have q : ∃ n : Nat, z = .int n ∧ n < p := by
      simp only [List.mem_cons, List.not_mem_nil, or_false] at hz
      rcases hz with rfl | rfl | rfl
      · exact ⟨0, rfl, by omega⟩
      · exact ⟨1, rfl, by omega⟩
      · exact ⟨p - 1, by congr 1; omega, by omega⟩
    obtain ⟨n, rfl, hn⟩ := q
    refine ⟨n, x1, ?_, r1, hn⟩
    rw [call_eq h]
    simp only [evDef, bLawNumber, hN, aB, aC, aD, aE, aF, aG, aH, aI, aJ, aK, aL, aM, aN, aO, aP, aQ, aR, aS, aT, aU, aV, aW, aX, aY, aZ, bA, bB, bC, bD, bE, bF, bG, bH, bI, bJ, bK, bL, bM, bN, bO, bP, bQ, bR, bS, bT, bU, bV, bW, bX, bY, bZ, cA, cB, cC, cD, cE, cF, cG, cH, cI, cJ, cK, cL, cM, cN, cO, cP, cQ, cR, cS, cT, cU, cW, cX, cY, cZ, dA, dB, dC, dD, dE, dF, dG, dH, dI, dJ, dL, dM, dN, dO, dP, dQ, dR, dS, dT, dU, dV, dW, dX, dY, dZ, eA, eB, eC, eE, eG, eH, eI, eJ, eK, eL, eM, eN, eO, eP, aA, eQ, eR, eS, eT, eU, eV, eW, eX, eY, eZ, fA, fB, fC, fE, fF, fG, fH, fI, fJ, fK, fL, fM, fN, fO, fP, fQ, fR, fS, fT, fU, fV, fW, fX, fY, Res.bind_ex, Res.bind_no, fZ, gA, Res.st_ex, Res.st_no, gB, gC, gD, gE, gF, gG, gH, gI, gJ, gK, List.set_cons_zero, List.set_cons_succ, List.length_cons, List.length_nil, List.map_cons, List.map_nil, List.replicate, List.cons_append, List.nil_append, Nat.reduceSub, Nat.reduceAdd, Nat.reduceLT, List.append_nil, if_true, if_false, Bool.false_eq_true, ite_true, ite_false, decide_true, decide_false, Bool.not_true, Bool.not_false, e1, decide_eq_true hv, okLen_3, e4, gcP_row]
  · have hm : u.natAbs.log2 + (2147483 : Int).natAbs.log2 < 1000000 := by
      have h2 := natCast_log (a := u.natAbs) (b := 64) (by omega) (by omega)
      rw [Int.natAbs_natCast] at h2
      have h3 : (2147483 : Int).natAbs.log2 < 64 := by decide
      omega
    have hn := Int.emod_nonneg (u * 2147483 + w) (show (p : Int) ≠ 0 by omega)
    have hn2 := Int.emod_lt_of_pos (u * 2147483 + w) hp0
    refine ⟨((u * 2147483 + w) % p).toNat, x3, ?_, r3, by omega⟩
    rw [call_eq h]
    have q : ((((u * 2147483 + w) % p).toNat : Nat) : Int) = (u * 2147483 + w) % p := by omega
    rw [q]
    simp only [evDef, bLawNumber, hN, aB, aC, aD, aE, aF, aG, aH, aI, aJ, aK, aL, aM, aN, aO, aP, aQ, aR, aS, aT, aU, aV, aW, aX, aY, aZ, bA, bB, bC, bD, bE, bF, bG, bH, bI, bJ, bK, bL, bM, bN, bO, bP, bQ, bR, bS, bT, bU, bV, bW, bX, bY, bZ, cA, cB, cC, cD, cE, cF, cG, cH, cI, cJ, cK, cL, cM, cN, cO, cP, cQ, cR, cS, cT, cU, cW, cX, cY, cZ, dA, dB, dC, dD, dE, dF, dG, dH, dI, dJ, dL, dM, dN, dO, dP, dQ, dR, dS, dT, dU, dV, dW, dX, dY, dZ, eA, eB, eC, eE, eG, eH, eI, eJ, eK, eL, eM, eN, eO, eP, aA, eQ, eR, eS, eT, eU, eV, eW, eX, eY, eZ, fA, fB, fC, fE, fF, fG, fH, fI, fJ, fK, fL, fM, fN, fO, fP, fQ, fR, fS, fT, fU, fV, fW, fX, fY, Res.bind_ex, Res.bind_no, fZ, gA, Res.st_ex, Res.st_no, gB, gC, gD, gE, gF, gG, gH, gI, gJ, gK, List.set_cons_zero, List.set_cons_succ, List.length_cons, List.length_nil, List.map_cons, List.map_nil, List.replicate, List.cons_append, List.nil_append, Nat.reduceSub, Nat.reduceAdd, Nat.reduceLT, List.append_nil, if_true, if_false, Bool.false_eq_true, ite_true, ite_false, decide_true, decide_false, Bool.not_true, Bool.not_false, e1, decide_eq_false hv, e2, e3, mul_ii hm, mod_ii hp0, gcP_row]
theorem inv_loop {Γ : Call} {p : Nat} {a : PV} (hp : 1 < p) (hp2 : p < 2 ^ 64) : ∀ (n t b f : Nat), t < 2 ^ n → b < p → f < p → ∀ fuel, n < fuel → ∃ b' : Nat,
    whGo (evC Γ (some (.cmp .gt (.var 4) (.int 0)))) (evSs Γ [.iff (.cmp .eq (.bin .mod (.var 4) (.int 2)) (.int 1)) [.asg (.nm 2) (.bin .mod (.bin .mul (.var 2) (.var 3)) (.var 0))] [], .par [3, 4] [.bin .mod (.bin .mul (.var 3) (.var 3)) (.var 0), .bin .fdv (.var 4) (.int 2)]]) fuel
      [some (.int p), some a, some (.int f), some (.int b), some (.int t)] m = .nx [some (.int p), some a, some (.int (f * b ^ t % p : Nat)), some (.int b'), some (.int 0)] m
  | n, t, b, f, ht, hb, hf, 0, h => by omega
  | n, t, b, f, ht, hb, hf, fuel + 1, h => by
    by_cases h0 : t = 0
    · subst h0
      refine ⟨b, ?_⟩
      have e : f * b ^ 0 % p = f := by rw [Nat.pow_zero, Nat.mul_one]; exact Nat.mod_eq_of_lt hf
      rw [e]
      have hh : decide ((0 : Int) < ((0 : Nat) : Int)) = false := by decide
      simp only [aB, aC, aD, aE, aF, aG, aH, aI, aJ, aK, aL, aM, aN, aO, aP, aQ, aR, aS, aT, aU, aV, aW, aX, aY, aZ, bA, bB, bC, bD, bE, bF, bG, bH, bI, bJ, bK, bL, bM, bN, bO, bP, bQ, bR, bS, bT, bU, bV, bW, bX, bY, bZ, cA, cB, cC, cD, cE, cF, cG, cH, cI, cJ, cK, cL, cM, cN, cO, cP, cQ, cR, cS, cT, cU, cW, cX, cY, cZ, dA, dB, dC, dD, dE, dF, dG, dH, dI, dJ, dL, dM, dN, dO, dP, dQ, dR, dS, dT, dU, dV, dW, dX, dY, dZ, eA, eB, eC, eE, eG, eH, eI, eJ, eK, eL, eM, eN, eO, eP, aA, eQ, eR, eS, eT, eU, eV, eW, eX, eY, eZ, fA, fB, fC, fE, fF, fG, fH, fI, fJ, fK, fL, fM, fN, fO, fP, fQ, fR, fS, fT, fU, fV, fW, fX, fY, Res.bind_ex, Res.bind_no, fZ, gA, Res.st_ex, Res.st_no, gB, gC, gD, gE, gF, gG, gH, gI, gJ, gK, List.set_cons_zero, List.set_cons_succ, List.length_cons, List.length_nil, List.map_cons, List.map_nil, List.replicate, List.cons_append, List.nil_append, Nat.reduceSub, Nat.reduceAdd, Nat.reduceLT, List.append_nil, if_true, if_false, Bool.false_eq_true, ite_true, ite_false, decide_true, decide_false, Bool.not_true, Bool.not_false, hh]
      rfl
    · cases n with
      | zero => rw [Nat.pow_zero] at ht; omega
      | succ n =>
      have h1 : decide ((0 : Int) < (t : Int)) = true := decide_eq_true (by omega)
      have hp0 : (0 : Int) < (p : Int) := by omega
      have hbb := lt64 (Nat.lt_trans hb hp2) (Nat.lt_trans hb hp2)
      have hfb := lt64 (Nat.lt_trans hf hp2) (Nat.lt_trans hb hp2)
      obtain ⟨b', ih⟩ := inv_loop (Γ := Γ) (a := a) hp hp2 n (t / 2) (b * b % p) (if t % 2 = 1 then f * b % p else f) (by rw [Nat.pow_succ] at ht; omega) (Nat.mod_lt _ (by omega)) (by split; exact Nat.mod_lt _ (by omega); exact hf) fuel (by omega)
      refine ⟨b', ?_⟩
      rw [← pow_step] at ih
      rw [← ih]
      have q1 : ((b : Int) * b % p) = ((b * b % p : Nat) : Int) := by rw [Int.natCast_emod, Int.natCast_mul]
      have q2 : ((f : Int) * b % p) = ((f * b % p : Nat) : Int) := by rw [Int.natCast_emod, Int.natCast_mul]
      have q3 : ((t : Int) / 2) = ((t / 2 : Nat) : Int) := by omega
      by_cases ho : t % 2 = 1
      · have ho' : decide ((t : Int) % 2 = 1) = true := decide_eq_true (by omega)
        simp only [aB, aC, aD, aE, aF, aG, aH, aI, aJ, aK, aL, aM, aN, aO, aP, aQ, aR, aS, aT, aU, aV, aW, aX, aY, aZ, bA, bB, bC, bD, bE, bF, bG, bH, bI, bJ, bK, bL, bM, bN, bO, bP, bQ, bR, bS, bT, bU, bV, bW, bX, bY, bZ, cA, cB, cC, cD, cE, cF, cG, cH, cI, cJ, cK, cL, cM, cN, cO, cP, cQ, cR, cS, cT, cU, cW, cX, cY, cZ, dA, dB, dC, dD, dE, dF, dG, dH, dI, dJ, dL, dM, dN, dO, dP, dQ, dR, dS, dT, dU, dV, dW, dX, dY, dZ, eA, eB, eC, eE, eG, eH, eI, eJ, eK, eL, eM, eN, eO, eP, aA, eQ, eR, eS, eT, eU, eV, eW, eX, eY, eZ, fA, fB, fC, fE, fF, fG, fH, fI, fJ, fK, fL, fM, fN, fO, fP, fQ, fR, fS, fT, fU, fV, fW, fX, fY, Res.bind_ex, Res.bind_no, fZ, gA, Res.st_ex, Res.st_no, gB, gC, gD, gE, gF, gG, gH, gI, gJ, gK, List.set_cons_zero, List.set_cons_succ, List.length_cons, List.length_nil, List.map_cons, List.map_nil, List.replicate, List.cons_append, List.nil_append, Nat.reduceSub, Nat.reduceAdd, Nat.reduceLT, List.append_nil, if_true, if_false, Bool.false_eq_true, ite_true, ite_false, decide_true, decide_false, Bool.not_true, Bool.not_false, h1, mod_ii (show (0 : Int) < 2 by decide), ho', mul_ii hfb, mod_ii hp0, mul_ii hbb, fdv_ii (show (0 : Int) < 2 by decide) two_log, q1, q2, q3, ho]
      · have ho' : decide ((t : Int) % 2 = 1) = false := decide_eq_false (by omega)
        simp only [aB, aC, aD, aE, aF, aG, aH, aI, aJ, aK, aL, aM, aN, aO, aP, aQ, aR, aS, aT, aU, aV, aW, aX, aY, aZ, bA, bB, bC, bD, bE, bF, bG, bH, bI, bJ, bK, bL, bM, bN, bO, bP, bQ, bR, bS, bT, bU, bV, bW, bX, bY, bZ, cA, cB, cC, cD, cE, cF, cG, cH, cI, cJ, cK, cL, cM, cN, cO, cP, cQ, cR, cS, cT, cU, cW, cX, cY, cZ, dA, dB, dC, dD, dE, dF, dG, dH, dI, dJ, dL, dM, dN, dO, dP, dQ, dR, dS, dT, dU, dV, dW, dX, dY, dZ, eA, eB, eC, eE, eG, eH, eI, eJ, eK, eL, eM, eN, eO, eP, aA, eQ, eR, eS, eT, eU, eV, eW, eX, eY, eZ, fA, fB, fC, fE, fF, fG, fH, fI, fJ, fK, fL, fM, fN, fO, fP, fQ, fR, fS, fT, fU, fV, fW, fX, fY, Res.bind_ex, Res.bind_no, fZ, gA, Res.st_ex, Res.st_no, gB, gC, gD, gE, gF, gG, gH, gI, gJ, gK, List.set_cons_zero, List.set_cons_succ, List.length_cons, List.length_nil, List.map_cons, List.map_nil, List.replicate, List.cons_append, List.nil_append, Nat.reduceSub, Nat.reduceAdd, Nat.reduceLT, List.append_nil, if_true, if_false, Bool.false_eq_true, ite_true, ite_false, decide_true, decide_false, Bool.not_true, Bool.not_false, h1, mod_ii (show (0 : Int) < 2 by decide), ho', mul_ii hfb, mod_ii hp0, mul_ii hbb, fdv_ii (show (0 : Int) < 2 by decide) two_log, q1, q2, q3, ho]
theorem law_inverse_ok {i : Nat} {N : List Str} (hN : N.length = 5) (h : ds[i]? = some ⟨N, 2, bLawInverse⟩) {p b : Nat} (hp : 2 < p) (hp2 : p < 2 ^ 64) : callF ds (k + 1) i [.int p, .int b] m = .ok (.int (b ^ (p - 2) % p : Nat)) m := by
  rw [call_eq h]
  have hp0 : (0 : Int) < (p : Int) := by omega
  obtain ⟨b', e⟩ := inv_loop (m := m) (a := .int b) (Γ := callF ds k) (show 1 < p by omega) hp2 64 (p - 2) (b % p) 1 (by omega) (Nat.mod_lt _ (by omega)) (by omega) WF (by decide)
  have q : ((b : Int) % p) = ((b % p : Nat) : Int) := by rw [Int.natCast_emod]
  have q2 : ((p : Int) - 2) = ((p - 2 : Nat) : Int) := by omega
  have e2 : 1 * (b % p) ^ (p - 2) % p = b ^ (p - 2) % p := by rw [Nat.one_mul, ← Nat.pow_mod]
  rw [e2, show (((1 : Nat)) : Int) = 1 from rfl] at e
  simp only [evDef, bLawInverse, hN, aB, aC, aD, aE, aF, aG, aH, aI, aJ, aK, aL, aM, aN, aO, aP, aQ, aR, aS, aT, aU, aV, aW, aX, aY, aZ, bA, bB, bC, bD, bE, bF, bG, bH, bI, bJ, bK, bL, bM, bN, bO, bP, bQ, bR, bS, bT, bU, bV, bW, bX, bY, bZ, cA, cB, cC, cD, cE, cF, cG, cH, cI, cJ, cK, cL, cM, cN, cO, cP, cQ, cR, cS, cT, cU, cW, cX, cY, cZ, dA, dB, dC, dD, dE, dF, dG, dH, dI, dJ, dL, dM, dN, dO, dP, dQ, dR, dS, dT, dU, dV, dW, dX, dY, dZ, eA, eB, eC, eE, eG, eH, eI, eJ, eK, eL, eM, eN, eO, eP, aA, eQ, eR, eS, eT, eU, eV, eW, eX, eY, eZ, fA, fB, fC, fE, fF, fG, fH, fI, fJ, fK, fL, fM, fN, fO, fP, fQ, fR, fS, fT, fU, fV, fW, fX, fY, Res.bind_ex, Res.bind_no, fZ, gA, Res.st_ex, Res.st_no, gB, gC, gD, gE, gF, gG, gH, gI, gJ, gK, List.set_cons_zero, List.set_cons_succ, List.length_cons, List.length_nil, List.map_cons, List.map_nil, List.replicate, List.cons_append, List.nil_append, Nat.reduceSub, Nat.reduceAdd, Nat.reduceLT, List.append_nil, if_true, if_false, Bool.false_eq_true, ite_true, ite_false, decide_true, decide_false, Bool.not_true, Bool.not_false, mod_ii hp0, q, q2, e, aA]
end
end Px
set_option Elab.async false
set_option linter.all false
namespace Mz
open Lean.Grind
section
variable {R : Type} [Field R]
def pev : List R → R → R
  | [], _ => 0
  | a :: l, x => a + x * pev l x
@[simp] theorem pev_nil (x : R) : pev [] x = 0 := rfl
@[simp] theorem pev_cons (a : R) (l : List R) (x : R) : pev (a :: l) x = a + x * pev l x := rfl
theorem mul_eq0 {a b : R} (h : a * b = 0) : a = 0 ∨ b = 0 := by
  by_cases ha : a = 0
  · exact .inl ha
  · right; grind
def padd : List R → List R → List R
  | [], r => r
  | a :: l, [] => a :: l
  | a :: l, b :: r => (a + b) :: padd l r
def psc (c : R) (l : List R) : List R := l.map (c * ·)
def pmul : List R → List R → List R
  | [], _ => []
  | a :: l, r => padd (psc a r) (0 :: pmul l r)
theorem pev_padd (x : R) : ∀ l r : List R, pev (padd l r) x = pev l x + pev r x
  | [], r => by simp only [padd, pev_nil]; grind
  | a :: l, [] => by simp only [padd, pev_nil]; grind
  | a :: l, b :: r => by simp only [padd, pev_cons, pev_padd x l r]; grind
theorem pev_psc (c x : R) : ∀ l : List R, pev (psc c l) x = c * pev l x
  | [] => by simp only [psc, List.map_nil, pev_nil]; grind
  | a :: l => by
    have := pev_psc c x l
    simp only [psc] at this
    simp only [psc, List.map_cons, pev_cons, this]; grind
theorem pev_pmul (x : R) : ∀ l r : List R, pev (pmul l r) x = pev l x * pev r x
  | [], r => by simp only [pmul, pev_nil]; grind
  | a :: l, r => by simp only [pmul, pev_padd, pev_psc, pev_cons, pev_pmul x l r]; grind
theorem pev_app (x : R) : ∀ l r : List R, pev (l ++ r) x = pev l x + x ^ l.length * pev r x
  | [], r => by simp only [List.nil_append, pev_nil, List.length_nil]; grind
  | a :: l, r => by simp only [List.cons_append, pev_cons, pev_app x l r, List.length_cons, Semiring.pow_succ]; grind
theorem padd_len : ∀ l r : List R, (padd l r).length = max l.length r.length
  | [], r => by simp [padd]
  | a :: l, [] => by simp [padd]
  | a :: l, b :: r => by simp [padd, padd_len l r]
theorem padd_get (i : Nat) : ∀ l r : List R, (padd l r).getD i 0 = l.getD i 0 + r.getD i 0 := by
  induction i with
  | zero => intro l r; cases l <;> cases r <;> simp [padd] <;> grind
  | succ i ih =>
    intro l r
    cases l <;> cases r <;> simp [padd] <;> try grind
def sd (r : R) : List R → List R
  | [] => []
  | a :: t => pev (a :: t) r :: sd r t
theorem sd_len (r : R) : ∀ l : List R, (sd r l).length = l.length
  | [] => rfl
  | a :: t => by simp [sd, sd_len r t]
theorem sd_ok (r x : R) : ∀ t : List R, x * pev t x - r * pev t r = (x - r) * pev (sd r t) x
  | [] => by simp only [sd, pev_nil]; grind
  | a :: t => by
    have := sd_ok r x t
    simp only [sd, pev_cons]; grind
theorem sd_zero (r : R) : ∀ t : List R, (∀ a ∈ sd r t, a = 0) → ∀ a ∈ t, a = 0
  | [], _ => by simp
  | a :: t, h => by
    have ht := sd_zero r t fun b hb => h b (by simp [sd, hb])
    have p0 : ∀ t : List R, (∀ a ∈ t, a = 0) → pev t r = 0 := by
      intro t; induction t with
      | nil => intro _; rfl
      | cons b t ih => intro h; rw [pev_cons, ih fun c hc => h c (List.mem_cons_of_mem _ hc), h b List.mem_cons_self]; grind
    have ha := h (pev (a :: t) r) (by simp [sd])
    rw [pev_cons, p0 t ht] at ha
    intro b hb
    rcases List.mem_cons.mp hb with rfl | hb
    · grind
    · exact ht b hb
theorem pev_zero {x : R} : ∀ {t : List R}, (∀ a ∈ t, a = 0) → pev t x = 0
  | [], _ => rfl
  | b :: t, h => by rw [pev_cons, pev_zero fun c hc => h c (List.mem_cons_of_mem _ hc), h b List.mem_cons_self]; grind
theorem roots : ∀ (n : Nat) (l xs : List R), l.length = n → n ≤ xs.length → xs.Nodup → (∀ x ∈ xs, pev l x = 0) → ∀ a ∈ l, a = 0
  | 0, l, xs, h, _, _, _ => by rw [List.length_eq_zero_iff.mp h]; simp
  | n + 1, [], xs, h, _, _, _ => by simp at h
  | n + 1, a :: t, [], h, hn, _, _ => by simp at hn
  | n + 1, a :: t, r :: xs, h, hn, hd, hz => by
    have hr := hz r List.mem_cons_self
    have q : ∀ x ∈ xs, pev (sd r t) x = 0 := by
      intro x hx
      have e := sd_ok r x t
      have hx0 := hz x (List.mem_cons_of_mem _ hx)
      rw [pev_cons] at hr hx0
      have ne : x ≠ r := fun z => by subst z; exact (List.nodup_cons.mp hd).1 hx
      grind
    have zt := sd_zero r t (roots n (sd r t) xs (by rw [sd_len]; simpa using h) (by simpa using hn) (List.nodup_cons.mp hd).2 q)
    intro b hb
    rcases List.mem_cons.mp hb with rfl | hb
    · rw [pev_cons, pev_zero zt] at hr; grind
    · exact zt b hb
def Cut (l : List R) : Prop := ∀ a, l.getLast? = some a → a ≠ 0
theorem cut_get {l : List R} (h : Cut l) {n : Nat} (z : ∀ i, n ≤ i → l.getD i 0 = 0) : l.length ≤ n := by
  cases e : l.getLast? with
  | none => rw [List.getLast?_eq_none_iff] at e; simp [e]
  | some a =>
    rcases Nat.lt_or_ge n l.length with h1 | h1
    · have := z (l.length - 1) (by omega)
      rw [List.getLast?_eq_getElem?] at e
      rw [List.getD_eq_getElem?_getD, e] at this
      exact absurd this (h a (by rw [List.getLast?_eq_getElem?]; exact e))
    · exact h1
theorem cut_ext {l r : List R} (hl : Cut l) (hr : Cut r) (h : ∀ i, l.getD i 0 = r.getD i 0) : l = r := by
  have z : ∀ (l : List R) i, l.length ≤ i → l.getD i 0 = 0 := fun l i hi => by rw [List.getD_eq_getElem?_getD, List.getElem?_eq_none hi]; rfl
  have e1 := cut_get hl (n := r.length) fun i hi => by rw [h, z r i hi]
  have e2 := cut_get hr (n := l.length) fun i hi => by rw [← h, z l i hi]
  refine List.ext_getElem (by omega) fun i h1 h2 => ?_
  have := h i
  rwa [List.getD_eq_getElem?_getD, List.getD_eq_getElem?_getD, List.getElem?_eq_getElem h1, List.getElem?_eq_getElem h2] at this
theorem same_get {l r xs : List R} (hx : xs.Nodup) (h1 : l.length ≤ xs.length) (h2 : r.length ≤ xs.length) (h : ∀ x ∈ xs, pev l x = pev r x) : ∀ i, l.getD i 0 = r.getD i 0 := by
  have z := roots _ (padd l (psc (-1) r)) xs rfl (by rw [padd_len]; simp [psc]; omega) hx fun x hx => by
    rw [pev_padd, pev_psc, h x hx]; grind
  intro i
  have e := padd_get i l (psc (-1) r)
  have e0 : (padd l (psc (-1) r)).getD i 0 = 0 := by
    rw [List.getD_eq_getElem?_getD]
    cases q : (padd l (psc (-1) r))[i]? with
    | none => rfl
    | some a => exact z a (List.mem_of_getElem? q)
  have e3 : (psc (-1) r).getD i 0 = - r.getD i 0 := by
    simp only [psc, List.getD_eq_getElem?_getD, List.getElem?_map]
    cases r[i]? <;> simp <;> grind
  grind
theorem same_cut {l r xs : List R} (hl : Cut l) (hr : Cut r) (hx : xs.Nodup) (h1 : l.length ≤ xs.length) (h2 : r.length ≤ xs.length) (h : ∀ x ∈ xs, pev l x = pev r x) : l = r :=
  cut_ext hl hr (same_get hx h1 h2 h)
end
end Mz
set_option Elab.async false
set_option linter.all false
namespace Mz
open Lean.Grind
open Px (IsP flt)
class PrC (p : Nat) : Prop where
  pr : IsP p
instance (p : Nat) [h : PrC p] : NeZero p := ⟨by have := h.pr.1; omega⟩
def Zp (p : Nat) [PrC p] := Fin p
section
variable {p : Nat} [hp : PrC p]
instance : CommRing (Zp p) := inferInstanceAs (CommRing (Fin p))
instance : IsCharP (Zp p) p := inferInstanceAs (IsCharP (Fin p) p)
instance : DecidableEq (Zp p) := inferInstanceAs (DecidableEq (Fin p))
def zc (p : Nat) [PrC p] (a : Int) : Zp p := Ring.intCast.intCast a
def zn (p : Nat) [PrC p] (a : Nat) : Zp p := Semiring.natCast.natCast a
theorem zn_ext {a b : Nat} : zn p a = zn p b ↔ a % p = b % p := IsCharP.natCast_ext_iff p
theorem zc_ext {a b : Int} : zc p a = zc p b ↔ a % p = b % p := IsCharP.intCast_ext_iff p
theorem zc_add (a b : Int) : zc p (a + b) = zc p a + zc p b := Ring.intCast_add a b
theorem zc_mul (a b : Int) : zc p (a * b) = zc p a * zc p b := Ring.intCast_mul a b
theorem zc_sub (a b : Int) : zc p (a - b) = zc p a - zc p b := Ring.intCast_sub a b
theorem zc_neg (a : Int) : zc p (-a) = - zc p a := Ring.intCast_neg a
theorem zc_0 : zc p 0 = 0 := Ring.intCast_zero
theorem zc_1 : zc p 1 = 1 := Ring.intCast_one
theorem zc_mod (a : Int) : zc p (a % p) = zc p a := by rw [zc_ext, Int.emod_emod]
theorem zc_n (a : Nat) : zc p (a : Int) = zn p a := Ring.intCast_natCast a
theorem zn_pow (a k : Nat) : zn p (a ^ k) = zn p a ^ k := Semiring.natCast_pow a k
theorem zn_surj (a : Zp p) : zn p (show Fin p from a).val = a := by
  have : ∀ x : Fin p, (Semiring.natCast.natCast (show Fin p from x).val : Fin p) = x := fun x => by
    show Fin.ofNat p x.val = x
    simp
  exact this a
theorem zn_pow_inv {a : Zp p} (h : a ≠ 0) : a * a ^ (p - 2) = 1 := by
  rw [← zn_surj a] at h ⊢
  revert h
  generalize (show Fin p from a).val = v
  intro h
  have nd : ¬ p ∣ v := fun z => h (by
    rw [show (0 : Zp p) = zn p 0 from Semiring.natCast_zero.symm, zn_ext, Nat.mod_eq_zero_of_dvd z, Nat.zero_mod])
  have f := flt hp.pr nd
  have h2 := hp.pr.1
  have e : zn p (v ^ (p - 1)) = zn p 1 := by rw [zn_ext, f, Nat.mod_eq_of_lt h2]
  rw [show p - 1 = (p - 2) + 1 from by omega, zn_pow, Semiring.pow_succ] at e
  rw [CommSemiring.mul_comm, e]
  exact Semiring.natCast_one
instance : Inv (Zp p) := ⟨fun a => if a = 0 then 0 else a ^ (p - 2)⟩
instance : Div (Zp p) := ⟨fun a b => a * b⁻¹⟩
theorem zinv_def {a : Zp p} (h : a ≠ 0) : a⁻¹ = a ^ (p - 2) := if_neg h
theorem zinv_0 : (0 : Zp p)⁻¹ = 0 := if_pos rfl
theorem z_ne : (0 : Zp p) ≠ 1 := fun h => by
  have h2 := hp.pr.1
  rw [← zc_0, ← zc_1, zc_ext, Int.emod_eq_of_lt (by omega) (by omega), Int.emod_eq_of_lt (by omega) (by omega)] at h
  omega
def zpw (a : Zp p) : Int → Zp p
  | .ofNat n => a ^ n
  | .negSucc n => (a ^ (n + 1))⁻¹
instance : HPow (Zp p) Int (Zp p) := ⟨zpw⟩
theorem zinv_inv (a : Zp p) : a⁻¹⁻¹ = a := by
  by_cases h : a = 0
  · rw [h, zinv_0, zinv_0]
  · have h1 := zn_pow_inv h
    rw [← zinv_def h] at h1
    have h2 : a⁻¹ ≠ 0 := fun z => z_ne (p := p) (by rw [← h1, z]; grind)
    have h3 := zn_pow_inv h2
    rw [← zinv_def h2] at h3
    have : a * (a⁻¹ * a⁻¹⁻¹) = a * 1 := by rw [h3]
    rw [← Semiring.mul_assoc, h1, Semiring.one_mul, Semiring.mul_one] at this
    exact this
instance : Field (Zp p) where
  div_eq_mul_inv _ _ := rfl
  zero_ne_one := z_ne
  inv_zero := zinv_0
  mul_inv_cancel h := by rw [zinv_def h]; exact zn_pow_inv h
  zpow_zero a := Semiring.pow_zero a
  zpow_succ a n := Semiring.pow_succ a n
  zpow_neg a n := by
    cases n with
    | ofNat n => cases n with
      | zero =>
        show (a ^ (0 : Nat)) = (a ^ (0 : Nat))⁻¹
        rw [Semiring.pow_zero, zinv_def z_ne.symm]
        have := zn_pow_inv (p := p) z_ne.symm
        rw [Semiring.one_mul] at this
        exact this.symm
      | succ n => rfl
    | negSucc n => exact (zinv_inv _).symm
theorem mod_of {a b : Int} (h : zc p a = zc p b) : a % p = b % p := zc_ext.mp h
theorem mod_is {a b : Int} (h : zc p a = zc p b) (b0 : 0 ≤ b) (b1 : b < p) : a % p = b := by rw [mod_of h, Int.emod_eq_of_lt b0 b1]
example (a b c : Int) : (a * b % p + c) * a % p = (a * a * b + (c % p) * a) % p := mod_of (by simp only [zc_add, zc_mul, zc_mod]; grind)
end
end Mz
set_option Elab.async false
set_option linter.all false
set_option maxRecDepth 100000
set_option maxHeartbeats 1000000
namespace Px
open PySem Mz
class PrL (p : Nat) : Prop extends PrC p where
  pl : primeP p = true
  p5 : 5 ≤ p
  pM : p ≤ 2147483647
section
variable {p : Nat} [hp : PrL p] {m : Mem}
def zr (a : Zp p) : Int := ((show Fin p from a).val : Int)
theorem zr_0le (a : Zp p) : 0 ≤ zr a := Int.natCast_nonneg _
theorem zr_lt (a : Zp p) : zr a < p := by have := (show Fin p from a).isLt; unfold zr; omega
theorem zc_zr (a : Zp p) : zc p (zr a) = a := by unfold zr; rw [zc_n, zn_surj]
theorem zr_zc (x : Int) : zr (zc p x) = x % p := by
  have h := hp.p5
  exact (mod_is (a := x) (b := zr (zc p x)) (zc_zr _).symm (zr_0le _) (zr_lt _)).symm
theorem zr_of {x : Int} (h0 : 0 ≤ x) (h1 : x < p) : zr (zc p x) = x := by rw [zr_zc, Int.emod_eq_of_lt h0 h1]
theorem zr_inj {a b : Zp p} (h : zr a = zr b) : a = b := by rw [← zc_zr a, h, zc_zr]
theorem zr_iff {a b : Zp p} : zr a = zr b ↔ a = b := ⟨zr_inj, fun h => by rw [h]⟩
theorem zr_0 : zr (0 : Zp p) = 0 := by rw [← zc_0, zr_zc]; exact Int.zero_emod _
theorem zr_1 : zr (1 : Zp p) = 1 := by rw [← zc_1, zr_of (by omega) (by have := hp.p5; omega)]
theorem zr_eq0 {a : Zp p} : zr a = 0 ↔ a = 0 := by rw [← zr_0 (p := p), zr_iff]
theorem p_pos : (0 : Int) < (p : Int) := by have := hp.p5; omega
abbrev nvs (l : List (Zp p)) : List PV := l.map fun a => PV.int (zr a)
abbrev tv (l : List (Zp p)) : PV := .tup (nvs l)
theorem zr_nat (a : Zp p) : (zr a).natAbs < 2 ^ 31 := by
  have h0 := zr_0le a; have h1 := zr_lt a; have := hp.pM; omega
theorem mod_p (x : Int) : opBin m .mod (.int x) (.int p) = .ok (.int (zr (zc p x))) m := by rw [mod_ii p_pos, zr_zc]
end
def Sm (k : Nat) (i : Int) : Prop := i.natAbs < 2 ^ k
theorem Sm.log {k : Nat} {i : Int} (h : Sm k i) : i.natAbs.log2 ≤ k := by
  by_cases h0 : i.natAbs = 0
  · rw [h0]; simp
  · exact Nat.le_of_lt ((Nat.log2_lt h0).mpr h)
theorem Sm.mono {k l : Nat} {i : Int} (h : Sm k i) (hl : k ≤ l) : Sm l i := Nat.lt_of_lt_of_le h (Nat.pow_le_pow_right (by decide) hl)
theorem Sm.add {k l : Nat} {i j : Int} (h : Sm k i) (g : Sm l j) : Sm (max k l + 1) (i + j) := by
  have h := h.mono (Nat.le_max_left k l); have g := g.mono (Nat.le_max_right k l)
  unfold Sm at *
  rw [Nat.pow_succ]
  have := Int.natAbs_add_le i j
  omega
theorem Sm.neg {k : Nat} {i : Int} (h : Sm k i) : Sm k (-i) := by unfold Sm at *; rwa [Int.natAbs_neg]
theorem Sm.sub {k l : Nat} {i j : Int} (h : Sm k i) (g : Sm l j) : Sm (max k l + 1) (i - j) := by rw [Int.sub_eq_add_neg]; exact h.add g.neg
theorem Sm.mul {k l : Nat} {i j : Int} (h : Sm k i) (g : Sm l j) : Sm (k + l) (i * j) := by
  unfold Sm at *
  rw [Int.natAbs_mul, Nat.pow_add]
  by_cases z : j.natAbs = 0
  · rw [z, Nat.mul_zero]; exact Nat.mul_pos (Nat.pow_pos (by decide)) (Nat.pow_pos (by decide))
  · exact Nat.mul_lt_mul'' h g
theorem Sm.zr {p : Nat} [PrL p] (a : Zp p) : Sm 31 (Px.zr a) := zr_nat a
theorem Sm.lit {k : Nat} {i : Int} (h : decide (i.natAbs < 2 ^ k) = true) : Sm k i := by unfold Sm; exact of_decide_eq_true h
theorem mul_sm {m : Mem} {k l : Nat} {i j : Int} (h : Sm k i) (g : Sm l j) (q : k + l < 1000000) : opBin m .mul (.int i) (.int j) = .ok (.int (i * j)) m := mul_ii (by have := h.log; have := g.log; omega)
class SmC (k : outParam Nat) (i : Int) : Prop where sm : Sm k i
section
variable {p : Nat} [PrL p] {k l : Nat} {i j : Int}
instance (a : Zp p) : SmC 31 (zr a) := ⟨.zr a⟩
instance : SmC 31 (p : Int) := ⟨by have := PrL.pM (p := p); unfold Sm; omega⟩
instance [h : SmC k i] [g : SmC l j] : SmC (max k l + 1) (i + j) := ⟨h.sm.add g.sm⟩
instance [h : SmC k i] [g : SmC l j] : SmC (max k l + 1) (i - j) := ⟨h.sm.sub g.sm⟩
instance [h : SmC k i] : SmC k (-i) := ⟨h.sm.neg⟩
instance [h : SmC k i] [g : SmC l j] : SmC (k + l) (i * j) := ⟨h.sm.mul g.sm⟩
instance : SmC 1 0 := ⟨.lit rfl⟩
instance : SmC 1 1 := ⟨.lit rfl⟩
instance : SmC 2 2 := ⟨.lit rfl⟩
instance : SmC 2 3 := ⟨.lit rfl⟩
instance : SmC 3 4 := ⟨.lit rfl⟩
instance : SmC 3 6 := ⟨.lit rfl⟩
theorem mul_c {m : Mem} [h : SmC k i] [g : SmC l j] (q : k + l < 1000000) : opBin m .mul (.int i) (.int j) = .ok (.int (i * j)) m := mul_sm h.sm g.sm q
end
theorem frGo_rel {bind : PV → Env → Mem → Res Env} {body : Env → Mem → RS} (P : Nat → Env → Mem → Prop) : ∀ (xs : List PV) (i0 : Nat) {η : Env} {m : Mem}, P i0 η m →
    (∀ i (h : i < xs.length) η m, P (i0 + i) η m → ∃ η1 m1 η2 m2, bind xs[i] η m = .ok η1 m1 ∧ body η1 m1 = .nx η2 m2 ∧ P (i0 + i + 1) η2 m2) →
    ∃ η' m', frGo [] bind body xs η m = .nx η' m' ∧ P (i0 + xs.length) η' m'
  | [], i0, η, m, h0, _ => ⟨η, m, rfl, h0⟩
  | x :: xs, i0, η, m, h0, hs => by
    obtain ⟨η1, m1, η2, m2, e1, e2, h2⟩ := hs 0 (by simp) η m h0
    obtain ⟨η', m', e3, h3⟩ := frGo_rel P xs (i0 + 1) (η := η2) (m := m2) h2 fun i h η m hP => by
      have := hs (i + 1) (by simpa using h) η m (by rw [show i0 + (i + 1) = i0 + 1 + i from by omega]; exact hP)
      rw [show i0 + (i + 1) = i0 + 1 + i from by omega] at this
      exact this
    refine ⟨η', m', ?_, by rw [show i0 + (x :: xs).length = i0 + 1 + xs.length from by simp; omega]; exact h3⟩
    have e1' : bind x η m = .ok η1 m1 := e1
    rw [eJ, e1', Res.st_ok, e2, loopK_nx, e3]
theorem frGo_fold {α σ υ : Type} {bind : PV → Env → Mem → Res Env} {body : Env → Mem → RS} (f : α → PV) (st : σ → υ → Env) (M : σ → Mem) (step : σ → α → σ) (P : σ → Prop) : ∀ (ys : List α) (s : σ) (u : υ), P s →
    (∀ s u, ∀ y ∈ ys, P s → P (step s y) ∧ ∃ η1 u', bind (f y) (st s u) (M s) = .ok η1 (M s) ∧ body η1 (M s) = .nx (st (step s y) u') (M (step s y))) →
    P (ys.foldl step s) ∧ ∃ u', frGo [] bind body (ys.map f) (st s u) (M s) = .nx (st (ys.foldl step s) u') (M (ys.foldl step s))
  | [], s, u, h0, _ => ⟨h0, u, rfl⟩
  | y :: ys, s, u, h0, hs => by
    obtain ⟨p1, η1, u1, e1, e2⟩ := hs s u y List.mem_cons_self h0
    obtain ⟨p2, u2, e3⟩ := frGo_fold f st M step P ys (step s y) u1 p1 fun s u y hy => hs s u y (List.mem_cons_of_mem _ hy)
    refine ⟨p2, u2, ?_⟩
    rw [List.map_cons, eJ, e1, Res.st_ok, e2, loopK_nx, e3, List.foldl_cons]
theorem lcGo_map {α : Type} {bind : PV → Env → Mem → Res Env} {cnd : Env → Mem → Res Bool} {el : Env → Mem → Res PV} {η : Env} {m : Mem} (f g : α → PV) : ∀ (ys : List α), (∀ y ∈ ys, ∃ η1, bind (f y) η m = .ok η1 m ∧ cnd η1 m = .ok true m ∧ el η1 m = .ok (g y) m) →
    lcGo [] bind cnd el η (ys.map f) m = .ok (ys.map g) m
  | [], _ => rfl
  | y :: ys, h => by
    obtain ⟨η1, h1, h2, h3⟩ := h y List.mem_cons_self
    have ih := lcGo_map (cnd := cnd) (el := el) f g ys fun z hz => h z (List.mem_cons_of_mem _ hz)
    rw [List.map_cons, eL, h1, Res.bind_ok, h2, Res.bind_ok, if_pos rfl, h3, Res.bind_ok, ih]; rfl
theorem lcGo_none {bind : PV → Env → Mem → Res Env} {cnd : Env → Mem → Res Bool} {el : Env → Mem → Res PV} {η : Env} {m : Mem} : ∀ (xs : List PV), (∀ x ∈ xs, ∃ η1, bind x η m = .ok η1 m ∧ cnd η1 m = .ok false m) → lcGo [] bind cnd el η xs m = .ok [] m
  | [], _ => rfl
  | x :: xs, h => by
    obtain ⟨η1, h1, h2⟩ := h x List.mem_cons_self
    rw [eL, h1, Res.bind_ok, h2, Res.bind_ok, if_neg Bool.false_ne_true, lcGo_none xs fun z hz => h z (List.mem_cons_of_mem _ hz)]
theorem lcGo_rel {bind : PV → Env → Mem → Res Env} {cnd : Env → Mem → Res Bool} {el : Env → Mem → Res PV} {η : Env} (P : Nat → List PV → Mem → Prop) : ∀ (xs : List PV) (i0 : Nat) (ws : List PV) {m : Mem}, P i0 ws m →
    (∀ i (h : i < xs.length) ws m, P (i0 + i) ws m → ∃ η1 m1 v m2, bind xs[i] η m = .ok η1 m1 ∧ cnd η1 m1 = .ok true m1 ∧ el η1 m1 = .ok v m2 ∧ P (i0 + i + 1) (ws ++ [v]) m2) →
    ∃ vs m', lcGo [] bind cnd el η xs m = .ok vs m' ∧ P (i0 + xs.length) (ws ++ vs) m'
  | [], i0, ws, m, h0, _ => ⟨[], m, rfl, by simpa using h0⟩
  | x :: xs, i0, ws, m, h0, hs => by
    obtain ⟨η1, m1, v, m2, e1, e2, e3, h2⟩ := hs 0 (by simp) ws m h0
    obtain ⟨vs, m', e4, h3⟩ := lcGo_rel (cnd := cnd) (el := el) P xs (i0 + 1) (ws ++ [v]) (m := m2) h2 fun i h ws m hP => by
      have := hs (i + 1) (by simpa using h) ws m (by rw [show i0 + (i + 1) = i0 + 1 + i from by omega]; exact hP)
      rw [show i0 + (i + 1) = i0 + 1 + i from by omega] at this
      exact this
    refine ⟨v :: vs, m', ?_, by rw [show i0 + (x :: xs).length = i0 + 1 + xs.length from by simp; omega]; simpa using h3⟩
    have e1' : bind x η m = .ok η1 m1 := e1
    rw [eL, e1', Res.bind_ok, e2, Res.bind_ok, if_pos rfl, e3, Res.bind_ok, e4]; rfl
theorem okLen_le {xs : List PV} {m : Mem} (h : xs.length ≤ LINE) : okLen xs m = .ok xs m := by rw [okLen, if_pos h]
theorem tupP_le {xs : List PV} {m : Mem} (h : xs.length ≤ LINE) : tupP m xs = .ok (.tup xs) m := by rw [tupP, if_pos h]
theorem hJ (m : Mem) : okLen [] m = .ok [] m := okLen_le (by simp [LINE])
theorem hU (m : Mem) : tupP m [] = .ok (.tup []) m := tupP_le (by simp [LINE])
theorem hW (m : Mem) (a0 : PV) : okLen [a0] m = .ok [a0] m := okLen_le (by simp [LINE])
theorem hX (m : Mem) (a0 : PV) : tupP m [a0] = .ok (.tup [a0]) m := tupP_le (by simp [LINE])
theorem hZ (m : Mem) (a0 a1 : PV) : okLen [a0, a1] m = .ok [a0, a1] m := okLen_le (by simp [LINE])
theorem iA (m : Mem) (a0 a1 a2 : PV) : okLen [a0, a1, a2] m = .ok [a0, a1, a2] m := okLen_le (by simp [LINE])
theorem iB (m : Mem) (a0 a1 a2 : PV) : tupP m [a0, a1, a2] = .ok (.tup [a0, a1, a2]) m := tupP_le (by simp [LINE])
theorem iC (m : Mem) (a0 a1 a2 a3 : PV) : okLen [a0, a1, a2, a3] m = .ok [a0, a1, a2, a3] m := okLen_le (by simp [LINE])
theorem iD (m : Mem) (a0 a1 a2 a3 : PV) : tupP m [a0, a1, a2, a3] = .ok (.tup [a0, a1, a2, a3]) m := tupP_le (by simp [LINE])
theorem iE (m : Mem) (a0 a1 a2 a3 a4 : PV) : okLen [a0, a1, a2, a3, a4] m = .ok [a0, a1, a2, a3, a4] m := okLen_le (by simp [LINE])
theorem iF (m : Mem) (a0 a1 a2 a3 a4 : PV) : tupP m [a0, a1, a2, a3, a4] = .ok (.tup [a0, a1, a2, a3, a4]) m := tupP_le (by simp [LINE])
theorem iG (m : Mem) (a0 a1 a2 a3 a4 a5 : PV) : okLen [a0, a1, a2, a3, a4, a5] m = .ok [a0, a1, a2, a3, a4, a5] m := okLen_le (by simp [LINE])
theorem iH (m : Mem) (a0 a1 a2 a3 a4 a5 : PV) : tupP m [a0, a1, a2, a3, a4, a5] = .ok (.tup [a0, a1, a2, a3, a4, a5]) m := tupP_le (by simp [LINE])
theorem iI (m : Mem) (a0 a1 a2 a3 a4 a5 a6 : PV) : okLen [a0, a1, a2, a3, a4, a5, a6] m = .ok [a0, a1, a2, a3, a4, a5, a6] m := okLen_le (by simp [LINE])
theorem iJ (m : Mem) (a0 a1 a2 a3 a4 a5 a6 : PV) : tupP m [a0, a1, a2, a3, a4, a5, a6] = .ok (.tup [a0, a1, a2, a3, a4, a5, a6]) m := tupP_le (by simp [LINE])
theorem iK (m : Mem) (a0 a1 a2 a3 a4 a5 a6 a7 : PV) : okLen [a0, a1, a2, a3, a4, a5, a6, a7] m = .ok [a0, a1, a2, a3, a4, a5, a6, a7] m := okLen_le (by simp [LINE])
theorem iL (m : Mem) (a0 a1 a2 a3 a4 a5 a6 a7 : PV) : tupP m [a0, a1, a2, a3, a4, a5, a6, a7] = .ok (.tup [a0, a1, a2, a3, a4, a5, a6, a7]) m := tupP_le (by simp [LINE])
theorem iM (m : Mem) (a0 a1 a2 a3 a4 a5 a6 a7 a8 : PV) : okLen [a0, a1, a2, a3, a4, a5, a6, a7, a8] m = .ok [a0, a1, a2, a3, a4, a5, a6, a7, a8] m := okLen_le (by simp [LINE])
theorem iN (m : Mem) (a0 a1 a2 a3 a4 a5 a6 a7 a8 : PV) : tupP m [a0, a1, a2, a3, a4, a5, a6, a7, a8] = .ok (.tup [a0, a1, a2, a3, a4, a5, a6, a7, a8]) m := tupP_le (by simp [LINE])
theorem iO (m : Mem) (a0 a1 a2 a3 a4 a5 a6 a7 a8 a9 : PV) : okLen [a0, a1, a2, a3, a4, a5, a6, a7, a8, a9] m = .ok [a0, a1, a2, a3, a4, a5, a6, a7, a8, a9] m := okLen_le (by simp [LINE])
theorem iP (m : Mem) (a0 a1 a2 a3 a4 a5 a6 a7 a8 a9 : PV) : tupP m [a0, a1, a2, a3, a4, a5, a6, a7, a8, a9] = .ok (.tup [a0, a1, a2, a3, a4, a5, a6, a7, a8, a9]) m := tupP_le (by simp [LINE])
theorem iQ (m : Mem) (a0 a1 a2 a3 a4 a5 a6 a7 a8 a9 a10 : PV) : okLen [a0, a1, a2, a3, a4, a5, a6, a7, a8, a9, a10] m = .ok [a0, a1, a2, a3, a4, a5, a6, a7, a8, a9, a10] m := okLen_le (by simp [LINE])
theorem iR (m : Mem) (a0 a1 a2 a3 a4 a5 a6 a7 a8 a9 a10 : PV) : tupP m [a0, a1, a2, a3, a4, a5, a6, a7, a8, a9, a10] = .ok (.tup [a0, a1, a2, a3, a4, a5, a6, a7, a8, a9, a10]) m := tupP_le (by simp [LINE])
theorem iS (m : Mem) (a0 a1 a2 a3 a4 a5 a6 a7 a8 a9 a10 a11 : PV) : okLen [a0, a1, a2, a3, a4, a5, a6, a7, a8, a9, a10, a11] m = .ok [a0, a1, a2, a3, a4, a5, a6, a7, a8, a9, a10, a11] m := okLen_le (by simp [LINE])
theorem iT (m : Mem) (a0 a1 a2 a3 a4 a5 a6 a7 a8 a9 a10 a11 a12 : PV) : okLen [a0, a1, a2, a3, a4, a5, a6, a7, a8, a9, a10, a11, a12] m = .ok [a0, a1, a2, a3, a4, a5, a6, a7, a8, a9, a10, a11, a12] m := okLen_le (by simp [LINE])
theorem iU (m : Mem) (a0 a1 a2 a3 a4 a5 a6 a7 a8 a9 a10 a11 a12 a13 : PV) : okLen [a0, a1, a2, a3, a4, a5, a6, a7, a8, a9, a10, a11, a12, a13] m = .ok [a0, a1, a2, a3, a4, a5, a6, a7, a8, a9, a10, a11, a12, a13] m := okLen_le (by simp [LINE])
theorem iV (m : Mem) (a0 a1 a2 a3 a4 a5 a6 a7 a8 a9 a10 a11 a12 a13 a14 : PV) : okLen [a0, a1, a2, a3, a4, a5, a6, a7, a8, a9, a10, a11, a12, a13, a14] m = .ok [a0, a1, a2, a3, a4, a5, a6, a7, a8, a9, a10, a11, a12, a13, a14] m := okLen_le (by simp [LINE])
theorem iW (m : Mem) (a0 a1 a2 a3 a4 a5 a6 a7 a8 a9 a10 a11 a12 a13 a14 a15 : PV) : okLen [a0, a1, a2, a3, a4, a5, a6, a7, a8, a9, a10, a11, a12, a13, a14, a15] m = .ok [a0, a1, a2, a3, a4, a5, a6, a7, a8, a9, a10, a11, a12, a13, a14, a15] m := okLen_le (by simp [LINE])
theorem iX (m : Mem) (a0 a1 a2 a3 a4 a5 a6 a7 a8 a9 a10 a11 a12 a13 a14 a15 a16 : PV) : okLen [a0, a1, a2, a3, a4, a5, a6, a7, a8, a9, a10, a11, a12, a13, a14, a15, a16] m = .ok [a0, a1, a2, a3, a4, a5, a6, a7, a8, a9, a10, a11, a12, a13, a14, a15, a16] m := okLen_le (by simp [LINE])
theorem iY (m : Mem) (a0 a1 a2 a3 a4 a5 a6 a7 a8 a9 a10 a11 a12 a13 a14 a15 a16 a17 : PV) : okLen [a0, a1, a2, a3, a4, a5, a6, a7, a8, a9, a10, a11, a12, a13, a14, a15, a16, a17] m = .ok [a0, a1, a2, a3, a4, a5, a6, a7, a8, a9, a10, a11, a12, a13, a14, a15, a16, a17] m := okLen_le (by simp [LINE])
theorem iZ (m : Mem) (a0 a1 a2 a3 a4 a5 a6 a7 a8 a9 a10 a11 a12 a13 a14 a15 a16 a17 a18 : PV) : okLen [a0, a1, a2, a3, a4, a5, a6, a7, a8, a9, a10, a11, a12, a13, a14, a15, a16, a17, a18] m = .ok [a0, a1, a2, a3, a4, a5, a6, a7, a8, a9, a10, a11, a12, a13, a14, a15, a16, a17, a18] m := okLen_le (by simp [LINE])
theorem jA (m : Mem) (a0 a1 a2 a3 a4 a5 a6 a7 a8 a9 a10 a11 a12 a13 a14 a15 a16 a17 a18 a19 : PV) : okLen [a0, a1, a2, a3, a4, a5, a6, a7, a8, a9, a10, a11, a12, a13, a14, a15, a16, a17, a18, a19] m = .ok [a0, a1, a2, a3, a4, a5, a6, a7, a8, a9, a10, a11, a12, a13, a14, a15, a16, a17, a18, a19] m := okLen_le (by simp [LINE])
theorem jB (m : Mem) (a0 a1 a2 a3 a4 a5 a6 a7 a8 a9 a10 a11 a12 a13 a14 a15 a16 a17 a18 a19 a20 : PV) : okLen [a0, a1, a2, a3, a4, a5, a6, a7, a8, a9, a10, a11, a12, a13, a14, a15, a16, a17, a18, a19, a20] m = .ok [a0, a1, a2, a3, a4, a5, a6, a7, a8, a9, a10, a11, a12, a13, a14, a15, a16, a17, a18, a19, a20] m := okLen_le (by simp [LINE])
theorem jC (m : Mem) (a0 a1 a2 a3 a4 a5 a6 a7 a8 a9 a10 a11 a12 a13 a14 a15 a16 a17 a18 a19 a20 a21 : PV) : okLen [a0, a1, a2, a3, a4, a5, a6, a7, a8, a9, a10, a11, a12, a13, a14, a15, a16, a17, a18, a19, a20, a21] m = .ok [a0, a1, a2, a3, a4, a5, a6, a7, a8, a9, a10, a11, a12, a13, a14, a15, a16, a17, a18, a19, a20, a21] m := okLen_le (by simp [LINE])
theorem jD (m : Mem) (a0 a1 a2 a3 a4 a5 a6 a7 a8 a9 a10 a11 a12 a13 a14 a15 a16 a17 a18 a19 a20 a21 a22 : PV) : okLen [a0, a1, a2, a3, a4, a5, a6, a7, a8, a9, a10, a11, a12, a13, a14, a15, a16, a17, a18, a19, a20, a21, a22] m = .ok [a0, a1, a2, a3, a4, a5, a6, a7, a8, a9, a10, a11, a12, a13, a14, a15, a16, a17, a18, a19, a20, a21, a22] m := okLen_le (by simp [LINE])
end Px
set_option Elab.async false
set_option linter.all false
set_option maxRecDepth 100000
set_option maxHeartbeats 1000000
namespace Px
open PySem Mz
def B.is_integer : List St := [
  .ret (some (.and_ (.bf .isi [.var 0, .ty "int"]) (.not_ (.bf .isi [.var 0, .ty "bool"]))))]
def At.is_integer (ds : List Def) (i : Nat) : Prop := ∃ (N : List Str), N.length = 1 ∧ ds[i]? = some ⟨N, 1, B.is_integer⟩
def B.is_from (c_is_integer : Nat) : List St := [
  .ret (some (.and_ (.call c_is_integer [.var 0]) (.chn .le .le (.var 1) (.var 0) (.var 2))))]
def At.is_from (ds : List Def) (i : Nat) : Prop := ∃ (N : List Str), ∃ (c_is_integer : Nat), N.length = 3 ∧ ds[i]? = some ⟨N, 3, B.is_from c_is_integer⟩ ∧ At.is_integer ds c_is_integer
def B.raised : List St := [
  .par [3, 1] [.int 1, .bin .mod (.var 1) (.var 0)],
  .whl (.cmp .gt (.var 2) (.int 0)) [.iff (.cmp .eq (.bin .mod (.var 2) (.int 2)) (.int 1)) [.asg (.nm 3) (.bin .mod (.bin .mul (.var 3) (.var 1)) (.var 0))] [], .par [1, 2] [.bin .mod (.bin .mul (.var 1) (.var 1)) (.var 0), .bin .fdv (.var 2) (.int 2)]],
  .ret (some (.var 3))]
def At.raised (ds : List Def) (i : Nat) : Prop := ∃ (N : List Str), N.length = 4 ∧ ds[i]? = some ⟨N, 3, B.raised⟩
def B.passes (c_raised : Nat) : List St := [
  .par [2, 3] [.bin .sub (.var 0) (.int 1), .int 0],
  .whl (.cmp .eq (.bin .mod (.var 2) (.int 2)) (.int 0)) [.par [2, 3] [.bin .fdv (.var 2) (.int 2), .bin .add (.var 3) (.int 1)]],
  .asg (.nm 4) (.call c_raised [.var 0, .var 1, .var 2]),
  .iff (.cmp .inn (.var 4) (.tup [.int 1, .bin .sub (.var 0) (.int 1)])) [.ret (some (.bl true))] [],
  .for_ (.nm 5) (.rg1 (.bin .sub (.var 3) (.int 1))) [.asg (.nm 4) (.bin .mod (.bin .mul (.var 4) (.var 4)) (.var 0)), .iff (.cmp .eq (.var 4) (.bin .sub (.var 0) (.int 1))) [.ret (some (.bl true))] []],
  .ret (some (.bl false))]
def At.passes (ds : List Def) (i : Nat) : Prop := ∃ (N : List Str), ∃ (c_raised : Nat), N.length = 6 ∧ ds[i]? = some ⟨N, 2, B.passes c_raised⟩ ∧ At.raised ds c_raised
def B.is_prime (c_is_from c_passes : Nat) (x_MOST_PRIME x_BASES : Str) : List St := [
  .iff (.not_ (.call c_is_from [.var 0, .int 5, .gl x_MOST_PRIME (PV.int 2147483647)])) [.ret (some (.bl false))] [],
  .iff (.cmp .inn (.var 0) (.gl x_BASES (PV.tup [PV.int 2, PV.int 3, PV.int 5, PV.int 7]))) [.ret (some (.bl true))] [],
  .iff (.bf .any [.pl (.cp [1] (.nm 1) (.sq (.gl x_BASES (PV.tup [PV.int 2, PV.int 3, PV.int 5, PV.int 7]))) none (.cmp .eq (.bin .mod (.var 0) (.var 1)) (.int 0)))]) [.ret (some (.bl false))] [],
  .ret (some (.bf .all [.pl (.cp [1] (.nm 1) (.sq (.gl x_BASES (PV.tup [PV.int 2, PV.int 3, PV.int 5, PV.int 7]))) none (.call c_passes [.var 0, .var 1]))]))]
def At.is_prime (ds : List Def) (i : Nat) : Prop := ∃ (N : List Str), ∃ (c_is_from c_passes : Nat), ∃ (x_MOST_PRIME x_BASES : Str), N.length = 2 ∧ ds[i]? = some ⟨N, 1, B.is_prime c_is_from c_passes x_MOST_PRIME x_BASES⟩ ∧ At.is_from ds c_is_from ∧ At.passes ds c_passes
def B.need_prime (c_is_prime : Nat) : List St := [
  .iff (.or_ (.not_ (.call c_is_prime [.var 0])) (.cmp .lt (.var 0) (.var 1))) [.rai "" []] []]
def At.need_prime (ds : List Def) (i : Nat) : Prop := ∃ (N : List Str), ∃ (c_is_prime : Nat), N.length = 2 ∧ ds[i]? = some ⟨N, 2, B.need_prime c_is_prime⟩ ∧ At.is_prime ds c_is_prime
def B.is_number (c_is_from : Nat) : List St := [
  .ret (some (.call c_is_from [.var 1, .int 0, .bin .sub (.var 0) (.int 1)]))]
def At.is_number (ds : List Def) (i : Nat) : Prop := ∃ (N : List Str), ∃ (c_is_from : Nat), N.length = 2 ∧ ds[i]? = some ⟨N, 2, B.is_number c_is_from⟩ ∧ At.is_from ds c_is_from
def B.need_number (c_is_number : Nat) : List St := [
  .iff (.not_ (.call c_is_number [.var 0, .var 1])) [.rai "" []] []]
def At.need_number (ds : List Def) (i : Nat) : Prop := ∃ (N : List Str), ∃ (c_is_number : Nat), N.length = 2 ∧ ds[i]? = some ⟨N, 2, B.need_number c_is_number⟩ ∧ At.is_number ds c_is_number
def B.are_numbers (c_is_number : Nat) : List St := [
  .ret (some (.and_ (.bf .isi [.var 1, .ty "tuple"]) (.and_ (.chn .le .le (.var 2) (.bf .len [.var 1]) (.var 3)) (.bf .all [.pl (.cp [4] (.nm 4) (.sq (.var 1)) none (.call c_is_number [.var 0, .var 4]))]))))]
def At.are_numbers (ds : List Def) (i : Nat) : Prop := ∃ (N : List Str), ∃ (c_is_number : Nat), N.length = 5 ∧ ds[i]? = some ⟨N, 4, B.are_numbers c_is_number⟩ ∧ At.is_number ds c_is_number
def B.turned_over (c_raised : Nat) : List St := [
  .ret (some (.call c_raised [.var 0, .var 1, .bin .sub (.var 0) (.int 2)]))]
def At.turned_over (ds : List Def) (i : Nat) : Prop := ∃ (N : List Str), ∃ (c_raised : Nat), N.length = 2 ∧ ds[i]? = some ⟨N, 2, B.turned_over c_raised⟩ ∧ At.raised ds c_raised
def B._law_taken : List St := [
  .iff (.cmp .gt (.idx (.var 0) (.int 3)) (.int 0)) [.asg (.nm 2) (.bin .mod (.bf .int [.idx (.var 0) (.int 3)]) (.var 1)), .asg (.ix (.var 0) (.int 3)) (.bin .fdv (.idx (.var 0) (.int 3)) (.var 1)), .ret (some (.var 2))] [],
  .asg (.ix (.var 0) (.int 1)) (.bin .add (.idx (.var 0) (.int 1)) (.int 1)),
  .iff (.cmp .gt (.idx (.var 0) (.int 1)) (.bf .len [.idx (.var 0) (.int 0)])) [.asg (.ix (.var 0) (.int 2)) (.bin .mod (.bf .int [.bin .add (.bin .mul (.idx (.var 0) (.int 2)) (.int 48271)) (.int 11)]) (.int 2147483647)), .ret (some (.bin .mod (.bf .int [.bin .fdv (.idx (.var 0) (.int 2)) (.int 7)]) (.var 1)))] [],
  .asg (.nm 3) (.idx (.idx (.var 0) (.int 0)) (.bin .sub (.idx (.var 0) (.int 1)) (.int 1))),
  .asg (.ix (.var 0) (.int 2)) (.bin .mod (.bf .int [.bin .add (.bin .add (.bin .mul (.idx (.var 0) (.int 2)) (.int 48271)) (.var 3)) (.int 11)]) (.int 2147483647)),
  .iff (.cmp .ge (.var 3) (.bin .pow (.int 10) (.int 18))) [.asg (.ix (.var 0) (.int 3)) (.bin .fdv (.var 3) (.var 1))] [],
  .ret (some (.bin .mod (.bf .int [.var 3]) (.var 1)))]
def At._law_taken (ds : List Def) (i : Nat) : Prop := ∃ (N : List Str), N.length = 4 ∧ ds[i]? = some ⟨N, 2, B._law_taken⟩
def B._law_pick (c__law_taken : Nat) : List St := [
  .ret (some (.idx (.var 1) (.call c__law_taken [.var 0, .bf .len [.var 1]])))]
def At._law_pick (ds : List Def) (i : Nat) : Prop := ∃ (N : List Str), ∃ (c__law_taken : Nat), N.length = 2 ∧ ds[i]? = some ⟨N, 2, B._law_pick c__law_taken⟩ ∧ At._law_taken ds c__law_taken
def B._law_alike (c__law_alike : Nat) : List St := [
  .iff (.bf .isi [.var 1, .tup [.ty "tuple", .ty "list"]]) [.iff (.or_ (.not_ (.bf .isi [.var 0, .tup [.ty "tuple", .ty "list"]])) (.cmp .ne (.bf .isi [.var 0, .ty "list"]) (.bf .isi [.var 1, .ty "list"]))) [.ret (some (.bl false))] [], .iff (.cmp .ne (.bf .len [.var 0]) (.bf .len [.var 1])) [.ret (some (.bl false))] [], .ret (some (.cmp .eq (.pl (.cp [2] (.nm 2) (.rg1 (.bf .len [.var 1])) (some (.not_ (.call c__law_alike [.idx (.var 0) (.var 2), .idx (.var 1) (.var 2)]))) (.var 2))) (.pl (.dsp []))))] [],
  .iff (.bf .isi [.var 1, .ty "dict"]) [.iff (.or_ (.not_ (.bf .isi [.var 0, .ty "dict"])) (.cmp .ne (.pl (.srt (.var 0))) (.pl (.srt (.var 1))))) [.ret (some (.bl false))] [], .ret (some (.cmp .eq (.pl (.cp [3] (.nm 3) (.sq (.var 1)) (some (.not_ (.call c__law_alike [.idx (.var 0) (.var 3), .idx (.var 1) (.var 3)]))) (.var 3))) (.pl (.dsp []))))] [],
  .iff (.or_ (.cmp .is (.var 1) (.non)) (.bf .isi [.var 1, .ty "str"])) [.ret (some (.and_ (.cmp .eq (.var 0) (.var 1)) (.cmp .eq (.bf .isi [.var 0, .ty "str"]) (.bf .isi [.var 1, .ty "str"]))))] [],
  .ret (some (.and_ (.bf .isi [.var 0, .ty "int"]) (.and_ (.cmp .eq (.bf .isi [.var 0, .ty "bool"]) (.bf .isi [.var 1, .ty "bool"])) (.cmp .eq (.var 0) (.var 1)))))]
def At._law_alike (ds : List Def) (i : Nat) : Prop := ∃ (N : List Str), N.length = 4 ∧ ds[i]? = some ⟨N, 2, B._law_alike i⟩
def B._law_prime (c__law_pick : Nat) : List St := [
  .ret (some (.call c__law_pick [.var 0, .pl (.dsp [.int 5, .int 5, .int 7, .int 7, .int 11, .int 13, .int 101, .int 65537, .int 2147483647])]))]
def At._law_prime (ds : List Def) (i : Nat) : Prop := ∃ (N : List Str), ∃ (c__law_pick : Nat), N.length = 1 ∧ ds[i]? = some ⟨N, 1, B._law_prime c__law_pick⟩ ∧ At._law_pick ds c__law_pick
def B._law_number (c__law_taken : Nat) : List St := [
  .asg (.nm 2) (.call c__law_taken [.var 0, .int 5]),
  .iff (.cmp .lt (.var 2) (.int 3)) [.ret (some (.idx (.pl (.dsp [.int 0, .int 1, .bin .sub (.var 1) (.int 1)])) (.var 2)))] [],
  .ret (some (.bin .mod (.bin .add (.bin .mul (.call c__law_taken [.var 0, .int 1000]) (.int 2147483)) (.call c__law_taken [.var 0, .int 1000])) (.var 1)))]
def At._law_number (ds : List Def) (i : Nat) : Prop := ∃ (N : List Str), ∃ (c__law_taken : Nat), N.length = 3 ∧ ds[i]? = some ⟨N, 2, B._law_number c__law_taken⟩ ∧ At._law_taken ds c__law_taken
def B._law_numbers (c__law_number : Nat) : List St := [
  .ret (some (.bf .tuple [.pl (.cp [3] (.nm 3) (.rg1 (.var 2)) none (.call c__law_number [.var 0, .var 1]))]))]
def At._law_numbers (ds : List Def) (i : Nat) : Prop := ∃ (N : List Str), ∃ (c__law_number : Nat), N.length = 4 ∧ ds[i]? = some ⟨N, 3, B._law_numbers c__law_number⟩ ∧ At._law_number ds c__law_number
def B._law_table (c__law_numbers : Nat) : List St := [
  .ret (some (.call c__law_numbers [.var 0, .var 1, .bin .shl (.int 1) (.var 2)]))]
def At._law_table (ds : List Def) (i : Nat) : Prop := ∃ (N : List Str), ∃ (c__law_numbers : Nat), N.length = 3 ∧ ds[i]? = some ⟨N, 3, B._law_table c__law_numbers⟩ ∧ At._law_numbers ds c__law_numbers
def B._law_inverse : List St := [
  .par [2, 3, 4] [.int 1, .bin .mod (.var 1) (.var 0), .bin .sub (.var 0) (.int 2)],
  .whl (.cmp .gt (.var 4) (.int 0)) [.iff (.cmp .eq (.bin .mod (.var 4) (.int 2)) (.int 1)) [.asg (.nm 2) (.bin .mod (.bin .mul (.var 2) (.var 3)) (.var 0))] [], .par [3, 4] [.bin .mod (.bin .mul (.var 3) (.var 3)) (.var 0), .bin .fdv (.var 4) (.int 2)]],
  .ret (some (.var 2))]
def At._law_inverse (ds : List Def) (i : Nat) : Prop := ∃ (N : List Str), N.length = 5 ∧ ds[i]? = some ⟨N, 2, B._law_inverse⟩
theorem call_at {ds : List Def} {i n np : Nat} {N : List Str} {b : List St} (hN : N.length = n) (h : ds[i]? = some ⟨N, np, b⟩) {k : Nat} {xs : List PV} {m : Mem} : callF ds (k + 1) i xs m = if xs.length = np then gcP m (retP (evSs (callF ds k) b (xs.map some ++ List.replicate (n - xs.length) none) m)) else .no := by rw [call_eq h, ← hN]; rfl
section
variable {ds : List Def} {k : Nat} {m rest : Mem} {p : Nat} [hp : PrL p]
theorem is_from_ok {i : Nat} (h : At.is_from ds i) (n lo hi : Int) : callF ds (k + 2) i [.int n, .int lo, .int hi] m = .ok (.bl (decide (lo ≤ n) && decide (n ≤ hi))) m := by
  obtain ⟨N, c, hN, h, Nc, hNc, hc⟩ := h; exact from_ok h hc n lo hi
theorem is_prime_p {i : Nat} (h : At.is_prime ds i) : callF ds (k + 3) i [.int p] m = .ok (.bl true) m := by
  obtain ⟨N, cf, cp, x1, x2, hN, h, ⟨Nf, ci, hNf, hf, Ni, hNi, hi⟩, Np, cr, hNp, hp', Nr, hNr, hr⟩ := h
  have := prime_ok (k := k) (m := m) hN hNp hNr h hf hi hp' hr p
  rw [PrL.pl] at this; exact this
theorem need_prime_p {i : Nat} (h : At.need_prime ds i) {least : Int} (hl : least ≤ p) : callF ds (k + 4) i [.int p, .int least] m = .ok .non m := by
  obtain ⟨N, c, hN, h, hc⟩ := h
  exact need_prime_ok hN h (is_prime_p hc) hl
theorem need_prime_5 {i : Nat} (h : At.need_prime ds i) : callF ds (k + 4) i [.int p, .int 5] m = .ok .non m := need_prime_p h (by have := hp.p5; omega)
theorem is_number_i {i : Nat} (h : At.is_number ds i) (n : Int) : callF ds (k + 3) i [.int p, .int n] m = .ok (.bl (decide (0 ≤ n) && decide (n ≤ p - 1))) m := by
  obtain ⟨N, c, hN, h, hc⟩ := h
  rw [call_at hN h]
  simp only [B.is_number, aB, aC, aD, aE, aF, aG, aH, aI, aJ, aK, aL, aM, aN, aO, aP, aQ, aR, aS, aT, aU, aV, aW, aX, aY, aZ, bA, bB, bC, bD, bE, bF, bG, bH, bI, bJ, bK, bL, bM, bN, bO, bP, bQ, bR, bS, bT, bU, bV, bW, bX, bY, bZ, cA, cB, cC, cD, cE, cF, cG, cH, cI, cJ, cK, cL, cM, cN, cO, cP, cQ, cR, cS, cT, cU, cW, cX, cY, cZ, dA, dB, dC, dD, dE, dF, dG, dH, dI, dJ, dL, dM, dN, dO, dP, dQ, dR, dS, dT, dU, dV, dW, dX, dY, dZ, eA, eB, eC, eE, eG, eH, eI, eJ, eK, eL, eM, eN, eO, eP, aA, eQ, eR, eS, eT, eU, eV, eW, eX, eY, eZ, fA, fB, fC, fE, fF, fG, fH, fI, fJ, fK, fL, fM, fN, fO, fP, fQ, fR, fS, fT, fU, fV, fW, fX, fY, Res.bind_ex, Res.bind_no, fZ, gA, Res.st_ex, Res.st_no, gB, gC, gD, gE, gF, gG, gH, gI, gJ, gK, List.set_cons_zero, List.set_cons_succ, List.length_cons, List.length_nil, List.map_cons, List.map_nil, List.replicate, List.cons_append, List.nil_append, Nat.reduceSub, Nat.reduceAdd, Nat.reduceLT, List.append_nil, if_true, if_false, Bool.false_eq_true, ite_true, ite_false, decide_true, decide_false, Bool.not_true, Bool.not_false, hJ, hU, hW, hX, hZ, iA, iB, iC, iD, iE, iF, iG, iH, iI, iJ, iK, iL, iM, iN, iO, iP, iQ, iR, iS, iT, iU, iV, iW, iX, iY, iZ, jA, jB, jC, jD, is_from_ok hc, aA]
theorem is_number_z {i : Nat} (h : At.is_number ds i) (a : Zp p) : callF ds (k + 3) i [.int p, .int (zr a)] m = .ok (.bl true) m := by
  rw [is_number_i h, decide_eq_true (zr_0le a), decide_eq_true (by have := zr_lt a; omega)]; rfl
theorem need_number_z {i : Nat} (h : At.need_number ds i) (a : Zp p) : callF ds (k + 4) i [.int p, .int (zr a)] m = .ok .non m := by
  obtain ⟨N, c, hN, h, hc⟩ := h
  rw [call_at hN h]
  simp only [B.need_number, aB, aC, aD, aE, aF, aG, aH, aI, aJ, aK, aL, aM, aN, aO, aP, aQ, aR, aS, aT, aU, aV, aW, aX, aY, aZ, bA, bB, bC, bD, bE, bF, bG, bH, bI, bJ, bK, bL, bM, bN, bO, bP, bQ, bR, bS, bT, bU, bV, bW, bX, bY, bZ, cA, cB, cC, cD, cE, cF, cG, cH, cI, cJ, cK, cL, cM, cN, cO, cP, cQ, cR, cS, cT, cU, cW, cX, cY, cZ, dA, dB, dC, dD, dE, dF, dG, dH, dI, dJ, dL, dM, dN, dO, dP, dQ, dR, dS, dT, dU, dV, dW, dX, dY, dZ, eA, eB, eC, eE, eG, eH, eI, eJ, eK, eL, eM, eN, eO, eP, aA, eQ, eR, eS, eT, eU, eV, eW, eX, eY, eZ, fA, fB, fC, fE, fF, fG, fH, fI, fJ, fK, fL, fM, fN, fO, fP, fQ, fR, fS, fT, fU, fV, fW, fX, fY, Res.bind_ex, Res.bind_no, fZ, gA, Res.st_ex, Res.st_no, gB, gC, gD, gE, gF, gG, gH, gI, gJ, gK, List.set_cons_zero, List.set_cons_succ, List.length_cons, List.length_nil, List.map_cons, List.map_nil, List.replicate, List.cons_append, List.nil_append, Nat.reduceSub, Nat.reduceAdd, Nat.reduceLT, List.append_nil, if_true, if_false, Bool.false_eq_true, ite_true, ite_false, decide_true, decide_false, Bool.not_true, Bool.not_false, hJ, hU, hW, hX, hZ, iA, iB, iC, iD, iE, iF, iG, iH, iI, iJ, iK, iL, iM, iN, iO, iP, iQ, iR, iS, iT, iU, iV, iW, iX, iY, iZ, jA, jB, jC, jD, is_number_z hc, aA]
theorem bf_all (m : Mem) (bs : List Bool) : opBf m .all [.lst (bs.map PV.bl)] = .ok (.bl (bs.all id)) m := by
  have : ∀ bs : List Bool, asTru (bs.map PV.bl) = some bs := fun bs => by induction bs with
    | nil => rfl
    | cons b bs ih => simp [asTru, ih]
  simp [opBf, asS, asL, this]
theorem srcSq_tup (m : Mem) (xs : List PV) : srcSq m (.tup xs) = .ok (xs, []) m := rfl
theorem isi_tup (m : Mem) (xs : List PV) : opBf m .isi [.tup xs, .ty "tuple"] = .ok (.bl true) m := by
  simp [opBf, tyOf, tyNm, isTy]
theorem len_tup (m : Mem) (xs : List PV) : opBf m .len [.tup xs] = .ok (.int xs.length) m := rfl
theorem are_numbers_i {i : Nat} (h : At.are_numbers ds i) (xs : List Int) (lo hi : Int) (hl : xs.length ≤ LINE) : callF ds (k + 4) i [.int p, .tup (xs.map PV.int), .int lo, .int hi] m =
    .ok (.bl ((decide (lo ≤ xs.length) && decide ((xs.length : Int) ≤ hi)) && xs.all fun n => decide (0 ≤ n) && decide (n ≤ p - 1))) m := by
  obtain ⟨N, c, hN, h, hc⟩ := h
  rw [call_at hN h]
  have e := lcGo_map (bind := bnd (callF ds (k + 3)) (.nm 4)) (cnd := evC (callF ds (k + 3)) none) (el := evE (callF ds (k + 3)) (.call c [.var 0, .var 4])) (η := [some (.int p), some (.tup (xs.map PV.int)), some (.int lo), some (.int hi), none]) (m := m) PV.int (fun n => PV.bl (decide (0 ≤ n) && decide (n ≤ p - 1))) xs fun y _ => ⟨[some (.int p), some (.tup (xs.map PV.int)), some (.int lo), some (.int hi), some (.int y)], by simp only [aB, aC, aD, aE, aF, aG, aH, aI, aJ, aK, aL, aM, aN, aO, aP, aQ, aR, aS, aT, aU, aV, aW, aX, aY, aZ, bA, bB, bC, bD, bE, bF, bG, bH, bI, bJ, bK, bL, bM, bN, bO, bP, bQ, bR, bS, bT, bU, bV, bW, bX, bY, bZ, cA, cB, cC, cD, cE, cF, cG, cH, cI, cJ, cK, cL, cM, cN, cO, cP, cQ, cR, cS, cT, cU, cW, cX, cY, cZ, dA, dB, dC, dD, dE, dF, dG, dH, dI, dJ, dL, dM, dN, dO, dP, dQ, dR, dS, dT, dU, dV, dW, dX, dY, dZ, eA, eB, eC, eE, eG, eH, eI, eJ, eK, eL, eM, eN, eO, eP, aA, eQ, eR, eS, eT, eU, eV, eW, eX, eY, eZ, fA, fB, fC, fE, fF, fG, fH, fI, fJ, fK, fL, fM, fN, fO, fP, fQ, fR, fS, fT, fU, fV, fW, fX, fY, Res.bind_ex, Res.bind_no, fZ, gA, Res.st_ex, Res.st_no, gB, gC, gD, gE, gF, gG, gH, gI, gJ, gK, List.set_cons_zero, List.set_cons_succ, List.length_cons, List.length_nil, List.map_cons, List.map_nil, List.replicate, List.cons_append, List.nil_append, Nat.reduceSub, Nat.reduceAdd, Nat.reduceLT, List.append_nil, if_true, if_false, Bool.false_eq_true, ite_true, ite_false, decide_true, decide_false, Bool.not_true, Bool.not_false, hJ, hU, hW, hX, hZ, iA, iB, iC, iD, iE, iF, iG, iH, iI, iJ, iK, iL, iM, iN, iO, iP, iQ, iR, iS, iT, iU, iV, iW, iX, iY, iZ, jA, jB, jC, jD], by simp only [aB, aC, aD, aE, aF, aG, aH, aI, aJ, aK, aL, aM, aN, aO, aP, aQ, aR, aS, aT, aU, aV, aW, aX, aY, aZ, bA, bB, bC, bD, bE, bF, bG, bH, bI, bJ, bK, bL, bM, bN, bO, bP, bQ, bR, bS, bT, bU, bV, bW, bX, bY, bZ, cA, cB, cC, cD, cE, cF, cG, cH, cI, cJ, cK, cL, cM, cN, cO, cP, cQ, cR, cS, cT, cU, cW, cX, cY, cZ, dA, dB, dC, dD, dE, dF, dG, dH, dI, dJ, dL, dM, dN, dO, dP, dQ, dR, dS, dT, dU, dV, dW, dX, dY, dZ, eA, eB, eC, eE, eG, eH, eI, eJ, eK, eL, eM, eN, eO, eP, aA, eQ, eR, eS, eT, eU, eV, eW, eX, eY, eZ, fA, fB, fC, fE, fF, fG, fH, fI, fJ, fK, fL, fM, fN, fO, fP, fQ, fR, fS, fT, fU, fV, fW, fX, fY, Res.bind_ex, Res.bind_no, fZ, gA, Res.st_ex, Res.st_no, gB, gC, gD, gE, gF, gG, gH, gI, gJ, gK, List.set_cons_zero, List.set_cons_succ, List.length_cons, List.length_nil, List.map_cons, List.map_nil, List.replicate, List.cons_append, List.nil_append, Nat.reduceSub, Nat.reduceAdd, Nat.reduceLT, List.append_nil, if_true, if_false, Bool.false_eq_true, ite_true, ite_false, decide_true, decide_false, Bool.not_true, Bool.not_false, hJ, hU, hW, hX, hZ, iA, iB, iC, iD, iE, iF, iG, iH, iI, iJ, iK, iL, iM, iN, iO, iP, iQ, iR, iS, iT, iU, iV, iW, iX, iY, iZ, jA, jB, jC, jD], by simp only [aB, aC, aD, aE, aF, aG, aH, aI, aJ, aK, aL, aM, aN, aO, aP, aQ, aR, aS, aT, aU, aV, aW, aX, aY, aZ, bA, bB, bC, bD, bE, bF, bG, bH, bI, bJ, bK, bL, bM, bN, bO, bP, bQ, bR, bS, bT, bU, bV, bW, bX, bY, bZ, cA, cB, cC, cD, cE, cF, cG, cH, cI, cJ, cK, cL, cM, cN, cO, cP, cQ, cR, cS, cT, cU, cW, cX, cY, cZ, dA, dB, dC, dD, dE, dF, dG, dH, dI, dJ, dL, dM, dN, dO, dP, dQ, dR, dS, dT, dU, dV, dW, dX, dY, dZ, eA, eB, eC, eE, eG, eH, eI, eJ, eK, eL, eM, eN, eO, eP, aA, eQ, eR, eS, eT, eU, eV, eW, eX, eY, eZ, fA, fB, fC, fE, fF, fG, fH, fI, fJ, fK, fL, fM, fN, fO, fP, fQ, fR, fS, fT, fU, fV, fW, fX, fY, Res.bind_ex, Res.bind_no, fZ, gA, Res.st_ex, Res.st_no, gB, gC, gD, gE, gF, gG, gH, gI, gJ, gK, List.set_cons_zero, List.set_cons_succ, List.length_cons, List.length_nil, List.map_cons, List.map_nil, List.replicate, List.cons_append, List.nil_append, Nat.reduceSub, Nat.reduceAdd, Nat.reduceLT, List.append_nil, if_true, if_false, Bool.false_eq_true, ite_true, ite_false, decide_true, decide_false, Bool.not_true, Bool.not_false, hJ, hU, hW, hX, hZ, iA, iB, iC, iD, iE, iF, iG, iH, iI, iJ, iK, iL, iM, iN, iO, iP, iQ, iR, iS, iT, iU, iV, iW, iX, iY, iZ, jA, jB, jC, jD, is_number_i hc]⟩
  have e2 : (xs.map fun n => PV.bl (decide (0 ≤ n) && decide (n ≤ (p : Int) - 1))) = (xs.map fun n => (decide (0 ≤ n) && decide (n ≤ (p : Int) - 1))).map PV.bl := by rw [List.map_map]; rfl
  have e3 : (xs.map PV.int).length ≤ LINE := by simpa using hl
  rw [e2] at e
  simp only [B.are_numbers, aB, aC, aD, aE, aF, aG, aH, aI, aJ, aK, aL, aM, aN, aO, aP, aQ, aR, aS, aT, aU, aV, aW, aX, aY, aZ, bA, bB, bC, bD, bE, bF, bG, bH, bI, bJ, bK, bL, bM, bN, bO, bP, bQ, bR, bS, bT, bU, bV, bW, bX, bY, bZ, cA, cB, cC, cD, cE, cF, cG, cH, cI, cJ, cK, cL, cM, cN, cO, cP, cQ, cR, cS, cT, cU, cW, cX, cY, cZ, dA, dB, dC, dD, dE, dF, dG, dH, dI, dJ, dL, dM, dN, dO, dP, dQ, dR, dS, dT, dU, dV, dW, dX, dY, dZ, eA, eB, eC, eE, eG, eH, eI, eJ, eK, eL, eM, eN, eO, eP, aA, eQ, eR, eS, eT, eU, eV, eW, eX, eY, eZ, fA, fB, fC, fE, fF, fG, fH, fI, fJ, fK, fL, fM, fN, fO, fP, fQ, fR, fS, fT, fU, fV, fW, fX, fY, Res.bind_ex, Res.bind_no, fZ, gA, Res.st_ex, Res.st_no, gB, gC, gD, gE, gF, gG, gH, gI, gJ, gK, List.set_cons_zero, List.set_cons_succ, List.length_cons, List.length_nil, List.map_cons, List.map_nil, List.replicate, List.cons_append, List.nil_append, Nat.reduceSub, Nat.reduceAdd, Nat.reduceLT, List.append_nil, if_true, if_false, Bool.false_eq_true, ite_true, ite_false, decide_true, decide_false, Bool.not_true, Bool.not_false, hJ, hU, hW, hX, hZ, iA, iB, iC, iD, iE, iF, iG, iH, iI, iJ, iK, iL, iM, iN, iO, iP, iQ, iR, iS, iT, iU, iV, iW, iX, iY, iZ, jA, jB, jC, jD, isi_tup, len_tup, List.length_map]
  by_cases h1 : lo ≤ xs.length
  · by_cases h2 : (xs.length : Int) ≤ hi
    · simp only [h1, h2, aB, aC, aD, aE, aF, aG, aH, aI, aJ, aK, aL, aM, aN, aO, aP, aQ, aR, aS, aT, aU, aV, aW, aX, aY, aZ, bA, bB, bC, bD, bE, bF, bG, bH, bI, bJ, bK, bL, bM, bN, bO, bP, bQ, bR, bS, bT, bU, bV, bW, bX, bY, bZ, cA, cB, cC, cD, cE, cF, cG, cH, cI, cJ, cK, cL, cM, cN, cO, cP, cQ, cR, cS, cT, cU, cW, cX, cY, cZ, dA, dB, dC, dD, dE, dF, dG, dH, dI, dJ, dL, dM, dN, dO, dP, dQ, dR, dS, dT, dU, dV, dW, dX, dY, dZ, eA, eB, eC, eE, eG, eH, eI, eJ, eK, eL, eM, eN, eO, eP, aA, eQ, eR, eS, eT, eU, eV, eW, eX, eY, eZ, fA, fB, fC, fE, fF, fG, fH, fI, fJ, fK, fL, fM, fN, fO, fP, fQ, fR, fS, fT, fU, fV, fW, fX, fY, Res.bind_ex, Res.bind_no, fZ, gA, Res.st_ex, Res.st_no, gB, gC, gD, gE, gF, gG, gH, gI, gJ, gK, List.set_cons_zero, List.set_cons_succ, List.length_cons, List.length_nil, List.map_cons, List.map_nil, List.replicate, List.cons_append, List.nil_append, Nat.reduceSub, Nat.reduceAdd, Nat.reduceLT, List.append_nil, if_true, if_false, Bool.false_eq_true, ite_true, ite_false, decide_true, decide_false, Bool.not_true, Bool.not_false, hJ, hU, hW, hX, hZ, iA, iB, iC, iD, iE, iF, iG, iH, iI, iJ, iK, iL, iM, iN, iO, iP, iQ, iR, iS, iT, iU, iV, iW, iX, iY, iZ, jA, jB, jC, jD, srcSq_tup, wipeP, e, bf_all, aA, hl, List.all_map, Bool.and_self, List.length_map, Bool.true_and]; rfl
    · simp only [h1, h2, aB, aC, aD, aE, aF, aG, aH, aI, aJ, aK, aL, aM, aN, aO, aP, aQ, aR, aS, aT, aU, aV, aW, aX, aY, aZ, bA, bB, bC, bD, bE, bF, bG, bH, bI, bJ, bK, bL, bM, bN, bO, bP, bQ, bR, bS, bT, bU, bV, bW, bX, bY, bZ, cA, cB, cC, cD, cE, cF, cG, cH, cI, cJ, cK, cL, cM, cN, cO, cP, cQ, cR, cS, cT, cU, cW, cX, cY, cZ, dA, dB, dC, dD, dE, dF, dG, dH, dI, dJ, dL, dM, dN, dO, dP, dQ, dR, dS, dT, dU, dV, dW, dX, dY, dZ, eA, eB, eC, eE, eG, eH, eI, eJ, eK, eL, eM, eN, eO, eP, aA, eQ, eR, eS, eT, eU, eV, eW, eX, eY, eZ, fA, fB, fC, fE, fF, fG, fH, fI, fJ, fK, fL, fM, fN, fO, fP, fQ, fR, fS, fT, fU, fV, fW, fX, fY, Res.bind_ex, Res.bind_no, fZ, gA, Res.st_ex, Res.st_no, gB, gC, gD, gE, gF, gG, gH, gI, gJ, gK, List.set_cons_zero, List.set_cons_succ, List.length_cons, List.length_nil, List.map_cons, List.map_nil, List.replicate, List.cons_append, List.nil_append, Nat.reduceSub, Nat.reduceAdd, Nat.reduceLT, List.append_nil, if_true, if_false, Bool.false_eq_true, ite_true, ite_false, decide_true, decide_false, Bool.not_true, Bool.not_false, hJ, hU, hW, hX, hZ, iA, iB, iC, iD, iE, iF, iG, iH, iI, iJ, iK, iL, iM, iN, iO, iP, iQ, iR, iS, iT, iU, iV, iW, iX, iY, iZ, jA, jB, jC, jD, aA, Bool.and_false, Bool.false_and]
  · simp only [h1, aB, aC, aD, aE, aF, aG, aH, aI, aJ, aK, aL, aM, aN, aO, aP, aQ, aR, aS, aT, aU, aV, aW, aX, aY, aZ, bA, bB, bC, bD, bE, bF, bG, bH, bI, bJ, bK, bL, bM, bN, bO, bP, bQ, bR, bS, bT, bU, bV, bW, bX, bY, bZ, cA, cB, cC, cD, cE, cF, cG, cH, cI, cJ, cK, cL, cM, cN, cO, cP, cQ, cR, cS, cT, cU, cW, cX, cY, cZ, dA, dB, dC, dD, dE, dF, dG, dH, dI, dJ, dL, dM, dN, dO, dP, dQ, dR, dS, dT, dU, dV, dW, dX, dY, dZ, eA, eB, eC, eE, eG, eH, eI, eJ, eK, eL, eM, eN, eO, eP, aA, eQ, eR, eS, eT, eU, eV, eW, eX, eY, eZ, fA, fB, fC, fE, fF, fG, fH, fI, fJ, fK, fL, fM, fN, fO, fP, fQ, fR, fS, fT, fU, fV, fW, fX, fY, Res.bind_ex, Res.bind_no, fZ, gA, Res.st_ex, Res.st_no, gB, gC, gD, gE, gF, gG, gH, gI, gJ, gK, List.set_cons_zero, List.set_cons_succ, List.length_cons, List.length_nil, List.map_cons, List.map_nil, List.replicate, List.cons_append, List.nil_append, Nat.reduceSub, Nat.reduceAdd, Nat.reduceLT, List.append_nil, if_true, if_false, Bool.false_eq_true, ite_true, ite_false, decide_true, decide_false, Bool.not_true, Bool.not_false, hJ, hU, hW, hX, hZ, iA, iB, iC, iD, iE, iF, iG, iH, iI, iJ, iK, iL, iM, iN, iO, iP, iQ, iR, iS, iT, iU, iV, iW, iX, iY, iZ, jA, jB, jC, jD, aA, Bool.false_and]
theorem are_numbers_z {i : Nat} (h : At.are_numbers ds i) (l : List (Zp p)) (lo hi : Int) (hl : l.length ≤ LINE) : callF ds (k + 4) i [.int p, tv l, .int lo, .int hi] m = .ok (.bl (decide (lo ≤ l.length) && decide ((l.length : Int) ≤ hi))) m := by
  have e := are_numbers_i (k := k) (m := m) (p := p) h (l.map zr) lo hi (by simpa using hl)
  have e2 : ((l.map zr).all fun n => decide (0 ≤ n) && decide (n ≤ (p : Int) - 1)) = true := by
    rw [List.all_map, List.all_eq_true]
    intro a _
    have := zr_0le a; have := zr_lt a
    simp only [Function.comp, decide_eq_true (zr_0le a), decide_eq_true (show zr a ≤ (p : Int) - 1 by omega), Bool.and_self]
  rw [e2, Bool.and_true, List.length_map, List.map_map] at e
  exact e
theorem law_taken_ok {i : Nat} (h : At._law_taken ds i) {ns : List Int} {x : Ob} (hx : Row ns x) {many : Int} (h0 : 0 < many) (h1 : many < 18446744073709551616) :
    ∃ (v : Nat) (x' : Ob), callF ds (k + 1) i [.loc 0, .int many] (x :: rest) = .ok (.int v) (x' :: rest) ∧ Row ns x' ∧ (v : Int) < many := by
  obtain ⟨N, hN, h⟩ := h
  obtain ⟨v, x', e, r, v0, v1⟩ := taken_ok (k := k) (rest := rest) hN h hx h0 h1
  refine ⟨v.toNat, x', ?_, r, by omega⟩
  rw [show ((v.toNat : Nat) : Int) = v from by omega]; exact e
theorem law_prime_p {i : Nat} (h : At._law_prime ds i) {ns : List Int} {x : Ob} (hx : Row ns x) :
    ∃ (p : Nat) (x' : Ob), callF ds (k + 3) i [.loc 0] (x :: rest) = .ok (.int p) (x' :: rest) ∧ Row ns x' ∧ PrL p := by
  obtain ⟨N, c, hN, h, Nc, ct, hNc, hc, Nt, hNt, ht⟩ := h
  obtain ⟨p, x', e, r, a, b, c, d⟩ := law_prime_ok (k := k) (rest := rest) hN hNc hNt h hc ht hx
  exact ⟨p, x', e, r, { pr := a, pl := b, p5 := c, pM := d }⟩
theorem law_number_z {i : Nat} (h : At._law_number ds i) {ns : List Int} {x : Ob} (hx : Row ns x) :
    ∃ (a : Zp p) (x' : Ob), callF ds (k + 2) i [.loc 0, .int p] (x :: rest) = .ok (.int (zr a)) (x' :: rest) ∧ Row ns x' := by
  obtain ⟨N, c, hN, h, Nc, hNc, hc⟩ := h
  obtain ⟨n, x', e, r, hn⟩ := law_number_ok (k := k) (rest := rest) hN hNc h hc hx (p := p) (by have := hp.p5; omega) (by have := hp.pM; omega)
  exact ⟨zc p n, x', by rw [zr_of (by omega) (by omega)]; exact e, r⟩
theorem bf_tuple (m : Mem) (xs : List PV) : opBf m .tuple [.lst xs] = .ok (.tup xs) m := rfl
theorem srcRg_n {m : Mem} {n : Nat} (h : n < 1000000000) : srcRg m (.int 0) (.int n) = .ok (rangeV 0 n, []) m := by
  rw [srcRg_ii (by decide) (by decide) (by omega) (by omega)]; congr 3
theorem law_numbers_z {i : Nat} (h : At._law_numbers ds i) {ns : List Int} {x : Ob} (hx : Row ns x) {n : Nat} (hn : n ≤ 1000000) :
    ∃ (l : List (Zp p)) (x' : Ob), callF ds (k + 3) i [.loc 0, .int p, .int n] (x :: rest) = .ok (tv l) (x' :: rest) ∧ Row ns x' ∧ l.length = n := by
  obtain ⟨N, c, hN, h, hc⟩ := h
  obtain ⟨vs, m', e, x', hm, hr, l, hv, hl⟩ := lcGo_rel (bind := bnd (callF ds (k + 2)) (.nm 3)) (cnd := evC (callF ds (k + 2)) none) (el := evE (callF ds (k + 2)) (.call c [.var 0, .var 1])) (η := [some (.loc 0), some (.int p), some (.int n), none])
    (fun j ws m => ∃ x', m = x' :: rest ∧ Row ns x' ∧ ∃ l : List (Zp p), ws = nvs l ∧ l.length = j) (rangeV 0 n) 0 [] (m := x :: rest) ⟨x, rfl, hx, [], rfl, rfl⟩ (by
      rintro j hj ws m ⟨x1, rfl, r1, l, rfl, hl⟩
      obtain ⟨a, x2, e, r2⟩ := law_number_z (k := k) (rest := rest) (p := p) hc r1
      exact ⟨_, _, .int (zr a), x2 :: rest, cK, bN, by simp only [aB, aC, aD, aE, aF, aG, aH, aI, aJ, aK, aL, aM, aN, aO, aP, aQ, aR, aS, aT, aU, aV, aW, aX, aY, aZ, bA, bB, bC, bD, bE, bF, bG, bH, bI, bJ, bK, bL, bM, bN, bO, bP, bQ, bR, bS, bT, bU, bV, bW, bX, bY, bZ, cA, cB, cC, cD, cE, cF, cG, cH, cI, cJ, cK, cL, cM, cN, cO, cP, cQ, cR, cS, cT, cU, cW, cX, cY, cZ, dA, dB, dC, dD, dE, dF, dG, dH, dI, dJ, dL, dM, dN, dO, dP, dQ, dR, dS, dT, dU, dV, dW, dX, dY, dZ, eA, eB, eC, eE, eG, eH, eI, eJ, eK, eL, eM, eN, eO, eP, aA, eQ, eR, eS, eT, eU, eV, eW, eX, eY, eZ, fA, fB, fC, fE, fF, fG, fH, fI, fJ, fK, fL, fM, fN, fO, fP, fQ, fR, fS, fT, fU, fV, fW, fX, fY, Res.bind_ex, Res.bind_no, fZ, gA, Res.st_ex, Res.st_no, gB, gC, gD, gE, gF, gG, gH, gI, gJ, gK, List.set_cons_zero, List.set_cons_succ, List.length_cons, List.length_nil, List.map_cons, List.map_nil, List.replicate, List.cons_append, List.nil_append, Nat.reduceSub, Nat.reduceAdd, Nat.reduceLT, List.append_nil, if_true, if_false, Bool.false_eq_true, ite_true, ite_false, decide_true, decide_false, Bool.not_true, Bool.not_false, hJ, hU, hW, hX, hZ, iA, iB, iC, iD, iE, iF, iG, iH, iI, iJ, iK, iL, iM, iN, iO, iP, iQ, iR, iS, iT, iU, iV, iW, iX, iY, iZ, jA, jB, jC, jD, e], x2, rfl, r2, l ++ [a], by simp [nvs], by simp [hl]⟩)
  refine ⟨l, x', ?_, hr, by rw [hl, rangeV_len]; omega⟩
  subst hm
  rw [List.nil_append] at hv
  subst hv
  rw [call_at hN h]
  have hl2 : l.length ≤ LINE := by rw [hl, rangeV_len]; unfold LINE; omega
  have hr2 : ((rangeV 0 n).length ≤ LINE) = True := by rw [rangeV_len]; simp [LINE]; omega
  have ho : okLen (nvs l) (x' :: rest) = .ok (nvs l) (x' :: rest) := by rw [okLen, if_pos (by simpa using hl2)]
  simp only [B._law_numbers, aB, aC, aD, aE, aF, aG, aH, aI, aJ, aK, aL, aM, aN, aO, aP, aQ, aR, aS, aT, aU, aV, aW, aX, aY, aZ, bA, bB, bC, bD, bE, bF, bG, bH, bI, bJ, bK, bL, bM, bN, bO, bP, bQ, bR, bS, bT, bU, bV, bW, bX, bY, bZ, cA, cB, cC, cD, cE, cF, cG, cH, cI, cJ, cK, cL, cM, cN, cO, cP, cQ, cR, cS, cT, cU, cW, cX, cY, cZ, dA, dB, dC, dD, dE, dF, dG, dH, dI, dJ, dL, dM, dN, dO, dP, dQ, dR, dS, dT, dU, dV, dW, dX, dY, dZ, eA, eB, eC, eE, eG, eH, eI, eJ, eK, eL, eM, eN, eO, eP, aA, eQ, eR, eS, eT, eU, eV, eW, eX, eY, eZ, fA, fB, fC, fE, fF, fG, fH, fI, fJ, fK, fL, fM, fN, fO, fP, fQ, fR, fS, fT, fU, fV, fW, fX, fY, Res.bind_ex, Res.bind_no, fZ, gA, Res.st_ex, Res.st_no, gB, gC, gD, gE, gF, gG, gH, gI, gJ, gK, List.set_cons_zero, List.set_cons_succ, List.length_cons, List.length_nil, List.map_cons, List.map_nil, List.replicate, List.cons_append, List.nil_append, Nat.reduceSub, Nat.reduceAdd, Nat.reduceLT, List.append_nil, if_true, if_false, Bool.false_eq_true, ite_true, ite_false, decide_true, decide_false, Bool.not_true, Bool.not_false, hJ, hU, hW, hX, hZ, iA, iB, iC, iD, iE, iF, iG, iH, iI, iJ, iK, iL, iM, iN, iO, iP, iQ, iR, iS, iT, iU, iV, iW, iX, iY, iZ, jA, jB, jC, jD, srcRg_n (show n < 1000000000 by omega), hr2, wipeP, e, bf_tuple, gcP_row]
end
end Px
set_option Elab.async false
set_option linter.all false
set_option maxRecDepth 100000
set_option maxHeartbeats 1000000
namespace Px
open PySem Mz
mutual
def PV.okd : Nat → PV → Bool
  | _, .non => true
  | _, .bl _ => true
  | _, .int _ => true
  | _, .str s => PyData.strOk s && decide (s.length ≤ LINE)
  | d, .tup xs => PV.okdT d xs
  | d, .lst xs => PV.okdT d xs
  | _, .dic _ _ => false
  | _, .loc _ => false
  | _, .ty _ => false
  | _, .scr _ => false
def PV.okdT : Nat → List PV → Bool
  | 0, _ => false
  | d + 1, xs => decide (xs.length ≤ LINE) && PV.okdA d xs
def PV.okdA : Nat → List PV → Bool
  | _, [] => true
  | d, x :: xs => PV.okd d x && PV.okdA d xs
end
mutual
def dOf : PV → PyData
  | .non => .none
  | .bl b => .bool b
  | .int i => .int i
  | .str s => .str s
  | .tup xs => .tuple (dOfA xs)
  | .lst xs => .list (dOfA xs)
  | .dic _ _ => .none
  | .loc _ => .none
  | .ty _ => .none
  | .scr _ => .none
def dOfA : List PV → List PyData
  | [] => []
  | x :: xs => dOf x :: dOfA xs
end
mutual
theorem okd_toD (m : Mem) : ∀ (d : Nat) (x : PV), x.okd d = true → toD m x = some (dOf x) ∧ (dOf x).canLay0 = true ∧ (dOf x).depth ≤ d
  | d, .non, _ => ⟨rfl, rfl, Nat.zero_le _⟩
  | d, .bl b, _ => ⟨rfl, rfl, Nat.zero_le _⟩
  | d, .int i, _ => ⟨rfl, rfl, Nat.zero_le _⟩
  | d, .str s, h => by
    simp only [PV.okd, Bool.and_eq_true] at h
    exact ⟨rfl, by simp only [dOf, PyData.canLay0]; exact h.1, Nat.zero_le _⟩
  | d, .tup xs, h => by
    cases d with
    | zero => simp [PV.okd, PV.okdT] at h
    | succ d =>
      simp only [PV.okd, PV.okdT, Bool.and_eq_true] at h
      obtain ⟨h1, h2, h3⟩ := okdA_toD m d xs h.2
      exact ⟨by simp only [toD, h1, dOf, Option.map_some], by simp only [dOf, PyData.canLay0, h2], by simp only [dOf, PyData.depth]; omega⟩
  | d, .lst xs, h => by
    cases d with
    | zero => simp [PV.okd, PV.okdT] at h
    | succ d =>
      simp only [PV.okd, PV.okdT, Bool.and_eq_true] at h
      obtain ⟨h1, h2, h3⟩ := okdA_toD m d xs h.2
      exact ⟨by simp only [toD, h1, dOf, Option.map_some], by simp only [dOf, PyData.canLay0, h2], by simp only [dOf, PyData.depth]; omega⟩
  | d, .dic _ _, h => by simp [PV.okd] at h
  | d, .loc _, h => by simp [PV.okd] at h
  | d, .ty _, h => by simp [PV.okd] at h
  | d, .scr _, h => by simp [PV.okd] at h
theorem okdA_toD (m : Mem) : ∀ (d : Nat) (xs : List PV), PV.okdA d xs = true → toDA m xs = some (dOfA xs) ∧ PyData.canLayAll0 (dOfA xs) = true ∧ PyData.depthAll (dOfA xs) ≤ d
  | d, [], _ => ⟨rfl, rfl, Nat.zero_le _⟩
  | d, x :: xs, h => by
    simp only [PV.okdA, Bool.and_eq_true] at h
    obtain ⟨h1, h2, h3⟩ := okd_toD m d x h.1
    obtain ⟨g1, g2, g3⟩ := okdA_toD m d xs h.2
    exact ⟨by simp only [toDA, h1, g1, dOfA], by simp only [dOfA, PyData.canLayAll0, h2, g2, Bool.and_self], by simp only [dOfA, PyData.depthAll]; omega⟩
end
mutual
theorem eqv_refl : ∀ x : PV, PyData.eqv (dOf x) (dOf x) = true
  | .non => rfl
  | .bl b => by simp [dOf, PyData.eqv]
  | .int i => by simp [dOf, PyData.eqv]
  | .str s => by simp [dOf, PyData.eqv]
  | .tup xs => by simp only [dOf, PyData.eqv]; exact eqvA_refl xs
  | .lst xs => by simp only [dOf, PyData.eqv]; exact eqvA_refl xs
  | .dic _ _ => rfl
  | .loc _ => rfl
  | .ty _ => rfl
  | .scr _ => rfl
theorem eqvA_refl : ∀ xs : List PV, PyData.eqvAll (dOfA xs) (dOfA xs) = true
  | [] => rfl
  | x :: xs => by simp only [dOfA, PyData.eqvAll, eqv_refl x, eqvA_refl xs, Bool.and_self]
end
def isLoc : PV → Bool
  | .loc _ => true
  | _ => false
theorem toDT_not {m : Mem} {x : PV} (h : isLoc x = false) : toDT m x = toD m x := by
  cases x <;> first | rfl | simp [isLoc] at h
theorem okd_loc {d : Nat} {x : PV} (h : x.okd d = true) : isLoc x = false := by
  cases x <;> first | rfl | simp [PV.okd] at h
theorem shp_of {d : Nat} {m : Mem} {x : PV} (h : x.okd d = true) (hd : d ≤ 64) : SeqAt.shaped (dOf x) = true := by
  obtain ⟨_, h2, h3⟩ := okd_toD m d x h
  simp only [SeqAt.shaped, h2, Bool.true_and, decide_eq_true_eq]; omega
theorem dicTup_okd {d : Nat} {x y : PV} (h : x.okd d = true) : dicTup x y = false := by
  cases x <;> first | rfl | simp [PV.okd] at h
theorem locNil_not {x y : PV} (h : isLoc x = false) : locNil x y = false := by
  cases x <;> first | rfl | simp [isLoc] at h
theorem pvEq_self {m : Mem} {x : PV} (h : x.okd 64 = true) : pvEq m x x = some true := by
  simp only [pvEq, dicTup_okd h, locNil_not (okd_loc h), Bool.false_eq_true, if_false, toDT_not (okd_loc h), (okd_toD m 64 x h).1, shp_of (m := m) h (Nat.le_refl _), Bool.and_self, if_true, eqv_refl]
theorem ne_self {m : Mem} {x : PV} (h : x.okd 64 = true) : opCmp m .ne x x = .ok (.bl false) m := by simp only [opCmp, pvEq_self h]; rfl
theorem eq_self' {m : Mem} {x : PV} (h : x.okd 64 = true) : opCmp m .eq x x = .ok (.bl true) m := by simp only [opCmp, pvEq_self h]
mutual
theorem okd_mono : ∀ (d e : Nat) (x : PV), d ≤ e → x.okd d = true → x.okd e = true
  | d, e, .non, _, _ => by simp [PV.okd]
  | d, e, .bl b, _, _ => by simp [PV.okd]
  | d, e, .int i, _, _ => by simp [PV.okd]
  | d, e, .str s, _, h => by simpa only [PV.okd] using h
  | d, e, .tup xs, hd, h => by
    cases d with
    | zero => simp [PV.okd, PV.okdT] at h
    | succ d =>
      cases e with
      | zero => omega
      | succ e =>
        simp only [PV.okd, PV.okdT, Bool.and_eq_true] at h ⊢
        exact ⟨h.1, okdA_mono d e xs (by omega) h.2⟩
  | d, e, .lst xs, hd, h => by
    cases d with
    | zero => simp [PV.okd, PV.okdT] at h
    | succ d =>
      cases e with
      | zero => omega
      | succ e =>
        simp only [PV.okd, PV.okdT, Bool.and_eq_true] at h ⊢
        exact ⟨h.1, okdA_mono d e xs (by omega) h.2⟩
  | d, e, .dic _ _, _, h => by simp [PV.okd] at h
  | d, e, .loc _, _, h => by simp [PV.okd] at h
  | d, e, .ty _, _, h => by simp [PV.okd] at h
  | d, e, .scr _, _, h => by simp [PV.okd] at h
theorem okdA_mono : ∀ (d e : Nat) (xs : List PV), d ≤ e → PV.okdA d xs = true → PV.okdA e xs = true
  | d, e, [], _, _ => by simp [PV.okdA]
  | d, e, x :: xs, hd, h => by
    simp only [PV.okdA, Bool.and_eq_true] at h ⊢
    exact ⟨okd_mono d e x hd h.1, okdA_mono d e xs hd h.2⟩
end
theorem okdA_mem {d : Nat} : ∀ {xs : List PV}, PV.okdA d xs = true ↔ ∀ x ∈ xs, x.okd d = true
  | [] => by simp [PV.okdA]
  | x :: xs => by simp [PV.okdA, okdA_mem (xs := xs)]
section
variable {ds : List Def} {k : Nat} {m : Mem}
theorem idx_tup {m : Mem} {xs : List PV} {i : Nat} {v : PV} (h : xs[i]? = some v) : opIdx m (.tup xs) (.int i) = .ok v m := by
  have e := L2.atI_nat h
  show (match L2.atI xs (i : Int) with
        | some k => Res.ok k m
        | none => .no) = _
  rw [e]
theorem idx_lst {m : Mem} {xs : List PV} {i : Nat} {v : PV} (h : xs[i]? = some v) : opIdx m (.lst xs) (.int i) = .ok v m := by
  have e := L2.atI_nat h
  show (match L2.atI xs (i : Int) with
        | some k => Res.ok k m
        | none => .no) = _
  rw [e]
theorem tl_tup (m : Mem) (xs : List PV) : opBf m .isi [.tup xs, .tup [.ty "tuple", .ty "list"]] = .ok (.bl true) m := rfl
theorem tl_lst (m : Mem) (xs : List PV) : opBf m .isi [.lst xs, .tup [.ty "tuple", .ty "list"]] = .ok (.bl true) m := rfl
theorem tl_non (m : Mem) : opBf m .isi [.non, .tup [.ty "tuple", .ty "list"]] = .ok (.bl false) m := rfl
theorem tl_str (m : Mem) (s : Str) : opBf m .isi [.str s, .tup [.ty "tuple", .ty "list"]] = .ok (.bl false) m := rfl
theorem l_tup (m : Mem) (xs : List PV) : opBf m .isi [.tup xs, .ty "list"] = .ok (.bl false) m := rfl
theorem l_lst (m : Mem) (xs : List PV) : opBf m .isi [.lst xs, .ty "list"] = .ok (.bl true) m := rfl
theorem d_non (m : Mem) : opBf m .isi [.non, .ty "dict"] = .ok (.bl false) m := rfl
theorem d_str (m : Mem) (s : Str) : opBf m .isi [.str s, .ty "dict"] = .ok (.bl false) m := rfl
theorem s_non (m : Mem) : opBf m .isi [.non, .ty "str"] = .ok (.bl false) m := rfl
theorem s_str (m : Mem) (s : Str) : opBf m .isi [.str s, .ty "str"] = .ok (.bl true) m := rfl
theorem is_sn (m : Mem) (s : Str) : opCmp m .is (.str s) .non = .ok (.bl false) m := rfl
theorem is_nn (m : Mem) : opCmp m .is .non .non = .ok (.bl true) m := rfl
theorem alike_self {i : Nat} (h : At._law_alike ds i) : ∀ (d : Nat) (x : PV), x.okd d = true → d ≤ 64 → ∀ (k : Nat) (m : Mem), callF ds (k + d + 1) i [x, x] m = .ok (.bl true) m := by
  intro d
  have seq : ∀ d, (∀ (x : PV), x.okd d = true → d ≤ 64 → ∀ (k : Nat) (m : Mem), callF ds (k + d + 1) i [x, x] m = .ok (.bl true) m) → ∀ xs (k : Nat) (m : Mem) (η : Px.Env) (w : PV), w = .tup xs ∨ w = .lst xs → PV.okdA d xs = true → xs.length ≤ LINE → d ≤ 64 →
      lcGo [] (bnd (callF ds (k + d + 1)) (.nm 2)) (evC (callF ds (k + d + 1)) (some (.not_ (.call i [.idx (.var 0) (.var 2), .idx (.var 1) (.var 2)])))) (evE (callF ds (k + d + 1)) (.var 2)) [some w, some w, none, none] (rangeV 0 xs.length) m = .ok [] m := by
    intro d ih xs k m η w hw hx hl hd
    refine lcGo_none _ fun y hy => ?_
    obtain ⟨j, hj, rfl⟩ := List.mem_map.mp hy
    have hj := List.mem_range.mp hj
    refine ⟨_, cK, ?_⟩
    have e : opIdx m w (.int (0 + j)) = .ok xs[j] m := by
      rw [Int.zero_add]
      rcases hw with rfl | rfl
      · exact idx_tup (List.getElem?_eq_getElem hj)
      · exact idx_lst (List.getElem?_eq_getElem hj)
    simp only [aB, aC, aD, aE, aF, aG, aH, aI, aJ, aK, aL, aM, aN, aO, aP, aQ, aR, aS, aT, aU, aV, aW, aX, aY, aZ, bA, bB, bC, bD, bE, bF, bG, bH, bI, bJ, bK, bL, bM, bN, bO, bP, bQ, bR, bS, bT, bU, bV, bW, bX, bY, bZ, cA, cB, cC, cD, cE, cF, cG, cH, cI, cJ, cK, cL, cM, cN, cO, cP, cQ, cR, cS, cT, cU, cW, cX, cY, cZ, dA, dB, dC, dD, dE, dF, dG, dH, dI, dJ, dL, dM, dN, dO, dP, dQ, dR, dS, dT, dU, dV, dW, dX, dY, dZ, eA, eB, eC, eE, eG, eH, eI, eJ, eK, eL, eM, eN, eO, eP, aA, eQ, eR, eS, eT, eU, eV, eW, eX, eY, eZ, fA, fB, fC, fE, fF, fG, fH, fI, fJ, fK, fL, fM, fN, fO, fP, fQ, fR, fS, fT, fU, fV, fW, fX, fY, Res.bind_ex, Res.bind_no, fZ, gA, Res.st_ex, Res.st_no, gB, gC, gD, gE, gF, gG, gH, gI, gJ, gK, List.set_cons_zero, List.set_cons_succ, List.length_cons, List.length_nil, List.map_cons, List.map_nil, List.replicate, List.cons_append, List.nil_append, Nat.reduceSub, Nat.reduceAdd, Nat.reduceLT, List.append_nil, if_true, if_false, Bool.false_eq_true, ite_true, ite_false, decide_true, decide_false, Bool.not_true, Bool.not_false, hJ, hU, hW, hX, hZ, iA, iB, iC, iD, iE, iF, iG, iH, iI, iJ, iK, iL, iM, iN, iO, iP, iQ, iR, iS, iT, iU, iV, iW, iX, iY, iZ, jA, jB, jC, jD, e, ih xs[j] (okdA_mem.mp hx _ (List.getElem_mem hj)) hd k m]
  induction d with
  | zero =>
    intro x hx hd k m
    obtain ⟨N, hN, h'⟩ := h
    rw [call_at hN h']
    cases x with
    | tup xs => simp [PV.okd, PV.okdT] at hx
    | lst xs => simp [PV.okd, PV.okdT] at hx
    | int n => simp only [B._law_alike, aB, aC, aD, aE, aF, aG, aH, aI, aJ, aK, aL, aM, aN, aO, aP, aQ, aR, aS, aT, aU, aV, aW, aX, aY, aZ, bA, bB, bC, bD, bE, bF, bG, bH, bI, bJ, bK, bL, bM, bN, bO, bP, bQ, bR, bS, bT, bU, bV, bW, bX, bY, bZ, cA, cB, cC, cD, cE, cF, cG, cH, cI, cJ, cK, cL, cM, cN, cO, cP, cQ, cR, cS, cT, cU, cW, cX, cY, cZ, dA, dB, dC, dD, dE, dF, dG, dH, dI, dJ, dL, dM, dN, dO, dP, dQ, dR, dS, dT, dU, dV, dW, dX, dY, dZ, eA, eB, eC, eE, eG, eH, eI, eJ, eK, eL, eM, eN, eO, eP, aA, eQ, eR, eS, eT, eU, eV, eW, eX, eY, eZ, fA, fB, fC, fE, fF, fG, fH, fI, fJ, fK, fL, fM, fN, fO, fP, fQ, fR, fS, fT, fU, fV, fW, fX, fY, Res.bind_ex, Res.bind_no, fZ, gA, Res.st_ex, Res.st_no, gB, gC, gD, gE, gF, gG, gH, gI, gJ, gK, List.set_cons_zero, List.set_cons_succ, List.length_cons, List.length_nil, List.map_cons, List.map_nil, List.replicate, List.cons_append, List.nil_append, Nat.reduceSub, Nat.reduceAdd, Nat.reduceLT, List.append_nil, if_true, if_false, Bool.false_eq_true, ite_true, ite_false, decide_true, decide_false, Bool.not_true, Bool.not_false, hJ, hU, hW, hX, hZ, iA, iB, iC, iD, iE, iF, iG, iH, iI, iJ, iK, iL, iM, iN, iO, iP, iQ, iR, iS, iT, iU, iV, iW, iX, iY, iZ, jA, jB, jC, jD, isi_int_tl, isi_int m _ _ _ t_id, isi_int m _ _ _ t_is, isi_int m _ _ _ t_ii, isi_int m _ _ _ t_ib, aA]
    | bl b => simp only [B._law_alike, aB, aC, aD, aE, aF, aG, aH, aI, aJ, aK, aL, aM, aN, aO, aP, aQ, aR, aS, aT, aU, aV, aW, aX, aY, aZ, bA, bB, bC, bD, bE, bF, bG, bH, bI, bJ, bK, bL, bM, bN, bO, bP, bQ, bR, bS, bT, bU, bV, bW, bX, bY, bZ, cA, cB, cC, cD, cE, cF, cG, cH, cI, cJ, cK, cL, cM, cN, cO, cP, cQ, cR, cS, cT, cU, cW, cX, cY, cZ, dA, dB, dC, dD, dE, dF, dG, dH, dI, dJ, dL, dM, dN, dO, dP, dQ, dR, dS, dT, dU, dV, dW, dX, dY, dZ, eA, eB, eC, eE, eG, eH, eI, eJ, eK, eL, eM, eN, eO, eP, aA, eQ, eR, eS, eT, eU, eV, eW, eX, eY, eZ, fA, fB, fC, fE, fF, fG, fH, fI, fJ, fK, fL, fM, fN, fO, fP, fQ, fR, fS, fT, fU, fV, fW, fX, fY, Res.bind_ex, Res.bind_no, fZ, gA, Res.st_ex, Res.st_no, gB, gC, gD, gE, gF, gG, gH, gI, gJ, gK, List.set_cons_zero, List.set_cons_succ, List.length_cons, List.length_nil, List.map_cons, List.map_nil, List.replicate, List.cons_append, List.nil_append, Nat.reduceSub, Nat.reduceAdd, Nat.reduceLT, List.append_nil, if_true, if_false, Bool.false_eq_true, ite_true, ite_false, decide_true, decide_false, Bool.not_true, Bool.not_false, hJ, hU, hW, hX, hZ, iA, iB, iC, iD, iE, iF, iG, iH, iI, iJ, iK, iL, iM, iN, iO, iP, iQ, iR, iS, iT, iU, iV, iW, iX, iY, iZ, jA, jB, jC, jD, isi_bl_tl, isi_bl m _ _ _ t_bd, isi_bl m _ _ _ t_bs, isi_bl m _ _ _ t_bi, isi_bl m _ _ _ t_bb, aA]
    | non => simp only [B._law_alike, aB, aC, aD, aE, aF, aG, aH, aI, aJ, aK, aL, aM, aN, aO, aP, aQ, aR, aS, aT, aU, aV, aW, aX, aY, aZ, bA, bB, bC, bD, bE, bF, bG, bH, bI, bJ, bK, bL, bM, bN, bO, bP, bQ, bR, bS, bT, bU, bV, bW, bX, bY, bZ, cA, cB, cC, cD, cE, cF, cG, cH, cI, cJ, cK, cL, cM, cN, cO, cP, cQ, cR, cS, cT, cU, cW, cX, cY, cZ, dA, dB, dC, dD, dE, dF, dG, dH, dI, dJ, dL, dM, dN, dO, dP, dQ, dR, dS, dT, dU, dV, dW, dX, dY, dZ, eA, eB, eC, eE, eG, eH, eI, eJ, eK, eL, eM, eN, eO, eP, aA, eQ, eR, eS, eT, eU, eV, eW, eX, eY, eZ, fA, fB, fC, fE, fF, fG, fH, fI, fJ, fK, fL, fM, fN, fO, fP, fQ, fR, fS, fT, fU, fV, fW, fX, fY, Res.bind_ex, Res.bind_no, fZ, gA, Res.st_ex, Res.st_no, gB, gC, gD, gE, gF, gG, gH, gI, gJ, gK, List.set_cons_zero, List.set_cons_succ, List.length_cons, List.length_nil, List.map_cons, List.map_nil, List.replicate, List.cons_append, List.nil_append, Nat.reduceSub, Nat.reduceAdd, Nat.reduceLT, List.append_nil, if_true, if_false, Bool.false_eq_true, ite_true, ite_false, decide_true, decide_false, Bool.not_true, Bool.not_false, hJ, hU, hW, hX, hZ, iA, iB, iC, iD, iE, iF, iG, iH, iI, iJ, iK, iL, iM, iN, iO, iP, iQ, iR, iS, iT, iU, iV, iW, iX, iY, iZ, jA, jB, jC, jD, tl_non, d_non, is_nn, s_non, eq_self' (m := m) (x := PV.non) (by simp [PV.okd]), aA]
    | str s => simp only [B._law_alike, aB, aC, aD, aE, aF, aG, aH, aI, aJ, aK, aL, aM, aN, aO, aP, aQ, aR, aS, aT, aU, aV, aW, aX, aY, aZ, bA, bB, bC, bD, bE, bF, bG, bH, bI, bJ, bK, bL, bM, bN, bO, bP, bQ, bR, bS, bT, bU, bV, bW, bX, bY, bZ, cA, cB, cC, cD, cE, cF, cG, cH, cI, cJ, cK, cL, cM, cN, cO, cP, cQ, cR, cS, cT, cU, cW, cX, cY, cZ, dA, dB, dC, dD, dE, dF, dG, dH, dI, dJ, dL, dM, dN, dO, dP, dQ, dR, dS, dT, dU, dV, dW, dX, dY, dZ, eA, eB, eC, eE, eG, eH, eI, eJ, eK, eL, eM, eN, eO, eP, aA, eQ, eR, eS, eT, eU, eV, eW, eX, eY, eZ, fA, fB, fC, fE, fF, fG, fH, fI, fJ, fK, fL, fM, fN, fO, fP, fQ, fR, fS, fT, fU, fV, fW, fX, fY, Res.bind_ex, Res.bind_no, fZ, gA, Res.st_ex, Res.st_no, gB, gC, gD, gE, gF, gG, gH, gI, gJ, gK, List.set_cons_zero, List.set_cons_succ, List.length_cons, List.length_nil, List.map_cons, List.map_nil, List.replicate, List.cons_append, List.nil_append, Nat.reduceSub, Nat.reduceAdd, Nat.reduceLT, List.append_nil, if_true, if_false, Bool.false_eq_true, ite_true, ite_false, decide_true, decide_false, Bool.not_true, Bool.not_false, hJ, hU, hW, hX, hZ, iA, iB, iC, iD, iE, iF, iG, iH, iI, iJ, iK, iL, iM, iN, iO, iP, iQ, iR, iS, iT, iU, iV, iW, iX, iY, iZ, jA, jB, jC, jD, tl_str, d_str, is_sn, s_str, eq_self' (m := m) (okd_mono 0 64 _ (by decide) hx), aA]
    | _ => simp [PV.okd] at hx
  | succ d ih =>
    intro x hx hd k m
    have h0 := h
    obtain ⟨N, hN, h'⟩ := h
    rw [call_at hN h']
    cases x with
    | tup xs =>
      simp only [PV.okd, PV.okdT, Bool.and_eq_true, decide_eq_true_eq] at hx
      have e := seq d ih xs k m [] _ (.inl rfl) hx.2 hx.1 (by omega)
      have hl : ((rangeV 0 xs.length).length ≤ LINE) = True := by rw [rangeV_len]; exact eq_true hx.1
      have hr : srcRg m (.int 0) (.int xs.length) = .ok (rangeV 0 xs.length, []) m := srcRg_n (by have := hx.1; unfold LINE at this; omega)
      simp only [B._law_alike, aB, aC, aD, aE, aF, aG, aH, aI, aJ, aK, aL, aM, aN, aO, aP, aQ, aR, aS, aT, aU, aV, aW, aX, aY, aZ, bA, bB, bC, bD, bE, bF, bG, bH, bI, bJ, bK, bL, bM, bN, bO, bP, bQ, bR, bS, bT, bU, bV, bW, bX, bY, bZ, cA, cB, cC, cD, cE, cF, cG, cH, cI, cJ, cK, cL, cM, cN, cO, cP, cQ, cR, cS, cT, cU, cW, cX, cY, cZ, dA, dB, dC, dD, dE, dF, dG, dH, dI, dJ, dL, dM, dN, dO, dP, dQ, dR, dS, dT, dU, dV, dW, dX, dY, dZ, eA, eB, eC, eE, eG, eH, eI, eJ, eK, eL, eM, eN, eO, eP, aA, eQ, eR, eS, eT, eU, eV, eW, eX, eY, eZ, fA, fB, fC, fE, fF, fG, fH, fI, fJ, fK, fL, fM, fN, fO, fP, fQ, fR, fS, fT, fU, fV, fW, fX, fY, Res.bind_ex, Res.bind_no, fZ, gA, Res.st_ex, Res.st_no, gB, gC, gD, gE, gF, gG, gH, gI, gJ, gK, List.set_cons_zero, List.set_cons_succ, List.length_cons, List.length_nil, List.map_cons, List.map_nil, List.replicate, List.cons_append, List.nil_append, Nat.reduceSub, Nat.reduceAdd, Nat.reduceLT, List.append_nil, if_true, if_false, Bool.false_eq_true, ite_true, ite_false, decide_true, decide_false, Bool.not_true, Bool.not_false, hJ, hU, hW, hX, hZ, iA, iB, iC, iD, iE, iF, iG, iH, iI, iJ, iK, iL, iM, iN, iO, iP, iQ, iR, iS, iT, iU, iV, iW, iX, iY, iZ, jA, jB, jC, jD, tl_tup, l_tup, len_tup, hr, hl, wipeP, ← Nat.add_assoc k d 1, e, aA]
    | lst xs =>
      simp only [PV.okd, PV.okdT, Bool.and_eq_true, decide_eq_true_eq] at hx
      have e := seq d ih xs k m [] _ (.inr rfl) hx.2 hx.1 (by omega)
      have hl : ((rangeV 0 xs.length).length ≤ LINE) = True := by rw [rangeV_len]; exact eq_true hx.1
      have hr : srcRg m (.int 0) (.int xs.length) = .ok (rangeV 0 xs.length, []) m := srcRg_n (by have := hx.1; unfold LINE at this; omega)
      simp only [B._law_alike, aB, aC, aD, aE, aF, aG, aH, aI, aJ, aK, aL, aM, aN, aO, aP, aQ, aR, aS, aT, aU, aV, aW, aX, aY, aZ, bA, bB, bC, bD, bE, bF, bG, bH, bI, bJ, bK, bL, bM, bN, bO, bP, bQ, bR, bS, bT, bU, bV, bW, bX, bY, bZ, cA, cB, cC, cD, cE, cF, cG, cH, cI, cJ, cK, cL, cM, cN, cO, cP, cQ, cR, cS, cT, cU, cW, cX, cY, cZ, dA, dB, dC, dD, dE, dF, dG, dH, dI, dJ, dL, dM, dN, dO, dP, dQ, dR, dS, dT, dU, dV, dW, dX, dY, dZ, eA, eB, eC, eE, eG, eH, eI, eJ, eK, eL, eM, eN, eO, eP, aA, eQ, eR, eS, eT, eU, eV, eW, eX, eY, eZ, fA, fB, fC, fE, fF, fG, fH, fI, fJ, fK, fL, fM, fN, fO, fP, fQ, fR, fS, fT, fU, fV, fW, fX, fY, Res.bind_ex, Res.bind_no, fZ, gA, Res.st_ex, Res.st_no, gB, gC, gD, gE, gF, gG, gH, gI, gJ, gK, List.set_cons_zero, List.set_cons_succ, List.length_cons, List.length_nil, List.map_cons, List.map_nil, List.replicate, List.cons_append, List.nil_append, Nat.reduceSub, Nat.reduceAdd, Nat.reduceLT, List.append_nil, if_true, if_false, Bool.false_eq_true, ite_true, ite_false, decide_true, decide_false, Bool.not_true, Bool.not_false, hJ, hU, hW, hX, hZ, iA, iB, iC, iD, iE, iF, iG, iH, iI, iJ, iK, iL, iM, iN, iO, iP, iQ, iR, iS, iT, iU, iV, iW, iX, iY, iZ, jA, jB, jC, jD, tl_lst, l_lst, len_lst, hr, hl, wipeP, ← Nat.add_assoc k d 1, e, aA]
    | int n => simp only [B._law_alike, aB, aC, aD, aE, aF, aG, aH, aI, aJ, aK, aL, aM, aN, aO, aP, aQ, aR, aS, aT, aU, aV, aW, aX, aY, aZ, bA, bB, bC, bD, bE, bF, bG, bH, bI, bJ, bK, bL, bM, bN, bO, bP, bQ, bR, bS, bT, bU, bV, bW, bX, bY, bZ, cA, cB, cC, cD, cE, cF, cG, cH, cI, cJ, cK, cL, cM, cN, cO, cP, cQ, cR, cS, cT, cU, cW, cX, cY, cZ, dA, dB, dC, dD, dE, dF, dG, dH, dI, dJ, dL, dM, dN, dO, dP, dQ, dR, dS, dT, dU, dV, dW, dX, dY, dZ, eA, eB, eC, eE, eG, eH, eI, eJ, eK, eL, eM, eN, eO, eP, aA, eQ, eR, eS, eT, eU, eV, eW, eX, eY, eZ, fA, fB, fC, fE, fF, fG, fH, fI, fJ, fK, fL, fM, fN, fO, fP, fQ, fR, fS, fT, fU, fV, fW, fX, fY, Res.bind_ex, Res.bind_no, fZ, gA, Res.st_ex, Res.st_no, gB, gC, gD, gE, gF, gG, gH, gI, gJ, gK, List.set_cons_zero, List.set_cons_succ, List.length_cons, List.length_nil, List.map_cons, List.map_nil, List.replicate, List.cons_append, List.nil_append, Nat.reduceSub, Nat.reduceAdd, Nat.reduceLT, List.append_nil, if_true, if_false, Bool.false_eq_true, ite_true, ite_false, decide_true, decide_false, Bool.not_true, Bool.not_false, hJ, hU, hW, hX, hZ, iA, iB, iC, iD, iE, iF, iG, iH, iI, iJ, iK, iL, iM, iN, iO, iP, iQ, iR, iS, iT, iU, iV, iW, iX, iY, iZ, jA, jB, jC, jD, isi_int_tl, isi_int m _ _ _ t_id, isi_int m _ _ _ t_is, isi_int m _ _ _ t_ii, isi_int m _ _ _ t_ib, aA]
    | bl b => simp only [B._law_alike, aB, aC, aD, aE, aF, aG, aH, aI, aJ, aK, aL, aM, aN, aO, aP, aQ, aR, aS, aT, aU, aV, aW, aX, aY, aZ, bA, bB, bC, bD, bE, bF, bG, bH, bI, bJ, bK, bL, bM, bN, bO, bP, bQ, bR, bS, bT, bU, bV, bW, bX, bY, bZ, cA, cB, cC, cD, cE, cF, cG, cH, cI, cJ, cK, cL, cM, cN, cO, cP, cQ, cR, cS, cT, cU, cW, cX, cY, cZ, dA, dB, dC, dD, dE, dF, dG, dH, dI, dJ, dL, dM, dN, dO, dP, dQ, dR, dS, dT, dU, dV, dW, dX, dY, dZ, eA, eB, eC, eE, eG, eH, eI, eJ, eK, eL, eM, eN, eO, eP, aA, eQ, eR, eS, eT, eU, eV, eW, eX, eY, eZ, fA, fB, fC, fE, fF, fG, fH, fI, fJ, fK, fL, fM, fN, fO, fP, fQ, fR, fS, fT, fU, fV, fW, fX, fY, Res.bind_ex, Res.bind_no, fZ, gA, Res.st_ex, Res.st_no, gB, gC, gD, gE, gF, gG, gH, gI, gJ, gK, List.set_cons_zero, List.set_cons_succ, List.length_cons, List.length_nil, List.map_cons, List.map_nil, List.replicate, List.cons_append, List.nil_append, Nat.reduceSub, Nat.reduceAdd, Nat.reduceLT, List.append_nil, if_true, if_false, Bool.false_eq_true, ite_true, ite_false, decide_true, decide_false, Bool.not_true, Bool.not_false, hJ, hU, hW, hX, hZ, iA, iB, iC, iD, iE, iF, iG, iH, iI, iJ, iK, iL, iM, iN, iO, iP, iQ, iR, iS, iT, iU, iV, iW, iX, iY, iZ, jA, jB, jC, jD, isi_bl_tl, isi_bl m _ _ _ t_bd, isi_bl m _ _ _ t_bs, isi_bl m _ _ _ t_bi, isi_bl m _ _ _ t_bb, aA]
    | non => simp only [B._law_alike, aB, aC, aD, aE, aF, aG, aH, aI, aJ, aK, aL, aM, aN, aO, aP, aQ, aR, aS, aT, aU, aV, aW, aX, aY, aZ, bA, bB, bC, bD, bE, bF, bG, bH, bI, bJ, bK, bL, bM, bN, bO, bP, bQ, bR, bS, bT, bU, bV, bW, bX, bY, bZ, cA, cB, cC, cD, cE, cF, cG, cH, cI, cJ, cK, cL, cM, cN, cO, cP, cQ, cR, cS, cT, cU, cW, cX, cY, cZ, dA, dB, dC, dD, dE, dF, dG, dH, dI, dJ, dL, dM, dN, dO, dP, dQ, dR, dS, dT, dU, dV, dW, dX, dY, dZ, eA, eB, eC, eE, eG, eH, eI, eJ, eK, eL, eM, eN, eO, eP, aA, eQ, eR, eS, eT, eU, eV, eW, eX, eY, eZ, fA, fB, fC, fE, fF, fG, fH, fI, fJ, fK, fL, fM, fN, fO, fP, fQ, fR, fS, fT, fU, fV, fW, fX, fY, Res.bind_ex, Res.bind_no, fZ, gA, Res.st_ex, Res.st_no, gB, gC, gD, gE, gF, gG, gH, gI, gJ, gK, List.set_cons_zero, List.set_cons_succ, List.length_cons, List.length_nil, List.map_cons, List.map_nil, List.replicate, List.cons_append, List.nil_append, Nat.reduceSub, Nat.reduceAdd, Nat.reduceLT, List.append_nil, if_true, if_false, Bool.false_eq_true, ite_true, ite_false, decide_true, decide_false, Bool.not_true, Bool.not_false, hJ, hU, hW, hX, hZ, iA, iB, iC, iD, iE, iF, iG, iH, iI, iJ, iK, iL, iM, iN, iO, iP, iQ, iR, iS, iT, iU, iV, iW, iX, iY, iZ, jA, jB, jC, jD, tl_non, d_non, is_nn, s_non, eq_self' (m := m) (x := PV.non) (by simp [PV.okd]), aA]
    | str s => simp only [B._law_alike, aB, aC, aD, aE, aF, aG, aH, aI, aJ, aK, aL, aM, aN, aO, aP, aQ, aR, aS, aT, aU, aV, aW, aX, aY, aZ, bA, bB, bC, bD, bE, bF, bG, bH, bI, bJ, bK, bL, bM, bN, bO, bP, bQ, bR, bS, bT, bU, bV, bW, bX, bY, bZ, cA, cB, cC, cD, cE, cF, cG, cH, cI, cJ, cK, cL, cM, cN, cO, cP, cQ, cR, cS, cT, cU, cW, cX, cY, cZ, dA, dB, dC, dD, dE, dF, dG, dH, dI, dJ, dL, dM, dN, dO, dP, dQ, dR, dS, dT, dU, dV, dW, dX, dY, dZ, eA, eB, eC, eE, eG, eH, eI, eJ, eK, eL, eM, eN, eO, eP, aA, eQ, eR, eS, eT, eU, eV, eW, eX, eY, eZ, fA, fB, fC, fE, fF, fG, fH, fI, fJ, fK, fL, fM, fN, fO, fP, fQ, fR, fS, fT, fU, fV, fW, fX, fY, Res.bind_ex, Res.bind_no, fZ, gA, Res.st_ex, Res.st_no, gB, gC, gD, gE, gF, gG, gH, gI, gJ, gK, List.set_cons_zero, List.set_cons_succ, List.length_cons, List.length_nil, List.map_cons, List.map_nil, List.replicate, List.cons_append, List.nil_append, Nat.reduceSub, Nat.reduceAdd, Nat.reduceLT, List.append_nil, if_true, if_false, Bool.false_eq_true, ite_true, ite_false, decide_true, decide_false, Bool.not_true, Bool.not_false, hJ, hU, hW, hX, hZ, iA, iB, iC, iD, iE, iF, iG, iH, iI, iJ, iK, iL, iM, iN, iO, iP, iQ, iR, iS, iT, iU, iV, iW, iX, iY, iZ, jA, jB, jC, jD, tl_str, d_str, is_sn, s_str, eq_self' (m := m) (okd_mono (d + 1) 64 _ hd hx), aA]
    | _ => simp [PV.okd] at hx
end
end Px
set_option Elab.async false
set_option linter.all false
namespace Mz
open Lean.Grind (Field)
section
variable {R : Type} [Field R]
def sm (l : List R) : R := l.foldr (· + ·) 0
@[simp] theorem sm_nil : sm ([] : List R) = 0 := rfl
@[simp] theorem sm_cons (a : R) (l : List R) : sm (a :: l) = a + sm l := rfl
def W : List R → List R
  | [] => [1]
  | x :: pt => (W pt).map ((1 - x) * ·) ++ (W pt).map (x * ·)
def hf (t : List R) (x : R) : List R := List.zipWith (fun a b => a + x * (b - a)) (t.take (t.length / 2)) (t.drop (t.length / 2))
def sp : List R → List R → R
  | t, [] => t.getD 0 0
  | t, x :: pt => sp (hf t x) pt
end
end Mz
set_option Elab.async false
set_option linter.all false
set_option maxRecDepth 100000
set_option maxHeartbeats 1000000
namespace Px
open PySem Mz
theorem gL : ((0 : Nat) : Int) = 0 := rfl
theorem gM : ((1 : Nat) : Int) = 1 := rfl
theorem gN : ((2 : Nat) : Int) = 2 := rfl
theorem gO : ((3 : Nat) : Int) = 3 := rfl
theorem gP : ((4 : Nat) : Int) = 4 := rfl
theorem gQ : ((5 : Nat) : Int) = 5 := rfl
theorem gR : ((6 : Nat) : Int) = 6 := rfl
theorem gS : ((7 : Nat) : Int) = 7 := rfl
theorem gT : ((8 : Nat) : Int) = 8 := rfl
theorem gU : ((9 : Nat) : Int) = 9 := rfl
theorem gV : ((10 : Nat) : Int) = 10 := rfl
theorem gW : ((11 : Nat) : Int) = 11 := rfl
theorem gX : ((12 : Nat) : Int) = 12 := rfl
theorem gY (a : Int) : decide (a = a) = true := decide_eq_true rfl
theorem frGo_foldI {α σ υ : Type} {bind : PV → Px.Env → Mem → Res Px.Env} {body : Px.Env → Mem → RS} (f : α → PV) (st : σ → υ → Px.Env) (M : σ → Mem) (step : σ → α → σ) (P : Nat → σ → Prop) {n : Nat} : ∀ (ys : List α) (i : Nat) (s : σ) (u : υ), P i s → i + ys.length ≤ n →
    (∀ i s u, ∀ y ∈ ys, i < n → P i s → P (i + 1) (step s y) ∧ ∃ η1 u', bind (f y) (st s u) (M s) = .ok η1 (M s) ∧ body η1 (M s) = .nx (st (step s y) u') (M (step s y))) →
    P (i + ys.length) (ys.foldl step s) ∧ ∃ u', frGo [] bind body (ys.map f) (st s u) (M s) = .nx (st (ys.foldl step s) u') (M (ys.foldl step s))
  | [], i, s, u, h0, _, _ => ⟨h0, u, rfl⟩
  | y :: ys, i, s, u, h0, hn, hs => by
    rw [List.length_cons] at hn
    obtain ⟨p1, η1, u1, e1, e2⟩ := hs i s u y List.mem_cons_self (by omega) h0
    obtain ⟨p2, u2, e3⟩ := frGo_foldI f st M step P ys (i + 1) (step s y) u1 p1 (by omega) fun i s u y hy => hs i s u y (List.mem_cons_of_mem _ hy)
    refine ⟨by rw [List.length_cons, show i + (ys.length + 1) = i + 1 + ys.length from by omega]; exact p2, u2, ?_⟩
    rw [List.map_cons, eJ, e1, Res.st_ok, e2, loopK_nx, e3, List.foldl_cons]
section
variable {m : Mem} {p : Nat} [hp : PrL p]
theorem gZ {Γ : Call} {η : Px.Env} {own own1 : List Nat} {t t1 : Tg} {it it1 : It} {c c1 : Option Ex} {e : Ex} : evL Γ (.cp2 own own1 t it c t1 it1 c1 e) η m = (evI Γ it η m).bind fun s m1 => ((lc2Go s.2 (bnd Γ t) (evC Γ c) (fun η1 m2 => (evI Γ it1 η1 m2).bind fun s1 m3 => lcGo s1.2 (bnd Γ t1) (evC Γ c1) (evE Γ e) (wipeP η1 own1) s1.1 m3) (wipeP η own) s.1 m1).nox).bind fun vs m' => okLen vs m' := by simp only [evL]
theorem slc_to (xs : List PV) (k : Nat) : opSlc m (.tup xs) none (some (k : Int)) = .ok (.tup (xs.take k)) m := by
  simp only [opSlc, cutP, HT.sIx_none, HT.sIx_nat, List.drop_zero, Nat.sub_zero]
  congr 2
  by_cases h : k ≤ xs.length
  · rw [Nat.min_eq_left h]
  · rw [Nat.min_eq_right (by omega), List.take_of_length_le (Nat.le_refl _), List.take_of_length_le (by omega)]
theorem rangeV0 (n : Nat) : rangeV 0 n = (List.range n).map fun i : Nat => PV.int i := by
  simp only [rangeV, Int.zero_add]
theorem srcRg_0n {n : Nat} (h : n ≤ 1000000) : srcRg m (.int 0) (.int n) = .ok ((List.range n).map fun i : Nat => PV.int i, []) m := by rw [srcRg_n (by omega), rangeV0]
theorem le_line {n : Nat} (h : n ≤ 1000000) : n ≤ LINE := by unfold LINE; omega
theorem le_lineT {n : Nat} (h : n ≤ 1000000) : (n ≤ LINE) = True := eq_true (le_line h)
theorem hA (i : Int) : opBin m .fdv (.int i) (.int 2) = .ok (.int (i / 2)) m := fdv_ii (by decide) two_log
theorem hC (i : Int) : opBin m .mod (.int i) (.int 2) = .ok (.int (i % 2)) m := mod_ii (by decide)
theorem hE (i : Int) : opBin m .band (.int i) (.int 1) = .ok (.int (i % 2)) m := by
  show Res.ok (PV.int (Builtin.bitAnd i 1)) m = _
  rw [PyProof.Rows.bitAnd_m1]
theorem idx_lv {t : List (Zp p)} {i : Nat} (h : i < t.length) : opIdx m (.lst (nvs t)) (.int i) = .ok (.int (zr (t.getD i 0))) m := by
  refine idx_lst ?_
  rw [List.getElem?_map, List.getElem?_eq_getElem h, List.getD_eq_getElem?_getD, List.getElem?_eq_getElem h]; rfl
theorem hI (a : Zp p) (l : List (Zp p)) : nvs (a :: l) = .int (zr a) :: nvs l := rfl
theorem nvs_nil : nvs ([] : List (Zp p)) = [] := rfl
theorem nvs_len (l : List (Zp p)) : (nvs l).length = l.length := List.length_map ..
theorem len_tv (l : List (Zp p)) : opBf m .len [tv l] = .ok (.int l.length) m := by rw [len_tup, nvs_len]
theorem asInts_map (ns : List Int) : asInts (ns.map PV.int) = some ns := by
  induction ns with
  | nil => rfl
  | cons n ns ih => rw [List.map_cons, asInts, ih]; rfl
theorem sum_t (ns : List Int) : opBf m .sum [.tup (ns.map PV.int)] = .ok (.int ns.sum) m := by simp [opBf, asS, asInts_map]
theorem sum_l (ns : List Int) : opBf m .sum [.lst (ns.map PV.int)] = .ok (.int ns.sum) m := by simp [opBf, asS, asL, asInts_map]
theorem okd_nvs (d : Nat) : ∀ l : List (Zp p), PV.okdA d (nvs l) = true := fun l => okdA_mem.mpr fun x hx => by
  obtain ⟨a, _, rfl⟩ := List.mem_map.mp hx
  simp [PV.okd]
theorem okd_tv {d : Nat} {l : List (Zp p)} (h : l.length ≤ 1000000) : (tv l).okd (d + 1) = true := by
  simp only [PV.okd, PV.okdT, okd_nvs, Bool.and_true, decide_eq_true_eq, nvs_len]; exact le_line h
theorem enum_map {α : Type} (f : α → PV) (l : List α) : enumV (l.map f) = ((List.range l.length).zip l).map fun q => .tup [.int (q.1 : Nat), f q.2] := by
  refine List.ext_getElem (by simp [enumV]) fun i h1 h2 => ?_
  simp [enumV] at h1 h2
  simp [enumV, h2]
def IsSq (w : PV) (xs : List PV) : Prop := w = .tup xs ∨ w = .lst xs
theorem IsSq.src {w : PV} {xs : List PV} (h : IsSq w xs) : srcSq m w = .ok (xs, []) m := by rcases h with rfl | rfl <;> rfl
theorem IsSq.zip {w w' : PV} {xs ys : List PV} (h : IsSq w xs) (h' : IsSq w' ys) : srcZp m w w' = .ok (zipV xs ys, []) m := by rcases h with rfl | rfl <;> rcases h' with rfl | rfl <;> rfl
theorem IsSq.len {w : PV} {xs : List PV} (h : IsSq w xs) : opBf m .len [w] = .ok (.int xs.length) m := by rcases h with rfl | rfl <;> rfl
theorem IsSq.idx {w : PV} {xs : List PV} {i : Nat} {v : PV} (h : IsSq w xs) (e : xs[i]? = some v) : opIdx m w (.int i) = .ok v m := by
  rcases h with rfl | rfl
  · exact idx_tup e
  · exact idx_lst e
theorem IsSq.sum {w : PV} {ns : List Int} (h : IsSq w (ns.map PV.int)) : opBf m .sum [w] = .ok (.int ns.sum) m := by
  rcases h with rfl | rfl
  · exact sum_t ns
  · exact sum_l ns
theorem isq_t (xs : List PV) : IsSq (.tup xs) xs := .inl rfl
theorem isq_l (xs : List PV) : IsSq (.lst xs) xs := .inr rfl
theorem tupN_2 {m : Mem} (x y : PV) (f : List PV → Res Px.Env) : tupN m 2 (.tup [x, y]) f = f [x, y] := rfl
theorem gc_app1 {m : Mem} {o : Ob} {v : PV} (h : v.bel m.length = true) : gcP m (.ok v (m ++ [o])) = .ok v m := gcP_app h
theorem belA_nvs (n : Nat) : ∀ l : List (Zp p), PV.belA n (nvs l) = true
  | [] => rfl
  | a :: l => by simp only [nvs, List.map_cons, PV.belA, PV.bel, Bool.true_and]; exact belA_nvs n l
theorem bel_tv (n : Nat) (l : List (Zp p)) : (tv l).bel n = true := belA_nvs n l
theorem put_last (η : Px.Env) (m : Mem) (xs : List PV) (v : PV) {j : Nat} (h : j < xs.length) : putP η (m ++ [.lst xs]) (.loc m.length) (.int j) v = .ok η (m ++ [.lst (xs.set j v)]) := by
  have e : (m ++ [Ob.lst xs])[m.length]? = some (.lst xs) := by simp
  have e2 : L2.ixN xs.length (j : Int) = some j := by
    unfold L2.ixN; rw [if_pos (by omega), if_pos (by omega), Int.toNat_natCast]
  have e3 : (m ++ [Ob.lst xs]).set m.length (Ob.lst (xs.set j v)) = m ++ [.lst (xs.set j v)] := by simp
  simp only [putP, e, e2, e3]
theorem idx_last (m : Mem) (xs : List PV) {j : Nat} {v : PV} (h : xs[j]? = some v) : opIdx (m ++ [.lst xs]) (.loc m.length) (.int j) = .ok v (m ++ [.lst xs]) := by
  have e : (m ++ [Ob.lst xs])[m.length]? = some (.lst xs) := by simp
  have e2 := L2.atI_nat h
  simp only [opIdx, asS, asL, e, e2]
theorem append_last (m : Mem) (xs : List PV) (v : PV) (h : xs.length < LINE) : opMt (m ++ [.lst xs]) .append (.loc m.length) [v] = .ok .non (m ++ [.lst (xs ++ [v])]) := by
  have e : (m ++ [Ob.lst xs])[m.length]? = some (.lst xs) := by simp
  have e3 : (m ++ [Ob.lst xs]).set m.length (Ob.lst (xs ++ [v])) = m ++ [.lst (xs ++ [v])] := by simp
  simp only [opMt, e, if_pos h, e3]
theorem mtG_last (k : Mt) (hk : k = .append ∨ k = .pop) (m : Mem) (xs : List PV) (r : Res PV) : mtG k (m ++ [.lst xs]) (.loc m.length) r = r := by
  have e : (m ++ [Ob.lst xs])[m.length]? = some (.lst xs) := by simp
  have : mtOk k (m ++ [Ob.lst xs]) (.loc m.length) = true := by rcases hk with rfl | rfl <;> simp [mtOk, asL]
  rw [mtG, if_pos this]
theorem tuple_last (m : Mem) (xs : List PV) : opBf (m ++ [.lst xs]) .tuple [.loc m.length] = .ok (.tup xs) (m ++ [.lst xs]) := by
  have e : (m ++ [Ob.lst xs])[m.length]? = some (.lst xs) := by simp
  simp only [opBf, asL, e]
end
end Px
set_option Elab.async false
set_option linter.all false
set_option maxRecDepth 100000
set_option maxHeartbeats 1000000
namespace Px
open PySem Mz
def B.names_in : List St := [
  .ret (some (.bin .sub (.bln (.bf .len [.var 0])) (.int 1)))]
def At.names_in (ds : List Def) (i : Nat) : Prop := ∃ (N : List Str), N.length = 1 ∧ ds[i]? = some ⟨N, 1, B.names_in⟩
def B.is_plain_table (c_are_numbers : Nat) (x_MOST_ENTRIES : Str) : List St := [
  .iff (.not_ (.call c_are_numbers [.var 0, .var 1, .int 1, .gl x_MOST_ENTRIES (PV.int 1024)])) [.ret (some (.bl false))] [],
  .ret (some (.cmp .eq (.bin .band (.bf .len [.var 1]) (.bin .sub (.bf .len [.var 1]) (.int 1))) (.int 0)))]
def At.is_plain_table (ds : List Def) (i : Nat) : Prop := ∃ (N : List Str), ∃ (c_are_numbers : Nat), ∃ (x_MOST_ENTRIES : Str), N.length = 2 ∧ ds[i]? = some ⟨N, 2, B.is_plain_table c_are_numbers x_MOST_ENTRIES⟩ ∧ At.are_numbers ds c_are_numbers
def B.need_table (c_is_plain_table : Nat) : List St := [
  .iff (.not_ (.call c_is_plain_table [.var 0, .var 1])) [.rai "" []] []]
def At.need_table (ds : List Def) (i : Nat) : Prop := ∃ (N : List Str), ∃ (c_is_plain_table : Nat), N.length = 2 ∧ ds[i]? = some ⟨N, 2, B.need_table c_is_plain_table⟩ ∧ At.is_plain_table ds c_is_plain_table
def B.is_point (c_are_numbers : Nat) (x_MOST_POINT : Str) : List St := [
  .ret (some (.and_ (.call c_are_numbers [.var 0, .var 1, .int 0, .gl x_MOST_POINT (PV.int 24)]) (.or_ (.cmp .is (.var 2) (.non)) (.cmp .eq (.bf .len [.var 1]) (.var 2)))))]
def At.is_point (ds : List Def) (i : Nat) : Prop := ∃ (N : List Str), ∃ (c_are_numbers : Nat), ∃ (x_MOST_POINT : Str), N.length = 3 ∧ ds[i]? = some ⟨N, 3, B.is_point c_are_numbers x_MOST_POINT⟩ ∧ At.are_numbers ds c_are_numbers
def B.need_point (c_is_point : Nat) : List St := [
  .iff (.not_ (.call c_is_point [.var 0, .var 1, .var 2])) [.rai "" []] []]
def At.need_point (ds : List Def) (i : Nat) : Prop := ∃ (N : List Str), ∃ (c_is_point : Nat), N.length = 3 ∧ ds[i]? = some ⟨N, 3, B.need_point c_is_point⟩ ∧ At.is_point ds c_is_point
def B.half : List St := [
  .asg (.nm 3) (.bin .fdv (.bf .len [.var 1]) (.int 2)),
  .ret (some (.bf .tuple [.pl (.cp [4] (.nm 4) (.rg1 (.var 3)) none (.bin .mod (.bin .add (.idx (.var 1) (.var 4)) (.bin .mul (.var 2) (.bin .sub (.idx (.var 1) (.bin .add (.var 3) (.var 4))) (.idx (.var 1) (.var 4))))) (.var 0)))]))]
def At.half (ds : List Def) (i : Nat) : Prop := ∃ (N : List Str), N.length = 5 ∧ ds[i]? = some ⟨N, 3, B.half⟩
def B.spread_at (c_half : Nat) : List St := [
  .for_ (.nm 3) (.sq (.var 2)) [.asg (.nm 1) (.call c_half [.var 0, .var 1, .var 3])],
  .ret (some (.idx (.var 1) (.int 0)))]
def At.spread_at (ds : List Def) (i : Nat) : Prop := ∃ (N : List Str), ∃ (c_half : Nat), N.length = 4 ∧ ds[i]? = some ⟨N, 3, B.spread_at c_half⟩ ∧ At.half ds c_half
def B.whole (c_need_prime c_need_table : Nat) : List St := [
  .ex (.call c_need_prime [.var 0, .int 5]),
  .ex (.call c_need_table [.var 0, .var 1]),
  .ret (some (.bin .mod (.bf .sum [.var 1]) (.var 0)))]
def At.whole (ds : List Def) (i : Nat) : Prop := ∃ (N : List Str), ∃ (c_need_prime c_need_table : Nat), N.length = 2 ∧ ds[i]? = some ⟨N, 2, B.whole c_need_prime c_need_table⟩ ∧ At.need_prime ds c_need_prime ∧ At.need_table ds c_need_table
def B._law_bits : List St := [
  .asg (.nm 2) (.ml (.dsp [])),
  .for_ (.nm 3) (.rg1 (.var 0)) [.ex (.mt .append (.var 2) [.bin .mod (.bin .fdv (.var 1) (.bin .shl (.int 1) (.bin .sub (.bin .sub (.var 0) (.int 1)) (.var 3)))) (.int 2)])],
  .ret (some (.bf .tuple [.var 2]))]
def At._law_bits (ds : List Def) (i : Nat) : Prop := ∃ (N : List Str), N.length = 4 ∧ ds[i]? = some ⟨N, 2, B._law_bits⟩
def B._law_weight : List St := [
  .asg (.nm 3) (.int 1),
  .for_ (.tp [.nm 4, .nm 5]) (.zip (.var 1) (.var 2)) [.asg (.nm 3) (.bin .mod (.bin .mul (.var 3) (.ite (.cmp .eq (.var 4) (.int 1)) (.var 5) (.bin .sub (.int 1) (.var 5)))) (.var 0))],
  .ret (some (.var 3))]
def At._law_weight (ds : List Def) (i : Nat) : Prop := ∃ (N : List Str), N.length = 6 ∧ ds[i]? = some ⟨N, 3, B._law_weight⟩
def B._law_spread (c__law_bits c__law_weight : Nat) : List St := [
  .asg (.nm 3) (.bf .len [.var 2]),
  .ret (some (.bin .mod (.bf .sum [.pl (.cp [4] (.nm 4) (.rg1 (.bf .len [.var 1])) none (.bin .mul (.idx (.var 1) (.var 4)) (.call c__law_weight [.var 0, .call c__law_bits [.var 3, .var 4], .var 2])))]) (.var 0)))]
def At._law_spread (ds : List Def) (i : Nat) : Prop := ∃ (N : List Str), ∃ (c__law_bits c__law_weight : Nat), N.length = 5 ∧ ds[i]? = some ⟨N, 3, B._law_spread c__law_bits c__law_weight⟩ ∧ At._law_bits ds c__law_bits ∧ At._law_weight ds c__law_weight
section
variable {ds : List Def} {k : Nat} {m rest : Mem} {p : Nat} [hp : PrL p]
end
end Px
set_option Elab.async false
set_option linter.all false
set_option maxRecDepth 100000
set_option maxHeartbeats 1000000
namespace Px
open PySem Mz
section
variable {ds : List Def} {k : Nat} {m rest : Mem} {p : Nat} [hp : PrL p]
theorem nvs_range (f : Nat → Zp p) (n : Nat) : nvs ((List.range n).map f) = (List.range n).map fun i => PV.int (zr (f i)) := by show List.map _ (List.map _ _) = _; rw [List.map_map]; rfl
end
end Px
set_option Elab.async false
set_option linter.all false
set_option maxRecDepth 100000
set_option maxHeartbeats 1000000
namespace Px
open PySem Mz
section
variable {ds : List Def} {k : Nat} {m rest : Mem} {p : Nat} [hp : PrL p]
end
theorem eq_okd {m : Mem} {x y : PV} (hx : x.okd 64 = true) (hy : y.okd 64 = true) : opCmp m .eq x y = .ok (.bl (PyData.eqv (dOf x) (dOf y))) m := by
  simp only [opCmp, pvEq, dicTup_okd hx, locNil_not (okd_loc hx), Bool.false_eq_true, if_false, toDT_not (okd_loc hx), toDT_not (okd_loc hy), (okd_toD m 64 x hx).1, (okd_toD m 64 y hy).1, shp_of (m := m) hx (Nat.le_refl _), shp_of (m := m) hy (Nat.le_refl _), Bool.and_self, if_true]
theorem ne_okd {m : Mem} {x y : PV} (hx : x.okd 64 = true) (hy : y.okd 64 = true) : opCmp m .ne x y = .ok (.bl (!PyData.eqv (dOf x) (dOf y))) m := by
  simp only [opCmp, pvEq, dicTup_okd hx, locNil_not (okd_loc hx), Bool.false_eq_true, if_false, toDT_not (okd_loc hx), toDT_not (okd_loc hy), (okd_toD m 64 x hx).1, (okd_toD m 64 y hy).1, shp_of (m := m) hx (Nat.le_refl _), shp_of (m := m) hy (Nat.le_refl _), Bool.and_self, if_true]
end Px
set_option Elab.async false
set_option linter.all false
namespace Mz
open Lean.Grind (Field)
section
variable {R : Type} [Field R] [DecidableEq R]
def cutz (l : List R) : List R := (l.reverse.dropWhile fun a => decide (a = 0)).reverse
theorem cutz_nil : cutz ([] : List R) = [] := rfl
theorem cutz_zero (l : List R) : cutz (l ++ [0]) = cutz l := by simp [cutz]
theorem cutz_ne (l : List R) {a : R} (h : a ≠ 0) : cutz (l ++ [a]) = l ++ [a] := by simp [cutz, h]
theorem cutz_ind {P : List R → Prop} (h0 : P []) (hz : ∀ l, P l → P (l ++ [0])) (hn : ∀ l a, a ≠ 0 → P (l ++ [a])) : ∀ l, P l := by
  intro l
  generalize hn' : l.length = n
  induction n generalizing l with
  | zero => rw [List.length_eq_zero_iff.mp hn']; exact h0
  | succ n ih =>
    rcases List.eq_nil_or_concat l with rfl | ⟨l', a, e⟩
    · exact h0
    · rw [List.concat_eq_append] at e
      subst e
      by_cases h : a = 0
      · subst h; exact hz l' (ih l' (by simpa using hn'))
      · exact hn l' a h
theorem cutz_cut : ∀ l : List R, Cut (cutz l) := cutz_ind (fun a h => by simp [cutz] at h) (fun l h => by rw [cutz_zero]; exact h) fun l a h => by
  rw [cutz_ne l h]; intro b hb; simp at hb; rw [← hb]; exact h
theorem cutz_len : ∀ l : List R, (cutz l).length ≤ l.length := cutz_ind (by simp [cutz]) (fun l h => by rw [cutz_zero]; simp; omega) fun l a h => by rw [cutz_ne l h]; exact Nat.le_refl _
theorem getD_app {l : List R} (i : Nat) : (l ++ [0]).getD i 0 = l.getD i 0 := by
  simp only [List.getD_eq_getElem?_getD]
  rcases Nat.lt_trichotomy i l.length with h | h | h
  · rw [List.getElem?_append_left h]
  · subst h; simp
  · rw [List.getElem?_eq_none (by simp; omega), List.getElem?_eq_none (by omega)]
theorem cutz_get (i : Nat) : ∀ l : List R, (cutz l).getD i 0 = l.getD i 0 := cutz_ind rfl (fun l h => by rw [cutz_zero, h, getD_app]) fun l a h => by rw [cutz_ne l h]
theorem pev_app0 (l : List R) (x : R) : pev (l ++ [0]) x = pev l x := by rw [pev_app, pev_cons, pev_nil]; grind
theorem cutz_pev (x : R) : ∀ l : List R, pev (cutz l) x = pev l x := cutz_ind rfl (fun l h => by rw [cutz_zero, h, pev_app0]) fun l a h => by rw [cutz_ne l h]
theorem cutz_le {l : List R} {n : Nat} (h : ∀ i, n ≤ i → l.getD i 0 = 0) : (cutz l).length ≤ n := cut_get (cutz_cut l) fun i hi => by rw [cutz_get]; exact h i hi
def pst (c : R) (l : List R) : List R := (List.range (l.length + 1)).map fun k => (if 0 < k then l.getD (k - 1) 0 else 0) - c * (if k < l.length then l.getD k 0 else 0)
theorem ext_getD {l r : List R} (hl : l.length = r.length) (h : ∀ i, l.getD i 0 = r.getD i 0) : l = r := List.ext_getElem hl fun i h1 h2 => by
  have := h i
  rwa [List.getD_eq_getElem?_getD, List.getD_eq_getElem?_getD, List.getElem?_eq_getElem h1, List.getElem?_eq_getElem h2] at this
theorem getD_out {l : List R} {i : Nat} (h : l.length ≤ i) : l.getD i 0 = 0 := by rw [List.getD_eq_getElem?_getD, List.getElem?_eq_none h]; rfl
theorem getD_map_range (f : Nat → R) {n i : Nat} (h : i < n) : ((List.range n).map f).getD i 0 = f i := by
  rw [List.getD_eq_getElem?_getD, List.getElem?_map, List.getElem?_range h]; rfl
theorem getD_psc (c : R) (l : List R) (i : Nat) : (psc c l).getD i 0 = c * l.getD i 0 := by
  simp only [psc, List.getD_eq_getElem?_getD, List.getElem?_map]
  cases l[i]? <;> simp <;> grind
theorem pst_eq (c : R) (l : List R) : pst c l = padd (0 :: l) (psc (-c) l) := by
  refine ext_getD (by simp [pst, padd_len, psc]) fun i => ?_
  rw [padd_get, getD_psc]
  by_cases hi : i < l.length + 1
  · rw [pst, getD_map_range _ hi]
    cases i with
    | zero =>
      rw [if_neg (by omega), List.getD_cons_zero]
      split
      · grind
      · rw [getD_out (l := l) (i := 0) (by omega)]; grind
    | succ i =>
      rw [if_pos (by omega), Nat.add_sub_cancel, List.getD_cons_succ]
      split
      · grind
      · rw [getD_out (l := l) (i := i + 1) (by omega)]; grind
  · rw [getD_out (by simp [pst]; omega), getD_out (by simp; omega), getD_out (by omega)]; grind
theorem pst_len (c : R) (l : List R) : (pst c l).length = l.length + 1 := by simp [pst]
theorem pst_pev (c x : R) (l : List R) : pev (pst c l) x = (x - c) * pev l x := by
  rw [pst_eq, pev_padd, pev_psc, pev_cons]; grind
def pdf (x : R) (cs : List R) : R := cs.foldl (fun u c => u * (x - c)) 1
theorem pdf_from (x : R) : ∀ (cs : List R) (u : R), cs.foldl (fun u c => u * (x - c)) u = u * pdf x cs
  | [], u => by simp [pdf]; grind
  | c :: cs, u => by
    have e : pdf x (c :: cs) = (1 * (x - c)) * pdf x cs := by rw [pdf, List.foldl_cons, pdf_from x cs]
    rw [List.foldl_cons, pdf_from x cs, e]; grind
theorem pdf_cons (x c : R) (cs : List R) : pdf x (c :: cs) = (x - c) * pdf x cs := by rw [pdf, List.foldl_cons, pdf_from]; grind
theorem pdf_zero {x : R} : ∀ {cs : List R}, x ∈ cs → pdf x cs = 0
  | [], h => by cases h
  | c :: cs, h => by
    rw [pdf_cons]
    rcases List.mem_cons.mp h with rfl | h
    · grind
    · rw [pdf_zero h]; grind
theorem pdf_ne {x : R} : ∀ {cs : List R}, x ∉ cs → pdf x cs ≠ 0
  | [], _ => by simp [pdf]; grind
  | c :: cs, h => by
    rw [pdf_cons]
    intro e
    rcases mul_eq0 e with e | e
    · exact h (by rw [show x = c from by grind]; exact List.mem_cons_self)
    · exact pdf_ne (fun z => h (List.mem_cons_of_mem _ z)) e
theorem foldl_pst (x : R) : ∀ (cs : List R) (l : List R), pev (cs.foldl (fun l c => pst c l) l) x = pev l x * pdf x cs ∧ (cs.foldl (fun l c => pst c l) l).length = l.length + cs.length
  | [], l => by simp [pdf]; grind
  | c :: cs, l => by
    obtain ⟨h1, h2⟩ := foldl_pst x cs (pst c l)
    rw [List.foldl_cons, h1, h2, pst_pev, pdf_cons, pst_len]
    refine ⟨by grind, by simp; omega⟩
def pax (l r : List R) (c : R) : List R := (List.range l.length).map fun k => l.getD k 0 + r.getD k 0 * c
theorem pax_eq (l r : List R) (c : R) (h : r.length ≤ l.length) : pax l r c = padd l (psc c r) := by
  refine ext_getD (by simp [pax, padd_len, psc]; omega) fun i => ?_
  rw [padd_get, getD_psc]
  by_cases hi : i < l.length
  · rw [pax, getD_map_range _ hi]; grind
  · rw [getD_out (by simp [pax]; omega), getD_out (by omega), getD_out (by omega)]; grind
theorem pax_len (l r : List R) (c : R) : (pax l r c).length = l.length := by simp [pax]
theorem pax_pev (l r : List R) (c x : R) (h : r.length ≤ l.length) : pev (pax l r c) x = pev l x + pev r x * c := by
  rw [pax_eq l r c h, pev_padd, pev_psc]; grind
end
end Mz
set_option Elab.async false
set_option linter.all false
set_option maxRecDepth 100000
set_option maxHeartbeats 1000000
namespace Px
open PySem Mz
def B._law_cut : List St := [
  .asg (.nm 1) (.ml (.lof (.var 0))),
  .whl (.and_ (.cmp .ne (.var 1) (.pl (.dsp []))) (.cmp .eq (.idx (.var 1) (.neg (.int 1))) (.int 0))) [.ex (.mt .pop (.var 1) [])],
  .ret (some (.bf .tuple [.var 1]))]
def At._law_cut (ds : List Def) (i : Nat) : Prop := ∃ (N : List Str), N.length = 2 ∧ ds[i]? = some ⟨N, 1, B._law_cut⟩
def B._law_through (c__law_inverse c__law_cut : Nat) : List St := [
  .asg (.nm 2) (.pl (.rep (.pl (.dsp [.int 0])) (.bf .len [.var 1]))),
  .for_ (.tp [.nm 3, .nm 4]) (.enm (.var 1)) [.asg (.tp [.nm 5, .nm 6]) (.tup [.pl (.dsp [.int 1]), .int 1]), .for_ (.nm 7) (.rg1 (.bf .len [.var 1])) [.iff (.cmp .ne (.var 7) (.var 3)) [.asg (.nm 5) (.pl (.cp [8] (.nm 8) (.rg1 (.bin .add (.bf .len [.var 5]) (.int 1))) none (.bin .mod (.bin .sub (.ite (.cmp .gt (.var 8) (.int 0)) (.idx (.var 5) (.bin .sub (.var 8) (.int 1))) (.int 0)) (.bin .mul (.var 7) (.ite (.cmp .lt (.var 8) (.bf .len [.var 5])) (.idx (.var 5) (.var 8)) (.int 0)))) (.var 0)))), .asg (.nm 6) (.bin .mod (.bin .mul (.var 6) (.bin .sub (.var 3) (.var 7))) (.var 0))] []], .asg (.nm 9) (.bin .mod (.bin .mul (.var 4) (.call c__law_inverse [.var 0, .bin .mod (.var 6) (.var 0)])) (.var 0)), .asg (.nm 2) (.pl (.cp [8] (.nm 8) (.rg1 (.bf .len [.var 2])) none (.bin .mod (.bin .add (.idx (.var 2) (.var 8)) (.bin .mul (.idx (.var 5) (.var 8)) (.var 9))) (.var 0))))],
  .ret (some (.call c__law_cut [.var 2]))]
def At._law_through (ds : List Def) (i : Nat) : Prop := ∃ (N : List Str), ∃ (c__law_inverse c__law_cut : Nat), N.length = 10 ∧ ds[i]? = some ⟨N, 2, B._law_through c__law_inverse c__law_cut⟩ ∧ At._law_inverse ds c__law_inverse ∧ At._law_cut ds c__law_cut
section
variable {ds : List Def} {k : Nat} {m rest : Mem} {p : Nat} [hp : PrL p]
theorem p_lt : p < 2 ^ 40 := by have := hp.pM; omega
theorem zr_asn (a : Zp p) : ∃ n : Nat, zr a = n ∧ n < p ∧ zn p n = a := ⟨(show Fin p from a).val, rfl, (show Fin p from a).isLt, zn_surj a⟩
theorem zr_inv (a : Zp p) {n : Nat} (h : zn p n = a) : ((n ^ (p - 2) % p : Nat) : Int) = zr (a⁻¹) := by
  have h5 := hp.p5
  have e : zc p ((n ^ (p - 2) % p : Nat) : Int) = a⁻¹ := by
    rw [zc_n, show zn p (n ^ (p - 2) % p) = zn p (n ^ (p - 2)) from by rw [zn_ext, Nat.mod_mod], zn_pow, h]
    by_cases z : a = 0
    · rw [z, zinv_0, show p - 2 = (p - 3) + 1 from by omega, Lean.Grind.Semiring.pow_succ]; grind
    · rw [zinv_def z]
  have lt : n ^ (p - 2) % p < p := Nat.mod_lt _ (by omega)
  rw [← e, zr_of (by omega) (by omega)]
theorem law_inverse_z {i : Nat} (h : At._law_inverse ds i) (a : Zp p) : callF ds (k + 1) i [.int p, .int (zr a)] m = .ok (.int (zr (a⁻¹))) m := by
  obtain ⟨N, hN, h⟩ := h
  obtain ⟨n, e, hn, hz⟩ := zr_asn a
  have h5 := hp.p5
  rw [e, law_inverse_ok hN h (by omega) (Nat.lt_trans p_lt (by decide)), zr_inv a hz]
theorem turned_over_z {i : Nat} (h : At.turned_over ds i) (a : Zp p) : callF ds (k + 2) i [.int p, .int (zr a)] m = .ok (.int (zr (a⁻¹))) m := by
  obtain ⟨N, c, hN, h, Nr, hNr, hr⟩ := h
  obtain ⟨n, e, hn, hz⟩ := zr_asn a
  have h5 := hp.p5
  have hM := hp.pM
  have q : (p : Int) - 2 = ((p - 2 : Nat) : Int) := by omega
  rw [call_at hN h, e]
  have hr' := raised_ok (k := k) (m := m) hNr hr (p := p) (b := n) (t := p - 2) (by omega) (Nat.lt_trans p_lt (by decide)) (Nat.lt_trans (show p - 2 < 2 ^ 31 by omega) (Nat.pow_lt_pow_right (by decide) (by decide)))
  simp only [B.turned_over, aB, aC, aD, aE, aF, aG, aH, aI, aJ, aK, aL, aM, aN, aO, aP, aQ, aR, aS, aT, aU, aV, aW, aX, aY, aZ, bA, bB, bC, bD, bE, bF, bG, bH, bI, bJ, bK, bL, bM, bN, bO, bP, bQ, bR, bS, bT, bU, bV, bW, bX, bY, bZ, cA, cB, cC, cD, cE, cF, cG, cH, cI, cJ, cK, cL, cM, cN, cO, cP, cQ, cR, cS, cT, cU, cW, cX, cY, cZ, dA, dB, dC, dD, dE, dF, dG, dH, dI, dJ, dL, dM, dN, dO, dP, dQ, dR, dS, dT, dU, dV, dW, dX, dY, dZ, eA, eB, eC, eE, eG, eH, eI, eJ, eK, eL, eM, eN, eO, eP, aA, eQ, eR, eS, eT, eU, eV, eW, eX, eY, eZ, fA, fB, fC, fE, fF, fG, fH, fI, fJ, fK, fL, fM, fN, fO, fP, fQ, fR, fS, fT, fU, fV, fW, fX, fY, Res.bind_ex, Res.bind_no, fZ, gA, Res.st_ex, Res.st_no, gB, gC, gD, gE, gF, gG, gH, gI, gJ, gK, List.set_cons_zero, List.set_cons_succ, List.length_cons, List.length_nil, List.map_cons, List.map_nil, List.replicate, List.cons_append, List.nil_append, Nat.reduceSub, Nat.reduceAdd, Nat.reduceLT, List.append_nil, if_true, if_false, Bool.false_eq_true, ite_true, ite_false, decide_true, decide_false, Bool.not_true, Bool.not_false, gL, gM, gN, gO, gP, gQ, gR, gS, gT, gU, gV, gW, gX, gY, gZ, hA, hC, hE, hI, hJ, hU, hW, hX, hZ, iA, iB, iC, iD, iE, iF, iG, iH, iI, iJ, iK, iL, iM, iN, iO, iP, iQ, iR, iS, iT, iU, iV, iW, iX, iY, iZ, jA, jB, jC, jD, q, hr', zr_inv a hz, aA]
theorem last_idx (m : Mem) (xs : List PV) (v : PV) : opIdx (m ++ [.lst (xs ++ [v])]) (.loc m.length) (.int (-1)) = .ok v (m ++ [.lst (xs ++ [v])]) := by
  have e : (m ++ [Ob.lst (xs ++ [v])])[m.length]? = some (.lst (xs ++ [v])) := by simp
  simp only [opIdx, asS, asL, e, L2.atI_last]
theorem pop_last' (m : Mem) (xs : List PV) (v : PV) : opMt (m ++ [.lst (xs ++ [v])]) .pop (.loc m.length) [] = .ok v (m ++ [.lst xs]) := by
  have e : (m ++ [Ob.lst (xs ++ [v])])[m.length]? = some (.lst (xs ++ [v])) := by simp
  have e2 : (xs ++ [v])[(xs ++ [v]).length - 1]? = some v := by simp
  have e3 : (m ++ [Ob.lst (xs ++ [v])]).set m.length (Ob.lst (xs ++ [v]).dropLast) = m ++ [.lst xs] := by simp
  simp only [opMt, e, e2, e3]
theorem ne_nil_locz (m : Mem) (l : List (Zp p)) : opCmp (m ++ [.lst (nvs l)]) .ne (.loc m.length) (.lst []) = .ok (.bl (!l.isEmpty)) (m ++ [.lst (nvs l)]) := by
  have e : (m ++ [Ob.lst (nvs l)])[m.length]? = some (.lst (nvs l)) := by simp
  simp only [opCmp, pvEq, dicTup, locNil, Bool.false_eq_true, if_false, if_true, asL, e, Option.map_some]
  cases l <;> rfl
theorem cut_loop {Γ : Call} {v : PV} : ∀ (l : List (Zp p)) (fuel : Nat), l.length < fuel → whGo (evC Γ (some (.and_ (.cmp .ne (.var 1) (.pl (.dsp []))) (.cmp .eq (.idx (.var 1) (.neg (.int 1))) (.int 0))))) (evSs Γ [.ex (.mt .pop (.var 1) [])]) fuel [some v, some (.loc m.length)] (m ++ [.lst (nvs l)]) = .nx [some v, some (.loc m.length)] (m ++ [.lst (nvs (cutz l))]) := by
  refine cutz_ind (fun fuel hf => ?_) (fun l ih fuel hf => ?_) fun l a ha fuel hf => ?_
  · obtain ⟨fuel, rfl⟩ : ∃ f, fuel = f + 1 := ⟨fuel - 1, by omega⟩
    have e := ne_nil_locz (p := p) m []
    simp only [List.isEmpty_nil, Bool.not_true, nvs_nil] at e
    simp only [nvs_nil, cutz_nil, aB, aC, aD, aE, aF, aG, aH, aI, aJ, aK, aL, aM, aN, aO, aP, aQ, aR, aS, aT, aU, aV, aW, aX, aY, aZ, bA, bB, bC, bD, bE, bF, bG, bH, bI, bJ, bK, bL, bM, bN, bO, bP, bQ, bR, bS, bT, bU, bV, bW, bX, bY, bZ, cA, cB, cC, cD, cE, cF, cG, cH, cI, cJ, cK, cL, cM, cN, cO, cP, cQ, cR, cS, cT, cU, cW, cX, cY, cZ, dA, dB, dC, dD, dE, dF, dG, dH, dI, dJ, dL, dM, dN, dO, dP, dQ, dR, dS, dT, dU, dV, dW, dX, dY, dZ, eA, eB, eC, eE, eG, eH, eI, eJ, eK, eL, eM, eN, eO, eP, aA, eQ, eR, eS, eT, eU, eV, eW, eX, eY, eZ, fA, fB, fC, fE, fF, fG, fH, fI, fJ, fK, fL, fM, fN, fO, fP, fQ, fR, fS, fT, fU, fV, fW, fX, fY, Res.bind_ex, Res.bind_no, fZ, gA, Res.st_ex, Res.st_no, gB, gC, gD, gE, gF, gG, gH, gI, gJ, gK, List.set_cons_zero, List.set_cons_succ, List.length_cons, List.length_nil, List.map_cons, List.map_nil, List.replicate, List.cons_append, List.nil_append, Nat.reduceSub, Nat.reduceAdd, Nat.reduceLT, List.append_nil, if_true, if_false, Bool.false_eq_true, ite_true, ite_false, decide_true, decide_false, Bool.not_true, Bool.not_false, gL, gM, gN, gO, gP, gQ, gR, gS, gT, gU, gV, gW, gX, gY, gZ, hA, hC, hE, hI, hJ, hU, hW, hX, hZ, iA, iB, iC, iD, iE, iF, iG, iH, iI, iJ, iK, iL, iM, iN, iO, iP, iQ, iR, iS, iT, iU, iV, iW, iX, iY, iZ, jA, jB, jC, jD, e]
  · obtain ⟨fuel, rfl⟩ : ∃ f, fuel = f + 1 := ⟨fuel - 1, by omega⟩
    have e := ne_nil_locz (p := p) m (l ++ [0])
    have q : nvs (l ++ [0]) = nvs l ++ [.int 0] := by simp [nvs, zr_0]
    have ie : (!(l ++ [(0 : Zp p)]).isEmpty) = true := by simp
    rw [ie, q] at e
    have ih := ih fuel (by simp at hf; omega)
    rw [cutz_zero, q]
    simp only [aB, aC, aD, aE, aF, aG, aH, aI, aJ, aK, aL, aM, aN, aO, aP, aQ, aR, aS, aT, aU, aV, aW, aX, aY, aZ, bA, bB, bC, bD, bE, bF, bG, bH, bI, bJ, bK, bL, bM, bN, bO, bP, bQ, bR, bS, bT, bU, bV, bW, bX, bY, bZ, cA, cB, cC, cD, cE, cF, cG, cH, cI, cJ, cK, cL, cM, cN, cO, cP, cQ, cR, cS, cT, cU, cW, cX, cY, cZ, dA, dB, dC, dD, dE, dF, dG, dH, dI, dJ, dL, dM, dN, dO, dP, dQ, dR, dS, dT, dU, dV, dW, dX, dY, dZ, eA, eB, eC, eE, eG, eH, eI, eJ, eK, eL, eM, eN, eO, eP, aA, eQ, eR, eS, eT, eU, eV, eW, eX, eY, eZ, fA, fB, fC, fE, fF, fG, fH, fI, fJ, fK, fL, fM, fN, fO, fP, fQ, fR, fS, fT, fU, fV, fW, fX, fY, Res.bind_ex, Res.bind_no, fZ, gA, Res.st_ex, Res.st_no, gB, gC, gD, gE, gF, gG, gH, gI, gJ, gK, List.set_cons_zero, List.set_cons_succ, List.length_cons, List.length_nil, List.map_cons, List.map_nil, List.replicate, List.cons_append, List.nil_append, Nat.reduceSub, Nat.reduceAdd, Nat.reduceLT, List.append_nil, if_true, if_false, Bool.false_eq_true, ite_true, ite_false, decide_true, decide_false, Bool.not_true, Bool.not_false, gL, gM, gN, gO, gP, gQ, gR, gS, gT, gU, gV, gW, gX, gY, gZ, hA, hC, hE, hI, hJ, hU, hW, hX, hZ, iA, iB, iC, iD, iE, iF, iG, iH, iI, iJ, iK, iL, iM, iN, iO, iP, iQ, iR, iS, iT, iU, iV, iW, iX, iY, iZ, jA, jB, jC, jD, e, last_idx, mtG_last .pop (.inr rfl), pop_last', ih]
  · obtain ⟨fuel, rfl⟩ : ∃ f, fuel = f + 1 := ⟨fuel - 1, by omega⟩
    have e := ne_nil_locz (p := p) m (l ++ [a])
    have q : nvs (l ++ [a]) = nvs l ++ [.int (zr a)] := by simp [nvs]
    have ie : (!(l ++ [a]).isEmpty) = true := by simp
    rw [ie, q] at e
    have za : decide (zr a = 0) = false := decide_eq_false fun z => ha (zr_eq0.mp z)
    rw [cutz_ne l ha, q]
    simp only [aB, aC, aD, aE, aF, aG, aH, aI, aJ, aK, aL, aM, aN, aO, aP, aQ, aR, aS, aT, aU, aV, aW, aX, aY, aZ, bA, bB, bC, bD, bE, bF, bG, bH, bI, bJ, bK, bL, bM, bN, bO, bP, bQ, bR, bS, bT, bU, bV, bW, bX, bY, bZ, cA, cB, cC, cD, cE, cF, cG, cH, cI, cJ, cK, cL, cM, cN, cO, cP, cQ, cR, cS, cT, cU, cW, cX, cY, cZ, dA, dB, dC, dD, dE, dF, dG, dH, dI, dJ, dL, dM, dN, dO, dP, dQ, dR, dS, dT, dU, dV, dW, dX, dY, dZ, eA, eB, eC, eE, eG, eH, eI, eJ, eK, eL, eM, eN, eO, eP, aA, eQ, eR, eS, eT, eU, eV, eW, eX, eY, eZ, fA, fB, fC, fE, fF, fG, fH, fI, fJ, fK, fL, fM, fN, fO, fP, fQ, fR, fS, fT, fU, fV, fW, fX, fY, Res.bind_ex, Res.bind_no, fZ, gA, Res.st_ex, Res.st_no, gB, gC, gD, gE, gF, gG, gH, gI, gJ, gK, List.set_cons_zero, List.set_cons_succ, List.length_cons, List.length_nil, List.map_cons, List.map_nil, List.replicate, List.cons_append, List.nil_append, Nat.reduceSub, Nat.reduceAdd, Nat.reduceLT, List.append_nil, if_true, if_false, Bool.false_eq_true, ite_true, ite_false, decide_true, decide_false, Bool.not_true, Bool.not_false, gL, gM, gN, gO, gP, gQ, gR, gS, gT, gU, gV, gW, gX, gY, gZ, hA, hC, hE, hI, hJ, hU, hW, hX, hZ, iA, iB, iC, iD, iE, iF, iG, iH, iI, iJ, iK, iL, iM, iN, iO, iP, iQ, iR, iS, iT, iU, iV, iW, iX, iY, iZ, jA, jB, jC, jD, e, last_idx, za]
theorem law_cut_ok {i : Nat} (h : At._law_cut ds i) {l : List (Zp p)} {w : PV} (hw : IsSq w (nvs l)) (hl : l.length ≤ 1000000) : callF ds (k + 1) i [w] m = .ok (tv (cutz l)) m := by
  obtain ⟨N, hN, h⟩ := h
  rw [call_at hN h]
  have lo : lofP m w = .ok (nvs l) m := by rcases hw with rfl | rfl <;> rfl
  have e := cut_loop (m := m) (Γ := callF ds k) (v := w) l WF (Nat.lt_of_le_of_lt hl (by decide))
  simp only [B._law_cut, aB, aC, aD, aE, aF, aG, aH, aI, aJ, aK, aL, aM, aN, aO, aP, aQ, aR, aS, aT, aU, aV, aW, aX, aY, aZ, bA, bB, bC, bD, bE, bF, bG, bH, bI, bJ, bK, bL, bM, bN, bO, bP, bQ, bR, bS, bT, bU, bV, bW, bX, bY, bZ, cA, cB, cC, cD, cE, cF, cG, cH, cI, cJ, cK, cL, cM, cN, cO, cP, cQ, cR, cS, cT, cU, cW, cX, cY, cZ, dA, dB, dC, dD, dE, dF, dG, dH, dI, dJ, dL, dM, dN, dO, dP, dQ, dR, dS, dT, dU, dV, dW, dX, dY, dZ, eA, eB, eC, eE, eG, eH, eI, eJ, eK, eL, eM, eN, eO, eP, aA, eQ, eR, eS, eT, eU, eV, eW, eX, eY, eZ, fA, fB, fC, fE, fF, fG, fH, fI, fJ, fK, fL, fM, fN, fO, fP, fQ, fR, fS, fT, fU, fV, fW, fX, fY, Res.bind_ex, Res.bind_no, fZ, gA, Res.st_ex, Res.st_no, gB, gC, gD, gE, gF, gG, gH, gI, gJ, gK, List.set_cons_zero, List.set_cons_succ, List.length_cons, List.length_nil, List.map_cons, List.map_nil, List.replicate, List.cons_append, List.nil_append, Nat.reduceSub, Nat.reduceAdd, Nat.reduceLT, List.append_nil, if_true, if_false, Bool.false_eq_true, ite_true, ite_false, decide_true, decide_false, Bool.not_true, Bool.not_false, gL, gM, gN, gO, gP, gQ, gR, gS, gT, gU, gV, gW, gX, gY, gZ, hA, hC, hE, hI, hJ, hU, hW, hX, hZ, iA, iB, iC, iD, iE, iF, iG, iH, iI, iJ, iK, iL, iM, iN, iO, iP, iQ, iR, iS, iT, iU, iV, iW, iX, iY, iZ, jA, jB, jC, jD, lo, e, tuple_last, gc_app1 (bel_tv m.length (cutz l))]
end
end Px
set_option Elab.async false
set_option linter.all false
set_option maxRecDepth 100000
set_option maxHeartbeats 1000000
namespace Px
open PySem Mz
section
variable {ds : List Def} {k : Nat} {m rest : Mem} {p : Nat} [hp : PrL p]
theorem zn_inj {a b : Nat} (ha : a < p) (hb : b < p) (h : zn p a = zn p b) : a = b := by
  rw [zn_ext, Nat.mod_eq_of_lt ha, Nat.mod_eq_of_lt hb] at h; exact h
def oth (p : Nat) [PrC p] (n at_ : Nat) : List (Zp p) := ((List.range n).filter fun c => decide (c ≠ at_)).map (zn p)
theorem oth_mem {n a j : Nat} (hn : n ≤ p) (ha : a < n) (hj : j < n) : zn p j ∈ oth p n a ↔ j ≠ a := by
  simp only [oth, List.mem_map, List.mem_filter, List.mem_range, decide_eq_true_eq]
  constructor
  · rintro ⟨c, ⟨h1, h2⟩, h3⟩ e
    have := zn_inj (by omega) (by omega) h3
    omega
  · intro h; exact ⟨j, ⟨hj, h⟩, rfl⟩
def lagI (p : Nat) [PrC p] (n a : Nat) (s : List (Zp p) × Zp p) (c : Nat) : List (Zp p) × Zp p := if c = a then s else (pst (zn p c) s.1, s.2 * (zn p a - zn p c))
theorem lagI_fold (n a : Nat) (cs : List Nat) : ∀ s : List (Zp p) × Zp p, cs.foldl (lagI p n a) s = (((cs.filter fun c => decide (c ≠ a)).map (zn p)).foldl (fun l c => pst c l) s.1, s.2 * pdf (zn p a) ((cs.filter fun c => decide (c ≠ a)).map (zn p))) := by
  induction cs with
  | nil => intro s; simp [pdf]; have : s.2 * 1 = s.2 := by grind
           rw [this]
  | cons c cs ih =>
    intro s
    rw [List.foldl_cons, ih]
    by_cases h : c = a
    · subst h
      simp [lagI]
    · have : (decide (c ≠ a)) = true := by simp [h]
      rw [List.filter_cons, if_pos this, List.map_cons, List.foldl_cons, pdf_cons, lagI, if_neg h]
      simp only
      congr 1
      grind
def lagP (p : Nat) [PrC p] (n a : Nat) : List (Zp p) × Zp p := (List.range n).foldl (lagI p n a) ([1], 1)
theorem lagP_fst {n a : Nat} (ha : a < n) (x : Zp p) : pev (lagP p n a).1 x = pdf x (oth p n a) ∧ (lagP p n a).1.length = n ∧ (lagP p n a).2 = pdf (zn p a) (oth p n a) := by
  have e := lagI_fold (p := p) n a (List.range n) ([1], 1)
  have f := foldl_pst x (oth p n a) [1]
  have hl : (oth p n a).length + 1 = n := by
    simp only [oth, List.length_map]
    have : ∀ n, a < n → ((List.range n).filter fun c => decide (c ≠ a)).length + 1 = n := by
      intro n
      induction n with
      | zero => intro h; omega
      | succ n ih =>
        intro h
        rw [List.range_succ, List.filter_append, List.length_append]
        by_cases e : n = a
        · subst e
          have : ((List.range n).filter fun c => decide (c ≠ n)) = List.range n := List.filter_eq_self.mpr fun c hc => by have := List.mem_range.mp hc; simp; omega
          rw [this]; simp
        · have := ih (by omega)
          rw [show List.filter (fun c => decide (c ≠ a)) [n] = [n] from by simp [e]]
          rw [List.length_cons, List.length_nil]; omega
    exact this n ha
  unfold lagP
  rw [e]
  refine ⟨?_, ?_, ?_⟩
  · show pev ((oth p n a).foldl (fun l c => pst c l) [1]) x = _
    rw [f.1]; simp [pev]; grind
  · show ((oth p n a).foldl (fun l c => pst c l) [1]).length = _
    rw [f.2, List.length_cons, List.length_nil]; omega
  · show 1 * pdf (zn p a) (oth p n a) = _
    grind
def lagS (p : Nat) [PrC p] (n : Nat) (f : List (Zp p)) (q : Nat × Zp p) : List (Zp p) := pax f (lagP p n q.1).1 (q.2 * (lagP p n q.1).2⁻¹)
theorem lag_inv {n : Nat} (hn : n ≤ p) : ∀ (vs : List (Zp p)) (i : Nat) (f : List (Zp p)), i + vs.length = n → f.length = n → (∀ j, i ≤ j → j < n → pev f (zn p j) = 0) →
    (((List.range' i vs.length).zip vs).foldl (lagS p n) f).length = n ∧ ∀ j, j < n → pev (((List.range' i vs.length).zip vs).foldl (lagS p n) f) (zn p j) = if j < i then pev f (zn p j) else vs.getD (j - i) 0
  | [], i, f, hi, hf, hz => by
    refine ⟨by simpa using hf, fun j hj => ?_⟩
    simp at hi
    rw [if_pos (by omega)]; rfl
  | v :: vs, i, f, hi, hf, hz => by
    simp only [List.length_cons] at hi
    have hin : i < n := by omega
    have hl : (lagS p n f (i, v)).length = n := by rw [lagS, pax_len]; exact hf
    have hp0 := fun x => lagP_fst (p := p) hin x
    have ev : ∀ j, j < n → pev (lagS p n f (i, v)) (zn p j) = pev f (zn p j) + if j = i then v else 0 := fun j hj => by
      rw [lagS, pax_pev _ _ _ _ (by rw [(hp0 0).2.1, hf]; exact Nat.le_refl _), (hp0 _).1, (hp0 0).2.2]
      by_cases e : j = i
      · subst e
        rw [if_pos rfl]
        have ne := pdf_ne (fun h => (oth_mem (p := p) hn hin hin).mp h rfl)
        congr 1
        grind
      · rw [if_neg e, pdf_zero ((oth_mem (p := p) hn hin hj).mpr e)]
        congr 1
        grind
    have ih := lag_inv hn vs (i + 1) (lagS p n f (i, v)) (by omega) hl fun j h1 h2 => by
      rw [ev j h2, hz j (by omega) h2, if_neg (by omega)]; grind
    rw [List.length_cons, List.range'_succ, List.zip_cons_cons, List.foldl_cons]
    refine ⟨ih.1, fun j hj => ?_⟩
    rw [ih.2 j hj]
    by_cases h1 : j < i
    · rw [if_pos (by omega), if_pos h1, ev j hj, if_neg (by omega)]; grind
    · by_cases h2 : j = i
      · subst h2
        rw [if_pos (by omega), if_neg (by omega), ev j hj, if_pos rfl, hz j (by omega) hj, Nat.sub_self, List.getD_cons_zero]; grind
      · rw [if_neg (by omega), if_neg h1, show j - i = (j - (i + 1)) + 1 from by omega, List.getD_cons_succ]
def lag (vs : List (Zp p)) : List (Zp p) := cutz (((List.range vs.length).zip vs).foldl (lagS p vs.length) (List.replicate vs.length 0))
theorem lag_ok (vs : List (Zp p)) (hn : vs.length ≤ p) : Cut (lag vs) ∧ (lag vs).length ≤ vs.length ∧ ∀ j, j < vs.length → pev (lag vs) (zn p j) = vs.getD j 0 := by
  have h := lag_inv hn vs 0 (List.replicate vs.length 0) (by simp) (by simp) fun j _ _ => pev_zero fun a ha => List.eq_of_mem_replicate ha
  rw [← List.range_eq_range'] at h
  refine ⟨cutz_cut _, Nat.le_trans (cutz_len _) (by rw [h.1]; exact Nat.le_refl _), fun j hj => ?_⟩
  rw [lag, cutz_pev, h.2 j hj, if_neg (by omega), Nat.sub_zero]
theorem nodes_nodup {n : Nat} (hn : n ≤ p) : ((List.range n).map (zn p)).Nodup := by
  rw [List.nodup_iff_pairwise_ne, List.pairwise_map]
  refine List.Pairwise.imp_of_mem ?_ (List.nodup_iff_pairwise_ne.mp List.nodup_range)
  intro a b ha hb h e
  exact h (zn_inj (by have := List.mem_range.mp ha; omega) (by have := List.mem_range.mp hb; omega) e)
end
end Px
set_option Elab.async false
set_option linter.all false
set_option maxRecDepth 100000
set_option maxHeartbeats 1000000
namespace Px
open PySem Mz
section
variable {ds : List Def} {k : Nat} {m rest : Mem} {p : Nat} [hp : PrL p]
theorem mul_sz {i : Int} {n : Nat} (hn : n < 2 ^ 40) {l : Nat} [h : SmC l i] (q : 40 + l < 1000000) : opBin m .mul (.int n) (.int i) = .ok (.int (n * i)) m := mul_sm (k := 40) (l := l) (by unfold Sm; omega) h.sm q
theorem mul_zs {i : Int} {n a : Nat} (hn : n < 2 ^ 40) (ha : a < 2 ^ 40) {l : Nat} [h : SmC l i] (q : l + 41 < 1000000) : opBin m .mul (.int i) (.int ((n : Int) - a)) = .ok (.int (i * ((n : Int) - a))) m := mul_sm (k := l) (l := 41) h.sm (by unfold Sm; omega) q
theorem zc_zn (n : Nat) : zc p (n : Int) = zn p n := zc_n n
theorem pst_comp {Γ : Call} {a1 a2 a3 a4 a6 a9 : Option PV} (l : List (Zp p)) (c : Nat) (hc : c < 2 ^ 40) :
    lcGo [] (bnd Γ (.nm 8)) (evC Γ none) (evE Γ (.bin .mod (.bin .sub (.ite (.cmp .gt (.var 8) (.int 0)) (.idx (.var 5) (.bin .sub (.var 8) (.int 1))) (.int 0)) (.bin .mul (.var 7) (.ite (.cmp .lt (.var 8) (.bf .len [.var 5])) (.idx (.var 5) (.var 8)) (.int 0)))) (.var 0)))
      [some (.int p), a1, a2, a3, a4, some (.lst (nvs l)), a6, some (.int c), none, a9] ((List.range (l.length + 1)).map fun i : Nat => PV.int i) m = .ok (nvs (pst (zn p c) l)) m := by
  rw [pst, nvs_range]
  refine lcGo_map (fun i : Nat => PV.int i) _ (List.range (l.length + 1)) fun j hj => ⟨_, cK, bN, ?_⟩
  have hj := List.mem_range.mp hj
  have z0 : ∀ x : Int, opBin m .mul (.int c) (.int 0) = .ok (.int (c * 0)) m := fun _ => mul_sz hc (l := 1) (by decide)
  by_cases h0 : 0 < j
  · have d0 : decide ((0 : Int) < (j : Int)) = true := decide_eq_true (by omega)
    have i1 := idx_lv (m := m) (t := l) (i := j - 1) (by omega)
    rw [show ((j - 1 : Nat) : Int) = (j : Int) - 1 from by omega] at i1
    by_cases h1 : j < l.length
    · have d1 : decide ((j : Int) < (l.length : Int)) = true := decide_eq_true (by omega)
      have i2 := idx_lv (m := m) (t := l) (i := j) h1
      rw [if_pos h0, if_pos h1]
      simp only [aB, aC, aD, aE, aF, aG, aH, aI, aJ, aK, aL, aM, aN, aO, aP, aQ, aR, aS, aT, aU, aV, aW, aX, aY, aZ, bA, bB, bC, bD, bE, bF, bG, bH, bI, bJ, bK, bL, bM, bN, bO, bP, bQ, bR, bS, bT, bU, bV, bW, bX, bY, bZ, cA, cB, cC, cD, cE, cF, cG, cH, cI, cJ, cK, cL, cM, cN, cO, cP, cQ, cR, cS, cT, cU, cW, cX, cY, cZ, dA, dB, dC, dD, dE, dF, dG, dH, dI, dJ, dL, dM, dN, dO, dP, dQ, dR, dS, dT, dU, dV, dW, dX, dY, dZ, eA, eB, eC, eE, eG, eH, eI, eJ, eK, eL, eM, eN, eO, eP, aA, eQ, eR, eS, eT, eU, eV, eW, eX, eY, eZ, fA, fB, fC, fE, fF, fG, fH, fI, fJ, fK, fL, fM, fN, fO, fP, fQ, fR, fS, fT, fU, fV, fW, fX, fY, Res.bind_ex, Res.bind_no, fZ, gA, Res.st_ex, Res.st_no, gB, gC, gD, gE, gF, gG, gH, gI, gJ, gK, List.set_cons_zero, List.set_cons_succ, List.length_cons, List.length_nil, List.map_cons, List.map_nil, List.replicate, List.cons_append, List.nil_append, Nat.reduceSub, Nat.reduceAdd, Nat.reduceLT, List.append_nil, if_true, if_false, Bool.false_eq_true, ite_true, ite_false, decide_true, decide_false, Bool.not_true, Bool.not_false, gL, gM, gN, gO, gP, gQ, gR, gS, gT, gU, gV, gW, gX, gY, gZ, hA, hC, hE, hI, hJ, hU, hW, hX, hZ, iA, iB, iC, iD, iE, iF, iG, iH, iI, iJ, iK, iL, iM, iN, iO, iP, iQ, iR, iS, iT, iU, iV, iW, iX, iY, iZ, jA, jB, jC, jD, d0, i1, len_lst, nvs_len, d1, i2, mul_sz hc (i := zr (l.getD j 0)) (l := 31) (by decide), mod_p, zc_sub, zc_mul, zc_zr, zc_zn]
    · have d1 : decide ((j : Int) < (l.length : Int)) = false := decide_eq_false (by omega)
      rw [if_pos h0, if_neg h1]
      simp only [aB, aC, aD, aE, aF, aG, aH, aI, aJ, aK, aL, aM, aN, aO, aP, aQ, aR, aS, aT, aU, aV, aW, aX, aY, aZ, bA, bB, bC, bD, bE, bF, bG, bH, bI, bJ, bK, bL, bM, bN, bO, bP, bQ, bR, bS, bT, bU, bV, bW, bX, bY, bZ, cA, cB, cC, cD, cE, cF, cG, cH, cI, cJ, cK, cL, cM, cN, cO, cP, cQ, cR, cS, cT, cU, cW, cX, cY, cZ, dA, dB, dC, dD, dE, dF, dG, dH, dI, dJ, dL, dM, dN, dO, dP, dQ, dR, dS, dT, dU, dV, dW, dX, dY, dZ, eA, eB, eC, eE, eG, eH, eI, eJ, eK, eL, eM, eN, eO, eP, aA, eQ, eR, eS, eT, eU, eV, eW, eX, eY, eZ, fA, fB, fC, fE, fF, fG, fH, fI, fJ, fK, fL, fM, fN, fO, fP, fQ, fR, fS, fT, fU, fV, fW, fX, fY, Res.bind_ex, Res.bind_no, fZ, gA, Res.st_ex, Res.st_no, gB, gC, gD, gE, gF, gG, gH, gI, gJ, gK, List.set_cons_zero, List.set_cons_succ, List.length_cons, List.length_nil, List.map_cons, List.map_nil, List.replicate, List.cons_append, List.nil_append, Nat.reduceSub, Nat.reduceAdd, Nat.reduceLT, List.append_nil, if_true, if_false, Bool.false_eq_true, ite_true, ite_false, decide_true, decide_false, Bool.not_true, Bool.not_false, gL, gM, gN, gO, gP, gQ, gR, gS, gT, gU, gV, gW, gX, gY, gZ, hA, hC, hE, hI, hJ, hU, hW, hX, hZ, iA, iB, iC, iD, iE, iF, iG, iH, iI, iJ, iK, iL, iM, iN, iO, iP, iQ, iR, iS, iT, iU, iV, iW, iX, iY, iZ, jA, jB, jC, jD, d0, i1, len_lst, nvs_len, d1, z0 0, mod_p, zc_sub, zc_mul, zc_zr, zc_zn, zc_0]
  · have hj0 : j = 0 := by omega
    subst hj0
    have d0 : decide ((0 : Int) < ((0 : Nat) : Int)) = false := rfl
    have d0' : decide ((0 : Int) < (0 : Int)) = false := rfl
    by_cases h1 : 0 < l.length
    · have d1 : decide ((0 : Int) < (l.length : Int)) = true := decide_eq_true (by omega)
      have i2 := idx_lv (m := m) (t := l) (i := 0) h1
      rw [gL] at i2
      rw [if_neg h0, if_pos h1]
      simp only [aB, aC, aD, aE, aF, aG, aH, aI, aJ, aK, aL, aM, aN, aO, aP, aQ, aR, aS, aT, aU, aV, aW, aX, aY, aZ, bA, bB, bC, bD, bE, bF, bG, bH, bI, bJ, bK, bL, bM, bN, bO, bP, bQ, bR, bS, bT, bU, bV, bW, bX, bY, bZ, cA, cB, cC, cD, cE, cF, cG, cH, cI, cJ, cK, cL, cM, cN, cO, cP, cQ, cR, cS, cT, cU, cW, cX, cY, cZ, dA, dB, dC, dD, dE, dF, dG, dH, dI, dJ, dL, dM, dN, dO, dP, dQ, dR, dS, dT, dU, dV, dW, dX, dY, dZ, eA, eB, eC, eE, eG, eH, eI, eJ, eK, eL, eM, eN, eO, eP, aA, eQ, eR, eS, eT, eU, eV, eW, eX, eY, eZ, fA, fB, fC, fE, fF, fG, fH, fI, fJ, fK, fL, fM, fN, fO, fP, fQ, fR, fS, fT, fU, fV, fW, fX, fY, Res.bind_ex, Res.bind_no, fZ, gA, Res.st_ex, Res.st_no, gB, gC, gD, gE, gF, gG, gH, gI, gJ, gK, List.set_cons_zero, List.set_cons_succ, List.length_cons, List.length_nil, List.map_cons, List.map_nil, List.replicate, List.cons_append, List.nil_append, Nat.reduceSub, Nat.reduceAdd, Nat.reduceLT, List.append_nil, if_true, if_false, Bool.false_eq_true, ite_true, ite_false, decide_true, decide_false, Bool.not_true, Bool.not_false, gL, gM, gN, gO, gP, gQ, gR, gS, gT, gU, gV, gW, gX, gY, gZ, hA, hC, hE, hI, hJ, hU, hW, hX, hZ, iA, iB, iC, iD, iE, iF, iG, iH, iI, iJ, iK, iL, iM, iN, iO, iP, iQ, iR, iS, iT, iU, iV, iW, iX, iY, iZ, jA, jB, jC, jD, d0', len_lst, nvs_len, d1, i2, mul_sz hc (i := zr (l.getD 0 0)) (l := 31) (by decide), mod_p, zc_sub, zc_mul, zc_zr, zc_zn, zc_0]
    · have d1 : decide ((0 : Int) < (l.length : Int)) = false := decide_eq_false (by omega)
      rw [if_neg h0, if_neg h1]
      simp only [aB, aC, aD, aE, aF, aG, aH, aI, aJ, aK, aL, aM, aN, aO, aP, aQ, aR, aS, aT, aU, aV, aW, aX, aY, aZ, bA, bB, bC, bD, bE, bF, bG, bH, bI, bJ, bK, bL, bM, bN, bO, bP, bQ, bR, bS, bT, bU, bV, bW, bX, bY, bZ, cA, cB, cC, cD, cE, cF, cG, cH, cI, cJ, cK, cL, cM, cN, cO, cP, cQ, cR, cS, cT, cU, cW, cX, cY, cZ, dA, dB, dC, dD, dE, dF, dG, dH, dI, dJ, dL, dM, dN, dO, dP, dQ, dR, dS, dT, dU, dV, dW, dX, dY, dZ, eA, eB, eC, eE, eG, eH, eI, eJ, eK, eL, eM, eN, eO, eP, aA, eQ, eR, eS, eT, eU, eV, eW, eX, eY, eZ, fA, fB, fC, fE, fF, fG, fH, fI, fJ, fK, fL, fM, fN, fO, fP, fQ, fR, fS, fT, fU, fV, fW, fX, fY, Res.bind_ex, Res.bind_no, fZ, gA, Res.st_ex, Res.st_no, gB, gC, gD, gE, gF, gG, gH, gI, gJ, gK, List.set_cons_zero, List.set_cons_succ, List.length_cons, List.length_nil, List.map_cons, List.map_nil, List.replicate, List.cons_append, List.nil_append, Nat.reduceSub, Nat.reduceAdd, Nat.reduceLT, List.append_nil, if_true, if_false, Bool.false_eq_true, ite_true, ite_false, decide_true, decide_false, Bool.not_true, Bool.not_false, gL, gM, gN, gO, gP, gQ, gR, gS, gT, gU, gV, gW, gX, gY, gZ, hA, hC, hE, hI, hJ, hU, hW, hX, hZ, iA, iB, iC, iD, iE, iF, iG, iH, iI, iJ, iK, iL, iM, iN, iO, iP, iQ, iR, iS, iT, iU, iV, iW, iX, iY, iZ, jA, jB, jC, jD, d0', len_lst, nvs_len, d1, z0 0, mod_p, zc_sub, zc_mul, zc_zr, zc_zn, zc_0]
theorem pax_comp {Γ : Call} {a1 a3 a4 a6 a7 : Option PV} (f l : List (Zp p)) (c : Zp p) (hl : l.length = f.length) :
    lcGo [] (bnd Γ (.nm 8)) (evC Γ none) (evE Γ (.bin .mod (.bin .add (.idx (.var 2) (.var 8)) (.bin .mul (.idx (.var 5) (.var 8)) (.var 9))) (.var 0)))
      [some (.int p), a1, some (.lst (nvs f)), a3, a4, some (.lst (nvs l)), a6, a7, none, some (.int (zr c))] ((List.range f.length).map fun i : Nat => PV.int i) m = .ok (nvs (pax f l c)) m := by
  rw [pax, nvs_range]
  refine lcGo_map (fun i : Nat => PV.int i) _ (List.range f.length) fun j hj => ⟨_, cK, bN, ?_⟩
  have hj := List.mem_range.mp hj
  simp (disch := decide) only [aB, aC, aD, aE, aF, aG, aH, aI, aJ, aK, aL, aM, aN, aO, aP, aQ, aR, aS, aT, aU, aV, aW, aX, aY, aZ, bA, bB, bC, bD, bE, bF, bG, bH, bI, bJ, bK, bL, bM, bN, bO, bP, bQ, bR, bS, bT, bU, bV, bW, bX, bY, bZ, cA, cB, cC, cD, cE, cF, cG, cH, cI, cJ, cK, cL, cM, cN, cO, cP, cQ, cR, cS, cT, cU, cW, cX, cY, cZ, dA, dB, dC, dD, dE, dF, dG, dH, dI, dJ, dL, dM, dN, dO, dP, dQ, dR, dS, dT, dU, dV, dW, dX, dY, dZ, eA, eB, eC, eE, eG, eH, eI, eJ, eK, eL, eM, eN, eO, eP, aA, eQ, eR, eS, eT, eU, eV, eW, eX, eY, eZ, fA, fB, fC, fE, fF, fG, fH, fI, fJ, fK, fL, fM, fN, fO, fP, fQ, fR, fS, fT, fU, fV, fW, fX, fY, Res.bind_ex, Res.bind_no, fZ, gA, Res.st_ex, Res.st_no, gB, gC, gD, gE, gF, gG, gH, gI, gJ, gK, List.set_cons_zero, List.set_cons_succ, List.length_cons, List.length_nil, List.map_cons, List.map_nil, List.replicate, List.cons_append, List.nil_append, Nat.reduceSub, Nat.reduceAdd, Nat.reduceLT, List.append_nil, if_true, if_false, Bool.false_eq_true, ite_true, ite_false, decide_true, decide_false, Bool.not_true, Bool.not_false, gL, gM, gN, gO, gP, gQ, gR, gS, gT, gU, gV, gW, gX, gY, gZ, hA, hC, hE, hI, hJ, hU, hW, hX, hZ, iA, iB, iC, iD, iE, iF, iG, iH, iI, iJ, iK, iL, iM, iN, iO, iP, iQ, iR, iS, iT, iU, iV, iW, iX, iY, iZ, jA, jB, jC, jD, idx_lv hj, idx_lv (show j < l.length by omega), mul_c, mod_p, zc_add, zc_mul, zc_zr]
theorem law_through_ok {i : Nat} (h : At._law_through ds i) {vs : List (Zp p)} {w : PV} (hw : IsSq w (nvs vs)) (hn : vs.length ≤ 1000) : callF ds (k + 2) i [.int p, w] m = .ok (tv (lag vs)) m := by
  obtain ⟨N, c1, c2, hN, h, h1, h2⟩ := h
  rw [call_at hN h]
  obtain ⟨n, hvn⟩ : ∃ n, n = vs.length := ⟨_, rfl⟩
  rw [← hvn] at hn
  -- one place
  have inner : ∀ (a : Nat) (g f : PV) (u8 u9 u7 : Option PV), a < n → ∃ u8' u7', frGo [] (bnd (callF ds (k + 1)) (.nm 7)) (evSs (callF ds (k + 1)) [.iff (.cmp .ne (.var 7) (.var 3)) [.asg (.nm 5) (.pl (.cp [8] (.nm 8) (.rg1 (.bin .add (.bf .len [.var 5]) (.int 1))) none (.bin .mod (.bin .sub (.ite (.cmp .gt (.var 8) (.int 0)) (.idx (.var 5) (.bin .sub (.var 8) (.int 1))) (.int 0)) (.bin .mul (.var 7) (.ite (.cmp .lt (.var 8) (.bf .len [.var 5])) (.idx (.var 5) (.var 8)) (.int 0)))) (.var 0)))), .asg (.nm 6) (.bin .mod (.bin .mul (.var 6) (.bin .sub (.var 3) (.var 7))) (.var 0))] []])
      ((List.range n).map fun i : Nat => PV.int i) [some (.int p), some w, some f, some (.int a), some g, some (.lst [.int 1]), some (.int 1), u7, u8, u9] m = .nx [some (.int p), some w, some f, some (.int a), some g, some (.lst (nvs (lagP p n a).1)), some (.int (zr (lagP p n a).2)), u7', u8', u9] m := by
    intro a g f u8 u9 u7 ha
    obtain ⟨_, ⟨w7, w8⟩, e⟩ := frGo_foldI (bind := bnd (callF ds (k + 1)) (.nm 7)) (body := evSs (callF ds (k + 1)) [.iff (.cmp .ne (.var 7) (.var 3)) [.asg (.nm 5) (.pl (.cp [8] (.nm 8) (.rg1 (.bin .add (.bf .len [.var 5]) (.int 1))) none (.bin .mod (.bin .sub (.ite (.cmp .gt (.var 8) (.int 0)) (.idx (.var 5) (.bin .sub (.var 8) (.int 1))) (.int 0)) (.bin .mul (.var 7) (.ite (.cmp .lt (.var 8) (.bf .len [.var 5])) (.idx (.var 5) (.var 8)) (.int 0)))) (.var 0)))), .asg (.nm 6) (.bin .mod (.bin .mul (.var 6) (.bin .sub (.var 3) (.var 7))) (.var 0))] []])
      (fun i : Nat => PV.int i) (fun (s : List (Zp p) × Zp p) (u : Option PV × Option PV) => [some (.int p), some w, some f, some (.int a), some g, some (.lst (nvs s.1)), some (.int (zr s.2)), u.1, u.2, u9]) (fun _ => m) (lagI p n a) (fun i s => s.1.length ≤ i + 1) (n := n) (List.range n) 0 ([1], 1) (u7, u8) (by simp) (by simp) (by
        intro i s u c hc hi hP
        have hc := List.mem_range.mp hc
        have hP1 : (lagI p n a s c).1.length ≤ i + 1 + 1 := by
          unfold lagI; split
          · omega
          · simp only [pst_len]; omega
        refine ⟨hP1, ?_⟩
        by_cases e : c = a
        · refine ⟨_, (some (.int c), u.2), cK, ?_⟩
          have d : decide ((c : Int) = (a : Int)) = true := decide_eq_true (by omega)
          rw [lagI, if_pos e]
          simp only [aB, aC, aD, aE, aF, aG, aH, aI, aJ, aK, aL, aM, aN, aO, aP, aQ, aR, aS, aT, aU, aV, aW, aX, aY, aZ, bA, bB, bC, bD, bE, bF, bG, bH, bI, bJ, bK, bL, bM, bN, bO, bP, bQ, bR, bS, bT, bU, bV, bW, bX, bY, bZ, cA, cB, cC, cD, cE, cF, cG, cH, cI, cJ, cK, cL, cM, cN, cO, cP, cQ, cR, cS, cT, cU, cW, cX, cY, cZ, dA, dB, dC, dD, dE, dF, dG, dH, dI, dJ, dL, dM, dN, dO, dP, dQ, dR, dS, dT, dU, dV, dW, dX, dY, dZ, eA, eB, eC, eE, eG, eH, eI, eJ, eK, eL, eM, eN, eO, eP, aA, eQ, eR, eS, eT, eU, eV, eW, eX, eY, eZ, fA, fB, fC, fE, fF, fG, fH, fI, fJ, fK, fL, fM, fN, fO, fP, fQ, fR, fS, fT, fU, fV, fW, fX, fY, Res.bind_ex, Res.bind_no, fZ, gA, Res.st_ex, Res.st_no, gB, gC, gD, gE, gF, gG, gH, gI, gJ, gK, List.set_cons_zero, List.set_cons_succ, List.length_cons, List.length_nil, List.map_cons, List.map_nil, List.replicate, List.cons_append, List.nil_append, Nat.reduceSub, Nat.reduceAdd, Nat.reduceLT, List.append_nil, if_true, if_false, Bool.false_eq_true, ite_true, ite_false, decide_true, decide_false, Bool.not_true, Bool.not_false, gL, gM, gN, gO, gP, gQ, gR, gS, gT, gU, gV, gW, gX, gY, gZ, hA, hC, hE, hI, hJ, hU, hW, hX, hZ, iA, iB, iC, iD, iE, iF, iG, iH, iI, iJ, iK, iL, iM, iN, iO, iP, iQ, iR, iS, iT, iU, iV, iW, iX, iY, iZ, jA, jB, jC, jD, d]
        · refine ⟨_, (some (.int c), u.2), cK, ?_⟩
          have d : decide ((c : Int) = (a : Int)) = false := decide_eq_false (by omega)
          have hl : (((List.range (s.1.length + 1)).map fun i : Nat => PV.int i).length ≤ LINE) = True := by rw [List.length_map, List.length_range]; exact le_lineT (by omega)
          have cp := pst_comp (m := m) (Γ := callF ds (k + 1)) (a1 := some w) (a2 := some f) (a3 := some (.int a)) (a4 := some g) (a6 := some (.int (zr s.2))) (a9 := u9) s.1 c (by omega)
          rw [lagI, if_neg e]
          have q : ((s.1.length : Int) + 1) = ((s.1.length + 1 : Nat) : Int) := by omega
          simp only [aB, aC, aD, aE, aF, aG, aH, aI, aJ, aK, aL, aM, aN, aO, aP, aQ, aR, aS, aT, aU, aV, aW, aX, aY, aZ, bA, bB, bC, bD, bE, bF, bG, bH, bI, bJ, bK, bL, bM, bN, bO, bP, bQ, bR, bS, bT, bU, bV, bW, bX, bY, bZ, cA, cB, cC, cD, cE, cF, cG, cH, cI, cJ, cK, cL, cM, cN, cO, cP, cQ, cR, cS, cT, cU, cW, cX, cY, cZ, dA, dB, dC, dD, dE, dF, dG, dH, dI, dJ, dL, dM, dN, dO, dP, dQ, dR, dS, dT, dU, dV, dW, dX, dY, dZ, eA, eB, eC, eE, eG, eH, eI, eJ, eK, eL, eM, eN, eO, eP, aA, eQ, eR, eS, eT, eU, eV, eW, eX, eY, eZ, fA, fB, fC, fE, fF, fG, fH, fI, fJ, fK, fL, fM, fN, fO, fP, fQ, fR, fS, fT, fU, fV, fW, fX, fY, Res.bind_ex, Res.bind_no, fZ, gA, Res.st_ex, Res.st_no, gB, gC, gD, gE, gF, gG, gH, gI, gJ, gK, List.set_cons_zero, List.set_cons_succ, List.length_cons, List.length_nil, List.map_cons, List.map_nil, List.replicate, List.cons_append, List.nil_append, Nat.reduceSub, Nat.reduceAdd, Nat.reduceLT, List.append_nil, if_true, if_false, Bool.false_eq_true, ite_true, ite_false, decide_true, decide_false, Bool.not_true, Bool.not_false, gL, gM, gN, gO, gP, gQ, gR, gS, gT, gU, gV, gW, gX, gY, gZ, hA, hC, hE, hI, hJ, hU, hW, hX, hZ, iA, iB, iC, iD, iE, iF, iG, iH, iI, iJ, iK, iL, iM, iN, iO, iP, iQ, iR, iS, iT, iU, iV, iW, iX, iY, iZ, jA, jB, jC, jD, d, len_lst, nvs_len, q, srcRg_0n (show s.1.length + 1 ≤ 1000000 by omega), hl, wipeP, cp, mul_zs (i := zr s.2) (n := a) (a := c) (by omega) (by omega) (l := 31) (by decide), mod_p, zc_mul, zc_sub, zc_zr, zc_zn])
    refine ⟨w8, w7, ?_⟩
    have e1 : nvs ([1] : List (Zp p)) = [.int 1] := by rw [hI, zr_1]; rfl
    have e2 : zr ((1 : Zp p)) = 1 := zr_1
    simp only [e1, e2] at e
    exact e
  have outer : ∀ (qs : List (Nat × Zp p)) (f : List (Zp p)) (u3 u4 u5 u6 u7 u8 u9 : Option PV), (∀ q ∈ qs, q.1 < n) → f.length = n → ∃ u3' u4' u5' u6' u7' u8' u9', frGo [] (bnd (callF ds (k + 1)) (.tp [.nm 3, .nm 4])) (evSs (callF ds (k + 1)) [.asg (.tp [.nm 5, .nm 6]) (.tup [.pl (.dsp [.int 1]), .int 1]), .for_ (.nm 7) (.rg1 (.bf .len [.var 1])) [.iff (.cmp .ne (.var 7) (.var 3)) [.asg (.nm 5) (.pl (.cp [8] (.nm 8) (.rg1 (.bin .add (.bf .len [.var 5]) (.int 1))) none (.bin .mod (.bin .sub (.ite (.cmp .gt (.var 8) (.int 0)) (.idx (.var 5) (.bin .sub (.var 8) (.int 1))) (.int 0)) (.bin .mul (.var 7) (.ite (.cmp .lt (.var 8) (.bf .len [.var 5])) (.idx (.var 5) (.var 8)) (.int 0)))) (.var 0)))), .asg (.nm 6) (.bin .mod (.bin .mul (.var 6) (.bin .sub (.var 3) (.var 7))) (.var 0))] []], .asg (.nm 9) (.bin .mod (.bin .mul (.var 4) (.call c1 [.var 0, .bin .mod (.var 6) (.var 0)])) (.var 0)), .asg (.nm 2) (.pl (.cp [8] (.nm 8) (.rg1 (.bf .len [.var 2])) none (.bin .mod (.bin .add (.idx (.var 2) (.var 8)) (.bin .mul (.idx (.var 5) (.var 8)) (.var 9))) (.var 0))))])
      (qs.map fun q => PV.tup [.int (q.1 : Nat), .int (zr q.2)]) [some (.int p), some w, some (.lst (nvs f)), u3, u4, u5, u6, u7, u8, u9] m = .nx [some (.int p), some w, some (.lst (nvs (qs.foldl (lagS p n) f))), u3', u4', u5', u6', u7', u8', u9'] m := by
    intro qs
    induction qs with
    | nil => intro f u3 u4 u5 u6 u7 u8 u9 _ _; exact ⟨u3, u4, u5, u6, u7, u8, u9, rfl⟩
    | cons q qs ih =>
      intro f u3 u4 u5 u6 u7 u8 u9 hq hf
      have ha := hq q List.mem_cons_self
      obtain ⟨u8', u7', ei⟩ := inner q.1 (.int (zr q.2)) (.lst (nvs f)) u8 u9 u7 ha
      have hl1 := (lagP_fst (p := p) ha 0).2.1
      have hS : (lagS p n f q).length = n := by rw [lagS, pax_len]; exact hf
      have hlw : (nvs vs).length = n := by rw [nvs_len]; exact hvn.symm
      have hr2 : (((List.range f.length).map fun i : Nat => PV.int i).length ≤ LINE) = True := by rw [List.length_map, List.length_range]; exact le_lineT (by omega)
      obtain ⟨v3, v4, v5, v6, v7, v8, v9, e2⟩ := ih (lagS p n f q) (some (.int (q.1 : Nat))) (some (.int (zr q.2))) (some (.lst (nvs (lagP p n q.1).1))) (some (.int (zr (lagP p n q.1).2))) u7' u8' (some (.int (zr (q.2 * (lagP p n q.1).2⁻¹)))) (fun q' h' => hq q' (List.mem_cons_of_mem _ h')) hS
      refine ⟨v3, v4, v5, v6, v7, v8, v9, ?_⟩
      have cp := pax_comp (m := m) (Γ := callF ds (k + 1)) (a1 := some w) (a3 := some (.int (q.1 : Nat))) (a4 := some (.int (zr q.2))) (a6 := some (.int (zr (lagP p n q.1).2))) (a7 := u7') f (lagP p n q.1).1 (q.2 * (lagP p n q.1).2⁻¹) (by omega)
      have lS : nvs (pax f (lagP p n q.1).1 (q.2 * (lagP p n q.1).2⁻¹)) = nvs (lagS p n f q) := rfl
      rw [lS] at cp
      rw [List.map_cons, eJ, List.foldl_cons]
      simp (disch := decide) only [aB, aC, aD, aE, aF, aG, aH, aI, aJ, aK, aL, aM, aN, aO, aP, aQ, aR, aS, aT, aU, aV, aW, aX, aY, aZ, bA, bB, bC, bD, bE, bF, bG, bH, bI, bJ, bK, bL, bM, bN, bO, bP, bQ, bR, bS, bT, bU, bV, bW, bX, bY, bZ, cA, cB, cC, cD, cE, cF, cG, cH, cI, cJ, cK, cL, cM, cN, cO, cP, cQ, cR, cS, cT, cU, cW, cX, cY, cZ, dA, dB, dC, dD, dE, dF, dG, dH, dI, dJ, dL, dM, dN, dO, dP, dQ, dR, dS, dT, dU, dV, dW, dX, dY, dZ, eA, eB, eC, eE, eG, eH, eI, eJ, eK, eL, eM, eN, eO, eP, aA, eQ, eR, eS, eT, eU, eV, eW, eX, eY, eZ, fA, fB, fC, fE, fF, fG, fH, fI, fJ, fK, fL, fM, fN, fO, fP, fQ, fR, fS, fT, fU, fV, fW, fX, fY, Res.bind_ex, Res.bind_no, fZ, gA, Res.st_ex, Res.st_no, gB, gC, gD, gE, gF, gG, gH, gI, gJ, gK, List.set_cons_zero, List.set_cons_succ, List.length_cons, List.length_nil, List.map_cons, List.map_nil, List.replicate, List.cons_append, List.nil_append, Nat.reduceSub, Nat.reduceAdd, Nat.reduceLT, List.append_nil, if_true, if_false, Bool.false_eq_true, ite_true, ite_false, decide_true, decide_false, Bool.not_true, Bool.not_false, gL, gM, gN, gO, gP, gQ, gR, gS, gT, gU, gV, gW, gX, gY, gZ, hA, hC, hE, hI, hJ, hU, hW, hX, hZ, iA, iB, iC, iD, iE, iF, iG, iH, iI, iJ, iK, iL, iM, iN, iO, iP, iQ, iR, iS, iT, iU, iV, iW, iX, iY, iZ, jA, jB, jC, jD, tupN_2, hw.len, hlw, srcRg_0n (show n ≤ 1000000 by omega), ei, mod_p, zc_zr, law_inverse_z h1, mul_c, zc_mul, len_lst, nvs_len, srcRg_0n (show f.length ≤ 1000000 by omega), hr2, wipeP, cp, e2]
  have hz : ∀ q ∈ (List.range n).zip vs, q.1 < n := fun q hq => List.mem_range.mp (List.of_mem_zip hq).1
  obtain ⟨u3, u4, u5, u6, u7, u8, u9, eo⟩ := outer ((List.range n).zip vs) (List.replicate n 0) none none none none none none none hz (by simp)
  have hl : lag vs = cutz (((List.range n).zip vs).foldl (lagS p n) (List.replicate n 0)) := by rw [lag, ← hvn]
  have len0 : (((List.range n).zip vs).foldl (lagS p n) (List.replicate n 0)).length = n := by
    have : ∀ (qs : List (Nat × Zp p)) (f : List (Zp p)), f.length = n → (qs.foldl (lagS p n) f).length = n := by
      intro qs
      induction qs with
      | nil => intro f hf; exact hf
      | cons q qs ih => intro f hf; exact ih _ (by rw [lagS, pax_len]; exact hf)
    exact this _ _ (by simp)
  have hc := law_cut_ok (k := k) (m := m) h2 (isq_l (nvs (((List.range n).zip vs).foldl (lagS p n) (List.replicate n 0)))) (by rw [len0]; omega)
  rw [← hl] at hc
  have en : srcEn m w = .ok (((List.range n).zip vs).map fun q => PV.tup [.int (q.1 : Nat), .int (zr q.2)], []) m := by
    have := enum_map (fun a : Zp p => PV.int (zr a)) vs
    rw [← hvn] at this
    rcases hw with rfl | rfl
    · show Res.ok (enumV (nvs vs), []) m = _; rw [this]
    · show Res.ok (enumV (nvs vs), []) m = _; rw [this]
  have rp : repP m (.lst [.int 0]) (.int n) = .ok (nvs (List.replicate n (0 : Zp p))) m := by
    have a1 : ([PV.int 0] : List PV).length * ((n : Int)).toNat ≤ LINE ∧ smallI (n : Int) = true := ⟨by rw [Int.toNat_natCast]; exact Nat.le_trans (by simp; omega) (le_line (Nat.le_refl 1000000)), by simp [smallI]; omega⟩
    simp only [repP, asL, if_pos a1]
    have : ∀ n : Nat, (List.replicate n [PV.int 0]).flatten = nvs (List.replicate n (0 : Zp p)) := fun n => by
      induction n with
      | zero => rfl
      | succ n ih => rw [List.replicate_succ, List.flatten_cons, ih, List.replicate_succ, hI, zr_0]; rfl
    rw [Int.toNat_natCast, this]
  have hlw : (nvs vs).length = n := by rw [nvs_len]; exact hvn.symm
  simp only [B._law_through, aB, aC, aD, aE, aF, aG, aH, aI, aJ, aK, aL, aM, aN, aO, aP, aQ, aR, aS, aT, aU, aV, aW, aX, aY, aZ, bA, bB, bC, bD, bE, bF, bG, bH, bI, bJ, bK, bL, bM, bN, bO, bP, bQ, bR, bS, bT, bU, bV, bW, bX, bY, bZ, cA, cB, cC, cD, cE, cF, cG, cH, cI, cJ, cK, cL, cM, cN, cO, cP, cQ, cR, cS, cT, cU, cW, cX, cY, cZ, dA, dB, dC, dD, dE, dF, dG, dH, dI, dJ, dL, dM, dN, dO, dP, dQ, dR, dS, dT, dU, dV, dW, dX, dY, dZ, eA, eB, eC, eE, eG, eH, eI, eJ, eK, eL, eM, eN, eO, eP, aA, eQ, eR, eS, eT, eU, eV, eW, eX, eY, eZ, fA, fB, fC, fE, fF, fG, fH, fI, fJ, fK, fL, fM, fN, fO, fP, fQ, fR, fS, fT, fU, fV, fW, fX, fY, Res.bind_ex, Res.bind_no, fZ, gA, Res.st_ex, Res.st_no, gB, gC, gD, gE, gF, gG, gH, gI, gJ, gK, List.set_cons_zero, List.set_cons_succ, List.length_cons, List.length_nil, List.map_cons, List.map_nil, List.replicate, List.cons_append, List.nil_append, Nat.reduceSub, Nat.reduceAdd, Nat.reduceLT, List.append_nil, if_true, if_false, Bool.false_eq_true, ite_true, ite_false, decide_true, decide_false, Bool.not_true, Bool.not_false, gL, gM, gN, gO, gP, gQ, gR, gS, gT, gU, gV, gW, gX, gY, gZ, hA, hC, hE, hI, hJ, hU, hW, hX, hZ, iA, iB, iC, iD, iE, iF, iG, iH, iI, iJ, iK, iL, iM, iN, iO, iP, iQ, iR, iS, iT, iU, iV, iW, iX, iY, iZ, jA, jB, jC, jD, hw.len, hlw, rp, en, eo, hc, aA]
end
end Px
set_option Elab.async false
set_option linter.all false
namespace Mz
open Lean.Grind (Field)
section
variable {R : Type} [Field R] [DecidableEq R]
theorem cutz_eq {l r : List R} (h : ∀ i, l.getD i 0 = r.getD i 0) : cutz l = cutz r := cut_ext (cutz_cut l) (cutz_cut r) fun i => by rw [cutz_get, cutz_get, h]
def lsum (a b : List R) : List R := cutz (padd a b)
def lmul (a b : List R) : List R := cutz (pmul a b)
theorem lsum_cut (a b : List R) : Cut (lsum a b) := cutz_cut _
theorem lsum_len (a b : List R) : (lsum a b).length ≤ max a.length b.length := by have := cutz_len (padd a b); rw [padd_len] at this; exact this
theorem pmul_out {l r : List R} {i : Nat} (h : l.length + r.length ≤ i + 1) : (pmul l r).getD i 0 = 0 := by
  induction l generalizing i with
  | nil => rfl
  | cons a l ih =>
    rw [pmul, padd_get, getD_psc, getD_out (by simp at h; omega)]
    cases i with
    | zero => rw [List.getD_cons_zero]; grind
    | succ i => rw [List.getD_cons_succ, ih (by simp at h; omega)]; grind
theorem lmul_len1 (a b : List R) : (lmul a b).length ≤ a.length + b.length - 1 := cutz_le fun i hi => pmul_out (by omega)
theorem pmul_nil (l : List R) (i : Nat) : (pmul l []).getD i 0 = 0 := by
  induction l generalizing i with
  | nil => rfl
  | cons a l ih =>
    rw [pmul, padd_get, getD_psc]
    cases i with
    | zero => simp; grind
    | succ i => rw [List.getD_cons_succ, ih]; simp; grind
theorem pmul_snoc (b : List R) (x : R) : ∀ (a : List R) (i : Nat), (pmul (a ++ [x]) b).getD i 0 = (pmul a b).getD i 0 + if a.length ≤ i then x * b.getD (i - a.length) 0 else 0
  | [], i => by
    simp only [List.nil_append, pmul, padd_get, getD_psc, List.length_nil, Nat.zero_le, if_true, Nat.sub_zero]
    cases i <;> simp [pmul] <;> grind
  | y :: a, i => by
    simp only [List.cons_append, pmul, padd_get, getD_psc, List.length_cons]
    cases i with
    | zero => simp; grind
    | succ i =>
      rw [List.getD_cons_succ, List.getD_cons_succ, pmul_snoc b x a i]
      have e : (a.length + 1 ≤ i + 1) = (a.length ≤ i) := by simp
      simp only [e, Nat.add_sub_add_right]
      grind
def prow (f : List R) (at_ : Nat) (c : R) (b : List R) : List R := (List.range f.length).map fun i => f.getD i 0 + if at_ ≤ i then c * b.getD (i - at_) 0 else 0
theorem prow_len (f : List R) (at_ : Nat) (c : R) (b : List R) : (prow f at_ c b).length = f.length := by simp [prow]
theorem prow_get {f : List R} {at_ : Nat} {c : R} {b : List R} (h : at_ + b.length ≤ f.length) (i : Nat) : (prow f at_ c b).getD i 0 = f.getD i 0 + if at_ ≤ i then c * b.getD (i - at_) 0 else 0 := by
  by_cases hi : i < f.length
  · rw [prow, getD_map_range _ hi]
  · rw [getD_out (by rw [prow_len]; omega), getD_out (by omega : f.length ≤ i)]
    split
    · rw [getD_out (by omega : b.length ≤ i - at_)]; grind
    · grind
theorem prow_nil (f : List R) (at_ : Nat) (c : R) : prow f at_ c [] = f := ext_getD (prow_len _ _ _ _) fun i => by
  by_cases hi : i < f.length
  · rw [prow, getD_map_range _ hi]; simp; grind
  · rw [getD_out (by rw [prow_len]; omega), getD_out (by omega : f.length ≤ i)]
theorem getD_snoc (b : List R) (y : R) (j : Nat) : (b ++ [y]).getD j 0 = if j = b.length then y else b.getD j 0 := by
  simp only [List.getD_eq_getElem?_getD]
  rcases Nat.lt_trichotomy j b.length with h | h | h
  · rw [List.getElem?_append_left h, if_neg (by omega)]
  · subst h; simp
  · rw [List.getElem?_eq_none (by simp; omega), if_neg (by omega), List.getElem?_eq_none (by omega)]
theorem getD_set (l : List R) (k : Nat) (x : R) (hk : k < l.length) (i : Nat) : (l.set k x).getD i 0 = if i = k then x else l.getD i 0 := by
  simp only [List.getD_eq_getElem?_getD, List.getElem?_set]
  by_cases h : k = i
  · subst h; simp [hk]
  · rw [if_neg h, if_neg (by omega)]
theorem prow_snoc {f : List R} {at_ : Nat} {c y : R} {b : List R} (h : at_ + b.length < f.length) : prow f at_ c (b ++ [y]) = (prow f at_ c b).set (at_ + b.length) ((prow f at_ c b).getD (at_ + b.length) 0 + c * y) := by
  refine ext_getD (by simp [prow_len]) fun i => ?_
  rw [prow_get (by simp; omega), getD_set _ _ _ (by rw [prow_len]; exact h), prow_get (by omega), prow_get (by omega), getD_snoc]
  by_cases e : i = at_ + b.length
  · subst e
    rw [if_pos rfl, if_pos (by omega), if_pos (by omega), if_pos (by omega), getD_out (by omega : b.length ≤ at_ + b.length - at_)]
    grind
  · rw [if_neg e]
    split
    · rw [if_neg (by omega)]
    · rfl
def pacc (f : List R) (b : List R) : Nat → List R → List R
  | _, [] => f
  | i, c :: a => pacc (prow f i c b) b (i + 1) a
theorem pacc_get (b : List R) : ∀ (a1 a2 f : List R), a1.length + a2.length + b.length ≤ f.length + 1 → (∀ i, f.getD i 0 = (pmul a1 b).getD i 0) → ∀ i, (pacc f b a1.length a2).getD i 0 = (pmul (a1 ++ a2) b).getD i 0
  | a1, [], f, _, hf, i => by rw [pacc, hf, List.append_nil]
  | a1, c :: a2, f, hl, hf, i => by
    have e := pacc_get b (a1 ++ [c]) a2 (prow f a1.length c b) (by rw [prow_len]; simp at hl ⊢; omega) (fun i => by rw [prow_get (by simp at hl; omega), hf, pmul_snoc]) i
    rw [List.length_append, List.length_singleton, List.append_assoc] at e
    exact e
theorem pacc_mul {a b : List R} {n : Nat} (h : a.length + b.length ≤ n + 1) : cutz (pacc (List.replicate n 0) b 0 a) = lmul a b := cutz_eq fun i => by
  have e := pacc_get b [] a (List.replicate n 0) (by simp; omega) (fun i => by
    simp only [pmul, List.getD_nil, List.getD_eq_getElem?_getD, List.getElem?_replicate]; split <;> rfl) i
  exact e
theorem pacc_len (b : List R) : ∀ (a f : List R) (i : Nat), (pacc f b i a).length = f.length
  | [], _, _ => rfl
  | c :: a, f, i => by rw [pacc, pacc_len b a, prow_len]
theorem lmul_nil_l (b : List R) : lmul [] b = [] := rfl
theorem lmul_nil_r (a : List R) : lmul a [] = [] := by
  have : cutz (pmul a []) = cutz ([] : List R) := cutz_eq fun i => by rw [pmul_nil]; rfl
  exact this
theorem pmul_set (b : List R) (x : R) : ∀ (q : List R) (s : Nat), s < q.length → q.getD s 0 = 0 → ∀ i, (pmul (q.set s x) b).getD i 0 = (pmul q b).getD i 0 + if s ≤ i then x * b.getD (i - s) 0 else 0
  | [], s, h, _, _ => by simp at h
  | y :: q, 0, _, h0, i => by
    rw [List.getD_cons_zero] at h0
    simp only [List.set_cons_zero, pmul, padd_get, getD_psc, Nat.zero_le, if_true, Nat.sub_zero, h0]
    grind
  | y :: q, s + 1, h, h0, i => by
    rw [List.getD_cons_succ] at h0
    simp only [List.set_cons_succ, pmul, padd_get, getD_psc]
    cases i with
    | zero => simp; grind
    | succ i =>
      rw [List.getD_cons_succ, List.getD_cons_succ, pmul_set b x q s (by simpa using h) h0 i]
      have e : (s + 1 ≤ i + 1) = (s ≤ i) := by simp
      simp only [e, Nat.add_sub_add_right]
      grind
structure Dv (a b : List R) (s : Nat) (q r : List R) : Prop where
  lr : r.length = a.length
  lq : q.length = a.length - b.length + 1 ∧ b.length ≤ a.length ∨ q.length = 0 ∧ a.length < b.length
  le : s ≤ q.length
  zq : ∀ i, i < s → q.getD i 0 = 0
  eq : ∀ i, (pmul q b).getD i 0 + r.getD i 0 = a.getD i 0
  zr : ∀ i, s + b.length ≤ i + 1 → r.getD i 0 = 0
def prowN (f : List R) (at_ : Nat) (c : R) (b : List R) : List R := prow f at_ (-c) b
theorem Dv.step {a b q r : List R} {s : Nat} {lead : R} (h : Dv a b (s + 1) q r) (hb : b ≠ []) (hl : b.getD (b.length - 1) 0 = lead) (h0 : lead ≠ 0) :
    Dv a b s (q.set s (r.getD (s + b.length - 1) 0 * lead⁻¹)) (prowN r s (r.getD (s + b.length - 1) 0 * lead⁻¹) b) := by
  have hb1 : 0 < b.length := List.length_pos_iff.mpr hb
  have hle := h.le
  have hlq := h.lq
  have hlr := h.lr
  have hs : s + b.length ≤ r.length := by omega
  refine ⟨by rw [prowN, prow_len]; exact hlr, by rw [List.length_set]; exact hlq, by rw [List.length_set]; omega, fun i hi => ?_, fun i => ?_, fun i hi => ?_⟩
  · rw [getD_set _ _ _ (by omega), if_neg (by omega)]; exact h.zq i (by omega)
  · have e := h.eq i
    rw [pmul_set b _ q s (by omega) (h.zq s (by omega)), prowN, prow_get hs]
    split <;> grind
  · rw [prowN, prow_get hs]
    by_cases e : i = s + b.length - 1
    · subst e
      rw [if_pos (by omega), show s + b.length - 1 - s = b.length - 1 from by omega, hl]
      have := Field.mul_inv_cancel h0
      grind
    · rw [h.zr i (by omega)]
      split
      · rw [getD_out (by omega : b.length ≤ i - s)]; grind
      · grind
theorem Dv.start {a b q : List R} (hb : b ≠ []) (hq : q = List.replicate (a.length + 1 - b.length) 0) : Dv a b q.length q a := by
  have hb1 : 0 < b.length := List.length_pos_iff.mpr hb
  have z : ∀ i, q.getD i 0 = 0 := fun i => by subst hq; simp only [List.getD_eq_getElem?_getD, List.getElem?_replicate]; split <;> rfl
  refine ⟨rfl, by subst hq; simp; omega, Nat.le_refl _, fun i _ => z i, fun i => ?_, fun i hi => getD_out (by subst hq; simp at hi; omega)⟩
  have : ∀ (l : List R) (i : Nat), (∀ j, l.getD j 0 = 0) → (pmul l b).getD i 0 = 0 := by
    intro l
    induction l with
    | nil => intro i _; rfl
    | cons y l ih =>
      intro i hz
      have h0 := hz 0
      rw [List.getD_cons_zero] at h0
      rw [pmul, padd_get, getD_psc, h0]
      cases i with
      | zero => rw [List.getD_cons_zero]; grind
      | succ i => rw [List.getD_cons_succ, ih i fun j => by have := hz (j + 1); rwa [List.getD_cons_succ] at this]; grind
  rw [this q i z]; grind
theorem pmul_cutz (a b : List R) : ∀ i, (pmul (cutz a) b).getD i 0 = (pmul a b).getD i 0 := by
  revert a
  refine cutz_ind (fun i => rfl) (fun l h i => ?_) fun l x hx i => by rw [cutz_ne l hx]
  rw [cutz_zero, h, pmul_snoc]
  split <;> grind
theorem Dv.fin {a b q r : List R} (h : Dv a b 0 q r) (ha : Cut a) (hb : b ≠ []) : lsum (lmul (cutz q) b) (cutz r) = a ∧ (cutz r).length < b.length := by
  have hb1 : 0 < b.length := List.length_pos_iff.mpr hb
  constructor
  · refine cut_ext (cutz_cut _) ha fun i => ?_
    rw [lsum, cutz_get, padd_get, cutz_get, lmul, cutz_get, pmul_cutz, h.eq]
  · have : (cutz r).length ≤ b.length - 1 := cutz_le fun i hi => h.zr i (by omega)
    omega
theorem lsum_pev (a b : List R) (x : R) : pev (lsum a b) x = pev a x + pev b x := by rw [lsum, cutz_pev, pev_padd]
theorem lmul_pev (a b : List R) (x : R) : pev (lmul a b) x = pev a x * pev b x := by rw [lmul, cutz_pev, pev_pmul]
end
end Mz
set_option Elab.async false
set_option linter.all false
set_option maxRecDepth 100000
set_option maxHeartbeats 1000000
namespace Px
open PySem Mz
def B.at_place : List St := [
  .asg (.nm 3) (.int 0),
  .for_ (.nm 4) (.rev (.var 1)) [.asg (.nm 3) (.bin .mod (.bin .add (.bin .mul (.var 3) (.var 2)) (.var 4)) (.var 0))],
  .ret (some (.var 3))]
def At.at_place (ds : List Def) (i : Nat) : Prop := ∃ (N : List Str), N.length = 5 ∧ ds[i]? = some ⟨N, 3, B.at_place⟩
def B.cut : List St := [
  .asg (.nm 1) (.bf .len [.var 0]),
  .whl (.and_ (.cmp .gt (.var 1) (.int 0)) (.cmp .eq (.idx (.var 0) (.bin .sub (.var 1) (.int 1))) (.int 0))) [.aug 1 .sub (.int 1)],
  .ret (some (.bf .tuple [.slc (.var 0) none (some (.var 1))]))]
def At.cut (ds : List Def) (i : Nat) : Prop := ∃ (N : List Str), N.length = 2 ∧ ds[i]? = some ⟨N, 1, B.cut⟩
def B.sum_of_lines (c_cut : Nat) : List St := [
  .asg (.nm 3) (.bf .max [.bf .len [.var 1], .bf .len [.var 2]]),
  .asg (.tp [.nm 4, .nm 5]) (.tup [.pl (.cat (.pl (.lof (.var 1))) (.pl (.rep (.pl (.dsp [.int 0])) (.bin .sub (.var 3) (.bf .len [.var 1]))))), .pl (.cat (.pl (.lof (.var 2))) (.pl (.rep (.pl (.dsp [.int 0])) (.bin .sub (.var 3) (.bf .len [.var 2])))))]),
  .ret (some (.call c_cut [.pl (.cp [6] (.nm 6) (.rg1 (.var 3)) none (.bin .mod (.bin .add (.idx (.var 4) (.var 6)) (.idx (.var 5) (.var 6))) (.var 0)))]))]
def At.sum_of_lines (ds : List Def) (i : Nat) : Prop := ∃ (N : List Str), ∃ (c_cut : Nat), N.length = 7 ∧ ds[i]? = some ⟨N, 3, B.sum_of_lines c_cut⟩ ∧ At.cut ds c_cut
def B.times_number (c_cut : Nat) : List St := [
  .ret (some (.call c_cut [.pl (.cp [3] (.nm 3) (.sq (.var 1)) none (.bin .mod (.bin .mul (.var 3) (.var 2)) (.var 0)))]))]
def At.times_number (ds : List Def) (i : Nat) : Prop := ∃ (N : List Str), ∃ (c_cut : Nat), N.length = 4 ∧ ds[i]? = some ⟨N, 3, B.times_number c_cut⟩ ∧ At.cut ds c_cut
def B.product_of_lines (c_cut : Nat) : List St := [
  .iff (.or_ (.cmp .eq (.var 1) (.tup [])) (.cmp .eq (.var 2) (.tup []))) [.ret (some (.tup []))] [],
  .asg (.nm 3) (.ml (.rep (.pl (.dsp [.int 0])) (.bin .sub (.bin .add (.bf .len [.var 1]) (.bf .len [.var 2])) (.int 1)))),
  .for_ (.tp [.nm 4, .nm 5]) (.enm (.var 1)) [.for_ (.tp [.nm 6, .nm 7]) (.enm (.var 2)) [.asg (.ix (.var 3) (.bin .add (.var 4) (.var 6))) (.bin .mod (.bin .add (.idx (.var 3) (.bin .add (.var 4) (.var 6))) (.bin .mul (.var 5) (.var 7))) (.var 0))]],
  .ret (some (.call c_cut [.var 3]))]
def At.product_of_lines (ds : List Def) (i : Nat) : Prop := ∃ (N : List Str), ∃ (c_cut : Nat), N.length = 8 ∧ ds[i]? = some ⟨N, 3, B.product_of_lines c_cut⟩ ∧ At.cut ds c_cut
def B.is_plain_line (c_are_numbers : Nat) (x_MOST_NUMBERS : Str) : List St := [
  .ret (some (.and_ (.call c_are_numbers [.var 0, .var 1, .int 0, .gl x_MOST_NUMBERS (PV.int 200)]) (.or_ (.cmp .eq (.var 1) (.tup [])) (.cmp .ne (.idx (.var 1) (.neg (.int 1))) (.int 0)))))]
def At.is_plain_line (ds : List Def) (i : Nat) : Prop := ∃ (N : List Str), ∃ (c_are_numbers : Nat), ∃ (x_MOST_NUMBERS : Str), N.length = 2 ∧ ds[i]? = some ⟨N, 2, B.is_plain_line c_are_numbers x_MOST_NUMBERS⟩ ∧ At.are_numbers ds c_are_numbers
def B._law_line (c__law_taken c__law_numbers c__law_cut : Nat) : List St := [
  .ret (some (.call c__law_cut [.call c__law_numbers [.var 0, .var 1, .call c__law_taken [.var 0, .bin .add (.var 2) (.int 1)]]]))]
def At._law_line (ds : List Def) (i : Nat) : Prop := ∃ (N : List Str), ∃ (c__law_taken c__law_numbers c__law_cut : Nat), N.length = 3 ∧ ds[i]? = some ⟨N, 3, B._law_line c__law_taken c__law_numbers c__law_cut⟩ ∧ At._law_taken ds c__law_taken ∧ At._law_numbers ds c__law_numbers ∧ At._law_cut ds c__law_cut
def B._law_at : List St := [
  .asg (.nm 3) (.int 0),
  .for_ (.nm 4) (.sq (.rv (.var 1))) [.asg (.nm 3) (.bin .mod (.bin .add (.bin .mul (.var 3) (.var 2)) (.var 4)) (.var 0))],
  .ret (some (.var 3))]
def At._law_at (ds : List Def) (i : Nat) : Prop := ∃ (N : List Str), N.length = 5 ∧ ds[i]? = some ⟨N, 3, B._law_at⟩
section
variable {ds : List Def} {k : Nat} {m rest : Mem} {p : Nat} [hp : PrL p]
theorem asS_of {w : PV} {xs : List PV} (h : asL m w = some xs) : asS m w = some xs := by
  cases w <;> first | exact h | (simp [asL] at h)
theorem as_len {w : PV} {xs : List PV} (h : asL m w = some xs) : opBf m .len [w] = .ok (.int xs.length) m := by
  have e := asS_of h
  simp only [opBf, e]
theorem as_idx {w : PV} {xs : List PV} {i : Nat} {v : PV} (h : asL m w = some xs) (e : xs[i]? = some v) : opIdx m w (.int i) = .ok v m := by
  have e1 := asS_of h
  have e2 := L2.atI_nat e
  simp only [opIdx, e1, e2]
theorem cutP_to (xs : List PV) (k : Nat) : cutP xs none (some (k : Int)) = xs.take k := by
  have e := slc_to (m := []) xs k
  simp only [opSlc] at e
  injection e with e1 e2
  injection e1
theorem as_slc {w : PV} {xs : List PV} (h : asL m w = some xs) (k : Nat) : opSlc m w none (some (k : Int)) = .ok (.lst (xs.take k)) m := by
  rw [← cutP_to]
  cases w <;> first | (simp [asL] at h; done) | (simp only [opSlc, h])
theorem asL_lst (m : Mem) (xs : List PV) : asL m (.lst xs) = some xs := rfl
theorem asL_last (m : Mem) (xs : List PV) : asL (m ++ [.lst xs]) (.loc m.length) = some xs := by simp [asL]
theorem nvs_def (l : List (Zp p)) : nvs l = l.map fun a => PV.int (zr a) := rfl
theorem max_n2 (a b : Nat) (m : Mem) : opBf m .max [.int a, .int b] = .ok (.int (max a b : Nat)) m := by
  show Res.ok (PV.int (if (b : Int) > a then b else a)) m = _
  congr 2
  by_cases h : a < b
  · rw [if_pos (by omega), Nat.max_eq_right (by omega)]
  · rw [if_neg (by omega), Nat.max_eq_left (by omega)]
theorem nvs_at {l : List (Zp p)} {i : Nat} (h : i < l.length) : (nvs l)[i]? = some (.int (zr (l.getD i 0))) := by
  rw [nvs_def, List.getElem?_map, List.getD_eq_getElem?_getD, List.getElem?_eq_getElem h]; rfl
theorem cutz_take : ∀ l : List (Zp p), l.take (cutz l).length = cutz l := cutz_ind rfl (fun l h => by
    rw [cutz_zero, List.take_append_of_le_length (cutz_len l), h]) fun l a ha => by rw [cutz_ne l ha, List.take_length]
theorem cut_wh {Γ : Call} {w : PV} {l : List (Zp p)} (hw : asL m w = some (nvs l)) : ∀ (n fuel : Nat), n ≤ l.length → n < fuel → whGo (evC Γ (some (.and_ (.cmp .gt (.var 1) (.int 0)) (.cmp .eq (.idx (.var 0) (.bin .sub (.var 1) (.int 1))) (.int 0))))) (evSs Γ [.aug 1 .sub (.int 1)]) fuel [some w, some (.int n)] m = .nx [some w, some (.int (cutz (l.take n)).length)] m := by
  intro n
  induction n with
  | zero =>
    intro fuel _ hf
    obtain ⟨fuel, rfl⟩ : ∃ f, fuel = f + 1 := ⟨fuel - 1, by omega⟩
    have d : decide ((0 : Int) < ((0 : Nat) : Int)) = false := rfl
    rw [eH]
    simp only [bO, aM, aK, aB, aF, dG, dF, fY, dS, d, dI, dJ, gA, Bool.false_eq_true, if_false, List.take_zero, cutz_nil, List.length_nil]
  | succ n ih =>
    intro fuel hn hf
    obtain ⟨fuel, rfl⟩ : ∃ f, fuel = f + 1 := ⟨fuel - 1, by omega⟩
    have d : decide ((0 : Int) < ((n + 1 : Nat) : Int)) = true := decide_eq_true (by omega)
    have q : ((n + 1 : Nat) : Int) - 1 = (n : Int) := by omega
    have i1 := as_idx hw (nvs_at (l := l) (i := n) (by omega))
    have tk : l.take (n + 1) = l.take n ++ [l.getD n 0] := by
      rw [List.take_succ, List.getD_eq_getElem?_getD, List.getElem?_eq_getElem (by omega : n < l.length)]; rfl
    obtain ⟨F, hF⟩ : ∃ F, F = fuel := ⟨_, rfl⟩
    have ih := ih F (by omega) (by omega)
    rw [← hF, eH, tk]
    by_cases z : l.getD n 0 = 0
    · rw [z, cutz_zero]
      rw [z, zr_0] at i1
      simp only [aB, aC, aD, aE, aF, aG, aH, aI, aJ, aK, aL, aM, aN, aO, aP, aQ, aR, aS, aT, aU, aV, aW, aX, aY, aZ, bA, bB, bC, bD, bE, bF, bG, bH, bI, bJ, bK, bL, bM, bN, bO, bP, bQ, bR, bS, bT, bU, bV, bW, bX, bY, bZ, cA, cB, cC, cD, cE, cF, cG, cH, cI, cJ, cK, cL, cM, cN, cO, cP, cQ, cR, cS, cT, cU, cW, cX, cY, cZ, dA, dB, dC, dD, dE, dF, dG, dH, dI, dJ, dL, dM, dN, dO, dP, dQ, dR, dS, dT, dU, dV, dW, dX, dY, dZ, eA, eB, eC, eE, eG, eH, eI, eJ, eK, eL, eM, eN, eO, eP, aA, eQ, eR, eS, eT, eU, eV, eW, eX, eY, eZ, fA, fB, fC, fE, fF, fG, fH, fI, fJ, fK, fL, fM, fN, fO, fP, fQ, fR, fS, fT, fU, fV, fW, fX, fY, Res.bind_ex, Res.bind_no, fZ, gA, Res.st_ex, Res.st_no, gB, gC, gD, gE, gF, gG, gH, gI, gJ, gK, List.set_cons_zero, List.set_cons_succ, List.length_cons, List.length_nil, List.map_cons, List.map_nil, List.replicate, List.cons_append, List.nil_append, Nat.reduceSub, Nat.reduceAdd, Nat.reduceLT, List.append_nil, if_true, if_false, Bool.false_eq_true, ite_true, ite_false, decide_true, decide_false, Bool.not_true, Bool.not_false, gL, gM, gN, gO, gP, gQ, gR, gS, gT, gU, gV, gW, gX, gY, gZ, hA, hC, hE, hI, hJ, hU, hW, hX, hZ, iA, iB, iC, iD, iE, iF, iG, iH, iI, iJ, iK, iL, iM, iN, iO, iP, iQ, iR, iS, iT, iU, iV, iW, iX, iY, iZ, jA, jB, jC, jD, d, q, i1, opAug, ih]
    · have zd : decide (zr (l.getD n 0) = 0) = false := decide_eq_false fun e => z (zr_eq0.mp e)
      have hl : (l.take n ++ [l.getD n 0]).length = n + 1 := by rw [List.length_append, List.length_take, Nat.min_eq_left (by omega)]; rfl
      rw [cutz_ne _ z, hl]
      simp only [aB, aC, aD, aE, aF, aG, aH, aI, aJ, aK, aL, aM, aN, aO, aP, aQ, aR, aS, aT, aU, aV, aW, aX, aY, aZ, bA, bB, bC, bD, bE, bF, bG, bH, bI, bJ, bK, bL, bM, bN, bO, bP, bQ, bR, bS, bT, bU, bV, bW, bX, bY, bZ, cA, cB, cC, cD, cE, cF, cG, cH, cI, cJ, cK, cL, cM, cN, cO, cP, cQ, cR, cS, cT, cU, cW, cX, cY, cZ, dA, dB, dC, dD, dE, dF, dG, dH, dI, dJ, dL, dM, dN, dO, dP, dQ, dR, dS, dT, dU, dV, dW, dX, dY, dZ, eA, eB, eC, eE, eG, eH, eI, eJ, eK, eL, eM, eN, eO, eP, aA, eQ, eR, eS, eT, eU, eV, eW, eX, eY, eZ, fA, fB, fC, fE, fF, fG, fH, fI, fJ, fK, fL, fM, fN, fO, fP, fQ, fR, fS, fT, fU, fV, fW, fX, fY, Res.bind_ex, Res.bind_no, fZ, gA, Res.st_ex, Res.st_no, gB, gC, gD, gE, gF, gG, gH, gI, gJ, gK, List.set_cons_zero, List.set_cons_succ, List.length_cons, List.length_nil, List.map_cons, List.map_nil, List.replicate, List.cons_append, List.nil_append, Nat.reduceSub, Nat.reduceAdd, Nat.reduceLT, List.append_nil, if_true, if_false, Bool.false_eq_true, ite_true, ite_false, decide_true, decide_false, Bool.not_true, Bool.not_false, gL, gM, gN, gO, gP, gQ, gR, gS, gT, gU, gV, gW, gX, gY, gZ, hA, hC, hE, hI, hJ, hU, hW, hX, hZ, iA, iB, iC, iD, iE, iF, iG, iH, iI, iJ, iK, iL, iM, iN, iO, iP, iQ, iR, iS, iT, iU, iV, iW, iX, iY, iZ, jA, jB, jC, jD, d, q, i1, zd]
theorem cut_ok {i : Nat} (h : At.cut ds i) {l : List (Zp p)} {w : PV} (hw : asL m w = some (nvs l)) (hl : l.length ≤ 1000000) : callF ds (k + 1) i [w] m = .ok (tv (cutz l)) m := by
  obtain ⟨N, hN, h⟩ := h
  rw [call_at hN h]
  have e := cut_wh (Γ := callF ds k) hw l.length WF (Nat.le_refl _) (Nat.lt_of_le_of_lt hl (by decide))
  rw [List.take_length] at e
  have s := as_slc hw (cutz l).length
  have tk : (nvs l).take (cutz l).length = nvs (cutz l) := by
    rw [nvs_def, ← List.map_take, cutz_take, ← nvs_def]
  rw [tk] at s
  simp only [B.cut, aB, aC, aD, aE, aF, aG, aH, aI, aJ, aK, aL, aM, aN, aO, aP, aQ, aR, aS, aT, aU, aV, aW, aX, aY, aZ, bA, bB, bC, bD, bE, bF, bG, bH, bI, bJ, bK, bL, bM, bN, bO, bP, bQ, bR, bS, bT, bU, bV, bW, bX, bY, bZ, cA, cB, cC, cD, cE, cF, cG, cH, cI, cJ, cK, cL, cM, cN, cO, cP, cQ, cR, cS, cT, cU, cW, cX, cY, cZ, dA, dB, dC, dD, dE, dF, dG, dH, dI, dJ, dL, dM, dN, dO, dP, dQ, dR, dS, dT, dU, dV, dW, dX, dY, dZ, eA, eB, eC, eE, eG, eH, eI, eJ, eK, eL, eM, eN, eO, eP, aA, eQ, eR, eS, eT, eU, eV, eW, eX, eY, eZ, fA, fB, fC, fE, fF, fG, fH, fI, fJ, fK, fL, fM, fN, fO, fP, fQ, fR, fS, fT, fU, fV, fW, fX, fY, Res.bind_ex, Res.bind_no, fZ, gA, Res.st_ex, Res.st_no, gB, gC, gD, gE, gF, gG, gH, gI, gJ, gK, List.set_cons_zero, List.set_cons_succ, List.length_cons, List.length_nil, List.map_cons, List.map_nil, List.replicate, List.cons_append, List.nil_append, Nat.reduceSub, Nat.reduceAdd, Nat.reduceLT, List.append_nil, if_true, if_false, Bool.false_eq_true, ite_true, ite_false, decide_true, decide_false, Bool.not_true, Bool.not_false, gL, gM, gN, gO, gP, gQ, gR, gS, gT, gU, gV, gW, gX, gY, gZ, hA, hC, hE, hI, hJ, hU, hW, hX, hZ, iA, iB, iC, iD, iE, iF, iG, iH, iI, iJ, iK, iL, iM, iN, iO, iP, iQ, iR, iS, iT, iU, iV, iW, iX, iY, iZ, jA, jB, jC, jD, as_len hw, nvs_len, e, s, bf_tuple, aA]
theorem pev_rev (x : Zp p) (l : List (Zp p)) : l.reverse.foldl (fun s a => s * x + a) 0 = pev l x := by
  rw [List.foldl_reverse]
  induction l with
  | nil => rfl
  | cons a l ih => rw [List.foldr_cons, ih, pev_cons]; grind
theorem at_loop {Γ : Call} {w : PV} (x : Zp p) (l : List (Zp p)) : ∃ u, frGo [] (bnd Γ (.nm 4)) (evSs Γ [.asg (.nm 3) (.bin .mod (.bin .add (.bin .mul (.var 3) (.var 2)) (.var 4)) (.var 0))]) (nvs l).reverse [some (.int p), some w, some (.int (zr x)), some (.int 0), none] m = .nx [some (.int p), some w, some (.int (zr x)), some (.int (zr (pev l x))), u] m := by
  obtain ⟨_, u, e⟩ := frGo_fold (bind := bnd Γ (.nm 4)) (body := evSs Γ [.asg (.nm 3) (.bin .mod (.bin .add (.bin .mul (.var 3) (.var 2)) (.var 4)) (.var 0))]) (fun a : Zp p => PV.int (zr a)) (fun (s : Zp p) (u : Option PV) => [some (.int p), some w, some (.int (zr x)), some (.int (zr s)), u]) (fun _ => m) (fun s a => s * x + a) (fun _ => True) l.reverse 0 none trivial (by
    intro s u a _ _
    refine ⟨trivial, _, some (.int (zr a)), cK, ?_⟩
    simp (disch := decide) only [aB, aC, aD, aE, aF, aG, aH, aI, aJ, aK, aL, aM, aN, aO, aP, aQ, aR, aS, aT, aU, aV, aW, aX, aY, aZ, bA, bB, bC, bD, bE, bF, bG, bH, bI, bJ, bK, bL, bM, bN, bO, bP, bQ, bR, bS, bT, bU, bV, bW, bX, bY, bZ, cA, cB, cC, cD, cE, cF, cG, cH, cI, cJ, cK, cL, cM, cN, cO, cP, cQ, cR, cS, cT, cU, cW, cX, cY, cZ, dA, dB, dC, dD, dE, dF, dG, dH, dI, dJ, dL, dM, dN, dO, dP, dQ, dR, dS, dT, dU, dV, dW, dX, dY, dZ, eA, eB, eC, eE, eG, eH, eI, eJ, eK, eL, eM, eN, eO, eP, aA, eQ, eR, eS, eT, eU, eV, eW, eX, eY, eZ, fA, fB, fC, fE, fF, fG, fH, fI, fJ, fK, fL, fM, fN, fO, fP, fQ, fR, fS, fT, fU, fV, fW, fX, fY, Res.bind_ex, Res.bind_no, fZ, gA, Res.st_ex, Res.st_no, gB, gC, gD, gE, gF, gG, gH, gI, gJ, gK, List.set_cons_zero, List.set_cons_succ, List.length_cons, List.length_nil, List.map_cons, List.map_nil, List.replicate, List.cons_append, List.nil_append, Nat.reduceSub, Nat.reduceAdd, Nat.reduceLT, List.append_nil, if_true, if_false, Bool.false_eq_true, ite_true, ite_false, decide_true, decide_false, Bool.not_true, Bool.not_false, gL, gM, gN, gO, gP, gQ, gR, gS, gT, gU, gV, gW, gX, gY, gZ, hA, hC, hE, hI, hJ, hU, hW, hX, hZ, iA, iB, iC, iD, iE, iF, iG, iH, iI, iJ, iK, iL, iM, iN, iO, iP, iQ, iR, iS, iT, iU, iV, iW, iX, iY, iZ, jA, jB, jC, jD, mul_c, mod_p, zc_add, zc_mul, zc_zr])
  rw [pev_rev, zr_0] at e
  refine ⟨u, ?_⟩
  rw [nvs_def, ← List.map_reverse]
  exact e
theorem at_place_ok {i : Nat} (h : At.at_place ds i) {l : List (Zp p)} {w : PV} (hw : IsSq w (nvs l)) (x : Zp p) : callF ds (k + 1) i [.int p, w, .int (zr x)] m = .ok (.int (zr (pev l x))) m := by
  obtain ⟨N, hN, h⟩ := h
  rw [call_at hN h]
  obtain ⟨u, e⟩ := at_loop (m := m) (Γ := callF ds k) (w := w) x l
  have s : srcRv m w = .ok ((nvs l).reverse, []) m := by rcases hw with rfl | rfl <;> rfl
  simp only [B.at_place, aB, aC, aD, aE, aF, aG, aH, aI, aJ, aK, aL, aM, aN, aO, aP, aQ, aR, aS, aT, aU, aV, aW, aX, aY, aZ, bA, bB, bC, bD, bE, bF, bG, bH, bI, bJ, bK, bL, bM, bN, bO, bP, bQ, bR, bS, bT, bU, bV, bW, bX, bY, bZ, cA, cB, cC, cD, cE, cF, cG, cH, cI, cJ, cK, cL, cM, cN, cO, cP, cQ, cR, cS, cT, cU, cW, cX, cY, cZ, dA, dB, dC, dD, dE, dF, dG, dH, dI, dJ, dL, dM, dN, dO, dP, dQ, dR, dS, dT, dU, dV, dW, dX, dY, dZ, eA, eB, eC, eE, eG, eH, eI, eJ, eK, eL, eM, eN, eO, eP, aA, eQ, eR, eS, eT, eU, eV, eW, eX, eY, eZ, fA, fB, fC, fE, fF, fG, fH, fI, fJ, fK, fL, fM, fN, fO, fP, fQ, fR, fS, fT, fU, fV, fW, fX, fY, Res.bind_ex, Res.bind_no, fZ, gA, Res.st_ex, Res.st_no, gB, gC, gD, gE, gF, gG, gH, gI, gJ, gK, List.set_cons_zero, List.set_cons_succ, List.length_cons, List.length_nil, List.map_cons, List.map_nil, List.replicate, List.cons_append, List.nil_append, Nat.reduceSub, Nat.reduceAdd, Nat.reduceLT, List.append_nil, if_true, if_false, Bool.false_eq_true, ite_true, ite_false, decide_true, decide_false, Bool.not_true, Bool.not_false, gL, gM, gN, gO, gP, gQ, gR, gS, gT, gU, gV, gW, gX, gY, gZ, hA, hC, hE, hI, hJ, hU, hW, hX, hZ, iA, iB, iC, iD, iE, iF, iG, iH, iI, iJ, iK, iL, iM, iN, iO, iP, iQ, iR, iS, iT, iU, iV, iW, iX, iY, iZ, jA, jB, jC, jD, s, e, aA]
theorem law_at_ok {i : Nat} (h : At._law_at ds i) (l : List (Zp p)) (x : Zp p) : callF ds (k + 1) i [.int p, tv l, .int (zr x)] m = .ok (.int (zr (pev l x))) m := by
  obtain ⟨N, hN, h⟩ := h
  rw [call_at hN h]
  obtain ⟨u, e⟩ := at_loop (m := m) (Γ := callF ds k) (w := tv l) x l
  have r : rvE m (tv l) = .ok (.tup (nvs l).reverse) m := rfl
  have s : srcSq m (.tup (nvs l).reverse) = .ok ((nvs l).reverse, []) m := rfl
  simp only [B._law_at, aB, aC, aD, aE, aF, aG, aH, aI, aJ, aK, aL, aM, aN, aO, aP, aQ, aR, aS, aT, aU, aV, aW, aX, aY, aZ, bA, bB, bC, bD, bE, bF, bG, bH, bI, bJ, bK, bL, bM, bN, bO, bP, bQ, bR, bS, bT, bU, bV, bW, bX, bY, bZ, cA, cB, cC, cD, cE, cF, cG, cH, cI, cJ, cK, cL, cM, cN, cO, cP, cQ, cR, cS, cT, cU, cW, cX, cY, cZ, dA, dB, dC, dD, dE, dF, dG, dH, dI, dJ, dL, dM, dN, dO, dP, dQ, dR, dS, dT, dU, dV, dW, dX, dY, dZ, eA, eB, eC, eE, eG, eH, eI, eJ, eK, eL, eM, eN, eO, eP, aA, eQ, eR, eS, eT, eU, eV, eW, eX, eY, eZ, fA, fB, fC, fE, fF, fG, fH, fI, fJ, fK, fL, fM, fN, fO, fP, fQ, fR, fS, fT, fU, fV, fW, fX, fY, Res.bind_ex, Res.bind_no, fZ, gA, Res.st_ex, Res.st_no, gB, gC, gD, gE, gF, gG, gH, gI, gJ, gK, List.set_cons_zero, List.set_cons_succ, List.length_cons, List.length_nil, List.map_cons, List.map_nil, List.replicate, List.cons_append, List.nil_append, Nat.reduceSub, Nat.reduceAdd, Nat.reduceLT, List.append_nil, if_true, if_false, Bool.false_eq_true, ite_true, ite_false, decide_true, decide_false, Bool.not_true, Bool.not_false, gL, gM, gN, gO, gP, gQ, gR, gS, gT, gU, gV, gW, gX, gY, gZ, hA, hC, hE, hI, hJ, hU, hW, hX, hZ, iA, iB, iC, iD, iE, iF, iG, iH, iI, iJ, iK, iL, iM, iN, iO, iP, iQ, iR, iS, iT, iU, iV, iW, iX, iY, iZ, jA, jB, jC, jD, r, s, e, aA]
def extz (n : Nat) (l : List (Zp p)) : List (Zp p) := l ++ List.replicate (n - l.length) 0
theorem extz_len {n : Nat} {l : List (Zp p)} (h : l.length ≤ n) : (extz n l).length = n := by simp [extz]; omega
theorem extz_get (n : Nat) (l : List (Zp p)) (i : Nat) : (extz n l).getD i 0 = l.getD i 0 := by
  simp only [extz, List.getD_eq_getElem?_getD, List.getElem?_append]
  split
  · rfl
  · rw [List.getElem?_eq_none (by omega : l.length ≤ i), List.getElem?_replicate]; split <;> rfl
theorem rep_0 {n : Nat} (h : n ≤ 1000000) : repP m (.lst [.int 0]) (.int n) = .ok (nvs (List.replicate n (0 : Zp p))) m := by
  have a1 : ([PV.int 0] : List PV).length * ((n : Int)).toNat ≤ LINE ∧ smallI (n : Int) = true := ⟨by rw [Int.toNat_natCast]; exact Nat.le_trans (by simp; omega) (le_line (Nat.le_refl 1000000)), by simp [smallI]; omega⟩
  simp only [repP, asL, if_pos a1]
  have : ∀ n : Nat, (List.replicate n [PV.int 0]).flatten = nvs (List.replicate n (0 : Zp p)) := fun n => by
    induction n with
    | zero => rfl
    | succ n ih => rw [List.replicate_succ, List.flatten_cons, ih, List.replicate_succ, hI, zr_0]; rfl
  rw [Int.toNat_natCast, this]
theorem cat_ll {xs ys : List PV} (h : xs.length + ys.length ≤ 1000000) : catP m (.lst xs) (.lst ys) = .ok (xs ++ ys) m := by
  have e : (xs ++ ys).length ≤ LINE := by rw [List.length_append]; exact le_line h
  simp only [catP, asL, okLen, if_pos e]
theorem isq_lof {w : PV} {xs : List PV} (h : IsSq w xs) : lofP m w = .ok xs m := by rcases h with rfl | rfl <;> rfl
theorem ext_ev {n : Nat} {l : List (Zp p)} (hl : l.length ≤ n) (hn : n ≤ 100000) : catP m (.lst (nvs l)) (.lst (nvs (List.replicate (n - l.length) (0 : Zp p)))) = .ok (nvs (extz n l)) m := by
  rw [cat_ll (by rw [nvs_len, nvs_len, List.length_replicate]; omega), extz]
  simp [nvs_def]
theorem sum_of_lines_ok {i : Nat} (h : At.sum_of_lines ds i) {a b : List (Zp p)} {u w : PV} (hu : IsSq u (nvs a)) (hw : IsSq w (nvs b)) (ha : a.length ≤ 1000) (hb : b.length ≤ 1000) : callF ds (k + 2) i [.int p, u, w] m = .ok (tv (lsum a b)) m := by
  obtain ⟨N, c, hN, h, hc⟩ := h
  rw [call_at hN h]
  obtain ⟨n, hn⟩ : ∃ n, n = max a.length b.length := ⟨_, rfl⟩
  have q1 : (n : Int) - (a.length : Int) = ((n - a.length : Nat) : Int) := by omega
  have q2 : (n : Int) - (b.length : Int) = ((n - b.length : Nat) : Int) := by omega
  have hr : (((List.range n).map fun i : Nat => PV.int i).length ≤ LINE) = True := by rw [List.length_map, List.length_range]; exact le_lineT (by omega)
  have e : lcGo [] (bnd (callF ds (k + 1)) (.nm 6)) (evC (callF ds (k + 1)) none) (evE (callF ds (k + 1)) (.bin .mod (.bin .add (.idx (.var 4) (.var 6)) (.idx (.var 5) (.var 6))) (.var 0))) [some (.int p), some u, some w, some (.int n), some (.lst (nvs (extz n a))), some (.lst (nvs (extz n b))), none] ((List.range n).map fun i : Nat => PV.int i) m =
      .ok (nvs ((List.range n).map fun i => a.getD i 0 + b.getD i 0)) m := by
    rw [nvs_range]
    refine lcGo_map (fun i : Nat => PV.int i) _ (List.range n) fun y hy => ⟨_, cK, bN, ?_⟩
    have hy := List.mem_range.mp hy
    have i1 := idx_lv (m := m) (t := extz n a) (i := y) (by rw [extz_len (by omega)]; exact hy)
    have i2 := idx_lv (m := m) (t := extz n b) (i := y) (by rw [extz_len (by omega)]; exact hy)
    rw [extz_get] at i1 i2
    simp only [aB, aC, aD, aE, aF, aG, aH, aI, aJ, aK, aL, aM, aN, aO, aP, aQ, aR, aS, aT, aU, aV, aW, aX, aY, aZ, bA, bB, bC, bD, bE, bF, bG, bH, bI, bJ, bK, bL, bM, bN, bO, bP, bQ, bR, bS, bT, bU, bV, bW, bX, bY, bZ, cA, cB, cC, cD, cE, cF, cG, cH, cI, cJ, cK, cL, cM, cN, cO, cP, cQ, cR, cS, cT, cU, cW, cX, cY, cZ, dA, dB, dC, dD, dE, dF, dG, dH, dI, dJ, dL, dM, dN, dO, dP, dQ, dR, dS, dT, dU, dV, dW, dX, dY, dZ, eA, eB, eC, eE, eG, eH, eI, eJ, eK, eL, eM, eN, eO, eP, aA, eQ, eR, eS, eT, eU, eV, eW, eX, eY, eZ, fA, fB, fC, fE, fF, fG, fH, fI, fJ, fK, fL, fM, fN, fO, fP, fQ, fR, fS, fT, fU, fV, fW, fX, fY, Res.bind_ex, Res.bind_no, fZ, gA, Res.st_ex, Res.st_no, gB, gC, gD, gE, gF, gG, gH, gI, gJ, gK, List.set_cons_zero, List.set_cons_succ, List.length_cons, List.length_nil, List.map_cons, List.map_nil, List.replicate, List.cons_append, List.nil_append, Nat.reduceSub, Nat.reduceAdd, Nat.reduceLT, List.append_nil, if_true, if_false, Bool.false_eq_true, ite_true, ite_false, decide_true, decide_false, Bool.not_true, Bool.not_false, gL, gM, gN, gO, gP, gQ, gR, gS, gT, gU, gV, gW, gX, gY, gZ, hA, hC, hE, hI, hJ, hU, hW, hX, hZ, iA, iB, iC, iD, iE, iF, iG, iH, iI, iJ, iK, iL, iM, iN, iO, iP, iQ, iR, iS, iT, iU, iV, iW, iX, iY, iZ, jA, jB, jC, jD, i1, i2, mod_p, zc_add, zc_zr]
  have hs : cutz ((List.range n).map fun i => a.getD i 0 + b.getD i 0) = lsum a b := cutz_eq fun i => by
    rw [padd_get]
    by_cases hi : i < n
    · rw [getD_map_range _ hi]
    · rw [getD_out (by simp; omega), getD_out (by omega : a.length ≤ i), getD_out (by omega : b.length ≤ i)]; grind
  have hc := cut_ok (k := k) (m := m) hc (asL_lst m (nvs ((List.range n).map fun i => a.getD i 0 + b.getD i 0))) (by simp; omega)
  rw [hs] at hc
  simp only [B.sum_of_lines, aB, aC, aD, aE, aF, aG, aH, aI, aJ, aK, aL, aM, aN, aO, aP, aQ, aR, aS, aT, aU, aV, aW, aX, aY, aZ, bA, bB, bC, bD, bE, bF, bG, bH, bI, bJ, bK, bL, bM, bN, bO, bP, bQ, bR, bS, bT, bU, bV, bW, bX, bY, bZ, cA, cB, cC, cD, cE, cF, cG, cH, cI, cJ, cK, cL, cM, cN, cO, cP, cQ, cR, cS, cT, cU, cW, cX, cY, cZ, dA, dB, dC, dD, dE, dF, dG, dH, dI, dJ, dL, dM, dN, dO, dP, dQ, dR, dS, dT, dU, dV, dW, dX, dY, dZ, eA, eB, eC, eE, eG, eH, eI, eJ, eK, eL, eM, eN, eO, eP, aA, eQ, eR, eS, eT, eU, eV, eW, eX, eY, eZ, fA, fB, fC, fE, fF, fG, fH, fI, fJ, fK, fL, fM, fN, fO, fP, fQ, fR, fS, fT, fU, fV, fW, fX, fY, Res.bind_ex, Res.bind_no, fZ, gA, Res.st_ex, Res.st_no, gB, gC, gD, gE, gF, gG, gH, gI, gJ, gK, List.set_cons_zero, List.set_cons_succ, List.length_cons, List.length_nil, List.map_cons, List.map_nil, List.replicate, List.cons_append, List.nil_append, Nat.reduceSub, Nat.reduceAdd, Nat.reduceLT, List.append_nil, if_true, if_false, Bool.false_eq_true, ite_true, ite_false, decide_true, decide_false, Bool.not_true, Bool.not_false, gL, gM, gN, gO, gP, gQ, gR, gS, gT, gU, gV, gW, gX, gY, gZ, hA, hC, hE, hI, hJ, hU, hW, hX, hZ, iA, iB, iC, iD, iE, iF, iG, iH, iI, iJ, iK, iL, iM, iN, iO, iP, iQ, iR, iS, iT, iU, iV, iW, iX, iY, iZ, jA, jB, jC, jD, hu.len, hw.len, nvs_len, max_n2, ← hn, isq_lof hu, isq_lof hw, q1, q2, rep_0 (p := p) (show n - a.length ≤ 1000000 by omega), rep_0 (p := p) (show n - b.length ≤ 1000000 by omega), ext_ev (p := p) (show a.length ≤ n by omega) (show n ≤ 100000 by omega), ext_ev (p := p) (show b.length ≤ n by omega) (show n ≤ 100000 by omega), tupN_2, srcRg_0n (show n ≤ 1000000 by omega), hr, wipeP, e, hc, aA]
def lsc (x : Zp p) (l : List (Zp p)) : List (Zp p) := cutz (psc x l)
theorem times_number_ok {i : Nat} (h : At.times_number ds i) {a : List (Zp p)} {u : PV} (hu : IsSq u (nvs a)) (x : Zp p) (ha : a.length ≤ 100000) : callF ds (k + 2) i [.int p, u, .int (zr x)] m = .ok (tv (lsc x a)) m := by
  obtain ⟨N, c, hN, h, hc⟩ := h
  rw [call_at hN h]
  have e : lcGo [] (bnd (callF ds (k + 1)) (.nm 3)) (evC (callF ds (k + 1)) none) (evE (callF ds (k + 1)) (.bin .mod (.bin .mul (.var 3) (.var 2)) (.var 0))) [some (.int p), some u, some (.int (zr x)), none] (nvs a) m = .ok (nvs (psc x a)) m := by
    rw [psc, nvs_def, nvs_def, List.map_map]
    refine lcGo_map (fun a : Zp p => PV.int (zr a)) _ a fun y hy => ⟨_, cK, bN, ?_⟩
    have q : y * x = x * y := by grind
    simp (disch := decide) only [aB, aC, aD, aE, aF, aG, aH, aI, aJ, aK, aL, aM, aN, aO, aP, aQ, aR, aS, aT, aU, aV, aW, aX, aY, aZ, bA, bB, bC, bD, bE, bF, bG, bH, bI, bJ, bK, bL, bM, bN, bO, bP, bQ, bR, bS, bT, bU, bV, bW, bX, bY, bZ, cA, cB, cC, cD, cE, cF, cG, cH, cI, cJ, cK, cL, cM, cN, cO, cP, cQ, cR, cS, cT, cU, cW, cX, cY, cZ, dA, dB, dC, dD, dE, dF, dG, dH, dI, dJ, dL, dM, dN, dO, dP, dQ, dR, dS, dT, dU, dV, dW, dX, dY, dZ, eA, eB, eC, eE, eG, eH, eI, eJ, eK, eL, eM, eN, eO, eP, aA, eQ, eR, eS, eT, eU, eV, eW, eX, eY, eZ, fA, fB, fC, fE, fF, fG, fH, fI, fJ, fK, fL, fM, fN, fO, fP, fQ, fR, fS, fT, fU, fV, fW, fX, fY, Res.bind_ex, Res.bind_no, fZ, gA, Res.st_ex, Res.st_no, gB, gC, gD, gE, gF, gG, gH, gI, gJ, gK, List.set_cons_zero, List.set_cons_succ, List.length_cons, List.length_nil, List.map_cons, List.map_nil, List.replicate, List.cons_append, List.nil_append, Nat.reduceSub, Nat.reduceAdd, Nat.reduceLT, List.append_nil, if_true, if_false, Bool.false_eq_true, ite_true, ite_false, decide_true, decide_false, Bool.not_true, Bool.not_false, gL, gM, gN, gO, gP, gQ, gR, gS, gT, gU, gV, gW, gX, gY, gZ, hA, hC, hE, hI, hJ, hU, hW, hX, hZ, iA, iB, iC, iD, iE, iF, iG, iH, iI, iJ, iK, iL, iM, iN, iO, iP, iQ, iR, iS, iT, iU, iV, iW, iX, iY, iZ, jA, jB, jC, jD, mul_c, mod_p, zc_mul, zc_zr, q, Function.comp]
  have hr : ((nvs a).length ≤ LINE) = True := by rw [nvs_len]; exact le_lineT (by omega)
  have hc := cut_ok (k := k) (m := m) hc (asL_lst m (nvs (psc x a))) (by simp [psc]; omega)
  simp only [B.times_number, aB, aC, aD, aE, aF, aG, aH, aI, aJ, aK, aL, aM, aN, aO, aP, aQ, aR, aS, aT, aU, aV, aW, aX, aY, aZ, bA, bB, bC, bD, bE, bF, bG, bH, bI, bJ, bK, bL, bM, bN, bO, bP, bQ, bR, bS, bT, bU, bV, bW, bX, bY, bZ, cA, cB, cC, cD, cE, cF, cG, cH, cI, cJ, cK, cL, cM, cN, cO, cP, cQ, cR, cS, cT, cU, cW, cX, cY, cZ, dA, dB, dC, dD, dE, dF, dG, dH, dI, dJ, dL, dM, dN, dO, dP, dQ, dR, dS, dT, dU, dV, dW, dX, dY, dZ, eA, eB, eC, eE, eG, eH, eI, eJ, eK, eL, eM, eN, eO, eP, aA, eQ, eR, eS, eT, eU, eV, eW, eX, eY, eZ, fA, fB, fC, fE, fF, fG, fH, fI, fJ, fK, fL, fM, fN, fO, fP, fQ, fR, fS, fT, fU, fV, fW, fX, fY, Res.bind_ex, Res.bind_no, fZ, gA, Res.st_ex, Res.st_no, gB, gC, gD, gE, gF, gG, gH, gI, gJ, gK, List.set_cons_zero, List.set_cons_succ, List.length_cons, List.length_nil, List.map_cons, List.map_nil, List.replicate, List.cons_append, List.nil_append, Nat.reduceSub, Nat.reduceAdd, Nat.reduceLT, List.append_nil, if_true, if_false, Bool.false_eq_true, ite_true, ite_false, decide_true, decide_false, Bool.not_true, Bool.not_false, gL, gM, gN, gO, gP, gQ, gR, gS, gT, gU, gV, gW, gX, gY, gZ, hA, hC, hE, hI, hJ, hU, hW, hX, hZ, iA, iB, iC, iD, iE, iF, iG, iH, iI, iJ, iK, iL, iM, iN, iO, iP, iQ, iR, iS, iT, iU, iV, iW, iX, iY, iZ, jA, jB, jC, jD, hu.src, hr, wipeP, e, hc, aA, lsc]
end
end Px
set_option Elab.async false
set_option linter.all false
set_option maxRecDepth 100000
set_option maxHeartbeats 1000000
namespace Px
open PySem Mz
def B.need_line (c_is_plain_line : Nat) : List St := [
  .iff (.not_ (.call c_is_plain_line [.var 0, .var 1])) [.rai "" []] []]
def At.need_line (ds : List Def) (i : Nat) : Prop := ∃ (N : List Str), ∃ (c_is_plain_line : Nat), N.length = 2 ∧ ds[i]? = some ⟨N, 2, B.need_line c_is_plain_line⟩ ∧ At.is_plain_line ds c_is_plain_line
def B.need_two (c_need_prime c_need_line : Nat) : List St := [
  .ex (.call c_need_prime [.var 0, .int 5]),
  .ex (.call c_need_line [.var 0, .var 1]),
  .ex (.call c_need_line [.var 0, .var 2])]
def At.need_two (ds : List Def) (i : Nat) : Prop := ∃ (N : List Str), ∃ (c_need_prime c_need_line : Nat), N.length = 3 ∧ ds[i]? = some ⟨N, 3, B.need_two c_need_prime c_need_line⟩ ∧ At.need_prime ds c_need_prime ∧ At.need_line ds c_need_line
section
variable {ds : List Def} {k : Nat} {m rest : Mem} {p : Nat} [hp : PrL p]
def enP (i : Nat) : List (Zp p) → List PV
  | [] => []
  | a :: l => .tup [.int i, .int (zr a)] :: enP (i + 1) l
theorem enP_zip : ∀ (l : List (Zp p)) (i : Nat), enP i l = ((List.range' i l.length).zip l).map fun q => PV.tup [.int (q.1 : Nat), .int (zr q.2)]
  | [], i => rfl
  | a :: l, i => by rw [enP, enP_zip l (i + 1), List.length_cons, List.range'_succ]; rfl
theorem enum_nvs (l : List (Zp p)) : enumV (nvs l) = enP 0 l := by
  rw [enP_zip, ← List.range_eq_range']
  exact enum_map _ l
theorem srcEn_tv (l : List (Zp p)) : srcEn m (tv l) = .ok (enP 0 l, []) m := by
  show Res.ok (enumV (nvs l), []) m = _
  rw [enum_nvs]
theorem nvs_set (l : List (Zp p)) (j : Nat) (x : Zp p) : (nvs l).set j (.int (zr x)) = nvs (l.set j x) := by rw [nvs_def, nvs_def, List.map_set]
theorem prod_inner {Γ : Call} {u1 u2 : Option PV} (f : List (Zp p)) (at_ : Nat) (c : Zp p) : ∀ (b2 b1 : List (Zp p)) (u6 u7 : Option PV), at_ + b1.length + b2.length ≤ f.length →
    ∃ w6 w7, frGo [] (bnd Γ (.tp [.nm 6, .nm 7])) (evSs Γ [.asg (.ix (.var 3) (.bin .add (.var 4) (.var 6))) (.bin .mod (.bin .add (.idx (.var 3) (.bin .add (.var 4) (.var 6))) (.bin .mul (.var 5) (.var 7))) (.var 0))]) (enP b1.length b2) [some (.int p), u1, u2, some (.loc m.length), some (.int at_), some (.int (zr c)), u6, u7] (m ++ [.lst (nvs (prow f at_ c b1))]) =
      .nx [some (.int p), u1, u2, some (.loc m.length), some (.int at_), some (.int (zr c)), w6, w7] (m ++ [.lst (nvs (prow f at_ c (b1 ++ b2)))])
  | [], b1, u6, u7, _ => ⟨u6, u7, by rw [List.append_nil]; rfl⟩
  | y :: b2, b1, u6, u7, hl => by
    rw [List.length_cons] at hl
    obtain ⟨w6, w7, e⟩ := prod_inner f at_ c b2 (b1 ++ [y]) (some (.int b1.length)) (some (.int (zr y))) (by rw [List.length_append, List.length_singleton]; omega)
    refine ⟨w6, w7, ?_⟩
    have q : (at_ : Int) + (b1.length : Int) = ((at_ + b1.length : Nat) : Int) := by omega
    have lF : (prow f at_ c b1).length = f.length := prow_len _ _ _ _
    have i1 := idx_last m (nvs (prow f at_ c b1)) (nvs_at (l := prow f at_ c b1) (i := at_ + b1.length) (by rw [lF]; omega))
    have p1 := put_last [some (.int p), u1, u2, some (.loc m.length), some (.int at_), some (.int (zr c)), some (.int b1.length), some (.int (zr y))] m (nvs (prow f at_ c b1)) (.int (zr ((prow f at_ c b1).getD (at_ + b1.length) 0 + c * y))) (j := at_ + b1.length) (by rw [nvs_len, lF]; omega)
    rw [nvs_set, ← prow_snoc (by omega)] at p1
    rw [List.length_append, List.length_singleton, List.append_assoc] at e
    rw [enP, eJ]
    simp (disch := decide) only [aB, aC, aD, aE, aF, aG, aH, aI, aJ, aK, aL, aM, aN, aO, aP, aQ, aR, aS, aT, aU, aV, aW, aX, aY, aZ, bA, bB, bC, bD, bE, bF, bG, bH, bI, bJ, bK, bL, bM, bN, bO, bP, bQ, bR, bS, bT, bU, bV, bW, bX, bY, bZ, cA, cB, cC, cD, cE, cF, cG, cH, cI, cJ, cK, cL, cM, cN, cO, cP, cQ, cR, cS, cT, cU, cW, cX, cY, cZ, dA, dB, dC, dD, dE, dF, dG, dH, dI, dJ, dL, dM, dN, dO, dP, dQ, dR, dS, dT, dU, dV, dW, dX, dY, dZ, eA, eB, eC, eE, eG, eH, eI, eJ, eK, eL, eM, eN, eO, eP, aA, eQ, eR, eS, eT, eU, eV, eW, eX, eY, eZ, fA, fB, fC, fE, fF, fG, fH, fI, fJ, fK, fL, fM, fN, fO, fP, fQ, fR, fS, fT, fU, fV, fW, fX, fY, Res.bind_ex, Res.bind_no, fZ, gA, Res.st_ex, Res.st_no, gB, gC, gD, gE, gF, gG, gH, gI, gJ, gK, List.set_cons_zero, List.set_cons_succ, List.length_cons, List.length_nil, List.map_cons, List.map_nil, List.replicate, List.cons_append, List.nil_append, Nat.reduceSub, Nat.reduceAdd, Nat.reduceLT, List.append_nil, if_true, if_false, Bool.false_eq_true, ite_true, ite_false, decide_true, decide_false, Bool.not_true, Bool.not_false, gL, gM, gN, gO, gP, gQ, gR, gS, gT, gU, gV, gW, gX, gY, gZ, hA, hC, hE, hI, hJ, hU, hW, hX, hZ, iA, iB, iC, iD, iE, iF, iG, iH, iI, iJ, iK, iL, iM, iN, iO, iP, iQ, iR, iS, iT, iU, iV, iW, iX, iY, iZ, jA, jB, jC, jD, tupN_2, q, i1, mul_c, mod_p, zc_add, zc_mul, zc_zr, p1]
    exact e
theorem prod_outer {Γ : Call} {u1 : Option PV} (b : List (Zp p)) : ∀ (a f : List (Zp p)) (i : Nat) (u4 u5 u6 u7 : Option PV), i + a.length + b.length ≤ f.length + 1 →
    ∃ w4 w5 w6 w7, frGo [] (bnd Γ (.tp [.nm 4, .nm 5])) (evSs Γ [.for_ (.tp [.nm 6, .nm 7]) (.enm (.var 2)) [.asg (.ix (.var 3) (.bin .add (.var 4) (.var 6))) (.bin .mod (.bin .add (.idx (.var 3) (.bin .add (.var 4) (.var 6))) (.bin .mul (.var 5) (.var 7))) (.var 0))]]) (enP i a) [some (.int p), u1, some (tv b), some (.loc m.length), u4, u5, u6, u7] (m ++ [.lst (nvs f)]) =
      .nx [some (.int p), u1, some (tv b), some (.loc m.length), w4, w5, w6, w7] (m ++ [.lst (nvs (pacc f b i a))])
  | [], f, i, u4, u5, u6, u7, _ => ⟨u4, u5, u6, u7, rfl⟩
  | c :: a, f, i, u4, u5, u6, u7, hl => by
    rw [List.length_cons] at hl
    obtain ⟨v6, v7, e⟩ := prod_inner (m := m) (Γ := Γ) (u1 := u1) (u2 := some (tv b)) f i c b [] u6 u7 (by simp; omega)
    rw [prow_nil, List.nil_append, List.length_nil] at e
    obtain ⟨w4, w5, w6, w7, e2⟩ := prod_outer b a (prow f i c b) (i + 1) (some (.int i)) (some (.int (zr c))) v6 v7 (by rw [prow_len]; omega)
    refine ⟨w4, w5, w6, w7, ?_⟩
    rw [enP, eJ, pacc]
    simp only [aB, aC, aD, aE, aF, aG, aH, aI, aJ, aK, aL, aM, aN, aO, aP, aQ, aR, aS, aT, aU, aV, aW, aX, aY, aZ, bA, bB, bC, bD, bE, bF, bG, bH, bI, bJ, bK, bL, bM, bN, bO, bP, bQ, bR, bS, bT, bU, bV, bW, bX, bY, bZ, cA, cB, cC, cD, cE, cF, cG, cH, cI, cJ, cK, cL, cM, cN, cO, cP, cQ, cR, cS, cT, cU, cW, cX, cY, cZ, dA, dB, dC, dD, dE, dF, dG, dH, dI, dJ, dL, dM, dN, dO, dP, dQ, dR, dS, dT, dU, dV, dW, dX, dY, dZ, eA, eB, eC, eE, eG, eH, eI, eJ, eK, eL, eM, eN, eO, eP, aA, eQ, eR, eS, eT, eU, eV, eW, eX, eY, eZ, fA, fB, fC, fE, fF, fG, fH, fI, fJ, fK, fL, fM, fN, fO, fP, fQ, fR, fS, fT, fU, fV, fW, fX, fY, Res.bind_ex, Res.bind_no, fZ, gA, Res.st_ex, Res.st_no, gB, gC, gD, gE, gF, gG, gH, gI, gJ, gK, List.set_cons_zero, List.set_cons_succ, List.length_cons, List.length_nil, List.map_cons, List.map_nil, List.replicate, List.cons_append, List.nil_append, Nat.reduceSub, Nat.reduceAdd, Nat.reduceLT, List.append_nil, if_true, if_false, Bool.false_eq_true, ite_true, ite_false, decide_true, decide_false, Bool.not_true, Bool.not_false, gL, gM, gN, gO, gP, gQ, gR, gS, gT, gU, gV, gW, gX, gY, gZ, hA, hC, hE, hI, hJ, hU, hW, hX, hZ, iA, iB, iC, iD, iE, iF, iG, iH, iI, iJ, iK, iL, iM, iN, iO, iP, iQ, iR, iS, iT, iU, iV, iW, iX, iY, iZ, jA, jB, jC, jD, tupN_2, srcEn_tv, e]
    exact e2
theorem eq_empty_tv {xs : List PV} (h : (PV.tup xs).okd 64 = true) (hn : xs ≠ []) : opCmp m .eq (.tup xs) (.tup []) = .ok (.bl false) m := by
  rw [eq_okd h (by simp only [PV.okd, PV.okdT, PV.okdA]; decide)]
  cases xs with
  | nil => exact absurd rfl hn
  | cons a xs => simp only [dOf, dOfA, PyData.eqv, PyData.eqvAll]
theorem idx_tup_last (xs : List PV) (v : PV) : opIdx m (.tup (xs ++ [v])) (.int (-1)) = .ok v m := by
  simp only [opIdx, asS, L2.atI_last]
theorem eq_nil_tv (l : List (Zp p)) (hl : l.length ≤ 1000000) : opCmp m .eq (tv l) (.tup []) = .ok (.bl (decide (l = []))) m := by
  cases l with
  | nil => exact eq_self' (x := .tup []) (by simp [PV.okd, PV.okdT, PV.okdA])
  | cons a l => exact eq_empty_tv (okd_tv (d := 63) hl) (by simp)
theorem product_of_lines_ok {i : Nat} (h : At.product_of_lines ds i) {a b : List (Zp p)} (ha : a.length ≤ 1000) (hb : b.length ≤ 1000) : callF ds (k + 2) i [.int p, tv a, tv b] m = .ok (tv (lmul a b)) m := by
  obtain ⟨N, c, hN, h, hc⟩ := h
  rw [call_at hN h]
  have l1 : opBf m .len [tv a] = .ok (.int a.length) m := by show opBf m .len [.tup (nvs a)] = _; rw [len_tup, nvs_len]
  have l2 : opBf m .len [tv b] = .ok (.int b.length) m := by show opBf m .len [.tup (nvs b)] = _; rw [len_tup, nvs_len]
  by_cases ea : a = []
  · subst ea
    have e1 := eq_nil_tv (m := m) ([] : List (Zp p)) (by simp)
    rw [decide_eq_true rfl] at e1
    rw [lmul_nil_l]
    simp only [B.product_of_lines, aB, aC, aD, aE, aF, aG, aH, aI, aJ, aK, aL, aM, aN, aO, aP, aQ, aR, aS, aT, aU, aV, aW, aX, aY, aZ, bA, bB, bC, bD, bE, bF, bG, bH, bI, bJ, bK, bL, bM, bN, bO, bP, bQ, bR, bS, bT, bU, bV, bW, bX, bY, bZ, cA, cB, cC, cD, cE, cF, cG, cH, cI, cJ, cK, cL, cM, cN, cO, cP, cQ, cR, cS, cT, cU, cW, cX, cY, cZ, dA, dB, dC, dD, dE, dF, dG, dH, dI, dJ, dL, dM, dN, dO, dP, dQ, dR, dS, dT, dU, dV, dW, dX, dY, dZ, eA, eB, eC, eE, eG, eH, eI, eJ, eK, eL, eM, eN, eO, eP, aA, eQ, eR, eS, eT, eU, eV, eW, eX, eY, eZ, fA, fB, fC, fE, fF, fG, fH, fI, fJ, fK, fL, fM, fN, fO, fP, fQ, fR, fS, fT, fU, fV, fW, fX, fY, Res.bind_ex, Res.bind_no, fZ, gA, Res.st_ex, Res.st_no, gB, gC, gD, gE, gF, gG, gH, gI, gJ, gK, List.set_cons_zero, List.set_cons_succ, List.length_cons, List.length_nil, List.map_cons, List.map_nil, List.replicate, List.cons_append, List.nil_append, Nat.reduceSub, Nat.reduceAdd, Nat.reduceLT, List.append_nil, if_true, if_false, Bool.false_eq_true, ite_true, ite_false, decide_true, decide_false, Bool.not_true, Bool.not_false, gL, gM, gN, gO, gP, gQ, gR, gS, gT, gU, gV, gW, gX, gY, gZ, hA, hC, hE, hI, hJ, hU, hW, hX, hZ, iA, iB, iC, iD, iE, iF, iG, iH, iI, iJ, iK, iL, iM, iN, iO, iP, iQ, iR, iS, iT, iU, iV, iW, iX, iY, iZ, jA, jB, jC, jD, e1, aA]
    rfl
  · have e1 := eq_nil_tv (m := m) a (by omega)
    rw [decide_eq_false ea] at e1
    by_cases eb : b = []
    · subst eb
      have e2 := eq_nil_tv (m := m) ([] : List (Zp p)) (by simp)
      rw [decide_eq_true rfl] at e2
      rw [lmul_nil_r]
      simp only [B.product_of_lines, aB, aC, aD, aE, aF, aG, aH, aI, aJ, aK, aL, aM, aN, aO, aP, aQ, aR, aS, aT, aU, aV, aW, aX, aY, aZ, bA, bB, bC, bD, bE, bF, bG, bH, bI, bJ, bK, bL, bM, bN, bO, bP, bQ, bR, bS, bT, bU, bV, bW, bX, bY, bZ, cA, cB, cC, cD, cE, cF, cG, cH, cI, cJ, cK, cL, cM, cN, cO, cP, cQ, cR, cS, cT, cU, cW, cX, cY, cZ, dA, dB, dC, dD, dE, dF, dG, dH, dI, dJ, dL, dM, dN, dO, dP, dQ, dR, dS, dT, dU, dV, dW, dX, dY, dZ, eA, eB, eC, eE, eG, eH, eI, eJ, eK, eL, eM, eN, eO, eP, aA, eQ, eR, eS, eT, eU, eV, eW, eX, eY, eZ, fA, fB, fC, fE, fF, fG, fH, fI, fJ, fK, fL, fM, fN, fO, fP, fQ, fR, fS, fT, fU, fV, fW, fX, fY, Res.bind_ex, Res.bind_no, fZ, gA, Res.st_ex, Res.st_no, gB, gC, gD, gE, gF, gG, gH, gI, gJ, gK, List.set_cons_zero, List.set_cons_succ, List.length_cons, List.length_nil, List.map_cons, List.map_nil, List.replicate, List.cons_append, List.nil_append, Nat.reduceSub, Nat.reduceAdd, Nat.reduceLT, List.append_nil, if_true, if_false, Bool.false_eq_true, ite_true, ite_false, decide_true, decide_false, Bool.not_true, Bool.not_false, gL, gM, gN, gO, gP, gQ, gR, gS, gT, gU, gV, gW, gX, gY, gZ, hA, hC, hE, hI, hJ, hU, hW, hX, hZ, iA, iB, iC, iD, iE, iF, iG, iH, iI, iJ, iK, iL, iM, iN, iO, iP, iQ, iR, iS, iT, iU, iV, iW, iX, iY, iZ, jA, jB, jC, jD, e1, e2, aA]
      rfl
    · have e2 := eq_nil_tv (m := m) b (by omega)
      rw [decide_eq_false eb] at e2
      have pa := List.length_pos_iff.mpr ea
      have pb := List.length_pos_iff.mpr eb
      obtain ⟨n, hn⟩ : ∃ n, n = a.length + b.length - 1 := ⟨_, rfl⟩
      have q : (a.length : Int) + (b.length : Int) - 1 = (n : Int) := by omega
      obtain ⟨w4, w5, w6, w7, eo⟩ := prod_outer (m := m) (Γ := callF ds (k + 1)) (u1 := some (tv a)) b a (List.replicate n 0) 0 none none none none (by simp; omega)
      have hc := cut_ok (k := k) (m := m ++ [.lst (nvs (pacc (List.replicate n 0) b 0 a))]) hc (asL_last m _) (by rw [pacc_len]; simp; omega)
      rw [pacc_mul (by omega)] at hc
      simp only [B.product_of_lines, aB, aC, aD, aE, aF, aG, aH, aI, aJ, aK, aL, aM, aN, aO, aP, aQ, aR, aS, aT, aU, aV, aW, aX, aY, aZ, bA, bB, bC, bD, bE, bF, bG, bH, bI, bJ, bK, bL, bM, bN, bO, bP, bQ, bR, bS, bT, bU, bV, bW, bX, bY, bZ, cA, cB, cC, cD, cE, cF, cG, cH, cI, cJ, cK, cL, cM, cN, cO, cP, cQ, cR, cS, cT, cU, cW, cX, cY, cZ, dA, dB, dC, dD, dE, dF, dG, dH, dI, dJ, dL, dM, dN, dO, dP, dQ, dR, dS, dT, dU, dV, dW, dX, dY, dZ, eA, eB, eC, eE, eG, eH, eI, eJ, eK, eL, eM, eN, eO, eP, aA, eQ, eR, eS, eT, eU, eV, eW, eX, eY, eZ, fA, fB, fC, fE, fF, fG, fH, fI, fJ, fK, fL, fM, fN, fO, fP, fQ, fR, fS, fT, fU, fV, fW, fX, fY, Res.bind_ex, Res.bind_no, fZ, gA, Res.st_ex, Res.st_no, gB, gC, gD, gE, gF, gG, gH, gI, gJ, gK, List.set_cons_zero, List.set_cons_succ, List.length_cons, List.length_nil, List.map_cons, List.map_nil, List.replicate, List.cons_append, List.nil_append, Nat.reduceSub, Nat.reduceAdd, Nat.reduceLT, List.append_nil, if_true, if_false, Bool.false_eq_true, ite_true, ite_false, decide_true, decide_false, Bool.not_true, Bool.not_false, gL, gM, gN, gO, gP, gQ, gR, gS, gT, gU, gV, gW, gX, gY, gZ, hA, hC, hE, hI, hJ, hU, hW, hX, hZ, iA, iB, iC, iD, iE, iF, iG, iH, iI, iJ, iK, iL, iM, iN, iO, iP, iQ, iR, iS, iT, iU, iV, iW, iX, iY, iZ, jA, jB, jC, jD, e1, e2, l1, l2, q, rep_0 (p := p) (show n ≤ 1000000 by omega), srcEn_tv, eo, hc, gc_app1 (bel_tv m.length (lmul a b))]
theorem last_tv (l : List (Zp p)) (a : Zp p) : opIdx m (tv (l ++ [a])) (.int (-1)) = .ok (.int (zr a)) m := by
  have e : nvs (l ++ [a]) = nvs l ++ [.int (zr a)] := by simp [nvs_def]
  show opIdx m (.tup (nvs (l ++ [a]))) (.int (-1)) = _
  rw [e]
  exact idx_tup_last _ _
theorem is_plain_line_ok {i : Nat} (h : At.is_plain_line ds i) {l : List (Zp p)} (hc : Cut l) (hl : l.length ≤ 200) : callF ds (k + 5) i [.int p, tv l] m = .ok (.bl true) m := by
  obtain ⟨N, c, x, hN, h, h1⟩ := h
  rw [call_at hN h]
  have e := are_numbers_z (k := k) (m := m) h1 l 0 200 (Nat.le_trans hl (by decide))
  rw [decide_eq_true (show (0 : Int) ≤ l.length by omega), decide_eq_true (show (l.length : Int) ≤ 200 by omega)] at e
  have e2 := eq_nil_tv (m := m) l (by omega)
  rcases List.eq_nil_or_concat l with rfl | ⟨l', a, el⟩
  · rw [decide_eq_true rfl] at e2
    simp only [B.is_plain_line, aB, aC, aD, aE, aF, aG, aH, aI, aJ, aK, aL, aM, aN, aO, aP, aQ, aR, aS, aT, aU, aV, aW, aX, aY, aZ, bA, bB, bC, bD, bE, bF, bG, bH, bI, bJ, bK, bL, bM, bN, bO, bP, bQ, bR, bS, bT, bU, bV, bW, bX, bY, bZ, cA, cB, cC, cD, cE, cF, cG, cH, cI, cJ, cK, cL, cM, cN, cO, cP, cQ, cR, cS, cT, cU, cW, cX, cY, cZ, dA, dB, dC, dD, dE, dF, dG, dH, dI, dJ, dL, dM, dN, dO, dP, dQ, dR, dS, dT, dU, dV, dW, dX, dY, dZ, eA, eB, eC, eE, eG, eH, eI, eJ, eK, eL, eM, eN, eO, eP, aA, eQ, eR, eS, eT, eU, eV, eW, eX, eY, eZ, fA, fB, fC, fE, fF, fG, fH, fI, fJ, fK, fL, fM, fN, fO, fP, fQ, fR, fS, fT, fU, fV, fW, fX, fY, Res.bind_ex, Res.bind_no, fZ, gA, Res.st_ex, Res.st_no, gB, gC, gD, gE, gF, gG, gH, gI, gJ, gK, List.set_cons_zero, List.set_cons_succ, List.length_cons, List.length_nil, List.map_cons, List.map_nil, List.replicate, List.cons_append, List.nil_append, Nat.reduceSub, Nat.reduceAdd, Nat.reduceLT, List.append_nil, if_true, if_false, Bool.false_eq_true, ite_true, ite_false, decide_true, decide_false, Bool.not_true, Bool.not_false, gL, gM, gN, gO, gP, gQ, gR, gS, gT, gU, gV, gW, gX, gY, gZ, hA, hC, hE, hI, hJ, hU, hW, hX, hZ, iA, iB, iC, iD, iE, iF, iG, iH, iI, iJ, iK, iL, iM, iN, iO, iP, iQ, iR, iS, iT, iU, iV, iW, iX, iY, iZ, jA, jB, jC, jD, e, e2, aA, Bool.and_true]
  · rw [List.concat_eq_append] at el
    subst el
    rw [decide_eq_false (by simp)] at e2
    have d : decide (zr a = 0) = false := decide_eq_false fun z => hc a (by simp) (zr_eq0.mp z)
    simp only [B.is_plain_line, aB, aC, aD, aE, aF, aG, aH, aI, aJ, aK, aL, aM, aN, aO, aP, aQ, aR, aS, aT, aU, aV, aW, aX, aY, aZ, bA, bB, bC, bD, bE, bF, bG, bH, bI, bJ, bK, bL, bM, bN, bO, bP, bQ, bR, bS, bT, bU, bV, bW, bX, bY, bZ, cA, cB, cC, cD, cE, cF, cG, cH, cI, cJ, cK, cL, cM, cN, cO, cP, cQ, cR, cS, cT, cU, cW, cX, cY, cZ, dA, dB, dC, dD, dE, dF, dG, dH, dI, dJ, dL, dM, dN, dO, dP, dQ, dR, dS, dT, dU, dV, dW, dX, dY, dZ, eA, eB, eC, eE, eG, eH, eI, eJ, eK, eL, eM, eN, eO, eP, aA, eQ, eR, eS, eT, eU, eV, eW, eX, eY, eZ, fA, fB, fC, fE, fF, fG, fH, fI, fJ, fK, fL, fM, fN, fO, fP, fQ, fR, fS, fT, fU, fV, fW, fX, fY, Res.bind_ex, Res.bind_no, fZ, gA, Res.st_ex, Res.st_no, gB, gC, gD, gE, gF, gG, gH, gI, gJ, gK, List.set_cons_zero, List.set_cons_succ, List.length_cons, List.length_nil, List.map_cons, List.map_nil, List.replicate, List.cons_append, List.nil_append, Nat.reduceSub, Nat.reduceAdd, Nat.reduceLT, List.append_nil, if_true, if_false, Bool.false_eq_true, ite_true, ite_false, decide_true, decide_false, Bool.not_true, Bool.not_false, gL, gM, gN, gO, gP, gQ, gR, gS, gT, gU, gV, gW, gX, gY, gZ, hA, hC, hE, hI, hJ, hU, hW, hX, hZ, iA, iB, iC, iD, iE, iF, iG, iH, iI, iJ, iK, iL, iM, iN, iO, iP, iQ, iR, iS, iT, iU, iV, iW, iX, iY, iZ, jA, jB, jC, jD, e, e2, last_tv, d, aA, Bool.and_true]
theorem need_line_ok {i : Nat} (h : At.need_line ds i) {l : List (Zp p)} (hc : Cut l) (hl : l.length ≤ 200) : callF ds (k + 6) i [.int p, tv l] m = .ok .non m := by
  obtain ⟨N, c, hN, h, h1⟩ := h
  rw [call_at hN h]
  simp only [B.need_line, aB, aC, aD, aE, aF, aG, aH, aI, aJ, aK, aL, aM, aN, aO, aP, aQ, aR, aS, aT, aU, aV, aW, aX, aY, aZ, bA, bB, bC, bD, bE, bF, bG, bH, bI, bJ, bK, bL, bM, bN, bO, bP, bQ, bR, bS, bT, bU, bV, bW, bX, bY, bZ, cA, cB, cC, cD, cE, cF, cG, cH, cI, cJ, cK, cL, cM, cN, cO, cP, cQ, cR, cS, cT, cU, cW, cX, cY, cZ, dA, dB, dC, dD, dE, dF, dG, dH, dI, dJ, dL, dM, dN, dO, dP, dQ, dR, dS, dT, dU, dV, dW, dX, dY, dZ, eA, eB, eC, eE, eG, eH, eI, eJ, eK, eL, eM, eN, eO, eP, aA, eQ, eR, eS, eT, eU, eV, eW, eX, eY, eZ, fA, fB, fC, fE, fF, fG, fH, fI, fJ, fK, fL, fM, fN, fO, fP, fQ, fR, fS, fT, fU, fV, fW, fX, fY, Res.bind_ex, Res.bind_no, fZ, gA, Res.st_ex, Res.st_no, gB, gC, gD, gE, gF, gG, gH, gI, gJ, gK, List.set_cons_zero, List.set_cons_succ, List.length_cons, List.length_nil, List.map_cons, List.map_nil, List.replicate, List.cons_append, List.nil_append, Nat.reduceSub, Nat.reduceAdd, Nat.reduceLT, List.append_nil, if_true, if_false, Bool.false_eq_true, ite_true, ite_false, decide_true, decide_false, Bool.not_true, Bool.not_false, gL, gM, gN, gO, gP, gQ, gR, gS, gT, gU, gV, gW, gX, gY, gZ, hA, hC, hE, hI, hJ, hU, hW, hX, hZ, iA, iB, iC, iD, iE, iF, iG, iH, iI, iJ, iK, iL, iM, iN, iO, iP, iQ, iR, iS, iT, iU, iV, iW, iX, iY, iZ, jA, jB, jC, jD, is_plain_line_ok h1 hc hl, aA]
theorem law_line_ok {i : Nat} (h : At._law_line ds i) {ns : List Int} {x : Ob} (hx : Row ns x) {most : Nat} (hm : most ≤ 1000) :
    ∃ (l : List (Zp p)) (x' : Ob), callF ds (k + 4) i [.loc 0, .int p, .int most] (x :: rest) = .ok (tv l) (x' :: rest) ∧ Row ns x' ∧ Cut l ∧ l.length ≤ most := by
  obtain ⟨N, c1, c2, c3, hN, h, h1, h2, h3⟩ := h
  obtain ⟨n, x1, e1, r1, hn⟩ := law_taken_ok (k := k + 2) (rest := rest) h1 hx (many := ((most + 1 : Nat) : Int)) (by omega) (by omega)
  obtain ⟨l, x2, e2, r2, hl⟩ := law_numbers_z (k := k) (rest := rest) (p := p) h2 r1 (n := n) (by omega)
  have e3 := law_cut_ok (k := k + 2) (m := x2 :: rest) h3 (isq_t (nvs l)) (by omega)
  refine ⟨cutz l, x2, ?_, r2, cutz_cut l, by have := cutz_len l; omega⟩
  rw [call_at hN h]
  have q : (most : Int) + 1 = ((most + 1 : Nat) : Int) := by omega
  simp only [B._law_line, aB, aC, aD, aE, aF, aG, aH, aI, aJ, aK, aL, aM, aN, aO, aP, aQ, aR, aS, aT, aU, aV, aW, aX, aY, aZ, bA, bB, bC, bD, bE, bF, bG, bH, bI, bJ, bK, bL, bM, bN, bO, bP, bQ, bR, bS, bT, bU, bV, bW, bX, bY, bZ, cA, cB, cC, cD, cE, cF, cG, cH, cI, cJ, cK, cL, cM, cN, cO, cP, cQ, cR, cS, cT, cU, cW, cX, cY, cZ, dA, dB, dC, dD, dE, dF, dG, dH, dI, dJ, dL, dM, dN, dO, dP, dQ, dR, dS, dT, dU, dV, dW, dX, dY, dZ, eA, eB, eC, eE, eG, eH, eI, eJ, eK, eL, eM, eN, eO, eP, aA, eQ, eR, eS, eT, eU, eV, eW, eX, eY, eZ, fA, fB, fC, fE, fF, fG, fH, fI, fJ, fK, fL, fM, fN, fO, fP, fQ, fR, fS, fT, fU, fV, fW, fX, fY, Res.bind_ex, Res.bind_no, fZ, gA, Res.st_ex, Res.st_no, gB, gC, gD, gE, gF, gG, gH, gI, gJ, gK, List.set_cons_zero, List.set_cons_succ, List.length_cons, List.length_nil, List.map_cons, List.map_nil, List.replicate, List.cons_append, List.nil_append, Nat.reduceSub, Nat.reduceAdd, Nat.reduceLT, List.append_nil, if_true, if_false, Bool.false_eq_true, ite_true, ite_false, decide_true, decide_false, Bool.not_true, Bool.not_false, gL, gM, gN, gO, gP, gQ, gR, gS, gT, gU, gV, gW, gX, gY, gZ, hA, hC, hE, hI, hJ, hU, hW, hX, hZ, iA, iB, iC, iD, iE, iF, iG, iH, iI, iJ, iK, iL, iM, iN, iO, iP, iQ, iR, iS, iT, iU, iV, iW, iX, iY, iZ, jA, jB, jC, jD, q, e1, e2, e3, gcP_row]
end
end Px
set_option Elab.async false
set_option linter.all false
set_option maxRecDepth 100000
set_option maxHeartbeats 2000000
namespace Px
open PySem Mz
def B.at (c_need_prime c_need_line c_need_number c_at_place : Nat) : List St := [
  .ex (.call c_need_prime [.var 0, .int 5]),
  .ex (.call c_need_line [.var 0, .var 1]),
  .ex (.call c_need_number [.var 0, .var 2]),
  .ret (some (.call c_at_place [.var 0, .var 1, .var 2]))]
def At.at (ds : List Def) (i : Nat) : Prop := ∃ (N : List Str), ∃ (c_need_prime c_need_line c_need_number c_at_place : Nat), N.length = 3 ∧ ds[i]? = some ⟨N, 3, B.at c_need_prime c_need_line c_need_number c_at_place⟩ ∧ At.need_prime ds c_need_prime ∧ At.need_line ds c_need_line ∧ At.need_number ds c_need_number ∧ At.at_place ds c_at_place
def B.plus (c_need_two c_sum_of_lines : Nat) : List St := [
  .ex (.call c_need_two [.var 0, .var 1, .var 2]),
  .ret (some (.call c_sum_of_lines [.var 0, .var 1, .var 2]))]
def At.plus (ds : List Def) (i : Nat) : Prop := ∃ (N : List Str), ∃ (c_need_two c_sum_of_lines : Nat), N.length = 3 ∧ ds[i]? = some ⟨N, 3, B.plus c_need_two c_sum_of_lines⟩ ∧ At.need_two ds c_need_two ∧ At.sum_of_lines ds c_sum_of_lines
def B.minus (c_need_two c_times_number c_sum_of_lines : Nat) : List St := [
  .ex (.call c_need_two [.var 0, .var 1, .var 2]),
  .ret (some (.call c_sum_of_lines [.var 0, .var 1, .call c_times_number [.var 0, .var 2, .bin .sub (.var 0) (.int 1)]]))]
def At.minus (ds : List Def) (i : Nat) : Prop := ∃ (N : List Str), ∃ (c_need_two c_times_number c_sum_of_lines : Nat), N.length = 3 ∧ ds[i]? = some ⟨N, 3, B.minus c_need_two c_times_number c_sum_of_lines⟩ ∧ At.need_two ds c_need_two ∧ At.times_number ds c_times_number ∧ At.sum_of_lines ds c_sum_of_lines
def B.short (x_MOST_NUMBERS : Str) : List St := [
  .iff (.cmp .gt (.bf .len [.var 0]) (.gl x_MOST_NUMBERS (PV.int 200))) [.rai "" []] [],
  .ret (some (.var 0))]
def At.short (ds : List Def) (i : Nat) : Prop := ∃ (N : List Str), ∃ (x_MOST_NUMBERS : Str), N.length = 1 ∧ ds[i]? = some ⟨N, 1, B.short x_MOST_NUMBERS⟩
def B.times (c_need_two c_product_of_lines c_short : Nat) : List St := [
  .ex (.call c_need_two [.var 0, .var 1, .var 2]),
  .ret (some (.call c_short [.call c_product_of_lines [.var 0, .var 1, .var 2]]))]
def At.times (ds : List Def) (i : Nat) : Prop := ∃ (N : List Str), ∃ (c_need_two c_product_of_lines c_short : Nat), N.length = 3 ∧ ds[i]? = some ⟨N, 3, B.times c_need_two c_product_of_lines c_short⟩ ∧ At.need_two ds c_need_two ∧ At.product_of_lines ds c_product_of_lines ∧ At.short ds c_short
section
variable {ds : List Def} {k : Nat} {m rest : Mem} {p : Nat} [hp : PrL p]
theorem at_ok {i : Nat} (h : At.at ds i) {l : List (Zp p)} (hc : Cut l) (hl : l.length ≤ 200) (x : Zp p) : callF ds (k + 7) i [.int p, tv l, .int (zr x)] m = .ok (.int (zr (pev l x))) m := by
  obtain ⟨N, c1, c2, c3, c4, hN, h, h1, h2, h3, h4⟩ := h
  rw [call_at hN h]
  simp only [B.at, aB, aC, aD, aE, aF, aG, aH, aI, aJ, aK, aL, aM, aN, aO, aP, aQ, aR, aS, aT, aU, aV, aW, aX, aY, aZ, bA, bB, bC, bD, bE, bF, bG, bH, bI, bJ, bK, bL, bM, bN, bO, bP, bQ, bR, bS, bT, bU, bV, bW, bX, bY, bZ, cA, cB, cC, cD, cE, cF, cG, cH, cI, cJ, cK, cL, cM, cN, cO, cP, cQ, cR, cS, cT, cU, cW, cX, cY, cZ, dA, dB, dC, dD, dE, dF, dG, dH, dI, dJ, dL, dM, dN, dO, dP, dQ, dR, dS, dT, dU, dV, dW, dX, dY, dZ, eA, eB, eC, eE, eG, eH, eI, eJ, eK, eL, eM, eN, eO, eP, aA, eQ, eR, eS, eT, eU, eV, eW, eX, eY, eZ, fA, fB, fC, fE, fF, fG, fH, fI, fJ, fK, fL, fM, fN, fO, fP, fQ, fR, fS, fT, fU, fV, fW, fX, fY, Res.bind_ex, Res.bind_no, fZ, gA, Res.st_ex, Res.st_no, gB, gC, gD, gE, gF, gG, gH, gI, gJ, gK, List.set_cons_zero, List.set_cons_succ, List.length_cons, List.length_nil, List.map_cons, List.map_nil, List.replicate, List.cons_append, List.nil_append, Nat.reduceSub, Nat.reduceAdd, Nat.reduceLT, List.append_nil, if_true, if_false, Bool.false_eq_true, ite_true, ite_false, decide_true, decide_false, Bool.not_true, Bool.not_false, gL, gM, gN, gO, gP, gQ, gR, gS, gT, gU, gV, gW, gX, gY, gZ, hA, hC, hE, hI, hJ, hU, hW, hX, hZ, iA, iB, iC, iD, iE, iF, iG, iH, iI, iJ, iK, iL, iM, iN, iO, iP, iQ, iR, iS, iT, iU, iV, iW, iX, iY, iZ, jA, jB, jC, jD, need_prime_5 (k := k + 2) h1, need_line_ok h2 hc hl, need_number_z (k := k + 2) h3, at_place_ok (k := k + 5) h4 (isq_t (nvs l)), aA]
theorem lsc_len (c : Zp p) (b : List (Zp p)) : (lsc c b).length ≤ b.length := Nat.le_trans (cutz_len _) (by simp [psc])
end
end Px
set_option Elab.async false
set_option linter.all false
set_option maxRecDepth 100000
set_option maxHeartbeats 2000000
namespace Px
open PySem Mz
section
variable {ds : List Def} {k : Nat} {m rest : Mem} {p : Nat} [hp : PrL p]
theorem cut_last {b : List (Zp p)} (hb : Cut b) (hn : b ≠ []) : ∃ b' lead, b = b' ++ [lead] ∧ lead ≠ 0 ∧ b.getD (b.length - 1) 0 = lead := by
  rcases List.eq_nil_or_concat b with rfl | ⟨b', a, el⟩
  · exact absurd rfl hn
  · rw [List.concat_eq_append] at el
    subst el
    refine ⟨b', a, rfl, hb a (by simp), ?_⟩
    rw [List.length_append, List.length_singleton, Nat.add_sub_cancel, getD_snoc, if_pos rfl]
end
end Px
set_option Elab.async false
set_option linter.all false
set_option maxRecDepth 100000
set_option maxHeartbeats 1000000
namespace Px
open PySem Mz
def B.need_many (c_is_from : Nat) : List St := [
  .iff (.not_ (.call c_is_from [.var 0, .int 0, .var 1])) [.rai "" []] []]
def At.need_many (ds : List Def) (i : Nat) : Prop := ∃ (N : List Str), ∃ (c_is_from : Nat), N.length = 2 ∧ ds[i]? = some ⟨N, 2, B.need_many c_is_from⟩ ∧ At.is_from ds c_is_from
def B.is_place (c_is_from c_is_number : Nat) : List St := [
  .iff (.or_ (.not_ (.bf .isi [.var 2, .ty "tuple"])) (.cmp .ne (.bf .len [.var 2]) (.int 2))) [.ret (some (.bl false))] [],
  .iff (.cmp .eq (.idx (.var 2) (.int 0)) (.str "name")) [.ret (some (.call c_is_from [.idx (.var 2) (.int 1), .int 0, .bin .sub (.var 1) (.int 1)]))] [],
  .ret (some (.and_ (.cmp .eq (.idx (.var 2) (.int 0)) (.str "number")) (.call c_is_number [.var 0, .idx (.var 2) (.int 1)])))]
def At.is_place (ds : List Def) (i : Nat) : Prop := ∃ (N : List Str), ∃ (c_is_from c_is_number : Nat), N.length = 3 ∧ ds[i]? = some ⟨N, 3, B.is_place c_is_from c_is_number⟩ ∧ At.is_from ds c_is_from ∧ At.is_number ds c_is_number
def B.is_leaf (c_is_place c_is_plain_table c_names_in : Nat) : List St := [
  .iff (.cmp .inn (.idx (.var 2) (.int 0)) (.tup [.str "number", .str "name"])) [.ret (some (.call c_is_place [.var 0, .var 1, .var 2]))] [],
  .iff (.or_ (.cmp .ne (.idx (.var 2) (.int 0)) (.str "table")) (.or_ (.cmp .ne (.bf .len [.var 2]) (.int 3)) (.or_ (.not_ (.call c_is_plain_table [.var 0, .idx (.var 2) (.int 1)])) (.not_ (.bf .isi [.idx (.var 2) (.int 2), .ty "tuple"]))))) [.ret (some (.bl false))] [],
  .ret (some (.and_ (.cmp .eq (.bf .len [.idx (.var 2) (.int 2)]) (.call c_names_in [.idx (.var 2) (.int 1)])) (.bf .all [.pl (.cp [3] (.nm 3) (.sq (.idx (.var 2) (.int 2))) none (.call c_is_place [.var 0, .var 1, .var 3]))])))]
def At.is_leaf (ds : List Def) (i : Nat) : Prop := ∃ (N : List Str), ∃ (c_is_place c_is_plain_table c_names_in : Nat), N.length = 4 ∧ ds[i]? = some ⟨N, 3, B.is_leaf c_is_place c_is_plain_table c_names_in⟩ ∧ At.is_place ds c_is_place ∧ At.is_plain_table ds c_is_plain_table ∧ At.names_in ds c_names_in
def B.is_plain_rule (c_is_leaf : Nat) (x_MOST_WORDS x_MOST_DEPTH x_JOINS : Str) : List St := [
  .par [3, 4] [.ml (.dsp [.tup [.var 2, .int 1]]), .int 0],
  .whl (.cmp .ne (.var 3) (.pl (.dsp []))) [.asg (.tp [.nm 5, .nm 6]) (.mt .pop (.var 3) []), .aug 4 .add (.int 1), .iff (.or_ (.cmp .gt (.var 4) (.gl x_MOST_WORDS (PV.int 2000))) (.cmp .gt (.var 6) (.gl x_MOST_DEPTH (PV.int 400)))) [.ret (some (.bl false))] [], .iff (.or_ (.not_ (.bf .isi [.var 5, .ty "tuple"])) (.or_ (.cmp .eq (.var 5) (.tup [])) (.not_ (.bf .isi [.idx (.var 5) (.int 0), .ty "str"])))) [.ret (some (.bl false))] [], .iff (.cmp .inn (.idx (.var 5) (.int 0)) (.gl x_JOINS (PV.tup [PV.str "plus", PV.str "minus", PV.str "times"]))) [.iff (.cmp .ne (.bf .len [.var 5]) (.int 3)) [.ret (some (.bl false))] [], .ex (.mt .append (.var 3) [.tup [.idx (.var 5) (.int 1), .bin .add (.var 6) (.int 1)]]), .ex (.mt .append (.var 3) [.tup [.idx (.var 5) (.int 2), .bin .add (.var 6) (.int 1)]])] [.iff (.not_ (.call c_is_leaf [.var 0, .var 1, .var 5])) [.ret (some (.bl false))] []]],
  .ret (some (.bl true))]
def At.is_plain_rule (ds : List Def) (i : Nat) : Prop := ∃ (N : List Str), ∃ (c_is_leaf : Nat), ∃ (x_MOST_WORDS x_MOST_DEPTH x_JOINS : Str), N.length = 7 ∧ ds[i]? = some ⟨N, 3, B.is_plain_rule c_is_leaf x_MOST_WORDS x_MOST_DEPTH x_JOINS⟩ ∧ At.is_leaf ds c_is_leaf
def B.need_rule (c_is_plain_rule : Nat) : List St := [
  .iff (.not_ (.call c_is_plain_rule [.var 0, .var 1, .var 2])) [.rai "" []] []]
def At.need_rule (ds : List Def) (i : Nat) : Prop := ∃ (N : List Str), ∃ (c_is_plain_rule : Nat), N.length = 3 ∧ ds[i]? = some ⟨N, 3, B.need_rule c_is_plain_rule⟩ ∧ At.is_plain_rule ds c_is_plain_rule
def B.place_at : List St := [
  .ret (some (.ite (.cmp .eq (.idx (.var 0) (.int 0)) (.str "number")) (.idx (.var 0) (.int 1)) (.idx (.var 1) (.idx (.var 0) (.int 1)))))]
def At.place_at (ds : List Def) (i : Nat) : Prop := ∃ (N : List Str), N.length = 2 ∧ ds[i]? = some ⟨N, 2, B.place_at⟩
def B.value_at (c_place_at c_spread_at c_value_at : Nat) : List St := [
  .asg (.nm 3) (.idx (.var 1) (.int 0)),
  .iff (.or_ (.cmp .eq (.var 3) (.str "number")) (.cmp .eq (.var 3) (.str "name"))) [.ret (some (.call c_place_at [.var 1, .var 2]))] [],
  .iff (.cmp .eq (.var 3) (.str "table")) [.ret (some (.call c_spread_at [.var 0, .idx (.var 1) (.int 1), .pl (.cp [4] (.nm 4) (.sq (.idx (.var 1) (.int 2))) none (.call c_place_at [.var 4, .var 2]))]))] [],
  .par [5, 6] [.call c_value_at [.var 0, .idx (.var 1) (.int 1), .var 2], .call c_value_at [.var 0, .idx (.var 1) (.int 2), .var 2]],
  .iff (.cmp .eq (.var 3) (.str "times")) [.ret (some (.bin .mod (.bin .mul (.var 5) (.var 6)) (.var 0)))] [],
  .ret (some (.ite (.cmp .eq (.var 3) (.str "plus")) (.bin .mod (.bin .add (.var 5) (.var 6)) (.var 0)) (.bin .mod (.bin .sub (.var 5) (.var 6)) (.var 0))))]
def At.value_at (ds : List Def) (i : Nat) : Prop := ∃ (N : List Str), ∃ (c_place_at c_spread_at : Nat), N.length = 7 ∧ ds[i]? = some ⟨N, 3, B.value_at c_place_at c_spread_at i⟩ ∧ At.place_at ds c_place_at ∧ At.spread_at ds c_spread_at
def B.value (c_need_prime c_need_many c_need_rule c_need_point c_value_at : Nat) (x_MOST_RULE_NAMES : Str) : List St := [
  .ex (.call c_need_prime [.var 0, .int 5]),
  .ex (.call c_need_many [.var 1, .gl x_MOST_RULE_NAMES (PV.int 24)]),
  .ex (.call c_need_rule [.var 0, .var 1, .var 2]),
  .ex (.call c_need_point [.var 0, .var 3, .var 1]),
  .ret (some (.call c_value_at [.var 0, .var 2, .var 3]))]
def At.value (ds : List Def) (i : Nat) : Prop := ∃ (N : List Str), ∃ (c_need_prime c_need_many c_need_rule c_need_point c_value_at : Nat), ∃ (x_MOST_RULE_NAMES : Str), N.length = 4 ∧ ds[i]? = some ⟨N, 4, B.value c_need_prime c_need_many c_need_rule c_need_point c_value_at x_MOST_RULE_NAMES⟩ ∧ At.need_prime ds c_need_prime ∧ At.need_many ds c_need_many ∧ At.need_rule ds c_need_rule ∧ At.need_point ds c_need_point ∧ At.value_at ds c_value_at
def B.replaced (c_replaced : Nat) (x_JOINS : Str) : List St := [
  .asg (.nm 3) (.idx (.var 0) (.int 0)),
  .iff (.cmp .inn (.var 3) (.gl x_JOINS (PV.tup [PV.str "plus", PV.str "minus", PV.str "times"]))) [.ret (some (.tup [.var 3, .call c_replaced [.idx (.var 0) (.int 1), .var 1, .var 2], .call c_replaced [.idx (.var 0) (.int 2), .var 1, .var 2]]))] [],
  .iff (.cmp .eq (.var 3) (.str "table")) [.ret (some (.tup [.var 3, .idx (.var 0) (.int 1), .bf .tuple [.pl (.cp [4] (.nm 4) (.sq (.idx (.var 0) (.int 2))) none (.call c_replaced [.var 4, .var 1, .var 2]))]]))] [],
  .ret (some (.ite (.cmp .eq (.var 0) (.tup [.str "name", .var 1])) (.tup [.str "number", .var 2]) (.var 0)))]
def At.replaced (ds : List Def) (i : Nat) : Prop := ∃ (N : List Str), ∃ (x_JOINS : Str), N.length = 5 ∧ ds[i]? = some ⟨N, 3, B.replaced i x_JOINS⟩
def B.put (c_need_prime c_need_many c_need_rule c_is_from c_need_number c_replaced : Nat) (x_MOST_RULE_NAMES : Str) : List St := [
  .ex (.call c_need_prime [.var 0, .int 5]),
  .ex (.call c_need_many [.var 1, .gl x_MOST_RULE_NAMES (PV.int 24)]),
  .ex (.call c_need_rule [.var 0, .var 1, .var 2]),
  .iff (.not_ (.call c_is_from [.var 3, .int 0, .bin .sub (.var 1) (.int 1)])) [.rai "" []] [],
  .ex (.call c_need_number [.var 0, .var 4]),
  .ret (some (.call c_replaced [.var 2, .var 3, .var 4]))]
def At.put (ds : List Def) (i : Nat) : Prop := ∃ (N : List Str), ∃ (c_need_prime c_need_many c_need_rule c_is_from c_need_number c_replaced : Nat), ∃ (x_MOST_RULE_NAMES : Str), N.length = 5 ∧ ds[i]? = some ⟨N, 5, B.put c_need_prime c_need_many c_need_rule c_is_from c_need_number c_replaced x_MOST_RULE_NAMES⟩ ∧ At.need_prime ds c_need_prime ∧ At.need_many ds c_need_many ∧ At.need_rule ds c_need_rule ∧ At.is_from ds c_is_from ∧ At.need_number ds c_need_number ∧ At.replaced ds c_replaced
def B._law_part (c__law_taken c__law_number c__law_pick c__law_table : Nat) : List St := [
  .asg (.nm 3) (.call c__law_taken [.var 0, .int 4]),
  .iff (.or_ (.cmp .eq (.var 3) (.int 0)) (.cmp .eq (.var 2) (.int 0))) [.ret (some (.tup [.str "number", .call c__law_number [.var 0, .var 1]]))] [],
  .iff (.cmp .lt (.var 3) (.int 3)) [.ret (some (.tup [.str "name", .call c__law_taken [.var 0, .var 2]]))] [],
  .asg (.nm 4) (.call c__law_taken [.var 0, .int 3]),
  .asg (.nm 5) (.ml (.dsp [])),
  .for_ (.nm 6) (.rg1 (.var 4)) [.ex (.mt .append (.var 5) [.call c__law_pick [.var 0, .pl (.dsp [.tup [.str "name", .call c__law_taken [.var 0, .var 2]], .tup [.str "name", .call c__law_taken [.var 0, .var 2]], .tup [.str "number", .call c__law_number [.var 0, .var 1]]])]])],
  .ret (some (.tup [.str "table", .call c__law_table [.var 0, .var 1, .var 4], .bf .tuple [.var 5]]))]
def At._law_part (ds : List Def) (i : Nat) : Prop := ∃ (N : List Str), ∃ (c__law_taken c__law_number c__law_pick c__law_table : Nat), N.length = 7 ∧ ds[i]? = some ⟨N, 3, B._law_part c__law_taken c__law_number c__law_pick c__law_table⟩ ∧ At._law_taken ds c__law_taken ∧ At._law_number ds c__law_number ∧ At._law_pick ds c__law_pick ∧ At._law_table ds c__law_table
def B._law_value (c__law_value c__law_spread : Nat) : List St := [
  .iff (.cmp .eq (.idx (.var 1) (.int 0)) (.str "number")) [.ret (some (.idx (.var 1) (.int 1)))] [],
  .iff (.cmp .eq (.idx (.var 1) (.int 0)) (.str "name")) [.ret (some (.idx (.var 2) (.idx (.var 1) (.int 1))))] [],
  .iff (.cmp .eq (.idx (.var 1) (.int 0)) (.str "table")) [.ret (some (.call c__law_spread [.var 0, .idx (.var 1) (.int 1), .pl (.cp [3] (.nm 3) (.sq (.idx (.var 1) (.int 2))) none (.call c__law_value [.var 0, .var 3, .var 2]))]))] [],
  .par [4, 5] [.call c__law_value [.var 0, .idx (.var 1) (.int 1), .var 2], .call c__law_value [.var 0, .idx (.var 1) (.int 2), .var 2]],
  .ret (some (.bin .mod (.ite (.cmp .eq (.idx (.var 1) (.int 0)) (.str "plus")) (.bin .add (.var 4) (.var 5)) (.ite (.cmp .eq (.idx (.var 1) (.int 0)) (.str "minus")) (.bin .sub (.var 4) (.var 5)) (.bin .mul (.var 4) (.var 5)))) (.var 0)))]
def At._law_value (ds : List Def) (i : Nat) : Prop := ∃ (N : List Str), ∃ (c__law_spread : Nat), N.length = 6 ∧ ds[i]? = some ⟨N, 3, B._law_value i c__law_spread⟩ ∧ At._law_spread ds c__law_spread
theorem okd_w (d : Nat) (s : Str) (h : (PyData.strOk s && decide (s.length ≤ LINE)) = true) : (PV.str s).okd d = true := by simp only [PV.okd]; exact h
theorem eqw_f {m : Mem} {a b : Str} (ha : (PyData.strOk a && decide (a.length ≤ LINE)) = true) (hb : (PyData.strOk b && decide (b.length ≤ LINE)) = true) : opCmp m .eq (.str a) (.str b) = .ok (.bl (decide (a = b))) m := by
  rw [eq_okd (okd_w 64 a ha) (okd_w 64 b hb)]; simp only [dOf, PyData.eqv]; congr 2
theorem new_f {m : Mem} {a b : Str} (ha : (PyData.strOk a && decide (a.length ≤ LINE)) = true) (hb : (PyData.strOk b && decide (b.length ≤ LINE)) = true) : opCmp m .ne (.str a) (.str b) = .ok (.bl (!decide (a = b))) m := by
  rw [ne_okd (okd_w 64 a ha) (okd_w 64 b hb)]; simp only [dOf, PyData.eqv]; congr 3
theorem wok_plus : (PyData.strOk "plus" && decide (("plus" : Str).length ≤ LINE)) = true := by decide +kernel
theorem wok_minus : (PyData.strOk "minus" && decide (("minus" : Str).length ≤ LINE)) = true := by decide +kernel
theorem wok_times : (PyData.strOk "times" && decide (("times" : Str).length ≤ LINE)) = true := by decide +kernel
theorem wok_name : (PyData.strOk "name" && decide (("name" : Str).length ≤ LINE)) = true := by decide +kernel
theorem wok_number : (PyData.strOk "number" && decide (("number" : Str).length ≤ LINE)) = true := by decide +kernel
theorem wok_table : (PyData.strOk "table" && decide (("table" : Str).length ≤ LINE)) = true := by decide +kernel
theorem jE (m : Mem) : opCmp m .eq (.str "plus") (.str "plus") = .ok (.bl true) m := (eqw_f wok_plus wok_plus).trans (by rw [show decide (("plus" : Str) = "plus") = true from by decide +kernel])
theorem jF (m : Mem) : opCmp m .ne (.str "plus") (.str "plus") = .ok (.bl false) m := (new_f wok_plus wok_plus).trans (by rw [show decide (("plus" : Str) = "plus") = true from by decide +kernel]; rfl)
theorem jG (m : Mem) : opCmp m .eq (.str "plus") (.str "minus") = .ok (.bl false) m := (eqw_f wok_plus wok_minus).trans (by rw [show decide (("plus" : Str) = "minus") = false from by decide +kernel])
theorem jH (m : Mem) : opCmp m .ne (.str "plus") (.str "minus") = .ok (.bl true) m := (new_f wok_plus wok_minus).trans (by rw [show decide (("plus" : Str) = "minus") = false from by decide +kernel]; rfl)
theorem jI (m : Mem) : opCmp m .eq (.str "plus") (.str "times") = .ok (.bl false) m := (eqw_f wok_plus wok_times).trans (by rw [show decide (("plus" : Str) = "times") = false from by decide +kernel])
theorem jJ (m : Mem) : opCmp m .ne (.str "plus") (.str "times") = .ok (.bl true) m := (new_f wok_plus wok_times).trans (by rw [show decide (("plus" : Str) = "times") = false from by decide +kernel]; rfl)
theorem jK (m : Mem) : opCmp m .eq (.str "plus") (.str "name") = .ok (.bl false) m := (eqw_f wok_plus wok_name).trans (by rw [show decide (("plus" : Str) = "name") = false from by decide +kernel])
theorem jL (m : Mem) : opCmp m .ne (.str "plus") (.str "name") = .ok (.bl true) m := (new_f wok_plus wok_name).trans (by rw [show decide (("plus" : Str) = "name") = false from by decide +kernel]; rfl)
theorem jM (m : Mem) : opCmp m .eq (.str "plus") (.str "number") = .ok (.bl false) m := (eqw_f wok_plus wok_number).trans (by rw [show decide (("plus" : Str) = "number") = false from by decide +kernel])
theorem jN (m : Mem) : opCmp m .ne (.str "plus") (.str "number") = .ok (.bl true) m := (new_f wok_plus wok_number).trans (by rw [show decide (("plus" : Str) = "number") = false from by decide +kernel]; rfl)
theorem jO (m : Mem) : opCmp m .eq (.str "plus") (.str "table") = .ok (.bl false) m := (eqw_f wok_plus wok_table).trans (by rw [show decide (("plus" : Str) = "table") = false from by decide +kernel])
theorem jP (m : Mem) : opCmp m .ne (.str "plus") (.str "table") = .ok (.bl true) m := (new_f wok_plus wok_table).trans (by rw [show decide (("plus" : Str) = "table") = false from by decide +kernel]; rfl)
theorem jQ (m : Mem) : opCmp m .eq (.str "minus") (.str "plus") = .ok (.bl false) m := (eqw_f wok_minus wok_plus).trans (by rw [show decide (("minus" : Str) = "plus") = false from by decide +kernel])
theorem jR (m : Mem) : opCmp m .ne (.str "minus") (.str "plus") = .ok (.bl true) m := (new_f wok_minus wok_plus).trans (by rw [show decide (("minus" : Str) = "plus") = false from by decide +kernel]; rfl)
theorem jS (m : Mem) : opCmp m .eq (.str "minus") (.str "minus") = .ok (.bl true) m := (eqw_f wok_minus wok_minus).trans (by rw [show decide (("minus" : Str) = "minus") = true from by decide +kernel])
theorem jT (m : Mem) : opCmp m .ne (.str "minus") (.str "minus") = .ok (.bl false) m := (new_f wok_minus wok_minus).trans (by rw [show decide (("minus" : Str) = "minus") = true from by decide +kernel]; rfl)
theorem jU (m : Mem) : opCmp m .eq (.str "minus") (.str "times") = .ok (.bl false) m := (eqw_f wok_minus wok_times).trans (by rw [show decide (("minus" : Str) = "times") = false from by decide +kernel])
theorem jV (m : Mem) : opCmp m .ne (.str "minus") (.str "times") = .ok (.bl true) m := (new_f wok_minus wok_times).trans (by rw [show decide (("minus" : Str) = "times") = false from by decide +kernel]; rfl)
theorem jW (m : Mem) : opCmp m .eq (.str "minus") (.str "name") = .ok (.bl false) m := (eqw_f wok_minus wok_name).trans (by rw [show decide (("minus" : Str) = "name") = false from by decide +kernel])
theorem jX (m : Mem) : opCmp m .ne (.str "minus") (.str "name") = .ok (.bl true) m := (new_f wok_minus wok_name).trans (by rw [show decide (("minus" : Str) = "name") = false from by decide +kernel]; rfl)
theorem jY (m : Mem) : opCmp m .eq (.str "minus") (.str "number") = .ok (.bl false) m := (eqw_f wok_minus wok_number).trans (by rw [show decide (("minus" : Str) = "number") = false from by decide +kernel])
theorem jZ (m : Mem) : opCmp m .ne (.str "minus") (.str "number") = .ok (.bl true) m := (new_f wok_minus wok_number).trans (by rw [show decide (("minus" : Str) = "number") = false from by decide +kernel]; rfl)
theorem kA (m : Mem) : opCmp m .eq (.str "minus") (.str "table") = .ok (.bl false) m := (eqw_f wok_minus wok_table).trans (by rw [show decide (("minus" : Str) = "table") = false from by decide +kernel])
theorem kB (m : Mem) : opCmp m .ne (.str "minus") (.str "table") = .ok (.bl true) m := (new_f wok_minus wok_table).trans (by rw [show decide (("minus" : Str) = "table") = false from by decide +kernel]; rfl)
theorem kC (m : Mem) : opCmp m .eq (.str "times") (.str "plus") = .ok (.bl false) m := (eqw_f wok_times wok_plus).trans (by rw [show decide (("times" : Str) = "plus") = false from by decide +kernel])
theorem kD (m : Mem) : opCmp m .ne (.str "times") (.str "plus") = .ok (.bl true) m := (new_f wok_times wok_plus).trans (by rw [show decide (("times" : Str) = "plus") = false from by decide +kernel]; rfl)
theorem kE (m : Mem) : opCmp m .eq (.str "times") (.str "minus") = .ok (.bl false) m := (eqw_f wok_times wok_minus).trans (by rw [show decide (("times" : Str) = "minus") = false from by decide +kernel])
theorem kF (m : Mem) : opCmp m .ne (.str "times") (.str "minus") = .ok (.bl true) m := (new_f wok_times wok_minus).trans (by rw [show decide (("times" : Str) = "minus") = false from by decide +kernel]; rfl)
theorem kG (m : Mem) : opCmp m .eq (.str "times") (.str "times") = .ok (.bl true) m := (eqw_f wok_times wok_times).trans (by rw [show decide (("times" : Str) = "times") = true from by decide +kernel])
theorem kH (m : Mem) : opCmp m .ne (.str "times") (.str "times") = .ok (.bl false) m := (new_f wok_times wok_times).trans (by rw [show decide (("times" : Str) = "times") = true from by decide +kernel]; rfl)
theorem kI (m : Mem) : opCmp m .eq (.str "times") (.str "name") = .ok (.bl false) m := (eqw_f wok_times wok_name).trans (by rw [show decide (("times" : Str) = "name") = false from by decide +kernel])
theorem kJ (m : Mem) : opCmp m .ne (.str "times") (.str "name") = .ok (.bl true) m := (new_f wok_times wok_name).trans (by rw [show decide (("times" : Str) = "name") = false from by decide +kernel]; rfl)
theorem kK (m : Mem) : opCmp m .eq (.str "times") (.str "number") = .ok (.bl false) m := (eqw_f wok_times wok_number).trans (by rw [show decide (("times" : Str) = "number") = false from by decide +kernel])
theorem kL (m : Mem) : opCmp m .ne (.str "times") (.str "number") = .ok (.bl true) m := (new_f wok_times wok_number).trans (by rw [show decide (("times" : Str) = "number") = false from by decide +kernel]; rfl)
theorem kM (m : Mem) : opCmp m .eq (.str "times") (.str "table") = .ok (.bl false) m := (eqw_f wok_times wok_table).trans (by rw [show decide (("times" : Str) = "table") = false from by decide +kernel])
theorem kN (m : Mem) : opCmp m .ne (.str "times") (.str "table") = .ok (.bl true) m := (new_f wok_times wok_table).trans (by rw [show decide (("times" : Str) = "table") = false from by decide +kernel]; rfl)
theorem kO (m : Mem) : opCmp m .eq (.str "name") (.str "plus") = .ok (.bl false) m := (eqw_f wok_name wok_plus).trans (by rw [show decide (("name" : Str) = "plus") = false from by decide +kernel])
theorem kP (m : Mem) : opCmp m .ne (.str "name") (.str "plus") = .ok (.bl true) m := (new_f wok_name wok_plus).trans (by rw [show decide (("name" : Str) = "plus") = false from by decide +kernel]; rfl)
theorem kQ (m : Mem) : opCmp m .eq (.str "name") (.str "minus") = .ok (.bl false) m := (eqw_f wok_name wok_minus).trans (by rw [show decide (("name" : Str) = "minus") = false from by decide +kernel])
theorem kR (m : Mem) : opCmp m .ne (.str "name") (.str "minus") = .ok (.bl true) m := (new_f wok_name wok_minus).trans (by rw [show decide (("name" : Str) = "minus") = false from by decide +kernel]; rfl)
theorem kS (m : Mem) : opCmp m .eq (.str "name") (.str "times") = .ok (.bl false) m := (eqw_f wok_name wok_times).trans (by rw [show decide (("name" : Str) = "times") = false from by decide +kernel])
theorem kT (m : Mem) : opCmp m .ne (.str "name") (.str "times") = .ok (.bl true) m := (new_f wok_name wok_times).trans (by rw [show decide (("name" : Str) = "times") = false from by decide +kernel]; rfl)
theorem kU (m : Mem) : opCmp m .eq (.str "name") (.str "name") = .ok (.bl true) m := (eqw_f wok_name wok_name).trans (by rw [show decide (("name" : Str) = "name") = true from by decide +kernel])
theorem kW (m : Mem) : opCmp m .ne (.str "name") (.str "name") = .ok (.bl false) m := (new_f wok_name wok_name).trans (by rw [show decide (("name" : Str) = "name") = true from by decide +kernel]; rfl)
theorem kX (m : Mem) : opCmp m .eq (.str "name") (.str "number") = .ok (.bl false) m := (eqw_f wok_name wok_number).trans (by rw [show decide (("name" : Str) = "number") = false from by decide +kernel])
theorem kY (m : Mem) : opCmp m .ne (.str "name") (.str "number") = .ok (.bl true) m := (new_f wok_name wok_number).trans (by rw [show decide (("name" : Str) = "number") = false from by decide +kernel]; rfl)
theorem kZ (m : Mem) : opCmp m .eq (.str "name") (.str "table") = .ok (.bl false) m := (eqw_f wok_name wok_table).trans (by rw [show decide (("name" : Str) = "table") = false from by decide +kernel])
theorem lA (m : Mem) : opCmp m .ne (.str "name") (.str "table") = .ok (.bl true) m := (new_f wok_name wok_table).trans (by rw [show decide (("name" : Str) = "table") = false from by decide +kernel]; rfl)
theorem lB (m : Mem) : opCmp m .eq (.str "number") (.str "plus") = .ok (.bl false) m := (eqw_f wok_number wok_plus).trans (by rw [show decide (("number" : Str) = "plus") = false from by decide +kernel])
theorem lC (m : Mem) : opCmp m .ne (.str "number") (.str "plus") = .ok (.bl true) m := (new_f wok_number wok_plus).trans (by rw [show decide (("number" : Str) = "plus") = false from by decide +kernel]; rfl)
theorem lD (m : Mem) : opCmp m .eq (.str "number") (.str "minus") = .ok (.bl false) m := (eqw_f wok_number wok_minus).trans (by rw [show decide (("number" : Str) = "minus") = false from by decide +kernel])
theorem lE (m : Mem) : opCmp m .ne (.str "number") (.str "minus") = .ok (.bl true) m := (new_f wok_number wok_minus).trans (by rw [show decide (("number" : Str) = "minus") = false from by decide +kernel]; rfl)
theorem lG (m : Mem) : opCmp m .eq (.str "number") (.str "times") = .ok (.bl false) m := (eqw_f wok_number wok_times).trans (by rw [show decide (("number" : Str) = "times") = false from by decide +kernel])
theorem lH (m : Mem) : opCmp m .ne (.str "number") (.str "times") = .ok (.bl true) m := (new_f wok_number wok_times).trans (by rw [show decide (("number" : Str) = "times") = false from by decide +kernel]; rfl)
theorem lI (m : Mem) : opCmp m .eq (.str "number") (.str "name") = .ok (.bl false) m := (eqw_f wok_number wok_name).trans (by rw [show decide (("number" : Str) = "name") = false from by decide +kernel])
theorem lJ (m : Mem) : opCmp m .ne (.str "number") (.str "name") = .ok (.bl true) m := (new_f wok_number wok_name).trans (by rw [show decide (("number" : Str) = "name") = false from by decide +kernel]; rfl)
theorem lK (m : Mem) : opCmp m .eq (.str "number") (.str "number") = .ok (.bl true) m := (eqw_f wok_number wok_number).trans (by rw [show decide (("number" : Str) = "number") = true from by decide +kernel])
theorem lM (m : Mem) : opCmp m .ne (.str "number") (.str "number") = .ok (.bl false) m := (new_f wok_number wok_number).trans (by rw [show decide (("number" : Str) = "number") = true from by decide +kernel]; rfl)
theorem lN (m : Mem) : opCmp m .eq (.str "number") (.str "table") = .ok (.bl false) m := (eqw_f wok_number wok_table).trans (by rw [show decide (("number" : Str) = "table") = false from by decide +kernel])
theorem lO (m : Mem) : opCmp m .ne (.str "number") (.str "table") = .ok (.bl true) m := (new_f wok_number wok_table).trans (by rw [show decide (("number" : Str) = "table") = false from by decide +kernel]; rfl)
theorem lP (m : Mem) : opCmp m .eq (.str "table") (.str "plus") = .ok (.bl false) m := (eqw_f wok_table wok_plus).trans (by rw [show decide (("table" : Str) = "plus") = false from by decide +kernel])
theorem lQ (m : Mem) : opCmp m .ne (.str "table") (.str "plus") = .ok (.bl true) m := (new_f wok_table wok_plus).trans (by rw [show decide (("table" : Str) = "plus") = false from by decide +kernel]; rfl)
theorem lR (m : Mem) : opCmp m .eq (.str "table") (.str "minus") = .ok (.bl false) m := (eqw_f wok_table wok_minus).trans (by rw [show decide (("table" : Str) = "minus") = false from by decide +kernel])
theorem lU (m : Mem) : opCmp m .ne (.str "table") (.str "minus") = .ok (.bl true) m := (new_f wok_table wok_minus).trans (by rw [show decide (("table" : Str) = "minus") = false from by decide +kernel]; rfl)
theorem lV (m : Mem) : opCmp m .eq (.str "table") (.str "times") = .ok (.bl false) m := (eqw_f wok_table wok_times).trans (by rw [show decide (("table" : Str) = "times") = false from by decide +kernel])
theorem lW (m : Mem) : opCmp m .ne (.str "table") (.str "times") = .ok (.bl true) m := (new_f wok_table wok_times).trans (by rw [show decide (("table" : Str) = "times") = false from by decide +kernel]; rfl)
theorem lX (m : Mem) : opCmp m .eq (.str "table") (.str "name") = .ok (.bl false) m := (eqw_f wok_table wok_name).trans (by rw [show decide (("table" : Str) = "name") = false from by decide +kernel])
theorem lY (m : Mem) : opCmp m .ne (.str "table") (.str "name") = .ok (.bl true) m := (new_f wok_table wok_name).trans (by rw [show decide (("table" : Str) = "name") = false from by decide +kernel]; rfl)
theorem lZ (m : Mem) : opCmp m .eq (.str "table") (.str "number") = .ok (.bl false) m := (eqw_f wok_table wok_number).trans (by rw [show decide (("table" : Str) = "number") = false from by decide +kernel])
theorem mA (m : Mem) : opCmp m .ne (.str "table") (.str "number") = .ok (.bl true) m := (new_f wok_table wok_number).trans (by rw [show decide (("table" : Str) = "number") = false from by decide +kernel]; rfl)
theorem mB (m : Mem) : opCmp m .eq (.str "table") (.str "table") = .ok (.bl true) m := (eqw_f wok_table wok_table).trans (by rw [show decide (("table" : Str) = "table") = true from by decide +kernel])
theorem mC (m : Mem) : opCmp m .ne (.str "table") (.str "table") = .ok (.bl false) m := (new_f wok_table wok_table).trans (by rw [show decide (("table" : Str) = "table") = true from by decide +kernel]; rfl)
theorem mD (m : Mem) : opCmp m .inn (.str "plus") (.tup [.str "number", .str "name"]) = .ok (.bl false) m := by rfl
theorem mE (m : Mem) : opCmp m .inn (.str "plus") (.tup [.str "plus", .str "minus", .str "times"]) = .ok (.bl true) m := by rfl
theorem mF (m : Mem) : opCmp m .inn (.str "minus") (.tup [.str "number", .str "name"]) = .ok (.bl false) m := by rfl
theorem mG (m : Mem) : opCmp m .inn (.str "minus") (.tup [.str "plus", .str "minus", .str "times"]) = .ok (.bl true) m := by rfl
theorem mH (m : Mem) : opCmp m .inn (.str "times") (.tup [.str "number", .str "name"]) = .ok (.bl false) m := by rfl
theorem mI (m : Mem) : opCmp m .inn (.str "times") (.tup [.str "plus", .str "minus", .str "times"]) = .ok (.bl true) m := by rfl
theorem mJ (m : Mem) : opCmp m .inn (.str "name") (.tup [.str "number", .str "name"]) = .ok (.bl true) m := by rfl
theorem mK (m : Mem) : opCmp m .inn (.str "name") (.tup [.str "plus", .str "minus", .str "times"]) = .ok (.bl false) m := by rfl
theorem mL (m : Mem) : opCmp m .inn (.str "number") (.tup [.str "number", .str "name"]) = .ok (.bl true) m := by rfl
theorem mM (m : Mem) : opCmp m .inn (.str "number") (.tup [.str "plus", .str "minus", .str "times"]) = .ok (.bl false) m := by rfl
theorem mN (m : Mem) : opCmp m .inn (.str "table") (.tup [.str "number", .str "name"]) = .ok (.bl false) m := by rfl
theorem mO (m : Mem) : opCmp m .inn (.str "table") (.tup [.str "plus", .str "minus", .str "times"]) = .ok (.bl false) m := by rfl
inductive Wd | plus | minus | times
deriving DecidableEq
def Wd.s : Wd → Str
  | .plus => "plus" | .minus => "minus" | .times => "times"
inductive Plc (p : Nat) [PrC p] | num (a : Zp p) | nam (i : Nat)
deriving DecidableEq
inductive Rule (p : Nat) [PrC p] | plc (q : Plc p) | tab (t : List (Zp p)) (ps : List (Plc p)) | bin (w : Wd) (r s : Rule p)
section
variable {p : Nat} [hp : PrL p]
def Plc.pv : Plc p → PV
  | .num a => .tup [.str "number", .int (zr a)]
  | .nam i => .tup [.str "name", .int i]
def Rule.pv : Rule p → PV
  | .plc q => q.pv
  | .tab t ps => .tup [.str "table", tv t, .tup (ps.map Plc.pv)]
  | .bin w r s => .tup [.str w.s, r.pv, s.pv]
def Plc.at (pt : List (Zp p)) : Plc p → Zp p
  | .num a => a
  | .nam i => pt.getD i 0
def Wd.op : Wd → Zp p → Zp p → Zp p
  | .plus, a, b => a + b
  | .minus, a, b => a - b
  | .times, a, b => a * b
def Rule.val (pt : List (Zp p)) : Rule p → Zp p
  | .plc q => q.at pt
  | .tab t ps => sp t (ps.map (Plc.at pt))
  | .bin w r s => w.op (r.val pt) (s.val pt)
def Rule.dep : Rule p → Nat
  | .bin _ r s => max r.dep s.dep + 1
  | _ => 0
def Rule.size : Rule p → Nat
  | .bin _ r s => r.size + s.size + 1
  | _ => 1
def Plc.ok (n : Nat) : Plc p → Prop
  | .num _ => True
  | .nam i => i < n
def Rule.ok (n : Nat) : Rule p → Prop
  | .plc q => q.ok n
  | .tab t ps => t.length = 2 ^ ps.length ∧ ps.length ≤ 10 ∧ ∀ q ∈ ps, q.ok n
  | .bin _ r s => r.ok n ∧ s.ok n
def Plc.is (i : Nat) : Plc p → Bool
  | .nam j => decide (j = i)
  | .num _ => false
def Plc.put (i : Nat) (a : Zp p) (q : Plc p) : Plc p := if q.is i then .num a else q
def Rule.put (i : Nat) (a : Zp p) : Rule p → Rule p
  | .plc q => .plc (q.put i a)
  | .tab t ps => .tab t (ps.map (Plc.put i a))
  | .bin w r s => .bin w (r.put i a) (s.put i a)
theorem okd_word {d : Nat} {s : Str} (h : s ∈ (["plus", "minus", "times", "name", "number", "table"] : List Str)) : (PV.str s).okd d = true := by
  simp only [List.mem_cons, List.not_mem_nil, or_false] at h
  rcases h with rfl | rfl | rfl | rfl | rfl | rfl <;> (simp only [PV.okd]; decide +kernel)
theorem okd_tup {d : Nat} {xs : List PV} (hl : xs.length ≤ 1000000) (h : ∀ x ∈ xs, x.okd d = true) : (PV.tup xs).okd (d + 1) = true := by
  simp only [PV.okd, PV.okdT, Bool.and_eq_true, decide_eq_true_eq]
  exact ⟨le_line hl, okdA_mem.mpr h⟩
theorem okd_int {d : Nat} (i : Int) : (PV.int i).okd d = true := by simp only [PV.okd]
theorem Plc.okd {d : Nat} (q : Plc p) : q.pv.okd (d + 1) = true := by
  cases q <;> (refine okd_tup (by simp) fun x hx => ?_; simp only [List.mem_cons, List.not_mem_nil, or_false] at hx; rcases hx with rfl | rfl)
  · exact okd_word (by decide)
  · exact okd_int _
  · exact okd_word (by decide)
  · exact okd_int _
theorem Wd.mem (w : Wd) : w.s ∈ (["plus", "minus", "times", "name", "number", "table"] : List Str) := by cases w <;> decide
theorem Rule.okd {n : Nat} : ∀ (r : Rule p) (d : Nat), r.ok n → r.pv.okd (d + r.dep + 3) = true
  | .plc q, d, _ => q.okd (d := d + 2)
  | .tab t ps, d, h => by
    have h10 : 2 ^ ps.length ≤ 2 ^ 10 := Nat.pow_le_pow_right (by decide) h.2.1
    refine okd_tup (d := d + 2) (by simp) fun x hx => ?_
    simp only [List.mem_cons, List.not_mem_nil, or_false] at hx
    rcases hx with rfl | rfl | rfl
    · exact okd_word (by decide)
    · exact okd_tv (d := d + 1) (by rw [h.1]; omega)
    · refine okd_tup (d := d + 1) (by rw [List.length_map]; exact Nat.le_trans h.2.1 (by decide)) fun x hx => ?_
      obtain ⟨q, _, rfl⟩ := List.mem_map.mp hx
      exact q.okd
  | .bin w r s, d, h => by
    show (PV.tup _).okd (d + (max r.dep s.dep + 1) + 3) = true
    refine okd_tup (d := d + max r.dep s.dep + 3) (by simp) fun x hx => ?_
    simp only [List.mem_cons, List.not_mem_nil, or_false] at hx
    rcases hx with rfl | rfl | rfl
    · exact okd_word w.mem
    · exact okd_mono _ _ _ (by omega) (Rule.okd r d h.1)
    · exact okd_mono _ _ _ (by omega) (Rule.okd s d h.2)
theorem Rule.bel (n : Nat) : ∀ r : Rule p, r.pv.bel n = true := by
  have hq : ∀ q : Plc p, q.pv.bel n = true := fun q => by cases q <;> rfl
  intro r
  induction r with
  | plc q => exact hq q
  | tab t ps =>
    simp only [Rule.pv, PV.bel, PV.belA, belA_nvs, Bool.true_and, Bool.and_true]
    induction ps with
    | nil => rfl
    | cons a ps ih => simp only [List.map_cons, PV.belA, hq, ih, Bool.and_self]
  | bin w r s h1 h2 => simp only [Rule.pv, PV.bel, PV.belA, h1, h2, Bool.and_self]
end
end Px
set_option Elab.async false
set_option linter.all false
set_option maxRecDepth 100000
set_option maxHeartbeats 1000000
namespace Px
open PySem Mz
section
variable {ds : List Def} {k : Nat} {m rest : Mem} {p : Nat} [hp : PrL p]
theorem mP (m : Mem) (a b : PV) : opIdx m (.tup [a, b]) (.int 0) = .ok a m := rfl
theorem mQ (m : Mem) (a b : PV) : opIdx m (.tup [a, b]) (.int 1) = .ok b m := rfl
theorem mR (m : Mem) (a b c : PV) : opIdx m (.tup [a, b, c]) (.int 0) = .ok a m := rfl
theorem mS (m : Mem) (a b c : PV) : opIdx m (.tup [a, b, c]) (.int 1) = .ok b m := rfl
theorem mT (m : Mem) (a b c : PV) : opIdx m (.tup [a, b, c]) (.int 2) = .ok c m := rfl
end
end Px
set_option Elab.async false
set_option linter.all false
set_option maxRecDepth 100000
set_option maxHeartbeats 1000000
namespace Px
open PySem Mz
section
variable {ds : List Def} {k : Nat} {m rest : Mem} {p : Nat} [hp : PrL p]
end
end Px
set_option Elab.async false
set_option linter.all false
set_option maxRecDepth 100000
set_option maxHeartbeats 1000000
namespace Px
open PySem Mz
section
variable {ds : List Def} {k : Nat} {m rest : Mem} {p : Nat} [hp : PrL p]
theorem mU (m : Mem) (a b : PV) : opBf m .len [.tup [a, b]] = .ok (.int 2) m := rfl
theorem mV (m : Mem) (a b c : PV) : opBf m .len [.tup [a, b, c]] = .ok (.int 3) m := rfl
theorem mW (m : Mem) (xs : List PV) : opBf m .isi [.tup xs, .ty "tuple"] = .ok (.bl true) m := isi_tup m xs
theorem all_true (m : Mem) {α : Type} (l : List α) : opBf m .all [.lst (l.map fun _ => PV.bl true)] = .ok (.bl true) m := by
  have e : (l.map fun _ => PV.bl true) = (l.map fun _ => true).map PV.bl := by rw [List.map_map]; rfl
  rw [e, bf_all]; congr 2; simp
end
end Px
set_option Elab.async false
set_option linter.all false
set_option maxRecDepth 100000
set_option maxHeartbeats 1000000
namespace Px
open PySem Mz
section
variable {ds : List Def} {k : Nat} {m rest : Mem} {p : Nat} [hp : PrL p]
end
end Px
set_option Elab.async false
set_option linter.all false
set_option maxRecDepth 100000
set_option maxHeartbeats 1000000
namespace Px
open PySem Mz
section
variable {ds : List Def} {k : Nat} {m rest : Mem} {p : Nat} [hp : PrL p]
theorem mX (m : Mem) (b : Bool) : opBf m .int [.bl b] = .ok (.int (if b = true then 1 else 0)) m := by cases b <;> rfl
end
end Px
set_option Elab.async false
set_option linter.all false
set_option maxRecDepth 100000
set_option maxHeartbeats 1000000
namespace Px
open PySem Mz
section
variable {ds : List Def} {k : Nat} {m rest : Mem} {p : Nat} [hp : PrL p]
theorem Row.bel {ns : List Int} {x : Ob} (h : Row ns x) (n : Nat) : Ob.bel n x = true := by
  obtain ⟨i, s, c, rfl, _⟩ := h
  rfl
end
end Px
set_option Elab.async false
set_option linter.all false
set_option maxRecDepth 100000
set_option maxHeartbeats 1000000
namespace Mz
open Lean.Grind (Field)
section
variable {R : Type} [Field R]
end
end Mz
namespace Px
open PySem Mz
section
variable {p : Nat} [hp : PrL p]
end
end Px
set_option Elab.async false
set_option linter.all false
set_option maxRecDepth 100000
set_option maxHeartbeats 1000000
namespace Px
open PySem Mz
section
variable {ds : List Def} {k : Nat} {m rest : Mem} {p : Nat} [hp : PrL p]
end
end Px
set_option Elab.async false
set_option linter.all false
set_option maxRecDepth 100000
set_option maxHeartbeats 2000000
namespace Px
open PySem Mz
section
variable {ds : List Def} {k : Nat} {m rest : Mem}
theorem mY (m : Mem) (a b c d : PV) : opIdx m (.tup [a, b, c, d]) (.int 0) = .ok a m := rfl
theorem mZ (m : Mem) (a b c d : PV) : opIdx m (.tup [a, b, c, d]) (.int 1) = .ok b m := rfl
theorem nA (m : Mem) (a b c d : PV) : opIdx m (.tup [a, b, c, d]) (.int 2) = .ok c m := rfl
theorem nB (m : Mem) (a b c d : PV) : opIdx m (.tup [a, b, c, d]) (.int 3) = .ok d m := rfl
theorem nC (m : Mem) (a b c d : PV) : opBf m .len [.tup [a, b, c, d]] = .ok (.int 4) m := rfl
theorem nE {m : Mem} (x y z w : PV) (f : List PV → Res Px.Env) : tupN m 4 (.tup [x, y, z, w]) f = f [x, y, z, w] := rfl
theorem nF {m : Mem} (x y : PV) (f : List PV → Res Px.Env) : tupN m 2 (.tup [x, y]) f = f [x, y] := rfl
def shr (t b : Nat) : PV := .tup [.int ((t / Nat.gcd t b : Nat) : Int), .int ((b / Nat.gcd t b : Nat) : Int)]
end
end Px
set_option Elab.async false
set_option linter.all false
set_option maxRecDepth 100000
set_option maxHeartbeats 2000000
namespace Px
open PySem Mz
def B._law_is_line : List St := [
  .iff (.or_ (.not_ (.bf .isi [.var 1, .ty "tuple"])) (.cmp .gt (.bf .len [.var 1]) (.int 200))) [.ret (some (.bl false))] [],
  .iff (.cmp .ne (.pl (.cp [2] (.nm 2) (.sq (.var 1)) (some (.or_ (.not_ (.bf .isi [.var 2, .ty "int"])) (.or_ (.bf .isi [.var 2, .ty "bool"]) (.not_ (.chn .le .lt (.int 0) (.var 2) (.var 0)))))) (.var 2))) (.pl (.dsp []))) [.ret (some (.bl false))] [],
  .ret (some (.or_ (.cmp .eq (.var 1) (.tup [])) (.cmp .ne (.idx (.var 1) (.neg (.int 1))) (.int 0))))]
def At._law_is_line (ds : List Def) (i : Nat) : Prop := ∃ (N : List Str), N.length = 3 ∧ ds[i]? = some ⟨N, 2, B._law_is_line⟩
section
variable {ds : List Def} {k : Nat} {m rest : Mem} {p : Nat} [hp : PrL p]
theorem law_is_line_ok {i : Nat} (h : At._law_is_line ds i) {l : List (Zp p)} (hc : Cut l) (hl : l.length ≤ 200) : callF ds (k + 1) i [.int p, tv l] m = .ok (.bl true) m := by
  obtain ⟨N, hN, h⟩ := h
  rw [call_at hN h]
  have l1 := len_tv (m := m) l
  have d : decide ((200 : Int) < (l.length : Int)) = false := decide_eq_false (by omega)
  have hr : ((nvs l).length ≤ LINE) = True := by rw [nvs_len]; exact le_lineT (by omega)
  have e : lcGo [] (bnd (callF ds k) (.nm 2)) (evC (callF ds k) (some (.or_ (.not_ (.bf .isi [.var 2, .ty "int"])) (.or_ (.bf .isi [.var 2, .ty "bool"]) (.not_ (.chn .le .lt (.int 0) (.var 2) (.var 0))))))) (evE (callF ds k) (.var 2)) [some (.int p), some (tv l), none] (nvs l) m = .ok [] m := by
    refine lcGo_none _ fun y hy => ⟨_, cK, ?_⟩
    obtain ⟨a, _, rfl⟩ := List.mem_map.mp hy
    have d1 : decide ((0 : Int) ≤ zr a) = true := decide_eq_true (zr_0le a)
    have d2 : decide (zr a < (p : Int)) = true := decide_eq_true (zr_lt a)
    simp only [aB, aC, aD, aE, aF, aG, aH, aI, aJ, aK, aL, aM, aN, aO, aP, aQ, aR, aS, aT, aU, aV, aW, aX, aY, aZ, bA, bB, bC, bD, bE, bF, bG, bH, bI, bJ, bK, bL, bM, bN, bO, bP, bQ, bR, bS, bT, bU, bV, bW, bX, bY, bZ, cA, cB, cC, cD, cE, cF, cG, cH, cI, cJ, cK, cL, cM, cN, cO, cP, cQ, cR, cS, cT, cU, cW, cX, cY, cZ, dA, dB, dC, dD, dE, dF, dG, dH, dI, dJ, dL, dM, dN, dO, dP, dQ, dR, dS, dT, dU, dV, dW, dX, dY, dZ, eA, eB, eC, eE, eG, eH, eI, eJ, eK, eL, eM, eN, eO, eP, aA, eQ, eR, eS, eT, eU, eV, eW, eX, eY, eZ, fA, fB, fC, fE, fF, fG, fH, fI, fJ, fK, fL, fM, fN, fO, fP, fQ, fR, fS, fT, fU, fV, fW, fX, fY, Res.bind_ex, Res.bind_no, fZ, gA, Res.st_ex, Res.st_no, gB, gC, gD, gE, gF, gG, gH, gI, gJ, gK, List.set_cons_zero, List.set_cons_succ, List.length_cons, List.length_nil, List.map_cons, List.map_nil, List.replicate, List.cons_append, List.nil_append, Nat.reduceSub, Nat.reduceAdd, Nat.reduceLT, List.append_nil, if_true, if_false, Bool.false_eq_true, ite_true, ite_false, decide_true, decide_false, Bool.not_true, Bool.not_false, jE, jF, jG, jH, jI, jJ, jK, jL, jM, jN, jO, jP, jQ, jR, jS, jT, jU, jV, jW, jX, jY, jZ, kA, kB, kC, kD, kE, kF, kG, kH, kI, kJ, kK, kL, kM, kN, kO, kP, kQ, kR, kS, kT, kU, kW, kX, kY, kZ, lA, lB, lC, lD, lE, lG, lH, lI, lJ, lK, lM, lN, lO, lP, lQ, lR, lU, lV, lW, lX, lY, lZ, mA, mB, mC, mD, mE, mF, mG, mH, mI, mJ, mK, mL, mM, mN, mO, mP, mQ, mR, mS, mT, mU, mV, mW, mX, mY, mZ, nA, nB, nC, nE, nF, gL, gM, gN, gO, gP, gQ, gR, gS, gT, gU, gV, gW, gX, gY, gZ, hA, hC, hE, hI, hJ, hU, hW, hX, hZ, iA, iB, iC, iD, iE, iF, iG, iH, iI, iJ, iK, iL, iM, iN, iO, iP, iQ, iR, iS, iT, iU, iV, iW, iX, iY, iZ, jA, jB, jC, jD, isi_int m (zr a) "int" true t_ii, isi_int m (zr a) "bool" false t_ib, d1, d2]
  have e0 := eq_nil_tv (m := m) l (by omega)
  by_cases hn : l = []
  · subst hn
    rw [decide_eq_true rfl] at e0
    have d0 : decide ((200 : Int) < 0) = false := rfl
    simp only [B._law_is_line, aB, aC, aD, aE, aF, aG, aH, aI, aJ, aK, aL, aM, aN, aO, aP, aQ, aR, aS, aT, aU, aV, aW, aX, aY, aZ, bA, bB, bC, bD, bE, bF, bG, bH, bI, bJ, bK, bL, bM, bN, bO, bP, bQ, bR, bS, bT, bU, bV, bW, bX, bY, bZ, cA, cB, cC, cD, cE, cF, cG, cH, cI, cJ, cK, cL, cM, cN, cO, cP, cQ, cR, cS, cT, cU, cW, cX, cY, cZ, dA, dB, dC, dD, dE, dF, dG, dH, dI, dJ, dL, dM, dN, dO, dP, dQ, dR, dS, dT, dU, dV, dW, dX, dY, dZ, eA, eB, eC, eE, eG, eH, eI, eJ, eK, eL, eM, eN, eO, eP, aA, eQ, eR, eS, eT, eU, eV, eW, eX, eY, eZ, fA, fB, fC, fE, fF, fG, fH, fI, fJ, fK, fL, fM, fN, fO, fP, fQ, fR, fS, fT, fU, fV, fW, fX, fY, Res.bind_ex, Res.bind_no, fZ, gA, Res.st_ex, Res.st_no, gB, gC, gD, gE, gF, gG, gH, gI, gJ, gK, List.set_cons_zero, List.set_cons_succ, List.length_cons, List.length_nil, List.map_cons, List.map_nil, List.replicate, List.cons_append, List.nil_append, Nat.reduceSub, Nat.reduceAdd, Nat.reduceLT, List.append_nil, if_true, if_false, Bool.false_eq_true, ite_true, ite_false, decide_true, decide_false, Bool.not_true, Bool.not_false, jE, jF, jG, jH, jI, jJ, jK, jL, jM, jN, jO, jP, jQ, jR, jS, jT, jU, jV, jW, jX, jY, jZ, kA, kB, kC, kD, kE, kF, kG, kH, kI, kJ, kK, kL, kM, kN, kO, kP, kQ, kR, kS, kT, kU, kW, kX, kY, kZ, lA, lB, lC, lD, lE, lG, lH, lI, lJ, lK, lM, lN, lO, lP, lQ, lR, lU, lV, lW, lX, lY, lZ, mA, mB, mC, mD, mE, mF, mG, mH, mI, mJ, mK, mL, mM, mN, mO, mP, mQ, mR, mS, mT, mU, mV, mW, mX, mY, mZ, nA, nB, nC, nE, nF, gL, gM, gN, gO, gP, gQ, gR, gS, gT, gU, gV, gW, gX, gY, gZ, hA, hC, hE, hI, hJ, hU, hW, hX, hZ, iA, iB, iC, iD, iE, iF, iG, iH, iI, iJ, iK, iL, iM, iN, iO, iP, iQ, iR, iS, iT, iU, iV, iW, iX, iY, iZ, jA, jB, jC, jD, isi_tup, l1, d, d0, srcSq_tup, hr, wipeP, e, e0, aA]
  · obtain ⟨b', a, rfl, ha, _⟩ := cut_last hc hn
    rw [decide_eq_false hn] at e0
    have e2 := last_tv (m := m) b' a
    have d3 : decide (zr a = 0) = false := decide_eq_false fun z => ha (zr_eq0.mp z)
    simp only [B._law_is_line, aB, aC, aD, aE, aF, aG, aH, aI, aJ, aK, aL, aM, aN, aO, aP, aQ, aR, aS, aT, aU, aV, aW, aX, aY, aZ, bA, bB, bC, bD, bE, bF, bG, bH, bI, bJ, bK, bL, bM, bN, bO, bP, bQ, bR, bS, bT, bU, bV, bW, bX, bY, bZ, cA, cB, cC, cD, cE, cF, cG, cH, cI, cJ, cK, cL, cM, cN, cO, cP, cQ, cR, cS, cT, cU, cW, cX, cY, cZ, dA, dB, dC, dD, dE, dF, dG, dH, dI, dJ, dL, dM, dN, dO, dP, dQ, dR, dS, dT, dU, dV, dW, dX, dY, dZ, eA, eB, eC, eE, eG, eH, eI, eJ, eK, eL, eM, eN, eO, eP, aA, eQ, eR, eS, eT, eU, eV, eW, eX, eY, eZ, fA, fB, fC, fE, fF, fG, fH, fI, fJ, fK, fL, fM, fN, fO, fP, fQ, fR, fS, fT, fU, fV, fW, fX, fY, Res.bind_ex, Res.bind_no, fZ, gA, Res.st_ex, Res.st_no, gB, gC, gD, gE, gF, gG, gH, gI, gJ, gK, List.set_cons_zero, List.set_cons_succ, List.length_cons, List.length_nil, List.map_cons, List.map_nil, List.replicate, List.cons_append, List.nil_append, Nat.reduceSub, Nat.reduceAdd, Nat.reduceLT, List.append_nil, if_true, if_false, Bool.false_eq_true, ite_true, ite_false, decide_true, decide_false, Bool.not_true, Bool.not_false, jE, jF, jG, jH, jI, jJ, jK, jL, jM, jN, jO, jP, jQ, jR, jS, jT, jU, jV, jW, jX, jY, jZ, kA, kB, kC, kD, kE, kF, kG, kH, kI, kJ, kK, kL, kM, kN, kO, kP, kQ, kR, kS, kT, kU, kW, kX, kY, kZ, lA, lB, lC, lD, lE, lG, lH, lI, lJ, lK, lM, lN, lO, lP, lQ, lR, lU, lV, lW, lX, lY, lZ, mA, mB, mC, mD, mE, mF, mG, mH, mI, mJ, mK, mL, mM, mN, mO, mP, mQ, mR, mS, mT, mU, mV, mW, mX, mY, mZ, nA, nB, nC, nE, nF, gL, gM, gN, gO, gP, gQ, gR, gS, gT, gU, gV, gW, gX, gY, gZ, hA, hC, hE, hI, hJ, hU, hW, hX, hZ, iA, iB, iC, iD, iE, iF, iG, iH, iI, iJ, iK, iL, iM, iN, iO, iP, iQ, iR, iS, iT, iU, iV, iW, iX, iY, iZ, jA, jB, jC, jD, isi_tup, l1, d, srcSq_tup, hr, wipeP, e, e0, e2, d3, Bool.not_false, aA]
end
end Px
set_option Elab.async false
set_option linter.all false
namespace Mz
open Lean.Grind (Field)
section
variable {R : Type} [Field R] [DecidableEq R]
def nwS (s : List R × List R) (q : R × R) : List R × List R := (lsum s.1 (cutz (psc ((q.2 - pev s.1 q.1) * (pev s.2 q.1)⁻¹) s.2)), lmul s.2 [-q.1, 1])
def newton (pts : List (R × R)) : List R := (pts.foldl nwS ([], [1])).1
structure Nw (D : List (R × R)) (s : List R × List R) : Prop where
  c1 : Cut s.1
  l1 : s.1.length ≤ D.length
  l2 : s.2.length ≤ D.length + 1
  e2 : ∀ x, pev s.2 x = pdf x (D.map (·.1))
  e1 : ∀ q ∈ D, pev s.1 q.1 = q.2
theorem Nw.start : Nw ([] : List (R × R)) ([], [1]) := ⟨fun a h => by simp at h, Nat.le_refl _, by simp, fun x => by simp [pdf]; grind, fun q h => by simp at h⟩
theorem pdf_snoc (x c : R) (cs : List R) : pdf x (cs ++ [c]) = pdf x cs * (x - c) := by simp only [pdf, List.foldl_append, List.foldl_cons, List.foldl_nil]
theorem Nw.step {D : List (R × R)} {s : List R × List R} (h : Nw D s) {q : R × R} (hq : q.1 ∉ D.map (·.1)) : Nw (D ++ [q]) (nwS s q) := by
  have h1 := h.l1
  have h2 := h.l2
  refine ⟨lsum_cut _ _, ?_, ?_, fun x => ?_, fun q' hq' => ?_⟩
  · have a := lsum_len s.1 (cutz (psc ((q.2 - pev s.1 q.1) * (pev s.2 q.1)⁻¹) s.2))
    have b := cutz_len (psc ((q.2 - pev s.1 q.1) * (pev s.2 q.1)⁻¹) s.2)
    have c : (psc ((q.2 - pev s.1 q.1) * (pev s.2 q.1)⁻¹) s.2).length = s.2.length := List.length_map ..
    simp only [nwS, List.length_append, List.length_singleton]
    omega
  · have a := lmul_len1 s.2 [-q.1, 1]
    simp only [nwS, List.length_append, List.length_singleton]
    simp at a
    omega
  · simp only [nwS, lmul_pev, h.e2, List.map_append, List.map_cons, List.map_nil, pdf_snoc, pev_cons, pev_nil]; grind
  · have z : pev s.2 q.1 ≠ 0 := by rw [h.e2]; exact pdf_ne hq
    simp only [nwS, lsum_pev, cutz_pev, pev_psc]
    rcases List.mem_append.mp hq' with hq' | hq'
    · have e := h.e1 q' hq'
      have e2 : pev s.2 q'.1 = 0 := by rw [h.e2]; exact pdf_zero (List.mem_map_of_mem hq')
      rw [e, e2]; grind
    · simp only [List.mem_singleton] at hq'
      subst hq'
      have := Field.mul_inv_cancel z
      grind
theorem Nw.all : ∀ (pts D : List (R × R)) (s : List R × List R), Nw D s → ((D ++ pts).map (·.1)).Nodup → Nw (D ++ pts) (pts.foldl nwS s)
  | [], D, s, h, _ => by rw [List.append_nil]; exact h
  | q :: pts, D, s, h, hn => by
    have hq : q.1 ∉ D.map (·.1) := fun hm => by
      rw [List.map_append, List.map_cons, List.nodup_append] at hn
      exact hn.2.2 q.1 hm q.1 List.mem_cons_self rfl
    have e := Nw.all pts (D ++ [q]) (nwS s q) (h.step hq) (by rw [List.append_assoc]; exact hn)
    rw [List.append_assoc] at e
    exact e
theorem newton_ok {pts : List (R × R)} (hn : (pts.map (·.1)).Nodup) : Cut (newton pts) ∧ (newton pts).length ≤ pts.length ∧ ∀ q ∈ pts, pev (newton pts) q.1 = q.2 := by
  have h := Nw.all pts [] ([], [1]) Nw.start hn
  exact ⟨h.c1, h.l1, h.e1⟩
theorem newton_unique {pts : List (R × R)} (hn : (pts.map (·.1)).Nodup) {l : List R} (hc : Cut l) (hl : l.length ≤ pts.length) (h : ∀ q ∈ pts, pev l q.1 = q.2) : newton pts = l := by
  obtain ⟨h1, h2, h3⟩ := newton_ok hn
  refine same_cut h1 hc hn (by simpa using h2) (by simpa using hl) fun x hx => ?_
  obtain ⟨q, hq, rfl⟩ := List.mem_map.mp hx
  rw [h3 q hq, h q hq]
end
end Mz
set_option Elab.async false
set_option linter.all false
set_option maxRecDepth 100000
set_option maxHeartbeats 2000000
namespace Px
open PySem Mz
def B.line_through (c_at_place c_turned_over c_times_number c_sum_of_lines c_product_of_lines : Nat) : List St := [
  .asg (.tp [.nm 2, .nm 3]) (.tup [.tup [], .tup [.int 1]]),
  .for_ (.tp [.nm 4, .nm 5]) (.sq (.var 1)) [.asg (.nm 6) (.bin .mod (.bin .sub (.var 5) (.call c_at_place [.var 0, .var 2, .var 4])) (.var 0)), .asg (.nm 7) (.bin .mod (.bin .mul (.var 6) (.call c_turned_over [.var 0, .call c_at_place [.var 0, .var 3, .var 4]])) (.var 0)), .asg (.nm 2) (.call c_sum_of_lines [.var 0, .var 2, .call c_times_number [.var 0, .var 3, .var 7]]), .asg (.nm 3) (.call c_product_of_lines [.var 0, .var 3, .tup [.bin .mod (.neg (.var 4)) (.var 0), .int 1]])],
  .ret (some (.var 2))]
def At.line_through (ds : List Def) (i : Nat) : Prop := ∃ (N : List Str), ∃ (c_at_place c_turned_over c_times_number c_sum_of_lines c_product_of_lines : Nat), N.length = 8 ∧ ds[i]? = some ⟨N, 2, B.line_through c_at_place c_turned_over c_times_number c_sum_of_lines c_product_of_lines⟩ ∧ At.at_place ds c_at_place ∧ At.turned_over ds c_turned_over ∧ At.times_number ds c_times_number ∧ At.sum_of_lines ds c_sum_of_lines ∧ At.product_of_lines ds c_product_of_lines
def B.through (c_need_prime c_are_numbers c_line_through : Nat) (x_MOST_POINTS : Str) : List St := [
  .ex (.call c_need_prime [.var 0, .int 5]),
  .iff (.or_ (.not_ (.bf .isi [.var 1, .ty "tuple"])) (.cmp .gt (.bf .len [.var 1]) (.gl x_MOST_POINTS (PV.int 60)))) [.rai "" []] [],
  .iff (.not_ (.bf .all [.pl (.cp [2] (.nm 2) (.sq (.var 1)) none (.call c_are_numbers [.var 0, .var 2, .int 2, .int 2]))])) [.rai "" []] [],
  .asg (.nm 3) (.mdc),
  .for_ (.tp [.nm 4, .nm 5]) (.sq (.var 1)) [.iff (.cmp .inn (.var 4) (.var 3)) [.rai "" []] [], .asg (.ix (.var 3) (.var 4)) (.var 5)],
  .ret (some (.call c_line_through [.var 0, .var 1]))]
def At.through (ds : List Def) (i : Nat) : Prop := ∃ (N : List Str), ∃ (c_need_prime c_are_numbers c_line_through : Nat), ∃ (x_MOST_POINTS : Str), N.length = 6 ∧ ds[i]? = some ⟨N, 2, B.through c_need_prime c_are_numbers c_line_through x_MOST_POINTS⟩ ∧ At.need_prime ds c_need_prime ∧ At.are_numbers ds c_are_numbers ∧ At.line_through ds c_line_through
section
variable {ds : List Def} {k : Nat} {m rest : Mem} {p : Nat} [hp : PrL p]
abbrev ptv (q : Zp p × Zp p) : PV := .tup [.int (zr q.1), .int (zr q.2)]
theorem frGo_nilG {g : List (Nat × List PV)} {bind : PV → Px.Env → Mem → Res Px.Env} {body : Px.Env → Mem → RS} {η : Px.Env} {m : Mem} (hg : guards g m = true) : frGo g bind body [] η m = .nx η m := by rw [frGo, if_pos hg]
theorem frGo_consG {g : List (Nat × List PV)} {bind : PV → Px.Env → Mem → Res Px.Env} {body : Px.Env → Mem → RS} {x : PV} {xs : List PV} {η : Px.Env} {m : Mem} (hg : guards g m = true) : frGo g bind body (x :: xs) η m = (bind x η m).st η fun η1 m1 => loopK (body η1 m1) (frGo g bind body xs) := by rw [frGo, if_pos hg]
theorem line_through_g {g : List (Nat × List PV)} {i : Nat} (h : At.line_through ds i) {pts : List (Zp p × Zp p)} {w : PV} (hw : srcSq m w = .ok (pts.map ptv, g) m) (hg : guards g m = true) (hl : pts.length ≤ 400) : callF ds (k + 3) i [.int p, w] m = .ok (tv (newton pts)) m := by
  obtain ⟨N, c1, c2, c3, c4, c5, hN, h, h1, h2, h3, h4, h5⟩ := h
  rw [call_at hN h]
  have lp : ∀ (qs : List (Zp p × Zp p)) (s : List (Zp p) × List (Zp p)) (u4 u5 u6 u7 : Option PV), max s.1.length s.2.length + qs.length ≤ 450 → s.2.length + qs.length ≤ 450 → ∃ v4 v5 v6 v7, frGo g (bnd (callF ds (k + 2)) (.tp [.nm 4, .nm 5])) (evSs (callF ds (k + 2)) [.asg (.nm 6) (.bin .mod (.bin .sub (.var 5) (.call c1 [.var 0, .var 2, .var 4])) (.var 0)), .asg (.nm 7) (.bin .mod (.bin .mul (.var 6) (.call c2 [.var 0, .call c1 [.var 0, .var 3, .var 4]])) (.var 0)), .asg (.nm 2) (.call c4 [.var 0, .var 2, .call c3 [.var 0, .var 3, .var 7]]), .asg (.nm 3) (.call c5 [.var 0, .var 3, .tup [.bin .mod (.neg (.var 4)) (.var 0), .int 1]])]) (qs.map ptv)
      [some (.int p), some w, some (tv s.1), some (tv s.2), u4, u5, u6, u7] m = .nx [some (.int p), some w, some (tv (qs.foldl nwS s).1), some (tv (qs.foldl nwS s).2), v4, v5, v6, v7] m := by
    intro qs
    induction qs with
    | nil => intro s u4 u5 u6 u7 _ _; exact ⟨u4, u5, u6, u7, frGo_nilG hg⟩
    | cons q qs ih =>
      intro s u4 u5 u6 u7 l1 l2
      rw [List.length_cons] at l1 l2
      obtain ⟨c, hc⟩ : ∃ c, c = (q.2 - pev s.1 q.1) * (pev s.2 q.1)⁻¹ := ⟨_, rfl⟩
      have a1 := at_place_ok (k := k + 1) (m := m) h1 (isq_t (nvs s.1)) q.1
      have a2 := at_place_ok (k := k + 1) (m := m) h1 (isq_t (nvs s.2)) q.1
      have a3 := turned_over_z (k := k) (m := m) h2 (pev s.2 q.1)
      have a4 := times_number_ok (k := k) (m := m) h3 (isq_t (nvs s.2)) c (by omega)
      have sl := lsc_len c s.2
      have a5 := sum_of_lines_ok (k := k) (m := m) h4 (isq_t (nvs s.1)) (isq_t (nvs (lsc c s.2))) (by omega) (by omega)
      have a6 := product_of_lines_ok (k := k) (m := m) h5 (a := s.2) (b := [-q.1, 1]) (by omega) (by simp)
      have et : tv [-q.1, 1] = .tup [.int (zr (-q.1)), .int 1] := by show PV.tup [.int (zr (-q.1)), .int (zr 1)] = _; rw [zr_1]
      rw [et] at a6
      have e1 : (nwS s q).1 = lsum s.1 (lsc c s.2) := by rw [hc]; rfl
      have e2 : (nwS s q).2 = lmul s.2 [-q.1, 1] := rfl
      have s1 := lsum_len s.1 (lsc c s.2)
      have s2 := lmul_len1 s.2 [-q.1, 1]
      simp only [List.length_cons, List.length_nil] at s2
      obtain ⟨v4, v5, v6, v7, e⟩ := ih (nwS s q) (some (.int (zr q.1))) (some (.int (zr q.2))) (some (.int (zr (q.2 - pev s.1 q.1)))) (some (.int (zr c))) (by rw [e1, e2]; omega) (by rw [e2]; omega)
      refine ⟨v4, v5, v6, v7, ?_⟩
      rw [List.map_cons, frGo_consG hg, List.foldl_cons]
      simp (disch := decide) only [aB, aC, aD, aE, aF, aG, aH, aI, aJ, aK, aL, aM, aN, aO, aP, aQ, aR, aS, aT, aU, aV, aW, aX, aY, aZ, bA, bB, bC, bD, bE, bF, bG, bH, bI, bJ, bK, bL, bM, bN, bO, bP, bQ, bR, bS, bT, bU, bV, bW, bX, bY, bZ, cA, cB, cC, cD, cE, cF, cG, cH, cI, cJ, cK, cL, cM, cN, cO, cP, cQ, cR, cS, cT, cU, cW, cX, cY, cZ, dA, dB, dC, dD, dE, dF, dG, dH, dI, dJ, dL, dM, dN, dO, dP, dQ, dR, dS, dT, dU, dV, dW, dX, dY, dZ, eA, eB, eC, eE, eG, eH, eI, eJ, eK, eL, eM, eN, eO, eP, aA, eQ, eR, eS, eT, eU, eV, eW, eX, eY, eZ, fA, fB, fC, fE, fF, fG, fH, fI, fJ, fK, fL, fM, fN, fO, fP, fQ, fR, fS, fT, fU, fV, fW, fX, fY, Res.bind_ex, Res.bind_no, fZ, gA, Res.st_ex, Res.st_no, gB, gC, gD, gE, gF, gG, gH, gI, gJ, gK, List.set_cons_zero, List.set_cons_succ, List.length_cons, List.length_nil, List.map_cons, List.map_nil, List.replicate, List.cons_append, List.nil_append, Nat.reduceSub, Nat.reduceAdd, Nat.reduceLT, List.append_nil, if_true, if_false, Bool.false_eq_true, ite_true, ite_false, decide_true, decide_false, Bool.not_true, Bool.not_false, jE, jF, jG, jH, jI, jJ, jK, jL, jM, jN, jO, jP, jQ, jR, jS, jT, jU, jV, jW, jX, jY, jZ, kA, kB, kC, kD, kE, kF, kG, kH, kI, kJ, kK, kL, kM, kN, kO, kP, kQ, kR, kS, kT, kU, kW, kX, kY, kZ, lA, lB, lC, lD, lE, lG, lH, lI, lJ, lK, lM, lN, lO, lP, lQ, lR, lU, lV, lW, lX, lY, lZ, mA, mB, mC, mD, mE, mF, mG, mH, mI, mJ, mK, mL, mM, mN, mO, mP, mQ, mR, mS, mT, mU, mV, mW, mX, mY, mZ, nA, nB, nC, nE, nF, gL, gM, gN, gO, gP, gQ, gR, gS, gT, gU, gV, gW, gX, gY, gZ, hA, hC, hE, hI, hJ, hU, hW, hX, hZ, iA, iB, iC, iD, iE, iF, iG, iH, iI, iJ, iK, iL, iM, iN, iO, iP, iQ, iR, iS, iT, iU, iV, iW, iX, iY, iZ, jA, jB, jC, jD, a1, a2, a3, mod_p, zc_sub, zc_zr, mul_c, zc_mul, ← hc, a4, a5, negP, zc_neg, a6]
      rw [e1, e2] at e
      exact e
  obtain ⟨v4, v5, v6, v7, e⟩ := lp pts ([], [1]) none none none none (by simp; omega) (by simp; omega)
  have t0 : tv ([] : List (Zp p)) = .tup [] := rfl
  have t1 : tv ([1] : List (Zp p)) = .tup [.int 1] := by show PV.tup [.int (zr 1)] = _; rw [zr_1]
  simp only [t0, t1] at e
  simp only [B.line_through, aB, aC, aD, aE, aF, aG, aH, aI, aJ, aK, aL, aM, aN, aO, aP, aQ, aR, aS, aT, aU, aV, aW, aX, aY, aZ, bA, bB, bC, bD, bE, bF, bG, bH, bI, bJ, bK, bL, bM, bN, bO, bP, bQ, bR, bS, bT, bU, bV, bW, bX, bY, bZ, cA, cB, cC, cD, cE, cF, cG, cH, cI, cJ, cK, cL, cM, cN, cO, cP, cQ, cR, cS, cT, cU, cW, cX, cY, cZ, dA, dB, dC, dD, dE, dF, dG, dH, dI, dJ, dL, dM, dN, dO, dP, dQ, dR, dS, dT, dU, dV, dW, dX, dY, dZ, eA, eB, eC, eE, eG, eH, eI, eJ, eK, eL, eM, eN, eO, eP, aA, eQ, eR, eS, eT, eU, eV, eW, eX, eY, eZ, fA, fB, fC, fE, fF, fG, fH, fI, fJ, fK, fL, fM, fN, fO, fP, fQ, fR, fS, fT, fU, fV, fW, fX, fY, Res.bind_ex, Res.bind_no, fZ, gA, Res.st_ex, Res.st_no, gB, gC, gD, gE, gF, gG, gH, gI, gJ, gK, List.set_cons_zero, List.set_cons_succ, List.length_cons, List.length_nil, List.map_cons, List.map_nil, List.replicate, List.cons_append, List.nil_append, Nat.reduceSub, Nat.reduceAdd, Nat.reduceLT, List.append_nil, if_true, if_false, Bool.false_eq_true, ite_true, ite_false, decide_true, decide_false, Bool.not_true, Bool.not_false, jE, jF, jG, jH, jI, jJ, jK, jL, jM, jN, jO, jP, jQ, jR, jS, jT, jU, jV, jW, jX, jY, jZ, kA, kB, kC, kD, kE, kF, kG, kH, kI, kJ, kK, kL, kM, kN, kO, kP, kQ, kR, kS, kT, kU, kW, kX, kY, kZ, lA, lB, lC, lD, lE, lG, lH, lI, lJ, lK, lM, lN, lO, lP, lQ, lR, lU, lV, lW, lX, lY, lZ, mA, mB, mC, mD, mE, mF, mG, mH, mI, mJ, mK, mL, mM, mN, mO, mP, mQ, mR, mS, mT, mU, mV, mW, mX, mY, mZ, nA, nB, nC, nE, nF, gL, gM, gN, gO, gP, gQ, gR, gS, gT, gU, gV, gW, gX, gY, gZ, hA, hC, hE, hI, hJ, hU, hW, hX, hZ, iA, iB, iC, iD, iE, iF, iG, iH, iI, iJ, iK, iL, iM, iN, iO, iP, iQ, iR, iS, iT, iU, iV, iW, iX, iY, iZ, jA, jB, jC, jD, tupN_2, hw, e, aA, newton]
theorem line_through_ok {i : Nat} (h : At.line_through ds i) {pts : List (Zp p × Zp p)} {w : PV} (hw : IsSq w (pts.map ptv)) (hl : pts.length ≤ 400) : callF ds (k + 3) i [.int p, w] m = .ok (tv (newton pts)) m := line_through_g h hw.src rfl hl
theorem inn_dic (ks : List L2.Key) (vs : List PV) (x : Int) : opCmp (m ++ [.dic ks vs]) .inn (.int x) (.loc m.length) = .ok (.bl (hasK (.inl x) ks)) (m ++ [.dic ks vs]) := by
  have e : asS (m ++ [.dic ks vs]) (.loc m.length) = none := by simp [asS, asL]
  have d : dicAt (m ++ [.dic ks vs]) (.loc m.length) (.int x) = some (ks, vs, .inl x) := by simp [dicAt, keyOf]
  show (match asS (m ++ [Ob.dic ks vs]) (.loc m.length) with
    | some ys => if flat (.int x) && ys.all flat then Res.ok (PV.bl (ys.any fun z => eqF z (.int x))) _ else inDat _ (.int x) (.loc m.length) id
    | none => inD (m ++ [Ob.dic ks vs]) (.loc m.length) (.int x) id) = _
  rw [e]
  simp only [inD, d]
  rfl
theorem put_dic (η : Px.Env) (ks : List L2.Key) (vs : List PV) (x : Int) (v : PV) (h : hasK (.inl x) ks = false) (hl : ks.length < 1000000) : putP η (m ++ [.dic ks vs]) (.loc m.length) (.int x) v = .ok η (m ++ [.dic (ks ++ [.inl x]) (vs ++ [v])]) := by
  have g : (m ++ [Ob.dic ks vs])[m.length]? = some (.dic ks vs) := by simp
  have d : dicAt (m ++ [.dic ks vs]) (.loc m.length) (.int x) = some (ks, vs, .inl x) := by simp [dicAt, keyOf]
  have l : ks.length < LINE := Nat.lt_of_lt_of_le hl (by decide)
  have k1 : putKk (.inl x) v ks vs = (ks ++ [.inl x], vs ++ [v]) := by simp [putKk, h]
  show (match (m ++ [Ob.dic ks vs])[m.length]? with
    | some (.lst xs) => match L2.ixN xs.length x with
      | some j => Res.ok η ((m ++ [Ob.dic ks vs]).set m.length (.lst (xs.set j v)))
      | none => .no
    | _ => putD η (m ++ [Ob.dic ks vs]) (.loc m.length) (.int x) v) = _
  rw [g]
  simp only [putD, d, k1, if_pos l]
  simp
theorem hasK_no {x : Int} {ks : List L2.Key} (h : (.inl x : L2.Key) ∉ ks) : hasK (.inl x) ks = false := by
  rw [hasK, List.any_eq_false]
  intro y hy e
  rw [of_decide_eq_true e] at hy
  exact h hy
theorem through_ok {i : Nat} (h : At.through ds i) {pts : List (Zp p × Zp p)} (hn : (pts.map (·.1)).Nodup) (hl : pts.length ≤ 60) : callF ds (k + 5) i [.int p, .tup (pts.map ptv)] m = .ok (tv (newton pts)) m := by
  obtain ⟨N, c1, c2, c3, x, hN, h, h1, h2, h3⟩ := h
  rw [call_at hN h]
  have hlen : ((pts.map ptv).length ≤ LINE) = True := by rw [List.length_map]; exact le_lineT (by omega)
  have t1 : lcGo [] (bnd (callF ds (k + 4)) (.nm 2)) (evC (callF ds (k + 4)) none) (evE (callF ds (k + 4)) (.call c2 [.var 0, .var 2, .int 2, .int 2])) [some (.int p), some (.tup (pts.map ptv)), none, none, none, none] (pts.map ptv) m = .ok (pts.map fun _ => PV.bl true) m := by
    refine lcGo_map ptv _ pts fun q _ => ⟨_, cK, bN, ?_⟩
    have e := are_numbers_z (k := k) (m := m) h2 [q.1, q.2] 2 2 (le_line (by simp))
    have e : callF ds (k + 4) c2 [.int p, ptv q, .int 2, .int 2] m = .ok (.bl true) m := e
    simp only [aB, aC, aD, aE, aF, aG, aH, aI, aJ, aK, aL, aM, aN, aO, aP, aQ, aR, aS, aT, aU, aV, aW, aX, aY, aZ, bA, bB, bC, bD, bE, bF, bG, bH, bI, bJ, bK, bL, bM, bN, bO, bP, bQ, bR, bS, bT, bU, bV, bW, bX, bY, bZ, cA, cB, cC, cD, cE, cF, cG, cH, cI, cJ, cK, cL, cM, cN, cO, cP, cQ, cR, cS, cT, cU, cW, cX, cY, cZ, dA, dB, dC, dD, dE, dF, dG, dH, dI, dJ, dL, dM, dN, dO, dP, dQ, dR, dS, dT, dU, dV, dW, dX, dY, dZ, eA, eB, eC, eE, eG, eH, eI, eJ, eK, eL, eM, eN, eO, eP, aA, eQ, eR, eS, eT, eU, eV, eW, eX, eY, eZ, fA, fB, fC, fE, fF, fG, fH, fI, fJ, fK, fL, fM, fN, fO, fP, fQ, fR, fS, fT, fU, fV, fW, fX, fY, Res.bind_ex, Res.bind_no, fZ, gA, Res.st_ex, Res.st_no, gB, gC, gD, gE, gF, gG, gH, gI, gJ, gK, List.set_cons_zero, List.set_cons_succ, List.length_cons, List.length_nil, List.map_cons, List.map_nil, List.replicate, List.cons_append, List.nil_append, Nat.reduceSub, Nat.reduceAdd, Nat.reduceLT, List.append_nil, if_true, if_false, Bool.false_eq_true, ite_true, ite_false, decide_true, decide_false, Bool.not_true, Bool.not_false, jE, jF, jG, jH, jI, jJ, jK, jL, jM, jN, jO, jP, jQ, jR, jS, jT, jU, jV, jW, jX, jY, jZ, kA, kB, kC, kD, kE, kF, kG, kH, kI, kJ, kK, kL, kM, kN, kO, kP, kQ, kR, kS, kT, kU, kW, kX, kY, kZ, lA, lB, lC, lD, lE, lG, lH, lI, lJ, lK, lM, lN, lO, lP, lQ, lR, lU, lV, lW, lX, lY, lZ, mA, mB, mC, mD, mE, mF, mG, mH, mI, mJ, mK, mL, mM, mN, mO, mP, mQ, mR, mS, mT, mU, mV, mW, mX, mY, mZ, nA, nB, nC, nE, nF, gL, gM, gN, gO, gP, gQ, gR, gS, gT, gU, gV, gW, gX, gY, gZ, hA, hC, hE, hI, hJ, hU, hW, hX, hZ, iA, iB, iC, iD, iE, iF, iG, iH, iI, iJ, iK, iL, iM, iN, iO, iP, iQ, iR, iS, iT, iU, iV, iW, iX, iY, iZ, jA, jB, jC, jD, e]
  have lp : ∀ (qs done : List (Zp p × Zp p)) (u4 u5 : Option PV), ((done ++ qs).map (·.1)).Nodup → (done ++ qs).length ≤ 60 → ∃ v4 v5, frGo [] (bnd (callF ds (k + 4)) (.tp [.nm 4, .nm 5])) (evSs (callF ds (k + 4)) [.iff (.cmp .inn (.var 4) (.var 3)) [.rai "" []] [], .asg (.ix (.var 3) (.var 4)) (.var 5)]) (qs.map ptv)
      [some (.int p), some (.tup (pts.map ptv)), none, some (.loc m.length), u4, u5] (m ++ [.dic (done.map fun q => .inl (zr q.1)) (done.map fun q => .int (zr q.2))]) =
      .nx [some (.int p), some (.tup (pts.map ptv)), none, some (.loc m.length), v4, v5] (m ++ [.dic ((done ++ qs).map fun q => .inl (zr q.1)) ((done ++ qs).map fun q => .int (zr q.2))]) := by
    intro qs
    induction qs with
    | nil => intro done u4 u5 _ _; exact ⟨u4, u5, by rw [List.append_nil]; rfl⟩
    | cons q qs ih =>
      intro done u4 u5 hn hl
      have e0 : done ++ q :: qs = (done ++ [q]) ++ qs := by rw [List.append_assoc]; rfl
      obtain ⟨v4, v5, e⟩ := ih (done ++ [q]) (some (.int (zr q.1))) (some (.int (zr q.2))) (by rw [← e0]; exact hn) (by rw [← e0]; exact hl)
      refine ⟨v4, v5, ?_⟩
      have nk : hasK (.inl (zr q.1)) (done.map fun q => (.inl (zr q.1) : L2.Key)) = false := by
        refine hasK_no fun hm => ?_
        obtain ⟨q', hq', he⟩ := List.mem_map.mp hm
        injection he with he
        have he := zr_inj he
        rw [List.map_append, List.map_cons, List.nodup_append] at hn
        exact hn.2.2 q'.1 (List.mem_map_of_mem hq') q.1 List.mem_cons_self he
      have i1 := inn_dic (m := m) (done.map fun q => (.inl (zr q.1) : L2.Key)) (done.map fun q => PV.int (zr q.2)) (zr q.1)
      rw [nk] at i1
      have p1 := fun η => put_dic (m := m) η (done.map fun q => (.inl (zr q.1) : L2.Key)) (done.map fun q => PV.int (zr q.2)) (zr q.1) (.int (zr q.2)) nk (by rw [List.length_append] at hl; rw [List.length_map]; omega)
      rw [List.map_cons, eJ]
      simp only [aB, aC, aD, aE, aF, aG, aH, aI, aJ, aK, aL, aM, aN, aO, aP, aQ, aR, aS, aT, aU, aV, aW, aX, aY, aZ, bA, bB, bC, bD, bE, bF, bG, bH, bI, bJ, bK, bL, bM, bN, bO, bP, bQ, bR, bS, bT, bU, bV, bW, bX, bY, bZ, cA, cB, cC, cD, cE, cF, cG, cH, cI, cJ, cK, cL, cM, cN, cO, cP, cQ, cR, cS, cT, cU, cW, cX, cY, cZ, dA, dB, dC, dD, dE, dF, dG, dH, dI, dJ, dL, dM, dN, dO, dP, dQ, dR, dS, dT, dU, dV, dW, dX, dY, dZ, eA, eB, eC, eE, eG, eH, eI, eJ, eK, eL, eM, eN, eO, eP, aA, eQ, eR, eS, eT, eU, eV, eW, eX, eY, eZ, fA, fB, fC, fE, fF, fG, fH, fI, fJ, fK, fL, fM, fN, fO, fP, fQ, fR, fS, fT, fU, fV, fW, fX, fY, Res.bind_ex, Res.bind_no, fZ, gA, Res.st_ex, Res.st_no, gB, gC, gD, gE, gF, gG, gH, gI, gJ, gK, List.set_cons_zero, List.set_cons_succ, List.length_cons, List.length_nil, List.map_cons, List.map_nil, List.replicate, List.cons_append, List.nil_append, Nat.reduceSub, Nat.reduceAdd, Nat.reduceLT, List.append_nil, if_true, if_false, Bool.false_eq_true, ite_true, ite_false, decide_true, decide_false, Bool.not_true, Bool.not_false, jE, jF, jG, jH, jI, jJ, jK, jL, jM, jN, jO, jP, jQ, jR, jS, jT, jU, jV, jW, jX, jY, jZ, kA, kB, kC, kD, kE, kF, kG, kH, kI, kJ, kK, kL, kM, kN, kO, kP, kQ, kR, kS, kT, kU, kW, kX, kY, kZ, lA, lB, lC, lD, lE, lG, lH, lI, lJ, lK, lM, lN, lO, lP, lQ, lR, lU, lV, lW, lX, lY, lZ, mA, mB, mC, mD, mE, mF, mG, mH, mI, mJ, mK, mL, mM, mN, mO, mP, mQ, mR, mS, mT, mU, mV, mW, mX, mY, mZ, nA, nB, nC, nE, nF, gL, gM, gN, gO, gP, gQ, gR, gS, gT, gU, gV, gW, gX, gY, gZ, hA, hC, hE, hI, hJ, hU, hW, hX, hZ, iA, iB, iC, iD, iE, iF, iG, iH, iI, iJ, iK, iL, iM, iN, iO, iP, iQ, iR, iS, iT, iU, iV, iW, iX, iY, iZ, jA, jB, jC, jD, i1, p1]
      rw [← e0, List.map_append, List.map_append] at e
      exact e
  obtain ⟨v4, v5, e⟩ := lp pts [] none none hn hl
  rw [List.nil_append, List.map_nil, List.map_nil] at e
  have e3 := line_through_ok (k := k + 1) (m := m ++ [.dic (pts.map fun q => .inl (zr q.1)) (pts.map fun q => .int (zr q.2))]) h3 (isq_t (pts.map ptv)) (by omega)
  have d : decide ((60 : Int) < (pts.length : Int)) = false := decide_eq_false (by omega)
  have ln : opBf m .len [.tup (pts.map ptv)] = .ok (.int pts.length) m := by rw [len_tup, List.length_map]
  have sr : ∀ m, srcSq m (.tup (pts.map ptv)) = .ok (pts.map ptv, []) m := fun _ => rfl
  simp only [B.through, aB, aC, aD, aE, aF, aG, aH, aI, aJ, aK, aL, aM, aN, aO, aP, aQ, aR, aS, aT, aU, aV, aW, aX, aY, aZ, bA, bB, bC, bD, bE, bF, bG, bH, bI, bJ, bK, bL, bM, bN, bO, bP, bQ, bR, bS, bT, bU, bV, bW, bX, bY, bZ, cA, cB, cC, cD, cE, cF, cG, cH, cI, cJ, cK, cL, cM, cN, cO, cP, cQ, cR, cS, cT, cU, cW, cX, cY, cZ, dA, dB, dC, dD, dE, dF, dG, dH, dI, dJ, dL, dM, dN, dO, dP, dQ, dR, dS, dT, dU, dV, dW, dX, dY, dZ, eA, eB, eC, eE, eG, eH, eI, eJ, eK, eL, eM, eN, eO, eP, aA, eQ, eR, eS, eT, eU, eV, eW, eX, eY, eZ, fA, fB, fC, fE, fF, fG, fH, fI, fJ, fK, fL, fM, fN, fO, fP, fQ, fR, fS, fT, fU, fV, fW, fX, fY, Res.bind_ex, Res.bind_no, fZ, gA, Res.st_ex, Res.st_no, gB, gC, gD, gE, gF, gG, gH, gI, gJ, gK, List.set_cons_zero, List.set_cons_succ, List.length_cons, List.length_nil, List.map_cons, List.map_nil, List.replicate, List.cons_append, List.nil_append, Nat.reduceSub, Nat.reduceAdd, Nat.reduceLT, List.append_nil, if_true, if_false, Bool.false_eq_true, ite_true, ite_false, decide_true, decide_false, Bool.not_true, Bool.not_false, jE, jF, jG, jH, jI, jJ, jK, jL, jM, jN, jO, jP, jQ, jR, jS, jT, jU, jV, jW, jX, jY, jZ, kA, kB, kC, kD, kE, kF, kG, kH, kI, kJ, kK, kL, kM, kN, kO, kP, kQ, kR, kS, kT, kU, kW, kX, kY, kZ, lA, lB, lC, lD, lE, lG, lH, lI, lJ, lK, lM, lN, lO, lP, lQ, lR, lU, lV, lW, lX, lY, lZ, mA, mB, mC, mD, mE, mF, mG, mH, mI, mJ, mK, mL, mM, mN, mO, mP, mQ, mR, mS, mT, mU, mV, mW, mX, mY, mZ, nA, nB, nC, nE, nF, gL, gM, gN, gO, gP, gQ, gR, gS, gT, gU, gV, gW, gX, gY, gZ, hA, hC, hE, hI, hJ, hU, hW, hX, hZ, iA, iB, iC, iD, iE, iF, iG, iH, iI, iJ, iK, iL, iM, iN, iO, iP, iQ, iR, iS, iT, iU, iV, iW, iX, iY, iZ, jA, jB, jC, jD, need_prime_5 (k := k) (p := p) h1, isi_tup, ln, d, sr, hlen, wipeP, t1, all_true, e, e3, gc_app1 (bel_tv m.length (newton pts))]
end
end Px
set_option Elab.async false
set_option linter.all false
set_option maxRecDepth 100000
set_option maxHeartbeats 2000000
namespace Px
open PySem Mz
def B.law_k02 (c__law_prime c__law_taken c__law_number c_through c__law_is_line c__law_at c__law_line c__law_numbers c__law_through c__law_alike c_at : Nat) : List St := [
  .asg (.nm 1) (.ml (.dsp [.var 0, .int 0, .int 5602, .int 0])),
  .asg (.nm 2) (.call c__law_prime [.var 1]),
  .asg (.nm 3) (.ml (.dsp [])),
  .for_ (.nm 4) (.rg1 (.call c__law_taken [.var 1, .int 10])) [.asg (.nm 5) (.call c__law_number [.var 1, .var 2]), .iff (.cmp .nin (.var 5) (.var 3)) [.ex (.mt .append (.var 3) [.var 5])] []],
  .asg (.nm 6) (.bf .tuple [.pl (.cp [5] (.nm 5) (.sq (.var 3)) none (.tup [.var 5, .call c__law_number [.var 1, .var 2]]))]),
  .asg (.nm 7) (.call c_through [.var 2, .var 6]),
  .iff (.or_ (.not_ (.call c__law_is_line [.var 2, .var 7])) (.cmp .gt (.bf .len [.var 7]) (.bf .len [.var 6]))) [.ret (some (.bl false))] [],
  .iff (.cmp .ne (.pl (.cp [8] (.nm 8) (.sq (.var 6)) (some (.cmp .ne (.call c__law_at [.var 2, .var 7, .idx (.var 8) (.int 0)]) (.idx (.var 8) (.int 1)))) (.var 8))) (.pl (.dsp []))) [.ret (some (.bl false))] [],
  .asg (.nm 9) (.call c__law_line [.var 1, .var 2, .bf .len [.var 6]]),
  .iff (.cmp .ne (.call c_through [.var 2, .bf .tuple [.pl (.cp [5] (.nm 5) (.sq (.var 3)) none (.tup [.var 5, .call c__law_at [.var 2, .var 9, .var 5]]))]]) (.var 9)) [.ret (some (.bl false))] [],
  .iff (.cmp .ne (.call c_through [.var 2, .rv (.var 6)]) (.var 7)) [.ret (some (.bl false))] [],
  .asg (.nm 10) (.call c__law_numbers [.var 1, .var 2, .bf .min [.var 2, .int 5]]),
  .asg (.nm 11) (.call c__law_through [.var 2, .var 10]),
  .ret (some (.and_ (.call c__law_alike [.call c_through [.var 2, .ten (.var 10)], .var 11]) (.cmp .eq (.pl (.cp [5] (.nm 5) (.sq (.var 3)) (some (.cmp .ne (.call c_at [.var 2, .var 11, .var 5]) (.call c__law_at [.var 2, .var 11, .var 5]))) (.var 5))) (.pl (.dsp [])))))]
def At.law_k02 (ds : List Def) (i : Nat) : Prop := ∃ (N : List Str), ∃ (c__law_prime c__law_taken c__law_number c_through c__law_is_line c__law_at c__law_line c__law_numbers c__law_through c__law_alike c_at : Nat), N.length = 12 ∧ ds[i]? = some ⟨N, 1, B.law_k02 c__law_prime c__law_taken c__law_number c_through c__law_is_line c__law_at c__law_line c__law_numbers c__law_through c__law_alike c_at⟩ ∧ At._law_prime ds c__law_prime ∧ At._law_taken ds c__law_taken ∧ At._law_number ds c__law_number ∧ At.through ds c_through ∧ At._law_is_line ds c__law_is_line ∧ At._law_at ds c__law_at ∧ At._law_line ds c__law_line ∧ At._law_numbers ds c__law_numbers ∧ At._law_through ds c__law_through ∧ At._law_alike ds c__law_alike ∧ At.at ds c_at
end Px
namespace K02
open PySem Px Mz
def n0 : List Str := ["value"]
def b0 : List St := B.is_integer
def n1 : List Str := ["value", "low", "high"]
def b1 : List St := B.is_from 0
def n2 : List Str := ["p", "base", "times", "found"]
def b2 : List St := B.raised
def n3 : List Str := ["value", "base", "times", "twos", "found", "turn"]
def b3 : List St := B.passes 2
def n4 : List Str := ["value", "base"]
def b4 : List St := B.is_prime 1 3 "MOST_PRIME" "BASES"
def n5 : List Str := ["p", "least"]
def b5 : List St := B.need_prime 4
def n6 : List Str := ["p", "value"]
def b6 : List St := B.is_number 1
def n7 : List Str := ["p", "value"]
def b7 : List St := B.need_number 6
def n8 : List Str := ["p", "value", "low", "high", "one"]
def b8 : List St := B.are_numbers 6
def n9 : List Str := ["p", "number"]
def b9 : List St := B.turned_over 2
def n10 : List Str := ["p", "value"]
def b10 : List St := B.is_plain_line 8 "MOST_NUMBERS"
def n11 : List Str := ["p", "value"]
def b11 : List St := B.need_line 10
def n12 : List Str := ["numbers", "last"]
def b12 : List St := B.cut
def n13 : List Str := ["p", "line", "place", "found", "number"]
def b13 : List St := B.at_place
def n14 : List Str := ["p", "one", "other", "size", "first", "second", "at"]
def b14 : List St := B.sum_of_lines 12
def n15 : List Str := ["p", "line", "number", "entry"]
def b15 : List St := B.times_number 12
def n16 : List Str := ["p", "one", "other", "found", "at", "first", "to", "second"]
def b16 : List St := B.product_of_lines 12
def n17 : List Str := ["p", "line", "place"]
def b17 : List St := B.at 5 11 7 13
def n18 : List Str := ["p", "points", "found", "ahead", "place", "goal", "lack", "number"]
def b18 : List St := B.line_through 13 9 15 14 16
def n19 : List Str := ["p", "points", "pair", "seen", "place", "goal"]
def b19 : List St := B.through 5 8 18 "MOST_POINTS"
def n20 : List Str := ["_law_row", "_law_many", "_law_found", "_law_cell"]
def b20 : List St := B._law_taken
def n21 : List Str := ["_law_row", "_law_things"]
def b21 : List St := B._law_pick 20
def n22 : List Str := ["_law_found", "_law_due", "_law_k", "_law_key"]
def b22 : List St := B._law_alike 22
def n23 : List Str := ["_law_row"]
def b23 : List St := B._law_prime 21
def n24 : List Str := ["_law_row", "_law_p", "_law_way"]
def b24 : List St := B._law_number 20
def n25 : List Str := ["_law_row", "_law_p", "_law_many", "_law_nth"]
def b25 : List St := B._law_numbers 24
def n26 : List Str := ["_law_numbers_here", "_law_found"]
def b26 : List St := B._law_cut
def n27 : List Str := ["_law_row", "_law_p", "_law_most"]
def b27 : List St := B._law_line 20 25 26
def n28 : List Str := ["_law_p", "_law_line_here", "_law_place", "_law_found", "_law_number_here"]
def b28 : List St := B._law_at
def n29 : List Str := ["_law_p", "_law_number_here", "_law_found", "_law_base", "_law_times"]
def b29 : List St := B._law_inverse
def n30 : List Str := ["_law_p", "_law_values", "_law_found", "_law_nth", "_law_value", "_law_part", "_law_under", "_law_place", "_law_k", "_law_over"]
def b30 : List St := B._law_through 29 26
def n31 : List Str := ["_law_p", "_law_value", "_law_one"]
def b31 : List St := B._law_is_line
def n32 : List Str := ["_law_script", "_law_row", "_law_p", "_law_places", "_law_turn", "_law_place", "_law_points", "_law_found", "_law_pair", "_law_line_here", "_law_values", "_law_due"]
def b32 : List St := B.law_k02 23 20 24 19 31 28 27 25 30 22 17
def ds : List Def := [⟨n0, 1, b0⟩, ⟨n1, 3, b1⟩, ⟨n2, 3, b2⟩, ⟨n3, 2, b3⟩, ⟨n4, 1, b4⟩, ⟨n5, 2, b5⟩, ⟨n6, 2, b6⟩, ⟨n7, 2, b7⟩, ⟨n8, 4, b8⟩, ⟨n9, 2, b9⟩, ⟨n10, 2, b10⟩, ⟨n11, 2, b11⟩, ⟨n12, 1, b12⟩, ⟨n13, 3, b13⟩, ⟨n14, 3, b14⟩, ⟨n15, 3, b15⟩, ⟨n16, 3, b16⟩, ⟨n17, 3, b17⟩, ⟨n18, 2, b18⟩, ⟨n19, 2, b19⟩, ⟨n20, 2, b20⟩, ⟨n21, 2, b21⟩, ⟨n22, 2, b22⟩, ⟨n23, 1, b23⟩, ⟨n24, 2, b24⟩, ⟨n25, 3, b25⟩, ⟨n26, 1, b26⟩, ⟨n27, 3, b27⟩, ⟨n28, 3, b28⟩, ⟨n29, 2, b29⟩, ⟨n30, 2, b30⟩, ⟨n31, 2, b31⟩, ⟨n32, 1, b32⟩]
def cc : Chk := { N := [], fns := [("is_integer" : Str), ("is_from" : Str), ("raised" : Str), ("passes" : Str), ("is_prime" : Str), ("need_prime" : Str), ("is_number" : Str), ("need_number" : Str), ("are_numbers" : Str), ("turned_over" : Str), ("is_plain_line" : Str), ("need_line" : Str), ("cut" : Str), ("at_place" : Str), ("sum_of_lines" : Str), ("times_number" : Str), ("product_of_lines" : Str), ("at" : Str), ("line_through" : Str), ("through" : Str), ("_law_taken" : Str), ("_law_pick" : Str), ("_law_alike" : Str), ("_law_prime" : Str), ("_law_number" : Str), ("_law_numbers" : Str), ("_law_cut" : Str), ("_law_line" : Str), ("_law_at" : Str), ("_law_inverse" : Str), ("_law_through" : Str), ("_law_is_line" : Str), ("law" : Str)], dfl := [[], [], [], [], [], [PV.int 5], [], [], [], [], [], [], [], [], [], [], [], [], [], [], [], [], [], [], [], [], [], [], [], [], [], [], []], cst := [("MOST_PRIME", PV.int 2147483647), ("BASES", PV.tup [PV.int 2, PV.int 3, PV.int 5, PV.int 7]), ("MOST_NUMBERS", PV.int 200), ("MOST_POINTS", PV.int 60)], xcs := [] }
theorem at0 : At.is_integer ds 0 := ⟨n0, rfl, rfl⟩
theorem at1 : At.is_from ds 1 := ⟨n1, 0, rfl, rfl, at0⟩
theorem at2 : At.raised ds 2 := ⟨n2, rfl, rfl⟩
theorem at3 : At.passes ds 3 := ⟨n3, 2, rfl, rfl, at2⟩
theorem at4 : At.is_prime ds 4 := ⟨n4, 1, 3, "MOST_PRIME", "BASES", rfl, rfl, at1, at3⟩
theorem at5 : At.need_prime ds 5 := ⟨n5, 4, rfl, rfl, at4⟩
theorem at6 : At.is_number ds 6 := ⟨n6, 1, rfl, rfl, at1⟩
theorem at7 : At.need_number ds 7 := ⟨n7, 6, rfl, rfl, at6⟩
theorem at8 : At.are_numbers ds 8 := ⟨n8, 6, rfl, rfl, at6⟩
theorem at9 : At.turned_over ds 9 := ⟨n9, 2, rfl, rfl, at2⟩
theorem at10 : At.is_plain_line ds 10 := ⟨n10, 8, "MOST_NUMBERS", rfl, rfl, at8⟩
theorem at11 : At.need_line ds 11 := ⟨n11, 10, rfl, rfl, at10⟩
theorem at12 : At.cut ds 12 := ⟨n12, rfl, rfl⟩
theorem at13 : At.at_place ds 13 := ⟨n13, rfl, rfl⟩
theorem at14 : At.sum_of_lines ds 14 := ⟨n14, 12, rfl, rfl, at12⟩
theorem at15 : At.times_number ds 15 := ⟨n15, 12, rfl, rfl, at12⟩
theorem at16 : At.product_of_lines ds 16 := ⟨n16, 12, rfl, rfl, at12⟩
theorem at17 : At.at ds 17 := ⟨n17, 5, 11, 7, 13, rfl, rfl, at5, at11, at7, at13⟩
theorem at18 : At.line_through ds 18 := ⟨n18, 13, 9, 15, 14, 16, rfl, rfl, at13, at9, at15, at14, at16⟩
theorem at19 : At.through ds 19 := ⟨n19, 5, 8, 18, "MOST_POINTS", rfl, rfl, at5, at8, at18⟩
theorem at20 : At._law_taken ds 20 := ⟨n20, rfl, rfl⟩
theorem at21 : At._law_pick ds 21 := ⟨n21, 20, rfl, rfl, at20⟩
theorem at22 : At._law_alike ds 22 := ⟨n22, rfl, rfl⟩
theorem at23 : At._law_prime ds 23 := ⟨n23, 21, rfl, rfl, at21⟩
theorem at24 : At._law_number ds 24 := ⟨n24, 20, rfl, rfl, at20⟩
theorem at25 : At._law_numbers ds 25 := ⟨n25, 24, rfl, rfl, at24⟩
theorem at26 : At._law_cut ds 26 := ⟨n26, rfl, rfl⟩
theorem at27 : At._law_line ds 27 := ⟨n27, 20, 25, 26, rfl, rfl, at20, at25, at26⟩
theorem at28 : At._law_at ds 28 := ⟨n28, rfl, rfl⟩
theorem at29 : At._law_inverse ds 29 := ⟨n29, rfl, rfl⟩
theorem at30 : At._law_through ds 30 := ⟨n30, 29, 26, rfl, rfl, at29, at26⟩
theorem at31 : At._law_is_line ds 31 := ⟨n31, rfl, rfl⟩
theorem at_at : At.at ds 17 := at17
theorem at_through : At.through ds 19 := at19
theorem at__law_taken : At._law_taken ds 20 := at20
theorem at__law_alike : At._law_alike ds 22 := at22
theorem at__law_prime : At._law_prime ds 23 := at23
theorem at__law_number : At._law_number ds 24 := at24
theorem at__law_numbers : At._law_numbers ds 25 := at25
theorem at__law_line : At._law_line ds 27 := at27
theorem at__law_at : At._law_at ds 28 := at28
theorem at__law_through : At._law_through ds 30 := at30
theorem at__law_is_line : At._law_is_line ds 31 := at31
end K02
set_option Elab.async false
set_option linter.all false
set_option maxRecDepth 100000
set_option maxHeartbeats 4000000
namespace K02
open PySem Px Mz
section
variable {m rest : Mem} {p : Nat} [hp : PrL p]
theorem zr_zn' {j : Nat} (h : j < p) : zr (zn p j) = j := by rw [← zc_n, zr_of (by omega) (by omega)]
theorem lcGo_relG {g : List (Nat × List PV)} {bind : PV → Px.Env → Mem → Res Px.Env} {cnd : Px.Env → Mem → Res Bool} {el : Px.Env → Mem → Res PV} {η : Px.Env} (P : Nat → List PV → Mem → Prop) (hg : ∀ j ws m, P j ws m → guards g m = true) : ∀ (xs : List PV) (i0 : Nat) (ws : List PV) {m : Mem}, P i0 ws m →
    (∀ i (h : i < xs.length) ws m, P (i0 + i) ws m → ∃ η1 m1 v m2, bind xs[i] η m = .ok η1 m1 ∧ cnd η1 m1 = .ok true m1 ∧ el η1 m1 = .ok v m2 ∧ P (i0 + i + 1) (ws ++ [v]) m2) →
    ∃ vs m', lcGo g bind cnd el η xs m = .ok vs m' ∧ P (i0 + xs.length) (ws ++ vs) m'
  | [], i0, ws, m, h0, _ => ⟨[], m, by rw [lcGo, if_pos (hg _ _ _ h0)], by simpa using h0⟩
  | x :: xs, i0, ws, m, h0, hs => by
    obtain ⟨η1, m1, v, m2, e1, e2, e3, h2⟩ := hs 0 (by simp) ws m h0
    obtain ⟨vs, m', e4, h3⟩ := lcGo_relG (cnd := cnd) (el := el) P hg xs (i0 + 1) (ws ++ [v]) (m := m2) h2 fun i h ws m hP => by
      have := hs (i + 1) (by simpa using h) ws m (by rw [show i0 + (i + 1) = i0 + 1 + i from by omega]; exact hP)
      rw [show i0 + (i + 1) = i0 + 1 + i from by omega] at this
      exact this
    refine ⟨v :: vs, m', ?_, by rw [show i0 + (x :: xs).length = i0 + 1 + xs.length from by simp; omega]; simpa using h3⟩
    have e1' : bind x η m = .ok η1 m1 := e1
    rw [lcGo, if_pos (hg _ _ _ h0), e1', Res.bind_ok, e2, Res.bind_ok, if_pos rfl, e3, Res.bind_ok, e4]; rfl
theorem lcGo_noneG {g : List (Nat × List PV)} {bind : PV → Px.Env → Mem → Res Px.Env} {cnd : Px.Env → Mem → Res Bool} {el : Px.Env → Mem → Res PV} {η : Px.Env} {m : Mem} (hg : guards g m = true) : ∀ (xs : List PV), (∀ x ∈ xs, ∃ η1, bind x η m = .ok η1 m ∧ cnd η1 m = .ok false m) → lcGo g bind cnd el η xs m = .ok [] m
  | [], _ => by rw [lcGo, if_pos hg]
  | x :: xs, h => by
    obtain ⟨η1, h1, h2⟩ := h x List.mem_cons_self
    rw [lcGo, if_pos hg, h1]
    simp only [Res.bind_ok, h2, Bool.false_eq_true, if_false]
    exact lcGo_noneG hg xs fun y hy => h y (List.mem_cons_of_mem _ hy)
theorem lcGo_mapG' {α : Type} {g : List (Nat × List PV)} {bind : PV → Px.Env → Mem → Res Px.Env} {cnd : Px.Env → Mem → Res Bool} {el : Px.Env → Mem → Res PV} {η : Px.Env} {m : Mem} (hg : guards g m = true) (f q : α → PV) : ∀ (ys : List α), (∀ y ∈ ys, ∃ η1, bind (f y) η m = .ok η1 m ∧ cnd η1 m = .ok true m ∧ el η1 m = .ok (q y) m) → lcGo g bind cnd el η (ys.map f) m = .ok (ys.map q) m
  | [], _ => by rw [List.map_nil, lcGo, if_pos hg]; rfl
  | y :: ys, h => by
    obtain ⟨η1, h1, h2, h3⟩ := h y List.mem_cons_self
    have ih := lcGo_mapG' hg f q ys fun x hx => h x (List.mem_cons_of_mem _ hx)
    rw [List.map_cons, lcGo, if_pos hg, h1]
    simp only [fY, h2, h3, ih, if_true, List.map_cons]
def pts0 (vs : List (Zp p)) : List (Zp p × Zp p) := ((List.range vs.length).zip vs).map fun q => (zn p q.1, q.2)
theorem pts0_len (vs : List (Zp p)) : (pts0 vs).length = vs.length := by simp [pts0]
theorem pts0_fst (vs : List (Zp p)) : (pts0 vs).map (·.1) = (List.range vs.length).map (zn p) := by
  rw [pts0, List.map_map]
  show ((List.range vs.length).zip vs).map (fun q => zn p q.1) = _
  have : ∀ (l : List Nat) (r : List (Zp p)), l.length = r.length → (l.zip r).map (fun q => zn p q.1) = l.map (zn p) := by
    intro l
    induction l with
    | nil => intro r _; rfl
    | cons a l ih =>
      intro r h
      cases r with
      | nil => simp at h
      | cons b r => simp only [List.zip_cons_cons, List.map_cons]; rw [ih r (by simpa using h)]
  exact this _ _ (by simp)
theorem newton_lag {vs : List (Zp p)} (h : vs.length ≤ p) : newton (pts0 vs) = lag vs := by
  obtain ⟨c1, c2, c3⟩ := lag_ok vs h
  refine newton_unique (by rw [pts0_fst]; exact nodes_nodup h) c1 (by rw [pts0_len]; exact c2) fun q hq => ?_
  obtain ⟨y, hy, rfl⟩ := List.mem_map.mp hq
  obtain ⟨j, hj⟩ := List.mem_iff_getElem?.mp hy
  obtain ⟨h1, h2⟩ := List.getElem?_zip_eq_some.mp hj
  have hjl : j < vs.length := (List.getElem?_eq_some_iff.mp h2).1
  have e1 : y.1 = j := by
    rw [List.getElem?_range hjl] at h1; exact (Option.some.inj h1).symm
  show pev (lag vs) (zn p y.1) = y.2
  rw [e1, c3 j hjl, List.getD_eq_getElem?_getD, h2]; rfl
theorem enum_pts {vs : List (Zp p)} (h : vs.length ≤ p) : enumV (nvs vs) = (pts0 vs).map ptv := by
  have := enum_map (fun a : Zp p => PV.int (zr a)) vs
  rw [show nvs vs = vs.map fun a => PV.int (zr a) from rfl, this, pts0, List.map_map]
  refine List.map_congr_left fun q hq => ?_
  have hj := List.mem_range.mp (List.of_mem_zip hq).1
  show PV.tup [.int (q.1 : Nat), _] = PV.tup [.int (zr (zn p q.1)), _]
  rw [zr_zn' (by omega)]
theorem newton_rev {pts : List (Zp p × Zp p)} (hn : (pts.map (·.1)).Nodup) : newton pts.reverse = newton pts := by
  obtain ⟨c1, c2, c3⟩ := newton_ok hn
  refine newton_unique (by rw [List.map_reverse]; exact (List.reverse_perm _).nodup_iff.mpr hn) c1 (by simpa using c2) fun q hq => c3 q (List.mem_reverse.mp hq)
theorem newton_line {P : List (Zp p)} (hn : P.Nodup) {l : List (Zp p)} (hc : Cut l) (hl : l.length ≤ P.length) : newton (P.map fun a => (a, pev l a)) = l := by
  refine newton_unique (by rw [List.map_map]; simpa [Function.comp_def] using hn) hc (by simpa using hl) fun q hq => ?_
  obtain ⟨a, _, rfl⟩ := List.mem_map.mp hq
  rfl
end
end K02
set_option Elab.async false
set_option linter.all false
set_option maxRecDepth 100000
set_option maxHeartbeats 4000000
namespace K02
open PySem Px Mz
section
variable {m rest : Mem} {p : Nat} [hp : PrL p]
theorem nin_nvs {y : PV} {P : List (Zp p)} (hy : asS m y = some (nvs P)) (a : Zp p) : opCmp m .nin (.int (zr a)) y = .ok (.bl (!decide (a ∈ P))) m := by
  have f : (nvs P).all flat = true := by
    rw [List.all_eq_true]
    intro x hx
    obtain ⟨b, _, rfl⟩ := List.mem_map.mp hx
    rfl
  have g : ((nvs P).any fun z => eqF z (.int (zr a))) = decide (a ∈ P) := by
    by_cases h : a ∈ P
    · rw [decide_eq_true h, List.any_eq_true]
      exact ⟨.int (zr a), List.mem_map.mpr ⟨a, h, rfl⟩, by simp [eqF]⟩
    · rw [decide_eq_false h, List.any_eq_false]
      intro x hx
      obtain ⟨b, hb, rfl⟩ := List.mem_map.mp hx
      simp only [eqF, decide_eq_true_eq]
      intro z
      exact h (zr_inj z ▸ hb)
  simp only [opCmp, hy, f, flat, Bool.and_self, if_true, g]
theorem gd1 (x : Ob) (xs : List PV) : guards [(1, xs)] (x :: [.lst xs]) = true := by simp [guards, PV.beqA_refl]
theorem al {x : PV} (h : x.okd 2 = true) : callF ds 59 22 [x, x] m = .ok (.bl true) m := alike_self at__law_alike 2 x h (by decide) 56 m
theorem places_loop {ns : List Int} {x : Ob} (hx : Row ns x) (n : Nat) (hn : n ≤ 10) : ∃ x' P u4 u5, frGo [] (bnd (callF ds 59) (.nm 4)) (evSs (callF ds 59) [.asg (.nm 5) (.call 24 [.var 1, .var 2]), .iff (.cmp .nin (.var 5) (.var 3)) [.ex (.mt .append (.var 3) [.var 5])] []]) ((List.range n).map fun i : Nat => PV.int i)
    [some (.scr ns), some (.loc 0), some (.int p), some (.loc 1), none, none, none, none, none, none, none, none] (x :: [.lst []]) = .nx [some (.scr ns), some (.loc 0), some (.int p), some (.loc 1), u4, u5, none, none, none, none, none, none] (x' :: [.lst (nvs P)]) ∧ Row ns x' ∧ (P : List (Zp p)).Nodup ∧ P.length ≤ n := by
  obtain ⟨η', m', eF, x', P, u4, u5, rfl, rfl, r', nd, hl⟩ := frGo_rel (bind := bnd (callF ds 59) (.nm 4)) (body := evSs (callF ds 59) [.asg (.nm 5) (.call 24 [.var 1, .var 2]), .iff (.cmp .nin (.var 5) (.var 3)) [.ex (.mt .append (.var 3) [.var 5])] []])
    (fun j η m => ∃ x' P u4 u5, η = [some (.scr ns), some (.loc 0), some (.int p), some (.loc 1), u4, u5, none, none, none, none, none, none] ∧ m = x' :: [.lst (nvs (P : List (Zp p)))] ∧ Row ns x' ∧ P.Nodup ∧ P.length ≤ j)
    ((List.range n).map fun i : Nat => PV.int i) 0 (η := [some (.scr ns), some (.loc 0), some (.int p), some (.loc 1), none, none, none, none, none, none, none, none]) (m := x :: [.lst []]) ⟨x, [], none, none, rfl, rfl, hx, List.nodup_nil, Nat.le_refl _⟩ (by
      rintro j hj η m ⟨x1, P, u4, u5, rfl, rfl, r1, nd, hl⟩
      have hjn : j < n := by simpa using hj
      have hidx : ((List.range n).map fun i : Nat => PV.int i)[j]'hj = .int j := by simp
      rw [hidx]
      obtain ⟨a, x2, e1, r2⟩ := law_number_z (p := p) (k := 57) (rest := [.lst (nvs P)]) at__law_number r1
      have ni := nin_nvs (m := x2 :: [.lst (nvs P)]) (y := .loc 1) (P := P) rfl a
      have mtg : ∀ q : Res PV, mtG .append (x2 :: [.lst (nvs P)]) (.loc 1) q = q := fun q => mtG_last .append (.inl rfl) [x2] (nvs P) q
      have ap : opMt (x2 :: [.lst (nvs P)]) .append (.loc 1) [.int (zr a)] = .ok .non (x2 :: [.lst (nvs (P ++ [a]))]) := by
        have e := append_last [x2] (nvs P) (.int (zr a)) (by rw [nvs_len]; exact Nat.lt_of_le_of_lt (show P.length ≤ 100 by omega) (by decide))
        rw [show nvs (P ++ [a]) = nvs P ++ [.int (zr a)] from by simp [nvs]]
        exact e
      by_cases ha : a ∈ P
      · rw [decide_eq_true ha] at ni
        refine ⟨_, _, _, _, cK, ?_, x2, P, some (.int j), some (.int (zr a)), rfl, rfl, r2, nd, by omega⟩
        simp only [aB, aC, aD, aE, aF, aG, aH, aI, aJ, aK, aL, aM, aN, aO, aP, aQ, aR, aS, aT, aU, aV, aW, aX, aY, aZ, bA, bB, bC, bD, bE, bF, bG, bH, bI, bJ, bK, bL, bM, bN, bO, bP, bQ, bR, bS, bT, bU, bV, bW, bX, bY, bZ, cA, cB, cC, cD, cE, cF, cG, cH, cI, cJ, cK, cL, cM, cN, cO, cP, cQ, cR, cS, cT, cU, cW, cX, cY, cZ, dA, dB, dC, dD, dE, dF, dG, dH, dI, dJ, dL, dM, dN, dO, dP, dQ, dR, dS, dT, dU, dV, dW, dX, dY, dZ, eA, eB, eC, eE, eG, eH, eI, eJ, eK, eL, eM, eN, eO, eP, aA, eQ, eR, eS, eT, eU, eV, eW, eX, eY, eZ, fA, fB, fC, fE, fF, fG, fH, fI, fJ, fK, fL, fM, fN, fO, fP, fQ, fR, fS, fT, fU, fV, fW, fX, fY, Res.bind_ex, Res.bind_no, fZ, gA, Res.st_ex, Res.st_no, gB, gC, gD, gE, gF, gG, gH, gI, gJ, gK, List.set_cons_zero, List.set_cons_succ, List.length_cons, List.length_nil, List.map_cons, List.map_nil, List.replicate, List.cons_append, List.nil_append, Nat.reduceSub, Nat.reduceAdd, Nat.reduceLT, List.append_nil, if_true, if_false, Bool.false_eq_true, ite_true, ite_false, decide_true, decide_false, Bool.not_true, Bool.not_false, jE, jF, jG, jH, jI, jJ, jK, jL, jM, jN, jO, jP, jQ, jR, jS, jT, jU, jV, jW, jX, jY, jZ, kA, kB, kC, kD, kE, kF, kG, kH, kI, kJ, kK, kL, kM, kN, kO, kP, kQ, kR, kS, kT, kU, kW, kX, kY, kZ, lA, lB, lC, lD, lE, lG, lH, lI, lJ, lK, lM, lN, lO, lP, lQ, lR, lU, lV, lW, lX, lY, lZ, mA, mB, mC, mD, mE, mF, mG, mH, mI, mJ, mK, mL, mM, mN, mO, mP, mQ, mR, mS, mT, mU, mV, mW, mX, mY, mZ, nA, nB, nC, nE, nF, gL, gM, gN, gO, gP, gQ, gR, gS, gT, gU, gV, gW, gX, gY, gZ, hA, hC, hE, hI, hJ, hU, hW, hX, hZ, iA, iB, iC, iD, iE, iF, iG, iH, iI, iJ, iK, iL, iM, iN, iO, iP, iQ, iR, iS, iT, iU, iV, iW, iX, iY, iZ, jA, jB, jC, jD, e1, ni]
      · rw [decide_eq_false ha] at ni
        refine ⟨_, _, _, _, cK, ?_, x2, P ++ [a], some (.int j), some (.int (zr a)), rfl, rfl, r2, ?_, by simp; omega⟩
        · simp only [aB, aC, aD, aE, aF, aG, aH, aI, aJ, aK, aL, aM, aN, aO, aP, aQ, aR, aS, aT, aU, aV, aW, aX, aY, aZ, bA, bB, bC, bD, bE, bF, bG, bH, bI, bJ, bK, bL, bM, bN, bO, bP, bQ, bR, bS, bT, bU, bV, bW, bX, bY, bZ, cA, cB, cC, cD, cE, cF, cG, cH, cI, cJ, cK, cL, cM, cN, cO, cP, cQ, cR, cS, cT, cU, cW, cX, cY, cZ, dA, dB, dC, dD, dE, dF, dG, dH, dI, dJ, dL, dM, dN, dO, dP, dQ, dR, dS, dT, dU, dV, dW, dX, dY, dZ, eA, eB, eC, eE, eG, eH, eI, eJ, eK, eL, eM, eN, eO, eP, aA, eQ, eR, eS, eT, eU, eV, eW, eX, eY, eZ, fA, fB, fC, fE, fF, fG, fH, fI, fJ, fK, fL, fM, fN, fO, fP, fQ, fR, fS, fT, fU, fV, fW, fX, fY, Res.bind_ex, Res.bind_no, fZ, gA, Res.st_ex, Res.st_no, gB, gC, gD, gE, gF, gG, gH, gI, gJ, gK, List.set_cons_zero, List.set_cons_succ, List.length_cons, List.length_nil, List.map_cons, List.map_nil, List.replicate, List.cons_append, List.nil_append, Nat.reduceSub, Nat.reduceAdd, Nat.reduceLT, List.append_nil, if_true, if_false, Bool.false_eq_true, ite_true, ite_false, decide_true, decide_false, Bool.not_true, Bool.not_false, jE, jF, jG, jH, jI, jJ, jK, jL, jM, jN, jO, jP, jQ, jR, jS, jT, jU, jV, jW, jX, jY, jZ, kA, kB, kC, kD, kE, kF, kG, kH, kI, kJ, kK, kL, kM, kN, kO, kP, kQ, kR, kS, kT, kU, kW, kX, kY, kZ, lA, lB, lC, lD, lE, lG, lH, lI, lJ, lK, lM, lN, lO, lP, lQ, lR, lU, lV, lW, lX, lY, lZ, mA, mB, mC, mD, mE, mF, mG, mH, mI, mJ, mK, mL, mM, mN, mO, mP, mQ, mR, mS, mT, mU, mV, mW, mX, mY, mZ, nA, nB, nC, nE, nF, gL, gM, gN, gO, gP, gQ, gR, gS, gT, gU, gV, gW, gX, gY, gZ, hA, hC, hE, hI, hJ, hU, hW, hX, hZ, iA, iB, iC, iD, iE, iF, iG, iH, iI, iJ, iK, iL, iM, iN, iO, iP, iQ, iR, iS, iT, iU, iV, iW, iX, iY, iZ, jA, jB, jC, jD, e1, ni, mtg, ap]
        · exact List.nodup_append.mpr ⟨nd, by simp, fun b hb c hc => by rw [List.mem_singleton.mp hc]; exact fun z => ha (z ▸ hb)⟩)
  rw [List.length_map, List.length_range, Nat.zero_add] at hl
  exact ⟨x', P, u4, u5, eF, r', nd, hl⟩
end
end K02
set_option Elab.async false
set_option linter.all false
set_option maxRecDepth 100000
set_option maxHeartbeats 4000000
namespace K02
open PySem Px Mz
section
variable {m rest : Mem} {p : Nat} [hp : PrL p]
theorem pts_comp {ns : List Int} {P : List (Zp p)} {x : Ob} (hx : Row ns x) {a0 u4 : Option PV} : ∃ (x' : Ob) (L : List (Zp p × Zp p)), lcGo [(1, nvs P)] (bnd (callF ds 59) (.nm 5)) (evC (callF ds 59) none) (evE (callF ds 59) (.tup [.var 5, .call 24 [.var 1, .var 2]])) [a0, some (.loc 0), some (.int p), some (.loc 1), u4, none, none, none, none, none, none, none] (nvs P) (x :: [.lst (nvs P)]) = .ok (L.map ptv) (x' :: [.lst (nvs P)]) ∧ Row ns x' ∧ L.map (·.1) = P := by
  obtain ⟨vs, m', e, x', L, hm, hr, hv, hL⟩ := lcGo_relG (bind := bnd (callF ds 59) (.nm 5)) (cnd := evC (callF ds 59) none) (el := evE (callF ds 59) (.tup [.var 5, .call 24 [.var 1, .var 2]])) (η := [a0, some (.loc 0), some (.int p), some (.loc 1), u4, none, none, none, none, none, none, none])
    (fun j ws m => ∃ (x' : Ob) (L : List (Zp p × Zp p)), m = x' :: [.lst (nvs P)] ∧ Row ns x' ∧ ws = L.map ptv ∧ L.map (·.1) = P.take j) (fun j ws m ⟨x', L, hm, _⟩ => by rw [hm]; exact gd1 x' (nvs P)) (nvs P) 0 [] (m := x :: [.lst (nvs P)]) ⟨x, [], rfl, hx, rfl, rfl⟩ (by
      rintro j hj ws m ⟨x1, L, rfl, r1, rfl, hL⟩
      have hjP : j < P.length := by rw [nvs_len] at hj; exact hj
      obtain ⟨a, x2, e1, r2⟩ := law_number_z (p := p) (k := 57) (rest := [.lst (nvs P)]) at__law_number r1
      have hidx : (nvs P)[j]'hj = .int (zr P[j]) := by simp [nvs]
      rw [hidx]
      refine ⟨_, _, ptv (P[j], a), x2 :: [.lst (nvs P)], cK, bN, by simp only [aB, aC, aD, aE, aF, aG, aH, aI, aJ, aK, aL, aM, aN, aO, aP, aQ, aR, aS, aT, aU, aV, aW, aX, aY, aZ, bA, bB, bC, bD, bE, bF, bG, bH, bI, bJ, bK, bL, bM, bN, bO, bP, bQ, bR, bS, bT, bU, bV, bW, bX, bY, bZ, cA, cB, cC, cD, cE, cF, cG, cH, cI, cJ, cK, cL, cM, cN, cO, cP, cQ, cR, cS, cT, cU, cW, cX, cY, cZ, dA, dB, dC, dD, dE, dF, dG, dH, dI, dJ, dL, dM, dN, dO, dP, dQ, dR, dS, dT, dU, dV, dW, dX, dY, dZ, eA, eB, eC, eE, eG, eH, eI, eJ, eK, eL, eM, eN, eO, eP, aA, eQ, eR, eS, eT, eU, eV, eW, eX, eY, eZ, fA, fB, fC, fE, fF, fG, fH, fI, fJ, fK, fL, fM, fN, fO, fP, fQ, fR, fS, fT, fU, fV, fW, fX, fY, Res.bind_ex, Res.bind_no, fZ, gA, Res.st_ex, Res.st_no, gB, gC, gD, gE, gF, gG, gH, gI, gJ, gK, List.set_cons_zero, List.set_cons_succ, List.length_cons, List.length_nil, List.map_cons, List.map_nil, List.replicate, List.cons_append, List.nil_append, Nat.reduceSub, Nat.reduceAdd, Nat.reduceLT, List.append_nil, if_true, if_false, Bool.false_eq_true, ite_true, ite_false, decide_true, decide_false, Bool.not_true, Bool.not_false, jE, jF, jG, jH, jI, jJ, jK, jL, jM, jN, jO, jP, jQ, jR, jS, jT, jU, jV, jW, jX, jY, jZ, kA, kB, kC, kD, kE, kF, kG, kH, kI, kJ, kK, kL, kM, kN, kO, kP, kQ, kR, kS, kT, kU, kW, kX, kY, kZ, lA, lB, lC, lD, lE, lG, lH, lI, lJ, lK, lM, lN, lO, lP, lQ, lR, lU, lV, lW, lX, lY, lZ, mA, mB, mC, mD, mE, mF, mG, mH, mI, mJ, mK, mL, mM, mN, mO, mP, mQ, mR, mS, mT, mU, mV, mW, mX, mY, mZ, nA, nB, nC, nE, nF, gL, gM, gN, gO, gP, gQ, gR, gS, gT, gU, gV, gW, gX, gY, gZ, hA, hC, hE, hI, hJ, hU, hW, hX, hZ, iA, iB, iC, iD, iE, iF, iG, iH, iI, iJ, iK, iL, iM, iN, iO, iP, iQ, iR, iS, iT, iU, iV, iW, iX, iY, iZ, jA, jB, jC, jD, e1], x2, L ++ [(P[j], a)], rfl, r2, by simp, ?_⟩
      rw [List.map_append, hL, Nat.zero_add, List.take_succ_eq_append_getElem hjP]; rfl)
  subst hm
  rw [List.nil_append] at hv
  subst hv
  rw [nvs_len, Nat.zero_add, List.take_length] at hL
  exact ⟨x', L, e, hr, hL⟩
theorem bad_comp {F : List (Zp p)} {L : List (Zp p × Zp p)} (h : ∀ q ∈ L, pev F q.1 = q.2) {a0 a1 a3 a4 a5 a6 a9 a10 a11 : Option PV} : lcGo [] (bnd (callF ds 59) (.nm 8)) (evC (callF ds 59) (some (.cmp .ne (.call 28 [.var 2, .var 7, .idx (.var 8) (.int 0)]) (.idx (.var 8) (.int 1))))) (evE (callF ds 59) (.var 8)) [a0, a1, some (.int p), a3, a4, a5, a6, some (tv F), none, a9, a10, a11] (L.map ptv) m = .ok [] m := by
  refine lcGo_none _ fun y hy => ⟨_, cK, ?_⟩
  obtain ⟨q, hq, rfl⟩ := List.mem_map.mp hy
  have e := law_at_ok (k := 58) (m := m) at__law_at F q.1
  have e2 : opCmp m .ne (.int (zr q.2)) (.int (zr q.2)) = .ok (.bl false) m := by rw [dV, decide_eq_true rfl]; rfl
  have i0 : opIdx m (ptv q) (.int 0) = .ok (.int (zr q.1)) m := rfl
  have i1 : opIdx m (ptv q) (.int 1) = .ok (.int (zr q.2)) m := rfl
  rw [h q hq] at e
  simp only [bO, aK, aX, bF, bE, aB, dF, dG, aV, aF, fY, List.set_cons_zero, List.set_cons_succ, i0, i1, e, e2, dJ]
theorem line_comp {l P : List (Zp p)} {x : Ob} {a0 a1 u4 a6 a7 a8 a10 a11 : Option PV} : lcGo [(1, nvs P)] (bnd (callF ds 59) (.nm 5)) (evC (callF ds 59) none) (evE (callF ds 59) (.tup [.var 5, .call 28 [.var 2, .var 9, .var 5]])) [a0, a1, some (.int p), some (.loc 1), u4, none, a6, a7, a8, some (tv l), a10, a11] (nvs P) (x :: [.lst (nvs P)]) = .ok ((P.map fun a => (a, pev l a)).map ptv) (x :: [.lst (nvs P)]) := by
  rw [List.map_map]
  refine lcGo_mapG' (gd1 x (nvs P)) (fun a : Zp p => PV.int (zr a)) _ P fun y hy => ⟨_, cK, bN, ?_⟩
  have e := law_at_ok (k := 58) (m := x :: [.lst (nvs P)]) at__law_at l y
  simp only [aB, aC, aD, aE, aF, aG, aH, aI, aJ, aK, aL, aM, aN, aO, aP, aQ, aR, aS, aT, aU, aV, aW, aX, aY, aZ, bA, bB, bC, bD, bE, bF, bG, bH, bI, bJ, bK, bL, bM, bN, bO, bP, bQ, bR, bS, bT, bU, bV, bW, bX, bY, bZ, cA, cB, cC, cD, cE, cF, cG, cH, cI, cJ, cK, cL, cM, cN, cO, cP, cQ, cR, cS, cT, cU, cW, cX, cY, cZ, dA, dB, dC, dD, dE, dF, dG, dH, dI, dJ, dL, dM, dN, dO, dP, dQ, dR, dS, dT, dU, dV, dW, dX, dY, dZ, eA, eB, eC, eE, eG, eH, eI, eJ, eK, eL, eM, eN, eO, eP, aA, eQ, eR, eS, eT, eU, eV, eW, eX, eY, eZ, fA, fB, fC, fE, fF, fG, fH, fI, fJ, fK, fL, fM, fN, fO, fP, fQ, fR, fS, fT, fU, fV, fW, fX, fY, Res.bind_ex, Res.bind_no, fZ, gA, Res.st_ex, Res.st_no, gB, gC, gD, gE, gF, gG, gH, gI, gJ, gK, List.set_cons_zero, List.set_cons_succ, List.length_cons, List.length_nil, List.map_cons, List.map_nil, List.replicate, List.cons_append, List.nil_append, Nat.reduceSub, Nat.reduceAdd, Nat.reduceLT, List.append_nil, if_true, if_false, Bool.false_eq_true, ite_true, ite_false, decide_true, decide_false, Bool.not_true, Bool.not_false, jE, jF, jG, jH, jI, jJ, jK, jL, jM, jN, jO, jP, jQ, jR, jS, jT, jU, jV, jW, jX, jY, jZ, kA, kB, kC, kD, kE, kF, kG, kH, kI, kJ, kK, kL, kM, kN, kO, kP, kQ, kR, kS, kT, kU, kW, kX, kY, kZ, lA, lB, lC, lD, lE, lG, lH, lI, lJ, lK, lM, lN, lO, lP, lQ, lR, lU, lV, lW, lX, lY, lZ, mA, mB, mC, mD, mE, mF, mG, mH, mI, mJ, mK, mL, mM, mN, mO, mP, mQ, mR, mS, mT, mU, mV, mW, mX, mY, mZ, nA, nB, nC, nE, nF, gL, gM, gN, gO, gP, gQ, gR, gS, gT, gU, gV, gW, gX, gY, gZ, hA, hC, hE, hI, hJ, hU, hW, hX, hZ, iA, iB, iC, iD, iE, iF, iG, iH, iI, iJ, iK, iL, iM, iN, iO, iP, iQ, iR, iS, iT, iU, iV, iW, iX, iY, iZ, jA, jB, jC, jD, e]; rfl
theorem last_comp {l P : List (Zp p)} (hc : Cut l) (hl : l.length ≤ 200) {x : Ob} {a0 a1 u4 a6 a7 a8 a9 a10 : Option PV} : lcGo [(1, nvs P)] (bnd (callF ds 59) (.nm 5)) (evC (callF ds 59) (some (.cmp .ne (.call 17 [.var 2, .var 11, .var 5]) (.call 28 [.var 2, .var 11, .var 5])))) (evE (callF ds 59) (.var 5)) [a0, a1, some (.int p), some (.loc 1), u4, none, a6, a7, a8, a9, a10, some (tv l)] (nvs P) (x :: [.lst (nvs P)]) = .ok [] (x :: [.lst (nvs P)]) := by
  refine lcGo_noneG (gd1 x (nvs P)) _ fun y hy => ⟨_, cK, ?_⟩
  obtain ⟨a, _, rfl⟩ := List.mem_map.mp hy
  have e := law_at_ok (k := 58) (m := x :: [.lst (nvs P)]) at__law_at l a
  have e1 := at_ok (k := 52) (m := x :: [.lst (nvs P)]) at_at hc hl a
  have e2 : opCmp (x :: [.lst (nvs P)]) .ne (.int (zr (pev l a))) (.int (zr (pev l a))) = .ok (.bl false) (x :: [.lst (nvs P)]) := by rw [dV, decide_eq_true rfl]; rfl
  simp only [bO, aK, aX, bF, bE, aB, dF, dG, fY, List.set_cons_zero, List.set_cons_succ, e, e1, e2, dJ]
end
theorem holds (ns : List Int) (h63 : ns.length ≤ 63) : ∃ m, callF ds 60 32 [.scr ns] [] = .ok (.bl true) m := by
  have r0 : Row ns (.lst [.scr ns, .int 0, .int 5602, .int 0]) := ⟨0, 5602, 0, rfl, by decide, by decide, by decide⟩
  obtain ⟨p, x1, e1, r1, hp⟩ := law_prime_p (k := 56) (rest := []) at__law_prime r0
  have p5 := hp.p5
  obtain ⟨n, x2, e2, r2, hn⟩ := law_taken_ok (k := 58) (rest := [.lst []]) at__law_taken r1 (many := 10) (by decide) (by decide)
  obtain ⟨x3, P, u4, u5, e3, r3, nd, hP⟩ := places_loop (p := p) r2 n (by omega)
  obtain ⟨x4, L, e4, r4, hL⟩ := pts_comp (p := p) (P := P) (a0 := some (.scr ns)) (u4 := u4) r3
  have Ll : L.length = P.length := by rw [← hL, List.length_map]
  have ndL : (L.map (·.1)).Nodup := by rw [hL]; exact nd
  obtain ⟨n1, n2, n3⟩ := newton_ok ndL
  have e5 := through_ok (k := 54) (m := x4 :: [.lst (nvs P)]) at_through ndL (by omega)
  have e6 := law_is_line_ok (k := 58) (m := x4 :: [.lst (nvs P)]) at__law_is_line n1 (by omega)
  have dg : decide (((newton L).length : Int) > (L.length : Int)) = false := decide_eq_false (by omega)
  have lL : ∀ m, opBf m .len [.tup (L.map ptv)] = .ok (.int L.length) m := fun m => by rw [len_tup, List.length_map]
  have e7 := bad_comp (m := x4 :: [.lst (nvs P)]) n3 (a0 := some (.scr ns)) (a1 := some (.loc 0)) (a3 := some (.loc 1)) (a4 := u4) (a5 := u5) (a6 := some (.tup (L.map ptv))) (a9 := none) (a10 := none) (a11 := none)
  obtain ⟨l, x5, e8, r5, lc, ll⟩ := law_line_ok (p := p) (k := 55) (rest := [.lst (nvs P)]) at__law_line r4 (most := L.length) (by omega)
  have e9 := line_comp (l := l) (P := P) (x := x5) (a0 := some (.scr ns)) (a1 := some (.loc 0)) (u4 := u4) (a6 := some (.tup (L.map ptv))) (a7 := some (tv (newton L))) (a8 := none) (a10 := none) (a11 := none)
  have e10 := through_ok (k := 54) (m := x5 :: [.lst (nvs P)]) at_through (pts := P.map fun a => (a, pev l a)) (by rw [List.map_map]; simpa [Function.comp_def] using nd) (by simp; omega)
  rw [newton_line nd lc (by omega)] at e10
  have e11 := ne_self (m := x5 :: [.lst (nvs P)]) (x := tv l) (okd_mono 1 64 _ (by decide) (okd_tv (by omega)))
  have e12 := through_ok (k := 54) (m := x5 :: [.lst (nvs P)]) at_through (pts := L.reverse) (by rw [List.map_reverse]; exact (List.reverse_perm _).nodup_iff.mpr ndL) (by simp; omega)
  rw [newton_rev ndL, List.map_reverse] at e12
  have e13 := ne_self (m := x5 :: [.lst (nvs P)]) (x := tv (newton L)) (okd_mono 1 64 _ (by decide) (okd_tv (by omega)))
  have rv : rvE (x5 :: [.lst (nvs P)]) (.tup (L.map ptv)) = .ok (.tup (L.map ptv).reverse) (x5 :: [.lst (nvs P)]) := rfl
  have mn : opBf (x5 :: [.lst (nvs P)]) .min [.int p, .int 5] = .ok (.int 5) (x5 :: [.lst (nvs P)]) := by
    show Res.ok (PV.int (if (5 : Int) < (p : Int) then (5 : Int) else (p : Int))) _ = _
    by_cases h : 5 < p
    · rw [if_pos (by omega)]
    · rw [if_neg (by omega)]
      have e : (p : Int) = 5 := by omega
      rw [e]
  obtain ⟨vs, x6, e14, r6, hvs⟩ := law_numbers_z (p := p) (k := 56) (rest := [.lst (nvs P)]) at__law_numbers r5 (n := 5) (by decide)
  have e15 := law_through_ok (k := 57) (m := x6 :: [.lst (nvs P)]) at__law_through (isq_t (nvs vs)) (by omega)
  obtain ⟨c1, c2, c3⟩ := lag_ok vs (by omega)
  have e16 := through_ok (k := 54) (m := x6 :: [.lst (nvs P)]) at_through (pts := pts0 vs) (by rw [pts0_fst]; exact nodes_nodup (by omega)) (by rw [pts0_len]; omega)
  rw [newton_lag (by omega), ← enum_pts (by omega)] at e16
  have te : tenQ (x6 :: [.lst (nvs P)]) (tv vs) = .ok (.tup (enumV (nvs vs))) (x6 :: [.lst (nvs P)]) := rfl
  have e17 := al (m := x6 :: [.lst (nvs P)]) (x := tv (lag vs)) (okd_tv (by omega))
  have e18 := last_comp (l := lag vs) (P := P) c1 (by omega) (x := x6) (a0 := some (.scr ns)) (a1 := some (.loc 0)) (u4 := u4) (a6 := some (.tup (L.map ptv))) (a7 := some (tv (newton L))) (a8 := none) (a9 := some (tv l)) (a10 := some (tv vs))
  have gc : ∀ (m m' : Mem) (v : PV), ∃ m2, gcP m (.ok v m') = .ok v m2 := fun m m' v => by
    simp only [gcP]; split
    · exact ⟨_, rfl⟩
    · exact ⟨_, rfl⟩
  have sq : ∀ x : Ob, srcSq (x :: [.lst (nvs P)]) (.loc 1) = .ok (nvs P, [(1, nvs P)]) (x :: [.lst (nvs P)]) := fun x => rfl
  have hl : ((nvs P).length ≤ LINE) = True := by rw [nvs_len]; exact le_lineT (by omega)
  have hl2 : ((L.map ptv).length ≤ LINE) = True := by rw [List.length_map]; exact le_lineT (by omega)
  have nn : ∀ m : Mem, opCmp m .ne (.lst []) (.lst []) = .ok (.bl false) m := fun m => rfl
  simp only [gQ] at e14
  rw [call_at (n := 12) rfl (show ds[32]? = some ⟨n32, 1, b32⟩ from rfl)]
  simp only [b32, B.law_k02, aB, aC, aD, aE, aF, aG, aH, aI, aJ, aK, aL, aM, aN, aO, aP, aQ, aR, aS, aT, aU, aV, aW, aX, aY, aZ, bA, bB, bC, bD, bE, bF, bG, bH, bI, bJ, bK, bL, bM, bN, bO, bP, bQ, bR, bS, bT, bU, bV, bW, bX, bY, bZ, cA, cB, cC, cD, cE, cF, cG, cH, cI, cJ, cK, cL, cM, cN, cO, cP, cQ, cR, cS, cT, cU, cW, cX, cY, cZ, dA, dB, dC, dD, dE, dF, dG, dH, dI, dJ, dL, dM, dN, dO, dP, dQ, dR, dS, dT, dU, dV, dW, dX, dY, dZ, eA, eB, eC, eE, eG, eH, eI, eJ, eK, eL, eM, eN, eO, eP, aA, eQ, eR, eS, eT, eU, eV, eW, eX, eY, eZ, fA, fB, fC, fE, fF, fG, fH, fI, fJ, fK, fL, fM, fN, fO, fP, fQ, fR, fS, fT, fU, fV, fW, fX, fY, Res.bind_ex, Res.bind_no, fZ, gA, Res.st_ex, Res.st_no, gB, gC, gD, gE, gF, gG, gH, gI, gJ, gK, List.set_cons_zero, List.set_cons_succ, List.length_cons, List.length_nil, List.map_cons, List.map_nil, List.replicate, List.cons_append, List.nil_append, Nat.reduceSub, Nat.reduceAdd, Nat.reduceLT, List.append_nil, if_true, if_false, Bool.false_eq_true, ite_true, ite_false, decide_true, decide_false, Bool.not_true, Bool.not_false, jE, jF, jG, jH, jI, jJ, jK, jL, jM, jN, jO, jP, jQ, jR, jS, jT, jU, jV, jW, jX, jY, jZ, kA, kB, kC, kD, kE, kF, kG, kH, kI, kJ, kK, kL, kM, kN, kO, kP, kQ, kR, kS, kT, kU, kW, kX, kY, kZ, lA, lB, lC, lD, lE, lG, lH, lI, lJ, lK, lM, lN, lO, lP, lQ, lR, lU, lV, lW, lX, lY, lZ, mA, mB, mC, mD, mE, mF, mG, mH, mI, mJ, mK, mL, mM, mN, mO, mP, mQ, mR, mS, mT, mU, mV, mW, mX, mY, mZ, nA, nB, nC, nE, nF, gL, gM, gN, gO, gP, gQ, gR, gS, gT, gU, gV, gW, gX, gY, gZ, hA, hC, hE, hI, hJ, hU, hW, hX, hZ, iA, iB, iC, iD, iE, iF, iG, iH, iI, iJ, iK, iL, iM, iN, iO, iP, iQ, iR, iS, iT, iU, iV, iW, iX, iY, iZ, jA, jB, jC, jD, e1, e2, srcRg_0n (show n ≤ 1000000 by omega), e3, sq, hl, wipeP, e4, bf_tuple, e5, e6, len_tv, lL, dg, srcSq_tup, hl2, e7, nn, e8, e9, e10, e11, rv, e12, e13, mn, e14, e15, te, e16, e17, e18]
  exact gc _ _ _
end K02
set_option Elab.async false
set_option linter.all false
set_option maxRecDepth 100000
set_option maxHeartbeats 4000000
namespace Px
open PySem PyProof.Rows
def G0 : XG := fun _ => none
theorem def_at {P : Program} {w : World} {K : PySem.W.Frag} {mg : Str → Option Value} {c : Chk} {ds : List Def} {i : Nat} {x : Str} {f : Addr} {ps : List Str} {st : Stmt} {d : Def} {oc : Value} {od an : Option Addr} {osl : Array (Option Value)} {kV doc pm cdv ct : Value}
    (m : mg x = some (.ref f)) (l : K.lookup f = some ⟨oc, od, .func (PySem.W.fnOf x x (dArgs st) (dBody st) (dScope st) .none kV doc pm an cdv ct), osl⟩) (cd : PySem.W.codeIn K cdv x = true) (kp : PySem.W.keepIn K (.ref f) = true)
    (e : ds[i]? = some d) (hd : c.dfl.getD i [] = []) (S : L2.FnScope d.N ps (dScope st)) (hl : ps.length = d.np) (ck : chkSs { c with N := d.N } ⟨dScope st, none⟩ d.body (dBody st) = true)
    (hb : ∀ us : List Value, us.length = ps.length → bindArgs (PySem.W.fnOf x x (dArgs st) (dBody st) (dScope st) .none kV doc pm an cdv ct) ⟨us, []⟩ = pure (ps.zip us)) :
    DefAt P w K mg c ds i x f (PySem.W.fnOf x x (dArgs st) (dBody st) (dScope st) .none kV doc pm an cdv ct) ps := by
  refine ⟨m, kp, ⟨d, st, e, ⟨⟨oc, od, .none, kV, doc, pm, an, cdv, ct, osl, rfl, l, cd, .inl ⟨by rw [hd]; rfl, rfl⟩, .inl rfl⟩, kp⟩, S, hl, ck⟩, fun j hj => ⟨[], .all hb, ?_⟩⟩
  rw [hd, List.drop_nil]
  exact .nil
theorem def_atD {P : Program} {w : World} {K : PySem.W.Frag} {mg : Str → Option Value} {c : Chk} {ds : List Def} {i : Nat} {x : Str} {f : Addr} {ps : List Str} {st : Stmt} {d : Def} {oc : Value} {od an : Option Addr} {osl : Array (Option Value)} {kV doc pm cdv ct : Value} {T : Addr} {o : Obj} {its : List Value} {n : Nat}
    (m : mg x = some (.ref f)) (l : K.lookup f = some ⟨oc, od, .func (PySem.W.fnOf x x (dArgs st) (dBody st) (dScope st) (.ref T) kV doc pm an cdv ct), osl⟩) (cd : PySem.W.codeIn K cdv x = true) (kp : PySem.W.keepIn K (.ref f) = true)
    (lT : K.lookup T = some o) (oT : o.data = .seq its.toArray n) (rT : L2.Vals ((c.dfl.getD i []).map cV) its) (hne : c.dfl.getD i [] ≠ [])
    (e : ds[i]? = some d) (S : L2.FnScope d.N ps (dScope st)) (hl : ps.length = d.np) (ck : chkSs { c with N := d.N } ⟨dScope st, none⟩ d.body (dBody st) = true) (hle : (c.dfl.getD i []).length ≤ ps.length)
    (hb : ∀ j ≤ (c.dfl.getD i []).length, ∀ (T : Addr) (kV doc pm : Value) (an : Option Addr) (cdv ct : Value) (us its : List Value), us.length = ps.length - ((c.dfl.getD i []).length - j) → its.length = (c.dfl.getD i []).length →
      ∃ k, bindArgs (PySem.W.fnOf x x (dArgs st) (dBody st) (dScope st) (.ref T) kV doc pm an cdv ct) ⟨us, []⟩ = seqItems? (.ref T) >>= k ∧ k (some its.toArray) = pure (ps.zip (us ++ its.drop j))) :
    DefAt P w K mg c ds i x f (PySem.W.fnOf x x (dArgs st) (dBody st) (dScope st) (.ref T) kV doc pm an cdv ct) ps := by
  have hn : (c.dfl.getD i []).map cV ≠ [] := by intro z; exact hne (List.map_eq_nil_iff.mp z)
  have FD : L2.FunD K x x (dArgs st) (dBody st) (dScope st) ((c.dfl.getD i []).map cV) [] f (PySem.W.fnOf x x (dArgs st) (dBody st) (dScope st) (.ref T) kV doc pm an cdv ct) :=
    ⟨⟨oc, od, .ref T, kV, doc, pm, an, cdv, ct, osl, rfl, l, cd, .inr ⟨hn, T, o, its, n, rfl, lT, oT, rT⟩, .inl rfl⟩, kp⟩
  refine ⟨m, kp, ⟨d, st, e, FD, S, hl, ck⟩, fun j hj => ?_⟩
  have len : ((c.dfl.getD i []).map cV).length = (c.dfl.getD i []).length := List.length_map _
  obtain ⟨vs, h1, h2⟩ := FD.binds1 (ps := ps) (ps.length - ((c.dfl.getD i []).length - j)) j hn (by rw [len]; omega) (by rw [len]; exact hb j hj)
  exact ⟨vs, h2, by rw [List.map_drop]; exact h1⟩
theorem px_sp {K : PySem.W.Frag} {ds : List Def} {i k : Nat} (hl : ∀ ns : List Int, ns.length ≤ 63 → ∃ m, callF ds k i [.scr ns] [] = .ok (.bl true) m) (H : L2.Hp) (a : Addr) (ns : List Int) (h63 : ns.length ≤ 63) (hO : L2.Only H) (hS : L2.SqL K H a (ns.map L2.V.int)) :
    spF G0 K (callF ds k) i 1 [.ref a] H (fun v _ => v = .bl true) fun _ _ _ => False := by
  obtain ⟨m, e⟩ := hl ns h63
  refine ⟨rfl, [], H, [], [.scr ns], ⟨L2.Same.refl _, rfl, List.nodup_nil, fun l a h => by simp at h, fun l a o h => by simp at h, fun a h => by simp at h, fun b o u h => ?_⟩, .cons (.scr hS) .nil, ?_⟩
  · rcases hO b with h2 | ⟨o2, xs, h2⟩
    · rw [h2] at h; cases h
    · rw [h2] at h; cases h; exact ⟨_, rfl⟩
  · rw [e]
    intro r' F' H' V x R hv
    cases hv
    rfl
structure Top (P : Program) (w : World) (K : PySem.W.Frag) (mg : Str → Option Value) (c : Chk) (ds : List Def) (il : Nat) (x : Str) (fa : Addr) (fd : FuncData) : Prop where
  law : DefAt P w K mg c ds il "law" fa fd [x]
  bind : ∀ (s : Shared) (u : Value), BindsTo s fd ⟨[u], []⟩ [(x, u)]
  defs : ∀ i y, c.fns[i]? = some y → ∃ f fd ps, DefAt P w K mg c ds i y f fd ps
  cst : ∀ y v, c.cst.lookup y = some v → ∃ u V, mg y = some u ∧ L2.RelV V u ∧ ∀ r F, RV K r F v V
  blt : ∀ y ∈ bltNames, mg y = none
theorem px_walk {l : PySem.W.OpenLaw} {q : Program} {loose : List Str} {XP : (Str → Option Value) → Heap → Prop} {YP : World → Heap → Prop} {d : DefRec} {K : Params → PySem.W.Frag} {c : Chk} {ds : List Def} {il k : Nat} {x : Str}
    (hn : l.most = some 63) (hdf : d.params.defaults = []) (hr : L2.Room k callerA) (hY : ∀ (w : World) (h : Heap), YP w h → (K w.params).In h)
    (F : ∀ (w : World) (mg : Str → Option Value) (fa : Addr) (h : Heap), (K w.params).In h → h.Ns mainGlobals mg → mg d.name = some (.ref fa) → ∃ fd, Top l.prog w (K w.params) mg c ds il x fa fd)
    (hl : ∀ ns : List Int, ns.length ≤ 63 → ∃ m, callF ds k il [.scr ns] [] = .ok (.bl true) m) : PySem.W.WalkO q loose XP YP l.row.toRowW d [] (fun f vs => PySem.call f vs) :=
  L2.walk_of (n := 63) (k := k) (x := x) (CX := fun w => L2.CX l.prog w) (sp := fun w => spF G0 (K w.params) (callF ds k) il 1) hn (by decide) hdf hr hY
    (fun w mg fa h KX G hm => by
      obtain ⟨fd, T⟩ := F w mg fa h KX G hm
      exact ⟨fd, T.bind, fun base _ _ => all_ok (G := G0) T.defs T.cst T.blt k il "law" fa fd [x] T.law⟩)
    (fun w H a ns h63 hO hS => px_sp hl H a ns h63 hO hS)
    (fun w H s e s' ⟨_, _, _, _, _, _, _, _, _, _, _, _, z⟩ => z)
end Px
namespace Px
open PySem
inductive AllD (P : Program) (w : World) (K : PySem.W.Frag) (mg : Str → Option Value) (c : Chk) (ds : List Def) : Nat → List Str → Prop where
  | nil {i : Nat} : AllD P w K mg c ds i []
  | cons {i : Nat} {x : Str} {xs : List Str} : (∃ f fd ps, DefAt P w K mg c ds i x f fd ps) → AllD P w K mg c ds (i + 1) xs → AllD P w K mg c ds i (x :: xs)
theorem AllD.getA {P : Program} {w : World} {K : PySem.W.Frag} {mg : Str → Option Value} {c : Chk} {ds : List Def} : ∀ {xs : List Str} {j : Nat}, AllD P w K mg c ds j xs → ∀ i y, xs[i]? = some y → ∃ f fd ps, DefAt P w K mg c ds (j + i) y f fd ps
  | [], _, _, i, y, h => by simp at h
  | _ :: _, _, .cons d _, 0, y, h => by
    simp at h; subst h; exact d
  | _ :: _, j, .cons _ r, i + 1, y, h => by
    have := AllD.getA r i y (by simpa using h)
    rw [show j + (i + 1) = j + 1 + i from by omega]; exact this
theorem AllD.get {P : Program} {w : World} {K : PySem.W.Frag} {mg : Str → Option Value} {c : Chk} {ds : List Def} (h : AllD P w K mg c ds 0 c.fns) (i : Nat) (y : Str) (e : c.fns[i]? = some y) : ∃ f fd ps, DefAt P w K mg c ds i y f fd ps := by
  have := h.getA i y e
  rw [Nat.zero_add] at this; exact this
inductive AllC (K : PySem.W.Frag) (mg : Str → Option Value) : List (Str × PV) → Prop where
  | nil : AllC K mg []
  | cons {y : Str} {v : PV} {r : List (Str × PV)} : (∃ u V, mg y = some u ∧ L2.RelV V u ∧ ∀ r F, RV K r F v V) → AllC K mg r → AllC K mg ((y, v) :: r)
theorem AllC.get {K : PySem.W.Frag} {mg : Str → Option Value} : ∀ {l : List (Str × PV)}, AllC K mg l → ∀ y v, l.lookup y = some v → ∃ u V, mg y = some u ∧ L2.RelV V u ∧ ∀ r F, RV K r F v V
  | _, .nil, y, v, h => by simp at h
  | (x, _) :: _, .cons d t, y, v, h => by
    rw [List.lookup_cons] at h
    split at h
    · rename_i e
      have e : y = x := by simpa using e
      cases h; subst e; exact d
    · exact AllC.get t y v h
inductive AllB (mg : Str → Option Value) : List Str → Prop where
  | nil : AllB mg []
  | cons {y : Str} {r : List Str} : mg y = none → AllB mg r → AllB mg (y :: r)
theorem AllB.get {mg : Str → Option Value} : ∀ {l : List Str}, AllB mg l → ∀ y ∈ l, mg y = none
  | _, .nil, y, h => by cases h
  | _, .cons d t, y, h => by
    rcases List.mem_cons.mp h with rfl | h
    · exact d
    · exact AllB.get t y h
end Px
set_option Elab.async false
set_option linter.all false
set_option maxRecDepth 100000
namespace K02
open PySem Px
def top (i : Nat) : Stmt := PySem.Challenge.pw_pointsenough_k02_whole_lines_through.main.body.getD i (.Pass ⟨0, 0, 0, 0⟩)
abbrev s0 : Stmt := top 10
abbrev s1 : Stmt := top 11
abbrev s2 : Stmt := top 12
abbrev s3 : Stmt := top 13
abbrev s4 : Stmt := top 14
abbrev s5 : Stmt := top 15
abbrev s6 : Stmt := top 16
abbrev s7 : Stmt := top 17
abbrev s8 : Stmt := top 18
abbrev s9 : Stmt := top 19
abbrev s10 : Stmt := top 23
abbrev s11 : Stmt := top 24
abbrev s12 : Stmt := top 25
abbrev s13 : Stmt := top 26
abbrev s14 : Stmt := top 27
abbrev s15 : Stmt := top 28
abbrev s16 : Stmt := top 29
abbrev s17 : Stmt := top 30
abbrev s18 : Stmt := top 31
abbrev s19 : Stmt := top 32
abbrev s20 : Stmt := top 34
abbrev s21 : Stmt := top 35
abbrev s22 : Stmt := top 36
abbrev s23 : Stmt := top 37
abbrev s24 : Stmt := top 38
abbrev s25 : Stmt := top 39
abbrev s26 : Stmt := top 40
abbrev s27 : Stmt := top 41
abbrev s28 : Stmt := top 42
abbrev s29 : Stmt := top 43
abbrev s30 : Stmt := top 44
abbrev s31 : Stmt := top 45
abbrev s32 : Stmt := top 46
theorem sc0 : L2.FnScope n0 ["value"] (dScope s0) := ⟨rfl, rfl, rfl, by decide +kernel, rfl, by decide +kernel, by decide +kernel⟩
theorem ck0 : chkSs { cc with N := n0 } ⟨dScope s0, none⟩ b0 (dBody s0) = true := by decide +kernel
theorem sc1 : L2.FnScope n1 ["value", "low", "high"] (dScope s1) := ⟨rfl, rfl, rfl, by decide +kernel, rfl, by decide +kernel, by decide +kernel⟩
theorem ck1 : chkSs { cc with N := n1 } ⟨dScope s1, none⟩ b1 (dBody s1) = true := by decide +kernel
theorem sc2 : L2.FnScope n2 ["p", "base", "times"] (dScope s2) := ⟨rfl, rfl, rfl, by decide +kernel, rfl, by decide +kernel, by decide +kernel⟩
theorem ck2 : chkSs { cc with N := n2 } ⟨dScope s2, none⟩ b2 (dBody s2) = true := by decide +kernel
theorem sc3 : L2.FnScope n3 ["value", "base"] (dScope s3) := ⟨rfl, rfl, rfl, by decide +kernel, rfl, by decide +kernel, by decide +kernel⟩
theorem ck3 : chkSs { cc with N := n3 } ⟨dScope s3, none⟩ b3 (dBody s3) = true := by decide +kernel
theorem sc4 : L2.FnScope n4 ["value"] (dScope s4) := ⟨rfl, rfl, rfl, by decide +kernel, rfl, by decide +kernel, by decide +kernel⟩
theorem ck4 : chkSs { cc with N := n4 } ⟨dScope s4, none⟩ b4 (dBody s4) = true := by decide +kernel
theorem sc5 : L2.FnScope n5 ["p", "least"] (dScope s5) := ⟨rfl, rfl, rfl, by decide +kernel, rfl, by decide +kernel, by decide +kernel⟩
theorem ck5 : chkSs { cc with N := n5 } ⟨dScope s5, none⟩ b5 (dBody s5) = true := by decide +kernel
theorem sc6 : L2.FnScope n6 ["p", "value"] (dScope s6) := ⟨rfl, rfl, rfl, by decide +kernel, rfl, by decide +kernel, by decide +kernel⟩
theorem ck6 : chkSs { cc with N := n6 } ⟨dScope s6, none⟩ b6 (dBody s6) = true := by decide +kernel
theorem sc7 : L2.FnScope n7 ["p", "value"] (dScope s7) := ⟨rfl, rfl, rfl, by decide +kernel, rfl, by decide +kernel, by decide +kernel⟩
theorem ck7 : chkSs { cc with N := n7 } ⟨dScope s7, none⟩ b7 (dBody s7) = true := by decide +kernel
theorem sc8 : L2.FnScope n8 ["p", "value", "low", "high"] (dScope s8) := ⟨rfl, rfl, rfl, by decide +kernel, rfl, by decide +kernel, by decide +kernel⟩
theorem ck8 : chkSs { cc with N := n8 } ⟨dScope s8, none⟩ b8 (dBody s8) = true := by decide +kernel
theorem sc9 : L2.FnScope n9 ["p", "number"] (dScope s9) := ⟨rfl, rfl, rfl, by decide +kernel, rfl, by decide +kernel, by decide +kernel⟩
theorem ck9 : chkSs { cc with N := n9 } ⟨dScope s9, none⟩ b9 (dBody s9) = true := by decide +kernel
theorem sc10 : L2.FnScope n10 ["p", "value"] (dScope s10) := ⟨rfl, rfl, rfl, by decide +kernel, rfl, by decide +kernel, by decide +kernel⟩
theorem ck10 : chkSs { cc with N := n10 } ⟨dScope s10, none⟩ b10 (dBody s10) = true := by decide +kernel
theorem sc11 : L2.FnScope n11 ["p", "value"] (dScope s11) := ⟨rfl, rfl, rfl, by decide +kernel, rfl, by decide +kernel, by decide +kernel⟩
theorem ck11 : chkSs { cc with N := n11 } ⟨dScope s11, none⟩ b11 (dBody s11) = true := by decide +kernel
theorem sc12 : L2.FnScope n12 ["numbers"] (dScope s12) := ⟨rfl, rfl, rfl, by decide +kernel, rfl, by decide +kernel, by decide +kernel⟩
theorem ck12 : chkSs { cc with N := n12 } ⟨dScope s12, none⟩ b12 (dBody s12) = true := by decide +kernel
theorem sc13 : L2.FnScope n13 ["p", "line", "place"] (dScope s13) := ⟨rfl, rfl, rfl, by decide +kernel, rfl, by decide +kernel, by decide +kernel⟩
theorem ck13 : chkSs { cc with N := n13 } ⟨dScope s13, none⟩ b13 (dBody s13) = true := by decide +kernel
theorem sc14 : L2.FnScope n14 ["p", "one", "other"] (dScope s14) := ⟨rfl, rfl, rfl, by decide +kernel, rfl, by decide +kernel, by decide +kernel⟩
theorem ck14 : chkSs { cc with N := n14 } ⟨dScope s14, none⟩ b14 (dBody s14) = true := by decide +kernel
theorem sc15 : L2.FnScope n15 ["p", "line", "number"] (dScope s15) := ⟨rfl, rfl, rfl, by decide +kernel, rfl, by decide +kernel, by decide +kernel⟩
theorem ck15 : chkSs { cc with N := n15 } ⟨dScope s15, none⟩ b15 (dBody s15) = true := by decide +kernel
theorem sc16 : L2.FnScope n16 ["p", "one", "other"] (dScope s16) := ⟨rfl, rfl, rfl, by decide +kernel, rfl, by decide +kernel, by decide +kernel⟩
theorem ck16 : chkSs { cc with N := n16 } ⟨dScope s16, none⟩ b16 (dBody s16) = true := by decide +kernel
theorem sc17 : L2.FnScope n17 ["p", "line", "place"] (dScope s17) := ⟨rfl, rfl, rfl, by decide +kernel, rfl, by decide +kernel, by decide +kernel⟩
theorem ck17 : chkSs { cc with N := n17 } ⟨dScope s17, none⟩ b17 (dBody s17) = true := by decide +kernel
theorem sc18 : L2.FnScope n18 ["p", "points"] (dScope s18) := ⟨rfl, rfl, rfl, by decide +kernel, rfl, by decide +kernel, by decide +kernel⟩
theorem ck18 : chkSs { cc with N := n18 } ⟨dScope s18, none⟩ b18 (dBody s18) = true := by decide +kernel
theorem sc19 : L2.FnScope n19 ["p", "points"] (dScope s19) := ⟨rfl, rfl, rfl, by decide +kernel, rfl, by decide +kernel, by decide +kernel⟩
theorem ck19 : chkSs { cc with N := n19 } ⟨dScope s19, none⟩ b19 (dBody s19) = true := by decide +kernel
theorem sc20 : L2.FnScope n20 ["_law_row", "_law_many"] (dScope s20) := ⟨rfl, rfl, rfl, by decide +kernel, rfl, by decide +kernel, by decide +kernel⟩
theorem ck20 : chkSs { cc with N := n20 } ⟨dScope s20, none⟩ b20 (dBody s20) = true := by decide +kernel
theorem sc21 : L2.FnScope n21 ["_law_row", "_law_things"] (dScope s21) := ⟨rfl, rfl, rfl, by decide +kernel, rfl, by decide +kernel, by decide +kernel⟩
theorem ck21 : chkSs { cc with N := n21 } ⟨dScope s21, none⟩ b21 (dBody s21) = true := by decide +kernel
theorem sc22 : L2.FnScope n22 ["_law_found", "_law_due"] (dScope s22) := ⟨rfl, rfl, rfl, by decide +kernel, rfl, by decide +kernel, by decide +kernel⟩
theorem ck22 : chkSs { cc with N := n22 } ⟨dScope s22, none⟩ b22 (dBody s22) = true := by decide +kernel
theorem sc23 : L2.FnScope n23 ["_law_row"] (dScope s23) := ⟨rfl, rfl, rfl, by decide +kernel, rfl, by decide +kernel, by decide +kernel⟩
theorem ck23 : chkSs { cc with N := n23 } ⟨dScope s23, none⟩ b23 (dBody s23) = true := by decide +kernel
theorem sc24 : L2.FnScope n24 ["_law_row", "_law_p"] (dScope s24) := ⟨rfl, rfl, rfl, by decide +kernel, rfl, by decide +kernel, by decide +kernel⟩
theorem ck24 : chkSs { cc with N := n24 } ⟨dScope s24, none⟩ b24 (dBody s24) = true := by decide +kernel
theorem sc25 : L2.FnScope n25 ["_law_row", "_law_p", "_law_many"] (dScope s25) := ⟨rfl, rfl, rfl, by decide +kernel, rfl, by decide +kernel, by decide +kernel⟩
theorem ck25 : chkSs { cc with N := n25 } ⟨dScope s25, none⟩ b25 (dBody s25) = true := by decide +kernel
theorem sc26 : L2.FnScope n26 ["_law_numbers_here"] (dScope s26) := ⟨rfl, rfl, rfl, by decide +kernel, rfl, by decide +kernel, by decide +kernel⟩
theorem ck26 : chkSs { cc with N := n26 } ⟨dScope s26, none⟩ b26 (dBody s26) = true := by decide +kernel
theorem sc27 : L2.FnScope n27 ["_law_row", "_law_p", "_law_most"] (dScope s27) := ⟨rfl, rfl, rfl, by decide +kernel, rfl, by decide +kernel, by decide +kernel⟩
theorem ck27 : chkSs { cc with N := n27 } ⟨dScope s27, none⟩ b27 (dBody s27) = true := by decide +kernel
theorem sc28 : L2.FnScope n28 ["_law_p", "_law_line_here", "_law_place"] (dScope s28) := ⟨rfl, rfl, rfl, by decide +kernel, rfl, by decide +kernel, by decide +kernel⟩
theorem ck28 : chkSs { cc with N := n28 } ⟨dScope s28, none⟩ b28 (dBody s28) = true := by decide +kernel
theorem sc29 : L2.FnScope n29 ["_law_p", "_law_number_here"] (dScope s29) := ⟨rfl, rfl, rfl, by decide +kernel, rfl, by decide +kernel, by decide +kernel⟩
theorem ck29 : chkSs { cc with N := n29 } ⟨dScope s29, none⟩ b29 (dBody s29) = true := by decide +kernel
theorem sc30 : L2.FnScope n30 ["_law_p", "_law_values"] (dScope s30) := ⟨rfl, rfl, rfl, by decide +kernel, rfl, by decide +kernel, by decide +kernel⟩
theorem ck30 : chkSs { cc with N := n30 } ⟨dScope s30, none⟩ b30 (dBody s30) = true := by decide +kernel
theorem sc31 : L2.FnScope n31 ["_law_p", "_law_value"] (dScope s31) := ⟨rfl, rfl, rfl, by decide +kernel, rfl, by decide +kernel, by decide +kernel⟩
theorem ck31 : chkSs { cc with N := n31 } ⟨dScope s31, none⟩ b31 (dBody s31) = true := by decide +kernel
theorem sc32 : L2.FnScope n32 ["_law_script"] (dScope s32) := ⟨rfl, rfl, rfl, by decide +kernel, rfl, by decide +kernel, by decide +kernel⟩
theorem ck32 : chkSs { cc with N := n32 } ⟨dScope s32, none⟩ b32 (dBody s32) = true := by decide +kernel
set_option maxHeartbeats 0 in
theorem all_mk {l : PySem.W.OpenLaw} {w : World} {K : PySem.W.Frag} {h : Heap} {mg : Str → Option Value} {fa : Addr} (X : K.In h) (G : h.Ns mainGlobals mg) (hfa : mg "law" = some (.ref fa))
    {f0 f1 f2 f3 f4 f5 T5 f6 f7 f8 f9 f10 f11 f12 f13 f14 f15 f16 f17 f18 f19 f20 f21 f22 f23 f24 f25 f26 f27 f28 f29 f30 f31 f32 E1 : Addr} {od0 an0 od1 an1 od2 an2 od3 an3 od4 an4 od5 an5 td5 od6 an6 od7 an7 od8 an8 od9 an9 od10 an10 od11 an11 od12 an12 od13 an13 od14 an14 od15 an15 od16 an16 od17 an17 od18 an18 od19 an19 od20 an20 od21 an21 od22 an22 od23 an23 od24 an24 od25 an25 od26 an26 od27 an27 od28 an28 od29 an29 od30 an30 od31 an31 od32 an32 ed1 : Option Addr} {sl0 sl1 sl2 sl3 sl4 sl5 ts5 sl6 sl7 sl8 sl9 sl10 sl11 sl12 sl13 sl14 sl15 sl16 sl17 sl18 sl19 sl20 sl21 sl22 sl23 sl24 sl25 sl26 sl27 sl28 sl29 sl30 sl31 sl32 es1 : Array (Option Value)} {oc0 kV0 dc0 pm0 cd0 ct0 oc1 kV1 dc1 pm1 cd1 ct1 oc2 kV2 dc2 pm2 cd2 ct2 oc3 kV3 dc3 pm3 cd3 ct3 oc4 kV4 dc4 pm4 cd4 ct4 oc5 kV5 dc5 pm5 cd5 ct5 tc5 dv5_0 oc6 kV6 dc6 pm6 cd6 ct6 oc7 kV7 dc7 pm7 cd7 ct7 oc8 kV8 dc8 pm8 cd8 ct8 oc9 kV9 dc9 pm9 cd9 ct9 oc10 kV10 dc10 pm10 cd10 ct10 oc11 kV11 dc11 pm11 cd11 ct11 oc12 kV12 dc12 pm12 cd12 ct12 oc13 kV13 dc13 pm13 cd13 ct13 oc14 kV14 dc14 pm14 cd14 ct14 oc15 kV15 dc15 pm15 cd15 ct15 oc16 kV16 dc16 pm16 cd16 ct16 oc17 kV17 dc17 pm17 cd17 ct17 oc18 kV18 dc18 pm18 cd18 ct18 oc19 kV19 dc19 pm19 cd19 ct19 oc20 kV20 dc20 pm20 cd20 ct20 oc21 kV21 dc21 pm21 cd21 ct21 oc22 kV22 dc22 pm22 cd22 ct22 oc23 kV23 dc23 pm23 cd23 ct23 oc24 kV24 dc24 pm24 cd24 ct24 oc25 kV25 dc25 pm25 cd25 ct25 oc26 kV26 dc26 pm26 cd26 ct26 oc27 kV27 dc27 pm27 cd27 ct27 oc28 kV28 dc28 pm28 cd28 ct28 oc29 kV29 dc29 pm29 cd29 ct29 oc30 kV30 dc30 pm30 cd30 ct30 oc31 kV31 dc31 pm31 cd31 ct31 oc32 kV32 dc32 pm32 cd32 ct32 ec1 ev1_0 ev1_1 ev1_2 ev1_3 : Value} {tn5 en1 : Nat} {et0 et2 et3 : Tok}
    (a0 : PySem.W.nsIn K mainGlobals "is_integer" = some (some (.ref f0))) (l0 : K.lookup f0 = some ⟨oc0, od0, .func (PySem.W.fnOf "is_integer" "is_integer" (dArgs s0) (dBody s0) (dScope s0) .none kV0 dc0 pm0 an0 cd0 ct0), sl0⟩) (c0 : PySem.W.codeIn K cd0 "is_integer" = true) (k0 : PySem.W.keepIn K (.ref f0) = true)
    (a1 : PySem.W.nsIn K mainGlobals "is_from" = some (some (.ref f1))) (l1 : K.lookup f1 = some ⟨oc1, od1, .func (PySem.W.fnOf "is_from" "is_from" (dArgs s1) (dBody s1) (dScope s1) .none kV1 dc1 pm1 an1 cd1 ct1), sl1⟩) (c1 : PySem.W.codeIn K cd1 "is_from" = true) (k1 : PySem.W.keepIn K (.ref f1) = true)
    (a2 : PySem.W.nsIn K mainGlobals "raised" = some (some (.ref f2))) (l2 : K.lookup f2 = some ⟨oc2, od2, .func (PySem.W.fnOf "raised" "raised" (dArgs s2) (dBody s2) (dScope s2) .none kV2 dc2 pm2 an2 cd2 ct2), sl2⟩) (c2 : PySem.W.codeIn K cd2 "raised" = true) (k2 : PySem.W.keepIn K (.ref f2) = true)
    (a3 : PySem.W.nsIn K mainGlobals "passes" = some (some (.ref f3))) (l3 : K.lookup f3 = some ⟨oc3, od3, .func (PySem.W.fnOf "passes" "passes" (dArgs s3) (dBody s3) (dScope s3) .none kV3 dc3 pm3 an3 cd3 ct3), sl3⟩) (c3 : PySem.W.codeIn K cd3 "passes" = true) (k3 : PySem.W.keepIn K (.ref f3) = true)
    (a4 : PySem.W.nsIn K mainGlobals "is_prime" = some (some (.ref f4))) (l4 : K.lookup f4 = some ⟨oc4, od4, .func (PySem.W.fnOf "is_prime" "is_prime" (dArgs s4) (dBody s4) (dScope s4) .none kV4 dc4 pm4 an4 cd4 ct4), sl4⟩) (c4 : PySem.W.codeIn K cd4 "is_prime" = true) (k4 : PySem.W.keepIn K (.ref f4) = true)
    (a5 : PySem.W.nsIn K mainGlobals "need_prime" = some (some (.ref f5))) (l5 : K.lookup f5 = some ⟨oc5, od5, .func (PySem.W.fnOf "need_prime" "need_prime" (dArgs s5) (dBody s5) (dScope s5) (.ref T5) kV5 dc5 pm5 an5 cd5 ct5), sl5⟩) (c5 : PySem.W.codeIn K cd5 "need_prime" = true) (k5 : PySem.W.keepIn K (.ref f5) = true)
    (t5 : K.lookup T5 = some ⟨tc5, td5, .seq #[dv5_0] tn5, ts5⟩) (tv5_0 : L2.RelV (cV (PV.int 5)) dv5_0)
    (a6 : PySem.W.nsIn K mainGlobals "is_number" = some (some (.ref f6))) (l6 : K.lookup f6 = some ⟨oc6, od6, .func (PySem.W.fnOf "is_number" "is_number" (dArgs s6) (dBody s6) (dScope s6) .none kV6 dc6 pm6 an6 cd6 ct6), sl6⟩) (c6 : PySem.W.codeIn K cd6 "is_number" = true) (k6 : PySem.W.keepIn K (.ref f6) = true)
    (a7 : PySem.W.nsIn K mainGlobals "need_number" = some (some (.ref f7))) (l7 : K.lookup f7 = some ⟨oc7, od7, .func (PySem.W.fnOf "need_number" "need_number" (dArgs s7) (dBody s7) (dScope s7) .none kV7 dc7 pm7 an7 cd7 ct7), sl7⟩) (c7 : PySem.W.codeIn K cd7 "need_number" = true) (k7 : PySem.W.keepIn K (.ref f7) = true)
    (a8 : PySem.W.nsIn K mainGlobals "are_numbers" = some (some (.ref f8))) (l8 : K.lookup f8 = some ⟨oc8, od8, .func (PySem.W.fnOf "are_numbers" "are_numbers" (dArgs s8) (dBody s8) (dScope s8) .none kV8 dc8 pm8 an8 cd8 ct8), sl8⟩) (c8 : PySem.W.codeIn K cd8 "are_numbers" = true) (k8 : PySem.W.keepIn K (.ref f8) = true)
    (a9 : PySem.W.nsIn K mainGlobals "turned_over" = some (some (.ref f9))) (l9 : K.lookup f9 = some ⟨oc9, od9, .func (PySem.W.fnOf "turned_over" "turned_over" (dArgs s9) (dBody s9) (dScope s9) .none kV9 dc9 pm9 an9 cd9 ct9), sl9⟩) (c9 : PySem.W.codeIn K cd9 "turned_over" = true) (k9 : PySem.W.keepIn K (.ref f9) = true)
    (a10 : PySem.W.nsIn K mainGlobals "is_plain_line" = some (some (.ref f10))) (l10 : K.lookup f10 = some ⟨oc10, od10, .func (PySem.W.fnOf "is_plain_line" "is_plain_line" (dArgs s10) (dBody s10) (dScope s10) .none kV10 dc10 pm10 an10 cd10 ct10), sl10⟩) (c10 : PySem.W.codeIn K cd10 "is_plain_line" = true) (k10 : PySem.W.keepIn K (.ref f10) = true)
    (a11 : PySem.W.nsIn K mainGlobals "need_line" = some (some (.ref f11))) (l11 : K.lookup f11 = some ⟨oc11, od11, .func (PySem.W.fnOf "need_line" "need_line" (dArgs s11) (dBody s11) (dScope s11) .none kV11 dc11 pm11 an11 cd11 ct11), sl11⟩) (c11 : PySem.W.codeIn K cd11 "need_line" = true) (k11 : PySem.W.keepIn K (.ref f11) = true)
    (a12 : PySem.W.nsIn K mainGlobals "cut" = some (some (.ref f12))) (l12 : K.lookup f12 = some ⟨oc12, od12, .func (PySem.W.fnOf "cut" "cut" (dArgs s12) (dBody s12) (dScope s12) .none kV12 dc12 pm12 an12 cd12 ct12), sl12⟩) (c12 : PySem.W.codeIn K cd12 "cut" = true) (k12 : PySem.W.keepIn K (.ref f12) = true)
    (a13 : PySem.W.nsIn K mainGlobals "at_place" = some (some (.ref f13))) (l13 : K.lookup f13 = some ⟨oc13, od13, .func (PySem.W.fnOf "at_place" "at_place" (dArgs s13) (dBody s13) (dScope s13) .none kV13 dc13 pm13 an13 cd13 ct13), sl13⟩) (c13 : PySem.W.codeIn K cd13 "at_place" = true) (k13 : PySem.W.keepIn K (.ref f13) = true)
    (a14 : PySem.W.nsIn K mainGlobals "sum_of_lines" = some (some (.ref f14))) (l14 : K.lookup f14 = some ⟨oc14, od14, .func (PySem.W.fnOf "sum_of_lines" "sum_of_lines" (dArgs s14) (dBody s14) (dScope s14) .none kV14 dc14 pm14 an14 cd14 ct14), sl14⟩) (c14 : PySem.W.codeIn K cd14 "sum_of_lines" = true) (k14 : PySem.W.keepIn K (.ref f14) = true)
    (a15 : PySem.W.nsIn K mainGlobals "times_number" = some (some (.ref f15))) (l15 : K.lookup f15 = some ⟨oc15, od15, .func (PySem.W.fnOf "times_number" "times_number" (dArgs s15) (dBody s15) (dScope s15) .none kV15 dc15 pm15 an15 cd15 ct15), sl15⟩) (c15 : PySem.W.codeIn K cd15 "times_number" = true) (k15 : PySem.W.keepIn K (.ref f15) = true)
    (a16 : PySem.W.nsIn K mainGlobals "product_of_lines" = some (some (.ref f16))) (l16 : K.lookup f16 = some ⟨oc16, od16, .func (PySem.W.fnOf "product_of_lines" "product_of_lines" (dArgs s16) (dBody s16) (dScope s16) .none kV16 dc16 pm16 an16 cd16 ct16), sl16⟩) (c16 : PySem.W.codeIn K cd16 "product_of_lines" = true) (k16 : PySem.W.keepIn K (.ref f16) = true)
    (a17 : PySem.W.nsIn K mainGlobals "at" = some (some (.ref f17))) (l17 : K.lookup f17 = some ⟨oc17, od17, .func (PySem.W.fnOf "at" "at" (dArgs s17) (dBody s17) (dScope s17) .none kV17 dc17 pm17 an17 cd17 ct17), sl17⟩) (c17 : PySem.W.codeIn K cd17 "at" = true) (k17 : PySem.W.keepIn K (.ref f17) = true)
    (a18 : PySem.W.nsIn K mainGlobals "line_through" = some (some (.ref f18))) (l18 : K.lookup f18 = some ⟨oc18, od18, .func (PySem.W.fnOf "line_through" "line_through" (dArgs s18) (dBody s18) (dScope s18) .none kV18 dc18 pm18 an18 cd18 ct18), sl18⟩) (c18 : PySem.W.codeIn K cd18 "line_through" = true) (k18 : PySem.W.keepIn K (.ref f18) = true)
    (a19 : PySem.W.nsIn K mainGlobals "through" = some (some (.ref f19))) (l19 : K.lookup f19 = some ⟨oc19, od19, .func (PySem.W.fnOf "through" "through" (dArgs s19) (dBody s19) (dScope s19) .none kV19 dc19 pm19 an19 cd19 ct19), sl19⟩) (c19 : PySem.W.codeIn K cd19 "through" = true) (k19 : PySem.W.keepIn K (.ref f19) = true)
    (a20 : PySem.W.nsIn K mainGlobals "_law_taken" = some (some (.ref f20))) (l20 : K.lookup f20 = some ⟨oc20, od20, .func (PySem.W.fnOf "_law_taken" "_law_taken" (dArgs s20) (dBody s20) (dScope s20) .none kV20 dc20 pm20 an20 cd20 ct20), sl20⟩) (c20 : PySem.W.codeIn K cd20 "_law_taken" = true) (k20 : PySem.W.keepIn K (.ref f20) = true)
    (a21 : PySem.W.nsIn K mainGlobals "_law_pick" = some (some (.ref f21))) (l21 : K.lookup f21 = some ⟨oc21, od21, .func (PySem.W.fnOf "_law_pick" "_law_pick" (dArgs s21) (dBody s21) (dScope s21) .none kV21 dc21 pm21 an21 cd21 ct21), sl21⟩) (c21 : PySem.W.codeIn K cd21 "_law_pick" = true) (k21 : PySem.W.keepIn K (.ref f21) = true)
    (a22 : PySem.W.nsIn K mainGlobals "_law_alike" = some (some (.ref f22))) (l22 : K.lookup f22 = some ⟨oc22, od22, .func (PySem.W.fnOf "_law_alike" "_law_alike" (dArgs s22) (dBody s22) (dScope s22) .none kV22 dc22 pm22 an22 cd22 ct22), sl22⟩) (c22 : PySem.W.codeIn K cd22 "_law_alike" = true) (k22 : PySem.W.keepIn K (.ref f22) = true)
    (a23 : PySem.W.nsIn K mainGlobals "_law_prime" = some (some (.ref f23))) (l23 : K.lookup f23 = some ⟨oc23, od23, .func (PySem.W.fnOf "_law_prime" "_law_prime" (dArgs s23) (dBody s23) (dScope s23) .none kV23 dc23 pm23 an23 cd23 ct23), sl23⟩) (c23 : PySem.W.codeIn K cd23 "_law_prime" = true) (k23 : PySem.W.keepIn K (.ref f23) = true)
    (a24 : PySem.W.nsIn K mainGlobals "_law_number" = some (some (.ref f24))) (l24 : K.lookup f24 = some ⟨oc24, od24, .func (PySem.W.fnOf "_law_number" "_law_number" (dArgs s24) (dBody s24) (dScope s24) .none kV24 dc24 pm24 an24 cd24 ct24), sl24⟩) (c24 : PySem.W.codeIn K cd24 "_law_number" = true) (k24 : PySem.W.keepIn K (.ref f24) = true)
    (a25 : PySem.W.nsIn K mainGlobals "_law_numbers" = some (some (.ref f25))) (l25 : K.lookup f25 = some ⟨oc25, od25, .func (PySem.W.fnOf "_law_numbers" "_law_numbers" (dArgs s25) (dBody s25) (dScope s25) .none kV25 dc25 pm25 an25 cd25 ct25), sl25⟩) (c25 : PySem.W.codeIn K cd25 "_law_numbers" = true) (k25 : PySem.W.keepIn K (.ref f25) = true)
    (a26 : PySem.W.nsIn K mainGlobals "_law_cut" = some (some (.ref f26))) (l26 : K.lookup f26 = some ⟨oc26, od26, .func (PySem.W.fnOf "_law_cut" "_law_cut" (dArgs s26) (dBody s26) (dScope s26) .none kV26 dc26 pm26 an26 cd26 ct26), sl26⟩) (c26 : PySem.W.codeIn K cd26 "_law_cut" = true) (k26 : PySem.W.keepIn K (.ref f26) = true)
    (a27 : PySem.W.nsIn K mainGlobals "_law_line" = some (some (.ref f27))) (l27 : K.lookup f27 = some ⟨oc27, od27, .func (PySem.W.fnOf "_law_line" "_law_line" (dArgs s27) (dBody s27) (dScope s27) .none kV27 dc27 pm27 an27 cd27 ct27), sl27⟩) (c27 : PySem.W.codeIn K cd27 "_law_line" = true) (k27 : PySem.W.keepIn K (.ref f27) = true)
    (a28 : PySem.W.nsIn K mainGlobals "_law_at" = some (some (.ref f28))) (l28 : K.lookup f28 = some ⟨oc28, od28, .func (PySem.W.fnOf "_law_at" "_law_at" (dArgs s28) (dBody s28) (dScope s28) .none kV28 dc28 pm28 an28 cd28 ct28), sl28⟩) (c28 : PySem.W.codeIn K cd28 "_law_at" = true) (k28 : PySem.W.keepIn K (.ref f28) = true)
    (a29 : PySem.W.nsIn K mainGlobals "_law_inverse" = some (some (.ref f29))) (l29 : K.lookup f29 = some ⟨oc29, od29, .func (PySem.W.fnOf "_law_inverse" "_law_inverse" (dArgs s29) (dBody s29) (dScope s29) .none kV29 dc29 pm29 an29 cd29 ct29), sl29⟩) (c29 : PySem.W.codeIn K cd29 "_law_inverse" = true) (k29 : PySem.W.keepIn K (.ref f29) = true)
    (a30 : PySem.W.nsIn K mainGlobals "_law_through" = some (some (.ref f30))) (l30 : K.lookup f30 = some ⟨oc30, od30, .func (PySem.W.fnOf "_law_through" "_law_through" (dArgs s30) (dBody s30) (dScope s30) .none kV30 dc30 pm30 an30 cd30 ct30), sl30⟩) (c30 : PySem.W.codeIn K cd30 "_law_through" = true) (k30 : PySem.W.keepIn K (.ref f30) = true)
    (a31 : PySem.W.nsIn K mainGlobals "_law_is_line" = some (some (.ref f31))) (l31 : K.lookup f31 = some ⟨oc31, od31, .func (PySem.W.fnOf "_law_is_line" "_law_is_line" (dArgs s31) (dBody s31) (dScope s31) .none kV31 dc31 pm31 an31 cd31 ct31), sl31⟩) (c31 : PySem.W.codeIn K cd31 "_law_is_line" = true) (k31 : PySem.W.keepIn K (.ref f31) = true)
    (a32 : PySem.W.nsIn K mainGlobals "law" = some (some (.ref f32))) (l32 : K.lookup f32 = some ⟨oc32, od32, .func (PySem.W.fnOf "law" "law" (dArgs s32) (dBody s32) (dScope s32) .none kV32 dc32 pm32 an32 cd32 ct32), sl32⟩) (c32 : PySem.W.codeIn K cd32 "law" = true) (k32 : PySem.W.keepIn K (.ref f32) = true)
    (e0 : PySem.W.nsIn K mainGlobals "MOST_PRIME" = some (some (.int 2147483647 et0)))
    (e1 : PySem.W.nsIn K mainGlobals "BASES" = some (some (.ref E1))) (el1 : K.lookup E1 = some ⟨ec1, ed1, .seq #[ev1_0, ev1_1, ev1_2, ev1_3] en1, es1⟩) (ek1 : ec1 = .type "tuple") (er1_0 : L2.RelV (.int 2) ev1_0) (er1_1 : L2.RelV (.int 3) ev1_1) (er1_2 : L2.RelV (.int 5) ev1_2) (er1_3 : L2.RelV (.int 7) ev1_3)
    (e2 : PySem.W.nsIn K mainGlobals "MOST_NUMBERS" = some (some (.int 200 et2)))
    (e3 : PySem.W.nsIn K mainGlobals "MOST_POINTS" = some (some (.int 60 et3)))
    (z0 : PySem.W.nsIn K mainGlobals "len" = some none)
    (z1 : PySem.W.nsIn K mainGlobals "isinstance" = some none)
    (z2 : PySem.W.nsIn K mainGlobals "int" = some none)
    (z3 : PySem.W.nsIn K mainGlobals "str" = some none)
    (z4 : PySem.W.nsIn K mainGlobals "tuple" = some none)
    (z5 : PySem.W.nsIn K mainGlobals "all" = some none)
    (z6 : PySem.W.nsIn K mainGlobals "any" = some none)
    (z7 : PySem.W.nsIn K mainGlobals "sum" = some none)
    (z8 : PySem.W.nsIn K mainGlobals "max" = some none)
    (z9 : PySem.W.nsIn K mainGlobals "min" = some none)
    (z10 : PySem.W.nsIn K mainGlobals "abs" = some none)
    (z11 : PySem.W.nsIn K mainGlobals "bool" = some none)
    (z12 : PySem.W.nsIn K mainGlobals "ord" = some none)
    (z13 : PySem.W.nsIn K mainGlobals "dict" = some none)
    (z14 : PySem.W.nsIn K mainGlobals "list" = some none)
    (z15 : PySem.W.nsIn K mainGlobals "range" = some none)
    (z16 : PySem.W.nsIn K mainGlobals "enumerate" = some none)
    (z17 : PySem.W.nsIn K mainGlobals "zip" = some none)
    (z18 : PySem.W.nsIn K mainGlobals "reversed" = some none)
    (z19 : PySem.W.nsIn K mainGlobals "sorted" = some none)
    (z20 : PySem.W.nsIn K mainGlobals "set" = some none) :
    ∃ fd : FuncData, Top l.prog w K mg cc ds 32 "_law_script" fa fd := by
  have e := hfa.symm.trans (PySem.W.mg_of X G a32)
  cases e
  have D0 : DefAt l.prog w K mg cc ds 0 "is_integer" f0 (PySem.W.fnOf "is_integer" "is_integer" (dArgs s0) (dBody s0) (dScope s0) .none kV0 dc0 pm0 an0 cd0 ct0) ["value"] := def_at (PySem.W.mg_of X G a0) l0 c0 k0 rfl rfl sc0 rfl ck0 fun us hl => match us, hl with | [_], _ => rfl
  have D1 : DefAt l.prog w K mg cc ds 1 "is_from" f1 (PySem.W.fnOf "is_from" "is_from" (dArgs s1) (dBody s1) (dScope s1) .none kV1 dc1 pm1 an1 cd1 ct1) ["value", "low", "high"] := def_at (PySem.W.mg_of X G a1) l1 c1 k1 rfl rfl sc1 rfl ck1 fun us hl => match us, hl with | [_, _, _], _ => rfl
  have D2 : DefAt l.prog w K mg cc ds 2 "raised" f2 (PySem.W.fnOf "raised" "raised" (dArgs s2) (dBody s2) (dScope s2) .none kV2 dc2 pm2 an2 cd2 ct2) ["p", "base", "times"] := def_at (PySem.W.mg_of X G a2) l2 c2 k2 rfl rfl sc2 rfl ck2 fun us hl => match us, hl with | [_, _, _], _ => rfl
  have D3 : DefAt l.prog w K mg cc ds 3 "passes" f3 (PySem.W.fnOf "passes" "passes" (dArgs s3) (dBody s3) (dScope s3) .none kV3 dc3 pm3 an3 cd3 ct3) ["value", "base"] := def_at (PySem.W.mg_of X G a3) l3 c3 k3 rfl rfl sc3 rfl ck3 fun us hl => match us, hl with | [_, _], _ => rfl
  have D4 : DefAt l.prog w K mg cc ds 4 "is_prime" f4 (PySem.W.fnOf "is_prime" "is_prime" (dArgs s4) (dBody s4) (dScope s4) .none kV4 dc4 pm4 an4 cd4 ct4) ["value"] := def_at (PySem.W.mg_of X G a4) l4 c4 k4 rfl rfl sc4 rfl ck4 fun us hl => match us, hl with | [_], _ => rfl
  have D5 : DefAt l.prog w K mg cc ds 5 "need_prime" f5 (PySem.W.fnOf "need_prime" "need_prime" (dArgs s5) (dBody s5) (dScope s5) (.ref T5) kV5 dc5 pm5 an5 cd5 ct5) ["p", "least"] := by
    refine def_atD (PySem.W.mg_of X G a5) l5 c5 k5 t5 rfl (.cons tv5_0 .nil) (by decide) rfl sc5 rfl ck5 (by decide) ?_
    intro j hj T kV doc pm an cdv ct us its h1 h2
    have hj : j ≤ 1 := hj
    match j, hj, us, its, h1, h2 with
    | 0, _, [_], [_], _, _ => exact ⟨_, rfl, rfl⟩
    | 1, _, [_, _], [_], _, _ => exact ⟨_, rfl, rfl⟩
  have D6 : DefAt l.prog w K mg cc ds 6 "is_number" f6 (PySem.W.fnOf "is_number" "is_number" (dArgs s6) (dBody s6) (dScope s6) .none kV6 dc6 pm6 an6 cd6 ct6) ["p", "value"] := def_at (PySem.W.mg_of X G a6) l6 c6 k6 rfl rfl sc6 rfl ck6 fun us hl => match us, hl with | [_, _], _ => rfl
  have D7 : DefAt l.prog w K mg cc ds 7 "need_number" f7 (PySem.W.fnOf "need_number" "need_number" (dArgs s7) (dBody s7) (dScope s7) .none kV7 dc7 pm7 an7 cd7 ct7) ["p", "value"] := def_at (PySem.W.mg_of X G a7) l7 c7 k7 rfl rfl sc7 rfl ck7 fun us hl => match us, hl with | [_, _], _ => rfl
  have D8 : DefAt l.prog w K mg cc ds 8 "are_numbers" f8 (PySem.W.fnOf "are_numbers" "are_numbers" (dArgs s8) (dBody s8) (dScope s8) .none kV8 dc8 pm8 an8 cd8 ct8) ["p", "value", "low", "high"] := def_at (PySem.W.mg_of X G a8) l8 c8 k8 rfl rfl sc8 rfl ck8 fun us hl => match us, hl with | [_, _, _, _], _ => rfl
  have D9 : DefAt l.prog w K mg cc ds 9 "turned_over" f9 (PySem.W.fnOf "turned_over" "turned_over" (dArgs s9) (dBody s9) (dScope s9) .none kV9 dc9 pm9 an9 cd9 ct9) ["p", "number"] := def_at (PySem.W.mg_of X G a9) l9 c9 k9 rfl rfl sc9 rfl ck9 fun us hl => match us, hl with | [_, _], _ => rfl
  have D10 : DefAt l.prog w K mg cc ds 10 "is_plain_line" f10 (PySem.W.fnOf "is_plain_line" "is_plain_line" (dArgs s10) (dBody s10) (dScope s10) .none kV10 dc10 pm10 an10 cd10 ct10) ["p", "value"] := def_at (PySem.W.mg_of X G a10) l10 c10 k10 rfl rfl sc10 rfl ck10 fun us hl => match us, hl with | [_, _], _ => rfl
  have D11 : DefAt l.prog w K mg cc ds 11 "need_line" f11 (PySem.W.fnOf "need_line" "need_line" (dArgs s11) (dBody s11) (dScope s11) .none kV11 dc11 pm11 an11 cd11 ct11) ["p", "value"] := def_at (PySem.W.mg_of X G a11) l11 c11 k11 rfl rfl sc11 rfl ck11 fun us hl => match us, hl with | [_, _], _ => rfl
  have D12 : DefAt l.prog w K mg cc ds 12 "cut" f12 (PySem.W.fnOf "cut" "cut" (dArgs s12) (dBody s12) (dScope s12) .none kV12 dc12 pm12 an12 cd12 ct12) ["numbers"] := def_at (PySem.W.mg_of X G a12) l12 c12 k12 rfl rfl sc12 rfl ck12 fun us hl => match us, hl with | [_], _ => rfl
  have D13 : DefAt l.prog w K mg cc ds 13 "at_place" f13 (PySem.W.fnOf "at_place" "at_place" (dArgs s13) (dBody s13) (dScope s13) .none kV13 dc13 pm13 an13 cd13 ct13) ["p", "line", "place"] := def_at (PySem.W.mg_of X G a13) l13 c13 k13 rfl rfl sc13 rfl ck13 fun us hl => match us, hl with | [_, _, _], _ => rfl
  have D14 : DefAt l.prog w K mg cc ds 14 "sum_of_lines" f14 (PySem.W.fnOf "sum_of_lines" "sum_of_lines" (dArgs s14) (dBody s14) (dScope s14) .none kV14 dc14 pm14 an14 cd14 ct14) ["p", "one", "other"] := def_at (PySem.W.mg_of X G a14) l14 c14 k14 rfl rfl sc14 rfl ck14 fun us hl => match us, hl with | [_, _, _], _ => rfl
  have D15 : DefAt l.prog w K mg cc ds 15 "times_number" f15 (PySem.W.fnOf "times_number" "times_number" (dArgs s15) (dBody s15) (dScope s15) .none kV15 dc15 pm15 an15 cd15 ct15) ["p", "line", "number"] := def_at (PySem.W.mg_of X G a15) l15 c15 k15 rfl rfl sc15 rfl ck15 fun us hl => match us, hl with | [_, _, _], _ => rfl
  have D16 : DefAt l.prog w K mg cc ds 16 "product_of_lines" f16 (PySem.W.fnOf "product_of_lines" "product_of_lines" (dArgs s16) (dBody s16) (dScope s16) .none kV16 dc16 pm16 an16 cd16 ct16) ["p", "one", "other"] := def_at (PySem.W.mg_of X G a16) l16 c16 k16 rfl rfl sc16 rfl ck16 fun us hl => match us, hl with | [_, _, _], _ => rfl
  have D17 : DefAt l.prog w K mg cc ds 17 "at" f17 (PySem.W.fnOf "at" "at" (dArgs s17) (dBody s17) (dScope s17) .none kV17 dc17 pm17 an17 cd17 ct17) ["p", "line", "place"] := def_at (PySem.W.mg_of X G a17) l17 c17 k17 rfl rfl sc17 rfl ck17 fun us hl => match us, hl with | [_, _, _], _ => rfl
  have D18 : DefAt l.prog w K mg cc ds 18 "line_through" f18 (PySem.W.fnOf "line_through" "line_through" (dArgs s18) (dBody s18) (dScope s18) .none kV18 dc18 pm18 an18 cd18 ct18) ["p", "points"] := def_at (PySem.W.mg_of X G a18) l18 c18 k18 rfl rfl sc18 rfl ck18 fun us hl => match us, hl with | [_, _], _ => rfl
  have D19 : DefAt l.prog w K mg cc ds 19 "through" f19 (PySem.W.fnOf "through" "through" (dArgs s19) (dBody s19) (dScope s19) .none kV19 dc19 pm19 an19 cd19 ct19) ["p", "points"] := def_at (PySem.W.mg_of X G a19) l19 c19 k19 rfl rfl sc19 rfl ck19 fun us hl => match us, hl with | [_, _], _ => rfl
  have D20 : DefAt l.prog w K mg cc ds 20 "_law_taken" f20 (PySem.W.fnOf "_law_taken" "_law_taken" (dArgs s20) (dBody s20) (dScope s20) .none kV20 dc20 pm20 an20 cd20 ct20) ["_law_row", "_law_many"] := def_at (PySem.W.mg_of X G a20) l20 c20 k20 rfl rfl sc20 rfl ck20 fun us hl => match us, hl with | [_, _], _ => rfl
  have D21 : DefAt l.prog w K mg cc ds 21 "_law_pick" f21 (PySem.W.fnOf "_law_pick" "_law_pick" (dArgs s21) (dBody s21) (dScope s21) .none kV21 dc21 pm21 an21 cd21 ct21) ["_law_row", "_law_things"] := def_at (PySem.W.mg_of X G a21) l21 c21 k21 rfl rfl sc21 rfl ck21 fun us hl => match us, hl with | [_, _], _ => rfl
  have D22 : DefAt l.prog w K mg cc ds 22 "_law_alike" f22 (PySem.W.fnOf "_law_alike" "_law_alike" (dArgs s22) (dBody s22) (dScope s22) .none kV22 dc22 pm22 an22 cd22 ct22) ["_law_found", "_law_due"] := def_at (PySem.W.mg_of X G a22) l22 c22 k22 rfl rfl sc22 rfl ck22 fun us hl => match us, hl with | [_, _], _ => rfl
  have D23 : DefAt l.prog w K mg cc ds 23 "_law_prime" f23 (PySem.W.fnOf "_law_prime" "_law_prime" (dArgs s23) (dBody s23) (dScope s23) .none kV23 dc23 pm23 an23 cd23 ct23) ["_law_row"] := def_at (PySem.W.mg_of X G a23) l23 c23 k23 rfl rfl sc23 rfl ck23 fun us hl => match us, hl with | [_], _ => rfl
  have D24 : DefAt l.prog w K mg cc ds 24 "_law_number" f24 (PySem.W.fnOf "_law_number" "_law_number" (dArgs s24) (dBody s24) (dScope s24) .none kV24 dc24 pm24 an24 cd24 ct24) ["_law_row", "_law_p"] := def_at (PySem.W.mg_of X G a24) l24 c24 k24 rfl rfl sc24 rfl ck24 fun us hl => match us, hl with | [_, _], _ => rfl
  have D25 : DefAt l.prog w K mg cc ds 25 "_law_numbers" f25 (PySem.W.fnOf "_law_numbers" "_law_numbers" (dArgs s25) (dBody s25) (dScope s25) .none kV25 dc25 pm25 an25 cd25 ct25) ["_law_row", "_law_p", "_law_many"] := def_at (PySem.W.mg_of X G a25) l25 c25 k25 rfl rfl sc25 rfl ck25 fun us hl => match us, hl with | [_, _, _], _ => rfl
  have D26 : DefAt l.prog w K mg cc ds 26 "_law_cut" f26 (PySem.W.fnOf "_law_cut" "_law_cut" (dArgs s26) (dBody s26) (dScope s26) .none kV26 dc26 pm26 an26 cd26 ct26) ["_law_numbers_here"] := def_at (PySem.W.mg_of X G a26) l26 c26 k26 rfl rfl sc26 rfl ck26 fun us hl => match us, hl with | [_], _ => rfl
  have D27 : DefAt l.prog w K mg cc ds 27 "_law_line" f27 (PySem.W.fnOf "_law_line" "_law_line" (dArgs s27) (dBody s27) (dScope s27) .none kV27 dc27 pm27 an27 cd27 ct27) ["_law_row", "_law_p", "_law_most"] := def_at (PySem.W.mg_of X G a27) l27 c27 k27 rfl rfl sc27 rfl ck27 fun us hl => match us, hl with | [_, _, _], _ => rfl
  have D28 : DefAt l.prog w K mg cc ds 28 "_law_at" f28 (PySem.W.fnOf "_law_at" "_law_at" (dArgs s28) (dBody s28) (dScope s28) .none kV28 dc28 pm28 an28 cd28 ct28) ["_law_p", "_law_line_here", "_law_place"] := def_at (PySem.W.mg_of X G a28) l28 c28 k28 rfl rfl sc28 rfl ck28 fun us hl => match us, hl with | [_, _, _], _ => rfl
  have D29 : DefAt l.prog w K mg cc ds 29 "_law_inverse" f29 (PySem.W.fnOf "_law_inverse" "_law_inverse" (dArgs s29) (dBody s29) (dScope s29) .none kV29 dc29 pm29 an29 cd29 ct29) ["_law_p", "_law_number_here"] := def_at (PySem.W.mg_of X G a29) l29 c29 k29 rfl rfl sc29 rfl ck29 fun us hl => match us, hl with | [_, _], _ => rfl
  have D30 : DefAt l.prog w K mg cc ds 30 "_law_through" f30 (PySem.W.fnOf "_law_through" "_law_through" (dArgs s30) (dBody s30) (dScope s30) .none kV30 dc30 pm30 an30 cd30 ct30) ["_law_p", "_law_values"] := def_at (PySem.W.mg_of X G a30) l30 c30 k30 rfl rfl sc30 rfl ck30 fun us hl => match us, hl with | [_, _], _ => rfl
  have D31 : DefAt l.prog w K mg cc ds 31 "_law_is_line" f31 (PySem.W.fnOf "_law_is_line" "_law_is_line" (dArgs s31) (dBody s31) (dScope s31) .none kV31 dc31 pm31 an31 cd31 ct31) ["_law_p", "_law_value"] := def_at (PySem.W.mg_of X G a31) l31 c31 k31 rfl rfl sc31 rfl ck31 fun us hl => match us, hl with | [_, _], _ => rfl
  have D32 : DefAt l.prog w K mg cc ds 32 "law" fa (PySem.W.fnOf "law" "law" (dArgs s32) (dBody s32) (dScope s32) .none kV32 dc32 pm32 an32 cd32 ct32) ["_law_script"] := def_at (PySem.W.mg_of X G a32) l32 c32 k32 rfl rfl sc32 rfl ck32 fun us hl => match us, hl with | [_], _ => rfl
  exact ⟨_, ⟨D32, fun s u => .of_eq rfl, AllD.get (.cons ⟨_, _, _, D0⟩ (.cons ⟨_, _, _, D1⟩ (.cons ⟨_, _, _, D2⟩ (.cons ⟨_, _, _, D3⟩ (.cons ⟨_, _, _, D4⟩ (.cons ⟨_, _, _, D5⟩ (.cons ⟨_, _, _, D6⟩ (.cons ⟨_, _, _, D7⟩ (.cons ⟨_, _, _, D8⟩ (.cons ⟨_, _, _, D9⟩ (.cons ⟨_, _, _, D10⟩ (.cons ⟨_, _, _, D11⟩ (.cons ⟨_, _, _, D12⟩ (.cons ⟨_, _, _, D13⟩ (.cons ⟨_, _, _, D14⟩ (.cons ⟨_, _, _, D15⟩ (.cons ⟨_, _, _, D16⟩ (.cons ⟨_, _, _, D17⟩ (.cons ⟨_, _, _, D18⟩ (.cons ⟨_, _, _, D19⟩ (.cons ⟨_, _, _, D20⟩ (.cons ⟨_, _, _, D21⟩ (.cons ⟨_, _, _, D22⟩ (.cons ⟨_, _, _, D23⟩ (.cons ⟨_, _, _, D24⟩ (.cons ⟨_, _, _, D25⟩ (.cons ⟨_, _, _, D26⟩ (.cons ⟨_, _, _, D27⟩ (.cons ⟨_, _, _, D28⟩ (.cons ⟨_, _, _, D29⟩ (.cons ⟨_, _, _, D30⟩ (.cons ⟨_, _, _, D31⟩ (.cons ⟨_, _, _, D32⟩ .nil))))))))))))))))))))))))))))))))), AllC.get (.cons ⟨_, .int 2147483647, PySem.W.mg_of X G e0, ⟨_, rfl⟩, fun _ _ => .int _⟩ (.cons ⟨_, .ref E1, PySem.W.mg_of X G e1, rfl, fun _ _ => .tup (.inr ⟨_, _, _, el1, ek1, rfl, (by show 4 ≤ sizeLine; decide), (.cons er1_0 (.cons er1_1 (.cons er1_2 (.cons er1_3 .nil))))⟩) (.cons (.int _) (.cons (.int _) (.cons (.int _) (.cons (.int _) .nil))))⟩ (.cons ⟨_, .int 200, PySem.W.mg_of X G e2, ⟨_, rfl⟩, fun _ _ => .int _⟩ (.cons ⟨_, .int 60, PySem.W.mg_of X G e3, ⟨_, rfl⟩, fun _ _ => .int _⟩ .nil)))), AllB.get (.cons (PySem.W.mg_none_of X G z0) (.cons (PySem.W.mg_none_of X G z1) (.cons (PySem.W.mg_none_of X G z2) (.cons (PySem.W.mg_none_of X G z3) (.cons (PySem.W.mg_none_of X G z4) (.cons (PySem.W.mg_none_of X G z5) (.cons (PySem.W.mg_none_of X G z6) (.cons (PySem.W.mg_none_of X G z7) (.cons (PySem.W.mg_none_of X G z8) (.cons (PySem.W.mg_none_of X G z9) (.cons (PySem.W.mg_none_of X G z10) (.cons (PySem.W.mg_none_of X G z11) (.cons (PySem.W.mg_none_of X G z12) (.cons (PySem.W.mg_none_of X G z13) (.cons (PySem.W.mg_none_of X G z14) (.cons (PySem.W.mg_none_of X G z15) (.cons (PySem.W.mg_none_of X G z16) (.cons (PySem.W.mg_none_of X G z17) (.cons (PySem.W.mg_none_of X G z18) (.cons (PySem.W.mg_none_of X G z19) (.cons (PySem.W.mg_none_of X G z20) .nil)))))))))))))))))))))⟩⟩
end K02
open PySem PySem.W PyProof.Rows
set_option maxRecDepth 100000 in
set_option maxHeartbeats 0 in
theorem PySem.Challenge.cw_pointsenough_k02_whole_lines_through_holds : PySem.Challenge.rw_pointsenough_k02_whole_lines_through.Holds := by
  w_on; o_law; k_head; (case hw => w_witness2)
  k_fill
  refine Px.px_walk (l := PySem.Challenge.rw_pointsenough_k02_whole_lines_through) (c := K02.cc) (ds := K02.ds) (il := 32) (k := 60) (x := "_law_script") rfl rfl ⟨rfl, by decide, by decide⟩ (fun w h Y => PySem.W.kIn_of Y) ?F K02.holds
  case F =>
    intro w mg fa h KX G hmg
    refine' K02.all_mk KX G hmg ?a0 ?l0 ?c0 ?k0 ?a1 ?l1 ?c1 ?k1 ?a2 ?l2 ?c2 ?k2 ?a3 ?l3 ?c3 ?k3 ?a4 ?l4 ?c4 ?k4 ?a5 ?l5 ?c5 ?k5 ?t5 ?tv5_0 ?a6 ?l6 ?c6 ?k6 ?a7 ?l7 ?c7 ?k7 ?a8 ?l8 ?c8 ?k8 ?a9 ?l9 ?c9 ?k9 ?a10 ?l10 ?c10 ?k10 ?a11 ?l11 ?c11 ?k11 ?a12 ?l12 ?c12 ?k12 ?a13 ?l13 ?c13 ?k13 ?a14 ?l14 ?c14 ?k14 ?a15 ?l15 ?c15 ?k15 ?a16 ?l16 ?c16 ?k16 ?a17 ?l17 ?c17 ?k17 ?a18 ?l18 ?c18 ?k18 ?a19 ?l19 ?c19 ?k19 ?a20 ?l20 ?c20 ?k20 ?a21 ?l21 ?c21 ?k21 ?a22 ?l22 ?c22 ?k22 ?a23 ?l23 ?c23 ?k23 ?a24 ?l24 ?c24 ?k24 ?a25 ?l25 ?c25 ?k25 ?a26 ?l26 ?c26 ?k26 ?a27 ?l27 ?c27 ?k27 ?a28 ?l28 ?c28 ?k28 ?a29 ?l29 ?c29 ?k29 ?a30 ?l30 ?c30 ?k30 ?a31 ?l31 ?c31 ?k31 ?a32 ?l32 ?c32 ?k32 ?e0 ?e1 ?el1 ?ek1 ?er1_0 ?er1_1 ?er1_2 ?er1_3 ?e2 ?e3 ?z0 ?z1 ?z2 ?z3 ?z4 ?z5 ?z6 ?z7 ?z8 ?z9 ?z10 ?z11 ?z12 ?z13 ?z14 ?z15 ?z16 ?z17 ?z18 ?z19 ?z20
    (case a0 => k_is)
    (case l0 => k_is)
    (case c0 => k_is)
    (case k0 => k_is)
    (case a1 => k_is)
    (case l1 => k_is)
    (case c1 => k_is)
    (case k1 => k_is)
    (case a2 => k_is)
    (case l2 => k_is)
    (case c2 => k_is)
    (case k2 => k_is)
    (case a3 => k_is)
    (case l3 => k_is)
    (case c3 => k_is)
    (case k3 => k_is)
    (case a4 => k_is)
    (case l4 => k_is)
    (case c4 => k_is)
    (case k4 => k_is)
    (case a5 => k_is)
    (case l5 => k_is)
    (case c5 => k_is)
    (case k5 => k_is)
    (case t5 => k_is)
    (case tv5_0 => first | exact ⟨_, rfl⟩ | rfl)
    (case a6 => k_is)
    (case l6 => k_is)
    (case c6 => k_is)
    (case k6 => k_is)
    (case a7 => k_is)
    (case l7 => k_is)
    (case c7 => k_is)
    (case k7 => k_is)
    (case a8 => k_is)
    (case l8 => k_is)
    (case c8 => k_is)
    (case k8 => k_is)
    (case a9 => k_is)
    (case l9 => k_is)
    (case c9 => k_is)
    (case k9 => k_is)
    (case a10 => k_is)
    (case l10 => k_is)
    (case c10 => k_is)
    (case k10 => k_is)
    (case a11 => k_is)
    (case l11 => k_is)
    (case c11 => k_is)
    (case k11 => k_is)
    (case a12 => k_is)
    (case l12 => k_is)
    (case c12 => k_is)
    (case k12 => k_is)
    (case a13 => k_is)
    (case l13 => k_is)
    (case c13 => k_is)
    (case k13 => k_is)
    (case a14 => k_is)
    (case l14 => k_is)
    (case c14 => k_is)
    (case k14 => k_is)
    (case a15 => k_is)
    (case l15 => k_is)
    (case c15 => k_is)
    (case k15 => k_is)
    (case a16 => k_is)
    (case l16 => k_is)
    (case c16 => k_is)
    (case k16 => k_is)
    (case a17 => k_is)
    (case l17 => k_is)
    (case c17 => k_is)
    (case k17 => k_is)
    (case a18 => k_is)
    (case l18 => k_is)
    (case c18 => k_is)
    (case k18 => k_is)
    (case a19 => k_is)
    (case l19 => k_is)
    (case c19 => k_is)
    (case k19 => k_is)
    (case a20 => k_is)
    (case l20 => k_is)
    (case c20 => k_is)
    (case k20 => k_is)
    (case a21 => k_is)
    (case l21 => k_is)
    (case c21 => k_is)
    (case k21 => k_is)
    (case a22 => k_is)
    (case l22 => k_is)
    (case c22 => k_is)
    (case k22 => k_is)
    (case a23 => k_is)
    (case l23 => k_is)
    (case c23 => k_is)
    (case k23 => k_is)
    (case a24 => k_is)
    (case l24 => k_is)
    (case c24 => k_is)
    (case k24 => k_is)
    (case a25 => k_is)
    (case l25 => k_is)
    (case c25 => k_is)
    (case k25 => k_is)
    (case a26 => k_is)
    (case l26 => k_is)
    (case c26 => k_is)
    (case k26 => k_is)
    (case a27 => k_is)
    (case l27 => k_is)
    (case c27 => k_is)
    (case k27 => k_is)
    (case a28 => k_is)
    (case l28 => k_is)
    (case c28 => k_is)
    (case k28 => k_is)
    (case a29 => k_is)
    (case l29 => k_is)
    (case c29 => k_is)
    (case k29 => k_is)
    (case a30 => k_is)
    (case l30 => k_is)
    (case c30 => k_is)
    (case k30 => k_is)
    (case a31 => k_is)
    (case l31 => k_is)
    (case c31 => k_is)
    (case k31 => k_is)
    (case a32 => k_is)
    (case l32 => k_is)
    (case c32 => k_is)
    (case k32 => k_is)
    (case e0 => k_is)
    (case e1 => k_is)
    (case el1 => k_is)
    (case ek1 => rfl)
    (case er1_0 => first | exact ⟨_, rfl⟩ | rfl)
    (case er1_1 => first | exact ⟨_, rfl⟩ | rfl)
    (case er1_2 => first | exact ⟨_, rfl⟩ | rfl)
    (case er1_3 => first | exact ⟨_, rfl⟩ | rfl)
    (case e2 => k_is)
    (case e3 => k_is)
    (case z0 => k_is)
    (case z1 => k_is)
    (case z2 => k_is)
    (case z3 => k_is)
    (case z4 => k_is)
    (case z5 => k_is)
    (case z6 => k_is)
    (case z7 => k_is)
    (case z8 => k_is)
    (case z9 => k_is)
    (case z10 => k_is)
    (case z11 => k_is)
    (case z12 => k_is)
    (case z13 => k_is)
    (case z14 => k_is)
    (case z15 => k_is)
    (case z16 => k_is)
    (case z17 => k_is)
    (case z18 => k_is)
    (case z19 => k_is)
    (case z20 => k_is)
