import PyProof.Rows.All
import HandS.ForMost
import KE.SortData
import KE.KeyNested
import HandS.Exc
import HandS.CallSlots
import HandS.WordsExc
import HandS.Walk
import HandS.Deep
import HandS.ExcInit
import HandS.ExcValue
import HandS.Nested
import HandS.TupAny
import HandS.TupMul
import HandS.Style
import HandS.DictTup
import HandS.TupLe
import HandS.IsInst
import KE.KRevSl
import PyProof.DictUpdate
import HandS.SortRule
import HandS.More
import HandS.Conv
import KE.KDictPairs
import HandS.Strs
import KE.DatumOrd
import HandS.StrMore
import HandS.ExcOwn
import HandS.Defaults
import KE.KIsAll
import HandS.ExcField
import HandS.TryOnly
import HandS.Property
import HandS.ClsMeth
import KE.KCallOwn
import KE.GoesEnum
import HandS.Zip
import HandS.DictComp
import HandS.TupSets
import HandS.FStr
import KE.KFmtOwn
import KE.KExcIs
import KE.KTryMore
import KE.KDictCopyH
import KE.KDictDisplayH
import KE.GoesZip
import KE.KDictZip
import HandS.GenList
import KE.GoesMore
import HandS.Small
import HandS.TryMany
import KE.KNestM
import PySem.Challenge.RW_webscripts_k02_neighbours
import PyProof.ReprBulk
import KE.KStrOpen
import PyProof.Rows.StrFit
set_option Elab.async false
set_option linter.all false
set_option maxRecDepth 100000
namespace My
open PySem PySem.Spec PyProof.Rows L2
theorem Qaa : type_of% @Bool.and_eq_true := @Bool.and_eq_true
theorem Qab : type_of% @decide_eq_true_eq := @decide_eq_true_eq
theorem Qac : type_of% @wpAny_bind := @wpAny_bind
theorem Qad : type_of% @Option.map_eq_some_iff := @Option.map_eq_some_iff
theorem Qae : type_of% @List.mem_cons_of_mem := @List.mem_cons_of_mem
theorem Qaf : type_of% @List.mem_cons := @List.mem_cons
theorem Qag : type_of% @List.mem_cons_self := @List.mem_cons_self
theorem Qah : type_of% @wpAny_pure := @wpAny_pure
theorem Qai : type_of% @List.length_cons := @List.length_cons
theorem Qaj : type_of% @List.map_cons := @List.map_cons
theorem Qak : type_of% @Option.bind_eq_some_iff := @Option.bind_eq_some_iff
theorem Qal : type_of% @List.length_map := @List.length_map
theorem Qam : type_of% @Heap.get?_push_of_some := @Heap.get?_push_of_some
theorem Qan : type_of% @if_pos := @if_pos
theorem Qao : type_of% @Nat.le_refl := @Nat.le_refl
theorem Qap : type_of% @List.all_eq_true := @List.all_eq_true
theorem Qaq : type_of% @List.getElem?_set_ne := @List.getElem?_set_ne
theorem Qar : type_of% @List.getElem?_map := @List.getElem?_map
theorem Qas : type_of% @List.all_cons := @List.all_cons
theorem Qat : type_of% @if_neg := @if_neg
theorem Qau : type_of% @of_decide_eq_true := @of_decide_eq_true
theorem Qav : type_of% @Bool.not_eq_true' := @Bool.not_eq_true'
theorem Qaw : type_of% @Nat.le_trans := @Nat.le_trans
theorem Qax : type_of% @Nat.zero_le := @Nat.zero_le
theorem Qay : type_of% @List.getElem?_eq_some_iff := @List.getElem?_eq_some_iff
theorem Qaz : type_of% @List.contains_iff_mem := @List.contains_iff_mem
theorem Qa0 : type_of% @Heap.get?_push_size := @Heap.get?_push_size
theorem Qa1 : type_of% @List.any_eq_true := @List.any_eq_true
theorem Qa2 : type_of% @List.mem_map := @List.mem_map
theorem Qa3 : type_of% @List.getElem?_set_self := @List.getElem?_set_self
theorem Qa4 : type_of% @Nat.lt_of_lt_of_le := @Nat.lt_of_lt_of_le
theorem Qa5 : type_of% @List.append_nil := @List.append_nil
theorem Qa6 : type_of% @List.size_toArray := @List.size_toArray
theorem Qa7 : type_of% @List.mem_append_left := @List.mem_append_left
theorem Qa8 : type_of% @List.getElem?_eq_getElem := @List.getElem?_eq_getElem
theorem Qa9 : type_of% @List.pairwise_cons := @List.pairwise_cons
theorem Qba : type_of% @List.getElem?_eq_none := @List.getElem?_eq_none
theorem Qbb : type_of% @List.not_mem_nil := @List.not_mem_nil
theorem Qbc : type_of% @List.getElem?_append_left := @List.getElem?_append_left
theorem Qbd : type_of% @List.length_append := @List.length_append
theorem Qbe : type_of% @List.mem_singleton := @List.mem_singleton
theorem Qbf : type_of% @List.mem_append_right := @List.mem_append_right
theorem Qbg : type_of% @Nat.ne_of_lt := @Nat.ne_of_lt
theorem Qbh : type_of% @List.mem_append := @List.mem_append
theorem Qbi : type_of% @List.mem_of_getElem? := @List.mem_of_getElem?
theorem Qbj : type_of% @List.mem_of_mem_take := @List.mem_of_mem_take
theorem Qbk : type_of% @List.drop_eq_getElem_cons := @List.drop_eq_getElem_cons
theorem Qbl : type_of% @Array.getElem?_toList := @Array.getElem?_toList
theorem Qbm : type_of% @List.map_map := @List.map_map
end My
namespace My
open PySem
inductive D where
 | non | bl (b : Bool) | int (i : Int) | str (s : Str) | tup (xs : List D)
 | wt (xs : List D) | ks (xs : List D) | wl (xs : List D) | wd (kvs : List (L2.Key × D))
 | kt (xs : List D)
 | wT (kvs : List (NestedKey × D))
 | ref (n : Nat)
 | fn (x : Str)
 | exn (c : Str) (fs : List Str) (xs : List D)
 | clo (x : Str) (cs : List D)
inductive O where
 | lst (xs : List D)
 | dK (kvs : List (L2.Key × D))
 | dT (kvs : List (NestedKey × D))
 | ins (c : Str) (fs : List (Str × D))
def O.rd : O -> D
 | .lst xs => .wl xs
 | .dK kvs => .wd kvs
 | .dT kvs => .wT kvs
 | .ins _ _ => .fn ""
def O.isC : O -> Bool
 | .ins _ _ => false
 | _ => true
inductive Sl where
 | no | v (d : D) | o (ob : O)
 | c (x : Str) (cs : List D) | df (x : Str) (is : List Nat)
structure Store where
 l : List O
namespace Store
def get (S : Store) (i : Nat) : Option O := S.l[i]?
def nx (S : Store) : Nat := S.l.length
def put (S : Store) (i : Nat) (o : O) : Store := ⟨S.l.set i o⟩
def new (S : Store) (o : O) : Store := ⟨S.l ++ [o]⟩
end Store
structure Xn where
 c : Str
 fs : List (Str × D)
inductive R (ε α : Type) where
 | ok (a : α) (S : Store) | exc (e : ε) (S : Store) | bad
namespace R
variable {ε ε' α β γ : Type}
def bind : R ε α -> (α -> Store -> R ε β) -> R ε β
 | ok a S, f => f a S
 | exc e S, _ => exc e S
 | bad, _ => bad
def mapE (g : ε -> ε') : R ε α -> R ε' α
 | ok a S => ok a S
 | exc e S => exc (g e) S
 | bad => bad
def calm : R ε α -> R ε' α
 | ok a S => ok a S
 | exc _ _ => bad
 | bad => bad
def ofO (S : Store) : Option α -> R ε α
 | some a => ok a S
 | none => bad
def wp (r : R ε α) (Q : α -> Store -> Prop) (E : ε -> Store -> Prop) : Prop := match r with
 | ok a S => Q a S
 | exc e S => E e S
 | bad => False
@[simp] theorem bind_ok (a : α) (S : Store) (f : α -> Store -> R ε β) : (ok a S).bind f = f a S := rfl
@[simp] theorem Z6m (e : ε) (S : Store) (f : α -> Store -> R ε β) : (exc e S : R ε α).bind f = exc e S := rfl
@[simp] theorem Z6n (f : α -> Store -> R ε β) : (bad : R ε α).bind f = bad := rfl
@[simp] theorem Z80 (a : α) (S : Store) : (ok a S : R ε α).calm = (ok a S : R ε' α) := rfl
@[simp] theorem Z81 (g : ε -> ε') (a : α) (S : Store) : (ok a S : R ε α).mapE g = ok a S := rfl
@[simp] theorem Z6o (g : ε -> ε') (e : ε) (S : Store) : (exc e S : R ε α).mapE g = exc (g e) S := rfl
@[simp] theorem ofO_some (S : Store) (a : α) : (ofO S (some a) : R ε α) = ok a S := rfl
@[simp] theorem wp_ok (a : α) (S : Store) (Q : α -> Store -> Prop) (E : ε -> Store -> Prop) : (ok a S).wp Q E = Q a S := rfl
theorem wp_bind (r : R ε α) (f : α -> Store -> R ε β) (Q : β -> Store -> Prop) (E : ε -> Store -> Prop) : (r.bind f).wp Q E = r.wp (fun a S => (f a S).wp Q E) E := by cases r <;> rfl
theorem wp_mapE (r : R ε α) (g : ε -> ε') (Q : α -> Store -> Prop) (E : ε' -> Store -> Prop) : (r.mapE g).wp Q E = r.wp Q (fun e S => E (g e) S) := by cases r <;> rfl
theorem wp_calm (r : R ε α) (Q : α -> Store -> Prop) (E : ε' -> Store -> Prop) : (r.calm).wp Q E = r.wp Q (fun _ _ => False) := by cases r <;> rfl
theorem wp_mono {r : R ε α} {Q Q' : α -> Store -> Prop} {E E' : ε -> Store -> Prop} (h : r.wp Q E) (hQ : ∀ a S, Q a S -> Q' a S) (hE : ∀ e S, E e S -> E' e S) : r.wp Q' E' := by
 cases r with
 | ok a S => exact hQ a S h
 | exc e S => exact hE e S h
 | bad => exact h
end R
def Zbv {α β : Type} (f : α -> Option β) : List α -> Option (List β)
 | [] => some []
 | x :: r => match f x, Zbv f r with
  | some y, some t => some (y :: t)
  | _, _ => none
def Zqz {κ α β : Type} (f : α -> Option β) : List (κ × α) -> Option (List (κ × β))
 | [] => some []
 | (k, x) :: r => match f x, Zqz f r with
  | some y, some t => some ((k, y) :: t)
  | _, _ => none
def Zfu : L2.Key -> PyData
 | .inl i => .int i
 | .inr s => .str s
def deep : Nat -> D -> Option PyData
 | _, .non => some .none
 | _, .bl b => some (.bool b)
 | _, .int i => some (.int i)
 | _, .str s => some (.str s)
 | 0, _ => none
 | n + 1, .tup xs => (Zbv (deep n) xs).map PyData.tuple
 | n + 1, .wt xs => (Zbv (deep n) xs).map PyData.tuple
 | n + 1, .kt xs => (Zbv (deep n) xs).map PyData.tuple
 | n + 1, .wl xs => (Zbv (deep n) xs).map PyData.list
 | n + 1, .wd kvs => (Zqz (deep n) kvs).map fun ps => PyData.dict (ps.map fun p => (Zfu p.1, p.2))
 | _, _ => none
abbrev Zep : Nat := 12
def Zdi : D -> Bool
 | .non => true
 | .bl _ => true
 | .int _ => true
 | .str _ => true
 | _ => false
def eqF : D -> D -> Bool
 | .non, .non => true
 | .bl a, .bl b => a == b
 | .bl a, .int b => (if a then 1 else 0) == b
 | .int a, .bl b => a == (if b then 1 else 0)
 | .int a, .int b => a == b
 | .str a, .str b => a == b
 | _, _ => false
def Zne (x y : D) : Option Bool := do
 let p <- deep Zep x
 let q <- deep Zep y
 if SeqAt.shaped p = true /\ SeqAt.shaped q = true then some (PyData.eqv p q) else none
def eqD (x y : D) : Option Bool := match x, y with
 | .str a, .str b => some (decide (a = b))
 | .int a, .int b => some (decide (a = b))
 | .bl a, .bl b => some (decide (a = b))
 | .tup xs, .tup [] => some xs.isEmpty
 | .wl xs, .wl [] => some xs.isEmpty
 | x, y => Zne x y
def Zgs (x : D) : Option Str := do
 let p <- deep Zep x
 if p.showable = true /\ p.shown.length <= sizeLine /\ p.depth <= 60 then some p.shown else none
def Znf : D -> Option (List D)
 | .tup xs => some xs
 | .wt xs => some xs
 | .kt xs => some xs
 | .wl xs => some xs
 | .ks xs => some xs
 | _ => none
def Zcj : D -> Option L2.Key
 | .int i => some (.inl i)
 | .str s => some (.inr s)
 | _ => none
mutual
def Z82 : D -> Option NestedKey
 | .int i => some (.num i)
 | .str s => some (.text s)
 | .tup xs => (Zng xs).map .tup
 | _ => none
def Zng : List D -> Option (List NestedKey)
 | [] => some []
 | x :: xs => (Z82 x).bind fun k => (Zng xs).map fun ks => k :: ks
end
def Zb1 : D -> Option NestedKey
 | .tup xs => (Zng xs).bind fun ks => if NestedKey.depthAll ks < 8 then some (.tup ks) else none
 | _ => none
mutual
def Zq0 : NestedKey -> D
 | .none => .non
 | .num i => .int i
 | .text s => .str s
 | .tup ks => .tup (Zvr ks)
def Zvr : List NestedKey -> List D
 | [] => []
 | k :: ks => Zq0 k :: Zvr ks
end
def ofKey : L2.Key -> D
 | .inl i => .int i
 | .inr s => .str s
abbrev RD := R Xn D
def isNon : D -> Bool
 | .non => true
 | _ => false
def isE : Bool -> D -> D -> Option Bool
 | p, x, .non => some (p == isNon x)
 | p, .bl a, .bl b => some (p == decide (a = b))
 | _, _, _ => none
def Zbh (z : Str) (n : Nat) : Str := ⟨(List.replicate n z.cps.toList).flatten.toArray⟩
def Zbf (x : Str) : Bool := x.cps.toList.contains 47
def bsN (x : Str) : Str := if Zbf x then ⟨(x.cps.toList.takeWhile fun c => !(c == 47)).toArray⟩ else x
def Zht (op : Operator) (x y : D) : Option D := match op, x, y with
 | .Add, .int i, .int j => some (.int (i + j))
 | .Add, .str i, .str j => if i.length + j.length <= sizeLine then some (.str (i ++ j)) else none
 | .Add, .tup xs, .tup ys => if xs.length + ys.length <= sizeLine then some (.tup (xs ++ ys)) else none
 | .Add, .tup xs, .wt ys => if ys.isEmpty /\ xs.length <= sizeLine then some (if xs.isEmpty then .wt [] else .tup xs) else none
 | .Add, .wl xs, .wl ys => if xs.length + ys.length <= sizeLine then some (.wl (xs ++ ys)) else none
 | .Sub, .int i, .int j => some (.int (i - j))
 | .Mult, .int i, .int j => if (-(2 ^ 64) < i /\ i < 2 ^ 64) \/ (-(2 ^ 64) < j /\ j < 2 ^ 64) then some (.int (i * j)) else none
 | .Mult, .wl xs, .int n => if 0 <= n /\ n <= 1000 /\ xs.length <= 1000 then some (.wl (List.replicate n.toNat xs).flatten) else none
 | .Mult, .tup xs, .int n => if 0 <= n /\ n <= 1000 /\ xs.length <= 1000 then some (.tup (List.replicate n.toNat xs).flatten) else none
 | .Mult, .str z, .int n => if 2 <= n /\ n <= 64 /\ 0 < z.length /\ z.length <= 1000 then some (.str (Zbh z n.toNat)) else none
 | .FloorDiv, .int i, .int j => if j ≠ 0 /\ j.natAbs < 1073741824 then some (.int (i.fdiv j)) else none
 | .Mod, .int i, .int j => if j ≠ 0 then some (.int (i.fmod j)) else none
 | .BitXor, .int i, .int j => some (.int (PySem.Builtin.bitXor i j))
 | .BitXor, .bl i, .bl j => some (.bl (i != j))
 | .Pow, .int i, .int j => if 0 <= j /\ j <= 1000000 /\ i.natAbs < 2 ^ 64 then some (.int (i ^ j.toNat)) else none
 | _, _, _ => none
def Zgt (x : D) (ys : List D) : Option Bool := do
 let p <- deep Zep x
 let qs <- Zbv (deep Zep) ys
 if p.canLay0 = true /\ PyData.canLayAll0 qs = true /\ p.depth <= 60 then some (qs.any fun q => PyData.eqv q p) else none
def Zhu (x : D) (ys : List D) : Option Bool := if Zdi x && ys.all Zdi then some (ys.any fun y => eqF y x) else Zgt x ys
def lookS (kvs : List (Str × Int)) (z : Str) : Option Int := (kvs.find? fun p => decide (p.1 = z)).map (·.2)
def Ze4 (kvs : List (L2.Key × D)) (k : L2.Key) : Option D := (kvs.find? fun p => decide (p.1 = k)).map (·.2)
def Zhw (kvs : List (NestedKey × D)) (k : NestedKey) : Option D := (kvs.find? fun p => decide (p.1 = k)).map (·.2)
def inD (x y : D) : Option Bool := match y with
 | .str j => match x with
  | .str i => if i.length = 1 then some (j.cps.toList.contains (i.cps.getD 0 0)) else none
  | _ => none
 | .tup ys => Zhu x ys
 | .wt ys => Zhu x ys
 | .kt ys => Zhu x ys
 | .wl ys => Zhu x ys
 | .wd kvs => (Zcj x).map fun k => (Ze4 kvs k).isSome
 | .wT kvs => (Zb1 x).map fun k => (Zhw kvs k).isSome
 | _ => none
def Zai (a b : Str) : Bool := decide (a.cps.toList < b.cps.toList)
def Zch (p q : Str × Str) : Bool := if p.1 = q.1 then Zai p.2 q.2 else Zai p.1 q.1
def Zvs : D -> Option (Str × Str)
 | .tup [.str a, .str b] => some (a, b)
 | _ => none
def Zq1 (le : Bool) (x y : D) : Option Bool := (Zvs x).bind fun p => (Zvs y).map fun q => if le then !Zch q p else Zch p q
def Zhv (op : CmpOp) (x y : D) : Option Bool := match op with
 | .Eq => eqD x y
 | .NotEq => (eqD x y).map fun b => !b
 | .Is => isE true x y
 | .IsNot => isE false x y
 | .In => inD x y
 | .NotIn => (inD x y).map fun b => !b
 | op => match op, x, y with
  | .Lt, .int i, .int j => some (decide (i < j))
  | .LtE, .int i, .int j => some (decide (i <= j))
  | .Gt, .int i, .int j => some (decide (j < i))
  | .GtE, .int i, .int j => some (decide (j <= i))
  | .Lt, .str i, .str j => some (Zai i j)
  | .LtE, .str i, .str j => some (!Zai j i)
  | .Lt, x, y => Zq1 false x y
  | .LtE, x, y => Zq1 true x y
  | _, _, _ => none
def rdS (S : Store) : D -> D
 | .ref r => match S.get r with
  | some o => o.rd
  | none => .ref r
 | d => d
def Zf0 (o i : D) : Option D := match o with
 | .tup xs => match i with
  | .int i => L2.atI xs i
  | _ => none
 | .wt xs => match i with
  | .int i => L2.atI xs i
  | _ => none
 | .kt xs => match i with
  | .int i => L2.atI xs i
  | _ => none
 | .ks xs => match i with
  | .int i => L2.atI xs i
  | _ => none
 | .wl xs => match i with
  | .int i => L2.atI xs i
  | _ => none
 | .str z => match i with
  | .int i => if z.length <= sizeLine then (L2.atI z.cps.toList i).map fun c => .str ⟨#[c]⟩ else none
  | _ => none
 | .wd kvs => (Zcj i).bind (Ze4 kvs)
 | .wT kvs => (Zb1 i).bind (Zhw kvs)
 | _ => none
def Zfs {α : Type} (xs : List α) (lo hi : Option Int) : List α := (xs.drop (HT.sIx xs.length 0 lo)).take (HT.sIx xs.length xs.length hi - HT.sIx xs.length 0 lo)
def Zdj (o : D) (lo hi : Option Int) : Option D := match o with
 | .tup xs => some (.tup (Zfs xs lo hi))
 | .wl xs => some (.wl (Zfs xs lo hi))
 | .ks xs => some (.wl (Zfs xs lo hi))
 | .str z => if z.length <= sizeLine then some (.str ⟨(Zfs z.cps.toList lo hi).toArray⟩) else none
 | _ => none
def Ze5 (a : Str) : List Str -> List Str
 | [] => [a]
 | b :: r => if Zai b a then b :: Ze5 a r else a :: b :: r
def Zaj : List Str -> List Str
 | [] => []
 | a :: r => Ze5 a (Zaj r)
def Zi6 (a : Str × Str) : List (Str × Str) -> List (Str × Str)
 | [] => [a]
 | b :: r => if Zch b a then b :: Zi6 a r else a :: b :: r
def Ze6 : List (Str × Str) -> List (Str × Str)
 | [] => []
 | a :: r => Zi6 a (Ze6 r)
def Zbq (p : Str × Str) : D := .tup [.str p.1, .str p.2]
def strOf : D -> Option Str
 | .str s => some s
 | _ => none
def Ycz : D -> Option Bool
 | .bl s => some s
 | _ => none
def Zci (xs : List D) : Option (List Str) := Zbv strOf xs
def Zi7 (xs : List D) : Option (List Bool) := Zbv Ycz xs
def Z03 : D -> Option Int
 | .int i => some i
 | _ => none
def Zt2 (xs : List D) : Option (List Int) := Zbv Z03 xs
def Z83 : List Int -> Option Int
 | [] => none
 | n :: r => some (r.foldl (fun m k => if k > m then k else m) n)
def Yc0 : List Str -> Option Str
 | [] => none
 | n :: r => some (r.foldl (fun m k => if k.cps.toList < m.cps.toList then k else m) n)
inductive Bf where
 | len | abs | int | tuple | repr | all | any | max | min | str
 deriving DecidableEq
def Zft (f : Bf) (xs : List D) : Option D := match f, xs with
 | .len, [x] => match x with
  | .str z => if z.length <= sizeLine then some (.int z.length) else none
  | .wd kvs => some (.int kvs.length)
  | x => (Znf x).map fun xs => .int xs.length
 | .abs, [.int i] => some (.int (if i < 0 then -i else i))
 | .int, [.int i] => some (.int i)
 | .int, [.bl b] => some (.int (if b then 1 else 0))
 | .tuple, [x] => match x with
  | .tup xs => some (.tup xs)
  | .wl xs => some (.tup xs)
  | _ => none
 | .repr, [x] => (Zgs x).map .str
 | .all, [.wl xs] => (Zi7 xs).map fun bs => .bl (bs.all id)
 | .any, [.wl xs] => (Zi7 xs).map fun bs => .bl (bs.any id)
 | .max, [.int i, .int j] => some (.int (if j > i then j else i))
 | .max, [.wl xs] => ((Zt2 xs).bind Z83).map .int
 | .min, [.int i, .int j] => some (.int (if j < i then j else i))
 | .min, [.wl xs] => ((Zci xs).bind Yc0).map .str
 | .str, [.int i] => if i.natAbs.log2 < 1920 then some (.str (toString i)) else none
 | _, _ => none
def Zgu {κ α : Type} [DecidableEq κ] (kvs : List (κ × α)) (k : κ) (v : α) : List (κ × α) :=
 if (kvs.any fun p => decide (p.1 = k)) = true then kvs.map (fun p => if p.1 = k then (p.1, v) else p) else kvs ++ [(k, v)]
def putAll {κ α : Type} [DecidableEq κ] (kvs : List (κ × α)) (ps : List (κ × α)) : List (κ × α) := ps.foldl (fun r p => Zgu r p.1 p.2) kvs
def Z84 : D -> Option (L2.Key × D)
 | .tup [k, v] => (Zcj k).map fun k => (k, v)
 | _ => none
def Zvt : D -> Option (NestedKey × D)
 | .tup [k, v] => (Zb1 k).map fun k => (k, v)
 | _ => none
inductive Of where
 | list | sorted | dict | sortedX | dictT
 deriving DecidableEq
def Znh : D -> Option (List D)
 | .wl xs => some xs
 | .tup xs => some xs
 | .wT kvs => some (kvs.map fun p => Zq0 p.1)
 | .wd kvs => some (kvs.map fun p => ofKey p.1)
 | _ => none
def Zl7 (xs : List D) : Option (List D) := match Zci xs with
 | some ss => some ((Zaj ss).map .str)
 | none => (Zbv Zvs xs).map fun ps => (Ze6 ps).map Zbq
def Z04 : PyData -> Bool
 | .tuple _ => true
 | _ => false
def Zvu : PyData -> Bool
 | .tuple _ => false
 | .none => false
 | _ => true
def Zt3 (x : D) : PyData := (deep Zep x).getD .none
def Zi8 (xs : List D) : Option (List D) := match Zbv (deep Zep) xs with
 | some ps => if (ps.all fun p => ps.all fun q => PySem.W.alike p q) = true /\ (ps.all Z04 = true \/ ps.all Zvu = true) /\ (ps.all fun p => decide (p.depth <= 20)) = true then some (xs.mergeSort (PySem.W.dataLe false Zt3)) else none
 | none => none
def Zqq (f : Of) (xs : List D) : Option O := match f, xs with
 | .list, [x] => (Znf x).map .lst
 | .sorted, [x] => ((Znh x).bind Zl7).map .lst
 | .dict, [.wl xs] => (Zbv Z84 xs).map fun ps => .dK (putAll [] ps)
 | .sortedX, [.wl xs] => (Zi8 xs).map .lst
 | .dictT, [x] => ((match x with
  | .wl xs => some xs
  | .tup xs => some xs
  | _ => none : Option (List D)).bind (Zbv Zvt)).map fun ps => .dT (putAll [] ps)
 | _, _ => none
inductive Mf where
 | join | upper | strip | partition | index | indexT
 deriving DecidableEq
def Zqr (f : Mf) (o : D) (xs : List D) : Option D := match f, o, xs with
 | .join, .str a, [x] => ((Znf x).bind Zci).bind fun ss => if (ss.map (·.length)).sum + ss.length * a.length <= 16777216 then some (.str (Txt.join a ss)) else none
 | .upper, .str a, [] => if a.length <= 5592405 then some (.str (Txt.upper a)) else none
 | .strip, .str a, [.str b] => if a.length <= sizeLine then some (.str (Txt.stripChars a b)) else none
 | .partition, .str a, [.str b] => if (b.length == 0) = false /\ a.length <= sizeLine then some (.kt [.str (Txt.partition a b).1, .str (Txt.partition a b).2.1, .str (Txt.partition a b).2.2]) else none
 | .indexT, .tup xs, [.str z] => (Zci xs).bind fun ss => if ss.findIdx (fun y => decide (y = z)) < ss.length then some (.int (ss.findIdx (fun y => decide (y = z)) : Nat)) else none
 | .index, .wl xs, [.str z] => (Zci xs).bind fun ss => if ss.findIdx (fun y => decide (y = z)) < ss.length then some (.int (ss.findIdx (fun y => decide (y = z)) : Nat)) else none
 | _, _, _ => none
def Zeq (f : Mf) (o : D) : Bool := match f, o with
 | .join, .str _ => true
 | .upper, .str _ => true
 | .strip, .str _ => true
 | .partition, .str _ => true
 | .index, .wl _ => true
 | .indexT, .tup _ => true
 | _, _ => false
def Zer {κ α : Type} [DecidableEq κ] (kvs : List (κ × α)) (k : κ) : List (κ × α) := kvs.filter fun p => decide (p.1 ≠ k)
inductive Uf where
 | append | extend | update | pop | insert
 deriving DecidableEq
def Zj9 (f : Uf) (o : O) (xs : List D) : Option O := match f, o, xs with
 | .append, .lst ys, [x] => if ys.length < sizeLine then some (.lst (ys ++ [x])) else none
 | .extend, .lst ys, [x] => match x with
  | .wl zs => if ys.length + zs.length <= sizeLine then some (.lst (ys ++ zs)) else none
  | _ => none
 | .update, .dK kvs, [x] => match x with
  | .wd ps => if kvs.length + ps.length <= sizeLine then some (.dK (putAll kvs ps)) else none
  | _ => none
 | .pop, .dK kvs, [x] => (Zcj x).bind fun k => if (Ze4 kvs k).isSome then some (.dK (Zer kvs k)) else none
 | .pop, .dT kvs, [x] => (Zb1 x).bind fun k => if (Zhw kvs k).isSome then some (.dT (Zer kvs k)) else none
 | .insert, .lst ys, [.int i, x] => if ys.length < sizeLine /\ 0 <= i /\ i < 2 ^ 63 then some (.lst (ys.take i.toNat ++ [x] ++ ys.drop i.toNat)) else none
 | _, _, _ => none
def Zi9 (f : Uf) (o : O) : Bool := match f, o with
 | .append, .lst _ => true
 | .extend, .lst _ => true
 | .update, .dK _ => true
 | .pop, .dK _ => true
 | .pop, .dT _ => true
 | .insert, .lst _ => true
 | _, _ => false
def Znb (f : Uf) (S : Store) (xs : List D) : List D := match f with
 | .extend => xs.map (rdS S)
 | _ => xs
def setO (o : O) (i v : D) : Option O := match o with
 | .lst xs => match i with
  | .int k => (L2.ixN xs.length k).map fun j => .lst (xs.set j v)
  | _ => none
 | .dK kvs => (Zcj i).bind fun k => if kvs.length < sizeLine then some (.dK (Zgu kvs k v)) else none
 | .dT kvs => (Zb1 i).bind fun k => if kvs.length < sizeLine then some (.dT (Zgu kvs k v)) else none
 | .ins _ _ => none
inductive Ty where
 | str | tuple | list | dict | int | bool
 deriving DecidableEq
def Zni (d : D) : Ty -> Bool
 | .str => match d with
  | .str _ => true
  | _ => false
 | .tuple => match d with
  | .tup _ => true
  | .wt _ => true
  | .kt _ => true
  | _ => false
 | .list => match d with
  | .wl _ => true
  | .ks _ => true
  | _ => false
 | .dict => match d with
  | .wd _ => true
  | _ => false
 | .int => match d with
  | .int _ => true
  | .bl _ => true
  | _ => false
 | .bool => match d with
  | .bl _ => true
  | _ => false
def Zbj : D -> Bool
 | .ref _ => false
 | .fn _ => false
 | .ks _ => false
 | .wT _ => false
 | .exn _ _ _ => false
 | .clo _ _ => false
 | _ => true
inductive MT where
 | nm (i : Nat) | tp (is : List Nat)
mutual
inductive ME where
 | cst (d : D)
 | var (i : Nat)
 | glb (x : Str) (d : D)
 | bin (op : Operator) (a b : ME)
 | neg (a : ME)
 | cmp (op : CmpOp) (a b : MR)
 | nt (a : ME)
 | and (a b : ME)
 | or (a b : ME)
 | ife (c a b : ME)
 | tup (es : List ME)
 | sub (a : MR) (i : ME)
 | slc (a : ME) (lo hi : Option ME)
 | rev (a : ME)
 | call (f : Str) (es : List ME)
 | blt (f : Bf) (es : List MR)
 | mth (f : Mf) (o : MR) (es : List ME)
 | dget (o : MR) (k d : ME)
 | isi (a : ME) (t : Ty)
 | frz (o : MO)
 | sto (o : MO)
 | fld (c : Str) (o : ME) (f : Str)
 | meth (c : Str) (o : ME) (m d : Str) (es : List ME)
 | make (c ini : Str) (es : List ME)
 | metC (c : Str) (o : ME) (m d : Str) (es : List ME)
 | opI (c : Str) (op : Operator) (o : ME) (d : Str) (e : ME)
 | isC (c : Str) (e : ME) | isiI (c : Str) (e : ME) (t : Ty)
 | prp (c : Str) (o : ME) (m d : Str)
 | lenM (c : Str) (o : ME) (d : Str)
 | eqI (c : Str) (neg : Bool) (o : ME) (d : Str) (e : ME)
 | conI (c : Str) (neg : Bool) (e : ME) (o : ME) (d : Str)
 | idxI (c : Str) (o : ME) (d : Str) (e : ME)
 | strI (c : Str) (o : ME) (d : Str)
 | fpc (e : ME) | fstr (es : List ME)
 | mkx (c : Str) (fs : List Str) (es : List ME)
 | fldX (c : Str) (fs : List Str) (o : ME) (f : Str)
 | isXo (c : Str) (al subs : List Str) (e : ME)
 | isXt (ts : List Str) (tup : Bool) (al subs : List Str) (e : ME)
 | clsm (c m d : Str) (es : List ME)
 | makV (i : Nat) (c ini : Str) (es : List ME)
 | callL (f : Str) (as : List MA)
 | methL (c : Str) (o : ME) (m d : Str) (as : List MA)
 | callc (i : Nat) (xs : List Str) (as : List MA)
 | byc (i : Nat) (c : Str) (a b : ME)
 | isK (c : Str) (al subs : List Str) (e : ME)
 | sup (cs : List Str) (m d : Str) (es : List ME)
inductive MA where
 | v (e : ME) | p (i : Nat) | l (x : Str) (is : List Nat)
inductive MR where
 | val (e : ME)
 | own (i : Nat)
inductive MO where
 | lst (es : List ME)
 | dct (es : List ME)
 | dctT
 | lkeys (a : MR)
 | blt (f : Of) (es : List MR)
 | lc (vs : List Nat) (t : MT) (it : MI) (c : Option ME) (e : ME)
 | dc (vs : List Nat) (t : MT) (it : MI) (c : Option ME) (k e : ME)
 | dcT (vs : List Nat) (t : MT) (it : MI) (c : Option ME) (k e : ME)
 | lc2 (vs : List Nat) (t : MT) (it : MI) (c : Option ME) (vs1 : List Nat) (t1 : MT) (it1 : MI) (c1 : Option ME) (e : ME)
inductive MI where
 | seq (e : ME)
 | str (e : ME)
 | keys (e : ME)
 | rng1 (e : ME)
 | rng2 (a b : ME)
 | enum (e : ME)
end
inductive HE where
 | cst (d : D) | fld (f : Str) | tup (es : List HE)
 | lst (es : List HE)
 | isi (c : Str) (e : HE)
structure Hd where
 x : Str
 cs : List Str
 nm : Option Nat
 j : Nat
 e : HE
inductive MP where
 | v (e : ME)
 | o (m : MO)
inductive MS where
 | skip | brk | ctn
 | seq (a b : MS)
 | asg (t : MT) (e : ME)
 | new (i : Nat) (m : MO)
 | par (is : List Nat) (es : List MP)
 | expr (e : ME)
 | ret (e : ME)
 | ife (c : ME) (a b : MS)
 | for_ (t : MT) (it : MI) (b : MS)
 | whl (n : Nat) (c : ME) (b : MS)
 | setI (o i e : ME)
 | setN (j : Nat) (i e : ME)
 | mut (j : Nat) (f : Uf) (es : List ME)
 | mutS (o : ME) (f : Uf) (es : List ME)
 | setF (c : Str) (o : ME) (f : Str) (e : ME)
 | rais (c : Str) (fs : List Str) (es : List ME)
 | tr (b : MS) (hs : List Hd)
 | stop
 | fz (j : Nat)
 | wipe (vs : List Nat)
 | alt (j : Nat) (a b : MS)
 | cl (is : List Nat)
 | ndef (i : Nat) (x : Str) (is : List Nat)
 | fin (b f : MS)
 | byc (i : Nat) (c : Str) (a b : MS)
abbrev Ev := List Sl
abbrev Cl := Str -> List D -> Store -> RD
def setAll (is : List Nat) (ds : List Sl) (ρ : Ev) : Ev := (is.zip ds).foldl (fun r p => r.set p.1 p.2) ρ
def putT : MT -> D -> Ev -> Option Ev
 | .nm i, d, ρ => some (ρ.set i (.v d))
 | .tp is, .tup ds, ρ => if is.length = ds.length then some (setAll is (ds.map .v) ρ) else none
 | .tp is, .kt ds, ρ => if is.length = ds.length then some (setAll is (ds.map .v) ρ) else none
 | .tp is, .wl ds, ρ => if is.length = ds.length then some (setAll is (ds.map .v) ρ) else none
 | .tp _, _, _ => none
def Zaw (ρ : Ev) : List Nat -> Ev
 | [] => ρ
 | v :: vs => (Zaw ρ vs).set v .no
def Zl8 (z : Str) : List D := z.cps.toList.map fun c => .str ⟨#[c]⟩
def Zbk (lo : Int) : Nat -> List D
 | n => (List.range n).map fun (i : Nat) => .int (lo + i)
def Zja : D -> Option (List D)
 | .tup xs => some xs
 | .wt xs => some xs
 | .kt xs => some xs
 | .ks xs => some xs
 | .wl xs => some xs
 | _ => none
def Zvv : D -> Option (List D)
 | .str z => some (Zl8 z)
 | _ => none
def Znj : D -> Option (List D)
 | .wd kvs => some (kvs.map fun p => ofKey p.1)
 | .wT kvs => some (kvs.map fun p => Zq0 p.1)
 | _ => none
@[irreducible] def Zc5 (lo hi : Int) : Option (List D) :=
 if (-(2 ^ 62) <= lo /\ lo < 2 ^ 62 /\ -(2 ^ 62) <= hi /\ hi < 2 ^ 62) then some (Zbk lo (hi - lo).toNat) else none
def Zfv (xs : List D) : List D := xs.zipIdx.map fun p => .kt [.int (p.2 : Nat), p.1]
def Zhx : D -> Option (List D)
 | .tup xs => some (Zfv xs)
 | .wt xs => some (Zfv xs)
 | .wl xs => some (Zfv xs)
 | _ => none
def Zka : D -> Option O
 | .wT kvs => some (.lst (kvs.map fun p => Zq0 p.1))
 | _ => none
noncomputable def dcL (f : D -> Store -> R Xn (Option (D × D))) : List D -> List (L2.Key × D) -> Store -> R Xn (List (L2.Key × D))
 | [], acc, S => .ok acc S
 | d :: ds, acc, S => (f d S).calm.bind fun o S' => match o with
  | none => dcL f ds acc S'
  | some (k, y) => match Zcj k with
   | some k => if acc.length < sizeLine then dcL f ds (Zgu acc k y) S' else .bad
   | none => .bad
noncomputable def Zkb (f : D -> Store -> R Xn (Option (D × D))) : List D -> List (NestedKey × D) -> Store -> R Xn (List (NestedKey × D))
 | [], acc, S => .ok acc S
 | d :: ds, acc, S => (f d S).calm.bind fun o S' => match o with
  | none => Zkb f ds acc S'
  | some (k, y) => match Zb1 k with
   | some k => if acc.length < sizeLine then Zkb f ds (Zgu acc k y) S' else .bad
   | none => .bad
noncomputable def lcL (f : D -> Store -> R Xn (Option D)) : List D -> List D -> Store -> R Xn (List D)
 | [], acc, S => .ok acc S
 | d :: ds, acc, S => (f d S).calm.bind fun o S' => match o with
  | none => lcL f ds acc S'
  | some y => if acc.length < sizeLine then lcL f ds (acc ++ [y]) S' else .bad
noncomputable def lcA (f : D -> List D -> Store -> R Xn (List D)) : List D -> List D -> Store -> R Xn (List D)
 | [], acc, S => .ok acc S
 | d :: ds, acc, S => (f d acc S).calm.bind fun acc S' => lcA f ds acc S'
def Yfx : Sl -> Sl
 | .o _ => .no
 | x => x
def Zb2 (ρ : Ev) : Nat -> Sl -> Option D
 | _, .v d => some d
 | _, .c x cs => some (.clo x cs)
 | n + 1, .df x is => (Zbv (fun i => (ρ[i]?).bind (Zb2 ρ n)) is).map (.clo x)
 | _, _ => none
def Zgv (ρ : Ev) (is : List Nat) : Option (List D) := Zbv (fun i => (ρ[i]?).bind (Zb2 ρ 4)) is
def Zc9 : List Nat -> Ev -> Option Ev
 | [], ρ => some ρ
 | i :: is, ρ => match ρ[i]? with
  | some (.v (.clo x cs)) => Zc9 is (ρ.set i (.c x cs))
  | _ => none
def noO (ρ : Ev) : Ev := ρ.map Yfx
def blR (d : D) (S : Store) : R Xn Bool := match d with
 | .bl b => .ok b S
 | _ => .bad
def Ze7 : List D -> Option (List (L2.Key × D))
 | [] => some []
 | k :: v :: r => (Zcj k).bind fun k => (Ze7 r).map fun ps => (k, v) :: ps
 | _ => none
def Zf1 (xs : List D) : Option O := (Ze7 xs).bind fun ps => if ps.length <= 15 then some (.dK (putAll [] ps)) else none
def Zl9 (f : Str) (v : D) : List (Str × D) -> List (Str × D)
 | [] => [(f, v)]
 | (g, x) :: r => if g = f then (g, v) :: r else (g, x) :: Zl9 f v r
def Z05 (S : Store) (c f : Str) : D -> Option D
 | .ref r => match S.get r with
  | some (.ins c' fs) => if c' = c then fs.lookup f else none
  | _ => none
 | _ => none
def Zq2 (S : Store) (c f : Str) (v : D) : D -> Option Store
 | .ref r => match S.get r with
  | some (.ins c' fs) => if c' = c /\ fs.length < 1000 then some (S.put r (.ins c (Zl9 f v fs))) else none
  | _ => none
 | _ => none
def Zhy (x : Str) : Bool := match x.cps.toList.getLast? with
 | some 107 => Zbf x
 | _ => false
def opN : Operator -> Str
 | .Add => "__add__"
 | .Mult => "__mul__"
 | _ => ""
def Zq3 (S : Store) (c : Str) : D -> Bool
 | .ref r => match S.get r with
  | some (.ins c' _) => decide (c' = c)
  | _ => false
 | _ => false
def Zes (S : Store) (c m : Str) : D -> Bool
 | .ref r => match S.get r with
  | some (.ins c' fs) => decide (c' = c) && (fs.lookup m).isNone
  | _ => false
 | _ => false
def Zvw : D -> Option D
 | .str y => if y.length <= 1048576 then some (.str y) else none
 | .int i => if i.natAbs.log2 < 1920 /\ (toString i : Str).length <= 1048576 then some (.str (toString i)) else none
 | _ => none
def xfD (c : Str) (fs : List Str) (f : Str) : D -> Option D
 | .exn c' fs' xs => if c' = c /\ fs' = fs then (fs.zip xs).reverse.lookup f else none
 | _ => none
def Z0g (al subs : List Str) : D -> Option D
 | .exn c _ _ => if al.contains c then some (.bl (subs.contains c)) else none
 | _ => none
def Yfy (ss : List Str) : Str := ss.foldl (fun a b => a ++ b) Str.empty
def Z85 (S : Store) : D -> Option Str
 | .ref r => match S.get r with
  | some (.ins c _) => some c
  | _ => none
 | _ => none
def Z06 (S : Store) (ρ : Ev) (i : Nat) : Option Str := match ρ[i]? with
 | some (.v d) => Z85 S d
 | _ => none
mutual
noncomputable def ev (C : Cl) : ME -> Ev -> Store -> RD
 | .cst d, _, S => .ok d S
 | .var i, ρ, S => match ρ[i]? with
  | some (.v d) => .ok d S
  | _ => .bad
 | .glb _ d, _, S => .ok d S
 | .bin op a b, ρ, S => (ev C a ρ S).bind fun x S => (ev C b ρ S).bind fun y S => R.ofO S (Zht op (rdS S x) (rdS S y))
 | .neg a, ρ, S => (ev C a ρ S).bind fun x S => match x with
  | .int i => .ok (.int (-i)) S
  | _ => .bad
 | .cmp op a b, ρ, S => (evr C a ρ S).bind fun x S => (evr C b ρ S).bind fun y S => R.ofO S ((Zhv op (rdS S x) (rdS S y)).map .bl)
 | .nt a, ρ, S => (ev C a ρ S).bind fun x S => match x with
  | .bl b => .ok (.bl (!b)) S
  | _ => .bad
 | .and a b, ρ, S => (ev C a ρ S).bind fun x S => match x with
  | .bl true => ev C b ρ S
  | .bl false => .ok (.bl false) S
  | _ => .bad
 | .or a b, ρ, S => (ev C a ρ S).bind fun x S => match x with
  | .bl true => .ok (.bl true) S
  | .bl false => ev C b ρ S
  | _ => .bad
 | .ife c a b, ρ, S => (ev C c ρ S).bind fun x S => match x with
  | .bl true => ev C a ρ S
  | .bl false => ev C b ρ S
  | _ => .bad
 | .tup es, ρ, S => (evs C es ρ S).bind fun xs S => if xs.length <= sizeLine then .ok (.tup xs) S else .bad
 | .sub a i, ρ, S => (evr C a ρ S).bind fun x S => (ev C i ρ S).bind fun y S => R.ofO S (Zf0 (rdS S x) (rdS S y))
 | .slc a lo hi, ρ, S => (ev C a ρ S).bind fun x S => (evo C lo ρ S).bind fun l S => (evo C hi ρ S).bind fun h S => R.ofO S (Zdj (rdS S x) l h)
 | .rev a, ρ, S => (ev C a ρ S).bind fun x S => match x with
  | .tup xs => .ok (.tup xs.reverse) S
  | .wl xs => .ok (.wl xs.reverse) S
  | _ => .bad
 | .call f es, ρ, S => (evs C es ρ S).bind fun xs S => C f xs S
 | .blt f es, ρ, S => (Zi4 C es ρ S).bind fun xs S => R.ofO S (Zft f (xs.map (rdS S)))
 | .mth f o es, ρ, S => (evr C o ρ S).bind fun x S => if Zeq f (rdS S x) then (evs C es ρ S).bind fun xs S => R.ofO S (Zqr f (rdS S x) (xs.map (rdS S))) else .bad
 | .dget o k d, ρ, S => (evr C o ρ S).bind fun x S => match rdS S x with
  | .wd _ => (ev C k ρ S).bind fun y S => (ev C d ρ S).bind fun z S => match rdS S x with
   | .wd kvs => R.ofO S ((Zcj y).map fun k => (Ze4 kvs k).getD z)
   | _ => .bad
  | _ => .bad
 | .isi a t, ρ, S => (ev C a ρ S).bind fun x S => if Zbj x then .ok (.bl (Zni x t)) S else .bad
 | .frz o, ρ, S => (evO C o ρ S).bind fun ob S => .ok ob.rd S
 | .sto o, ρ, S => (evO C o ρ S).bind fun ob S => .ok (.ref S.nx) (S.new ob)
 | .fld c o f, ρ, S => (ev C o ρ S).bind fun x S => R.ofO S (Z05 S c f x)
 | .meth c o m d es, ρ, S => (ev C o ρ S).bind fun x S => if Zes S c m x then (evs C es ρ S).bind fun xs S => C d (x :: xs) S else .bad
 | .metC c o m d es, ρ, S => (ev C o ρ S).bind fun x S => match x with
  | .ref r => (evs C es ρ S).bind fun xs S => if Zes S c m (.ref r) then C d (.ref r :: xs) S else .bad
  | _ => .bad
 | .opI c op o d e, ρ, S => (ev C o ρ S).bind fun x S => (ev C e ρ S).bind fun y S => if Zes S c (opN op) x && (Zbj y || Zq3 S c y) then C d [x, y] S else .bad
 | .isC c e, ρ, S => (ev C e ρ S).bind fun x S => if Zq3 S c x then .ok (.bl true) S else if Zbj x then .ok (.bl false) S else .bad
 | .isiI c e t, ρ, S => (ev C e ρ S).bind fun x S => if Zq3 S c x then .ok (.bl false) S else if Zbj x then .ok (.bl (Zni x t)) S else .bad
 | .prp c o m d, ρ, S => (ev C o ρ S).bind fun x S => if Zes S c m x then (C d [x] S).calm else .bad
 | .lenM c o d, ρ, S => (ev C o ρ S).bind fun x S => if Zes S c "__len__" x then (C d [x] S).bind fun y S => match y with
  | .int i => if 0 <= i /\ i < 2 ^ 62 then .ok (.int i) S else .bad
  | _ => .bad else .bad
 | .eqI c neg o d e, ρ, S => (ev C o ρ S).bind fun x S => (ev C e ρ S).bind fun y S => if Zes S c "__eq__" x && (Zbj y || Zq3 S c y) then (C d [x, y] S).bind fun z S => match z with
  | .bl b => .ok (.bl (neg != b)) S
  | _ => .bad else .bad
 | .conI c neg e o d, ρ, S => (ev C e ρ S).bind fun y S => (ev C o ρ S).bind fun x S => if Zes S c "__contains__" x then (C d [x, y] S).bind fun z S => match z with
  | .bl b => .ok (.bl (neg != b)) S
  | _ => .bad else .bad
 | .idxI c o d e, ρ, S => (ev C o ρ S).bind fun x S => (ev C e ρ S).bind fun y S => if Zes S c "__getitem__" x then C d [x, y] S else .bad
 | .strI c o d, ρ, S => (ev C o ρ S).bind fun x S => if Zes S c "__str__" x then (C d [x] S).bind fun z S => match z with
  | .str z => .ok (.str z) S
  | _ => .bad else .bad
 | .fpc e, ρ, S => (ev C e ρ S).bind fun x S => R.ofO S (Zvw x)
 | .fstr es, ρ, S => (evs C es ρ S).bind fun xs S => R.ofO S ((Zci xs).map fun ss => .str (Yfy ss))
 | .mkx c fs es, ρ, S => (evs C es ρ S).bind fun xs S => if xs.length = fs.length then .ok (.exn c fs xs) S else .bad
 | .fldX c fs o f, ρ, S => (ev C o ρ S).bind fun x S => R.ofO S (xfD c fs f x)
 | .isXo _ al subs e, ρ, S => (ev C e ρ S).bind fun x S => R.ofO S (Z0g al subs x)
 | .isXt _ _ al subs e, ρ, S => (ev C e ρ S).bind fun x S => R.ofO S (Z0g al subs x)
 | .clsm c _ d es, ρ, S => (evs C es ρ S).bind fun xs S => C d (.fn c :: xs) S
 | .makV i c ini es, ρ, S => match ρ[i]? with
  | some (.v (.fn x)) => if x = c then (evs C es ρ S).bind fun xs S => (C ini (.ref S.nx :: xs) (S.new (.ins c []))).bind fun d S' => match d with
   | .non => .ok (.ref S.nx) S'
   | _ => .bad else .bad
  | _ => .bad
 | .make c ini es, ρ, S => (evs C es ρ S).bind fun xs S => (C ini (.ref S.nx :: xs) (S.new (.ins c []))).bind fun d S' => match d with
  | .non => .ok (.ref S.nx) S'
  | _ => .bad
 | .callL f as, ρ, S => (Zf2 C as ρ S).bind fun xs S => C f xs S
 | .methL c o m d as, ρ, S => (ev C o ρ S).bind fun x S => if Zes S c m x then (Zf2 C as ρ S).bind fun xs S => C d (x :: xs) S else .bad
 | .callc i fs as, ρ, S => match ρ[i]? with
  | some (.c x cs) => if fs.contains x then (Zf2 C as ρ S).bind fun xs S => C x (xs ++ cs) S else .bad
  | _ => .bad
 | .byc i c a b, ρ, S => if Z06 S ρ i = some c then ev C a ρ S else ev C b ρ S
 | .isK _ al subs e, ρ, S => (ev C e ρ S).bind fun x S => match Z85 S x with
  | some c => if al.contains c then .ok (.bl (subs.contains c)) S else .bad
  | none => if Zbj x then .ok (.bl false) S else .bad
 | .sup cs m d es, ρ, S => match (ρ[0]? : Option Sl) with
  | some (.v x) => (evs C es ρ S).bind fun xs S => match Z85 S x with
   | some c => if cs.contains c then C d (x :: xs) S else .bad
   | none => .bad
  | _ => .bad
noncomputable def eva (C : Cl) : MA -> Ev -> Store -> RD
 | .v e, ρ, S => ev C e ρ S
 | .p i, ρ, S => match ρ[i]? with
  | some (.c x cs) => .ok (.clo x cs) S
  | some (.df x is) => R.ofO S (Zb2 ρ 4 (.df x is))
  | _ => .bad
 | .l x is, ρ, S => R.ofO S ((Zgv ρ is).map (.clo x))
noncomputable def Zf2 (C : Cl) : List MA -> Ev -> Store -> R Xn (List D)
 | [], _, S => .ok [] S
 | e :: es, ρ, S => (eva C e ρ S).bind fun x S => (Zf2 C es ρ S).bind fun xs S => .ok (x :: xs) S
noncomputable def evr (C : Cl) : MR -> Ev -> Store -> RD
 | .val e, ρ, S => ev C e ρ S
 | .own i, ρ, S => match ρ[i]? with
  | some (.o ob) => .ok ob.rd S
  | _ => .bad
noncomputable def evs (C : Cl) : List ME -> Ev -> Store -> R Xn (List D)
 | [], _, S => .ok [] S
 | e :: es, ρ, S => (ev C e ρ S).bind fun x S => (evs C es ρ S).bind fun xs S => .ok (x :: xs) S
noncomputable def Zi4 (C : Cl) : List MR -> Ev -> Store -> R Xn (List D)
 | [], _, S => .ok [] S
 | e :: es, ρ, S => (evr C e ρ S).bind fun x S => (Zi4 C es ρ S).bind fun xs S => .ok (x :: xs) S
noncomputable def evo (C : Cl) : Option ME -> Ev -> Store -> R Xn (Option Int)
 | none, _, S => .ok none S
 | some e, ρ, S => (ev C e ρ S).bind fun x S => match x with
  | .int i => .ok (some i) S
  | _ => .bad
noncomputable def evc (C : Cl) : Option ME -> Ev -> Store -> R Xn Bool
 | none, _, S => .ok true S
 | some e, ρ, S => (ev C e ρ S).bind blR
noncomputable def evi (C : Cl) : MI -> Ev -> Store -> R Xn (List D)
 | .seq e, ρ, S => (ev C e ρ S).bind fun x S => R.ofO S (Zja x)
 | .str e, ρ, S => (ev C e ρ S).bind fun x S => R.ofO S (Zvv x)
 | .keys e, ρ, S => (ev C e ρ S).bind fun x S => R.ofO S (Znj x)
 | .rng1 e, ρ, S => (ev C e ρ S).bind fun x S => match x with
  | .int j => R.ofO S (Zc5 0 j)
  | _ => .bad
 | .rng2 a b, ρ, S => (ev C a ρ S).bind fun x S => (ev C b ρ S).bind fun y S => match x, y with
  | .int i, .int j => R.ofO S (Zc5 i j)
  | _, _ => .bad
 | .enum e, ρ, S => (ev C e ρ S).bind fun x S => R.ofO S (Zhx x)
noncomputable def evO (C : Cl) : MO -> Ev -> Store -> R Xn O
 | .lst es, ρ, S => (evs C es ρ S).bind fun xs S => if xs.length <= sizeLine then .ok (.lst xs) S else .bad
 | .dct es, ρ, S => (evs C es ρ S).bind fun xs S => R.ofO S (Zf1 xs)
 | .dctT, _, S => .ok (.dT []) S
 | .lkeys a, ρ, S => (evr C a ρ S).bind fun x S => R.ofO S (Zka (rdS S x))
 | .blt f es, ρ, S => (Zi4 C es ρ S).bind fun xs S => R.ofO S (Zqq f (xs.map (rdS S)))
 | .lc vs t it c e, ρ, S => (evi C it ρ S).bind fun ds S => (lcL (fun d S => match putT t d (Zaw ρ vs) with
   | none => .bad
   | some ρ' => (evc C c ρ' S).bind fun b S => if b then (ev C e ρ' S).bind fun y S => .ok (some y) S else .ok none S) ds [] S).bind fun xs S =>
  .ok (.lst xs) S
 | .dc vs t it c k e, ρ, S => (evi C it ρ S).bind fun ds S => (dcL (fun d S => match putT t d (Zaw ρ vs) with
   | none => .bad
   | some ρ' => (evc C c ρ' S).bind fun b S => if b then (ev C k ρ' S).bind fun x S => (ev C e ρ' S).bind fun y S => .ok (some (x, y)) S else .ok none S) ds [] S).bind fun kvs S =>
  .ok (.dK kvs) S
 | .dcT vs t it c k e, ρ, S => (evi C it ρ S).bind fun ds S => (Zkb (fun d S => match putT t d (Zaw ρ vs) with
   | none => .bad
   | some ρ' => (evc C c ρ' S).bind fun b S => if b then (ev C k ρ' S).bind fun x S => (ev C e ρ' S).bind fun y S => .ok (some (x, y)) S else .ok none S) ds [] S).bind fun kvs S =>
  .ok (.dT kvs) S
 | .lc2 vs t it c vs1 t1 it1 c1 e, ρ, S => (evi C it ρ S).bind fun ds S => (lcA (fun d acc S => match putT t d (Zaw (noO ρ) vs) with
   | none => .bad
   | some ρ' => (evc C c ρ' S).bind fun b S => if b then (evi C it1 ρ' S).bind fun q S => lcL (fun d S => match putT t1 d (Zaw ρ' vs1) with
    | none => .bad
    | some ρ1 => (evc C c1 ρ1 S).bind fun b S => if b then (ev C e ρ1 S).bind fun y S => .ok (some y) S else .ok none S) q acc S else .ok acc S) ds [] S).bind fun xs S =>
  .ok (.lst xs) S
end
mutual
def evh (fs : List (Str × D)) : HE -> Option D
 | .cst d => some d
 | .fld f => fs.lookup f
 | .tup es => (Zq4 fs es).map .tup
 | .lst es => (Zq4 fs es).map .wl
 | .isi _ e => evh fs e
def Zq4 (fs : List (Str × D)) : List HE -> Option (List D)
 | [] => some []
 | e :: es => (evh fs e).bind fun x => (Zq4 fs es).map fun xs => x :: xs
end
def Znk (c : Str) (hs : List Hd) : Option Hd := hs.find? fun h => h.cs.contains c
noncomputable def evp (C : Cl) : List MP -> Ev -> Store -> R Xn (List Sl)
 | [], _, S => .ok [] S
 | .v e :: es, ρ, S => (ev C e ρ S).bind fun x S => (evp C es ρ S).bind fun xs S => .ok (.v x :: xs) S
 | .o m :: es, ρ, S => (evO C m ρ S).bind fun x S => (evp C es ρ S).bind fun xs S => .ok (.o x :: xs) S
inductive Fl where
 | nx (ρ : Ev) | rt (d : D) | bk (ρ : Ev) | ct (ρ : Ev)
abbrev RS := R (Xn × Ev) Fl
noncomputable def Zet (f : D -> Ev -> Store -> RS) : List D -> Ev -> Store -> RS
 | [], ρ, S => .ok (.nx ρ) S
 | d :: ds, ρ, S => (f d ρ S).bind fun fl S => match fl with
  | .nx ρ' => Zet f ds ρ' S
  | .ct ρ' => Zet f ds ρ' S
  | .bk ρ' => .ok (.nx ρ') S
  | .rt d => .ok (.rt d) S
noncomputable def Zt4 (c : Ev -> Store -> R (Xn × Ev) D) (f : Ev -> Store -> RS) : Nat -> Ev -> Store -> RS
 | 0, _, _ => .bad
 | n + 1, ρ, S => (c ρ S).bind fun x S => match x with
  | .bl true => (f ρ S).bind fun fl S => match fl with
   | .nx ρ' => Zt4 c f n ρ' S
   | .ct ρ' => Zt4 c f n ρ' S
   | .bk ρ' => .ok (.nx ρ') S
   | .rt d => .ok (.rt d) S
  | .bl false => .ok (.nx ρ) S
  | _ => .bad
def Zhz (h : Hd) (ρ : Ev) (d : D) : Option Ev := match h.nm with
 | some i => if i < ρ.length then some ((ρ.set i .no).set h.j (.v d)) else none
 | none => some (ρ.set h.j (.v d))
def Yfz : Option Sl -> Bool
 | some (.v (.wl (.str _ :: _))) => true
 | some (.v (.tup (.str _ :: _))) => true
 | _ => false
noncomputable def Zae (C : Cl) : MS -> Ev -> Store -> RS
 | .skip, ρ, S => .ok (.nx ρ) S
 | .brk, ρ, S => .ok (.bk ρ) S
 | .ctn, ρ, S => .ok (.ct ρ) S
 | .seq a b, ρ, S => (Zae C a ρ S).bind fun fl S => match fl with
  | .nx ρ' => Zae C b ρ' S
  | fl => .ok fl S
 | .asg t e, ρ, S => ((ev C e ρ S).mapE fun x => (x, ρ)).bind fun d S => match putT t d ρ with
  | some ρ' => .ok (.nx ρ') S
  | none => .bad
 | .new i m, ρ, S => ((evO C m ρ S).mapE fun x => (x, ρ)).bind fun ob S => .ok (.nx (ρ.set i (.o ob))) S
 | .par is es, ρ, S => ((evp C es ρ S).mapE fun x => (x, ρ)).bind fun ds S => if ds.length = is.length then .ok (.nx (setAll is ds ρ)) S else .bad
 | .expr e, ρ, S => ((ev C e ρ S).mapE fun x => (x, ρ)).bind fun _ S => .ok (.nx ρ) S
 | .ret e, ρ, S => ((ev C e ρ S).mapE fun x => (x, ρ)).bind fun d S => .ok (.rt d) S
 | .ife c a b, ρ, S => ((ev C c ρ S).mapE fun x => (x, ρ)).bind fun d S => match d with
  | .bl true => Zae C a ρ S
  | .bl false => Zae C b ρ S
  | _ => .bad
 | .for_ t it b, ρ, S => ((evi C it ρ S).mapE fun x => (x, ρ)).bind fun ds S => Zet (fun d ρ S => match putT t d ρ with
   | some ρ' => Zae C b ρ' S
   | none => .bad) ds ρ S
 | .whl n c b, ρ, S => Zt4 (fun ρ S => (ev C c ρ S).mapE fun x => (x, ρ)) (fun ρ S => Zae C b ρ S) n ρ S
 | .setI o i e, ρ, S => ((ev C e ρ S).mapE fun x => (x, ρ)).bind fun v S => ((ev C o ρ S).mapE fun x => (x, ρ)).bind fun x S => ((ev C i ρ S).mapE fun x => (x, ρ)).bind fun y S =>
   match x with
   | .ref r => match (S.get r).bind fun ob => setO ob y v with
    | some ob => .ok (.nx ρ) (S.put r ob)
    | none => .bad
   | _ => .bad
 | .setN j i e, ρ, S => ((ev C e ρ S).mapE fun x => (x, ρ)).bind fun v S => match ρ[j]? with
   | some (.o ob) => ((ev C i ρ S).mapE fun x => (x, ρ)).bind fun y S => match setO ob y v with
    | some ob => .ok (.nx (ρ.set j (.o ob))) S
    | none => .bad
   | _ => .bad
 | .mut j f es, ρ, S => match ρ[j]? with
   | some (.o ob) => if Zi9 f ob then ((evs C es ρ S).mapE fun x => (x, ρ)).bind fun xs S => match Zj9 f ob (Znb f S xs) with
    | some ob => .ok (.nx (ρ.set j (.o ob))) S
    | none => .bad
    else .bad
   | _ => .bad
 | .mutS o f es, ρ, S => ((ev C o ρ S).mapE fun x => (x, ρ)).bind fun x S => match x with
   | .ref r => match S.get r with
    | some ob => if Zi9 f ob then ((evs C es ρ S).mapE fun x => (x, ρ)).bind fun xs S => match (S.get r).bind fun ob => Zj9 f ob (Znb f S xs) with
     | some ob => .ok (.nx ρ) (S.put r ob)
     | none => .bad
     else .bad
    | none => .bad
   | _ => .bad
 | .setF c o f e, ρ, S => ((ev C e ρ S).mapE fun x => (x, ρ)).bind fun v S => ((ev C o ρ S).mapE fun x => (x, ρ)).bind fun x S => match Zq2 S c f v x with
   | some S' => .ok (.nx ρ) S'
   | none => .bad
 | .rais c fs es, ρ, S => ((evs C es ρ S).mapE fun x => (x, ρ)).bind fun xs S => if xs.length = fs.length then .exc (⟨c, (fs.zip xs).reverse⟩, ρ) S else .bad
 | .tr b hs, ρ, S => match Zae C b ρ S with
   | .ok fl S => .ok fl S
   | .bad => .bad
   | .exc x S => match Znk x.1.c hs with
    | none => .exc x S
    | some h => match (evh x.1.fs h.e).bind fun d => (Zhz h x.2 d) with
     | some ρ' => .ok (.nx ρ') S
     | none => .bad
 | .stop, _, _ => .bad
 | .fz j, ρ, S => match ρ[j]? with
   | some (.o ob) => .ok (.nx (ρ.set j (.v ob.rd))) S
   | _ => .bad
 | .wipe vs, ρ, S => .ok (.nx (Zaw ρ vs)) S
 | .alt j a b, ρ, S => if Yfz ρ[j]? = true then Zae C a ρ S else Zae C b ρ S
 | .cl is, ρ, S => match Zc9 is ρ with
  | some ρ' => .ok (.nx ρ') S
  | none => .bad
 | .ndef i x is, ρ, S => .ok (.nx (ρ.set i (.df x is))) S
 | .fin b f, ρ, S => match Zae C b ρ S with
  | .ok (.nx ρ1) S1 => Zae C f ρ1 S1
  | .exc (x, ρ1) S1 => match Zae C f ρ1 S1 with
   | .ok (.nx ρ2) S2 => .exc (x, ρ2) S2
   | _ => .bad
  | _ => .bad
 | .byc i c a b, ρ, S => if Z06 S ρ i = some c then Zae C a ρ S else Zae C b ρ S
structure Df where
 np : Nat
 n : Nat
 body : MS
noncomputable def call (Φ : Str -> Option Df) : Nat -> Cl
 | 0, _, _, _ => .bad
 | k + 1, f, ds, S => match Φ f with
  | none => .bad
  | some df => if ds.length = df.np then
    match Zae (call Φ k) df.body (ds.map .v ++ List.replicate (df.n - ds.length) .no) S with
    | .ok (.rt d) S' => .ok d S'
    | .ok (.nx _) S' => .ok .non S'
    | .ok _ _ => .bad
    | .exc x S' => .exc x.1 S'
    | .bad => .bad
   else .bad
end My
namespace My
open PySem PySem.Spec PyProof.Rows L2
structure KW where
 K : PySem.W.Frag
 P : Program
 w : World
structure LF where
 name : Str
 qual : Str
 params : Arguments
 body : FuncBody
 scope : Scope
 cl : List (Str × Addr)
 c : Addr
def LF.fd (F : LF) (doc pm ctv : Value) : FuncData :=
 { name := F.name, qualname := F.qual, params := F.params, body := F.body, scope := F.scope, globals := mainGlobals, closure := F.cl, defaults := .none, kwdefaults := .none, doc := doc, pyModule := pm, annotations := none, code := .ref F.c, closureTuple := ctv, builtins := builtinsNs }
def Zt5 (f : Addr) (F : LF) : HO := .ext fun h => ∃ (od : Option Addr) (sl : Array (Option Value)) (doc pm ctv : Value), h.get? f = some (⟨.type "function", od, .func (F.fd doc pm ctv), sl⟩ : Obj)
def Zma (H : Hp) (f : Addr) (F : LF) : Prop := ∃ o, H f = some (.frz o (Zt5 f F))
def Zd3 (H : Hp) (c : Addr) (q : Str) : Prop := ∃ o, H c = some (.frz o (LamX.CodeO c q))
def Zq5 (H : Hp) (P : Addr) (nm : Nat -> Nat -> Str) : Prop := ∃ ps : Array Value, H P = some (.tbl ps) /\ TriplesOk ps.toList /\ ∀ (pos : Pos) (cv : Value), codeAmong pos ps.toList = some cv -> ∃ c, cv = .ref c /\ Zd3 H c (nm pos.line pos.col)
structure LI where
 name : Str
 qual : Str
 params : Arguments
 body : FuncBody
 scope : Scope
 fr : List Str
def LI.at (l : LI) (cl : List (Str × Addr)) (c : Addr) : LF := ⟨l.name, l.qual, l.params, l.body, l.scope, cl, c⟩
structure LmI where
 df : Df
 N : List Str
 fr : List Str
 ps : List Str
class CP where
 cp : Str -> List Nat
 lm : Str -> Option LmI
 nd : List ((Nat × Nat) × Str)
 mks : List Nat
def Zt6 [CP] (q : Str) (l c : Nat) : Str := q ++ ((CP.nd.lookup (l, c)).getD "<lambda>")
def Zt7 [CP] (x : Str) : List Nat := match CP.lm x with
 | some m => (CP.cp x).filterMap fun i => if m.ps.length <= i then some (i - m.ps.length) else none
 | none => []
class TC [CP] where
 T : List (Addr × Addr × Str)
 lam : Str -> LI -> Prop
instance : CoeOut KW PySem.W.Frag := ⟨KW.K⟩
abbrev _root_.L2.Cx.kw (X : Cx) : KW := ⟨X.K, X.prog, X.w⟩
def XP (P : Program) (w : World) (a : Addr) (ks : List (NestedKey × Addr × V)) (h : Heap) : Prop :=
 ks.length <= sizeLine /\ (a == sysModules) = false /\ ∃ xs : List (NestedKey × Addr × Value), Paired (fun (p : NestedKey × Addr × V) (q : NestedKey × Addr × Value) => p.1 = q.1 /\ p.2.1 = q.2.1 /\ RelV p.2.2 q.2.2) ks xs /\
  ∃ o es ep, h.get? a = some o /\ o.ExactDict /\ o.data = .dict es ep /\ es.toList = xs.map (entryOfKey (nestedKind P w)) /\ (xs.map (·.1)).Nodup
def noB (p : NestedKey × Addr × V) : NestedKey × V := (p.1, p.2.2)
def XT (P : Program) (w : World) (a : Addr) (ks : List (NestedKey × Addr × V)) : HO := .ext (XP P w a ks)
def KT (K : KW) (a : Addr) (xs : List V) : Prop :=
 ∃ (o : Obj) (its : Array Value) (n : Nat), K.K.lookup a = some o /\ o.cls = .type "tuple" /\ o.data = .seq its n /\ its.size <= sizeLine /\ Vals xs its.toList
def KL (K : KW) (H : Hp) (a : Addr) (xs : List V) : Prop :=
 (∃ o, H a = some (.frz o (.lst xs))) \/ ∃ (o : Obj) (its : Array Value) (n : Nat), K.K.lookup a = some o /\ o.cls = .type "list" /\ o.dict = none /\ o.data = .seq its n /\ its.size <= sizeLine /\ Vals xs its.toList
def TX (H : Hp) (a : Addr) (xs : List V) : Prop := ∃ o : Obj, H a = some (.frz o (.tup xs)) /\ o.dict = none
mutual
inductive KVn (H : Hp) : NestedKey -> V -> Prop
 | num (i : Int) : KVn H (.num i) (.int i)
 | text (s : Str) : KVn H (.text s) (.str s)
 | tup {a : Addr} {vs : List V} {ks : List NestedKey} : TX H a vs -> KVns H ks vs -> KVn H (.tup ks) (.ref a)
inductive KVns (H : Hp) : List NestedKey -> List V -> Prop
 | nil : KVns H [] []
 | cons {k : NestedKey} {v : V} {ks : List NestedKey} {vs : List V} : KVn H k v -> KVns H ks vs -> KVns H (k :: ks) (v :: vs)
end
def KN (H : Hp) (k : NestedKey) (a : Addr) : Prop := k.depth <= 8 /\ KVn H k (.ref a)
def KA (H : Hp) (ks : List (NestedKey × Addr × V)) : Prop := ∀ p ∈ ks, KN H p.1 p.2.1
theorem TX.sq {F : PySem.W.Frag} {H : Hp} {a : Addr} {xs : List V} (h : TX H a xs) : SqT F H a xs := by
 obtain ⟨o, h, _⟩ := h
 exact .inl (.inr ⟨o, h⟩)
theorem KT.sq {K : KW} {H : Hp} {a : Addr} {xs : List V} (h : KT K a xs) : SqT K H a xs := .inr h
theorem KL.sq {K : KW} {H : Hp} {a : Addr} {xs : List V} (h : KL K H a xs) : SqL K H a xs := by
 rcases h with h | h
 ·exact .inl (.inr h)
 ·exact .inr h
mutual
inductive RV (K : KW) (φ : Nat -> Addr) (n : Nat) (H : Hp) : D -> V -> Prop
 | non : RV K φ n H .non .non
 | bl (b : Bool) : RV K φ n H (.bl b) (.bl b)
 | int (i : Int) : RV K φ n H (.int i) (.int i)
 | str (s : Str) : RV K φ n H (.str s) (.str s)
 | tup {a : Addr} {vs : List V} {ds : List D} : TX H a vs -> RVs K φ n H ds vs -> RV K φ n H (.tup ds) (.ref a)
 | kt {a : Addr} {vs : List V} {ds : List D} : H a = some (.tup vs) -> RVs K φ n H ds vs -> RV K φ n H (.kt ds) (.ref a)
 | wt {a : Addr} {vs : List V} {ds : List D} : KT K a vs -> RVs K φ n H ds vs -> RV K φ n H (.wt ds) (.ref a)
 | ks {a : Addr} {vs : List V} {ds : List D} : KL K H a vs -> RVs K φ n H ds vs -> RV K φ n H (.ks ds) (.ref a)
 | wl {a : Addr} {o : Obj} {vs : List V} {ds : List D} : H a = some (.frz o (.lst vs)) -> RVs K φ n H ds vs -> RV K φ n H (.wl ds) (.ref a)
 | wd {a : Addr} {o : Obj} {vs : List (Key × V)} {ds : List (Key × D)} : H a = some (.frz o (.dK vs)) -> RKs K φ n H ds vs -> RV K φ n H (.wd ds) (.ref a)
 | wT {a : Addr} {o : Obj} {ks : List (NestedKey × Addr × V)} {ds : List (NestedKey × D)} : H a = some (.frz o (XT K.P K.w a ks)) -> KA H ks -> RTs K φ n H ds (ks.map noB) -> RV K φ n H (.wT ds) (.ref a)
 | ref {i : Nat} : i < n -> RV K φ n H (.ref i) (.ref (φ i))
 | clo {x : Str} {cs : List D} {f : Addr} : RV K φ n H (.clo x cs) (.ref f)
 | fn {x : Str} {f : Addr} : PySem.W.nsIn K mainGlobals x = some (some (.ref f)) -> RV K φ n H (.fn x) (.ref f)
 | exn0 {a C : Addr} {o : Obj} {c : Str} : PySem.W.nsIn K mainGlobals c = some (some (.ref C)) -> H a = some (.frz o (ExO (.ref C) a)) -> RV K φ n H (.exn c [] []) (.ref a)
 | exn {a C dx : Addr} {o od : Obj} {c : Str} {fs : List Str} {ds : List D} {vs : List V} : PySem.W.nsIn K mainGlobals c = some (some (.ref C)) -> H a = some (.frz o (exo a C (some dx))) -> H dx = some (.frz od (exd dx (fs.zip vs).reverse)) -> ds.length = fs.length -> RVs K φ n H ds vs -> RV K φ n H (.exn c fs ds) (.ref a)
inductive RVs (K : KW) (φ : Nat -> Addr) (n : Nat) (H : Hp) : List D -> List V -> Prop
 | nil : RVs K φ n H [] []
 | cons {d : D} {v : V} {ds : List D} {vs : List V} : RV K φ n H d v -> RVs K φ n H ds vs -> RVs K φ n H (d :: ds) (v :: vs)
inductive RKs (K : KW) (φ : Nat -> Addr) (n : Nat) (H : Hp) : List (Key × D) -> List (Key × V) -> Prop
 | nil : RKs K φ n H [] []
 | cons {k : Key} {d : D} {v : V} {ds : List (Key × D)} {vs : List (Key × V)} : RV K φ n H d v -> RKs K φ n H ds vs -> RKs K φ n H ((k, d) :: ds) ((k, v) :: vs)
inductive RTs (K : KW) (φ : Nat -> Addr) (n : Nat) (H : Hp) : List (NestedKey × D) -> List (NestedKey × V) -> Prop
 | nil : RTs K φ n H [] []
 | cons {k : NestedKey} {d : D} {v : V} {ds : List (NestedKey × D)} {vs : List (NestedKey × V)} : RV K φ n H d v -> RTs K φ n H ds vs -> RTs K φ n H ((k, d) :: ds) ((k, v) :: vs)
end
inductive RFs (r : D -> V -> Prop) : List (Str × D) -> List (Str × V) -> Prop
 | nil : RFs r [] []
 | cons {k : Str} {d : D} {v : V} {ds : List (Str × D)} {vs : List (Str × V)} : r d v -> RFs r ds vs -> RFs r ((k, d) :: ds) ((k, v) :: vs)
def RU (K : KW) (φ : Nat -> Addr) (n : Nat) (H : Hp) (a : Addr) (o : O) (u : HO) : Prop := match o with
 | .lst ds => ∃ vs, u = .lst vs /\ RVs K φ n H ds vs
 | .dK kvs => ∃ ws, u = .dK ws /\ RKs K φ n H kvs ws
 | .dT kvs => ∃ ks, u = XT K.P K.w a ks /\ KA H ks /\ RTs K φ n H kvs (ks.map noB)
 | .ins _ _ => False
def RUs (K : KW) (φ : Nat -> Addr) (n : Nat) (H : Hp) (a : Addr) (o : O) (u : HO) : Prop := match o with
 | .ins c fs => ∃ C dx vs, PySem.W.nsIn K mainGlobals c = some (some (.ref C)) /\ u = .ins C dx vs /\ RFs (RV K φ n H) fs vs
 | o => RU K φ n H a o u
def ROs (K : KW) (φ : Nat -> Addr) (n : Nat) (H : Hp) (a : Addr) (o : O) : Prop := ∃ u, H a = some u /\ RUs K φ n H a o u
def RO (K : KW) (φ : Nat -> Addr) (n : Nat) (H : Hp) (a : Addr) (o : O) : Prop := ∃ u, H a = some u /\ RU K φ n H a o u
theorem RU.mut {K : KW} {φ : Nat -> Addr} {n : Nat} {H : Hp} {a : Addr} {o : O} {u : HO} (h : RU K φ n H a o u) : Mut (some u) := by
 cases o with
 | lst ds => obtain ⟨vs, rfl, _⟩ := h; trivial
 | dK ds => obtain ⟨vs, rfl, _⟩ := h; trivial
 | dT ds => obtain ⟨vs, rfl, _⟩ := h; trivial
 | ins c fs => exact h.elim
theorem RU.s {K : KW} {φ : Nat -> Addr} {n : Nat} {H : Hp} {a : Addr} {o : O} {u : HO} (h : RU K φ n H a o u) : RUs K φ n H a o u := by
 cases o with
 | ins c fs => exact h.elim
 | _ => exact h
theorem RUs.u {K : KW} {φ : Nat -> Addr} {n : Nat} {H : Hp} {a : Addr} {o : O} {u : HO} (h : RUs K φ n H a o u) (c : o.isC = true) : RU K φ n H a o u := by
 cases o with
 | ins _ _ => cases c
 | _ => exact h
theorem Zq6 {o o' : O} {i v : D} (h : setO o i v = some o') : o.isC = true := by
 cases o with
 | ins _ _ => cases h
 | _ => rfl
theorem Zq7 {f : Uf} {o : O} (h : Zi9 f o = true) : o.isC = true := by
 cases o with
 | ins _ _ => cases f <;> cases h
 | _ => rfl
theorem Zq8 {f : Uf} {o o' : O} {xs : List D} (h : Zj9 f o xs = some o') : o.isC = true := by
 cases o with
 | ins _ _ => cases f <;> cases h
 | _ => rfl
theorem RUs.mut {K : KW} {φ : Nat -> Addr} {n : Nat} {H : Hp} {a : Addr} {o : O} {u : HO} (h : RUs K φ n H a o u) : Mut (some u) := by
 cases o with
 | ins c fs => obtain ⟨C, dx, vs, _, rfl, _⟩ := h; trivial
 | lst ds => exact RU.mut (a := a) (o := .lst ds) h
 | dK ds => exact RU.mut (a := a) (o := .dK ds) h
 | dT ds => exact RU.mut (a := a) (o := .dT ds) h
theorem Zf3 {S : Store} {i : Nat} {o : O} (h : S.get i = some o) : i < S.nx := (Qay.mp h).1
theorem Znl (S : Store) (o : O) (i : Nat) : (S.new o).get i = if i = S.nx then some o else S.get i := by
 unfold Store.new Store.get Store.nx
 by_cases h : i = S.l.length
 ·subst h; simp
 ·rw [Qat h]
  by_cases h2 : i < S.l.length
  ·rw [Qbc h2]
  ·rw [Qba (by simp; omega), Qba (by omega)]
theorem Znm {S : Store} {j : Nat} {u : O} (h : S.get j = some u) (o : O) (i : Nat) : (S.put j o).get i = if i = j then some o else S.get i := by
 have hl := Zf3 h
 unfold Store.put Store.get
 by_cases e : i = j
 ·subst e
  rw [Qan rfl]
  exact Qa3 hl
 ·rw [Qat e, Qaq (Ne.symm e)]
@[simp] theorem Z07 (S : Store) (r : Nat) (o : O) : (S.put r o).nx = S.nx := by simp [Store.put, Store.nx]
@[simp] theorem Zf4 (S : Store) (o : O) : (S.new o).nx = S.nx + 1 := by simp [Store.new, Store.nx]
theorem Zt8 {S : Store} {i : Nat} (h : i < S.nx) : ∃ o, S.get i = some o := ⟨S.l[i], Qa8 h⟩
structure RelS [CP] [TC] (K : KW) (φ : Nat -> Addr) (S : Store) (H : Hp) : Prop where
 inj : ∀ i j, i < S.nx -> j < S.nx -> φ i = φ j -> i = j
 obj : ∀ i o, S.get i = some o -> ROs K φ S.nx H (φ i) o
 tab : ∀ p ∈ TC.T, Zq5 H p.2.1 (Zt6 p.2.2)
def NT (o : HO) : Prop := ∀ ps, o ≠ .tbl ps
structure Step (φ : Nat -> Addr) (S : Store) (H : Hp) (φ' : Nat -> Addr) (S' : Store) (H' : Hp) : Prop where
 le : S.nx <= S'.nx
 ag : ∀ i, i < S.nx -> φ' i = φ i
 new : ∀ i, S.nx <= i -> i < S'.nx -> H (φ' i) = none
 keep : ∀ a o, H a = some o -> NT o -> (∀ i, i < S.nx -> φ i ≠ a) -> H' a = some o
 trk : ∀ a o, H a = some o -> ∃ o', H' a = some o'
theorem RU.nt {K : KW} {φ : Nat -> Addr} {n : Nat} {H : Hp} {a : Addr} {o : O} {u : HO} (h : RU K φ n H a o u) : NT u := fun ps z => by
 have m := h.mut
 rw [z] at m
 exact m
theorem Mut.nt {u : HO} (h : Mut (some u)) : NT u := fun ps z => by
 rw [z] at h
 exact h
section
variable {K : KW} {φ φ' φ'' : Nat -> Addr} {S S' S'' : Store} {H H' H'' : Hp}
theorem RelS.refl [CP] [TC] (r : RelS K φ S H) : Step φ S H φ S H :=
 ⟨Qao _, fun _ _ => rfl, fun i h1 h2 => absurd h2 (Nat.not_lt.mpr h1), fun _ _ h _ _ => h, fun _ o h => ⟨o, h⟩⟩
theorem Step.trans (a : Step φ S H φ' S' H') (b : Step φ' S' H' φ'' S'' H'') : Step φ S H φ'' S'' H'' where
 le := Qaw a.le b.le
 ag := fun i h => (b.ag i (Qa4 h a.le)).trans (a.ag i h)
 new := fun i h q => by
  by_cases hi : i < S'.nx
  ·rw [b.ag i hi]
   exact a.new i h hi
  ·have e := b.new i (Nat.not_lt.mp hi) q
   cases z : H (φ'' i) with
   | none => rfl
   | some u =>
    obtain ⟨u', z'⟩ := a.trk _ u z
    rw [e] at z'; cases z'
 keep := fun x o e t n => b.keep x o (a.keep x o e t n) t fun i q z => by
  by_cases hi : i < S.nx
  ·exact n i hi ((a.ag i hi).symm.trans z)
  ·have := a.new i (Nat.not_lt.mp hi) q
   rw [z, e] at this; cases this
 trk := fun x o e => by
  obtain ⟨o', e'⟩ := a.trk x o e
  exact b.trk x o' e'
theorem RelS.there [CP] [TC] (r : RelS K φ S H) {i : Nat} (h : i < S.nx) : ∃ u, H (φ i) = some u /\ Mut (some u) := by
 obtain ⟨o, e⟩ := Zt8 h
 obtain ⟨u, h1, h2⟩ := r.obj i o e
 exact ⟨u, h1, h2.mut⟩
theorem RelS.off [CP] [TC] (r : RelS K φ S H) {a : Addr} {o : HO} (h : H a = some o) (m : ¬ Mut (some o)) : ∀ i, i < S.nx -> φ i ≠ a := fun i q z => by
 obtain ⟨u, e, w⟩ := r.there q
 rw [z, h] at e
 cases e
 exact m w
theorem Step.tup [CP] [TC] (r : RelS K φ S H) (st : Step φ S H φ' S' H') {a : Addr} {vs : List V} (h : H a = some (.tup vs)) : H' a = some (.tup vs) :=
 st.keep a _ h (fun _ z => nomatch z) (r.off h id)
theorem Step.frz [CP] [TC] (r : RelS K φ S H) (st : Step φ S H φ' S' H') {a : Addr} {o : Obj} {u : HO} (h : H a = some (.frz o u)) : H' a = some (.frz o u) :=
 st.keep a _ h (fun _ z => nomatch z) (r.off h id)
structure Sub (φ : Nat -> Addr) (n : Nat) (H : Hp) (φ' : Nat -> Addr) (n' : Nat) (H' : Hp) : Prop where
 ht : ∀ a vs, H a = some (.tup vs) -> H' a = some (.tup vs)
 hf : ∀ a o u, H a = some (.frz o u) -> H' a = some (.frz o u)
 hn : n <= n'
 hp : ∀ i, i < n -> φ' i = φ i
theorem Step.sub [CP] [TC] (st : Step φ S H φ' S' H') (r : RelS K φ S H) : Sub φ S.nx H φ' S'.nx H' := ⟨fun _ _ e => st.tup r e, fun _ _ _ e => st.frz r e, st.le, st.ag⟩
theorem Sub.refl {n : Nat} : Sub φ n H φ n H := ⟨fun _ _ e => e, fun _ _ _ e => e, Qao _, fun _ _ => rfl⟩
theorem Sub.trans {n n' n'' : Nat} (a : Sub φ n H φ' n' H') (b : Sub φ' n' H' φ'' n'' H'') : Sub φ n H φ'' n'' H'' :=
 ⟨fun x vs e => b.ht x vs (a.ht x vs e), fun x o u e => b.hf x o u (a.hf x o u e), Qaw a.hn b.hn, fun i h => (b.hp i (Qa4 h a.hn)).trans (a.hp i h)⟩
theorem TX.sub {n n' : Nat} (s : Sub φ n H φ' n' H') {a : Addr} {vs : List V} (h : TX H a vs) : TX H' a vs := by
 obtain ⟨o, e, hd⟩ := h
 exact ⟨o, s.hf _ _ _ e, hd⟩
mutual
theorem KVn.sub {n n' : Nat} (s : Sub φ n H φ' n' H') : ∀ {k : NestedKey} {v : V}, KVn H k v -> KVn H' k v
 | _, _, .num i => .num i
 | _, _, .text z => .text z
 | _, _, .tup e r => .tup (e.sub s) (KVns.sub s r)
theorem KVns.sub {n n' : Nat} (s : Sub φ n H φ' n' H') : ∀ {k : List NestedKey} {v : List V}, KVns H k v -> KVns H' k v
 | _, _, .nil => .nil
 | _, _, .cons a t => .cons (KVn.sub s a) (KVns.sub s t)
end
theorem KN.sub {n n' : Nat} (s : Sub φ n H φ' n' H') {k : NestedKey} {a : Addr} (h : KN H k a) : KN H' k a := ⟨h.1, h.2.sub s⟩
theorem KA.sub {n n' : Nat} (s : Sub φ n H φ' n' H') {ks : List (NestedKey × Addr × V)} (h : KA H ks) : KA H' ks := fun p hp => (h p hp).sub s
mutual
theorem RV.sub {n n' : Nat} (s : Sub φ n H φ' n' H') : ∀ {d : D} {v : V}, RV K φ n H d v -> RV K φ' n' H' d v
 | _, _, .non => .non
 | _, _, .bl b => .bl b
 | _, _, .int i => .int i
 | _, _, .str s => .str s
 | _, _, .tup ⟨o, e, hd⟩ r => .tup ⟨o, s.hf _ _ _ e, hd⟩ (RVs.sub s r)
 | _, _, .kt e r => .kt (s.ht _ _ e) (RVs.sub s r)
 | _, _, .wt e r => .wt e (RVs.sub s r)
 | _, _, .ks e r => .ks (by
   rcases e with ⟨o, e⟩ | e
   ·exact .inl ⟨o, s.hf _ _ _ e⟩
   ·exact .inr e) (RVs.sub s r)
 | _, _, .wl e r => .wl (s.hf _ _ _ e) (RVs.sub s r)
 | _, _, .wd e r => .wd (s.hf _ _ _ e) (RKs.sub s r)
 | _, _, .wT e q r => .wT (s.hf _ _ _ e) (q.sub s) (RTs.sub s r)
 | _, _, .ref (i := i) h => by
  rw [<- s.hp i h]
  exact .ref (Qa4 h s.hn)
 | _, _, .clo => .clo
 | _, _, .fn e => .fn e
 | _, _, .exn0 e h => .exn0 e (s.hf _ _ _ h)
 | _, _, .exn e h h2 l r => .exn e (s.hf _ _ _ h) (s.hf _ _ _ h2) l (RVs.sub s r)
theorem RVs.sub {n n' : Nat} (s : Sub φ n H φ' n' H') : ∀ {d : List D} {v : List V}, RVs K φ n H d v -> RVs K φ' n' H' d v
 | _, _, .nil => .nil
 | _, _, .cons r t => .cons (RV.sub s r) (RVs.sub s t)
theorem RKs.sub {n n' : Nat} (s : Sub φ n H φ' n' H') : ∀ {d : List (Key × D)} {v : List (Key × V)}, RKs K φ n H d v -> RKs K φ' n' H' d v
 | _, _, .nil => .nil
 | _, _, .cons r t => .cons (RV.sub s r) (RKs.sub s t)
theorem RTs.sub {n n' : Nat} (s : Sub φ n H φ' n' H') : ∀ {d : List (NestedKey × D)} {v : List (NestedKey × V)}, RTs K φ n H d v -> RTs K φ' n' H' d v
 | _, _, .nil => .nil
 | _, _, .cons r t => .cons (RV.sub s r) (RTs.sub s t)
end
theorem RV.mono [CP] [TC] (r : RelS K φ S H) (st : Step φ S H φ' S' H') {d : D} {v : V} (h : RV K φ S.nx H d v) : RV K φ' S'.nx H' d v := h.sub (st.sub r)
theorem RVs.mono [CP] [TC] (r : RelS K φ S H) (st : Step φ S H φ' S' H') {d : List D} {v : List V} (h : RVs K φ S.nx H d v) : RVs K φ' S'.nx H' d v := h.sub (st.sub r)
theorem RKs.mono [CP] [TC] (r : RelS K φ S H) (st : Step φ S H φ' S' H') {d : List (Key × D)} {v : List (Key × V)} (h : RKs K φ S.nx H d v) : RKs K φ' S'.nx H' d v := h.sub (st.sub r)
theorem RU.sub {n n' : Nat} (s : Sub φ n H φ' n' H') {a : Addr} {o : O} {u : HO} (h : RU K φ n H a o u) : RU K φ' n' H' a o u := by
 cases o with
 | lst ds => obtain ⟨vs, e, r⟩ := h; exact ⟨vs, e, r.sub s⟩
 | dK ds => obtain ⟨vs, e, r⟩ := h; exact ⟨vs, e, r.sub s⟩
 | dT ds => obtain ⟨vs, e, q, r⟩ := h; exact ⟨vs, e, q.sub s, r.sub s⟩
 | ins c fs => exact h.elim
theorem RFs.sub {n n' : Nat} (s : Sub φ n H φ' n' H') : ∀ {xs : List (Str × D)} {us : List (Str × V)}, RFs (RV K φ n H) xs us -> RFs (RV K φ' n' H') xs us
 | _, _, .nil => .nil
 | _, _, .cons r t => .cons (r.sub s) (RFs.sub s t)
theorem RUs.sub {n n' : Nat} (s : Sub φ n H φ' n' H') {a : Addr} {o : O} {u : HO} (h : RUs K φ n H a o u) : RUs K φ' n' H' a o u := by
 cases o with
 | ins c fs => obtain ⟨C, dx, vs, e1, e2, r⟩ := h; exact ⟨C, dx, vs, e1, e2, r.sub s⟩
 | lst ds => exact RU.sub (a := a) (o := .lst ds) s h
 | dK ds => exact RU.sub (a := a) (o := .dK ds) s h
 | dT ds => exact RU.sub (a := a) (o := .dT ds) s h
theorem Zd3.sub {n n' : Nat} (s : Sub φ n H φ' n' H') {c : Addr} {q : Str} (h : Zd3 H c q) : Zd3 H' c q := by
 obtain ⟨o, e⟩ := h
 exact ⟨o, s.hf _ _ _ e⟩
theorem Zma.sub {n n' : Nat} (s : Sub φ n H φ' n' H') {f : Addr} {F : LF} (h : Zma H f F) : Zma H' f F := by
 obtain ⟨o, e⟩ := h
 exact ⟨o, s.hf _ _ _ e⟩
theorem Zq5.sub {n n' : Nat} (s : Sub φ n H φ' n' H') {P : Addr} {nm : Nat -> Nat -> Str} (h : Zq5 H P nm) (k : ∀ ps, H P = some (.tbl ps) -> H' P = some (.tbl ps)) : Zq5 H' P nm := by
 obtain ⟨ps, h1, h2, h3⟩ := h
 refine ⟨ps, k ps h1, h2, fun pos cv hc => ?_⟩
 obtain ⟨c, e1, e2⟩ := h3 pos cv hc
 exact ⟨c, e1, e2.sub s⟩
def phi (φ : Nat -> Addr) (n : Nat) (p : Addr) : Nat -> Addr := fun i => if i = n then p else φ i
theorem Zcu {n : Nat} {p : Addr} : phi φ n p n = p := by simp [phi]
theorem Zed {n i : Nat} {p : Addr} (h : i ≠ n) : phi φ n p i = φ i := by simp [phi, h]
theorem Zjb {n : Nat} {p : Addr} {o : HO} (hp : H p = none) : Sub φ n H φ n (upd H p o) :=
 ⟨fun a vs e => by rw [upd_ne (ne_of_none e hp)]; exact e, fun a ob u e => by rw [upd_ne (ne_of_none e hp)]; exact e, Qao _, fun _ _ => rfl⟩
theorem Zbc {n : Nat} {p : Addr} {o u : HO} (hp : H p = some u) (m : Mut (some u)) : Sub φ n H φ n (upd H p o) :=
 ⟨fun a vs e => by rw [upd_ne (fun z => by rw [z, hp] at e; cases e; exact m)]; exact e, fun a ob w e => by rw [upd_ne (fun z => by rw [z, hp] at e; cases e; exact m)]; exact e, Qao _, fun _ _ => rfl⟩
theorem Zkc {p P : Addr} {u o' : HO} (hp : H p = some u) (m : Mut (some u)) : ∀ ps, H P = some (.tbl ps) -> upd H p o' P = some (.tbl ps) := fun ps e => by
 rw [upd_ne (fun z => by rw [z, hp] at e; cases e; exact m)]; exact e
theorem RelS.lay [CP] [TC] (r : RelS K φ S H) {p : Addr} (hp : H p = none) {o' : HO} : RelS K φ S (upd H p o') /\ Step φ S H φ S (upd H p o') := by
 have ne : ∀ i, i < S.nx -> φ i ≠ p := fun i q z => by
  obtain ⟨w, e, _⟩ := r.there q
  rw [z, hp] at e; cases e
 refine ⟨⟨r.inj, fun i u q => ?_, fun p hp' => (r.tab p hp').sub (φ := φ) (φ' := φ) (n := S.nx) (Zjb hp) fun ps e => by rw [upd_ne (ne_of_none e hp)]; exact e⟩, ⟨Qao _, fun _ _ => rfl, fun i h q => absurd q (Nat.not_lt.mpr h), fun a u e _ _ => ?_, fun a u e => ?_⟩⟩
 ·obtain ⟨w, e, h⟩ := r.obj i u q
  exact ⟨w, by rw [upd_ne (ne i (Zf3 q))]; exact e, h.sub (Zjb hp)⟩
 ·rw [upd_ne (ne_of_none e hp)]; exact e
 ·exact ⟨u, by rw [upd_ne (ne_of_none e hp)]; exact e⟩
theorem RelS.chg [CP] [TC] (r : RelS K φ S H) {p : Addr} {u o' : HO} (hp : H p = some u) (m : Mut (some u)) (off : ∀ i, i < S.nx -> φ i ≠ p) : RelS K φ S (upd H p o') :=
 ⟨r.inj, fun i w q => by
  obtain ⟨x, e, h⟩ := r.obj i w q
  exact ⟨x, by rw [upd_ne (off i (Zf3 q))]; exact e, h.sub (Zbc hp m)⟩, fun q hq => (r.tab q hq).sub (φ := φ) (φ' := φ) (n := S.nx) (Zbc hp m) (Zkc hp m)⟩
theorem RelS.adopt [CP] [TC] (r : RelS K φ S H) {p : Addr} {o : O} (ho : ROs K φ S.nx H p o) (off : ∀ i, i < S.nx -> φ i ≠ p) : RelS K (phi φ S.nx p) (S.new o) H := by
 have sb : Sub φ S.nx H (phi φ S.nx p) (S.nx + 1) H := ⟨fun _ _ e => e, fun _ _ _ e => e, Nat.le_succ _, fun i h => Zed (Qbg h)⟩
 refine ⟨fun i j hi hj z => ?_, fun i u q => ?_, r.tab⟩
 ·rw [Zf4] at hi hj
  by_cases ei : i = S.nx
  ·by_cases ej : j = S.nx
   ·rw [ei, ej]
   ·subst ei
    rw [Zcu, Zed ej] at z
    exact absurd z.symm (off j (by omega))
  ·by_cases ej : j = S.nx
   ·subst ej
    rw [Zcu, Zed ei] at z
    exact absurd z (off i (by omega))
   ·rw [Zed ei, Zed ej] at z
    exact r.inj i j (by omega) (by omega) z
 ·rw [Zf4]
  by_cases ei : i = S.nx
  ·subst ei
   rw [Znl, Qan rfl] at q
   cases q
   rw [Zcu]
   obtain ⟨w, e, h⟩ := ho
   exact ⟨w, e, h.sub sb⟩
  ·rw [Znl, Qat ei] at q
   obtain ⟨w, e, h⟩ := r.obj i u q
   rw [Zed ei]
   exact ⟨w, e, h.sub sb⟩
theorem Step.adopt (st : Step φ S H φ' S' H') {p : Addr} {o : O} (hp : H p = none) : Step φ S H (phi φ' S'.nx p) (S'.new o) H' := by
 refine ⟨by rw [Zf4]; exact Nat.le_succ_of_le st.le, fun i hi => ?_, fun i hi q => ?_, st.keep, st.trk⟩
 ·rw [Zed (Qbg (Qa4 hi st.le))]; exact st.ag i hi
 ·rw [Zf4] at q
  by_cases h : i = S'.nx
  ·subst h; rw [Zcu]; exact hp
  ·rw [Zed h]; exact st.new i hi (by omega)
theorem RelS.put [CP] [TC] (r : RelS K φ S H) {j : Nat} {u₀ o : O} {o' : HO} (hj : S.get j = some u₀) (ho : RUs K φ S.nx H (φ j) o o') :
  RelS K φ (S.put j o) (upd H (φ j) o') /\ Step φ S H φ (S.put j o) (upd H (φ j) o') := by
 have hl := Zf3 hj
 obtain ⟨w, e, m⟩ := r.there hl
 have sb : Sub φ S.nx H φ S.nx (upd H (φ j) o') := Zbc e m
 refine ⟨⟨fun i k hi hk z => r.inj i k (by simpa using hi) (by simpa using hk) z, fun i u q => ?_, fun q hq => (r.tab q hq).sub sb (Zkc e m)⟩, ⟨by simp, fun _ _ => rfl, fun i h q => absurd (by simpa using q) (Nat.not_lt.mpr h), fun a u q _ n => ?_, fun a u q => ?_⟩⟩
 ·rw [Z07]
  by_cases hi : i = j
  ·subst hi
   rw [Znm hj, Qan rfl] at q
   cases q
   exact ⟨_, upd_same, ho.sub sb⟩
  ·rw [Znm hj, Qat hi] at q
   obtain ⟨x, e1, h1⟩ := r.obj i u q
   exact ⟨x, by rw [upd_ne (fun z => hi (r.inj i j (Zf3 q) hl z))]; exact e1, h1.sub sb⟩
 ·rw [upd_ne (fun z => n j hl z.symm)]; exact q
 ·by_cases ha : a = φ j
  ·subst ha; exact ⟨o', upd_same⟩
  ·exact ⟨u, by rw [upd_ne ha]; exact q⟩
end
structure Own (K : KW) (φ : Nat -> Addr) (n : Nat) (H : Hp) (o : O) (a : Addr) : Prop where
 ob : RO K φ n H a o
 off : ∀ i, i < n -> φ i ≠ a
structure LC where
 kn : List (Str × Addr) -> List Str -> List (Option V) -> Prop
 cp : List (Str × Addr) -> List Str -> List Nat -> Prop
inductive CloR [CP] [TC] (L : LC) (K : KW) (φ : Nat -> Addr) (n : Nat) (H : Hp) : Str -> List D -> Addr -> Prop
 | mk {x : Str} {cs : List D} {f c : Addr} {cl : List (Str × Addr)} {li : LI} {vs : List V} (yf : Nat -> Str) (df : Nat -> List D) (ff : Nat -> Addr) : TC.lam x li -> Zma H f (li.at cl c) -> Zd3 H c li.qual -> L.kn cl li.fr (vs.map some) -> RVs K φ n H cs vs ->
  (∀ j ∈ Zt7 x, cs[j]? = some (.clo (yf j) (df j)) /\ vs[j]? = some (.ref (ff j))) -> (∀ j ∈ Zt7 x, CloR L K φ n H (yf j) (df j) (ff j)) -> CloR L K φ n H x cs f
def DfR [CP] [TC] (L : LC) (H : Hp) (x : Str) (is : List Nat) (f : Addr) : Prop := ∃ (li : LI) (cl : List (Str × Addr)) (c : Addr), TC.lam x li /\ Zma H f (li.at cl c) /\ Zd3 H c li.qual /\ L.cp cl li.fr is /\ Zt7 x = []
theorem CloR.sub [CP] [TC] {L : LC} {K : KW} {φ φ' : Nat -> Addr} {n n' : Nat} {H H' : Hp} (s : Sub φ n H φ' n' H') {x : Str} {cs : List D} {f : Addr} (h : CloR L K φ n H x cs f) : CloR L K φ' n' H' x cs f := by
 induction h with
 | mk yf df ff h1 h2 h3 h4 h5 h6 h7 ih => exact .mk yf df ff h1 (h2.sub s) (h3.sub s) h4 (h5.sub s) h6 ih
theorem CloR.weak [CP] [TC] {L L' : LC} {K : KW} {φ : Nat -> Addr} {n : Nat} {H : Hp} (w : ∀ cl fr ws, L.kn cl fr ws -> L'.kn cl fr ws) {x : Str} {cs : List D} {f : Addr} (h : CloR L K φ n H x cs f) : CloR L' K φ n H x cs f := by
 induction h with
 | mk yf df ff h1 h2 h3 h4 h5 h6 h7 ih => exact .mk yf df ff h1 h2 h3 (w _ _ _ h4) h5 h6 ih
theorem DfR.sub [CP] [TC] {L : LC} {φ φ' : Nat -> Addr} {n n' : Nat} {H H' : Hp} (s : Sub φ n H φ' n' H') {x : Str} {is : List Nat} {f : Addr} (h : DfR L H x is f) : DfR L H' x is f := by
 obtain ⟨li, cl, c, h1, h2, h3, h4, h5⟩ := h
 exact ⟨li, cl, c, h1, h2.sub s, h3.sub s, h4, h5⟩
def RSl (K : KW) (φ : Nat -> Addr) (n : Nat) (H : Hp) : Sl -> V -> Prop
 | .no, _ => True
 | .v d, v => RV K φ n H d v
 | .o ob, v => ∃ a, v = .ref a /\ Own K φ n H ob a
 | .c _ _, _ => False
 | .df _ _, _ => False
structure RelE [CP] [TC] (K : KW) (L : LC) (φ : Nat -> Addr) (n : Nat) (H : Hp) (ρ : Ev) (σ : L2.St) : Prop where
 len : ρ.length = σ.length
 at_ : ∀ (i : Nat) (d : D), ρ[i]? = some (.v d) -> ∃ v, σ[i]? = some (some v) /\ RV K φ n H d v
 own : ∀ (i : Nat) (ob : O), ρ[i]? = some (.o ob) -> ∃ a, σ[i]? = some (some (.ref a)) /\ Own K φ n H ob a
 inj : ∀ (i j : Nat) (o o' : O) (v : V), i ≠ j -> ρ[i]? = some (.o o) -> ρ[j]? = some (.o o') -> σ[i]? = some (some v) -> σ[j]? = some (some v) -> False
 clo : ∀ (i : Nat) (x : Str) (cs : List D), ρ[i]? = some (.c x cs) -> ∃ f, σ[i]? = some (some (.ref f)) /\ CloR L K φ n H x cs f
 df : ∀ (i : Nat) (x : Str) (is : List Nat), ρ[i]? = some (.df x is) -> ∃ f, σ[i]? = some (some (.ref f)) /\ DfR L H x is f
section
variable {K : KW} {L : LC} {φ φ' : Nat -> Addr} {S S' : Store} {H H' : Hp} {ρ : Ev} {σ : L2.St}
theorem Own.mono [CP] [TC] {o : O} {a : Addr} (h : Own K φ S.nx H o a) (r : RelS K φ S H) (st : Step φ S H φ' S' H') : Own K φ' S'.nx H' o a := by
 obtain ⟨⟨u, e, q⟩, off⟩ := h
 refine ⟨⟨u, st.keep a u e q.nt off, q.sub (st.sub r)⟩, fun i hi z => ?_⟩
 by_cases h : i < S.nx
 ·exact off i h ((st.ag i h).symm.trans z)
 ·have := st.new i (Nat.not_lt.mp h) hi
  rw [z, e] at this; cases this
theorem RelE.mono [CP] [TC] (e : RelE K L φ S.nx H ρ σ) (r : RelS K φ S H) (st : Step φ S H φ' S' H') : RelE K L φ' S'.nx H' ρ σ :=
 ⟨e.len, fun i d h => let ⟨v, h1, h2⟩ := e.at_ i d h; ⟨v, h1, h2.mono r st⟩, fun i o h => let ⟨a, h1, h2⟩ := e.own i o h; ⟨a, h1, h2.mono r st⟩, e.inj,
  fun i x cs h => let ⟨f, h1, h2⟩ := e.clo i x cs h; ⟨f, h1, h2.sub (st.sub r)⟩, fun i x is h => let ⟨f, h1, h2⟩ := e.df i x is h; ⟨f, h1, h2.sub (st.sub r)⟩⟩
theorem RelE.weak [CP] [TC] {L' : LC} {n : Nat} (w : ∀ cl fr ws, L.kn cl fr ws -> L'.kn cl fr ws) (w2 : ∀ cl fr js, L.cp cl fr js -> L'.cp cl fr js) (e : RelE K L φ n H ρ σ) : RelE K L' φ n H ρ σ :=
 ⟨e.len, e.at_, e.own, e.inj, fun i x cs h => let ⟨f, h1, h2⟩ := e.clo i x cs h; ⟨f, h1, h2.weak w⟩, fun i x is h => let ⟨f, h1, ⟨li, cl, c, a1, a2, a3, a4, a5⟩⟩ := e.df i x is h; ⟨f, h1, li, cl, c, a1, a2, a3, w2 _ _ _ a4, a5⟩⟩
theorem Zal {α : Type} {l : List α} {i j : Nat} {x y : α} (h : (l.set i x)[j]? = some y) : (i = j /\ i < l.length /\ x = y) \/ (i ≠ j /\ l[j]? = some y) := by
 by_cases e : i = j
 ·subst e
  by_cases hl : i < l.length
  ·rw [Qa3 hl] at h
   exact .inl ⟨rfl, hl, Option.some.inj h⟩
  ·rw [Qba (by simpa using hl)] at h; cases h
 ·rw [Qaq e] at h
  exact .inr ⟨e, h⟩
theorem RelE.put [CP] [TC] {n : Nat} (e : RelE K L φ n H ρ σ) {i : Nat} {x : Sl} {v : V} (h : RSl K φ n H x v) (ne : ∀ o, x = .o o -> ∀ (j : Nat) (o' : O), j ≠ i -> ρ[j]? = some (.o o') -> σ[j]? ≠ some (some v)) : RelE K L φ n H (ρ.set i x) (σ.set i (some v)) := by
 refine ⟨by simpa using e.len, fun j d q => ?_, fun j o q => ?_, fun j k o o' w hjk q q' z z' => ?_, fun j y cs q => ?_, fun j y is q => ?_⟩
 ·rcases Zal q with ⟨rfl, hl, rfl⟩ | ⟨hn, q⟩
  ·exact ⟨v, Qa3 (by rw [<- e.len]; exact hl), h⟩
  ·obtain ⟨w, h1, h2⟩ := e.at_ j d q
   exact ⟨w, by rw [Qaq hn]; exact h1, h2⟩
 ·rcases Zal q with ⟨rfl, hl, rfl⟩ | ⟨hn, q⟩
  ·obtain ⟨a, rfl, h2⟩ := h
   exact ⟨a, Qa3 (by rw [<- e.len]; exact hl), h2⟩
  ·obtain ⟨w, h1, h2⟩ := e.own j o q
   exact ⟨w, by rw [Qaq hn]; exact h1, h2⟩
 ·rcases Zal q with ⟨rfl, hl, hx⟩ | ⟨hn, q⟩
  ·rcases Zal q' with ⟨rfl, _, _⟩ | ⟨hn', q'⟩
   ·exact hjk rfl
   ·rw [Qa3 (by rw [<- e.len]; exact hl)] at z
    rw [Qaq hn'] at z'
    cases z
    exact ne o hx k o' (Ne.symm hjk) q' z'
  ·rw [Qaq hn] at z
   rcases Zal q' with ⟨rfl, hl, hx⟩ | ⟨hn', q'⟩
   ·rw [Qa3 (by rw [<- e.len]; exact hl)] at z'
    cases z'
    exact ne o' hx j o hjk q z
   ·rw [Qaq hn'] at z'
    exact e.inj j k o o' w hjk q q' z z'
 ·rcases Zal q with ⟨rfl, hl, rfl⟩ | ⟨hn, q⟩
  ·exact (show False from h).elim
  ·obtain ⟨w, h1, h2⟩ := e.clo j y cs q
   exact ⟨w, by rw [Qaq hn]; exact h1, h2⟩
 ·rcases Zal q with ⟨rfl, hl, rfl⟩ | ⟨hn, q⟩
  ·exact (show False from h).elim
  ·obtain ⟨w, h1, h2⟩ := e.df j y is q
   exact ⟨w, by rw [Qaq hn]; exact h1, h2⟩
theorem RelE.set [CP] [TC] {n : Nat} (e : RelE K L φ n H ρ σ) {i : Nat} {d : D} {v : V} (h : RV K φ n H d v) : RelE K L φ n H (ρ.set i (.v d)) (σ.set i (some v)) := e.put (x := .v d) h fun _ z => nomatch z
theorem RelE.drop [CP] [TC] {n : Nat} (e : RelE K L φ n H ρ σ) (i : Nat) (x : Option V) : RelE K L φ n H (ρ.set i .no) (σ.set i x) := by
 refine ⟨by simpa using e.len, fun j d q => ?_, fun j o q => ?_, fun j k o o' w hjk q q' z z' => ?_, fun j y cs q => ?_, fun j y is q => ?_⟩
 ·rcases Zal q with ⟨rfl, hl, z⟩ | ⟨hn, q⟩
  ·cases z
  ·obtain ⟨w, h1, h2⟩ := e.at_ j d q
   exact ⟨w, by rw [Qaq hn]; exact h1, h2⟩
 ·rcases Zal q with ⟨rfl, hl, z⟩ | ⟨hn, q⟩
  ·cases z
  ·obtain ⟨w, h1, h2⟩ := e.own j o q
   exact ⟨w, by rw [Qaq hn]; exact h1, h2⟩
 ·rcases Zal q with ⟨rfl, hl, y⟩ | ⟨hn, q⟩
  ·cases y
  ·rcases Zal q' with ⟨rfl, hl, y⟩ | ⟨hn', q'⟩
   ·cases y
   ·rw [Qaq hn] at z
    rw [Qaq hn'] at z'
    exact e.inj j k o o' w hjk q q' z z'
 ·rcases Zal q with ⟨rfl, hl, z⟩ | ⟨hn, q⟩
  ·cases z
  ·obtain ⟨w, h1, h2⟩ := e.clo j y cs q
   exact ⟨w, by rw [Qaq hn]; exact h1, h2⟩
 ·rcases Zal q with ⟨rfl, hl, z⟩ | ⟨hn, q⟩
  ·cases z
  ·obtain ⟨w, h1, h2⟩ := e.df j y is q
   exact ⟨w, by rw [Qaq hn]; exact h1, h2⟩
theorem RelE.wipe [CP] [TC] {n : Nat} (e : RelE K L φ n H ρ σ) : ∀ vs : List Nat, RelE K L φ n H (Zaw ρ vs) (L2.wipe σ vs)
 | [] => e
 | v :: vs => (RelE.wipe e vs).drop v none
theorem RelE.chg [CP] [TC] {n : Nat} (e : RelE K L φ n H ρ σ) {a : Addr} {u o' : HO} {j : Nat} {ob : O} (hj : ρ[j]? = some (.o ob)) (hv : σ[j]? = some (some (.ref a))) (hp : H a = some u) (m : Mut (some u)) :
  RelE K L φ n (upd H a o') (ρ.set j .no) σ := by
 have sb : Sub φ n H φ n (upd H a o') := Zbc hp m
 refine ⟨by simpa using e.len, fun i d q => ?_, fun i o q => ?_, fun i k o o' w hik q q' z z' => ?_, fun i y cs q => ?_, fun i y is q => ?_⟩
 ·rcases Zal q with ⟨rfl, hl, z⟩ | ⟨hn, q⟩
  ·cases z
  ·obtain ⟨w, h1, h2⟩ := e.at_ i d q
   exact ⟨w, h1, h2.sub sb⟩
 ·rcases Zal q with ⟨rfl, hl, z⟩ | ⟨hn, q⟩
  ·cases z
  ·obtain ⟨b, h1, ⟨x, hx, h2⟩, off⟩ := e.own i o q
   refine ⟨b, h1, ⟨x, ?_, h2.sub sb⟩, off⟩
   rw [upd_ne (fun z => by subst z; exact e.inj i j o ob _ (Ne.symm hn) q hj h1 hv)]; exact hx
 ·rcases Zal q with ⟨rfl, hl, y⟩ | ⟨hn, q⟩
  ·cases y
  ·rcases Zal q' with ⟨rfl, hl, y⟩ | ⟨hn', q'⟩
   ·cases y
   ·exact e.inj i k o o' w hik q q' z z'
 ·rcases Zal q with ⟨rfl, hl, z⟩ | ⟨hn, q⟩
  ·cases z
  ·obtain ⟨w, h1, h2⟩ := e.clo i y cs q
   exact ⟨w, h1, h2.sub sb⟩
 ·rcases Zal q with ⟨rfl, hl, z⟩ | ⟨hn, q⟩
  ·cases z
  ·obtain ⟨w, h1, h2⟩ := e.df i y is q
   exact ⟨w, h1, h2.sub sb⟩
end
end My
namespace My
open PySem PySem.Spec PyProof.Rows L2
variable [CP] [TC]
theorem Zjc {X : Cx} {pins : List (Addr × Obj)} {σ : L2.St} {H : Hp} {s : Shared} {xs : List V} {arr : Array Value} {t' : Nat} (I : Inv X pins σ H s) (hz : xs.length <= sizeLine) (r : Vals xs arr.toList) :
  Inv X pins σ (upd H s.heap.objs.size (.frz { cls := .type "tuple", data := .seq arr } (.tup xs))) { s with heap := s.heap.push { cls := .type "tuple", data := .seq arr }, toks := t' } :=
 I.laid (t' := t') (fun b ob q => Qam _ q) (Qao _) ⟨Qa0 _ rfl, hz, arr.toList, r, IsTup.new _ _⟩
theorem TX.ok {X : Cx} {pins : List (Addr × Obj)} {σ : L2.St} {H : Hp} {s : Shared} {xs : List V} {a : Addr} (h : TX H a xs) (I : Inv X pins σ H s) : ObjOk X.prog X.w H s.heap a (.tup xs) := by
 obtain ⟨o, h, _⟩ := h
 exact (show ObjOk X.prog X.w H s.heap a (.frz o (.tup xs)) from I.hok _ _ h).2
def Z86 (K : KW) : R2 := fun x y H Q => ∃ a b xs ys, x = .ref a /\ y = .ref b /\ SqT K H a xs /\ SqT K H b ys /\ xs.length + ys.length <= sizeLine /\
 (xs = [] -> Q (.ref b) H) /\ (xs ≠ [] -> ys = [] -> Q (.ref a) H) /\ (xs ≠ [] -> ys ≠ [] -> ∀ p, H p = none -> ∀ o : Obj, o.dict = none -> Q (.ref p) (upd H p (.frz o (.tup (xs ++ ys)))))
theorem Znn {X : Cx} : OpR X (binaryOp .Add) (Z86 X.kw) := by
 intro pins s σ H x y v u Q I rx ry h
 obtain ⟨a, b, xs, ys, rfl, rfl, ha, hb, hz, q0, q1, q2⟩ := h
 cases rx
 cases ry
 obtain ⟨its, r1, p1, _⟩ := I.tuple ha
 obtain ⟨its2, r2, p2, _⟩ := I.tuple hb
 by_cases hx : xs = []
 ·subst hx
  cases r1
  exact cat_tup0 p1 p2 ⟨.ref b, H, I, rfl, q0 rfl⟩
 ·refine HT.cat_tup p1 p2 (fun z => hx (r1.nil_iff.mp z)) (fun z => ⟨.ref a, H, I, rfl, q1 hx (r2.nil_iff.mp z)⟩) (fun z => ?_) (by rw [<- r1.length, <- r2.length]; exact hz)
  exact ⟨.ref s.heap.objs.size, _, Zjc (t' := s.toks) I (by rw [Qbd]; exact hz) (r1.append r2), rfl, q2 hx (fun w => z (r2.nil_iff.mpr w)) _ (I.hok.fresh (Qao _)) _ rfl⟩
theorem Zmb (l : Addr) (items : Array Value) (n : Nat) (dd : Option Addr) (sl : Array (Option Value)) (x : Int) (u : Tok) (c0 : (decide (x < -(2 ^ 63)) || decide (x >= 2 ^ 63)) = false) (c1 : (items.isEmpty || x == 1) = true) :
  Meets (Builtin.«tuple.__mul__» ⟨[.ref l, .int x u], []⟩) (fun _ R s => s.heap.get? l = some { cls := .type "tuple", dict := dd, data := .seq items n, slots := sl } /\ R (.ok (.ret (Value.ref l))) s) :=
 .of_wp fun prog w A R s h => by
  obtain ⟨hp, g, d, tk, os⟩ := s
  obtain ⟨hl, h⟩ := h
  have f1 := AutoSeq1.idx_int
  wp_walk using wpAny_loadPart' hl
  repeat (first
   | (refine wpAny_ite_false (decide_eq_false (by rw [c0]; exact Bool.false_ne_true)) ?_; wp_walk using wpAny_loadPart' hl)
   | (refine wpAny_ite_true (decide_eq_true c1) ?_; wp_walk using wpAny_loadPart' hl))
  exact ⟨_, rfl, h⟩
theorem Zmc (l : Addr) (items : Array Value) (n : Nat) (dd : Option Addr) (sl : Array (Option Value)) (x : Int) (u : Tok) (c0 : (decide (x < -(2 ^ 63)) || decide (x >= 2 ^ 63)) = false) (c1 : (items.isEmpty || x == 1) = false) (c2 : (decide (x <= 0) || items.isEmpty) = true) :
  Meets (Builtin.«tuple.__mul__» ⟨[.ref l, .int x u], []⟩) (fun _ R s => s.heap.get? l = some { cls := .type "tuple", dict := dd, data := .seq items n, slots := sl } /\
   R (.ok (.ret (Value.ref s.heap.objs.size))) { s with heap := s.heap.push { cls := Value.type "tuple", data := Data.seq #[] }, toks := s.toks }) :=
 .of_wp fun prog w A R s h => by
  obtain ⟨hp, g, d, tk, os⟩ := s
  obtain ⟨hl, h⟩ := h
  have f1 := AutoSeq1.idx_int
  wp_walk using wpAny_loadPart' hl
  repeat (first
   | (refine wpAny_ite_false (decide_eq_false (by rw [c0]; exact Bool.false_ne_true)) ?_; wp_walk using wpAny_loadPart' hl)
   | (refine wpAny_ite_false (decide_eq_false (by rw [c1]; exact Bool.false_ne_true)) ?_; wp_walk using wpAny_loadPart' hl)
   | (refine wpAny_ite_true (decide_eq_true c2) ?_; wp_walk using wpAny_loadPart' hl))
  exact ⟨_, rfl, h⟩
def Z87 (K : KW) : R2 := fun x y H Q => ∃ l k xs, x = .ref l /\ y = .int k /\ SqT K H l xs /\ 0 <= k /\ k <= 1000 /\ xs.length <= 1000 /\
 (xs = [] \/ k = 1 -> Q (.ref l) H) /\ (∀ p, H p = none -> ∀ o : Obj, o.dict = none -> Q (.ref p) (upd H p (.frz o (.tup (List.replicate k.toNat xs).flatten))))
theorem Zvx {X : Cx} : OpR X (binaryOp .Mult) (Z87 X.kw) := by
 intro pins s σ H x y v u Q I rx ry h
 obtain ⟨l, k, xs, rfl, rfl, hT, h1, h2, hz, q1, q⟩ := h
 cases rx
 obtain ⟨t, rfl⟩ := ry
 obtain ⟨its, r, ⟨⟨cls, dd, data, sl⟩, ho, hc, n, hd⟩, hs⟩ := I.tuple hT
 simp only at hc hd
 subst hc hd
 have hle : its.length = xs.length := r.length.symm
 have hsz0 : its.toArray.size = xs.length := by rw [Qa6, hle]
 have hm : ((its.toArray.size : Nat) : Int) * k <= 1000000 := by
  rw [hsz0]
  have a1 : ((xs.length : Nat) : Int) * k <= 1000 * k := Int.mul_le_mul_of_nonneg_right (by omega) (by omega)
  omega
 have flen : (List.replicate k.toNat its).flatten.length <= sizeLine := by
  rw [PyProof.Rows.lm_len_rep_flat, hle, sizeLine_eq]
  have a1 : k.toNat * xs.length <= 1000 * 1000 := Nat.mul_le_mul (by omega) hz
  omega
 have c0 : (decide (k < -(2 ^ 63)) || decide (k >= 2 ^ 63)) = false := by
  rw [decide_eq_false (by omega), decide_eq_false (by omega)] <;> rfl
 have c4 : Builtin.Tuple.tupleTooMany (((its.toArray.size : Nat) : Int) * k) = false := by
  unfold Builtin.Tuple.tupleTooMany
  rw [sizeLine_eq]
  exact decide_eq_false (by omega)
 have fin : ∀ {T : Value -> Shared -> Prop} {E : Value -> Shared -> Prop}, wpAny (model X.prog X.w) X.A (PySem.call (.builtin "tuple.__mul__") [.ref l, .int k t]) T E s -> wpAny (model X.prog X.w) X.A (binaryOp .Mult (.ref l) (.int k t)) T E s := fun {T E} hh =>
  wpAny_binaryOp_repeat_ref (T := "tuple") (U := "int") (by decide) ⟨_, ho, rfl⟩ (fun s' => typeIs_int s' k t) noFill_tuple_mul F.fills_int_mul F.slot_int_rmul repeat_tuple F.slot_int_index.lookup
   (call_meets F.slot_int_rmul (typeIs_int s k t) F.entry_int_rmul (F.args_int_rmul_2 _ _) (int_rmul_tuple k t l its.toArray n dd sl) ⟨ho, rfl, ⟨_, ho, rfl⟩, hh⟩)
 apply fin
 cases c1 : (its.toArray.isEmpty || k == 1) with
 | true =>
  have z : xs = [] \/ k = 1 := by
   rcases Bool.or_eq_true_iff.mp c1 with e | e
   ·left
    have : its = [] := by simpa using e
    exact List.eq_nil_of_length_eq_zero (by rw [<- hle, this]; rfl)
   ·exact .inr (beq_iff_eq.mp e)
  exact call_meets F.slot_tuple_mul ⟨_, ho, rfl⟩ F.entry_tuple_mul (F.args_tuple_mul_2 _ _) (Zmb l its.toArray n dd sl k t c0 c1) ⟨ho, ⟨.ref l, H, I, rfl, q1 z⟩⟩
 | false =>
  cases c2 : (decide (k <= 0) || its.toArray.isEmpty) with
  | true =>
   have k0 : k.toNat = 0 := by
    rcases Bool.or_eq_true_iff.mp c2 with e | e
    ·have := Qau e; omega
    ·rw [e, Bool.true_or] at c1; cases c1
   refine call_meets F.slot_tuple_mul ⟨_, ho, rfl⟩ F.entry_tuple_mul (F.args_tuple_mul_2 _ _) (Zmc l its.toArray n dd sl k t c0 c1 c2) ⟨ho, ?_⟩
   refine ⟨.ref s.heap.objs.size, _, Zjc (t' := s.toks) (xs := (List.replicate k.toNat xs).flatten) I ?_ ?_, rfl, q _ (I.hok.fresh (Qao _)) _ rfl⟩
   ·rw [k0]; exact Qax _
   ·rw [k0]; exact .nil
  | false =>
   refine call_meets F.slot_tuple_mul ⟨_, ho, rfl⟩ F.entry_tuple_mul (F.args_tuple_mul_2 _ _) (tuple_mulW l its.toArray n dd sl k t c0 c1 c2 (by omega) c4 (by rw [size_rep, Qa6]; exact flen)) ⟨ho, ?_⟩
   rw [size_rep]
   refine ⟨.ref s.heap.objs.size, _, Zjc (t' := s.toks) (xs := (List.replicate k.toNat xs).flatten) I ?_ (r.rep k.toNat), rfl, q _ (I.hok.fresh (Qao _)) _ rfl⟩
   rw [PyProof.Rows.lm_len_rep_flat, sizeLine_eq]
   have a1 : k.toNat * xs.length <= 1000 * 1000 := Nat.mul_le_mul (by omega) hz
   omega
inductive RR (K : KW) (φ : Nat -> Addr) (n : Nat) (H : Hp) : D -> V -> Prop
 | of {d : D} {v : V} : RV K φ n H d v -> RR K φ n H d v
 | wl {a : Addr} {vs : List V} {ds : List D} : H a = some (.lst vs) -> (∀ i, i < n -> φ i ≠ a) -> RVs K φ n H ds vs -> RR K φ n H (.wl ds) (.ref a)
 | wd {a : Addr} {vs : List (Key × V)} {ds : List (Key × D)} : H a = some (.dK vs) -> (∀ i, i < n -> φ i ≠ a) -> RKs K φ n H ds vs -> RR K φ n H (.wd ds) (.ref a)
 | wT {a : Addr} {ks : List (NestedKey × Addr × V)} {ds : List (NestedKey × D)} : H a = some (XT K.P K.w a ks) -> (∀ i, i < n -> φ i ≠ a) -> KA H ks -> RTs K φ n H ds (ks.map noB) -> RR K φ n H (.wT ds) (.ref a)
inductive RRs (K : KW) (φ : Nat -> Addr) (n : Nat) (H : Hp) : List D -> List V -> Prop
 | nil : RRs K φ n H [] []
 | cons {d : D} {v : V} {ds : List D} {vs : List V} : RR K φ n H d v -> RRs K φ n H ds vs -> RRs K φ n H (d :: ds) (v :: vs)
inductive RN (K : KW) (φ : Nat -> Addr) (n : Nat) (H : Hp) : D -> V -> Prop
 | of {d : D} {v : V} : RV K φ n H d v -> RN K φ n H d v
 | wl {a : Addr} {vs : List V} {ds : List D} : H a = some (.lst vs) -> RVs K φ n H ds vs -> RN K φ n H (.wl ds) (.ref a)
 | wd {a : Addr} {vs : List (Key × V)} {ds : List (Key × D)} : H a = some (.dK vs) -> RKs K φ n H ds vs -> RN K φ n H (.wd ds) (.ref a)
 | wT {a : Addr} {ks : List (NestedKey × Addr × V)} {ds : List (NestedKey × D)} : H a = some (XT K.P K.w a ks) -> KA H ks -> RTs K φ n H ds (ks.map noB) -> RN K φ n H (.wT ds) (.ref a)
 | opq {a : Addr} : RN K φ n H (.fn "") (.ref a)
inductive RNs (K : KW) (φ : Nat -> Addr) (n : Nat) (H : Hp) : List D -> List V -> Prop
 | nil : RNs K φ n H [] []
 | cons {d : D} {v : V} {ds : List D} {vs : List V} : RN K φ n H d v -> RNs K φ n H ds vs -> RNs K φ n H (d :: ds) (v :: vs)
section
variable {K : KW} {L : LC} {φ φ' : Nat -> Addr} {S S' : Store} {H H' : Hp} {n : Nat}
theorem RR.mono (r : RelS K φ S H) (st : Step φ S H φ' S' H') {d : D} {v : V} (h : RR K φ S.nx H d v) : RR K φ' S'.nx H' d v := by
 have off : ∀ {a : Addr} {u : HO}, H a = some u -> (∀ i, i < S.nx -> φ i ≠ a) -> ∀ i, i < S'.nx -> φ' i ≠ a := fun {a u} e off i hi z => by
  by_cases h : i < S.nx
  ·exact off i h ((st.ag i h).symm.trans z)
  ·have := st.new i (Nat.not_lt.mp h) hi
   rw [z, e] at this; cases this
 cases h with
 | of h => exact .of (h.mono r st)
 | wl e o rs => exact .wl (st.keep _ _ e (fun _ z => nomatch z) o) (off e o) (rs.mono r st)
 | wd e o rs => exact .wd (st.keep _ _ e (fun _ z => nomatch z) o) (off e o) (rs.mono r st)
 | wT e o q rs => exact .wT (st.keep _ _ e (fun _ z => nomatch z) o) (off e o) (q.sub (st.sub r)) (rs.sub (st.sub r))
theorem RRs.mono (r : RelS K φ S H) (st : Step φ S H φ' S' H') : ∀ {d : List D} {v : List V}, RRs K φ S.nx H d v -> RRs K φ' S'.nx H' d v
 | _, _, .nil => .nil
 | _, _, .cons a t => .cons (a.mono r st) (RRs.mono r st t)
theorem RN.ofO {o : O} {a : Addr} (h : RO K φ n H a o) : RN K φ n H o.rd (.ref a) := by
 obtain ⟨u, e, h⟩ := h
 cases o with
 | lst ds => obtain ⟨vs, rfl, rs⟩ := h; exact .wl e rs
 | dK ds => obtain ⟨vs, rfl, rs⟩ := h; exact .wd e rs
 | dT ds => obtain ⟨vs, rfl, q, rs⟩ := h; exact .wT e q rs
 | ins c fs => exact h.elim
theorem RR.rd (r : RelS K φ S H) {d : D} {v : V} (h : RR K φ S.nx H d v) : RN K φ S.nx H (rdS S d) v := by
 cases h with
 | of h =>
  cases h with
  | ref hi =>
   obtain ⟨o, e⟩ := Zt8 hi
   simp only [rdS, e]
   have q := r.obj _ _ e
   cases o with
   | ins c fs => exact .opq
   | lst ds => exact RN.ofO (o := .lst ds) q
   | dK ds => exact RN.ofO (o := .dK ds) q
   | dT ds => exact RN.ofO (o := .dT ds) q
  | non => exact .of .non
  | bl b => exact .of (.bl b)
  | int i => exact .of (.int i)
  | str s => exact .of (.str s)
  | tup e q => exact .of (.tup e q)
  | kt e q => exact .of (.kt e q)
  | wt e q => exact .of (.wt e q)
  | ks e q => exact .of (.ks e q)
  | wl e q => exact .of (.wl e q)
  | wd e q => exact .of (.wd e q)
  | wT e ka q => exact .of (.wT e ka q)
  | clo => exact .of .clo
  | fn e => exact .of (.fn e)
  | exn0 e h => exact .of (.exn0 e h)
  | exn e h h2 l q => exact .of (.exn e h h2 l q)
 | wl e o rs => exact .wl e rs
 | wd e o rs => exact .wd e rs
 | wT e o q rs => exact .wT e q rs
theorem RRs.rd (r : RelS K φ S H) : ∀ {d : List D} {v : List V}, RRs K φ S.nx H d v -> RNs K φ S.nx H (d.map (rdS S)) v
 | _, _, .nil => .nil
 | _, _, .cons a t => .cons (a.rd r) (RRs.rd r t)
theorem RVs.rr : ∀ {d : List D} {v : List V}, RVs K φ n H d v -> RRs K φ n H d v
 | _, _, .nil => .nil
 | _, _, .cons a t => .cons (.of a) (RVs.rr t)
theorem RN.list {ds : List D} {x : V} (h : RN K φ n H (.wl ds) x) : ∃ a vs, x = .ref a /\ Rd H a (.lst vs) /\ RVs K φ n H ds vs := by
 cases h with
 | of h => cases h with
  | wl e rs => exact ⟨_, _, rfl, .inr ⟨_, e⟩, rs⟩
 | wl e rs => exact ⟨_, _, rfl, .inl e, rs⟩
theorem RN.dict {ds : List (Key × D)} {x : V} (h : RN K φ n H (.wd ds) x) : ∃ a vs, x = .ref a /\ Rd H a (.dK vs) /\ RKs K φ n H ds vs := by
 cases h with
 | of h => cases h with
  | wd e rs => exact ⟨_, _, rfl, .inr ⟨_, e⟩, rs⟩
 | wd e rs => exact ⟨_, _, rfl, .inl e, rs⟩
theorem RN.dictT {ds : List (NestedKey × D)} {x : V} (h : RN K φ n H (.wT ds) x) : ∃ a ks, x = .ref a /\ Rd H a (XT K.P K.w a ks) /\ KA H ks /\ RTs K φ n H ds (ks.map noB) := by
 cases h with
 | of h => cases h with
  | wT e q rs => exact ⟨_, _, rfl, .inr ⟨_, e⟩, q, rs⟩
 | wT e q rs => exact ⟨_, _, rfl, .inl e, q, rs⟩
theorem RN.int {i : Int} {x : V} (h : RN K φ n H (.int i) x) : x = .int i := by
 cases h with
 | of h => cases h; rfl
theorem RN.str {i : Str} {x : V} (h : RN K φ n H (.str i) x) : x = .str i := by
 cases h with
 | of h => cases h; rfl
theorem RN.bl {i : Bool} {x : V} (h : RN K φ n H (.bl i) x) : x = .bl i := by
 cases h with
 | of h => cases h; rfl
theorem RN.non {x : V} (h : RN K φ n H .non x) : x = .non := by
 cases h with
 | of h => cases h; rfl
theorem RN.tup {ds : List D} {x : V} (h : RN K φ n H (.tup ds) x) : ∃ a vs, x = .ref a /\ TX H a vs /\ RVs K φ n H ds vs := by
 cases h with
 | of h => cases h with
  | tup e rs => exact ⟨_, _, rfl, e, rs⟩
theorem RN.kt' {ds : List D} {x : V} (h : RN K φ n H (.kt ds) x) : ∃ a vs, x = .ref a /\ H a = some (.tup vs) /\ RVs K φ n H ds vs := by
 cases h with
 | of h => cases h with
  | kt e rs => exact ⟨_, _, rfl, e, rs⟩
theorem RN.wt' {ds : List D} {x : V} (h : RN K φ n H (.wt ds) x) : ∃ a vs, x = .ref a /\ SqT K H a vs /\ RVs K φ n H ds vs := by
 cases h with
 | of h => cases h with
  | wt e rs => exact ⟨_, _, rfl, e.sq, rs⟩
theorem RN.ks' {ds : List D} {x : V} (h : RN K φ n H (.ks ds) x) : ∃ a vs, x = .ref a /\ SqL K H a vs /\ RVs K φ n H ds vs := by
 cases h with
 | of h => cases h with
  | ks e rs => exact ⟨_, _, rfl, e.sq, rs⟩
theorem SqL.rd {F : PySem.W.Frag} {a : Addr} {vs : List V} (h : Rd H a (.lst vs)) : SqL F H a vs := .inl h
theorem RNs.one {d : D} {vs : List V} (r : RNs K φ n H [d] vs) : ∃ v, vs = [v] /\ RN K φ n H d v := by
 cases r with
 | cons a t => cases t; exact ⟨_, rfl, a⟩
theorem RVs.one {d : D} {vs : List V} (r : RVs K φ n H [d] vs) : ∃ v, vs = [v] /\ RV K φ n H d v := by
 cases r with
 | cons a t => cases t; exact ⟨_, rfl, a⟩
end
structure CapsE (cells : List (Str × Addr)) (sc : Scope) (N : List Str) (cl : List (Str × Addr)) (fr : List Str) (js : List Nat) : Prop where
 sub : ∀ y c, cl.lookup y = some c -> cells.lookup y = some c
 kin : ∀ y ∈ fr, sc.names.lookup y = some .cell \/ sc.names.lookup y = some .free
 sup : ∀ y ∈ fr, ∀ c, cells.lookup y = some c -> cl.lookup y = some c
 at_ : js.map (fun j => N[j]?) = fr.map some
abbrev _root_.L2.Cx.lc (X : Cx) : LC where
 kn := fun cl fr ws => X.outer.length < X.stack.length -> NdefX.CellsAt cl fr ws X.s_0.heap X.H_0 /\ (∀ y c, cl.lookup y = some c -> c ∉ X.fs) /\ ∀ y c, cl.lookup y = some c -> c ∉ X.ex
 cp := fun cl fr js => X.outer.length < X.stack.length -> CapsE X.env.cells X.env.scope X.N cl fr js
abbrev CA := Str -> Option Addr
def RX (ca : CA) (K : KW) (φ : Nat -> Addr) (n : Nat) (H : Hp) (x : Xn) (cls : Value) (dd : Option Addr) : Prop :=
 ∃ C, ca x.c = some C /\ cls = .ref C /\ ((x.fs = [] /\ dd = none) \/ ∃ d ws, dd = some d /\ H d = some (.xd ws) /\ RFs (RV K φ n H) x.fs ws)
section
variable (K : KW) (L : LC) (ca : CA) (W : WX)
def Zaf {α β : Type} (rel : (Nat -> Addr) -> Nat -> Hp -> α -> β -> Prop) (φ : Nat -> Addr) (S : Store) (H : Hp) (Q : β -> Hp -> Prop) (a : α) (S' : Store) : Prop := ∀ φ' H' b, Step φ S H φ' S' H' -> RelS K φ' S' H' -> rel φ' S'.nx H' a b -> Q b H'
abbrev Zd4 (φ : Nat -> Addr) (S : Store) (H : Hp) (Q : VK) (d : D) (S' : Store) : Prop := Zaf K (RV K) φ S H Q d S'
def Zck (φ : Nat -> Addr) (S : Store) (H : Hp) (E : XK) (x : Xn) (S' : Store) : Prop := ∀ φ' H' cls dd, Step φ S H φ' S' H' -> RelS K φ' S' H' -> RX ca K φ' S'.nx H' x cls dd -> E cls dd H'
structure At (φ : Nat -> Addr) (S : Store) (ρ : Ev) (σ : L2.St) (H : Hp) : Prop where
 rel : RelS K φ S H
 env : RelE K L φ S.nx H ρ σ
def tG {α β : Type} (rel : (Nat -> Addr) -> Nat -> Hp -> α -> β -> Prop) (c : Ev -> Store -> R Xn α) : L2.St -> Hp -> (β -> Hp -> Prop) -> Prop := fun σ H Q =>
 ∃ φ S ρ, At K L φ S ρ σ H /\ (c ρ S).wp (Zaf K rel φ S H Q) (Zck K ca φ S H fun cls dd H' => W cls dd σ H')
abbrev tC (c : Ev -> Store -> RD) : TE := tG K L ca W (RV K) c
def tT (c : Ev -> Store -> RD) : TT := fun σ H Q =>
 ∃ φ S ρ, At K L φ S ρ σ H /\ (c ρ S).wp (fun d S' => ∃ b, d = .bl b /\ ∀ φ' H', Step φ S H φ' S' H' -> RelS K φ' S' H' -> Q b H') (Zck K ca φ S H fun cls dd H' => W cls dd σ H')
end
section
variable {K : KW} {L : LC} {ca : CA} {φ φ1 : Nat -> Addr} {S S1 : Store} {H H1 : Hp} {ρ : Ev} {σ : L2.St} {W : WX}
theorem Zaf.step {α β : Type} {rel : (Nat -> Addr) -> Nat -> Hp -> α -> β -> Prop} {Q : β -> Hp -> Prop} {d : α} {S' : Store} (st : Step φ S H φ1 S1 H1) (h : Zaf K rel φ S H Q d S') : Zaf K rel φ1 S1 H1 Q d S' := fun φ' H' v st' => h φ' H' v (st.trans st')
theorem Zck.step {E : XK} {d : Xn} {S' : Store} (st : Step φ S H φ1 S1 H1) (h : Zck K ca φ S H E d S') : Zck K ca φ1 S1 H1 E d S' := fun φ' H' v dd st' => h φ' H' v dd (st.trans st')
theorem At.step (a : At K L φ S ρ σ H) (st : Step φ S H φ1 S1 H1) (r : RelS K φ1 S1 H1) : At K L φ1 S1 ρ σ H1 := ⟨r, a.env.mono a.rel st⟩
theorem Zag {α β γ : Type} {rel : (Nat -> Addr) -> Nat -> Hp -> α -> β -> Prop} {c : Ev -> Store -> R Xn α} {g : α -> Store -> R Xn γ} {P : γ -> Store -> Prop} {Q : β -> Hp -> Prop} (a : At K L φ S ρ σ H) (h : ((c ρ S).bind g).wp P (Zck K ca φ S H fun cls dd H' => W cls dd σ H'))
  (k : ∀ d S1 φ1 H1 x, Step φ S H φ1 S1 H1 -> At K L φ1 S1 ρ σ H1 -> rel φ1 S1.nx H1 d x -> (g d S1).wp P (Zck K ca φ1 S1 H1 fun cls dd H' => W cls dd σ H') -> Q x H1) : tG K L ca W rel c σ H Q := by
 rw [R.wp_bind] at h
 exact ⟨φ, S, ρ, a, R.wp_mono h (fun d S1 hg φ1 H1 x st r rv => k d S1 φ1 H1 x st (a.step st r) rv (R.wp_mono hg (fun _ _ z => z) fun _ _ z => z.step st)) fun _ _ z => z⟩
theorem Zno {γ : Type} {c : Ev -> Store -> RD} {g : D -> Store -> R Xn γ} {P : γ -> Store -> Prop} {Q : Bool -> Hp -> Prop} (a : At K L φ S ρ σ H) (h : ((c ρ S).bind g).wp P (Zck K ca φ S H fun cls dd H' => W cls dd σ H'))
  (hb : ∀ d S1, (∀ b, d ≠ .bl b) -> g d S1 = .bad)
  (k : ∀ b S1 φ1 H1, Step φ S H φ1 S1 H1 -> At K L φ1 S1 ρ σ H1 -> (g (.bl b) S1).wp P (Zck K ca φ1 S1 H1 fun cls dd H' => W cls dd σ H') -> Q b H1) : tT K L ca W c σ H Q := by
 rw [R.wp_bind] at h
 refine ⟨φ, S, ρ, a, R.wp_mono h (fun d S1 hg => ?_) fun _ _ z => z⟩
 cases d with
 | bl b => exact ⟨b, rfl, fun φ1 H1 st r => k b S1 φ1 H1 st (a.step st r) (R.wp_mono hg (fun _ _ z => z) fun _ _ z => z.step st)⟩
 | _ => rw [hb _ _ (fun b => by simp)] at hg; exact hg.elim
theorem Zkd {c : Ev -> Store -> RD} {Q : Bool -> Hp -> Prop} (h : tT K L ca W c σ H Q) : tC K L ca W c σ H fun x H1 => ∃ b, x = .bl b /\ Q b H1 := by
 obtain ⟨φ, S, ρ, a, h⟩ := h
 refine ⟨φ, S, ρ, a, R.wp_mono h (fun d S' ⟨b, e, k⟩ φ' H' v st r rv => ?_) fun _ _ z => z⟩
 subst e
 cases rv
 exact ⟨b, rfl, k φ' H' st r⟩
theorem PE.mono {X : Cx} {e : Expr} {t t' : TE} (h : PE X e t) (k : ∀ σ H Q, t' σ H Q -> t σ H Q) : PE X e t' := ⟨fun pins s σ H Q I q => h.run pins s σ H Q I (k σ H Q q)⟩
theorem PT.mono {X : Cx} {e : Expr} {t t' : TT} (h : PT X e t) (k : ∀ σ H Q, t' σ H Q -> t σ H Q) : PT X e t' := ⟨fun pins s σ H Q I q => h.run pins s σ H Q I (k σ H Q q)⟩
theorem PW.mono {X : Cx} {e : Expr} {t t' : TT} (h : PW X e t) (k : ∀ σ H Q, t' σ H Q -> t σ H Q) : PW X e t' := ⟨fun w pins s σ H Q I q => h.run w pins s σ H Q I (k σ H Q q)⟩
theorem PA.mono {X : Cx} {e : List Expr} {t t' : TA} (h : PA X e t) (k : ∀ σ H Q, t' σ H Q -> t σ H Q) : PA X e t' := ⟨fun w pins s σ H Q I q => h.run w pins s σ H Q I (k σ H Q q)⟩
def tLk {β : Type} (t : L2.St -> Hp -> (β -> Hp -> Prop) -> Prop) : L2.St -> Hp -> (β -> Hp -> Prop) -> Prop := fun σ H Q => t σ H fun v H' => Q v H' \/ ∃ d u, H' d = some u /\ Mut (some u) /\ ∀ od, Q v (upd H' d (.frz od u))
theorem PE.lk {X : Cx} {e : Expr} {t : TE} (h : PE X e t) : PE X e (tLk t) := by
 constructor
 intro pins s σ H Q I hw
 apply thn (h.run pins s σ H _ I hw)
 rintro u s1 ⟨v, H1, I1, r, q | ⟨d, w, hd, mu, q⟩⟩
 ·exact ⟨v, H1, I1, r, q⟩
 ·obtain ⟨od, I2⟩ := I1.lock hd mu
  exact ⟨v, _, I2, r, q od⟩
abbrev lcB : LC := ⟨fun _ _ _ => True, fun _ _ _ => True⟩
theorem At.weak {L' : LC} (w : ∀ cl fr ws, L.kn cl fr ws -> L'.kn cl fr ws) (w2 : ∀ cl fr js, L.cp cl fr js -> L'.cp cl fr js) (a : At K L φ S ρ σ H) : At K L' φ S ρ σ H := ⟨a.rel, a.env.weak w w2⟩
theorem At.toB (a : At K L φ S ρ σ H) : At K lcB φ S ρ σ H := a.weak (fun _ _ _ _ => trivial) fun _ _ _ _ => trivial
theorem _root_.My.RelE.toB {n : Nat} (a : RelE K L φ n H ρ σ) : RelE K lcB φ n H ρ σ := a.weak (fun _ _ _ _ => trivial) fun _ _ _ _ => trivial
theorem tG.weak {L' : LC} {α β : Type} {rel : (Nat -> Addr) -> Nat -> Hp -> α -> β -> Prop} {c : Ev -> Store -> R Xn α} {Q : β -> Hp -> Prop} (w : ∀ cl fr ws, L.kn cl fr ws -> L'.kn cl fr ws) (w2 : ∀ cl fr js, L.cp cl fr js -> L'.cp cl fr js) (h : tG K L ca W rel c σ H Q) : tG K L' ca W rel c σ H Q :=
 let ⟨φ, S, ρ, a, q⟩ := h
 ⟨φ, S, ρ, a.weak w w2, q⟩
theorem tT.weak {L' : LC} {c : Ev -> Store -> RD} {Q : Bool -> Hp -> Prop} (w : ∀ cl fr ws, L.kn cl fr ws -> L'.kn cl fr ws) (w2 : ∀ cl fr js, L.cp cl fr js -> L'.cp cl fr js) (h : tT K L ca W c σ H Q) : tT K L' ca W c σ H Q :=
 let ⟨φ, S, ρ, a, q⟩ := h
 ⟨φ, S, ρ, a.weak w w2, q⟩
theorem _root_.L2.Cx.lcB1 {X : Cx} (h : X.outer = X.stack) : ∀ cl fr ws, lcB.kn cl fr ws -> X.lc.kn cl fr ws := fun cl fr ws _ hl => absurd hl (by rw [h]; exact Nat.lt_irrefl _)
theorem _root_.L2.Cx.lcB2 {X : Cx} (h : X.outer = X.stack) : ∀ cl fr ws, lcB.cp cl fr ws -> X.lc.cp cl fr ws := fun cl fr ws _ hl => absurd hl (by rw [h]; exact Nat.lt_irrefl _)
theorem Zaf.now {α β : Type} {rel : (Nat -> Addr) -> Nat -> Hp -> α -> β -> Prop} {Q : β -> Hp -> Prop} {d : α} {v : β} (h : Zaf K rel φ S H Q d S) (r : RelS K φ S H) (rv : rel φ S.nx H d v) : Q v H := h φ H v r.refl r rv
theorem Zas {ε α : Type} {S : Store} {o : Option α} {Q : α -> Store -> Prop} {E : ε -> Store -> Prop} (h : (R.ofO S o : R ε α).wp Q E) : ∃ a, o = some a /\ Q a S := by
 cases o with
 | none => exact h.elim
 | some a => exact ⟨a, rfl, h⟩
end
def rOp (K : KW) (f : D -> D -> Option D) : R2 := fun x y H Q => ∃ φ S dx dy d, RelS K φ S H /\ RN K φ S.nx H dx x /\ RN K φ S.nx H dy y /\ f dx dy = some d /\ Zd4 K φ S H Q d S
section
variable {K : KW} {L : LC} {φ : Nat -> Addr} {S : Store} {H : Hp} {Q : VK} {n : Nat}
theorem RVs.length : ∀ {ds : List D} {vs : List V}, RVs K φ n H ds vs -> vs.length = ds.length
 | _, _, .nil => rfl
 | _, _, .cons _ t => by rw [Qai, Qai, RVs.length t]
theorem RKs.length : ∀ {ds : List (Key × D)} {vs : List (Key × V)}, RKs K φ n H ds vs -> vs.length = ds.length
 | _, _, .nil => rfl
 | _, _, .cons _ t => by rw [Qai, Qai, RKs.length t]
theorem RVs.append : ∀ {ds es : List D} {vs ws : List V}, RVs K φ n H ds vs -> RVs K φ n H es ws -> RVs K φ n H (ds ++ es) (vs ++ ws)
 | _, _, _, _, .nil, b => b
 | _, _, _, _, .cons a t, b => .cons a (RVs.append t b)
theorem RVs.get : ∀ {ds : List D} {vs : List V} {i : Nat} {d : D}, RVs K φ n H ds vs -> ds[i]? = some d -> ∃ v, vs[i]? = some v /\ RV K φ n H d v
 | _, _, _, _, .nil, e => by simp at e
 | _, _, 0, _, .cons r _, e => by simp at e; subst e; exact ⟨_, rfl, r⟩
 | _, _, i + 1, d, .cons _ t, e => by
  obtain ⟨v, h1, h2⟩ := RVs.get (i := i) (d := d) t (by simpa using e)
  exact ⟨v, by simpa using h1, h2⟩
theorem RVs.drop : ∀ {ds : List D} {vs : List V} (k : Nat), RVs K φ n H ds vs -> RVs K φ n H (ds.drop k) (vs.drop k)
 | _, _, 0, r => r
 | _, _, _ + 1, .nil => .nil
 | _, _, k + 1, .cons _ t => RVs.drop k t
theorem RVs.take : ∀ {ds : List D} {vs : List V} (k : Nat), RVs K φ n H ds vs -> RVs K φ n H (ds.take k) (vs.take k)
 | _, _, 0, _ => .nil
 | _, _, _ + 1, .nil => .nil
 | _, _, k + 1, .cons a t => .cons a (RVs.take k t)
theorem RVs.set {d : D} {v : V} (h : RV K φ n H d v) : ∀ {ds : List D} {vs : List V} (k : Nat), RVs K φ n H ds vs -> RVs K φ n H (ds.set k d) (vs.set k v)
 | _, _, _, .nil => .nil
 | _, _, 0, .cons _ t => .cons h t
 | _, _, k + 1, .cons a t => .cons a (RVs.set h k t)
theorem RVs.reverse : ∀ {ds : List D} {vs : List V}, RVs K φ n H ds vs -> RVs K φ n H ds.reverse vs.reverse
 | _, _, .nil => .nil
 | _, _, .cons a t => by
  rw [List.reverse_cons, List.reverse_cons]
  exact (RVs.reverse t).append (.cons a .nil)
theorem RVs.strs : ∀ (ss : List Str), RVs K φ n H (ss.map .str) (ss.map V.str)
 | [] => .nil
 | s :: r => .cons (.str s) (RVs.strs r)
theorem Zbd {α β : Type} {f : α -> Option β} {x : α} {r : List α} {ys : List β} (h : Zbv f (x :: r) = some ys) : ∃ y t, f x = some y /\ Zbv f r = some t /\ ys = y :: t := by
 unfold Zbv at h
 split at h
 ·rename_i y t h1 h2
  exact ⟨y, t, h1, h2, (Option.some.inj h).symm⟩
 ·cases h
theorem Znp {κ α β : Type} {f : α -> Option β} {k : κ} {x : α} {r : List (κ × α)} {ys : List (κ × β)} (h : Zqz f ((k, x) :: r) = some ys) : ∃ y t, f x = some y /\ Zqz f r = some t /\ ys = (k, y) :: t := by
 unfold Zqz at h
 split at h
 ·rename_i y t h1 h2
  exact ⟨y, t, h1, h2, (Option.some.inj h).symm⟩
 ·cases h
theorem Zb3 : ∀ {xs : List D} {ss : List Str}, Zci xs = some ss -> xs = ss.map .str
 | [], ss, h => by cases h; rfl
 | x :: r, ss, h => by
  obtain ⟨y, t, h1, h2, rfl⟩ := Zbd h
  cases x with
  | str s => cases h1; rw [Qaj, <- Zb3 h2]
  | _ => cases h1
theorem Zgw : ∀ {xs : List D} {ss : List Bool}, Zi7 xs = some ss -> xs = ss.map .bl
 | [], ss, h => by cases h; rfl
 | x :: r, ss, h => by
  obtain ⟨y, t, h1, h2, rfl⟩ := Zbd h
  cases x with
  | bl s => cases h1; rw [Qaj, <- Zgw h2]
  | _ => cases h1
theorem RVs.strs_inv : ∀ {ss : List Str} {vs : List V}, RVs K φ n H (ss.map .str) vs -> vs = ss.map V.str
 | [], _, .nil => rfl
 | s :: r, _, .cons a t => by
  cases a
  rw [RVs.strs_inv t]; rfl
theorem RVs.bls_inv : ∀ {ss : List Bool} {vs : List V}, RVs K φ n H (ss.map .bl) vs -> vs = ss.map V.bl
 | [], _, .nil => rfl
 | s :: r, _, .cons a t => by
  cases a
  rw [RVs.bls_inv t]; rfl
theorem Zvy {p : Addr} {ds : List D} {vs : List V} (r : RelS K φ S H) (rs : RVs K φ S.nx H ds vs) (hp : H p = none) (h : Zd4 K φ S H Q (.tup ds) S) : ∀ o : Obj, o.dict = none -> Q (.ref p) (upd H p (.frz o (.tup vs))) := fun o hd => by
 obtain ⟨r', st⟩ := r.lay (o' := .frz o (.tup vs)) hp
 exact h φ _ _ st r' (.tup ⟨o, upd_same, hd⟩ (rs.mono r st))
theorem ktN {p : Addr} {ds : List D} {vs : List V} (r : RelS K φ S H) (rs : RVs K φ S.nx H ds vs) (hp : H p = none) (h : Zd4 K φ S H Q (.kt ds) S) : Q (.ref p) (upd H p (.tup vs)) := by
 obtain ⟨r', st⟩ := r.lay (o' := .tup vs) hp
 exact h φ _ _ st r' (.kt upd_same (rs.mono r st))
theorem Zgx {d : D} {v : V} {xs : List D} (rv : RN K φ n H d v) (h : Znf d = some xs) : ∃ a vs, v = .ref a /\ (SqL K H a vs \/ SqT K H a vs) /\ RVs K φ n H xs vs := by
 cases rv with
 | of rv =>
  cases rv with
  | tup e rs => cases h; exact ⟨_, _, rfl, .inr e.sq, rs⟩
  | kt e rs => cases h; exact ⟨_, _, rfl, .inr (SqT.of e), rs⟩
  | wt e rs => cases h; exact ⟨_, _, rfl, .inr e.sq, rs⟩
  | ks e rs => cases h; exact ⟨_, _, rfl, .inl e.sq, rs⟩
  | wl e rs => cases h; exact ⟨_, _, rfl, .inl (SqL.rd (.inr ⟨_, e⟩)), rs⟩
  | _ => cases h
 | wl e rs => cases h; exact ⟨_, _, rfl, .inl (SqL.of e), rs⟩
 | wd _ _ => cases h
 | wT _ _ _ => cases h
 | opq => cases h
def LkQ (Q : VK) : VK := fun v H' => ∃ d u, H' d = some u /\ Mut (some u) /\ ∀ od, Q v (upd H' d (.frz od u))
theorem Yf0 {p : Addr} {o : O} {u : HO} (r : RelS K φ S H) (hu : RU K φ S.nx H p o u) (hp : H p = none) (h : Zd4 K φ S H Q o.rd S) : LkQ Q (.ref p) (upd H p u) := by
 refine ⟨p, u, upd_same, hu.mut, fun od => ?_⟩
 rw [upd_upd]
 obtain ⟨r', st⟩ := r.lay (o' := .frz od u) hp
 refine h φ _ _ st r' ?_
 have sb := st.sub r
 cases o with
 | lst ds => obtain ⟨vs, rfl, rs⟩ := hu; exact .wl upd_same (rs.sub sb)
 | dK ds => obtain ⟨vs, rfl, rs⟩ := hu; exact .wd upd_same (rs.sub sb)
 | dT ds => obtain ⟨vs, rfl, q, rs⟩ := hu; exact .wT upd_same (q.sub sb) (rs.sub sb)
 | ins c fs => exact hu.elim
theorem Z0h {p : Addr} {ds : List D} {vs : List V} (r : RelS K φ S H) (rs : RVs K φ S.nx H ds vs) (hp : H p = none) (h : Zd4 K φ S H Q (.wl ds) S) : LkQ Q (.ref p) (upd H p (.lst vs)) := Yf0 (o := .lst ds) r ⟨vs, rfl, rs⟩ hp h
theorem Zf5 {X : Cx} {pins : List (Addr × Obj)} {σ : L2.St} {t : Sem Value} {M : Model} {A : Around} {E : Value -> Shared -> Prop} {s : Shared} {Q : VK} (h : wpAny M A t (EP X pins σ (LkQ Q)) E s) : wpAny M A t (EP X pins σ Q) E s := by
 apply thn h
 rintro u s1 ⟨v, H1, I1, r, d, w, hd, mu, q⟩
 obtain ⟨od, I2⟩ := I1.lock hd mu
 exact ⟨v, _, I2, r, q od⟩
end
section
variable {X : Cx}
theorem Zt9 (a : List Nat) : ∀ n (acc : List Nat), (List.replicate n a.toArray).foldl (· ++ ·) acc.toArray = (acc ++ (List.replicate n a).flatten).toArray
 | 0, acc => by simp
 | n + 1, acc => by
  rw [List.replicate_succ, List.foldl_cons, List.append_toArray, Zt9 a n, List.replicate_succ, List.flatten_cons, List.append_assoc]
theorem Zvz {prog : Program} {w : World} {A : Around} {E : Value -> Shared -> Prop} {s : Shared} {z : Str} {n : Int} {t u : Tok} {Q : Value -> Shared -> Prop} (hz : 2 <= n /\ n <= 64 /\ 0 < z.length /\ z.length <= 1000)
  (h : ∀ tk, Q (.str (Zbh z n.toNat) tk) { s with toks := s.toks + 1 }) : wpAny (model prog w) A (binaryOp .Mult (.str z t) (.int n u)) Q E s := by
 obtain ⟨h1, h2, h3, h4⟩ := hz
 have e : ((List.replicate n.toNat z.cps).foldl (· ++ ·) #[] : Array Nat) = (List.replicate n.toNat z.cps.toList).flatten.toArray := by
  have := Zt9 z.cps.toList n.toNat []
  simpa using this
 have l1 : ¬ n < 1 := by omega
 have l2 : (n == 1 || z.length == 0) = false := by
  have a : (n == 1) = false := by simp; omega
  have b : (z.length == 0) = false := by simp; omega
  rw [a, b]; rfl
 have l4 : z.length * n.toNat <= 64000 := by
  calc z.length * n.toNat <= 1000 * 64 := Nat.mul_le_mul h4 (by omega)
   _ = 64000 := rfl
 have l5 : (Zbh z n.toNat).length = z.length * n.toNat := by
  simp [Zbh, Str.length, Nat.mul_comm]
 refine PySem.P.mul_str (by simp; omega) (fun _ _ => ?_) (fun _ _ => ?_) ?_
 ·have q : (z.length : Int) * n <= 2 ^ 63 - 1 := by
   have := Int.mul_le_mul (show (z.length : Int) <= 1000 by omega) h2 (by omega) (by omega)
   omega
  have := (Int.le_ediv_iff_mul_le (by omega : (0 : Int) < n)).mpr q
  omega
 ·unfold Builtin.Str.tooLong
  simp
  rw [sizeLine_eq]
  omega
 ·rw [Qat l1, l2, Qat (by decide), e]
  exact ⟨by rw [show (⟨(List.replicate n.toNat z.cps.toList).flatten.toArray⟩ : Str) = Zbh z n.toNat from rfl, l5, sizeLine_eq]; omega, h _⟩
theorem Zv0 : OpR X (binaryOp .Add) (fun x y H Q => ∃ l b xs zs, x = .ref l /\ y = .ref b /\ Rd H l (.lst xs) /\ Rd H b (.lst zs) /\ xs.length + zs.length <= sizeLine /\ ∀ p, H p = none -> Q (.ref p) (upd H p (.lst (xs ++ zs)))) := by
 rintro pins s σ H x y v u Q I rx ry ⟨l, b, xs, zs, rfl, rfl, h1, h2, hz, q⟩
 cases rx; cases ry
 obtain ⟨_, its1, n1, r1, e1⟩ := h1.ok I.hok
 obtain ⟨_, its2, n2, r2, e2⟩ := h2.ok I.hok
 have l1 := r1.length
 have l2 := r2.length
 refine PySem.P.add_list e1 e2 ?_ (by simp only [Qa6]; omega)
 rw [List.append_toArray]
 exact ⟨.ref _, _, I.lnew (t' := s.toks) (r1.append r2) (by simpa using hz), rfl, q _ I.fresh⟩
theorem Zv1 : OpR X (binaryOp .Mult) (fun x y H Q => ∃ l k xs, x = .ref l /\ y = .int k /\ Rd H l (.lst xs) /\ 0 <= k /\ k <= 1000 /\ xs.length <= 1000 /\ ∀ p, H p = none -> Q (.ref p) (upd H p (.lst (List.replicate k.toNat xs).flatten))) := by
 intro pins s σ H x y v u Q I rx ry h
 obtain ⟨l, k, xs, rfl, rfl, hH, h1, h2, hx, q⟩ := h
 cases rx
 obtain ⟨t, rfl⟩ := ry
 obtain ⟨z, its, n, r, e⟩ := hH.ok I.hok
 have hl := r.length
 have h3 : xs.length * k.toNat <= 1000 * 1000 := Nat.mul_le_mul hx (by omega)
 have hz : xs.length * k.toNat <= sizeLine := by rw [sizeLine_eq]; omega
 have hlen : its.toArray.size * k.toNat <= sizeLine := by rw [Qa6, <- hl]; exact hz
 have hcap : ¬ its.toArray.size * k.toNat > (2 ^ 63 - 1) / 8 := by
  have : (sizeLine : Nat) <= (2 ^ 63 - 1) / 8 := by decide
  omega
 have hfit : ¬ (!Builtin.List.listFitsIndex k) = true := by
  rw [fitsIndex_both (by omega) (by omega)]
  exact Bool.false_ne_true
 have hlong : ¬ Builtin.List.listTooLong (its.toArray.size * k.toNat) = true := by
  rw [notLongL hlen]
  exact Bool.false_ne_true
 have hnew : List.foldl (fun x1 x2 => x1 ++ x2) #[] (List.replicate (if its.toArray.isEmpty = true then 0 else k.toNat) its.toArray) = (List.replicate k.toNat its).flatten.toArray := by
  have f0 : ∀ m : Nat, List.foldl (fun x1 x2 => x1 ++ x2) #[] (List.replicate m its.toArray) = (List.replicate m its).flatten.toArray := fun m => by
   have := foldl_rep its m []
   rw [List.nil_append] at this
   exact this
  rw [f0]
  cases its with
  | nil => simp
  | cons a r' => rw [Qat (by simp)]
 refine wpAny_binaryOp_repeat_ref (T := "list") (U := "int") (by decide) ⟨_, e, rfl⟩ (fun s' => typeIs_int s' k t) noFill_list_mul F.fills_int_mul F.slot_int_rmul repeat_list F.slot_int_index.lookup
  (call_meets F.slot_int_rmul (typeIs_int s k t) F.entry_int_rmul (F.args_int_rmul_2 _ _) (int___rmul___int_list k t l its.toArray n)
   ⟨e, rfl, ⟨_, e, rfl⟩, call_meets F.slot_list_mul ⟨_, e, rfl⟩ F.entry_list_mul (F.args_list_mul_2 _ _) (AutoListH.list___mul___list_int_3 l its.toArray n k t hfit hcap hlong) ⟨e, ?_⟩⟩)
 rw [hnew]
 exact ⟨.ref _, _, I.lnew (t' := s.toks) (r.rep k.toNat) (by rw [PyProof.Rows.lm_len_rep_flat, Nat.mul_comm]; exact hz), rfl, q _ I.fresh⟩
theorem RVs.rep {K : KW} {φ : Nat -> Addr} {n : Nat} {H : Hp} {ds : List D} {vs : List V} (h : RVs K φ n H ds vs) : ∀ m : Nat, RVs K φ n H (List.replicate m ds).flatten (List.replicate m vs).flatten
 | 0 => .nil
 | m + 1 => by
  rw [List.replicate_succ, List.replicate_succ, List.flatten_cons, List.flatten_cons]
  exact h.append (RVs.rep h m)
theorem Z08 (op : Operator) : OpR X (binaryOp op) (rOp X.kw (Zht op)) := by
 intro pins s σ H x y v u Q I rx ry ⟨φ, S, dx, dy, d, r, hx, hy, h, k⟩
 simp only [Zht] at h
 split at h
 ·have ex := hx.int; have ey := hy.int; subst ex ey; cases h
  exact op_add pins s σ H _ _ v u Q I rx ry ⟨_, _, rfl, rfl, k.now r (.int _)⟩
 ·have ex := hx.str; have ey := hy.str; subst ex ey
  split at h
  ·rename_i hz
   cases h
   exact op_add_str pins s σ H _ _ v u Q I rx ry ⟨_, _, rfl, rfl, hz, k.now r (.str _)⟩
  ·cases h
 ·rename_i xs ys
  obtain ⟨a, vs, rfl, ex, sx⟩ := hx.tup
  obtain ⟨b, ws, rfl, ey, sy⟩ := hy.tup
  split at h
  ·rename_i hz
   cases h
   rw [<- sx.length, <- sy.length] at hz
   refine Znn pins s σ H _ _ v u Q I rx ry ⟨_, _, _, _, rfl, rfl, ex.sq, ey.sq, hz, fun e0 => ?_, fun _ e0 => ?_, fun _ _ p hp => ?_⟩
   ·subst e0
    cases sx
    exact k.now r (.tup ey sy)
   ·subst e0
    cases sy
    rw [Qa5] at k
    exact k.now r (.tup ex sx)
   ·exact Zvy r (sx.append sy) hp k
  ·cases h
 ·rename_i xs ys
  obtain ⟨a, vs, rfl, ex, sx⟩ := hx.tup
  have hy2 := hy
  obtain ⟨b, ws, rfl, ey, sy⟩ := hy.wt'
  split at h
  ·rename_i hz
   obtain ⟨hz1, hz⟩ := hz
   have hy0 : ys = [] := by cases ys <;> simp at hz1 ⊢
   subst hy0
   have hyr : RV X.kw φ S.nx H (.wt []) (.ref b) := by
    cases hy2 with
    | of q => exact q
   cases sy
   rw [<- sx.length] at hz
   refine Znn pins s σ H _ _ v u Q I rx ry ⟨_, _, _, _, rfl, rfl, ex.sq, ey, by simpa using hz, fun e0 => ?_, fun e0 _ => ?_, fun _ e0 _ _ => absurd rfl e0⟩
   ·subst e0
    cases sx
    cases h
    exact k.now r hyr
   ·have : xs.isEmpty = false := by
     cases sx with
     | nil => exact absurd rfl e0
     | cons _ _ => rfl
    rw [this] at h
    cases h
    exact k.now r (.tup ex sx)
  ·cases h
 ·rename_i xs ys
  obtain ⟨a, vs, rfl, ex, sx⟩ := hx.list
  obtain ⟨b, ws, rfl, ey, sy⟩ := hy.list
  split at h
  ·rename_i hz
   cases h
   rw [<- sx.length, <- sy.length] at hz
   exact Zf5 (Zv0 pins s σ H _ _ v u _ I rx ry ⟨_, _, _, _, rfl, rfl, ex, ey, hz, fun p hp => Z0h r (sx.append sy) hp k⟩)
  ·cases h
 ·have ex := hx.int; have ey := hy.int; subst ex ey; cases h
  exact op_sub pins s σ H _ _ v u Q I rx ry ⟨_, _, rfl, rfl, k.now r (.int _)⟩
 ·have ex := hx.int; have ey := hy.int; subst ex ey
  split at h
  ·rename_i hz
   cases h
   exact op_mul pins s σ H _ _ v u Q I rx ry ⟨_, _, rfl, rfl, hz, k.now r (.int _)⟩
  ·cases h
 ·rename_i xs nn
  obtain ⟨a, vs, rfl, ex, sx⟩ := hx.list
  have ey := hy.int; subst ey
  split at h
  ·rename_i hz
   cases h
   rw [<- sx.length] at hz
   exact Zf5 (Zv1 pins s σ H _ _ v u _ I rx ry ⟨_, _, _, rfl, rfl, ex, hz.1, hz.2.1, hz.2.2, fun p hp => Z0h r (sx.rep _) hp k⟩)
  ·cases h
 ·rename_i xs nn
  obtain ⟨a, vs, rfl, ex, sx⟩ := hx.tup
  have ey := hy.int; subst ey
  split at h
  ·rename_i hz
   cases h
   have hz' := hz
   rw [<- sx.length] at hz
   refine Zvx pins s σ H _ _ v u Q I rx ry ⟨_, _, _, rfl, rfl, ex.sq, hz.1, hz.2.1, hz.2.2, fun e0 => ?_, fun p hp => Zvy r (sx.rep _) hp k⟩
   have e : (List.replicate nn.toNat xs).flatten = xs := by
    rcases e0 with e0 | e0
    ·subst e0
     cases sx
     simp
    ·subst e0
     simp
   rw [e] at k
   exact k.now r (.tup ex sx)
  ·cases h
 ·have ex := hx.str; have ey := hy.int; subst ex ey
  split at h
  ·rename_i hz
   cases h
   obtain ⟨t, rfl⟩ := rx
   obtain ⟨t', rfl⟩ := ry
   exact Zvz hz (fun tk => ⟨.str _, H, I.tok _, ⟨_, rfl⟩, k.now r (.str _)⟩)
  ·cases h
 ·have ex := hx.int; have ey := hy.int; subst ex ey
  split at h
  ·rename_i hz
   cases h
   exact op_fdivN pins s σ H _ _ v u Q I rx ry ⟨_, _, rfl, rfl, hz, k.now r (.int _)⟩
  ·cases h
 ·have ex := hx.int; have ey := hy.int; subst ex ey
  split at h
  ·rename_i hz
   cases h
   exact op_modN pins s σ H _ _ v u Q I rx ry ⟨_, _, rfl, rfl, hz, k.now r (.int _)⟩
  ·cases h
 ·have ex := hx.int; have ey := hy.int; subst ex ey; cases h
  exact op_xor pins s σ H _ _ v u Q I rx ry ⟨_, _, rfl, rfl, k.now r (.int _)⟩
 ·have ex := hx.bl; have ey := hy.bl; subst ex ey; cases h
  cases rx; cases ry
  exact xor_bool ⟨.bl _, H, I, rfl, k.now r (.bl _)⟩
 ·have ex := hx.int; have ey := hy.int; subst ex ey
  split at h
  ·rename_i hz
   cases h
   exact op_pow pins s σ H _ _ v u Q I rx ry ⟨_, _, rfl, rfl, hz, k.now r (.int _)⟩
  ·cases h
 ·cases h
end
end My
namespace My
open PySem PySem.Spec PyProof.Rows L2
variable [CP] [TC]
section
variable {X : Cx}
def Z88 (t : TA) : TE := fun σ H Q => t σ H fun xs H1 => xs.length <= sizeLine /\ ∀ p, H1 p = none -> ∀ o : Obj, o.dict = none -> Q (.ref p) (upd H1 p (.frz o (.tup xs)))
theorem Zjd {es : List Expr} {t : TA} {pos : Pos} {x1} (h : PA X es t) : PE X (.Tuple es x1 pos) (Z88 t) := by
 refine ⟨fun pins s σ H Q I hq => ?_⟩
 refine wpAny_Tuple_spliced (thn (h.run pos pins s σ H _ I hq) fun us s1 ⟨xs, H1, I1, r, z, q⟩ => ⟨by rw [<- r.length]; exact z, ?_⟩)
 exact ⟨.ref s1.heap.objs.size, _, Zjc (t' := s1.toks) I1 z r, rfl, q _ (I1.hok.fresh (Qao _)) _ rfl⟩
theorem Zc8 : CallR X (.type "tuple") (fun xs H Q => ∃ p ys, xs = [.ref p] /\ ((SqL X.kw H p ys /\ ∀ l, H l = none -> ∀ o : Obj, o.dict = none -> Q (.ref l) (upd H l (.frz o (.tup ys)))) \/ (SqT X.kw H p ys /\ Q (.ref p) H))) := by
 intro pins s σ H xs us Q I r h
 obtain ⟨p, ys, rfl, h⟩ := h
 obtain ⟨u, rfl, rx⟩ := vals1 r
 cases rx
 rcases h with ⟨hq, q⟩ | ⟨hq, q⟩
 ·obtain ⟨its, r', pl, hz⟩ := I.list hq
  have hlen := r'.length
  refine call_tuple_list pl.isList (fun h' kp => ?_) (by simp only [Qa6] <;> omega)
  have I1 : Inv X pins σ H { s with heap := h' } := I.kept (t' := s.toks) kp
  exact ⟨.ref h'.objs.size, _, Zjc (t' := s.toks) I1 hz r', rfl, q _ (I1.hok.fresh (Qao _)) _ rfl⟩
 ·obtain ⟨its, r', pl, hz⟩ := I.tuple hq
  exact call_tuple_same pl ⟨.ref p, H, I, rfl, q⟩
def Yf1 (K : KW) : V -> Option Int -> Option Int -> Hp -> VK -> Prop := fun x lo hi H Q => ∃ a xs, x = .ref a /\ SqT K H a xs /\
 (HT.sIx xs.length 0 lo = 0 /\ HT.sIx xs.length xs.length hi = xs.length -> Q (.ref a) H) /\ (¬ (HT.sIx xs.length 0 lo = 0 /\ HT.sIx xs.length xs.length hi = xs.length) -> ∀ p, H p = none -> ∀ o : Obj, o.dict = none -> Q (.ref p) (upd H p (.frz o (.tup (cutV xs lo hi)))))
theorem Zv2 : SlR X (Yf1 X.kw) := by
 intro pins s σ H x v vl vu lo hi sl Q I rx hs pl pu h
 obtain ⟨a, xs, rfl, hx, q1, q2⟩ := h
 cases rx
 obtain ⟨its, r, ht, hz⟩ := I.tuple hx
 have hlen : its.toArray.size = xs.length := by rw [Qa6]; exact r.length.symm
 refine ⟨"tuple", _, PyProof.Rows.slot_tuple_getitem.lookup, ht.typeIs, ?_⟩
 by_cases hw : HT.sIx xs.length 0 lo = 0 /\ HT.sIx xs.length xs.length hi = xs.length
 ·exact getItem_tuple_whole ht hs pl pu (by rw [hlen]; exact hw) ⟨.ref a, H, I, rfl, q1 hw⟩
 ·refine HT.getItem_tuple_cut ht hs pl pu (by rw [hlen]; exact hw) ?_ (by rw [hlen]; exact hz)
  rw [hlen]
  exact ⟨.ref s.heap.objs.size, _, Zjc (t' := s.toks) I (Qaw (cutV_length xs lo hi) hz) ((r.drop (HT.sIx xs.length 0 lo)).take (HT.sIx xs.length xs.length hi - HT.sIx xs.length 0 lo)), rfl, q2 hw _ (I.hok.fresh (Qao _)) _ rfl⟩
end
end My
namespace My
open PySem PySem.Spec PyProof.Rows L2
section
variable {X : Cx} {o e : Expr} {es : List Expr} {to : TE} {t : TA} {name : Str} {apos cpos : Pos} {id : String} {r : V -> List V -> Hp -> VK -> Prop}
def tyX (x : V) (H : Hp) : Prop := ∃ a xs, x = .ref a /\ TX H a xs
theorem Z09 {pins : List (Addr × Obj)} {σ : L2.St} {H : Hp} {s : Shared} {x : V} {v : Value} (I : Inv X pins σ H s) (r : RelV x v) (ty : tyX x H) :
  s.TypeIs v "tuple" /\ ∀ a, v = .ref a -> ∃ ob, s.heap.get? a = some ob /\ ob.dict = none := by
 obtain ⟨a, xs, rfl, o, h, hd⟩ := ty
 cases r
 obtain ⟨e, _, its, _, o2, ho, hc, n, hdt⟩ := (show ObjOk X.prog X.w H s.heap a (.frz o (.tup xs)) from I.hok a _ h)
 refine ⟨⟨o2, ho, hc⟩, fun b z => ?_⟩
 cases z
 exact ⟨o, e, hd⟩
def tyG (X : Cx) (T : String) (x : V) (H : Hp) : Prop := ∀ (pins : List (Addr × Obj)) (σ : L2.St) (s : Shared) (v : Value), Inv X pins σ H s -> RelV x v -> s.TypeIs v T /\ ∀ a, v = .ref a -> ∃ ob, s.heap.get? a = some ob /\ ob.dict = none
theorem tyG.of {T : String} {x : V} {H : Hp} (h : tyV X.K T x H) : tyG X T x H := fun _ _ _ _ I r => tyV_is I r h
theorem tyG.tx {x : V} {H : Hp} (h : tyX x H) : tyG X "tuple" x H := fun _ _ _ _ I r => Z09 I r h
def Yc1 (X : Cx) (T : String) (r : V -> List V -> Hp -> VK -> Prop) (to : TE) : TE := fun σ H Q => to σ H fun x H1 => tyG X T x H1 /\ r x [] H1 Q
def tBG (X : Cx) (T : String) (r : V -> List V -> Hp -> VK -> Prop) (to : TE) (t : TA) : TE := fun σ H Q => to σ H fun x H1 => tyG X T x H1 /\ t σ H1 fun xs H2 => r x xs H2 Q
variable {T : String}
theorem Zf6 (pa : PlainAttrs T) (slot : Slot T name id) (hty : typeOf (.builtin id) = pure (.type "method_descriptor")) (hm : MtR X id r) (ho : PE X o to)
  (hbase : attributeBase o name X.env (eval o X.env) = eval o X.env := by rfl) (hline : (apos.endLine == cpos.line) = true := by rfl) : PE X (.Call (.Attribute o name apos) [] [] cpos) (Yc1 X T r to) := by
 refine ⟨fun pins s σ H Q I h => ?_⟩
 refine wpAny_Call_method0_late hbase hline (thn (ho.run pins s σ H _ I h) fun v s1 ⟨x, H1, I1, r1, ty, q1⟩ => ?_)
 obtain ⟨h1, h2⟩ := ty _ _ _ _ I1 r1
 exact ⟨T, id, pa, slot, hty, h1, h2, Calls.callWith_builtin rfl (PySem.evalArgs_none (hm pins s1 σ H1 x [] v [] Q I1 r1 .nil q1))⟩
theorem Zc6 (pa : PlainAttrs T) (slot : Slot T name id) (hty : typeOf (.builtin id) = pure (.type "method_descriptor")) (hm : MtR X id r) (ho : PE X o to) (ha : PA X (e :: es) t)
  (hbase : attributeBase o name X.env (eval o X.env) = eval o X.env := by rfl)
  (hfew : ((backTo cpos (starEach (e :: es) X.env)).all (fun x => !x.1) && (backToKw cpos (keywordEach [] X.env)).all (fun x => x.1.isSome)
   && decide ((e :: es).length + ([] : List Keyword).length + (if ([] : List Keyword).isEmpty then 0 else 1) < 30)) = true := by rfl)
  (hline : (apos.endLine == cpos.line) = true := by rfl) (hs : starEach (e :: es) X.env = (false, eval e X.env) :: starEach es X.env := by rfl) (hplain : (backTo cpos (starEach es X.env)).any (·.1) = false := by rfl) :
  PE X (.Call (.Attribute o name apos) (e :: es) [] cpos) (tBG X T r to t) := by
 refine ⟨fun pins s σ H Q I h => ?_⟩
 refine wpAny_Call_method_late hbase hfew hline rfl (thn (ho.run pins s σ H _ I h) fun v s1 ⟨x, H1, I1, r1, ty, q1⟩ => ?_)
 obtain ⟨h1, h2⟩ := ty _ _ _ _ I1 r1
 refine ⟨T, id, pa, slot, hty, h1, h2, ?_⟩
 have hA := ha.run cpos pins s1 σ H1 _ I1 q1
 rw [hs] at hA ⊢
 refine Calls.callWith_builtin (by show (false || (backTo cpos (starEach es X.env)).any (·.1)) = false; rw [hplain] <;> rfl) (Calls.evalArgs_plain ?_)
 exact thn hA fun us s2 ⟨vs, H2, I2, r2, q2⟩ => hm pins s2 σ H2 x vs v us Q I2 r1 r2 q2
end
end My
namespace My
open PySem PySem.Spec PyProof.Rows L2 DT
variable [CP] [TC]
abbrev KX : List (NestedKey × Addr × V) -> List (NestedKey × Addr × Value) -> Prop := Paired fun p q => p.1 = q.1 /\ p.2.1 = q.2.1 /\ RelV p.2.2 q.2.2
theorem KX.val {ks : List (NestedKey × Addr × V)} {xs : List (NestedKey × Addr × Value)} (r : KX ks xs) (k : NestedKey) : RelO (valV (ks.map noB) k) ((atKey xs k).map (·.2)) := by
 induction r with
 | nil => exact True.intro
 | @cons p q ps qs h t ih =>
  obtain ⟨h1, _, h2⟩ := h
  rw [Qaj]
  by_cases e : p.1 = k
  ·have e' : q.1 = k := h1.symm.trans e
   have b : atKey (q :: qs) k = some q.2 := by simp [atKey, List.find?_cons, e']
   rw [valV_pos (show (noB p).1 = k from e), b]; exact h2
  ·have e' : ¬ q.1 = k := fun z => e (h1.trans z)
   have b : atKey (q :: qs) k = atKey qs k := by simp [atKey, List.find?_cons, e']
   rw [valV_neg (show ¬ (noB p).1 = k from e), b]; exact ih
def Zd1 (ks : List (NestedKey × Addr × V)) (k : NestedKey) (b : Addr) (v : V) : List (NestedKey × Addr × V) :=
 if (valV (ks.map noB) k).isSome = true then ks.map (fun p => if p.1 = k then (p.1, p.2.1, v) else p) else ks ++ [(k, b, v)]
def Zje (ks : List (NestedKey × Addr × V)) (k : NestedKey) : List (NestedKey × Addr × V) := ks.filter fun p => decide (p.1 ≠ k)
theorem KX.put {ks : List (NestedKey × Addr × V)} {xs : List (NestedKey × Addr × Value)} (r : KX ks xs) (k : NestedKey) {b : Addr} {y : V} {u : Value} (ry : RelV y u) : KX (Zd1 ks k b y) (storedH xs k b u) := by
 have e : (valV (ks.map noB) k).isSome = (atKey xs k).isSome := by
  rw [(r.val k).isSome_eq, Option.isSome_map]
 unfold Zd1 storedH
 rw [e]
 by_cases q : (atKey xs k).isSome = true
 ·rw [Qan q, Qan q]
  clear e q
  induction r with
  | nil => exact .nil
  | @cons p q ps qs h t ih =>
   rw [Qaj, Qaj]
   refine .cons ?_ ih
   obtain ⟨h1, h2, h3⟩ := h
   unfold putAt
   by_cases e : p.1 = k
   ·rw [Qan e, Qan (h1.symm.trans e)]; exact ⟨h1, h2, ry⟩
   ·rw [Qat e, Qat (fun z => e (h1.trans z))]; exact ⟨h1, h2, h3⟩
 ·rw [Qat q, Qat q]; exact Paired.snoc r ⟨rfl, rfl, ry⟩
theorem KX.drop {ks : List (NestedKey × Addr × V)} {xs : List (NestedKey × Addr × Value)} (r : KX ks xs) (k : NestedKey) : KX (Zje ks k) (dropH xs k) := by
 unfold Zje dropH
 induction r with
 | nil => exact .nil
 | @cons p q ps qs h t ih =>
  obtain ⟨h1, h2⟩ := h
  rw [List.filter_cons, List.filter_cons]
  by_cases e : p.1 = k
  ·have a : ¬ decide (p.1 ≠ k) = true := by simp [e]
   have b : ¬ decide (q.1 ≠ k) = true := by simp [h1.symm.trans e]
   rw [Qat a, Qat b]; exact ih
  ·have e' : ¬ q.1 = k := fun z => e (h1.trans z)
   have a : decide (p.1 ≠ k) = true := by simp [e]
   have b : decide (q.1 ≠ k) = true := by simp [e']
   rw [Qan a, Qan b]; exact .cons ⟨h1, h2⟩ ih
theorem Zjf (ks : List (NestedKey × Addr × V)) (k : NestedKey) (b : Addr) (v : V) : (Zd1 ks k b v).map noB = putK (ks.map noB) k v := by
 unfold Zd1 putK
 rw [valV_any]
 split
 ·rw [Qbm, Qbm]
  refine List.map_congr_left fun p _ => ?_
  show noB (if p.1 = k then (p.1, p.2.1, v) else p) = if (noB p).1 = k then ((noB p).1, v) else noB p
  by_cases e : p.1 = k
  ·rw [Qan e, Qan (show (noB p).1 = k from e)]; rfl
  ·rw [Qat e, Qat (show ¬ (noB p).1 = k from e)]
 ·rw [List.map_append]; rfl
theorem Zq9 (ks : List (NestedKey × Addr × V)) (k : NestedKey) : (Zje ks k).map noB = dropK (ks.map noB) k := by
 unfold Zje dropK
 rw [List.filter_map]
 rfl
theorem KA.put {H : Hp} {ks : List (NestedKey × Addr × V)} (h : KA H ks) {k : NestedKey} {b : Addr} {v : V} (hb : KN H k b) : KA H (Zd1 ks k b v) := by
 unfold Zd1
 split
 ·intro p hp
  obtain ⟨q, hq, rfl⟩ := Qa2.mp hp
  by_cases e : q.1 = k
  ·rw [Qan e]; exact h q hq
  ·rw [Qat e]; exact h q hq
 ·intro p hp
  rcases Qbh.mp hp with hp | hp
  ·exact h p hp
  ·rw [Qbe.mp hp]; exact hb
theorem KA.drop {H : Hp} {ks : List (NestedKey × Addr × V)} (h : KA H ks) (k : NestedKey) : KA H (Zje ks k) := fun p hp => h p ((List.mem_filter.mp hp).1)
theorem Zgy (ks : List (NestedKey × Addr × V)) (k : NestedKey) (b : Addr) (v : V) : (Zd1 ks k b v).length <= ks.length + 1 := by
 unfold Zd1
 split
 ·rw [Qal]; omega
 ·rw [Qbd]; exact Qao _
theorem XT.ok {P : Program} {w : World} {H : Hp} {h : Heap} {a : Addr} {ks : List (NestedKey × Addr × V)} (x : XP P w a ks h) : ObjOk P w H h a (XT P w a ks) := by
 obtain ⟨z, hs, xs, r, o, es, ep, h1, h2, h3, h4, h5⟩ := x
 refine ⟨⟨z, hs, xs, r, o, es, ep, h1, h2, h3, h4, h5⟩, ⟨o, h1⟩, fun ha hb x k => ?_⟩
 obtain ⟨z, hs, xs, r, o, es, ep, h1, h2, h3, h4, h5⟩ := x
 exact ⟨z, hs, xs, r, o, es, ep, k o h1, h2, h3, h4, h5⟩
section
variable {X : Cx} {pins : List (Addr × Obj)} {σ : L2.St} {H : Hp} {s : Shared}
mutual
theorem KVn.is (I : Inv X pins σ H s) : ∀ {k : NestedKey} {v : V} {u : Value}, KVn H k v -> RelV v u -> NestedIs s.heap k u
 | _, _, _, .num i, r => by
  obtain ⟨t, rfl⟩ := (show ∃ t, _ from r)
  exact .int i t
 | _, _, _, .text z, r => by
  obtain ⟨t, rfl⟩ := (show ∃ t, _ from r)
  exact .text z t
 | _, _, _, .tup e t, r => by
  obtain ⟨_, its, r1, o, h1, h2, n, h3⟩ := e.ok I
  cases r
  exact .tup h1 h2 h3 (KVns.is I t (by simpa using r1))
theorem KVns.is (I : Inv X pins σ H s) : ∀ {k : List NestedKey} {v : List V} {u : List Value}, KVns H k v -> Vals v u -> NestedAll s.heap k u
 | _, _, _, .nil, r => by cases r; exact .nil
 | _, _, _, .cons a t, r => by
  cases r with
  | cons r1 r2 => exact .cons (KVn.is I a r1) (KVns.is I t r2)
end
end
theorem Ze8 {P : Program} {w : World} {A : Around} (hu : A.units + 10 < cLine) : (nestedKind P w).room A.in1 := by
 show A.units + 1 + 8 < cLine
 omega
section
variable {X : Cx} {pins : List (Addr × Obj)} {σ : L2.St} {H : Hp} {s : Shared} {a b : Addr} {k : NestedKey} {ks : List (NestedKey × Addr × V)} {v : V} {u r : Value} {A : Around} {E : Value -> Shared -> Prop}
theorem Zcl (I : Inv X pins σ H s) (e : KN H k a) : (nestedKind X.prog X.w).is s.heap k a := ⟨(e.2.is I rfl), e.1⟩
theorem Zmd (I : Inv X pins σ H s) (e : Rd H a (XT X.prog X.w a ks)) (ka : KA H ks) : ks.length <= sizeLine /\ (a == sysModules) = false /\ ∃ xs, KX ks xs /\ s.heap.DictOfH (nestedKind X.prog X.w) a xs := by
 obtain ⟨⟨z, hs, xs, r, o, es, ep, h1, h2, h3, h4, h5⟩, _⟩ := (show ObjOk X.prog X.w H s.heap a (XT X.prog X.w a ks) from rd_of I.hok e)
 refine ⟨z, hs, xs, r, o, es, ep, h1, h2, h3, h4, fun x hx => ?_, h5⟩
 have all : ∀ {l : List (NestedKey × Addr × V)} {m : List (NestedKey × Addr × Value)}, KX l m -> (∀ p ∈ l, KN H p.1 p.2.1) -> ∀ x ∈ m, (nestedKind X.prog X.w).is s.heap x.1 x.2.1 := by
  intro l m q
  induction q with
  | nil => intro _ x hx; exact nomatch hx
  | @cons p q ps qs hq t ih =>
   intro hl x hx
   rcases Qaf.mp hx with e | hx
   ·subst e
    refine Zcl I ?_
    rw [<- hq.1, <- hq.2.1]
    exact hl p Qag
   ·exact ih (fun p hp => hl p (Qae _ hp)) x hx
 exact all r ka x hx
theorem Znq {Q : Value -> Shared -> Prop} (hu : A.units + 10 < cLine) (I : Inv X pins σ H s) (e : Rd H a (XT X.prog X.w a ks)) (ka : KA H ks) (eb : KN H k b) (l : valV (ks.map noB) k = some v) (h : ∀ w' s', Inv X pins σ H s' -> RelV v w' -> Q w' s') :
  wpAny (model X.prog X.w) A (getItem (.ref a) (.ref b)) Q E s := by
 obtain ⟨z, hd, xs, rel, dd⟩ := Zmd I e ka
 obtain ⟨w', hw, rw'⟩ := RelO.some_of (v := v) (o := (atKey xs k).map (·.2)) (by rw [<- l]; exact rel.val k)
 obtain ⟨p, hp, hp2⟩ := Qad.mp hw
 refine wpAny_getItem_heap (Ze8 hu) (Zcl I eb) dd hp ?_
 rw [hp2]
 exact h w' _ (I.tok _) rw'
theorem Yf2 {Q : Value -> Shared -> Prop} (hu : A.units + 10 < cLine) (I : Inv X pins σ H s) (e : Rd H a (XT X.prog X.w a ks)) (ka : KA H ks) (eb : KN H k b) (h : ∀ s', Inv X pins σ H s' -> Q (.bool (valV (ks.map noB) k).isSome) s') :
  wpAny (model X.prog X.w) A (compareOp .In (.ref b) (.ref a)) Q E s := by
 obtain ⟨z, hd, xs, rel, dd⟩ := Zmd I e ka
 refine wpAny_in_heap (Ze8 hu) (Zcl I eb) hd dd ?_
 have q := (rel.val k).isSome_eq
 rw [Option.isSome_map] at q
 rw [<- q]
 exact h _ (I.tok _)
theorem Zv3 {Q : Value -> Shared -> Prop} (hu : A.units + 10 < cLine) (I : Inv X pins σ H s) (e : Rd H a (XT X.prog X.w a ks)) (ka : KA H ks) (eb : KN H k b) (h : ∀ s', Inv X pins σ H s' -> Q (.bool (!(valV (ks.map noB) k).isSome)) s') :
  wpAny (model X.prog X.w) A (compareOp .NotIn (.ref b) (.ref a)) Q E s := by
 obtain ⟨z, hd, xs, rel, dd⟩ := Zmd I e ka
 refine wpAny_notIn_heap (Ze8 hu) (Zcl I eb) hd dd ?_
 have q := (rel.val k).isSome_eq
 rw [Option.isSome_map] at q
 rw [<- q]
 exact h _ (I.tok _)
theorem Z1a : Mut (some (XT X.prog X.w a ks)) := True.intro
theorem Znr {Q : Unit -> Shared -> Prop} (hu : A.units + 10 < cLine) (I : Inv X pins σ H s) (e : H a = some (XT X.prog X.w a ks)) (ka : KA H ks) (eb : KN H k b) (l : ks.length < sizeLine) (rv : RelV v r)
  (h : ∀ s', Inv X pins σ (upd H a (XT X.prog X.w a (Zd1 ks k b v))) s' -> Q () s') : wpAny (model X.prog X.w) A (setItem (.ref a) (.ref b) r) Q E s := by
 obtain ⟨z, hd, xs, rel, dd⟩ := Zmd I (.inl e) ka
 have hz : xs.length <= sizeLine := by rw [<- Paired.length rel]; exact z
 have hl : (Zd1 ks k b v).length <= sizeLine := by have := Zgy ks k b v; omega
 refine wpAny_setItem_heap (hsz := hz) (Ze8 hu) (Zcl I eb) dd fun h' dd' hs => h _ ?_
 obtain ⟨q, es, ep, hq, h2, h3, h4, _, h5⟩ := dd'
 exact d_write I (by rw [e]; exact True.intro) hs ⟨q, hq⟩ (XT.ok ⟨hl, hd, _, rel.put k rv, q, es, ep, hq, h2, h3, h4, h5⟩)
def Z89 (X : Cx) : TE := fun _ H Q => ∀ p, H p = none -> Q (.ref p) (upd H p (XT X.prog X.w p []))
theorem Zv4 {pos : Pos} : PE X (.Dict [] [] pos) (Z89 X) := ⟨fun pins s σ H Q I h =>
 wpAny_Dict_empty ⟨.ref s.heap.objs.size, _, I.laid (a := s.heap.objs.size) (o := XT X.prog X.w s.heap.objs.size []) (t' := s.toks) (fun _ _ q => Qam _ q) (Qao _)
  (XT.ok ⟨Qax _, beq_eq_false_iff_ne.mpr (Ne.symm (Qbg I.big)), [], .nil, _, #[], 0, Qa0 _ rfl, ⟨rfl, rfl, rfl⟩, rfl, rfl, List.nodup_nil⟩), rfl, h _ (I.hok.fresh (Qao _))⟩⟩
theorem Zns (I : Inv X pins σ H s) (e : Rd H a (XT X.prog X.w a ks)) : s.TypeIs (.ref a) "dict" /\ ∃ ob, s.heap.get? a = some ob /\ ob.dict = none := by
 obtain ⟨⟨z, hs, xs, r, o, es, ep, h1, h2, _⟩, _⟩ := (show ObjOk X.prog X.w H s.heap a (XT X.prog X.w a ks) from rd_of I.hok e)
 exact ⟨⟨o, h1, h2.1⟩, o, h1, h2.2.1⟩
theorem tyG.xt (e : Rd H a (XT X.prog X.w a ks)) : tyG X "dict" (.ref a) H := fun _ _ _ _ I r => by
 cases r
 obtain ⟨h1, ob, h2, h3⟩ := Zns I e
 exact ⟨h1, fun b z => by cases z; exact ⟨ob, h2, h3⟩⟩
end
end My
namespace My
open PySem PySem.Spec PyProof.Rows L2
variable [CP] [TC]
def Za1 (h : Heap) (as : List Addr) : Prop := ∀ b ∈ as, ∀ o, h.get? b = some o -> o.cls = .type "dict" -> (b == sysModules) = false
theorem Za1.nil {h : Heap} : Za1 h [] := fun b hb => nomatch hb
theorem Za1.app {h : Heap} {as bs : List Addr} (x : Za1 h as) (y : Za1 h bs) : Za1 h (as ++ bs) := fun b hb => (Qbh.mp hb).elim (x b) (y b)
theorem Za1.left {h : Heap} {as bs : List Addr} (x : Za1 h (as ++ bs)) : Za1 h as := fun b hb => x b (Qa7 _ hb)
theorem Za1.right {h : Heap} {as bs : List Addr} (x : Za1 h (as ++ bs)) : Za1 h bs := fun b hb => x b (Qbf _ hb)
theorem Za1.tail {h : Heap} {a : Addr} {as : List Addr} (x : Za1 h (a :: as)) : Za1 h as := fun b hb => x b (Qae _ hb)
theorem Za1.cons {h : Heap} {a : Addr} {as : List Addr} (y : ∀ o, h.get? a = some o -> o.cls = .type "dict" -> (a == sysModules) = false) (x : Za1 h as) : Za1 h (a :: as) := fun b hb => (Qaf.mp hb).elim (fun e => e ▸ y) (x b)
section
variable {X : Cx} {pins : List (Addr × Obj)} {σ : L2.St} {H : Hp} {s : Shared} {φ : Nat -> Addr} {n : Nat}
theorem Zb4 {f : D -> Option PyData} (ih : ∀ d p v u, f d = some p -> RV X.kw φ n H d v -> RelV v u -> ∃ as, Reads s.heap u p as /\ Za1 s.heap as) :
  ∀ (ds : List D) (ps : List PyData) (vs : List V) (us : List Value), Zbv f ds = some ps -> RVs X.kw φ n H ds vs -> Vals vs us -> ∃ as, ReadsAll s.heap us ps as /\ Za1 s.heap as
 | [], ps, _, _, e, .nil, r => by
  cases e
  cases r
  exact ⟨_, ReadsAll.nil, .nil⟩
 | d :: ds, ps, _, _, e, .cons a t, r => by
  obtain ⟨p, q, h1, h2, rfl⟩ := Zbd e
  cases r with
  | cons r1 r2 =>
   obtain ⟨as, z1, n1⟩ := ih d p _ _ h1 a r1
   obtain ⟨bs, z2, n2⟩ := Zb4 ih ds q _ _ h2 t r2
   exact ⟨_, ReadsAll.cons z1 z2, n1.app n2⟩
theorem Znt {P : Program} {w : World} {k : Key} {v : Value} {h : Heap} (e : (mixKind P w).is k v = true) : Reads h v (Zfu k) [] := by
 rw [mixKind_is] at e
 rcases keyIs_shape e with ⟨i, t, rfl, rfl⟩ | ⟨x, t, rfl, rfl⟩
 ·exact .int i t
 ·exact .str x t
theorem Zf7 {P : Program} {w : World} {h : Heap} : ∀ {es : List DictEntry} {kvs : List (Key × Value)}, Pairs (mixKind P w) es kvs -> ∃ as, ReadsAll h (es.map (·.key)) (kvs.map fun q => Zfu q.1) as /\ Za1 h as
 | _, _, .nil => ⟨_, .nil, .nil⟩
 | _, _, .cons h1 h2 t => by
  obtain ⟨as, z, nz⟩ := Zf7 t
  exact ⟨_, .cons (Znt h1) z, Za1.nil.app nz⟩
theorem Zf8 {f : D -> Option PyData} : ∀ {ds : List (Key × D)} {ps : List (Key × PyData)}, Zqz f ds = some ps -> Zbv f (ds.map (·.2)) = some (ps.map (·.2)) /\ ps.map (·.1) = ds.map (·.1)
 | [], ps, h => by cases h; exact ⟨rfl, rfl⟩
 | (k, d) :: ds, ps, h => by
  obtain ⟨p, t, h1, h2, rfl⟩ := Znp h
  obtain ⟨a, b⟩ := Zf8 h2
  refine ⟨?_, by simp [b]⟩
  simp only [Qaj, Zbv, h1, a]
theorem RKs.vals : ∀ {ds : List (Key × D)} {vs : List (Key × V)}, RKs X.kw φ n H ds vs -> RVs X.kw φ n H (ds.map (·.2)) (vs.map (·.2)) /\ vs.map (·.1) = ds.map (·.1)
 | _, _, .nil => ⟨.nil, rfl⟩
 | _, _, .cons a t => by
  obtain ⟨x, y⟩ := RKs.vals t
  exact ⟨.cons a x, by simp [y]⟩
theorem Zew : ∀ {vs : List (Key × V)} {us : List (Key × Value)}, KV vs us -> Vals (vs.map (·.2)) (us.map (·.2)) /\ us.map (·.1) = vs.map (·.1)
 | _, _, .nil => ⟨.nil, rfl⟩
 | _, _, .cons a t => by
  obtain ⟨x, y⟩ := Zew t
  exact ⟨.cons a.2 x, by simp [y, a.1]⟩
theorem Zf9 {P : Program} {w : World} : ∀ {es : List DictEntry} {kvs : List (Key × Value)}, Pairs (mixKind P w) es kvs -> es.map (·.val) = kvs.map (·.2)
 | _, _, .nil => rfl
 | _, _, .cons h1 h2 t => by simp [h2, Zf9 t]
theorem Zme {f : D -> Option PyData} (I : Inv X pins σ H s) (ih : ∀ d p v u, f d = some p -> RV X.kw φ n H d v -> RelV v u -> ∃ as, Reads s.heap u p as /\ Za1 s.heap as)
  {a : Addr} {vs : List (Key × V)} {ds : List (Key × D)} {ps : List (Key × PyData)} (hr : Rd H a (.dK vs)) (rs : RKs X.kw φ n H ds vs) (e : Zqz f ds = some ps) : ∃ as, Reads s.heap (.ref a) (.dict (ps.map fun p => (Zfu p.1, p.2))) as /\ Za1 s.heap as := by
 obtain ⟨_, hd, us, kv, o, es, ep, ho, hx, hdt, hk, hp, _⟩ := dk_rd I.hok hr
 obtain ⟨e1, e2⟩ := Zf8 e
 obtain ⟨r1, r2⟩ := rs.vals
 obtain ⟨k1, k2⟩ := Zew kv
 obtain ⟨as, z1, n1⟩ := Zf7 (h := s.heap) hp
 obtain ⟨bs, z2, n2⟩ := Zb4 (s := s) ih _ _ _ _ e1 r1 k1
 have ek : (us.map fun q => Zfu q.1) = ps.map fun q => Zfu q.1 := by
  have : us.map (·.1) = ps.map (·.1) := by rw [k2, r2, e2]
  have := congrArg (List.map Zfu) this
  simpa [Qbm, Function.comp_def] using this
 rw [ek] at z1
 rw [<- Zf9 hp] at z2
 refine ⟨_, Reads.dict ho hx.1 hdt (as := as) (bs := bs) ?_ ?_, Za1.app (Za1.cons (fun _ _ _ => hd) n1) n2⟩
 ·simpa [Qbm, Function.comp_def] using z1
 ·simpa [Qbm, Function.comp_def] using z2
theorem Zbr (I : Inv X pins σ H s) : ∀ (m : Nat) (d : D) (p : PyData) (v : V) (u : Value), deep m d = some p -> RN X.kw φ n H d v -> RelV v u -> ∃ as, Reads s.heap u p as /\ Za1 s.heap as := by
 intro m
 induction m with
 | zero =>
  intro d p v u e rv ru
  cases d with
  | non => have := rv.non; subst this; simp only [deep] at e; cases e; cases ru; exact ⟨_, Reads.none, .nil⟩
  | bl b => have := rv.bl; subst this; simp only [deep] at e; cases e; cases ru; exact ⟨_, Reads.bool b, .nil⟩
  | int i => have := rv.int; subst this; simp only [deep] at e; cases e; obtain ⟨t, rfl⟩ := ru; exact ⟨_, Reads.int i t, .nil⟩
  | str x => have := rv.str; subst this; simp only [deep] at e; cases e; obtain ⟨t, rfl⟩ := ru; exact ⟨_, Reads.str x t, .nil⟩
  | _ => simp [deep] at e
 | succ m ih =>
  intro d p v u e rv ru
  have ih' : ∀ d p v u, deep m d = some p -> RV X.kw φ n H d v -> RelV v u -> ∃ as, Reads s.heap u p as /\ Za1 s.heap as := fun d p v u h r q => ih d p v u h (.of r) q
  have tupC : ∀ {a : Addr} {vs : List V} {ds : List D} {ps : List PyData}, SqT X.kw H a vs -> RVs X.kw φ n H ds vs -> Zbv (deep m) ds = some ps -> RelV (.ref a) u -> ∃ as, Reads s.heap u (.tuple ps) as /\ Za1 s.heap as := fun {a vs ds ps} hs rs he ru => by
   cases ru
   obtain ⟨its, rv, ⟨o, ho, hc, k, hd⟩, _⟩ := I.tuple hs
   obtain ⟨as, hr, nr⟩ := Zb4 ih' ds ps _ its he rs rv
   exact ⟨_, Reads.tuple ho hc hd hr, nr⟩
  cases d with
  | non => have := rv.non; subst this; simp only [deep] at e; cases e; cases ru; exact ⟨_, Reads.none, .nil⟩
  | bl b => have := rv.bl; subst this; simp only [deep] at e; cases e; cases ru; exact ⟨_, Reads.bool b, .nil⟩
  | int i => have := rv.int; subst this; simp only [deep] at e; cases e; obtain ⟨t, rfl⟩ := ru; exact ⟨_, Reads.int i t, .nil⟩
  | str x => have := rv.str; subst this; simp only [deep] at e; cases e; obtain ⟨t, rfl⟩ := ru; exact ⟨_, Reads.str x t, .nil⟩
  | tup xs =>
   simp only [deep, Qad] at e
   obtain ⟨ps, e1, rfl⟩ := e
   obtain ⟨a, vs, rfl, h, rs⟩ := rv.tup
   exact tupC h.sq rs e1 ru
  | kt xs =>
   simp only [deep, Qad] at e
   obtain ⟨ps, e1, rfl⟩ := e
   obtain ⟨a, vs, rfl, h, rs⟩ := rv.kt'
   exact tupC (SqT.of h) rs e1 ru
  | wt xs =>
   simp only [deep, Qad] at e
   obtain ⟨ps, e1, rfl⟩ := e
   obtain ⟨a, vs, rfl, h, rs⟩ := rv.wt'
   exact tupC h rs e1 ru
  | wl xs =>
   simp only [deep, Qad] at e
   obtain ⟨ps, e1, rfl⟩ := e
   obtain ⟨a, vs, rfl, h, rs⟩ := rv.list
   cases ru
   obtain ⟨its, rv, ⟨o, k, ho, hc, _, hd⟩, _⟩ := I.list (SqL.rd h)
   obtain ⟨as, hr, nr⟩ := Zb4 ih' xs ps _ its e1 rs rv
   exact ⟨_, Reads.list ho hc hd hr, Za1.cons (fun o' h' c' => by
    rw [ho] at h'; cases h'
    rw [hc] at c'
    exact absurd (Value.type.inj c') (by decide)) nr⟩
  | wd kvs =>
   simp only [deep, Qad] at e
   obtain ⟨ps, e1, rfl⟩ := e
   obtain ⟨a, vs, rfl, h, rs⟩ := rv.dict
   cases ru
   exact Zme I ih' h rs e1
  | wT _ => simp [deep] at e
  | ks _ => simp [deep] at e
  | fn f => simp [deep] at e
  | exn _ _ _ => simp [deep] at e
  | clo _ _ => simp [deep] at e
  | ref _ => simp [deep] at e
theorem RV.flat {d : D} {v : V} (h : RV X.kw φ n H d v) (f : Zdi d = true) : flatV v = true := by cases h <;> first | rfl | cases f
theorem RN.flat {d : D} {v : V} (h : RN X.kw φ n H d v) (f : Zdi d = true) : flatV v = true := by
 cases h with
 | of h => exact h.flat f
 | _ => cases f
theorem RVs.flat : ∀ {ds : List D} {vs : List V}, RVs X.kw φ n H ds vs -> ds.all Zdi = true -> vs.all flatV = true
 | _, _, .nil, _ => rfl
 | _, _, .cons a t, f => by
  rw [Qas, Qaa] at f ⊢
  exact ⟨a.flat f.1, RVs.flat t f.2⟩
theorem RV.eqF {d e : D} {v w : V} (h : RV X.kw φ n H d v) (k : RN X.kw φ n H e w) (f : Zdi d = true) (g : Zdi e = true) : eqV v w = My.eqF d e := by
 cases k with
 | of k => cases h <;> first | (cases f; done) | (cases k <;> first | rfl | cases g)
 | _ => cases g
theorem RVs.anyF {e : D} {w : V} (k : RN X.kw φ n H e w) (g : Zdi e = true) : ∀ {ds : List D} {vs : List V}, RVs X.kw φ n H ds vs -> ds.all Zdi = true -> (vs.any fun y => eqV y w) = ds.any fun y => My.eqF y e
 | _, _, .nil, _ => rfl
 | _, _, .cons a t, f => by
  rw [Qas, Qaa] at f
  rw [List.any_cons, List.any_cons, a.eqF k f.1 g, RVs.anyF k g t f.2]
end
section
variable {X : Cx}
theorem Zda {k : Nat} {A : Around} (hr : Room k A) : A.units + 65 < cLine := by have := hr.un; omega
theorem Zjg {x y : D} {b : Bool} (h : Zne x y = some b) : ∃ p q, deep Zep x = some p /\ deep Zep y = some q /\ SeqAt.shaped p = true /\ SeqAt.shaped q = true /\ b = PyData.eqv p q := by
 unfold Zne at h
 cases e1 : deep Zep x with
 | none => rw [e1] at h; cases h
 | some p =>
  cases e2 : deep Zep y with
  | none => rw [e1, e2] at h; cases h
  | some q =>
   rw [e1, e2] at h
   simp only [Option.bind_eq_bind, Option.bind_some] at h
   split at h
   ·rename_i hs
    exact ⟨p, q, rfl, rfl, hs.1, hs.2, (Option.some.inj h).symm⟩
   ·cases h
theorem Zh0 {x : D} {ys : List D} {b : Bool} (h : Zgt x ys = some b) : ∃ p qs, deep Zep x = some p /\ Zbv (deep Zep) ys = some qs /\ p.canLay0 = true /\ PyData.canLayAll0 qs = true /\ p.depth <= 60 /\ b = qs.any fun q => PyData.eqv q p := by
 unfold Zgt at h
 cases e1 : deep Zep x with
 | none => rw [e1] at h; cases h
 | some p =>
  cases e2 : Zbv (deep Zep) ys with
  | none => rw [e1, e2] at h; cases h
  | some q =>
   rw [e1, e2] at h
   simp only [Option.bind_eq_bind, Option.bind_some] at h
   split at h
   ·rename_i hs
    exact ⟨p, q, rfl, rfl, hs.1, hs.2.1, hs.2.2, (Option.some.inj h).symm⟩
   ·cases h
section
variable {pins : List (Addr × Obj)} {s : Shared} {σ : L2.St} {H : Hp} {x y : V} {v u : Value} {Q : VK} {φ : Nat -> Addr} {n : Nat} {dx dy : D} {b : Bool} {neg : Bool}
theorem Zv5 {a a' : Addr} {vs : List V} (hu : X.A.units + 65 < cLine) (I : Inv X pins σ H s) (h1 : SqT X.kw H a vs) (h2 : SqT X.kw H a' []) (q : Q (.bl (neg != vs.isEmpty)) H) :
  wpAny (model X.prog X.w) X.A (compareOp (if neg then .NotEq else .Eq) (.ref a) (.ref a')) (EP X pins σ Q) X.xe s := by
 obtain ⟨its, r1, p1, _⟩ := I.tuple h1
 obtain ⟨its2, r2, p2, _⟩ := I.tuple h2
 cases r2
 have t1 : s.heap.IsTuple a its.toArray := p1
 have t2 : s.heap.IsTuple a' #[] := p2
 have hl := r1.length
 have e : ((List.range (min its.toArray.size (#[] : Array Value).size)).all (fun _ => true) && its.toArray.size == (#[] : Array Value).size) = vs.isEmpty := by
  have : min its.toArray.size (#[] : Array Value).size = 0 := by simp
  rw [this]
  cases vs with
  | nil =>
   have : its = [] := List.length_eq_zero_iff.mp hl.symm
   subst this; rfl
  | cons v vs =>
   cases its with
   | nil => cases hl
   | cons i is => simp
 have hu' : X.A.units < cLine := by omega
 cases neg with
 | false => exact SeqAt.RcAt.tuples (e := fun _ => true) t1 t2 hu' (fun j _ j2 => absurd j2 (by simp)) _ _ _ _ ⟨.bl _, H, I, rfl, by rw [e]; simpa using q⟩
 | true => exact SeqAt.RcNeAt.tuples (e := fun _ => true) t1 t2 hu' (fun j _ j2 => absurd j2 (by simp)) _ _ _ _ ⟨.bl _, H, I, rfl, by rw [e]; simpa using q⟩
theorem Zv6 {a a' : Addr} {vs : List V} (hu : X.A.units + 65 < cLine) (I : Inv X pins σ H s) (h1 : SqL X.kw H a vs) (h2 : SqL X.kw H a' []) (q : Q (.bl (neg != vs.isEmpty)) H) :
  wpAny (model X.prog X.w) X.A (compareOp (if neg then .NotEq else .Eq) (.ref a) (.ref a')) (EP X pins σ Q) X.xe s := by
 obtain ⟨its, r1, p1, _⟩ := I.list h1
 obtain ⟨its2, r2, p2, _⟩ := I.list h2
 cases r2
 have t1 : s.heap.IsList a its.toArray := p1.isList
 have t2 : s.heap.IsList a' #[] := p2.isList
 have hl := r1.length
 have hu' : X.A.units < cLine := by omega
 cases vs with
 | nil =>
  have : its = [] := List.length_eq_zero_iff.mp hl.symm
  subst this
  cases neg with
  | false => exact SeqAt.RcAt.lists (e := fun _ => true) t1 t2 rfl hu' (fun j _ j2 => absurd j2 (by simp)) _ _ _ _ ⟨.bl _, H, I, rfl, by simpa using q⟩
  | true => exact SeqAt.RcNeAt.lists (e := fun _ => true) t1 t2 rfl hu' (fun j _ j2 => absurd j2 (by simp)) _ _ _ _ ⟨.bl _, H, I, rfl, by simpa using q⟩
 | cons v vs =>
  have hz : (its.toArray.size != (#[] : Array Value).size) = true := by
   cases its with
   | nil => cases hl
   | cons i is => simp
  cases neg with
  | false => exact SeqAt.RcAt.lists_lengths t1 t2 hz hu' _ _ _ _ ⟨.bl _, H, I, rfl, by simpa using q⟩
  | true => exact SeqAt.RcNeAt.lists_lengths t1 t2 hz hu' _ _ _ _ ⟨.bl _, H, I, rfl, by simpa using q⟩
theorem Znu (hu : X.A.units + 65 < cLine)
  (I : Inv X pins σ H s) (rx : RelV x v) (ry : RelV y u) (hx : RN X.kw φ n H dx x) (hy : RN X.kw φ n H dy y) (h : eqD dx dy = some b) (q : Q (.bl (neg != b)) H) :
  wpAny (model X.prog X.w) X.A (compareOp (if neg then .NotEq else .Eq) v u) (EP X pins σ Q) X.xe s := by
 unfold eqD at h
 have sc : ∀ {b' : Bool}, b = b' -> scal x y = true -> decide (x = y) = b' -> wpAny (model X.prog X.w) X.A (compareOp (if neg then .NotEq else .Eq) v u) (EP X pins σ Q) X.xe s := fun {b'} e1 hs e2 => by
  rw [e1, <- e2] at q
  cases neg with
  | false => exact op_eq pins s σ H _ _ v u Q I rx ry ⟨hs, by simpa using q⟩
  | true => exact op_ne pins s σ H _ _ v u Q I rx ry ⟨hs, by simpa using q⟩
 split at h
 ·have ex := hx.str; have ey := hy.str; subst ex ey
  exact sc (Option.some.inj h).symm rfl (by simp)
 ·have ex := hx.int; have ey := hy.int; subst ex ey
  exact sc (Option.some.inj h).symm rfl (by simp)
 ·have ex := hx.bl; have ey := hy.bl; subst ex ey
  exact sc (Option.some.inj h).symm rfl (by simp)
 ·obtain ⟨a, vs, rfl, h1, rs⟩ := hx.tup
  obtain ⟨a', vs', rfl, h2, rs'⟩ := hy.tup
  cases rs'; cases rx; cases ry
  have e := Option.some.inj h
  refine Zv5 hu I (h1.sq) (h2.sq) ?_
  have : vs.isEmpty = b := by
   rw [<- e]
   cases rs <;> rfl
  rw [this]; exact q
 ·obtain ⟨a, vs, rfl, h1, rs⟩ := hx.list
  obtain ⟨a', vs', rfl, h2, rs'⟩ := hy.list
  cases rs'; cases rx; cases ry
  have e := Option.some.inj h
  refine Zv6 hu I (SqL.rd h1) (SqL.rd h2) ?_
  have : vs.isEmpty = b := by
   rw [<- e]
   cases rs <;> rfl
  rw [this]; exact q
 ·obtain ⟨p, p', e1, e2, s1, s2, rfl⟩ := Zjg h
  obtain ⟨as, r1, _⟩ := Zbr I _ _ _ _ _ e1 hx rx
  obtain ⟨bs, r2, _⟩ := Zbr I _ _ _ _ _ e2 hy ry
  cases neg with
  | false => exact SeqAt.compareEq_shaped r1 r2 s1 s2 (by omega) ⟨.bl _, H, I, rfl, by simpa using q⟩
  | true => exact SeqAt.compareNe_shaped r1 r2 s1 s2 (by omega) ⟨.bl _, H, I, rfl, by simpa using q⟩
theorem Zex {ys : List D} (hu : X.A.units + 65 < cLine)
  (I : Inv X pins σ H s) (rx : RelV x v) (ry : RelV y u) (hx : RN X.kw φ n H dx x) (hy : RN X.kw φ n H dy y) (hs : Znf dy = some ys) (h : Zhu dx ys = some b) (q : Q (.bl (neg != b)) H) :
  wpAny (model X.prog X.w) X.A (compareOp (if neg then .NotIn else .In) v u) (EP X pins σ Q) X.xe s := by
 obtain ⟨a, vs, rfl, sq, rs⟩ := Zgx hy hs
 unfold Zhu at h
 split at h
 ·rename_i hf
  rw [Qaa] at hf
  have e := rs.anyF hx hf.1 hf.2
  have e2 : inV x vs = b := e.trans (Option.some.inj h)
  cases neg with
  | false => exact op_in_seq pins s σ H _ _ v u Q I rx ry ⟨a, vs, rfl, sq, hx.flat hf.1, rs.flat hf.2, by rw [e2]; simpa using q⟩
  | true => exact op_notIn_seq pins s σ H _ _ v u Q I rx ry ⟨a, vs, rfl, sq, hx.flat hf.1, rs.flat hf.2, by rw [e2]; simpa using q⟩
 ·obtain ⟨p, qs, e1, e2, l1, l2, dp, rfl⟩ := Zh0 h
  obtain ⟨as, r1, _⟩ := Zbr I _ _ _ _ _ e1 hx rx
  have room : X.A.units + 1 + min (PyData.depthAll qs) p.depth < cLine := by
   have := Nat.min_le_right (PyData.depthAll qs) p.depth
   omega
  have dr : ∀ d p v u, deep Zep d = some p -> RV X.kw φ n H d v -> RelV v u -> ∃ as, Reads s.heap u p as /\ Za1 s.heap as := fun d p v u h r q => Zbr I Zep d p v u h (.of r) q
  cases ry
  rcases sq with sq | sq
  ·obtain ⟨its, rv, ⟨o, k, ho, hc, _, hd⟩, _⟩ := I.list sq
   obtain ⟨bs, hr, _⟩ := Zb4 dr ys qs _ its e2 rs rv
   have r2 : Reads s.heap (.ref a) (.list qs) _ := Reads.list ho hc hd hr
   cases neg with
   | false => exact SeqAt.in_list_reads r2 r1 l2 l1 room ⟨.bl _, H, I, rfl, by simpa using q⟩
   | true => exact SeqAt.notIn_list_reads r2 r1 l2 l1 room ⟨.bl _, H, I, rfl, by simpa using q⟩
  ·obtain ⟨its, rv, ⟨o, ho, hc, k, hd⟩, _⟩ := I.tuple sq
   obtain ⟨bs, hr, _⟩ := Zb4 dr ys qs _ its e2 rs rv
   have r2 : Reads s.heap (.ref a) (.tuple qs) _ := Reads.tuple ho hc hd hr
   cases neg with
   | false => exact SeqAt.in_tuple_reads r2 r1 l2 l1 room ⟨.bl _, H, I, rfl, by simpa using q⟩
   | true => exact SeqAt.notIn_tuple_reads r2 r1 l2 l1 room ⟨.bl _, H, I, rfl, by simpa using q⟩
end
section
variable {K : KW} {L : LC} {φ : Nat -> Addr} {n : Nat} {H : Hp}
theorem RKs.find (k : Key) : ∀ {x : List (Key × D)} {y : List (Key × V)}, RKs K φ n H x y ->
  (∃ d v, (x.find? fun p => decide (p.1 = k)) = some (k, d) /\ valV y k = some v /\ RV K φ n H d v) \/ ((x.find? fun p => decide (p.1 = k)) = none /\ valV y k = none)
 | _, _, .nil => .inr ⟨rfl, rfl⟩
 | _, _, .cons (k := k') (d := d) (v := v) a t => by
  by_cases e : k' = k
  ·subst e
   exact .inl ⟨d, v, by simp, by simp [valV], a⟩
  ·rcases RKs.find k t with ⟨d', v', h1, h2, h3⟩ | ⟨h1, h2⟩
   ·exact .inl ⟨d', v', by simp [e, h1], by rw [valV_neg e]; exact h2, h3⟩
   ·exact .inr ⟨by simp [e, h1], by rw [valV_neg e]; exact h2⟩
theorem RKs.look (k : Key) {x : List (Key × D)} {y : List (Key × V)} (r : RKs K φ n H x y) : (∃ d v, Ze4 x k = some d /\ valV y k = some v /\ RV K φ n H d v) \/ (Ze4 x k = none /\ valV y k = none) := by
 unfold Ze4
 rcases r.find k with ⟨d, v, h1, h2, h3⟩ | ⟨h1, h2⟩
 ·exact .inl ⟨d, v, by rw [h1]; rfl, h2, h3⟩
 ·exact .inr ⟨by rw [h1]; rfl, h2⟩
theorem RTs.find (k : NestedKey) : ∀ {x : List (NestedKey × D)} {y : List (NestedKey × V)}, RTs K φ n H x y ->
  (∃ d v, (x.find? fun p => decide (p.1 = k)) = some (k, d) /\ valV y k = some v /\ RV K φ n H d v) \/ ((x.find? fun p => decide (p.1 = k)) = none /\ valV y k = none)
 | _, _, .nil => .inr ⟨rfl, rfl⟩
 | _, _, .cons (k := k') (d := d) (v := v) a t => by
  by_cases e : k' = k
  ·subst e
   exact .inl ⟨d, v, by simp, by simp [valV], a⟩
  ·rcases RTs.find k t with ⟨d', v', h1, h2, h3⟩ | ⟨h1, h2⟩
   ·exact .inl ⟨d', v', by simp [e, h1], by rw [valV_neg e]; exact h2, h3⟩
   ·exact .inr ⟨by simp [e, h1], by rw [valV_neg e]; exact h2⟩
theorem RTs.look (k : NestedKey) {x : List (NestedKey × D)} {y : List (NestedKey × V)} (r : RTs K φ n H x y) : (∃ d v, Zhw x k = some d /\ valV y k = some v /\ RV K φ n H d v) \/ (Zhw x k = none /\ valV y k = none) := by
 unfold Zhw
 rcases r.find k with ⟨d, v, h1, h2, h3⟩ | ⟨h1, h2⟩
 ·exact .inl ⟨d, v, by rw [h1]; rfl, h2, h3⟩
 ·exact .inr ⟨by rw [h1]; rfl, h2⟩
mutual
theorem RV.kn : ∀ {d : D} {v : V} {k : NestedKey}, RV K φ n H d v -> Z82 d = some k -> KVn H k v
 | _, _, _, .int i, h => by cases h; exact .num i
 | _, _, _, .str z, h => by cases h; exact .text z
 | _, _, _, .tup e rs, h => by
  simp only [Z82, Qad] at h
  obtain ⟨ks, h1, rfl⟩ := h
  exact .tup e (RVs.kn rs h1)
 | _, _, _, .non, h => by cases h
 | _, _, _, .bl _, h => by cases h
 | _, _, _, .kt _ _, h => by cases h
 | _, _, _, .wt _ _, h => by cases h
 | _, _, _, .ks _ _, h => by cases h
 | _, _, _, .wl _ _, h => by cases h
 | _, _, _, .wd _ _, h => by cases h
 | _, _, _, .wT _ _ _, h => by cases h
 | _, _, _, .ref _, h => by cases h
 | _, _, _, .fn _, h => by cases h
 | _, _, _, .exn0 _ _, h => by cases h
 | _, _, _, .exn _ _ _ _ _, h => by cases h
 | _, _, _, .clo, h => by cases h
theorem RVs.kn : ∀ {ds : List D} {vs : List V} {ks : List NestedKey}, RVs K φ n H ds vs -> Zng ds = some ks -> KVns H ks vs
 | _, _, _, .nil, h => by cases h; exact .nil
 | _, _, _, .cons a t, h => by
  simp only [Zng, Qak, Qad] at h
  obtain ⟨k, h1, ks, h2, rfl⟩ := h
  exact .cons (RV.kn a h1) (RVs.kn t h2)
end
theorem RN.keyT {d : D} {k : NestedKey} {v : V} (h : Zb1 d = some k) (r : RN K φ n H d v) : ∃ b, v = .ref b /\ KN H k b := by
 cases r with
 | of r =>
  cases r with
  | tup e rs =>
   simp only [Zb1, Qak] at h
   obtain ⟨ks, h1, h2⟩ := h
   split at h2
   ·rename_i hd
    cases h2
    exact ⟨_, rfl, by simp only [NestedKey.depth]; omega, .tup e (RVs.kn rs h1)⟩
   ·cases h2
  | _ => cases h
 | _ => cases h
theorem RV.key {d : D} {k : Key} {v : V} (h : Zcj d = some k) (r : RN K φ n H d v) : v = kV k := by
 cases r with
 | of r => cases r <;> first | (cases h; done) | (cases h; rfl)
 | _ => cases h
end
theorem Yf3 {i : Str} (h : i.length = 1) : i = ⟨#[i.cps.getD 0 0]⟩ := by
 obtain ⟨⟨l⟩⟩ := i
 match l, h with
 | [c], _ => rfl
theorem DGet.rd {H : Hp} {a : Addr} {ws : List (Key × V)} {k : Key} (h : Rd H a (.dK ws)) : DGet H a (kV k) (valV ws k) := .inl ⟨ws, k, h, rfl, rfl⟩
section
variable {pins : List (Addr × Obj)} {s : Shared} {σ : L2.St} {H : Hp} {x y : V} {v u : Value} {Q : VK} {φ : Nat -> Addr} {n : Nat} {dx dy : D} {b : Bool} {neg : Bool}
theorem Znv (hu : X.A.units + 65 < cLine)
  (I : Inv X pins σ H s) (rx : RelV x v) (ry : RelV y u) (hx : RN X.kw φ n H dx x) (hy : RN X.kw φ n H dy y) (h : inD dx dy = some b) (q : Q (.bl (neg != b)) H) :
  wpAny (model X.prog X.w) X.A (compareOp (if neg then .NotIn else .In) v u) (EP X pins σ Q) X.xe s := by
 have hu1 : X.A.units + 1 < cLine := by omega
 unfold inD at h
 split at h
 ·rename_i j
  split at h
  ·rename_i i
   have ex := hx.str; have ey := hy.str; subst ex ey
   split at h
   ·rename_i hl
    have e := Option.some.inj h
    have e0 := Yf3 hl
    generalize i.cps.getD 0 0 = c at e e0
    subst e0
    have e2 : decide (c ∈ j.cps.toList) = b := by
     rw [<- e, List.contains_eq_mem]
    cases neg with
    | false => exact op_in_sign pins s σ H _ _ v u Q I rx ry ⟨c, j, rfl, rfl, by rw [e2]; simpa using q⟩
    | true => exact op_notIn_sign pins s σ H _ _ v u Q I rx ry ⟨c, j, rfl, rfl, by rw [e2]; simpa using q⟩
   ·cases h
  ·cases h
 ·exact Zex hu I rx ry hx hy rfl h q
 ·exact Zex hu I rx ry hx hy rfl h q
 ·exact Zex hu I rx ry hx hy rfl h q
 ·exact Zex hu I rx ry hx hy rfl h q
 ·rename_i kvs
  simp only [Qad] at h
  obtain ⟨k, hk, e⟩ := h
  obtain ⟨a, ws, rfl, hr, rs⟩ := hy.dict
  have ex := RV.key hk hx
  subst ex
  cases ry
  have g := DGet.rd (k := k) hr
  have eb : (valV ws k).isSome = b := by
   rw [<- e]
   rcases rs.look k with ⟨d, v, h1, h2, _⟩ | ⟨h1, h2⟩ <;> rw [h1, h2] <;> rfl
  cases neg with
  | false => exact d_in hu1 I g rx fun s' I' => ⟨.bl _, H, I', rfl, by rw [eb]; simpa using q⟩
  | true => exact d_notIn hu1 I g rx fun s' I' => ⟨.bl _, H, I', rfl, by rw [eb]; simpa using q⟩
 ·rename_i kvs
  simp only [Qad] at h
  obtain ⟨k, hk, e⟩ := h
  obtain ⟨a, ws, rfl, hr, ka, rs⟩ := hy.dictT
  obtain ⟨b', rfl, hb⟩ := RN.keyT hk hx
  cases ry
  cases rx
  have eb : (valV (ws.map noB) k).isSome = b := by
   rw [<- e]
   rcases rs.look k with ⟨d, v, h1, h2, _⟩ | ⟨h1, h2⟩ <;> rw [h1, h2] <;> rfl
  cases neg with
  | false => exact Yf2 (by omega) I hr ka hb fun s' I' => ⟨.bl _, H, I', rfl, by rw [eb]; simpa using q⟩
  | true => exact Zv3 (by omega) I hr ka hb fun s' I' => ⟨.bl _, H, I', rfl, by rw [eb]; simpa using q⟩
 ·cases h
end
theorem Zua {p : Bool} {dx dy : D} {b : Bool} (h : isE p dx dy = some b) : (dy = .non /\ b = (p == isNon dx)) \/ ∃ a c, dx = .bl a /\ dy = .bl c /\ b = (p == decide (a = c)) := by
 unfold isE at h
 split at h
 ·exact .inl ⟨rfl, (Option.some.inj h).symm⟩
 ·exact .inr ⟨_, _, rfl, rfl, (Option.some.inj h).symm⟩
 ·cases h
theorem RN.isNon {K : KW} {φ : Nat -> Addr} {n : Nat} {H : Hp} {d : D} {x : V} (h : RN K φ n H d x) : decide (x = .non) = My.isNon d := by
 cases h with
 | of h => cases h <;> simp [My.isNon]
 | _ => simp [My.isNon]
theorem Znw (a b : Str) (t u : Tok) {A : Around} {s : Shared} : Ob.RcOp .Lt A s (.str a t) (.str b u) (Zai a b) := fun _ _ _ _ h => PyProof.Rows.lt_str h
theorem Znx (a b : Str) (t u : Tok) {A : Around} {s : Shared} : Ob.RcOp .LtE A s (.str a t) (.str b u) (!Zai b a) := fun _ _ _ _ h => PySem.P.le_str h
theorem Zh1 (a b : Str) (t u : Tok) {A : Around} {s : Shared} : SeqAt.EqAt A s (.str a t) (.str b u) (decide (a = b)) := by
 have e : (a == b) = decide (a = b) := by
  by_cases q : a = b
  ·rw [decide_eq_true q]; exact beq_iff_eq.mpr q
  ·rw [decide_eq_false q]; exact beq_eq_false_iff_ne.mpr q
 rw [<- e]
 exact SeqAt.EqAt.str_str _ _ _ _
theorem Zh2 (a : Str) : Zai a a = false := by
 unfold Zai
 rw [decide_eq_false_iff_not]
 exact List.lt_irrefl _
theorem Zub (hu : X.A.units < cLine) (le : Bool) : OpR X (compareOp (if le then .LtE else .Lt)) (fun x y H Q => ∃ (a b : Addr) (p q : Str × Str), x = .ref a /\ y = .ref b /\ SqT X.kw H a [.str p.1, .str p.2] /\ SqT X.kw H b [.str q.1, .str q.2] /\ Q (.bl (if le then !Zch q p else Zch p q)) H) := by
 intro pins s σ H x y v u Q I rx ry h
 obtain ⟨a, b, ⟨p1, p2⟩, ⟨q1, q2⟩, rfl, rfl, ha, hb, q⟩ := h
 cases rx
 cases ry
 obtain ⟨its, r1, i1, _⟩ := I.tuple ha
 obtain ⟨its2, r2, i2, _⟩ := I.tuple hb
 obtain ⟨u1, u2, rfl, s1, s2⟩ := vals2 r1
 obtain ⟨w1, w2, rfl, s3, s4⟩ := vals2 r2
 obtain ⟨t1, rfl⟩ := s1
 obtain ⟨t2, rfl⟩ := s2
 obtain ⟨t3, rfl⟩ := s3
 obtain ⟨t4, rfl⟩ := s4
 have eqs : ∀ j (h1 : j < ([Value.str p1 t1, Value.str p2 t2].toArray).size) (h2 : j < ([Value.str q1 t3, Value.str q2 t4].toArray).size), SeqAt.EqAt X.A.in1 s [Value.str p1 t1, Value.str p2 t2].toArray[j] [Value.str q1 t3, Value.str q2 t4].toArray[j] (if j = 0 then decide (p1 = q1) else decide (p2 = q2)) := fun j h1 h2 => by
  match j, h1, h2 with
  | 0, _, _ => exact Zh1 p1 q1 t1 t3
  | 1, _, _ => exact Zh1 p2 q2 t2 t4
 cases le with
 | false =>
  have R := Ob.RcOp.tuples_lt (A := X.A) (s := s) (e := fun j => if j = 0 then decide (p1 = q1) else decide (p2 = q2)) (r := fun j => if j = 0 then Zai p1 q1 else Zai p2 q2) i1 i2 hu eqs (fun j h1 h2 _ => by
   match j, h1, h2 with
   | 0, _, _ => exact Znw p1 q1 t1 t3
   | 1, _, _ => exact Znw p2 q2 t2 t4)
  have z : wpAny (model X.prog X.w) X.A (compareOp .Lt (.ref a) (.ref b)) (EP X pins σ Q) X.xe s := R X.prog X.w X.xe (EP X pins σ Q) ⟨.bl _, H, I, rfl, by
   have e : Ob.lexAt (fun j => if j = 0 then decide (p1 = q1) else decide (p2 = q2)) (fun j => if j = 0 then Zai p1 q1 else Zai p2 q2) (decide (2 < 2)) 0 2 = Zch (p1, p2) (q1, q2) := by
    simp only [Ob.lexAt, Zch]
    by_cases c : p1 = q1
    ·by_cases c2 : p2 = q2
     ·subst c2; simp [c, Zh2]
     ·simp [c, c2]
    ·simp [c]
   have q' : Q (.bl (Zch (p1, p2) (q1, q2))) H := q
   rw [<- e] at q'
   exact q'⟩
  exact z
 | true =>
  have R := Ob.RcOp.tuples_le (A := X.A) (s := s) (e := fun j => if j = 0 then decide (p1 = q1) else decide (p2 = q2)) (r := fun j => if j = 0 then !Zai q1 p1 else !Zai q2 p2) i1 i2 hu eqs (fun j h1 h2 _ => by
   match j, h1, h2 with
   | 0, _, _ => exact Znx p1 q1 t1 t3
   | 1, _, _ => exact Znx p2 q2 t2 t4)
  have z : wpAny (model X.prog X.w) X.A (compareOp .LtE (.ref a) (.ref b)) (EP X pins σ Q) X.xe s := R X.prog X.w X.xe (EP X pins σ Q) ⟨.bl _, H, I, rfl, by
   have e : Ob.lexAt (fun j => if j = 0 then decide (p1 = q1) else decide (p2 = q2)) (fun j => if j = 0 then !Zai q1 p1 else !Zai q2 p2) (decide (2 <= 2)) 0 2 = !Zch (q1, q2) (p1, p2) := by
    simp only [Ob.lexAt, Zch]
    by_cases c : p1 = q1
    ·by_cases c2 : p2 = q2
     ·subst c2; simp [c, Zh2]
     ·simp [c, c2]
    ·simp [c, Ne.symm c]
   have q' : Q (.bl (!Zch (q1, q2) (p1, p2))) H := q
   rw [<- e] at q'
   exact q'⟩
  exact z
theorem Zh3 {K : KW} {φ : Nat -> Addr} {n : Nat} {H : Hp} {le : Bool} {dx dy : D} {x y : V} {b : Bool} (hx : RN K φ n H dx x) (hy : RN K φ n H dy y) (h : Zq1 le dx dy = some b) :
  ∃ (a c : Addr) (p q : Str × Str), x = .ref a /\ y = .ref c /\ SqT K H a [.str p.1, .str p.2] /\ SqT K H c [.str q.1, .str q.2] /\ b = if le then !Zch q p else Zch p q := by
 unfold Zq1 at h
 simp only [Qak, Qad] at h
 obtain ⟨p, e1, q, e2, e3⟩ := h
 have one : ∀ {d : D} {p : Str × Str} {v : V}, RN K φ n H d v -> Zvs d = some p -> ∃ a, v = .ref a /\ SqT K H a [.str p.1, .str p.2] := fun {d p v} hv e => by
  unfold Zvs at e
  split at e
  ·cases e
   obtain ⟨a, ws, rfl, hq, q⟩ := hv.tup
   cases q with
   | cons a1 r1 => cases r1 with
    | cons a2 r2 =>
     cases r2; cases a1; cases a2
     exact ⟨a, rfl, hq.sq⟩
  ·cases e
 obtain ⟨a, r1, s1⟩ := one hx e1
 obtain ⟨c, r2, s2⟩ := one hy e2
 exact ⟨a, c, p, q, r1, r2, s1, s2, e3.symm⟩
theorem Zuc (hu : X.A.units + 65 < cLine) (op : CmpOp) : OpR X (compareOp op) (rOp X.kw fun a b => (Zhv op a b).map .bl) := by
 intro pins s σ H x y v u Q I rx ry ⟨φ, S, dx, dy, d, r, hx, hy, h, k⟩
 simp only [Qad] at h
 obtain ⟨b, h, rfl⟩ := h
 have q : Q (.bl b) H := k.now r (.bl b)
 unfold Zhv at h
 split at h
 ·exact Znu (neg := false) hu I rx ry hx hy h (by simpa using q)
 ·simp only [Qad] at h
  obtain ⟨c, h, rfl⟩ := h
  exact Znu (neg := true) hu I rx ry hx hy h (by simpa using q)
 ·rcases Zua h with ⟨rfl, rfl⟩ | ⟨a, c, rfl, rfl, rfl⟩
  ·have ey := hy.non; subst ey
   refine op_isN pins s σ H _ _ v u Q I rx ry ⟨rfl, ?_⟩
   rw [hx.isNon]; simpa using q
  ·have ex := hx.bl; have ey := hy.bl; subst ex ey
   exact op_isBl pins s σ H _ _ v u Q I rx ry ⟨_, _, rfl, rfl, by simpa using q⟩
 ·rcases Zua h with ⟨rfl, rfl⟩ | ⟨a, c, rfl, rfl, rfl⟩
  ·have ey := hy.non; subst ey
   refine op_notN pins s σ H _ _ v u Q I rx ry ⟨rfl, ?_⟩
   rw [hx.isNon]; simpa using q
  ·have ex := hx.bl; have ey := hy.bl; subst ex ey
   exact op_notBl pins s σ H _ _ v u Q I rx ry ⟨_, _, rfl, rfl, by simpa using q⟩
 ·exact Znv (neg := false) hu I rx ry hx hy h (by simpa using q)
 ·simp only [Qad] at h
  obtain ⟨c, h, rfl⟩ := h
  exact Znv (neg := true) hu I rx ry hx hy h (by simpa using q)
 ·split at h
  ·have ex := hx.int; have ey := hy.int; subst ex ey; cases h
   exact op_lt pins s σ H _ _ v u Q I rx ry ⟨_, _, rfl, rfl, q⟩
  ·have ex := hx.int; have ey := hy.int; subst ex ey; cases h
   exact op_le pins s σ H _ _ v u Q I rx ry ⟨_, _, rfl, rfl, q⟩
  ·have ex := hx.int; have ey := hy.int; subst ex ey; cases h
   exact op_gt pins s σ H _ _ v u Q I rx ry ⟨_, _, rfl, rfl, q⟩
  ·have ex := hx.int; have ey := hy.int; subst ex ey; cases h
   exact op_ge pins s σ H _ _ v u Q I rx ry ⟨_, _, rfl, rfl, q⟩
  ·have ex := hx.str; have ey := hy.str; subst ex ey; cases h
   exact op_lt_str pins s σ H _ _ v u Q I rx ry ⟨_, _, rfl, rfl, q⟩
  ·have ex := hx.str; have ey := hy.str; subst ex ey; cases h
   exact op_le_str pins s σ H _ _ v u Q I rx ry ⟨_, _, rfl, rfl, q⟩
  ·obtain ⟨a, c, p, p', rfl, rfl, s1, s2, rfl⟩ := Zh3 hx hy h
   exact Zub (by omega) false pins s σ H _ _ v u Q I rx ry ⟨a, c, p, p', rfl, rfl, s1, s2, q⟩
  ·obtain ⟨a, c, p, p', rfl, rfl, s1, s2, rfl⟩ := Zh3 hx hy h
   exact Zub (by omega) true pins s σ H _ _ v u Q I rx ry ⟨a, c, p, p', rfl, rfl, s1, s2, q⟩
  ·cases h
end
end My
namespace My
open PySem PySem.Spec PyProof.Rows L2
variable [CP] [TC]
section
variable {K : KW} {L : LC} {φ : Nat -> Addr} {n : Nat} {H : Hp}
theorem RVs.atI {ds : List D} {vs : List V} {i : Int} {d : D} (r : RVs K φ n H ds vs) (h : L2.atI ds i = some d) : ∃ v, L2.atI vs i = some v /\ RV K φ n H d v := by
 unfold L2.atI at h ⊢
 rw [r.length]
 cases e : ixN ds.length i with
 | none => rw [e] at h; cases h
 | some j =>
  rw [e] at h
  exact r.get h
theorem Zjh {ds : List D} {vs : List V} (r : RVs K φ n H ds vs) (lo hi : Option Int) : RVs K φ n H (Zfs ds lo hi) (cutV vs lo hi) := by
 unfold Zfs cutV
 rw [r.length]
 exact (r.drop _).take _
end
section
variable {X : Cx}
theorem Z9a (hu : X.A.units + 10 < cLine) : IxR X (rOp X.kw Zf0) := by
 intro value slice pins s σ H x y v u Q I rx ry ⟨φ, S, dx, dy, d, r, hx, hy, e, k⟩ hs
 unfold Zf0 at e
 have tupC : ∀ {a : Addr} {vs : List V} {ds : List D} {i : Int}, SqT X.kw H a vs -> RVs X.kw φ S.nx H ds vs -> L2.atI ds i = some d -> x = .ref a -> y = .int i -> wpAny (model X.prog X.w) X.A (subscriptTail value slice v u) (EP X pins σ Q) X.xe s := fun {a vs ds i} sq rs e ex ey => by
  obtain ⟨w, ew, rw'⟩ := rs.atI e
  exact ix_tup value slice pins s σ H x y v u Q I rx ry ⟨a, vs, i, w, ex, ey, sq, ew, k.now r rw'⟩ hs
 have lstC : ∀ {a : Addr} {vs : List V} {ds : List D} {i : Int}, SqL X.kw H a vs -> RVs X.kw φ S.nx H ds vs -> L2.atI ds i = some d -> x = .ref a -> y = .int i -> wpAny (model X.prog X.w) X.A (subscriptTail value slice v u) (EP X pins σ Q) X.xe s := fun {a vs ds i} sq rs e ex ey => by
  obtain ⟨w, ew, rw'⟩ := rs.atI e
  exact ix_list value slice pins s σ H x y v u Q I rx ry ⟨a, vs, i, w, ex, ey, sq, ew, k.now r rw'⟩ hs
 split at e
 ·split at e
  ·obtain ⟨a, vs, ex, h1, rs⟩ := hx.tup
   exact tupC h1.sq rs e ex hy.int
  ·cases e
 ·split at e
  ·obtain ⟨a, vs, ex, h1, rs⟩ := hx.wt'
   exact tupC h1 rs e ex hy.int
  ·cases e
 ·split at e
  ·obtain ⟨a, vs, ex, h1, rs⟩ := hx.kt'
   exact tupC (SqT.of h1) rs e ex hy.int
  ·cases e
 ·split at e
  ·obtain ⟨a, vs, ex, h1, rs⟩ := hx.ks'
   exact lstC h1 rs e ex hy.int
  ·cases e
 ·split at e
  ·obtain ⟨a, vs, ex, h1, rs⟩ := hx.list
   exact lstC (SqL.rd h1) rs e ex hy.int
  ·cases e
 ·split at e
  ·have ex := hx.str; have ey := hy.int; subst ex ey
   split at e
   ·rename_i hz
    simp only [Qad] at e
    obtain ⟨c, e, rfl⟩ := e
    exact ix_str value slice pins s σ H _ _ v u Q I rx ry ⟨_, _, c, rfl, rfl, hz, e, k.now r (.str _)⟩ hs
   ·cases e
  ·cases e
 ·simp only [Qak] at e
  obtain ⟨kk, hk, e⟩ := e
  obtain ⟨a, ws, rfl, hr, rs⟩ := hx.dict
  have ey := RV.key hk hy
  subst ey
  rcases rs.look kk with ⟨d2, v2, f1, f2, f3⟩ | ⟨f1, _⟩
  ·rw [e] at f1; cases f1
   have g := DGet.rd (k := kk) hr
   rw [f2] at g
   cases rx
   exact tail_any (dict_typeIs I g) PySem.F.slot_dict_getitem.lookup (d_getItem (by omega) I g ry fun w' s' I' rw' => ⟨_, H, I', rw', k.now r f3⟩) hs
  ·rw [e] at f1; cases f1
 ·simp only [Qak] at e
  obtain ⟨kk, hk, e⟩ := e
  obtain ⟨a, ws, rfl, hr, ka, rs⟩ := hx.dictT
  obtain ⟨b', rfl, hb⟩ := RN.keyT hk hy
  rcases rs.look kk with ⟨d2, v2, f1, f2, f3⟩ | ⟨f1, _⟩
  ·rw [e] at f1; cases f1
   cases rx
   cases ry
   exact tail_any (Zns I hr).1 PySem.F.slot_dict_getitem.lookup (Znq hu I hr ka hb f2 fun w' s' I' rw' => ⟨_, H, I', rw', k.now r f3⟩) hs
  ·rw [e] at f1; cases f1
 ·cases e
def rSl (K : KW) : V -> Option Int -> Option Int -> Hp -> VK -> Prop := fun x lo hi H Q => ∃ φ S d d', RelS K φ S H /\ RN K φ S.nx H d x /\ Zdj d lo hi = some d' /\ Zd4 K φ S H Q d' S
theorem Z9b : SlR X (rSl X.kw) := by
 intro pins s σ H x v vl vu lo hi sl Q I rx hs pl pu ⟨φ, S, d, d', r, hx, e, k⟩
 unfold Zdj at e
 split at e
 ·rename_i xs
  cases e
  obtain ⟨a, vs, rfl, h1, rs⟩ := hx.tup
  refine Zv2 pins s σ H _ v vl vu lo hi sl Q I rx hs pl pu ⟨_, _, rfl, h1.sq, fun e => ?_, fun _ p hp => Zvy r (Zjh rs lo hi) hp k⟩
  have e0 : Zfs xs lo hi = xs := by
   unfold Zfs
   rw [<- rs.length, e.1, e.2, rs.length]
   simp
  rw [e0] at k
  exact k.now r (.tup h1 rs)
 ·cases e
  obtain ⟨a, vs, rfl, h1, rs⟩ := hx.list
  obtain ⟨T, id, z1, z2, z3⟩ := sl_list pins s σ H _ v vl vu lo hi sl (LkQ Q) I rx hs pl pu ⟨_, _, rfl, SqL.rd h1, fun p hp => Z0h r (Zjh rs lo hi) hp k⟩
  exact ⟨T, id, z1, z2, Zf5 z3⟩
 ·cases e
  obtain ⟨a, vs, rfl, h1, rs⟩ := hx.ks'
  obtain ⟨T, id, z1, z2, z3⟩ := sl_list pins s σ H _ v vl vu lo hi sl (LkQ Q) I rx hs pl pu ⟨_, _, rfl, h1, fun p hp => Z0h r (Zjh rs lo hi) hp k⟩
  exact ⟨T, id, z1, z2, Zf5 z3⟩
 ·have ex := hx.str; subst ex
  split at e
  ·rename_i hz
   cases e
   exact sl_str pins s σ H _ v vl vu lo hi sl Q I rx hs pl pu ⟨_, rfl, hz, k.now r (.str _)⟩
  ·cases e
 ·cases e
end
section
variable {K : KW} {L : LC} {φ : Nat -> Addr} {n : Nat} {H : Hp}
theorem RKs.any (k : Key) {x : List (Key × D)} {y : List (Key × V)} (h : RKs K φ n H x y) : (valV y k).isSome = x.any fun p => decide (p.1 = k) := by
 rcases h.find k with ⟨d, v, h1, h2, _⟩ | ⟨h1, h2⟩
 ·rw [h2]
  have := List.find?_some h1
  exact (Qa1.mpr ⟨(k, d), List.mem_of_find?_eq_some h1, this⟩).symm
 ·rw [h2]
  have := List.find?_eq_none.mp h1
  symm
  rw [Option.isSome_none, List.any_eq_false]
  exact this
theorem RKs.put {d : D} {v : V} (k : Key) (h : RV K φ n H d v) {x : List (Key × D)} {y : List (Key × V)} (t : RKs K φ n H x y) : RKs K φ n H (Zgu x k d) (putK y k v) := by
 have e : (y.any fun kv => decide (kv.1 = k)) = x.any fun p => decide (p.1 = k) := by
  rw [valV_any]; exact t.any k
 have hm : ∀ {x : List (Key × D)} {y : List (Key × V)}, RKs K φ n H x y -> RKs K φ n H (x.map fun p => if p.1 = k then (p.1, d) else p) (y.map fun p => if p.1 = k then (p.1, v) else p) := by
  intro x
  induction x with
  | nil => intro y t; cases t; exact .nil
  | cons p x ih =>
   intro y t
   cases t with
   | cons a t =>
    rename_i k' _ _ _
    rw [Qaj, Qaj]
    by_cases e : k' = k
    ·simp only [e, if_true]; exact .cons h (ih t)
    ·simp only [e, if_false]; exact .cons a (ih t)
 have ha : ∀ {x : List (Key × D)} {y : List (Key × V)}, RKs K φ n H x y -> RKs K φ n H (x ++ [(k, d)]) (y ++ [(k, v)]) := by
  intro x
  induction x with
  | nil => intro y t; cases t; exact .cons h .nil
  | cons p x ih =>
   intro y t
   cases t with
   | cons a t => exact .cons a (ih t)
 unfold Zgu putK
 rw [e]
 split
 ·exact hm t
 ·exact ha t
theorem RTs.any (k : NestedKey) {x : List (NestedKey × D)} {y : List (NestedKey × V)} (h : RTs K φ n H x y) : (valV y k).isSome = x.any fun p => decide (p.1 = k) := by
 rcases h.find k with ⟨d, v, h1, h2, _⟩ | ⟨h1, h2⟩
 ·rw [h2]
  have := List.find?_some h1
  exact (Qa1.mpr ⟨(k, d), List.mem_of_find?_eq_some h1, this⟩).symm
 ·rw [h2]
  have := List.find?_eq_none.mp h1
  symm
  rw [Option.isSome_none, List.any_eq_false]
  exact this
theorem RTs.put {d : D} {v : V} (k : NestedKey) (h : RV K φ n H d v) {x : List (NestedKey × D)} {y : List (NestedKey × V)} (t : RTs K φ n H x y) : RTs K φ n H (Zgu x k d) (putK y k v) := by
 have e : (y.any fun kv => decide (kv.1 = k)) = x.any fun p => decide (p.1 = k) := by
  rw [valV_any]; exact t.any k
 have hm : ∀ {x : List (NestedKey × D)} {y : List (NestedKey × V)}, RTs K φ n H x y -> RTs K φ n H (x.map fun p => if p.1 = k then (p.1, d) else p) (y.map fun p => if p.1 = k then (p.1, v) else p) := by
  intro x
  induction x with
  | nil => intro y t; cases t; exact .nil
  | cons p x ih =>
   intro y t
   cases t with
   | cons a t =>
    rename_i k' _ _ _
    rw [Qaj, Qaj]
    by_cases e : k' = k
    ·simp only [e, if_true]; exact .cons h (ih t)
    ·simp only [e, if_false]; exact .cons a (ih t)
 have ha : ∀ {x : List (NestedKey × D)} {y : List (NestedKey × V)}, RTs K φ n H x y -> RTs K φ n H (x ++ [(k, d)]) (y ++ [(k, v)]) := by
  intro x
  induction x with
  | nil => intro y t; cases t; exact .cons h .nil
  | cons p x ih =>
   intro y t
   cases t with
   | cons a t => exact .cons a (ih t)
 unfold Zgu putK
 rw [e]
 split
 ·exact hm t
 ·exact ha t
theorem RKs.drop (k : Key) : ∀ {x : List (Key × D)} {y : List (Key × V)}, RKs K φ n H x y -> RKs K φ n H (Zer x k) (dropK y k)
 | _, _, .nil => .nil
 | _, _, .cons (k := k') (d := d) (v := v) (ds := ds) (vs := vs) a t => by
  have ih := RKs.drop k t
  by_cases e : k' = k
  ·have z1 : Zer ((k', d) :: ds) k = Zer ds k := List.filter_cons_of_neg (by simp [e])
   have z2 : dropK ((k', v) :: vs) k = dropK vs k := List.filter_cons_of_neg (by simp [e])
   rw [z1, z2]; exact ih
  ·have z1 : Zer ((k', d) :: ds) k = (k', d) :: Zer ds k := List.filter_cons_of_pos (by simp [e])
   have z2 : dropK ((k', v) :: vs) k = (k', v) :: dropK vs k := List.filter_cons_of_pos (by simp [e])
   rw [z1, z2]; exact .cons a ih
theorem RTs.drop (k : NestedKey) : ∀ {x : List (NestedKey × D)} {y : List (NestedKey × V)}, RTs K φ n H x y -> RTs K φ n H (Zer x k) (dropK y k)
 | _, _, .nil => .nil
 | _, _, .cons (k := k') (d := d) (v := v) (ds := ds) (vs := vs) a t => by
  have ih := RTs.drop k t
  by_cases e : k' = k
  ·have z1 : Zer ((k', d) :: ds) k = Zer ds k := List.filter_cons_of_neg (by simp [e])
   have z2 : dropK ((k', v) :: vs) k = dropK vs k := List.filter_cons_of_neg (by simp [e])
   rw [z1, z2]; exact ih
  ·have z1 : Zer ((k', d) :: ds) k = (k', d) :: Zer ds k := List.filter_cons_of_pos (by simp [e])
   have z2 : dropK ((k', v) :: vs) k = (k', v) :: dropK vs k := List.filter_cons_of_pos (by simp [e])
   rw [z1, z2]; exact .cons a ih
theorem RTs.length : ∀ {ds : List (NestedKey × D)} {vs : List (NestedKey × V)}, RTs K φ n H ds vs -> vs.length = ds.length
 | _, _, .nil => rfl
 | _, _, .cons _ t => by rw [Qai, Qai, RTs.length t]
theorem RKs.putAll : ∀ {ps : List (Key × D)} {qs : List (Key × V)} {x : List (Key × D)} {y : List (Key × V)}, RKs K φ n H x y -> RKs K φ n H ps qs -> RKs K φ n H (My.putAll x ps) (mergeK y qs)
 | _, _, _, _, t, .nil => t
 | _, _, x, y, t, .cons (k := k) (d := d) (v := v) a r => by
  show RKs K φ n H (My.putAll (Zgu x k d) _) (mergeK (putK y k v) _)
  exact RKs.putAll (t.put k a) r
end
theorem Zba (a : Str) : Zai a a = false := by simp [Zai, List.lt_irrefl]
theorem Za7 {a b : Str} (h : Zai a b = true) : Zai b a = false := by
 simp only [Zai, Qab, decide_eq_false_iff_not] at *
 exact List.lt_asymm h
theorem Ze9 {a b c : Str} (h : Zai a b = true) (h' : Zai b c = true) : Zai a c = true := by
 simp only [Zai, Qab] at *
 exact List.lt_trans h h'
theorem Zay {a b : Str} (h : Zai a b = false) (h' : Zai b a = false) : a = b := by
 simp only [Zai, decide_eq_false_iff_not] at *
 have e := List.le_antisymm (List.not_lt.mp h') (List.not_lt.mp h)
 obtain ⟨⟨l⟩⟩ := a
 obtain ⟨⟨m⟩⟩ := b
 have e : l = m := e
 rw [e]
def Zeu (a b : Str) : Prop := Zai b a = false
theorem Zji {a b c : Str} (h : Zeu a b) (h' : Zeu b c) : Zeu a c := by
 unfold Zeu at *
 cases e : Zai c a with
 | false => rfl
 | true =>
  cases e2 : Zai b a with
  | true => rw [e2] at h; cases h
  | false =>
   cases e3 : Zai a b with
   | false =>
    have := Zay e3 e2
    subst this
    rw [e] at h'; cases h'
   | true =>
    have := Ze9 e e3
    rw [this] at h'; cases h'
theorem Zdb (a : Str) : ∀ l : List Str, (Ze5 a l).Perm (a :: l)
 | [] => .refl _
 | b :: r => by
  unfold Ze5
  split
  ·exact ((Zdb a r).cons b).trans (.swap a b r)
  ·exact .refl _
theorem Zaz : ∀ l : List Str, (Zaj l).Perm l
 | [] => .refl _
 | a :: r => (Zdb a (Zaj r)).trans ((Zaz r).cons a)
theorem Zdk (a : Str) : ∀ l : List Str, l.Pairwise Zeu -> (Ze5 a l).Pairwise Zeu
 | [], _ => by simp [Ze5]
 | b :: r, h => by
  rw [Qa9] at h
  unfold Ze5
  split
  ·rename_i hb
   refine Qa9.mpr ⟨fun c hc => ?_, Zdk a r h.2⟩
   rcases Qaf.mp ((Zdb a r).mem_iff.mp hc) with e | e
   ·subst e; exact Za7 hb
   ·exact h.1 c e
  ·rename_i hb
   have hb : Zeu a b := by
    unfold Zeu
    simpa using hb
   refine Qa9.mpr ⟨fun c hc => ?_, Qa9.mpr h⟩
   rcases Qaf.mp hc with e | e
   ·subst e; exact hb
   ·exact Zji hb (h.1 c e)
theorem Zbw : ∀ l : List Str, (Zaj l).Pairwise Zeu
 | [] => by simp [Zaj]
 | a :: r => Zdk a _ (Zbw r)
theorem Zgz {l m : List Str} (hl : l.Pairwise Zeu) (hm : m.Pairwise Zeu) (h : l.Perm m) : l = m :=
 List.Perm.eq_of_pairwise (fun a b _ _ h1 h2 => Zay h2 h1) hl hm h
def rBl (K : KW) (f : Bf) : List V -> Hp -> VK -> Prop := fun vs H Q => ∃ φ S ds d, RelS K φ S H /\ RNs K φ S.nx H ds vs /\ Zft f ds = some d /\ Zd4 K φ S H Q d S
def bfV : Bf -> Value
 | .len => .builtin "len"
 | .abs => .builtin "abs"
 | .int => .type "int"
 | .tuple => .type "tuple"
 | .repr => .builtin "repr"
 | .all => .builtin "all"
 | .any => .builtin "any"
 | .max => .builtin "max"
 | .min => .builtin "min"
 | .str => .type "str"
def Za8 (K : KW) (φ : Nat -> Addr) (S : Store) (H : Hp) (Q : VK) (o : O) (S' : Store) : Prop := ∀ φ' H' a, Step φ S H φ' S' H' -> RelS K φ' S' H' -> Own K φ' S'.nx H' o a -> H a = none -> Q (.ref a) H'
theorem Za8.step {K : KW} {φ φ1 : Nat -> Addr} {S S1 : Store} {H H1 : Hp} {Q : VK} {o : O} {S' : Store} (st : Step φ S H φ1 S1 H1) (h : Za8 K φ S H Q o S') : Za8 K φ1 S1 H1 Q o S' := fun φ' H' a st' r ow hn => h φ' H' a (st.trans st') r ow (by
 cases z : H a with
 | none => rfl
 | some u =>
  obtain ⟨u', z'⟩ := st.trk a u z
  rw [hn] at z'; cases z')
theorem Z0i {K : KW} {φ : Nat -> Addr} {S : Store} {H : Hp} {Q : VK} {o : O} {u : HO} {p : Addr} (r : RelS K φ S H) (hu : RU K φ S.nx H p o u) (hp : H p = none) (h : Za8 K φ S H Q o S) : Q (.ref p) (upd H p u) := by
 obtain ⟨r', st⟩ := r.lay (o' := u) hp
 refine h φ _ p st r' ⟨⟨u, upd_same, hu.sub (st.sub r)⟩, fun i hi z => ?_⟩ hp
 obtain ⟨w, e, _⟩ := r.there hi
 rw [z, hp] at e; cases e
theorem Zv7 {K : KW} {φ : Nat -> Addr} {S : Store} {H : Hp} {Q : VK} {ds : List D} {vs : List V} {p : Addr} (r : RelS K φ S H) (rs : RVs K φ S.nx H ds vs) (hp : H p = none) (h : Za8 K φ S H Q (.lst ds) S) : Q (.ref p) (upd H p (.lst vs)) := Z0i (o := .lst ds) r ⟨vs, rfl, rs⟩ hp h
def rBo (K : KW) (f : Of) : List V -> Hp -> VK -> Prop := fun vs H Q => ∃ φ S ds o, RelS K φ S H /\ RNs K φ S.nx H ds vs /\ Zqq f ds = some o /\ Za8 K φ S H Q o S
def ofV : Of -> Value
 | .list => .type "list"
 | .sorted => .builtin "sorted"
 | .dict => .type "dict"
 | .sortedX => .builtin "sorted"
 | .dictT => .type "dict"
theorem Zmf {x : D} {z : Str} (h : Zgs x = some z) : ∃ p, deep Zep x = some p /\ p.showable = true /\ p.shown.length <= sizeLine /\ p.depth <= 60 /\ z = p.shown := by
 unfold Zgs at h
 cases e : deep Zep x with
 | none => rw [e] at h; cases h
 | some p =>
  rw [e] at h
  simp only [Option.bind_eq_bind, Option.bind_some] at h
  split at h
  ·rename_i hs
   exact ⟨p, rfl, hs.1, hs.2.1, hs.2.2, (Option.some.inj h).symm⟩
  ·cases h
end My
namespace My
open PySem PySem.Spec PyProof.Rows L2 SrtO Srt
variable [CP] [TC]
theorem Zdl : Swo Zai := by
 refine ⟨fun x y h => Za7 h, fun x y z h1 h2 => ?_⟩
 cases e : Zai z x with
 | false => rfl
 | true =>
  cases e2 : Zai x y with
  | true => rw [Ze9 e e2] at h2; cases h2
  | false =>
   have := Zay e2 h1
   subst this
   rw [e] at h2; cases h2
theorem Zdm : Swo Zch := by
 refine ⟨fun x y h => ?_, fun x y z h1 h2 => ?_⟩
 ·unfold Zch at h ⊢
  by_cases e : x.1 = y.1
  ·rw [Qan e] at h
   rw [Qan e.symm]
   exact Za7 h
  ·rw [Qat e] at h
   rw [Qat fun q => e q.symm]
   exact Za7 h
 ·unfold Zch at h1 h2 ⊢
  by_cases e1 : y.1 = x.1
  ·rw [Qan e1] at h1
   by_cases e2 : z.1 = y.1
   ·rw [Qan e2] at h2
    rw [Qan (e2.trans e1)]
    exact Zdl.tr _ _ _ h1 h2
   ·rw [Qat e2] at h2
    rw [Qat (fun q => e2 (q.trans e1.symm)), <- e1]
    exact h2
  ·rw [Qat e1] at h1
   by_cases e2 : z.1 = y.1
   ·rw [Qat (fun q => e1 (e2.symm.trans q)), e2]
    exact h1
   ·rw [Qat e2] at h2
    by_cases e3 : z.1 = x.1
    ·rw [e3] at h2
     exact absurd (Zay h1 h2) e1
    ·rw [Qat e3]
     exact Zdl.tr _ _ _ h1 h2
section
variable {prog : Program} {w : World} {A : Around} {E : Value -> Shared -> Prop} {s : Shared}
def Zh4 (h : Heap) (v : Value) (x y : Str) : Prop := ∃ a o t u n, v = .ref a /\ h.get? a = some o /\ o.cls = .type "tuple" /\ o.data = .seq #[.str x t, .str y u] n
theorem Zh4.keeps {h h' : Heap} {v : Value} {x y : Str} (p : Zh4 h v x y) (k : ∀ b o, h.get? b = some o -> o.cls = .type "tuple" -> h'.get? b = some o) : Zh4 h' v x y := by
 obtain ⟨a, o, t, u, n, e, ho, hc, hd⟩ := p
 exact ⟨a, o, t, u, n, e, k _ _ ho hc, hc, hd⟩
theorem Zny {h : Heap} : ∀ {vs : List Value}, (∀ v ∈ vs, ∃ x y, Zh4 h v x y) -> ∃ fs : List Value, PySem.W.KatTups h vs fs /\ fs.length = vs.length /\ ∀ f ∈ fs, ∃ x t, f = Value.str x t
 | [], _ => ⟨[], PySem.W.KatTups.nil, rfl, fun _ hm => by simp at hm⟩
 | v :: vs, hp => by
  obtain ⟨fs, h1, h2, h3⟩ := Zny (vs := vs) fun v' hm => hp v' (Qae _ hm)
  obtain ⟨x, y, a, o, t, u, n, e, ho, hc, hd⟩ := hp v (Qag ..)
  subst e
  refine ⟨.str x t :: fs, PySem.W.KatTups.cons ho hc hd rfl h1, by rw [Qai, Qai, h2], fun f hm => ?_⟩
  rcases Qaf.mp hm with rfl | hm
  ·exact ⟨x, t, rfl⟩
  ·exact h3 f hm
theorem Zv8 {vs : List Value} {k : Value -> Str × Str} (hp : ∀ v ∈ vs, Zh4 s.heap v (k v).1 (k v).2) : Cmp prog w A s (tuples' true) (fun p => p.1 ∈ vs) (lt2 fun v u => Zch (k v) (k u)) := by
 intro p q hm hm'
 have h1 := hp _ hm
 have h2 := hp _ hm'
 show wpAny (model prog w) A (keyLt' (tuples' true) p.1 q.1) (fun r s' => s' = s /\ r = Zch (k p.1) (k q.1)) (fun _ _ => False) s
 unfold Zch
 generalize (k p.1).1 = x at h1 ⊢
 generalize (k p.1).2 = y at h1 ⊢
 generalize (k q.1).1 = x' at h2 ⊢
 generalize (k q.1).2 = y' at h2 ⊢
 obtain ⟨a, o, t, u, n, e, ho, hc, hd⟩ := h1
 obtain ⟨a', o', t', u', n', e', ho', hc', hd'⟩ := h2
 rw [e, e']
 refine PySem.W.kat_lt ho hd ho' hd' ?_
 show PySem.W.KatLex prog w A true (decide (2 < 2)) _ [(.str x t, .str x' t'), (.str y u, .str y' u')] 0 s
 refine PySem.W.kat_cons (SeqAt.EqAt.str_str x t x' t' prog w _ _ ?_)
 refine PySem.W.kat_go (fun e1 => ?_) (fun e1 => ?_)
 ·have ex : x = x' := by simpa using e1
  refine PySem.W.kat_yes (PySem.W.kat_cons (SeqAt.EqAt.str_str y u y' u' prog w _ _ ?_))
  refine PySem.W.kat_go (fun e2 => ?_) (fun e2 => ?_)
  ·have ey : y = y' := by simpa using e2
   have e3 : (if x = x' then Zai y y' else Zai x x') = false := by
    rw [Qan ex, ey]
    exact Zba _
   exact PySem.W.kat_yes (PySem.W.kat_nil ⟨rfl, e3.symm⟩)
  ·have e3 : (if x = x' then Zai y y' else Zai x x') = Zai y y' := Qan ex
   refine PySem.W.kat_no (PySem.W.kat_one _ _ (PyProof.Rows.lt_str ?_))
   exact (show s = s /\ Zai y y' = (if x = x' then Zai y y' else Zai x x') from ⟨rfl, e3.symm⟩)
 ·have ex : ¬ x = x' := by simpa using e1
  have e3 : (if x = x' then Zai y y' else Zai x x') = Zai x x' := Qat ex
  exact PySem.W.kat_no (oneLt_str ⟨rfl, e3.symm⟩)
theorem Zh5 {a : Addr} {vs : List Value} {k : Value -> Str × Str} (h0 : 0 < vs.length) (hp : ∀ v ∈ vs, Zh4 s.heap v (k v).1 (k v).2) (ha : ∀ o, s.heap.get? a = some o -> o.cls ≠ .type "tuple") : SortableO prog w A s a vs fun v u => Zch (k v) (k u) := by
 intro h' keep
 have hp' : ∀ v ∈ vs, Zh4 h' v (k v).1 (k v).2 := fun v hm => (hp v hm).keeps fun b o e c => keep b o (fun z => by subst z; exact ha o e c) e
 obtain ⟨fs, h1, h2, h3⟩ := Zny fun v hm => ⟨_, _, hp' v hm⟩
 refine ⟨tuples' true, fun Q E hq => ?_, Zv8 hp'⟩
 refine PySem.W.kat_kind (T := .type "str") h1 (by omega) (fun f hm => ?_) (by rfl) ?_
 ·obtain ⟨x, t, rfl⟩ := h3 f hm
  exact PySem.W.Looks.now
 ·have e : (Value.type "str" != Value.type "tuple") = true := by first | decide +kernel | rfl | decide
  rw [e]
  exact hq
theorem Zfa {v : Value} {vs : List Value} {ltv : Value -> Value -> Bool} {Q : Value -> Shared -> Prop} (O : Swo ltv) (hz : vs.length <= sizeLine)
  (hcol : ∀ Q' : List Value -> Shared -> Prop, (∀ (h' : Heap) (tk : Nat), (∀ b o, s.heap.get? b = some o -> h'.get? b = some o) -> Q' vs { s with heap := h', toks := tk }) -> wpAny (model prog w) A.in1 (collect v) Q' E s)
  (hS : 2 <= vs.length -> ∀ (h₁ : Heap) (tk : Nat) (a : Addr), h₁.get? a = some (seqObj "list" vs.toArray 0) -> (∀ b o, s.heap.get? b = some o -> h₁.get? b = some o) -> SortableO prog w A.in1.in1 { s with heap := h₁, toks := tk } a vs ltv)
  (h : ∀ (h' h2 : Heap) (tk : Nat) (d : Addr) (out : List Value), Srtd ltv out -> Stb ltv out vs -> (∀ b o, s.heap.get? b = some o -> h'.get? b = some o) -> (∀ b o, h'.get? b = some o -> h2.get? b = some o) -> h'.objs.size <= d -> (∃ n, h2.get? d = some (seqObj "list" out.toArray n)) -> Q (.ref d) { s with heap := h2, toks := tk }) :
  wpAny (model prog w) A (PySem.call (.builtin "sorted") [v]) Q E s := by
 refine Calls.call_function_entry kind_sorted plain_sorted entry_sorted (args_sorted1 _) ?_
 unfold Builtin.«sorted»
 refine Qac (m := checkCount "sorted" 1 1 _) (Qah ?_)
 refine Qac (hcol _ fun h' tk kp => ?_)
 refine Qac (wpAny_newList ?_ hz)
 have hoL : (h'.push (seqObj "list" vs.toArray 0)).get? h'.objs.size = some (seqObj "list" vs.toArray 0) := Qa0 _ rfl
 have kp2 : ∀ b o, s.heap.get? b = some o -> (h'.push (seqObj "list" vs.toArray 0)).get? b = some o := fun b o e => Qam _ (kp b o e)
 show wpAny _ _ _ _ _ { s with heap := h'.push (seqObj "list" vs.toArray 0), toks := tk }
 refine Qac (wpAny_holding (wpAny_call_entry slot_list_sort ⟨_, hoL, rfl⟩ entry_list_sort (list_sort_ord O hoL hz (fun h2 => hS h2 _ tk _ hoL kp2) fun out hs hb => ⟨_, rfl, ?_⟩) (args_list_sort _)))
 refine Qah ⟨_, rfl, h h' _ tk _ out hs hb kp (fun b o e => ?_) (Qao _) (sortedHeap_at hoL)⟩
 have hb' : b < h'.objs.size := Heap.lt_size e
 rw [sortedHeap_old (Qbg hb') (by rw [size_push']; exact Nat.lt_succ_of_lt hb')]
 exact Qam _ e
theorem Zjj {l : Addr} {o : Obj} {vs : List Value} {n : Nat} {Q : List Value -> Shared -> Prop} (ho : s.heap.get? l = some o) (hc : o.cls = .type "tuple") (hd : o.data = .seq vs.toArray n)
  (h : Q vs { s with heap := (s.heap.push (seqObj "list" #[] 0)).update s.heap.objs.size (Obj.mapSeq (· ++ vs.toArray)) }) (hsz : vs.length <= sizeLine) :
  wpAny (model prog w) A (collect (.ref l)) Q E s := by
 unfold collect
 refine Qac (wpAny_runValue (codeAny_builtin entry_proto_collect' ?_))
 show wpAny _ _ (do again (.builtin "list.__iadd__" ⟨[<- newList [], .ref l], []⟩)) _ _ s
 refine Qac (wpAny_newList (Qah ⟨Code.quiet_builtin _ (by decide +kernel), codeAny_builtin entry_list_iadd' ?_⟩))
 show wpAny _ _ (Builtin.List.listExtendWith (.ref s.heap.objs.size) (.ref l) (.ref s.heap.objs.size)) _ _ { s with heap := s.heap.push (seqObj "list" #[] 0) }
 unfold Builtin.List.listExtendWith
 have ho' : (s.heap.push (seqObj "list" #[] 0)).get? l = some o := Qam _ ho
 refine Qac (wpAny_typeOf (T := "tuple") ⟨o, ho', hc⟩ ?_)
 have ht : (Value.type "tuple" == Value.type "tuple") = true := by rfl
 rw [Qan (by rw [ht]; simp)]
 refine Qac (listItems_at ho' hd ?_)
 refine Qac (listItems_at (xs := #[]) (n := 0) (Qa0 _ rfl) rfl ?_)
 rw [Qat (by simp)]
 refine Qac (listUpdate_at (xs := #[]) (n := 0) (Qa0 _ rfl) rfl ?_ (Qax _) (by show (#[] ++ vs.toArray).size <= sizeLine + 1; simp only [Array.size_append, Qa6, List.length_nil]; omega))
 refine Qah ?_
 show wpAny (model prog w) A (do
   let o <- load s.heap.objs.size
   match o.data with
   | .seq xs _ => pure xs.toList
   | _ => unsupported "internal:collect") Q E { s with heap := (s.heap.push (seqObj "list" #[] 0)).update s.heap.objs.size (Obj.mapSeq (· ++ vs.toArray)) }
 refine Qac (wpAny_load (get?_update_seq (Qa0 _ rfl) _) ?_)
 show wpAny _ _ (pure ((#[] : Array Value) ++ vs.toArray).toList) Q E _
 rw [show ((#[] : Array Value) ++ vs.toArray).toList = vs by simp]
 exact Qah h
theorem Zh6 (h : Heap) (f : Array Value -> Array Value) {b : Addr} {o : Obj} (e : h.get? b = some o) : ((h.push (seqObj "list" #[] 0)).update h.objs.size (Obj.mapSeq f)).get? b = some o := by
 rw [Heap.get?_update_ne _ _ _ _ (Qbg (Heap.lt_size e))]
 exact Qam _ e
def Zqs : Value -> Str
 | .str x _ => x
 | _ => ""
theorem Zh7 {a : Addr} {vs : List Value} (h2 : 2 <= vs.length) (hp : ∀ v ∈ vs, ∃ x t, v = .str x t) : SortableO prog w A s a vs fun v u => Zai (Zqs v) (Zqs u) := by
 intro h' keep
 have hS : ∀ vs : List Value, (∀ v ∈ vs, ∃ x t, v = .str x t) -> StrsAre vs (vs.map Zqs) := by
  intro vs h
  refine L2.strs_at (by simp) fun j u e => ?_
  obtain ⟨x, t, rfl⟩ := h u (Qbi e)
  exact ⟨x, t, by rw [Qar, e]; rfl, rfl⟩
 match vs, h2, hp with
 | v1 :: v2 :: r, _, hp =>
  refine ⟨oneType', fun Q E hq => ?_, fun p q hm hm' => ?_⟩
  ·rw [keyKind_strs (hS _ hp)]
   exact Qah hq
  ·obtain ⟨x, t, e1⟩ := hp _ hm
   obtain ⟨y, u, e2⟩ := hp _ hm'
   show wpAny (model prog w) A (keyLt' oneType' p.1 q.1) (fun r s' => s' = _ /\ r = Zai (Zqs p.1) (Zqs q.1)) (fun _ _ => False) _
   rw [e1, e2, keyLt'_oneType]
   exact oneLt_str ⟨rfl, rfl⟩
end
section
variable {X : Cx} {pins : List (Addr × Obj)} {σ : L2.St} {H : Hp} {s : Shared} {a : Addr}
def Zv9 (X : Cx) (s : Shared) (a : Addr) (xs : List V) : Prop := ∃ its : List Value, Vals xs its /\ xs.length <= sizeLine /\ ∀ (Q' : List Value -> Shared -> Prop) (E : Value -> Shared -> Prop),
 (∀ (h' : Heap) (tk : Nat), (∀ b o, s.heap.get? b = some o -> h'.get? b = some o) -> Q' its { s with heap := h', toks := tk }) -> wpAny (model X.prog X.w) X.A.in1 (collect (.ref a)) Q' E s
theorem Znz {xs : List V} (I : Inv X pins σ H s) (hs : SqL X.kw H a xs) : Zv9 X s a xs := by
 obtain ⟨its, rv, hl, hz⟩ := I.list hs
 exact ⟨its, rv, hz, fun Q' E h => collect_list hl.isList (h _ s.toks fun b o e => Zh6 _ _ e) (by rw [<- rv.length]; exact hz)⟩
theorem Zra {xs : List V} (I : Inv X pins σ H s) (ht : TX H a xs) : Zv9 X s a xs := by
 obtain ⟨ob, ht, _⟩ := ht
 obtain ⟨_, hz, its, r, o, ho, hc, n, hd⟩ := (show ObjOk X.prog X.w H s.heap a (.frz ob (.tup xs)) from I.hok _ _ ht)
 exact ⟨its, r, hz, fun Q' E h => Zjj ho hc hd (h _ s.toks fun b o e => Zh6 _ _ e) (by rw [<- r.length]; exact hz)⟩
theorem Zwa {kx : List (NestedKey × Addr × V)} (hc : X.calm = true) (I : Inv X pins σ H s) (hd : Rd H a (XT X.prog X.w a kx)) : Zv9 X s a (kx.map fun p => V.ref p.2.1) := by
 obtain ⟨⟨z, hs, ks, pr, o, es, ep, ho, hx, hdt, he, hn⟩, _⟩ := (show ObjOk X.prog X.w H s.heap a (XT X.prog X.w a kx) from rd_of I.hok hd)
 have l1 : es.size = ks.length := size_of_entries he
 have l2 : kx.length = ks.length := Paired.length pr
 have ad : (kx.map fun p => V.ref p.2.1) = (ks.map fun x => x.2.1).map V.ref := by
  have all : ∀ {l : List (NestedKey × Addr × V)} {m : List (NestedKey × Addr × Value)}, KX l m -> (l.map fun p => V.ref p.2.1) = (m.map fun x => x.2.1).map V.ref := by
   intro l m q
   induction q with
   | nil => rfl
   | cons h t ih => rw [Qaj, Qaj, Qaj, ih, h.2.1]
  exact all pr
 rw [ad]
 refine ⟨(ks.map fun x => x.2.1).map Value.ref, vals_refs _, by rw [Qal, Qal]; omega, fun Q' E h => ?_⟩
 refine PySem.W.kdu_collect (kdl_raw hs hx hdt) (I.ok.hd hc) ho (by omega) fun h' tk acc' kp it => ?_
 have ea : acc'.toList = ks.map fun x => Value.ref x.2.1 := by
  have hl : acc'.toList.length = ks.length := by rw [Array.length_toList, it.1]; exact l1
  apply List.ext_getElem?
  intro j
  rw [Qar]
  cases hj : acc'.toList[j]? with
  | none =>
   have h1 := List.getElem?_eq_none_iff.mp hj
   rw [Qba (by omega)]
   all_goals rfl
  | some v =>
   obtain ⟨en, hen, hv⟩ := it.2 j v (by rw [<- Qbl]; exact hj)
   have qe := entry_at he j
   rw [hen] at qe
   cases hb : ks[j]? with
   | none =>
    rw [hb] at qe
    exact nomatch (show some en = none from qe)
   | some b =>
    rw [hb] at qe
    have e2 : en = entryOfKey (nestedKind X.prog X.w) b := Option.some.inj qe
    rw [hv, e2]
    all_goals rfl
 have eb : acc'.toList = (ks.map fun x => x.2.1).map Value.ref := by rw [ea, Qbm]; all_goals rfl
 rw [eb]
 exact h h' tk kp
theorem Zmg {es : List DictEntry} {xs : List (Key × Value)} (h : Pairs (mixKind X.prog X.w) es xs) : ∀ {ks : List (Key × V)}, KV ks xs -> Vals (ks.map fun p => kV p.1) (es.map (·.key)) := by
 induction h with
 | nil => intro ks q; cases q; exact .nil
 | @cons e kv es xs h1 h2 _ ih =>
  intro ks q
  cases q with
  | cons a t =>
   refine .cons ?_ (ih t)
   have e1 := a.1
   show L2.RelV (kV _) e.key
   rw [e1]
   rcases keyIs_shape (show keyIs kv.1 e.key = true from h1) with ⟨i, t, ek, ev⟩ | ⟨z, t, ek, ev⟩
   ·rw [ek, ev]; exact ⟨t, rfl⟩
   ·rw [ek, ev]; exact ⟨t, rfl⟩
theorem Zwb {kx : List (Key × V)} (hc : X.calm = true) (I : Inv X pins σ H s) (hd : Rd H a (.dK kx)) : Zv9 X s a (kx.map fun p => kV p.1) := by
 obtain ⟨z, hs, xs, rel, o, es, ep, ho, hx, hdt, _, pr, _⟩ := dk_rd I.hok hd
 have vk := Zmg pr rel
 have l1 : es.size = kx.length := by
  have := vk.length
  rw [Qal, Qal] at this
  rw [<- Array.length_toList]
  omega
 refine ⟨es.toList.map (·.key), vk, by rw [Qal]; exact z, fun Q' E h => ?_⟩
 refine PySem.W.kdu_collect (kdl_raw hs hx hdt) (I.ok.hd hc) ho (by omega) fun h' tk acc' kp it => ?_
 have ea : acc'.toList = es.toList.map (·.key) := by
  have hl : acc'.toList.length = es.toList.length := by rw [Array.length_toList, it.1, Array.length_toList]
  apply List.ext_getElem?
  intro j
  rw [Qar]
  cases hj : acc'.toList[j]? with
  | none =>
   have h1 := List.getElem?_eq_none_iff.mp hj
   rw [Qba (by omega)]
   all_goals rfl
  | some v =>
   obtain ⟨en, hen, hv⟩ := it.2 j v (by rw [<- Qbl]; exact hj)
   rw [Qbl, hen, hv]
   all_goals rfl
 rw [ea]
 exact h h' tk kp
theorem Zh8 : ∀ {ss : List Str} {its : List Value}, Vals (ss.map V.str) its -> its.map Zqs = ss /\ ∀ v ∈ its, ∃ x t, v = .str x t
 | [], _, h => by cases h; exact ⟨rfl, by simp⟩
 | s :: ss, _, h => by
  cases h with
  | cons r t =>
   obtain ⟨e1, e2⟩ := Zh8 t
   obtain ⟨k, rfl⟩ := r
   refine ⟨by rw [Qaj, e1]; rfl, fun v hv => ?_⟩
   rcases Qaf.mp hv with rfl | hv
   ·exact ⟨_, _, rfl⟩
   ·exact e2 v hv
theorem Zn0 {ss : List Str} {u : Value} {Q : VK} (I : Inv X pins σ H s) (c : Zv9 X s a (ss.map V.str)) (q : ∀ p, H p = none -> Q (.ref p) (upd H p (.lst ((Zaj ss).map V.str)))) :
  wpAny (model X.prog X.w) X.A (PySem.call (.builtin "sorted") [.ref a]) (EP X pins σ Q) X.xe s := by
 obtain ⟨its, rv, hz, hc⟩ := c
 have hl : its.length = ss.length := by rw [<- rv.length, Qal]
 rw [Qal] at hz
 obtain ⟨hm, hv⟩ := Zh8 rv
 refine Zfa (ltv := fun v u => Zai (Zqs v) (Zqs u)) (O := ⟨fun x y => Zdl.asym _ _, fun x y z => Zdl.tr _ _ _⟩) (by omega) (hc · X.xe) (fun h2 h₁ tk b _ _ => Zh7 h2 hv) fun h' h2 tk d out h1 hst kp kp2 hd hn => ?_
 obtain ⟨n, hn⟩ := hn
 have I1 : Inv X pins σ H { s with heap := h', toks := tk } := I.kept kp
 have so : out.map Zqs = Zaj ss := by
  refine Zgz ?_ (Zbw ss) (((hst.perm.map Zqs).trans (by rw [hm])).trans (Zaz ss).symm)
  exact List.pairwise_map.mpr h1
 have ho : ∀ v ∈ out, ∃ x t, v = .str x t := fun v m => hv v (hst.perm.mem_iff.mp m)
 have rv2 : Vals ((Zaj ss).map V.str) out := by
  rw [<- so, Qbm]
  clear so hn hst h1
  induction out with
  | nil => exact .nil
  | cons v out ih =>
   obtain ⟨x, t, rfl⟩ := ho v Qag
   exact .cons ⟨t, rfl⟩ (ih fun v m => ho v (Qae _ m))
 refine ⟨.ref d, upd H d (.lst ((Zaj ss).map V.str)), I1.laid (t' := tk) kp2 hd ⟨?_, out, n, rv2, hn⟩, rfl, q d (I1.hok.fresh hd)⟩
 rw [Qal, (Zaz ss).length_eq]
 exact hz
theorem Zd5 (a : Str × Str) : ∀ l : List (Str × Str), (Zi6 a l).Perm (a :: l)
 | [] => .refl _
 | b :: r => by
  unfold Zi6
  split
  ·exact ((Zd5 a r).cons b).trans (.swap a b r)
  ·exact .refl _
theorem Zfb : ∀ l : List (Str × Str), (Ze6 l).Perm l
 | [] => .refl _
 | a :: r => (Zd5 a (Ze6 r)).trans ((Zfb r).cons a)
theorem Zee (a : Str × Str) : ∀ l : List (Str × Str), Srtd Zch l -> Srtd Zch (Zi6 a l)
 | [], _ => by simp [Zi6]
 | b :: r, h => by
  have h0 := h
  rw [Srtd, Qa9] at h
  unfold Zi6
  split
  ·rename_i hb
   refine Qa9.mpr ⟨fun c hc => ?_, Zee a r h.2⟩
   rcases Qaf.mp ((Zd5 a r).mem_iff.mp hc) with e | e
   ·subst e; exact Zdm.asym _ _ hb
   ·exact h.1 c e
  ·rename_i hb
   have hb : Zch b a = false := by simpa using hb
   refine Qa9.mpr ⟨fun c hc => ?_, h0⟩
   rcases Qaf.mp hc with e | e
   ·subst e; exact hb
   ·exact Zdm.tr _ _ _ hb (h.1 c e)
theorem Zdn : ∀ l : List (Str × Str), Srtd Zch (Ze6 l)
 | [] => List.Pairwise.nil
 | a :: r => Zee a _ (Zdn r)
theorem Zmh {a b : Str × Str} (h : Zch a b = false) (h' : Zch b a = false) : a = b := by
 unfold Zch at h h'
 by_cases e : a.1 = b.1
 ·rw [Qan e] at h
  rw [Qan e.symm] at h'
  exact Prod.ext e (Zay h h')
 ·rw [Qat e] at h
  rw [Qat fun q => e q.symm] at h'
  exact absurd (Zay h h') e
theorem Zmi {l m : List (Str × Str)} (hl : Srtd Zch l) (hm : Srtd Zch m) (h : l.Perm m) : l = m :=
 h.eq_of_pairwise (le := fun x y => Zch y x = false) (fun _ _ _ _ h1 h2 => Zmh h2 h1) hl hm
def prV (H : Hp) : V -> Str × Str
 | .ref t => match H t with
  | some (.frz _ (.tup [.str x, .str y])) => (x, y)
  | _ => ("", "")
 | _ => ("", "")
theorem Zrb {xs : List V} {Q : VK} (I : Inv X pins σ H s) (c : Zv9 X s a xs) (hx : ∀ x ∈ xs, ∃ t y z, x = V.ref t /\ TX H t [.str y, .str z])
  (q : ∀ p ys, ys.Perm xs -> ys.map (prV H) = Ze6 (xs.map (prV H)) -> H p = none -> Q (.ref p) (upd H p (.lst ys))) :
  wpAny (model X.prog X.w) X.A (PySem.call (.builtin "sorted") [.ref a]) (EP X pins σ Q) X.xe s := by
 obtain ⟨its, rv, hz, hc⟩ := c
 obtain ⟨e1, e2⟩ := refs_back rv fun x m => by
  obtain ⟨t, _, _, e, _⟩ := hx x m
  exact ⟨t, e⟩
 have hp : ∀ v ∈ its, Zh4 s.heap v (prV H (backV v)).1 (prV H (backV v)).2 := fun v hv => by
  obtain ⟨t, rfl⟩ := e2 v hv
  have hm : V.ref t ∈ xs := by rw [e1]; exact Qa2.mpr ⟨_, hv, rfl⟩
  obtain ⟨t', y, z, e, ht⟩ := hx _ hm
  cases e
  obtain ⟨ob, ht, _⟩ := ht
  obtain ⟨_, _, its2, r2, o, ho, hc, n, hd⟩ := (show ObjOk X.prog X.w H s.heap t (.frz ob (.tup [.str y, .str z])) from I.hok _ _ ht)
  obtain ⟨u1, u2, rfl, ri, rj⟩ := vals2 r2
  obtain ⟨t1, rfl⟩ := ri
  obtain ⟨t2, rfl⟩ := rj
  have e3 : prV H (backV (.ref t)) = (y, z) := by
   show (match H t with | some (.frz _ (.tup [.str x, .str y])) => (x, y) | _ => ("", "")) = _
   rw [ht]
  rw [e3]
  exact ⟨t, o, t1, t2, n, rfl, ho, hc, hd⟩
 refine Zfa (ltv := fun v u => Zch (prV H (backV v)) (prV H (backV u))) (O := ⟨fun x y => Zdm.asym _ _, fun x y z => Zdm.tr _ _ _⟩) (by rw [<- rv.length]; exact hz) (hc · X.xe) (fun h2 h₁ tk b ha kp => ?_) fun h' h2 tk d out h1 hst kp kp2 hd hn => ?_
 ·refine Zh5 (s := { s with heap := h₁, toks := tk }) (by omega) (fun v hm => (hp v hm).keeps fun b o e _ => kp b o e) fun o e => ?_
  have e' : some o = some (seqObj "list" its.toArray 0) := e.symm.trans ha
  cases e'
  intro c
  exact absurd (Value.type.inj c) (by decide)
 ·obtain ⟨n, hn⟩ := hn
  have I1 : Inv X pins σ H { s with heap := h', toks := tk } := I.kept kp
  have h3 : ∀ u ∈ out, ∃ a, u = Value.ref a := fun u hu => e2 u (hst.perm.mem_iff.mp hu)
  have pm : (out.map backV).Perm xs := by rw [e1]; exact hst.perm.map backV
  have so : (out.map backV).map (prV H) = Ze6 (xs.map (prV H)) := by
   refine Zmi ?_ (Zdn _) ((pm.map _).trans (Zfb _).symm)
   rw [Qbm]
   exact List.pairwise_map.mpr h1
  refine ⟨.ref d, upd H d (.lst (out.map backV)), I1.laid (t' := tk) kp2 hd ⟨?_, out, n, vals_back h3, hn⟩, rfl, q d _ pm so (I1.hok.fresh hd)⟩
  rw [pm.length_eq]
  exact hz
end
end My
namespace My
open PySem PySem.W PySem.Calls PyProof.Rows PyProof.V PySem.Spec DT
variable [CP] [TC]
section
variable {K : Type} [DecidableEq K] {prog : Program} {w : World} {knd : HeapKind prog w K}
theorem Zn1 {d b : Addr} {k : K} (hd : (d == sysModules) = false) :
  MeetsIn prog w (Builtin.«dict.pop» ⟨[.ref d, .ref b], []⟩) (fun A R s => ∃ xs, knd.room A.in1 /\ knd.is s.heap k b /\ s.heap.DictOfH knd d xs /\ xs.length <= sizeLine /\
   ∃ p, atKey xs k = some p /\ ∀ h' tk, h'.DictOfH knd d (dropH xs k) -> Heap.SameBut d s.heap h' -> R (.ok (.ret p.2)) { s with heap := h', toks := tk }) :=
 .of_wp fun A R s ⟨xs, hu, hkey, hm, hsz, p0, hp0, hsome⟩ => by
  obtain ⟨o, es, ep, ho, hc, hdat, he, his, hn⟩ := id hm
  have hes : es.size = xs.length := size_of_entries he
  have hpart : (keyPart (Value.ref b)).isSome = false := rfl
  unfold Builtin.«dict.pop»
  refine Qac ?_
  unfold Builtin.Dict.keyAndDefault
  refine Qac (wpAny_notOrdered_dict hm.typeIs ?_)
  show wpAny _ _ (pure (d, Value.ref b, none)) _ _ s
  refine Qah ?_
  simp only [hpart, Bool.false_eq_true, if_false]
  refine Qac (wpAny_dictEntries ho hdat (Qac (Qah ?_)))
  cases hem : es.isEmpty with
  | true =>
   have h0 : xs = [] := by
    have z : es.size = 0 := by simpa using hem
    exact List.length_eq_zero_iff.mp (by omega)
   rw [h0] at hp0
   cases hp0
  | false =>
   simp only [Bool.false_eq_true, if_false]
   refine Qac (takeH hu hkey hm hsz (fun hno => ?_) fun p e hp hev h' hm' hs' => ?_)
   ·rw [hno] at hp0; cases hp0
   ·simp only [Option.isNone_some, Bool.false_eq_true, if_false]
    rw [hp0] at hp
    cases hp
    exact Qac (wpAny_letGo (Qah ⟨e.val, rfl, by rw [hev]; exact hsome h' _ hm' hs'⟩))
end
open L2 in
theorem Zrc {X : Cx} (hu : X.A.units + 10 < cLine) : MtR X "dict.pop" (fun x xs H Q => ∃ (a : Addr) (kvs : List (NestedKey × Addr × V)) (k : NestedKey) (b : Addr) (v : V), x = .ref a /\ xs = [.ref b] /\ H a = some (XT X.prog X.w a kvs) /\ KA H kvs /\ KN H k b /\ valV (kvs.map noB) k = some v /\ Q v (upd H a (XT X.prog X.w a (Zje kvs k)))) := by
 intro pins s σ H x xs v us Q I rx rxs h
 obtain ⟨a, kvs, k, b, d, rfl, rfl, ha, ka, hb, ev, q1⟩ := h
 cases rx
 obtain ⟨u1, rfl, r1⟩ := vals1 rxs
 cases r1
 obtain ⟨z, hd, xs', rel, dd⟩ := Zmd I (.inl ha) ka
 have hz : xs'.length <= sizeLine := by rw [<- Paired.length rel]; exact z
 have r := rel.val k
 rw [ev] at r
 obtain ⟨p, hp, rv⟩ : ∃ p, atKey xs' k = some p /\ RelV d p.2 := by
  cases e : atKey xs' k with
  | none => rw [e] at r; exact (show False from r).elim
  | some p => rw [e] at r; exact ⟨p, rfl, r⟩
 refine call_meetsIn PySem.F.slot_dict_pop dd.typeIs PySem.F.entry_dict_pop (PySem.F.args_dict_pop_2 _ _) (Zn1 (knd := nestedKind X.prog X.w) (k := k) hd)
  ⟨xs', Ze8 hu, Zcl I hb, dd, hz, p, hp, fun h' tk dd' hs => ?_⟩
 obtain ⟨o, es, ep, hq, h2, h3, h4, _, h5⟩ := dd'
 have I2 : Inv X pins σ (upd H a (XT X.prog X.w a (Zje kvs k))) { s with heap := h', toks := tk } :=
  d_write I (by rw [ha]; exact True.intro) hs ⟨o, hq⟩ (XT.ok ⟨Qaw (List.length_filter_le _ _) z, hd, _, rel.drop k, o, es, ep, hq, h2, h3, h4, h5⟩)
 show EP X pins σ Q p.2 _
 exact ⟨d, _, I2, rv, q1⟩
open L2 in
theorem Zrd {X : Cx} : MtR X "dict.pop" (fun x xs H Q => ∃ (a : Addr) (kvs : List (L2.Key × V)) (k : L2.Key) (v : V), x = .ref a /\ xs = [kV k] /\ H a = some (.dK kvs) /\ valV kvs k = some v /\ Q v (upd H a (.dK (dropK kvs k)))) := by
 intro pins s σ H x xs v us Q I rx rxs h
 obtain ⟨a, kvs, k, d, rfl, rfl, ha, ev, q1⟩ := h
 cases rx
 obtain ⟨u1, rfl, r1⟩ := vals1 rxs
 exact d_pop I ha r1 ev (.inl rfl) fun w' s' I' rw' => ⟨d, _, I', rw', q1⟩
end My
namespace My
open PySem PySem.W PySem.Calls PyProof.Rows PySem.SeqAt
section
variable {prog : Program} {w : World} {A : Around} {E : Value -> Shared -> Prop} {s : Shared}
theorem Zg0 {Q : Value -> Shared -> Prop} {l b : Addr} {items items2 : Array Value} {e r : Nat -> Bool} (hl : s.heap.IsTuple l items) (hb : s.heap.IsTuple b items2)
  (he : ∀ j (h1 : j < items.size) (h2 : j < items2.size), EqAt A.in1 s items[j] items2[j] (e j)) (hr : ∀ j (h1 : j < items.size) (h2 : j < items2.size), e j = false -> RcLt A.in1 s items[j] items2[j] (r j))
  (h : Q (.bool (firstLt e r (decide (items.size < items2.size)) (List.range (min items.size items2.size)))) s) : wpAny (model prog w) A (PySem.call (.builtin "tuple.__lt__") [.ref l, .ref b]) Q E s := by
 obtain ⟨⟨cls, dd, data, sl⟩, ho, hc, n, hd⟩ := id hl
 obtain ⟨⟨cls2, dd2, data2, sl2⟩, ho2, hc2, n2, hd2⟩ := id hb
 simp only at hc hd hc2 hd2
 subst hc hd hc2 hd2
 exact call_meets F.slot_tuple_lt ⟨_, ho, rfl⟩ F.entry_tuple_lt (F.args_tuple_lt_2 _ _) (tuple_ltAt l b items items2 n n2 dd dd2 sl sl2 e r) ⟨ho, ho2, he, hr, h⟩
theorem Zmj {xs ys : List PyData} {a b : Value} {as bs : List Addr} {Q : Bool -> Shared -> Prop} (ra : Reads s.heap a (.tuple xs) as) (rb : Reads s.heap b (.tuple ys) bs) (hal : alikeAll xs ys = true)
  (hu : A.units + min (PyData.tuple xs).depth (PyData.tuple ys).depth < cLine) (hq : Q (dataLt (.tuple xs) (.tuple ys)) s) : wpAny (model prog w) A (oneLt' true a b) Q E s := by
 cases ra with
 | @tuple l o vs n _ as₁ h1 h2 h3 h4 =>
  cases rb with
  | @tuple l' o' vs' n' _ bs₁ k1 k2 k3 k4 =>
   have n1 : vs.size = xs.length := by simpa using ReadsAll.length _ _ _ h4
   have n2 : vs'.size = ys.length := by simpa using ReadsAll.length _ _ _ k4
   rw [dataLt_tuple, <- firstLt_toks xs ys hal, <- n1, <- n2] at hq
   rw [oneLt'_eq]
   simp only [if_true]
   refine Qac (wpAny_cRoomFor (room_here hu) ?_)
   refine Qac (wpAny_callSpecialIfBound?_slot (T := "tuple") ⟨_, h1, h2⟩ F.slot_tuple_lt (Zg0 (e := pairEq xs ys) (r := fun j => dataLt (xs.getD j .none) (ys.getD j .none)) ⟨_, h1, h2, _, h3⟩ ⟨_, k1, k2, _, k3⟩ (fun j j1 j2 => ?_) (fun j j1 j2 hj => ?_) ?_))
   ·have := eqAt_alikeAll xs ys A.in1 s vs.toList vs'.toList _ _ h4 k4 hal (room_in hu) j (by simpa using j1) (by simpa using j2)
    simpa using this
   ·have := rcLt_alikeAll xs ys A.in1 s vs.toList vs'.toList _ _ h4 k4 hal (room_in hu) j (by simpa using j1) (by simpa using j2) hj
    simpa using this
   ·exact wpAny_truthy_bool hq
def Zud (h : Heap) (vs : List Value) (fs : List (Option Value)) : Prop := EachIs (fun v f => ∃ a o xs n, v = Value.ref a /\ h.get? a = some o /\ o.cls = .type "tuple" /\ o.data = .seq xs n /\ xs[0]? = f) vs fs
theorem Zga {M : Model} : ∀ (vs : List Value) (fs : List (Option Value)) {Q : List (Option Value) -> Shared -> Prop}, Zud s.heap vs fs -> Q fs s -> wpAny M A (vs.mapM firstOfTuple') Q E s
 | [], fs, _, t, h => by
  cases t
  rw [List.mapM_nil]
  exact Qah h
 | v :: vs, fs, Q, t, h => by
  cases t with
  | @cons _ f _ fs h1 t =>
   obtain ⟨a, o, xs, n, rfl, ho, hc, hd, hf⟩ := h1
   rw [List.mapM_cons]
   refine Qac ?_
   rw [kas_first_eq]
   refine Qac (Looks.here (show Looks M s.heap (typeOf (.ref a)) o.cls from (Looks.ld ho).andThen .now) ?_)
   rw [hc, Qat (by first | decide | simp)]
   refine Qac (listItems_at ho hd (Qah ?_))
   rw [hf]
   exact Qac (Zga vs fs (Q := fun bs s' => wpAny M A (pure (f :: bs)) Q E s') t (Qah h))
theorem Zh9 {h : Heap} : ∀ {vs : List Value} {ds : List PyData}, EachIs (fun v d => ∃ as, Reads h v d as) vs ds -> (∀ d, d ∈ ds -> ∃ r, d = .tuple r) -> ∃ fs, Zud h vs fs /\ fs.length = ds.length /\ (fs.all (·.isSome) = true -> ∀ d, d ∈ ds -> ∃ x r, d = .tuple (x :: r))
 | _, _, .nil, _ => ⟨[], .nil, rfl, fun _ d hd => absurd hd (by simp)⟩
 | _, _, .cons (b := d) ⟨as, r⟩ t, ht => by
  obtain ⟨fs, h1, h2, h3⟩ := Zh9 t fun d hd => ht d (Qae _ hd)
  obtain ⟨rest, rfl⟩ := ht d (Qag ..)
  cases r with
  | @tuple a o xs n _ _ ho hc hd hr =>
   refine ⟨xs[0]? :: fs, .cons ⟨a, o, xs, n, rfl, ho, hc, hd, rfl⟩ h1, by rw [Qai, Qai, h2], fun ha d' hd' => ?_⟩
   rw [Qas, Qaa] at ha
   rcases Qaf.mp hd' with rfl | hd'
   ·cases rest with
    | nil =>
     have q : xs.toList.length = 0 := by simpa using SeqAt.ReadsAll.length _ _ _ hr
     have q2 : xs[0]? = none := by
      rw [<- Qbl]
      exact Qba (by omega)
     rw [q2] at ha
     exact absurd ha.1 (by simp)
    | cons x r => exact ⟨x, r, rfl⟩
   ·exact h3 ha.2 d' hd'
theorem SortsAt.empties {vs : List Value} {ds : List PyData} (e : EachIs (fun v d => ∃ as, Reads s.heap v d as) vs ds) (hal : AllAlike ds) (ht : ∀ d, d ∈ ds -> ∃ r, d = .tuple r) (hu : ∀ d, d ∈ ds -> A.units + d.depth < cLine) : SortsAt prog w A s (dataKind s.heap ds) vs := by
 by_cases hne : ∀ d, d ∈ ds -> ∃ x r, d = .tuple (x :: r)
 ·exact SortsAt.data e hal (.inl hne) hu
 have room : ∀ {d d' : PyData}, d ∈ ds -> A.units + min d.depth d'.depth < cLine := fun {d d'} hd => Nat.lt_of_le_of_lt (Nat.add_le_add_left (Nat.min_le_left _ _) _) (hu d hd)
 obtain ⟨fs, f1, f2, f3⟩ := Zh9 e ht
 have hsome : ¬ fs.all (·.isSome) = true := fun q => hne (f3 q)
 have lt : ∀ (f : Bool) (E' : Value -> Shared -> Prop) (x y : Value) (a b : List (Int ⊕ List Nat)) (Q : Bool -> Shared -> Prop), (dataKind s.heap ds).keyOf x = some a -> (dataKind s.heap ds).keyOf y = some b -> Q ((dataKind s.heap ds).blt a b) s -> wpAny (model prog w) A (oneLt' f x y) Q E' s := by
  intro f E' x y a b Q ha hb hq
  obtain ⟨d, as, hd, ra, rfl⟩ := dataKind_inv ha
  obtain ⟨d', as', hd', rb, rfl⟩ := dataKind_inv hb
  have hdd := hal d hd d' hd'
  have hroom := room (d' := d') hd
  obtain ⟨r1, rfl⟩ := ht d hd
  obtain ⟨r2, rfl⟩ := ht d' hd'
  cases f with
  | false => exact oneLt_alike (fun q => absurd q (by simp)) ra rb hdd (by simp) hroom hq
  | true => exact Zmj ra rb (by simpa [alike] using hdd) hroom hq
 refine ⟨fun v hv => ?_, ?_⟩
 ·obtain ⟨d, hd, as, r⟩ := e.left v hv
  exact ⟨_, dataKind_some hal hd r⟩
 ·have kindr : ∀ kd : SortKind, (2 <= vs.length -> ∀ (E : Value -> Shared -> Prop) {Q : SortKind -> Shared -> Prop}, Q kd s -> wpAny (model prog w) A (do
     if ((fs.toArray)[0]?.bind id).isSome then return general'
     return if (<- oneTypeOnly' vs.toArray).isSome then oneType' else general') Q E s) ->
    2 <= vs.length -> ∀ (E : Value -> Shared -> Prop) {Q : SortKind -> Shared -> Prop}, Q kd s -> wpAny (model prog w) A (keyKind' vs.toArray) Q E s := by
   intro kd q h2 E Q hq
   rw [kat_kind_eq, List.mapM_toArray, map_eq_pure_bind]
   refine Qac (Qac (Zga vs fs f1 (Qah ?_)))
   have hall : ¬ (fs.toArray.all fun x => x.isSome) = true := by
    rw [List.all_toArray]
    exact hsome
   rw [Qat hall]
   exact q h2 E hq
  by_cases h0 : ((fs.toArray)[0]?.bind id).isSome = true
  ·refine ⟨general', fun E x y a b Q ha hb hq => lt false E x y a b Q ha hb hq, kindr _ fun h2 E Q hq => ?_⟩
   rw [Qan h0]
   exact Qah hq
  ·refine ⟨oneType', fun E x y a b Q ha hb hq => ?_, kindr _ fun h2 E Q hq => ?_⟩
   ·rw [keyLt'_oneType]
    exact lt true E x y a b Q ha hb hq
   ·rw [Qat h0]
    have hT : ∀ v ∈ vs, Looks (model prog w) s.heap (typeOf v) (Value.type "tuple") := by
     intro v hv
     obtain ⟨d, hd, as, r⟩ := e.left v hv
     obtain ⟨r1, rfl⟩ := ht d hd
     exact looks_reads r
    obtain ⟨v₁, rest, rfl⟩ : ∃ v₁ rest, vs = v₁ :: rest := by
     match vs, h2 with
     | v₁ :: rest, _ => exact ⟨v₁, rest, rfl⟩
    rw [oneTypeOnly'_eq, List.mapM_toArray, map_eq_pure_bind]
    refine Qac (Qac (Qac (kas_mapM (r := Value.type "tuple") _ (fun v hv Q' hq => (hT v hv).here hq) (Qah ?_))))
    have hall : ((List.map (fun _ => Value.type "tuple") (v₁ :: rest)).toArray.all fun x => x == Value.type "tuple") = true := by
     simp only [List.all_toArray, List.all_map, Qap]
     intro _ _
     rfl
    have h0' : (List.map (fun _ => Value.type "tuple") (v₁ :: rest)).toArray[0]? = some (Value.type "tuple") := by simp
    rw [h0']
    simp only [hall, if_true]
    exact Qah (Qah hq)
def Zia (ds : List PyData) : Prop := (∀ d, d ∈ ds -> ∃ r, d = .tuple r) \/ ∀ d, d ∈ ds -> d ≠ .none /\ ∀ xs, d ≠ .tuple xs
theorem SortsAt.dataX {vs : List Value} {ds : List PyData} (e : EachIs (fun v d => ∃ as, Reads s.heap v d as) vs ds) (hal : AllAlike ds) (hk : Zia ds) (hu : ∀ d, d ∈ ds -> A.units + d.depth < cLine) : SortsAt prog w A s (dataKind s.heap ds) vs := by
 rcases hk with hk | hk
 ·exact SortsAt.empties e hal hk hu
 ·exact SortsAt.data e hal (.inr hk) hu
theorem Zib {β : Type} {vs : List Value} {bs : List β} {enc : β -> PyData} {R : Value -> β -> Prop} {l : Addr} {Q : Value -> Shared -> Prop} (hl : s.heap.IsList l vs.toArray) (e : EachIs R vs bs) (er : EachIs (fun v b => ∃ as, Reads s.heap v (enc b) as) vs bs) (hal : AllAlike (bs.map enc)) (hk : Zia (bs.map enc)) (hL : bs.length <= sizeLine)
  (hu : ∀ b, b ∈ bs -> A.units + 2 + (enc b).depth < cLine) (h : ∀ out, out.length = bs.length -> EachIs R out (bs.mergeSort (dataLe false enc)) -> Q (.ref (s.heap.objs.size + 1)) { s with heap := sortedAll s.heap vs (List.toArray out) }) :
  wpAny (model prog w) A (PySem.call (.builtin "sorted") [.ref l]) Q E s := by
 have er' : EachIs (fun v b => ∃ as, Reads (sortingHeap (copyHeap s.heap vs) (s.heap.objs.size + 1) vs) v (enc b) as) vs bs := er.mono fun _ _ ⟨as, r⟩ => ⟨as, PyProof.Rows.Reads.keeps (fun _ _ => sorting_copy_old) r⟩
 exact sorted_vals hl (SortsAt.dataX (s := { s with heap := sortingHeap (copyHeap s.heap vs) (s.heap.objs.size + 1) vs }) (each_map (R := fun v d => ∃ as, Reads (sortingHeap (copyHeap s.heap vs) (s.heap.objs.size + 1) vs) v d as) enc er') hal hk (bound_map hu)) (by rw [e.length]; exact hL)
  (h _ (by rw [sortVals_length false rfl]; exact e.length) (sortVals_data false e er' hal))
end
end My
namespace My
open PySem PySem.Spec PyProof.Rows L2 DT
variable [CP] [TC]
def Zef (acc ps : List (NestedKey × Addr × V)) : List (NestedKey × Addr × V) := ps.foldl (fun r p => Zd1 r p.1 p.2.1 p.2.2) acc
theorem KX.merge {ps : List (NestedKey × Addr × V)} {qs : List (NestedKey × Addr × Value)} (r : KX ps qs) : ∀ {acc : List (NestedKey × Addr × V)} {bcc : List (NestedKey × Addr × Value)}, KX acc bcc -> KX (Zef acc ps) (storedAllH bcc qs) := by
 induction r with
 | nil => intro acc bcc h; exact h
 | @cons p q ps qs h t ih =>
  intro acc bcc ha
  have e : KX (Zd1 acc p.1 p.2.1 p.2.2) (storedH bcc q.1 q.2.1 q.2.2) := by
   rw [<- h.1, <- h.2.1]
   exact ha.put p.1 h.2.2
  exact ih e
theorem Zgb : ∀ (ps acc : List (NestedKey × Addr × V)), (Zef acc ps).length <= acc.length + ps.length
 | [], acc => Qao _
 | p :: ps, acc => by
  have h1 := Zgb ps (Zd1 acc p.1 p.2.1 p.2.2)
  have h2 := Zgy acc p.1 p.2.1 p.2.2
  show (Zef (Zd1 acc p.1 p.2.1 p.2.2) ps).length <= _
  rw [Qai]
  omega
theorem KA.merge {H : Hp} : ∀ {ps acc : List (NestedKey × Addr × V)}, KA H acc -> KA H ps -> KA H (Zef acc ps)
 | [], acc, h, _ => h
 | p :: ps, acc, h, hp => KA.merge (ps := ps) (h.put (hp p Qag)) fun q hq => hp q (Qae _ hq)
theorem RTs.putAll {K : KW} {φ : Nat -> Addr} {n : Nat} {H : Hp} : ∀ {ps : List (NestedKey × D)} {qs : List (NestedKey × Addr × V)} {acc : List (NestedKey × D)} {bcc : List (NestedKey × Addr × V)},
  RTs K φ n H acc (bcc.map noB) -> RTs K φ n H ps (qs.map noB) -> RTs K φ n H (My.putAll acc ps) ((Zef bcc qs).map noB)
 | _, [], acc, bcc, ra, rp => by cases rp; exact ra
 | _, q :: qs, acc, bcc, ra, rp => by
  rw [Qaj] at rp
  cases rp with
  | cons a t =>
   refine RTs.putAll (qs := qs) (acc := Zgu acc q.1 _) (bcc := Zd1 bcc q.1 q.2.1 q.2.2) ?_ t
   rw [Zjf]
   exact ra.put q.1 a
section
variable {X : Cx}
theorem Zic {pins : List (Addr × Obj)} {σ : L2.St} {H : Hp} {s : Shared} (I : Inv X pins σ H s) : ∀ {ps : List Addr} {kvs : List (NestedKey × Addr × V)}, Paired (fun p kv => SqT X.kw H p [V.ref kv.2.1, kv.2.2]) ps kvs ->
  ∃ prs : List (NestedKey × Addr × Value), KX kvs prs /\ prs.length = ps.length /\ ∀ (j : Nat) (q : NestedKey × Addr × Value), prs[j]? = some q -> ∃ (b : Addr), ps[j]? = some b /\ s.heap.IsTuple b #[.ref q.2.1, q.2.2]
 | _, _, .nil => ⟨[], .nil, rfl, fun j q e => by simp at e⟩
 | _, _, .cons (a := p) (b := kv) h t => by
  obtain ⟨prs, r, hl, hp⟩ := Zic I t
  obtain ⟨its, rv, ht, _⟩ := I.tuple h
  obtain ⟨u, y, ei, ru, ry⟩ := vals2 rv
  subst ei
  cases ru
  refine ⟨(kv.1, kv.2.1, y) :: prs, .cons ⟨rfl, rfl, ry⟩ r, by rw [Qai, Qai, hl], fun j q e => ?_⟩
  cases j with
  | zero =>
   have e' : (kv.1, kv.2.1, y) = q := Option.some.inj e
   subst e'
   exact ⟨p, rfl, ht⟩
  | succ j =>
   obtain ⟨b, e1, e2⟩ := hp j q (by simpa using e)
   exact ⟨b, by simpa using e1, e2⟩
theorem Zwc {pins : List (Addr × Obj)} {σ : L2.St} {H : Hp} {s : Shared} (I : Inv X pins σ H s) {l : List (NestedKey × Addr × V)} {m : List (NestedKey × Addr × Value)} (q : KX l m) : KA H l -> ∀ x ∈ m, (nestedKind X.prog X.w).is s.heap x.1 x.2.1 := by
 induction q with
 | nil => intro _ x hx; exact nomatch hx
 | @cons p q ps qs hq t ih =>
  intro hl x hx
  rcases Qaf.mp hx with e | hx
  ·subst e
   refine Zcl I ?_
   rw [<- hq.1, <- hq.2.1]
   exact hl p Qag
  ·exact ih (fun p hp => hl p (Qae _ hp)) x hx
theorem Zgc (hcalm : X.calm = true) (hu : X.A.units + 20 < cLine) : CallR X (.type "dict") (fun xs H Q => ∃ (a : Addr) (as : List Addr) (kvs : List (NestedKey × Addr × V)), xs = [.ref a] /\ (SqL X.kw H a (as.map V.ref) \/ TX H a (as.map V.ref)) /\
  Paired (fun p kv => SqT X.kw H p [V.ref kv.2.1, kv.2.2]) as kvs /\ KA H kvs /\ ∀ p, H p = none -> Q (.ref p) (upd H p (XT X.prog X.w p (Zef [] kvs)))) := by
 intro pins s σ H xs us Q I r q
 obtain ⟨a, as, kvs, ex, hq, hp, ka, q⟩ := q
 subst ex
 obtain ⟨u, eu, rx⟩ := vals1 r
 subst eu
 cases rx
 obtain ⟨prs, rel, hl, hpr⟩ := Zic I hp
 have kst := Zwc I rel ka
 obtain ⟨ps, eps⟩ : ∃ ps : List (Value × Value), ps = prs.map fun q => (Value.ref q.2.1, q.2.2) := ⟨_, rfl⟩
 obtain ⟨Ts, eTs⟩ : ∃ Ts : Nat -> Addr, Ts = fun j => as.getD j 0 := ⟨_, rfl⟩
 have psl : ps.length = prs.length := by rw [eps, Qal]
 have items : ∀ its : List Value, its = as.map Value.ref -> PairItems s.heap its.toArray Ts ps := by
  intro its e
  refine ⟨by rw [Qa6, e, Qal, psl, hl], fun j k v hj => ?_⟩
  rw [eps, Qar] at hj
  cases hq2 : prs[j]? with
  | none => rw [hq2] at hj; cases hj
  | some q2 =>
   rw [hq2] at hj
   cases hj
   obtain ⟨b, e1, e2⟩ := hpr j q2 hq2
   have eb : Ts j = b := by
    rw [eTs]
    show as.getD j 0 = b
    rw [List.getD_eq_getElem?_getD, e1]
    rfl
   rw [eb]
   refine ⟨?_, .inl e2⟩
   rw [List.getElem?_toArray, e, Qar, e1]
   rfl
 have have_ : PairsHaveH (nestedKind X.prog X.w) ps.length (PairRel ps) prs := ⟨psl.symm, fun i key v hr => by
  have hr : ps[i]? = some (key, v) := hr
  rw [eps, Qar] at hr
  cases hq2 : prs[i]? with
  | none => rw [hq2] at hr; cases hr
  | some q2 =>
   rw [hq2] at hr
   cases hr
   exact ⟨q2.1, q2.2.1, rfl, rfl⟩⟩
 have stay : KeysStay (nestedKind X.prog X.w) s.heap s.heap.objs.size [] prs := fun h' hk x hx => by
  obtain ⟨k1, k2⟩ := kst x hx
  exact ⟨NestedIs.at (fun b o vs n hb _ => hk b o (Qbg (Heap.lt_size hb)) (fun z => nomatch z) hb) _ _ k1, k2⟩
 have room : (nestedKind X.prog X.w).room X.A.in1.in1 := by
  show X.A.units + 1 + 1 + 8 < cLine
  omega
 have asl : as.length <= sizeLine := by
  rcases hq with hq | ⟨o, hq, hd⟩
  ·obtain ⟨its, rv, pl, hz⟩ := I.list hq
   simpa using hz
  ·obtain ⟨_, hz, _⟩ := (show ObjOk X.prog X.w H s.heap a (.frz o (.tup (as.map V.ref))) from I.hok a _ hq)
   simpa using hz
 have hm : (s.heap.objs.size == sysModules) = false := beq_eq_false_iff_ne.mpr (Nat.ne_of_gt I.big)
 have fin : ∀ (h' : Heap) (tk : Nat), h'.DictOfH (nestedKind X.prog X.w) s.heap.objs.size (storedAllH [] prs) -> (∀ b o, b ∉ ([] : List Addr) -> s.heap.get? b = some o -> h'.get? b = some o) -> EP X pins σ Q (.ref s.heap.objs.size) { s with heap := h', toks := tk } := fun h' tk hd' hk => by
  have hlen : (Zef [] kvs).length <= sizeLine := by
   have h1 := Zgb kvs []
   have h2 : kvs.length = as.length := by rw [Paired.length rel, hl]
   simp only [List.length_nil, Nat.zero_add] at h1
   omega
  obtain ⟨o, es, ep, h1, h2, h3, h4, _, h5⟩ := hd'
  exact ⟨.ref s.heap.objs.size, upd H s.heap.objs.size (XT X.prog X.w s.heap.objs.size (Zef [] kvs)), I.laid (t' := tk) (fun b o e => hk b o (fun z => nomatch z) e) (Qao _)
   (XT.ok ⟨hlen, hm, _, KX.merge rel .nil, o, es, ep, h1, h2, h3, h4, h5⟩), rfl, q _ (I.hok.fresh (Qao _))⟩
 rcases hq with hq | ⟨o, hq, hd⟩
 ·obtain ⟨its, rv, pl, hz⟩ := I.list hq
  have ei := refs_at rv
  obtain ⟨o, n, ho, hc, hd, hdat⟩ := pl
  exact call_dict_pairsH (PairArg.list a its.toArray Ts ps) (I.ok.hd hcalm) room ⟨⟨o, n, ho, hc, hd, hdat⟩, items its ei⟩ have_ stay (by omega) fin
 ·obtain ⟨ho, _, its, rv, o2, ho2, hc, n, hdat⟩ := (show ObjOk X.prog X.w H s.heap a (.frz o (.tup (as.map V.ref))) from I.hok a _ hq)
  have ei := refs_at rv
  have eo : o2 = o := by rw [ho2] at ho; exact Option.some.inj ho
  exact call_dict_pairsH (PairArg.tuple a its.toArray Ts ps) (I.ok.hd hcalm) room ⟨⟨o2, n, ho2, hc, by rw [eo]; exact hd, hdat⟩, items its ei⟩ have_ stay (by omega) fin
end
end My
namespace My
open PySem PySem.Spec PyProof.Rows L2
variable [CP] [TC]
section
variable {K : KW} {L : LC} {φ : Nat -> Addr} {n : Nat} {H : Hp}
mutual
theorem KVn.rv : ∀ {k : NestedKey} {v : V}, KVn H k v -> RV K φ n H (Zq0 k) v
 | _, _, .num i => .int i
 | _, _, .text s => .str s
 | _, _, .tup e t => .tup e (KVns.rv t)
theorem KVns.rv : ∀ {ks : List NestedKey} {vs : List V}, KVns H ks vs -> RVs K φ n H (Zvr ks) vs
 | _, _, .nil => .nil
 | _, _, .cons a t => .cons (KVn.rv a) (KVns.rv t)
end
theorem Zd6 : ∀ {ks : List (NestedKey × Addr × V)} {kvs : List (NestedKey × D)}, RTs K φ n H kvs (ks.map noB) -> KA H ks -> RVs K φ n H (kvs.map fun p => Zq0 p.1) (ks.map fun p => V.ref p.2.1)
 | [], _, h, _ => by cases h; exact .nil
 | p :: ks, _, h, ka => by
  rw [Qaj] at h
  cases h with
  | cons a t => exact .cons (ka p Qag).2.rv (Zd6 t fun q hq => ka q (Qae _ hq))
theorem Zke : ∀ {kvs : List (Key × D)} {ks : List (Key × V)}, RKs K φ n H kvs ks -> RVs K φ n H (kvs.map fun p => ofKey p.1) (ks.map fun p => kV p.1)
 | _, _, .nil => .nil
 | _, _, .cons (k := k) a t => by
  refine .cons ?_ (Zke t)
  cases k with
  | inl i => exact .int i
  | inr z => exact .str z
theorem Zue : ∀ {xs : List D} {ps : List (Str × Str)}, Zbv Zvs xs = some ps -> xs = ps.map Zbq
 | [], _, h => by cases h; rfl
 | x :: xs, _, h => by
  simp only [Zbv] at h
  split at h
  ·rename_i y q e1 e2
   cases h
   rw [Zue e2, Qaj]
   congr 1
   unfold Zvs at e1
   split at e1
   ·cases e1; rfl
   ·cases e1
  ·cases h
theorem Zuf : ∀ {ps : List (Str × Str)} {vs : List V}, RVs K φ n H (ps.map Zbq) vs -> vs.map (prV H) = ps /\ ∀ v ∈ vs, ∃ t y z, v = V.ref t /\ TX H t [.str y, .str z]
 | [], _, h => by cases h; exact ⟨rfl, by simp⟩
 | p :: ps, _, h => by
  cases h with
  | cons a t =>
   obtain ⟨e1, e2⟩ := Zuf t
   cases a with
   | tup e rs =>
    obtain ⟨o, e, hd⟩ := e
    cases rs with
    | cons a1 r1 => cases r1 with
     | cons a2 r2 =>
      cases r2; cases a1; cases a2
      refine ⟨?_, fun v hv => ?_⟩
      ·rw [Qaj, e1]
       congr 1
       show (match H _ with | some (.frz _ (.tup [.str x, .str y])) => (x, y) | _ => ("", "")) = p
       rw [e]
      ·rcases Qaf.mp hv with rfl | hv
       ·exact ⟨_, _, _, rfl, o, e, hd⟩
       ·exact e2 v hv
theorem Zkf : ∀ {vs : List V}, (∀ v ∈ vs, ∃ t y z, v = V.ref t /\ TX H t [.str y, .str z]) -> RVs K φ n H ((vs.map (prV H)).map Zbq) vs
 | [], _ => .nil
 | v :: vs, h => by
  obtain ⟨t, y, z, rfl, o, e, hd⟩ := h v Qag
  refine .cons ?_ (Zkf fun v hv => h v (Qae _ hv))
  have e3 : prV H (.ref t) = (y, z) := by
   show (match H t with | some (.frz _ (.tup [.str x, .str y])) => (x, y) | _ => ("", "")) = _
   rw [e]
  rw [e3]
  exact .tup ⟨o, e, hd⟩ (.cons (.str y) (.cons (.str z) .nil))
end
section
variable {X : Cx}
theorem Zdo {pins : List (Addr × Obj)} {s : Shared} {σ : L2.St} {H : Hp} {Q : VK} {φ : Nat -> Addr} {S : Store} {a : Addr} {xs ys : List D} {vs : List V} (I : Inv X pins σ H s) (r : RelS X.kw φ S H) (c : Zv9 X s a vs) (rs : RVs X.kw φ S.nx H xs vs) (h : Zl7 xs = some ys) (k : Za8 X.kw φ S H Q (.lst ys) S) :
  wpAny (model X.prog X.w) X.A (PySem.call (.builtin "sorted") [.ref a]) (EP X pins σ Q) X.xe s := by
 unfold Zl7 at h
 split at h
 ·rename_i ss e
  cases h
  have e3 := Zb3 e
  subst e3
  have e4 := rs.strs_inv
  subst e4
  exact Zn0 (u := .none) I c fun p hp => Zv7 r (RVs.strs _) hp k
 ·simp only [Qad] at h
  obtain ⟨ps, e, rfl⟩ := h
  have e3 := Zue e
  subst e3
  obtain ⟨e4, e5⟩ := Zuf rs
  refine Zrb I c e5 fun p zs pm so hp => Zv7 r ?_ hp k
  rw [e4] at so
  rw [<- so]
  exact Zkf fun v hv => e5 v (pm.mem_iff.mp hv)
theorem Zkg {φ : Nat -> Addr} {n : Nat} {H : Hp} : ∀ {xs : List D} {vs : List V} {ps : List (Key × D)}, RVs X.kw φ n H xs vs -> Zbv Z84 xs = some ps -> ∃ (as : List Addr) (kvs : List (Key × V)), vs = as.map V.ref /\ Paired (fun p kv => SqT X.kw H p [kV kv.1, kv.2]) as kvs /\ RKs X.kw φ n H ps kvs
 | _, _, _, .nil, h => by
  cases h
  exact ⟨[], [], rfl, .nil, .nil⟩
 | _, _, _, .cons a t, h => by
  obtain ⟨y, ys, h1, h2, rfl⟩ := Zbd h
  obtain ⟨as, kvs, rfl, hp, rk⟩ := Zkg t h2
  unfold Z84 at h1
  split at h1
  ·simp only [Qad] at h1
   obtain ⟨k, e, rfl⟩ := h1
   cases a with
   | tup e1 rs =>
    cases rs with
    | cons rk1 rs =>
     cases rs with
     | cons rv rs =>
      cases rs
      have ek := RV.key e (.of rk1)
      subst ek
      exact ⟨_ :: as, (k, _) :: kvs, rfl, .cons e1.sq hp, .cons rv rk⟩
  ·cases h1
theorem Zfc {φ : Nat -> Addr} {n : Nat} {H : Hp} : ∀ {xs : List D} {vs : List V} {ps : List (NestedKey × D)}, RVs X.kw φ n H xs vs -> Zbv Zvt xs = some ps -> ∃ (as : List Addr) (kvs : List (NestedKey × Addr × V)), vs = as.map V.ref /\ Paired (fun p kv => SqT X.kw H p [V.ref kv.2.1, kv.2.2]) as kvs /\ KA H kvs /\ RTs X.kw φ n H ps (kvs.map noB)
 | _, _, _, .nil, h => by
  cases h
  exact ⟨[], [], rfl, .nil, fun _ z => (nomatch z), .nil⟩
 | _, _, _, .cons a t, h => by
  obtain ⟨y, ys, h1, h2, rfl⟩ := Zbd h
  obtain ⟨as, kvs, rfl, hp, ka, rk⟩ := Zfc t h2
  unfold Zvt at h1
  split at h1
  ·simp only [Qad] at h1
   obtain ⟨k, e, rfl⟩ := h1
   cases a with
   | tup e1 rs =>
    cases rs with
    | cons rk1 rs =>
     cases rs with
     | cons rv rs =>
      cases rs
      obtain ⟨b, rfl, hb⟩ := RN.keyT e (.of rk1)
      exact ⟨_ :: as, (k, b, _) :: kvs, rfl, .cons e1.sq hp, fun p hp => (Qaf.mp hp).elim (fun z => by rw [z]; exact hb) (ka p), .cons rv rk⟩
  ·cases h1
def IsD (X : Cx) (φ : Nat -> Addr) (n : Nat) (H : Hp) (v : Value) (d : D) : Prop := ∃ x : V, RelV x v /\ RV X.kw φ n H d x
theorem Zkh {φ : Nat -> Addr} {n : Nat} {H : Hp} : ∀ {xs : List D} {vs : List V} {its : List Value}, RVs X.kw φ n H xs vs -> Vals vs its -> PySem.W.EachIs (IsD X φ n H) its xs
 | _, _, _, .nil, h => by cases h; exact .nil
 | _, _, _, .cons a t, h => by
  cases h with
  | cons r rs => exact .cons ⟨_, r, a⟩ (Zkh t rs)
theorem Zdp {φ : Nat -> Addr} {n : Nat} {H : Hp} : ∀ {xs : List D} {its : List Value}, PySem.W.EachIs (IsD X φ n H) its xs -> ∃ vs, RVs X.kw φ n H xs vs /\ Vals vs its
 | _, _, .nil => ⟨[], .nil, .nil⟩
 | _, _, .cons ⟨x, r, a⟩ t => by
  obtain ⟨vs, h1, h2⟩ := Zdp t
  exact ⟨x :: vs, .cons a h1, .cons r h2⟩
theorem Zki : ∀ {xs : List D} {ps : List PyData}, Zbv (deep Zep) xs = some ps -> xs.map Zt3 = ps
 | [], _, h => by cases h; rfl
 | x :: xs, _, h => by
  obtain ⟨y, ys, h1, h2, rfl⟩ := Zbd h
  rw [Qaj, Zki h2]
  unfold Zt3
  rw [h1]
  rfl
theorem Zgd {pins : List (Addr × Obj)} {s : Shared} {σ : L2.St} {H : Hp} {φ : Nat -> Addr} {n : Nat} (I : Inv X pins σ H s) : ∀ {xs : List D} {ps : List PyData} {its : List Value}, Zbv (deep Zep) xs = some ps -> PySem.W.EachIs (IsD X φ n H) its xs -> PySem.W.EachIs (fun v b => ∃ as, Reads s.heap v (Zt3 b) as) its xs
 | _, _, _, _, .nil => .nil
 | _, _, _, h, .cons ⟨x, r, a⟩ t => by
  obtain ⟨y, ys, h1, h2, rfl⟩ := Zbd h
  obtain ⟨as, q, _⟩ := Zbr I Zep _ _ _ _ h1 (.of a) r
  refine .cons ⟨as, ?_⟩ (Zgd I h2 t)
  unfold Zt3
  rw [h1]
  exact q
theorem Zre {pins : List (Addr × Obj)} {s : Shared} {σ : L2.St} {H : Hp} {Q : VK} {φ : Nat -> Addr} {S : Store} {a : Addr} {xs ys : List D} {vs : List V} (hu : X.A.units + 64 < cLine) (I : Inv X pins σ H s) (r : RelS X.kw φ S H) (sq : SqL X.kw H a vs) (rs : RVs X.kw φ S.nx H xs vs) (h : Zi8 xs = some ys) (k : Za8 X.kw φ S H Q (.lst ys) S) :
  wpAny (model X.prog X.w) X.A (PySem.call (.builtin "sorted") [.ref a]) (EP X pins σ Q) X.xe s := by
 unfold Zi8 at h
 split at h
 ·rename_i ps hd
  split at h
  ·rename_i hh
   cases h
   obtain ⟨h1, h2, h3⟩ := hh
   obtain ⟨its, rv, hl, hz⟩ := I.list sq
   have en := Zki hd
   have e1 := Zkh rs rv
   have hlen : xs.length <= sizeLine := by
    have := rs.length
    have := rv.length
    omega
   refine Zib (bs := xs) (enc := Zt3) (R := IsD X φ S.nx H) hl.isList e1 (Zgd I hd e1) ?_ ?_ hlen (fun b hb => ?_) fun out ho eo => ?_
   ·rw [en]
    intro d hd d' hd'
    have := Qap.mp (Qap.mp h1 d hd) d' hd'
    exact this
   ·rw [en]
    rcases h2 with h2 | h2
    ·refine .inl fun d hd => ?_
     have := Qap.mp h2 d hd
     cases d <;> first | exact ⟨_, rfl⟩ | cases this
    ·refine .inr fun d hd => ?_
     have := Qap.mp h2 d hd
     cases d with
     | none => cases this
     | tuple _ => cases this
     | _ => exact ⟨by simp, by simp⟩
   ·have hm : Zt3 b ∈ ps := by rw [<- en]; exact List.mem_map_of_mem hb
    have := Qau (Qap.mp h3 _ hm)
    omega
   ·obtain ⟨ws, g1, g2⟩ := Zdp eo
    obtain ⟨c, hc⟩ := sortedAll_at s.heap its out.toArray
    have hd0 : s.heap.objs.size <= s.heap.objs.size + 1 := Nat.le_succ _
    refine ⟨.ref (s.heap.objs.size + 1), upd H (s.heap.objs.size + 1) (.lst ws), I.laid (t' := s.toks) (fun b o e => sortedAll_old e) hd0 ⟨?_, out, c, g2, hc⟩, rfl, Zv7 r g1 (I.hok.fresh hd0) k⟩
    have := g1.length
    have := List.length_mergeSort (le := PySem.W.dataLe false Zt3) xs
    omega
  ·cases h
 ·cases h
theorem Zwd (hu : X.A.units + 64 < cLine) (hcalm : X.calm = true) (f : Of) : CallR X (ofV f) (rBo X.kw f) := by
 intro pins s σ H vs us Q I rs ⟨φ, S, ds, o, r, hd, h, k⟩
 unfold Zqq at h
 split at h
 ·obtain ⟨v, rfl, rv⟩ := hd.one
  simp only [Qad] at h
  obtain ⟨xs, e, rfl⟩ := h
  obtain ⟨a, ws, rfl, sq, q⟩ := Zgx rv e
  exact call_list_of pins s σ H _ us Q I rs ⟨a, ws, rfl, sq, fun p hp => Zv7 r q hp k⟩
 ·rename_i x
  obtain ⟨v, rfl, rv⟩ := hd.one
  obtain ⟨u, rfl, ru⟩ := vals1 rs
  simp only [Qad, Qak] at h
  obtain ⟨ys, ⟨xs, e1, e2⟩, rfl⟩ := h
  unfold Znh at e1
  split at e1
  ·cases e1
   obtain ⟨a, ws, rfl, sq, q⟩ := rv.list
   cases ru
   exact Zdo I r (Znz I (SqL.rd sq)) q e2 k
  ·cases e1
   obtain ⟨a, ws, rfl, hq, q⟩ := rv.tup
   cases ru
   exact Zdo I r (Zra I hq) q e2 k
  ·cases e1
   obtain ⟨a, ws, rfl, hq, ka, q⟩ := rv.dictT
   cases ru
   exact Zdo I r (Zwa hcalm I hq) (Zd6 q ka) e2 k
  ·cases e1
   obtain ⟨a, ws, rfl, hq, q⟩ := rv.dict
   cases ru
   exact Zdo I r (Zwb hcalm I hq) (Zke q) e2 k
  ·cases e1
 ·obtain ⟨v, rfl, rv⟩ := hd.one
  simp only [Qad] at h
  obtain ⟨ps, e, rfl⟩ := h
  obtain ⟨a, ws, rfl, sq, q⟩ := rv.list
  obtain ⟨as, kvs, rfl, hp, rk⟩ := Zkg q e
  exact call_dictP hcalm pins s σ H _ us Q I rs ⟨a, as, kvs, rfl, SqL.rd sq, hp, fun p hp => Z0i (o := .dK _) r ⟨_, rfl, RKs.nil.putAll rk⟩ hp k⟩
 ·obtain ⟨v, rfl, rv⟩ := hd.one
  obtain ⟨u, rfl, ru⟩ := vals1 rs
  simp only [Qad] at h
  obtain ⟨ys, e, rfl⟩ := h
  obtain ⟨a, ws, rfl, sq, q⟩ := rv.list
  cases ru
  exact Zre hu I r (SqL.rd sq) q e k
 ·obtain ⟨v, rfl, rv⟩ := hd.one
  simp only [Qad, Qak] at h
  obtain ⟨ps, ⟨xs, e1, e⟩, rfl⟩ := h
  split at e1
  ·cases e1
   obtain ⟨a, ws, rfl, sq, q⟩ := rv.list
   obtain ⟨as, kvs, rfl, hp, ka, rk⟩ := Zfc q e
   exact Zgc hcalm (by omega) pins s σ H _ us Q I rs ⟨a, as, kvs, rfl, .inl (SqL.rd sq), hp, ka, fun p hp => Z0i (o := .dT _) r ⟨_, rfl, KA.merge (fun _ z => nomatch z) ka, RTs.putAll (acc := []) (bcc := []) .nil rk⟩ hp k⟩
  ·cases e1
   obtain ⟨a, ws, rfl, sq, q⟩ := rv.tup
   obtain ⟨as, kvs, rfl, hp, ka, rk⟩ := Zfc q e
   exact Zgc hcalm (by omega) pins s σ H _ us Q I rs ⟨a, as, kvs, rfl, .inr sq, hp, ka, fun p hp => Z0i (o := .dT _) r ⟨_, rfl, KA.merge (fun _ z => nomatch z) ka, RTs.putAll (acc := []) (bcc := []) .nil rk⟩ hp k⟩
  ·cases e1
 ·cases h
end
end My
namespace My
open PySem PySem.Spec PyProof.Rows L2
variable [CP] [TC]
section
variable {prog : Program} {w : World} {h : Heap}
mutual
theorem Z9c : ∀ {v : Value} {d : PyData} {as : List Addr}, Reads h v d as -> d.showable = true -> Za1 h as -> d.shown.length <= sizeLine -> ∃ bs, ReadAtMost h d.depth bs /\ ReprK prog w bs h d.depth v d.shown
 | _, _, _, .none, _, _, _ => ⟨[], (fun _ z => nomatch z), .of_is ReprIs.none _ _ _⟩
 | _, _, _, .bool b, _, _, _ => ⟨[], (fun _ z => nomatch z), .of_is (ReprIs.bool b) _ _ _⟩
 | _, _, _, .int i t, hs, _, _ => ⟨[], (fun _ z => nomatch z), .of_is (ReprIs.int t (by simpa [PyData.showable] using hs)) _ _ _⟩
 | _, _, _, .str x t, _, _, hz => ⟨[], (fun _ z => nomatch z), .of_is (ReprIs.str x t hz) _ _ _⟩
 | _, _, _, .list (a := a) (vs := vs) (xs := xs) h1 h2 h3 h4, hs, ns, hz => by
  have z1 : (listText (PyData.shownAll xs)).length <= sizeLine := hz
  obtain ⟨bs, hb, hk⟩ := Zbo h4 (by simpa [PyData.showable] using hs) ns.tail fun t ht => Qaw (listText_mem_le ht) z1
  have r := Reads.list h1 h2 h3 h4
  have lt : PyData.depthAll xs < (PyData.list xs).depth := by rw [PyData.depth]; omega
  have no := not_mem_of_deeper r lt hb
  refine ⟨a :: bs, ReadAtMost.cons r (Nat.le_of_lt lt) hb, ?_⟩
  rw [PyData.depth, PyData.shown]
  obtain ⟨l⟩ := vs
  cases l with
  | nil =>
   have e : ReadsAll h [] xs _ := h4
   cases e
   exact ReprK.listEmpty h1 h2 h3
  | cons x l => exact ReprK.list h1 h2 h3 no (by simpa using hk.length_eq) fun i y e => hk.item i y (by simpa using e)
 | _, _, _, .tuple (a := a) (xs := xs) h1 h2 h3 h4, hs, ns, hz => by
  have z1 : (tupleText (PyData.shownAll xs)).length <= sizeLine := hz
  obtain ⟨bs, hb, hk⟩ := Zbo h4 (by simpa [PyData.showable] using hs) ns fun t ht => Qaw (tupleText_mem_le ht) z1
  have r := Reads.tuple h1 h2 h3 h4
  have lt : PyData.depthAll xs < (PyData.tuple xs).depth := by rw [PyData.depth]; omega
  refine ⟨a :: bs, ReadAtMost.cons r (Nat.le_of_lt lt) hb, ?_⟩
  rw [PyData.depth, PyData.shown]
  exact ReprK.tuple h1 h2 h3 (not_mem_of_deeper r lt hb) hk
 | _, _, _, .dict (a := a) (es := es) (kvs := kvs) h1 h2 h3 h4 h5, hs, ns, hz => by
  have z1 : (dictText (PyData.shownKv kvs)).length <= sizeLine := hz
  obtain ⟨s1, s2⟩ := PyData.showableKv_split kvs (by simpa [PyData.showable] using hs)
  have small : ∀ {t : Str}, (∃ p ∈ PyData.shownKv kvs, t.length <= p.length) -> t.length <= sizeLine := fun ⟨p, hp, hl⟩ => Qaw hl (Qaw (dictText_mem_le hp) z1)
  obtain ⟨b1, hb1, k1⟩ := Zbo h4 s1 ns.left.tail fun t ht => small (PyData.shownKv_key_le kvs t ht)
  obtain ⟨b2, hb2, k2⟩ := Zbo h5 s2 ns.right fun t ht => small (PyData.shownKv_val_le kvs t ht)
  have r := Reads.dict h1 h2 h3 h4 h5
  have hb := (hb1.mono (PyData.depthAll_keys_le kvs)).append (hb2.mono (PyData.depthAll_vals_le kvs))
  have lt : PyData.depthKv kvs < (PyData.dict kvs).depth := by rw [PyData.depth]; omega
  refine ⟨a :: (b1 ++ b2), ReadAtMost.cons r (Nat.le_of_lt lt) hb, ?_⟩
  rw [PyData.depth, PyData.shown, PyData.shownKv_eq]
  have q1 := k1.more_le (as' := b1 ++ b2) (fun b q => Qa7 _ q) (PyData.depthAll_keys_le kvs)
  have q2 := k2.more_le (as' := b1 ++ b2) (fun b q => Qbf _ q) (PyData.depthAll_vals_le kvs)
  exact ReprK.dict h1 h2 h3 (ns a (Qa7 _ Qag) _ h1 h2) (not_mem_of_deeper r lt hb) (ReprEntriesK.of_two es.toList _ _ q1 q2)
theorem Zbo : ∀ {vs : List Value} {ds : List PyData} {as : List Addr}, ReadsAll h vs ds as -> PyData.showableAll ds = true -> Za1 h as -> (∀ t ∈ PyData.shownAll ds, t.length <= sizeLine) ->
  ∃ bs, ReadAtMost h (PyData.depthAll ds) bs /\ ReprAllK prog w bs h (PyData.depthAll ds) vs (PyData.shownAll ds)
 | _, _, _, .nil, _, _, _ => ⟨[], (fun _ z => nomatch z), .nil⟩
 | _, _, _, .cons (d := d) (ds := ds) r rs, hs, ns, hz => by
  have s' : d.showable = true /\ PyData.showableAll ds = true := by simpa [PyData.showableAll] using hs
  obtain ⟨b1, hb1, k1⟩ := Z9c r s'.1 ns.left (hz _ (by rw [PyData.shownAll]; exact Qag))
  obtain ⟨b2, hb2, k2⟩ := Zbo rs s'.2 ns.right fun t ht => hz t (by rw [PyData.shownAll]; exact Qae _ ht)
  have l1 : d.depth <= PyData.depthAll (d :: ds) := by rw [PyData.depthAll]; omega
  have l2 : PyData.depthAll ds <= PyData.depthAll (d :: ds) := by rw [PyData.depthAll]; omega
  refine ⟨b1 ++ b2, (hb1.mono l1).append (hb2.mono l2), ?_⟩
  rw [PyData.shownAll]
  exact .cons ((k1.more fun b q => Qa7 _ q).level_le l1) (k2.more_le (fun b q => Qbf _ q) l2)
end
variable {A : Around} {E : Value -> Shared -> Prop} {s : Shared} {Q : Value -> Shared -> Prop}
theorem Zmk {v : Value} {d : PyData} {as : List Addr} (r : Reads s.heap v d as) (hs : d.showable = true) (ns : Za1 s.heap as) (hz : d.shown.length <= sizeLine) (hg : A.guards = some []) (hu : A.units + (d.depth + 1) < cLine)
  (hQ : ∀ h' u tk, (∀ b o, s.heap.get? b = some o -> h'.get? b = some o) -> Q (.str d.shown u) { s with heap := h', toks := tk }) : wpAny (model prog w) A (PySem.call (.builtin "repr") [v]) Q E s := by
 have fl : ∀ tk, Q (.str d.shown tk) { s with toks := tk + 1 } -> True := fun _ _ => trivial
 have clear : ∀ (bs : List Addr), ∀ b ∈ bs, Clear [] b := fun _ b _ => Clear.nil b
 cases r with
 | none => exact P.repr_of_none (hQ s.heap _ _ fun _ _ z => z)
 | bool b => exact P.repr_of_bool (by cases b <;> exact hQ s.heap _ _ fun _ _ z => z)
 | int i t =>
  have hs' : i.natAbs.log2 < 1920 := by simpa [PyData.showable] using hs
  exact P.repr_of_int hs' (hQ s.heap _ _ fun _ _ z => z)
 | str x t => exact P.repr_of_str (hQ s.heap _ _ fun _ _ z => z) hz
 | @list a o vs n xs _ h1 h2 h3 h4 =>
  have z1 : (listText (PyData.shownAll xs)).length <= sizeLine := hz
  obtain ⟨bs, hb, hk⟩ := Zbo (prog := prog) (w := w) h4 (by simpa [PyData.showable] using hs) ns.tail fun t ht => Qaw (listText_mem_le ht) z1
  have lt : PyData.depthAll xs < (PyData.list xs).depth := by rw [PyData.depth]; omega
  have no := not_mem_of_deeper (Reads.list h1 h2 h3 h4) lt hb
  have hu2 : A.in1.units + (PyData.depthAll xs + 1) < cLine := by
   have e : (PyData.list xs).depth = PyData.depthAll xs + 1 := by rw [PyData.depth]
   show A.units + 1 + (PyData.depthAll xs + 1) < cLine
   omega
  refine call_repr_slot (by omega) ⟨o, h1, h2⟩ F.slot_list_repr.toG ?_
  obtain ⟨l⟩ := vs
  cases l with
  | nil =>
   have e : ReadsAll s.heap [] xs _ := h4
   cases e
   exact call_list_repr_empty ⟨o, h1, h2⟩ h1 h3 ⟨_, _, rfl, hQ s.heap _ _ fun _ _ z => z⟩
  | cons x l => exact call_list_reprK h1 h2 h3 no (by simpa using hk.length_eq) (fun i y e => hk.item i y (by simpa using e)) hg (clear _) hu2 (fun _ _ z => z) (fun h' u tk k => ⟨_, _, rfl, hQ h' u tk k⟩) z1
 | @tuple a o vs n xs _ h1 h2 h3 h4 =>
  have z1 : (tupleText (PyData.shownAll xs)).length <= sizeLine := hz
  obtain ⟨bs, hb, hk⟩ := Zbo (prog := prog) (w := w) h4 (by simpa [PyData.showable] using hs) ns fun t ht => Qaw (tupleText_mem_le ht) z1
  have lt : PyData.depthAll xs < (PyData.tuple xs).depth := by rw [PyData.depth]; omega
  have no := not_mem_of_deeper (Reads.tuple h1 h2 h3 h4) lt hb
  have hu2 : A.in1.units + (PyData.depthAll xs + 1) < cLine := by
   have e : (PyData.tuple xs).depth = PyData.depthAll xs + 1 := by rw [PyData.depth]
   show A.units + 1 + (PyData.depthAll xs + 1) < cLine
   omega
  exact call_repr_slot (by omega) ⟨o, h1, h2⟩ F.slot_tuple_repr (call_tuple_reprK h1 h2 h3 no hk hg (clear _) hu2 (fun _ _ z => z) (fun h' u tk k => ⟨_, _, rfl, hQ h' u tk k⟩) z1)
 | @dict a o es n kvs _ _ h1 h2 h3 h4 h5 =>
  have z1 : (dictText (PyData.shownKv kvs)).length <= sizeLine := hz
  obtain ⟨s1, s2⟩ := PyData.showableKv_split kvs (by simpa [PyData.showable] using hs)
  have small : ∀ {t : Str}, (∃ p ∈ PyData.shownKv kvs, t.length <= p.length) -> t.length <= sizeLine := fun ⟨p, hp, hl⟩ => Qaw hl (Qaw (dictText_mem_le hp) z1)
  obtain ⟨b1, hb1, k1⟩ := Zbo (prog := prog) (w := w) h4 s1 ns.left.tail fun t ht => small (PyData.shownKv_key_le kvs t ht)
  obtain ⟨b2, hb2, k2⟩ := Zbo (prog := prog) (w := w) h5 s2 ns.right fun t ht => small (PyData.shownKv_val_le kvs t ht)
  have hb := (hb1.mono (PyData.depthAll_keys_le kvs)).append (hb2.mono (PyData.depthAll_vals_le kvs))
  have lt : PyData.depthKv kvs < (PyData.dict kvs).depth := by rw [PyData.depth]; omega
  have no := not_mem_of_deeper (Reads.dict h1 h2 h3 h4 h5) lt hb
  have hu2 : A.in1.units + (PyData.depthKv kvs + 1) < cLine := by
   have e : (PyData.dict kvs).depth = PyData.depthKv kvs + 1 := by rw [PyData.depth]
   show A.units + 1 + (PyData.depthKv kvs + 1) < cLine
   omega
  have q1 := k1.more_le (as' := b1 ++ b2) (fun b q => Qa7 _ q) (PyData.depthAll_keys_le kvs)
  have q2 := k2.more_le (as' := b1 ++ b2) (fun b q => Qbf _ q) (PyData.depthAll_vals_le kvs)
  have hq : ∀ h' u tk, (∀ b o, s.heap.get? b = some o -> h'.get? b = some o) -> ∃ x t, Value.str (dictText (List.zipWith (fun k v => k ++ ": " ++ v) (PyData.shownAll (kvs.map (·.1))) (PyData.shownAll (kvs.map (·.2))))) u = .str x t /\ Q (.str (dictText (List.zipWith (fun k v => k ++ ": " ++ v) (PyData.shownAll (kvs.map (·.1))) (PyData.shownAll (kvs.map (·.2))))) u) { s with heap := h', toks := tk } := fun h' u tk k => ⟨_, _, rfl, by
   have := hQ h' u tk k
   rw [PyData.shown, PyData.shownKv_eq] at this
   exact this⟩
  refine call_repr_slot (by omega) ⟨o, h1, h2⟩ F.slot_dict_repr ?_
  exact call_dict_reprK h1 h2 h3 (ns a (Qa7 _ Qag) _ h1 h2) no (ReprEntriesK.of_two es.toList _ _ q1 q2) hg (clear _) hu2 (fun _ _ z => z) hq (by rw [<- PyData.shownKv_eq]; exact z1)
end
end My
namespace My
open PySem PySem.Spec PyProof.Rows L2
variable [CP] [TC]
section
variable {X : Cx}
theorem Zid : ∀ {xs : List D} {ss : List Int}, Zt2 xs = some ss -> xs = ss.map .int
 | [], _, h => by cases h; rfl
 | x :: r, ss, h => by
  obtain ⟨y, t, e1, e2, rfl⟩ := Zbd h
  rw [Qaj, <- Zid e2]
  cases x <;> simp [Z03] at e1
  subst e1; rfl
theorem RVs.ints_inv {K : KW} {φ : Nat -> Addr} {n : Nat} {H : Hp} : ∀ {ss : List Int} {vs : List V}, RVs K φ n H (ss.map .int) vs -> vs = ss.map V.int
 | [], _, h => by cases h; rfl
 | s :: r, _, h => by
  cases h with
  | cons a t =>
   cases a
   rw [Qaj, <- RVs.ints_inv t]
theorem Zie : ∀ (r : List Int) (n : Int), (r.foldl (fun m k => if k > m then k else m) n ∈ n :: r) /\ n <= r.foldl (fun m k => if k > m then k else m) n /\ ∀ y ∈ r, y <= r.foldl (fun m k => if k > m then k else m) n
 | [], n => ⟨by simp, by simp, by simp⟩
 | k :: r, n => by
  rw [List.foldl_cons]
  obtain ⟨h1, h2, h3⟩ := Zie r (if k > n then k else n)
  have h4 : n <= (if k > n then k else n) /\ k <= (if k > n then k else n) := by split <;> constructor <;> omega
  refine ⟨?_, by omega, fun y hy => ?_⟩
  ·rcases Qaf.mp h1 with e | e
   ·rw [e]
    split <;> simp
   ·exact Qae _ (Qae _ e)
  ·rcases Qaf.mp hy with e | e
   ·rw [e]; omega
   ·exact h3 y e
theorem Zn2 {ns : List Int} {m : Int} (h : Z83 ns = some m) : m ∈ ns /\ ∀ y ∈ ns, y <= m := by
 cases ns with
 | nil => cases h
 | cons n r =>
  obtain ⟨h1, h2, h3⟩ := Zie r n
  simp only [Z83, Option.some.injEq] at h
  rw [h] at h1 h2 h3
  refine ⟨h1, fun y hy => ?_⟩
  rcases Qaf.mp hy with e | e
  ·rw [e]; exact h2
  ·exact h3 y e
theorem RNs.two {K : KW} {φ : Nat -> Addr} {n : Nat} {H : Hp} {d e : D} {vs : List V} (r : RNs K φ n H [d, e] vs) : ∃ v w, vs = [v, w] /\ RN K φ n H d v /\ RN K φ n H e w := by
 cases r with
 | cons a t =>
  obtain ⟨w, rfl, b⟩ := t.one
  exact ⟨_, w, rfl, a, b⟩
def Z9d (K : PySem.W.Frag) : List V -> Hp -> VK -> Prop := fun vs H Q => ∃ (a : Addr) (ss : List Str) (m : Str), vs = [V.ref a] /\ SqL K H a (ss.map V.str) /\ Yc0 ss = some m /\ Q (.str m) H
theorem Zwe (hc : X.calm = true) (hu : X.A.units + 1 < cLine) : CallR X (.builtin "min") (Z9d X.kw) := by
 intro pins s σ H vs us Q I r h
 obtain ⟨a, ss, m, rfl, hs, e, q⟩ := h
 cases ss with
 | nil => cases e
 | cons z zs =>
  cases e
  obtain ⟨its, rv, hl, _⟩ := I.list hs
  rw [Vals.ref1 r]
  refine PySem.W.min_list_datum (α := Str) (x := z) (xs := zs) (I.ok.hd hc) hl.isList (PySem.W.HoldAll.of_strs rv.strs) hu fun i v h' tk hv hh hk => ?_
  obtain ⟨t, rfl⟩ := PySem.W.str_of_holds hh
  refine ⟨.str _, H, I.kept hk, ⟨_, rfl⟩, ?_⟩
  have e : PySem.W.minOf z zs = zs.foldl (fun m k => if k.cps.toList < m.cps.toList then k else m) z := by
   unfold PySem.W.minOf
   congr 1
   funext m k
   show (if decide (k.cps.toList < m.cps.toList) = true then k else m) = _
   simp only [Qab]
  rw [e]
  exact q
theorem Z1b (hc : X.calm = true) (hg : X.A.guards = some []) (hu : X.A.units + 65 < cLine) (f : Bf) : CallR X (bfV f) (rBl X.kw f) := by
 intro pins s σ H vs us Q I rs ⟨φ, S, ds, d, r, hd, h, k⟩
 unfold Zft at h
 split at h
 ·obtain ⟨v, rfl, rv⟩ := hd.one
  split at h
  ·have ex := rv.str; subst ex
   split at h
   ·rename_i hz
    cases h
    exact call_len_str pins s σ H _ us Q I rs ⟨_, rfl, hz, k.now r (.int _)⟩
   ·cases h
  ·cases h
   obtain ⟨a, ws, rfl, h1, q⟩ := rv.dict
   obtain ⟨u, rfl, ru⟩ := vals1 rs
   cases ru
   rw [<- q.length] at k
   exact d_len I h1 fun t s' I' => ⟨.int _, H, I', ⟨t, rfl⟩, k.now r (.int _)⟩
  ·simp only [Qad] at h
   obtain ⟨xs, e, rfl⟩ := h
   obtain ⟨a, ws, rfl, sq, q⟩ := Zgx rv e
   rw [<- q.length] at k
   exact call_len_seq pins s σ H _ us Q I rs ⟨_, ws, rfl, sq, k.now r (.int _)⟩
 ·obtain ⟨v, rfl, rv⟩ := hd.one
  have ex := rv.int; subst ex; cases h
  exact call_abs pins s σ H _ us Q I rs ⟨_, rfl, k.now r (.int _)⟩
 ·obtain ⟨v, rfl, rv⟩ := hd.one
  have ex := rv.int; subst ex; cases h
  exact call_int1 pins s σ H _ us Q I rs (.inl ⟨_, rfl, k.now r (.int _)⟩)
 ·obtain ⟨v, rfl, rv⟩ := hd.one
  have ex := rv.bl; subst ex; cases h
  exact call_int1 pins s σ H _ us Q I rs (.inr ⟨_, rfl, k.now r (.int _)⟩)
 ·obtain ⟨v, rfl, rv⟩ := hd.one
  split at h
  ·cases h
   obtain ⟨a, ws, rfl, h1, q⟩ := rv.tup
   exact Zc8 pins s σ H _ us Q I rs ⟨_, _, rfl, .inr ⟨h1.sq, k.now r (.tup h1 q)⟩⟩
  ·cases h
   obtain ⟨a, ws, rfl, h1, q⟩ := rv.list
   exact Zc8 pins s σ H _ us Q I rs ⟨_, _, rfl, .inl ⟨SqL.rd h1, fun p hp => Zvy r q hp k⟩⟩
  ·cases h
 ·obtain ⟨v, rfl, rv⟩ := hd.one
  simp only [Qad] at h
  obtain ⟨z, e, rfl⟩ := h
  obtain ⟨p, e1, hs, hl, hdp, rfl⟩ := Zmf e
  have q := k.now r (.str _)
  obtain ⟨u, rfl, ru⟩ := vals1 rs
  obtain ⟨as, rd, ns⟩ := Zbr I _ _ _ _ _ e1 rv ru
  exact Zmk rd hs ns hl hg (by omega) fun h' u tk kp => ⟨.str _, H, I.kept kp, ⟨_, rfl⟩, q⟩
 ·obtain ⟨v, rfl, rv⟩ := hd.one
  simp only [Qad] at h
  obtain ⟨bs, e, rfl⟩ := h
  have e3 := Zgw e
  subst e3
  obtain ⟨a, ws, rfl, h1, q⟩ := rv.list
  have e4 := q.bls_inv
  subst e4
  exact cr_all hc pins s σ H _ us Q I rs ⟨_, bs, rfl, SqL.rd h1, k.now r (.bl _)⟩
 ·obtain ⟨v, rfl, rv⟩ := hd.one
  simp only [Qad] at h
  obtain ⟨bs, e, rfl⟩ := h
  have e3 := Zgw e
  subst e3
  obtain ⟨a, ws, rfl, h1, q⟩ := rv.list
  have e4 := q.bls_inv
  subst e4
  exact cr_any hc pins s σ H _ us Q I rs ⟨_, bs, rfl, SqL.rd h1, k.now r (.bl _)⟩
 ·obtain ⟨v, w, rfl, rv, rw⟩ := hd.two
  have ex := rv.int; have ey := rw.int; subst ex ey; cases h
  exact call_max2 hc pins s σ H _ us Q I rs ⟨_, _, rfl, k.now r (.int _)⟩
 ·obtain ⟨v, rfl, rv⟩ := hd.one
  simp only [Qad, Qak] at h
  obtain ⟨m, ⟨ns, e, em⟩, rfl⟩ := h
  have e3 := Zid e
  subst e3
  obtain ⟨a, ws, rfl, h1, q⟩ := rv.list
  have e4 := q.ints_inv
  subst e4
  obtain ⟨m1, m2⟩ := Zn2 em
  refine cr_max hc pins s σ H _ us Q I rs ⟨_, ns, rfl, SqL.rd h1, ?_, fun m' g1 g2 => ?_⟩
  ·exact List.length_pos_of_mem m1
  ·have : m' = m := Int.le_antisymm (m2 m' g1) (g2 m m1)
   subst this
   exact k.now r (.int _)
 ·obtain ⟨v, w, rfl, rv, rw⟩ := hd.two
  have ex := rv.int; have ey := rw.int; subst ex ey; cases h
  exact call_min2 hc pins s σ H _ us Q I rs ⟨_, _, rfl, k.now r (.int _)⟩
 ·obtain ⟨v, rfl, rv⟩ := hd.one
  simp only [Qad, Qak] at h
  obtain ⟨m, ⟨ss, e, em⟩, rfl⟩ := h
  have e3 := Zb3 e
  subst e3
  obtain ⟨a, ws, rfl, h1, q⟩ := rv.list
  have e4 := q.strs_inv
  subst e4
  exact Zwe hc (by omega) pins s σ H _ us Q I rs ⟨_, ss, m, rfl, SqL.rd h1, em, k.now r (.str _)⟩
 ·obtain ⟨v, rfl, rv⟩ := hd.one
  have ex := rv.int; subst ex
  split at h
  ·rename_i hz
   cases h
   exact call_str_int pins s σ H _ us Q I rs ⟨_, rfl, hz, k.now r (.str _)⟩
  ·cases h
 ·cases h
def rMt (K : KW) (f : Mf) : V -> List V -> Hp -> VK -> Prop := fun x vs H Q => ∃ φ S d ds d', RelS K φ S H /\ RN K φ S.nx H d x /\ RNs K φ S.nx H ds vs /\ Zqr f d ds = some d' /\ Zd4 K φ S H Q d' S
def mfT : Mf -> String
 | .join => "str"
 | .upper => "str"
 | .strip => "str"
 | .partition => "str"
 | .index => "list"
 | .indexT => "tuple"
def mfN : Mf -> Str
 | .join => "join"
 | .upper => "upper"
 | .strip => "strip"
 | .partition => "partition"
 | .index => "index"
 | .indexT => "index"
def mfI : Mf -> String
 | .join => "str.join"
 | .upper => "str.upper"
 | .strip => "str.strip"
 | .partition => "str.partition"
 | .index => "list.index"
 | .indexT => "tuple.index"
theorem Z1c (hu : X.A.units + 1 < cLine) (f : Mf) : MtR X (mfI f) (rMt X.kw f) := by
 intro pins s σ H x vs v us Q I rx rs ⟨φ, S, d, ds, d', r, hx, hd, h, k⟩
 unfold Zqr at h
 split at h
 ·obtain ⟨y, rfl, ry⟩ := hd.one
  have ex := hx.str; subst ex
  simp only [Qak] at h
  obtain ⟨ss, ⟨xs, e1, e2⟩, h⟩ := h
  have e3 := Zb3 e2
  subst e3
  obtain ⟨a, ws, rfl, sq, q⟩ := Zgx ry e1
  have e4 := q.strs_inv
  subst e4
  split at h
  ·rename_i hz
   cases h
   exact mt_join pins s σ H _ _ v us Q I rx rs ⟨_, a, ss, rfl, rfl, sq, hz, k.now r (.str _)⟩
  ·cases h
 ·cases hd
  have ex := hx.str; subst ex
  split at h
  ·rename_i hz
   cases h
   exact mt_upper pins s σ H _ _ v us Q I rx rs ⟨_, rfl, rfl, hz, k.now r (.str _)⟩
  ·cases h
 ·obtain ⟨y, rfl, ry⟩ := hd.one
  have ex := hx.str; have ey := ry.str; subst ex ey
  split at h
  ·rename_i hz
   cases h
   exact mt_stripChars pins s σ H _ _ v us Q I rx rs ⟨_, _, rfl, rfl, hz, k.now r (.str _)⟩
  ·cases h
 ·obtain ⟨y, rfl, ry⟩ := hd.one
  have ex := hx.str; have ey := ry.str; subst ex ey
  split at h
  ·rename_i hz
   cases h
   exact mt_partition pins s σ H _ _ v us Q I rx rs ⟨_, _, rfl, rfl, hz.1, hz.2, fun p hp => ktN r (.cons (.str _) (.cons (.str _) (.cons (.str _) .nil))) hp k⟩
  ·cases h
 ·rename_i xs z
  obtain ⟨y, rfl, ry⟩ := hd.one
  have ey := ry.str; subst ey
  simp only [Qak] at h
  obtain ⟨ss, e2, h⟩ := h
  have e3 := Zb3 e2
  subst e3
  obtain ⟨a, ws, rfl, h1, q⟩ := hx.tup
  have e4 := q.strs_inv
  subst e4
  split at h
  ·rename_i hj
   cases h
   have hg := List.findIdx_getElem (w := hj)
   refine mt_tup_index pins s σ H _ _ v us Q I rx rs ⟨_, ss, z, ss.findIdx (fun y => decide (y = z)), rfl, rfl, h1.sq, ?_, fun m hm hz' => ?_, k.now r (.int _)⟩
   ·rw [Qa8 hj]
    exact congrArg some (Qau hg)
   ·have hl : m < ss.length := Nat.lt_trans hm hj
    rw [Qa8 hl] at hz'
    have := List.not_of_lt_findIdx hm
    exact absurd (Option.some.inj hz') (by simpa using this)
  ·cases h
 ·rename_i xs z
  obtain ⟨y, rfl, ry⟩ := hd.one
  have ey := ry.str; subst ey
  simp only [Qak] at h
  obtain ⟨ss, e2, h⟩ := h
  have e3 := Zb3 e2
  subst e3
  obtain ⟨a, ws, rfl, h1, q⟩ := hx.list
  have e4 := q.strs_inv
  subst e4
  split at h
  ·rename_i hj
   cases h
   have hg := List.findIdx_getElem (w := hj)
   refine mt_index pins s σ H _ _ v us Q I rx rs ⟨_, _, _, ss.findIdx (fun y => decide (y = z)), .str (ss[ss.findIdx (fun y => decide (y = z))]), rfl, rfl, SqL.rd h1, rfl, flat_strs ss, ?_, ?_, fun m z' hm hz' => ?_, k.now r (.int _)⟩
   ·rw [Qar, Qa8 hj]; rfl
   ·have := Qau hg
    show eqV (.str _) (.str z) = true
    rw [this]
    simp [eqV]
   ·have hl : m < ss.length := Nat.lt_trans hm hj
    rw [Qar, Qa8 hl] at hz'
    cases hz'
    have := List.not_of_lt_findIdx hm
    have ne : ¬ ss[m] = z := by simpa using this
    show eqV (.str _) (.str z) = false
    simp [eqV, ne]
  ·cases h
 ·cases h
theorem Zug {f : Mf} {φ : Nat -> Addr} {n : Nat} {H : Hp} {d : D} {x : V} (hx : RN X.kw φ n H d x) (h : Zeq f d = true) : tyG X (mfT f) x H := by
 unfold Zeq at h
 split at h
 ·have ex := hx.str; subst ex; exact tyG.of rfl
 ·have ex := hx.str; subst ex; exact tyG.of rfl
 ·have ex := hx.str; subst ex; exact tyG.of rfl
 ·have ex := hx.str; subst ex; exact tyG.of rfl
 ·obtain ⟨a, ws, rfl, h1, q⟩ := hx.list
  exact tyG.of (.inl ⟨rfl, _, SqL.rd h1⟩)
 ·obtain ⟨a, ws, rfl, h1, q⟩ := hx.tup
  exact tyG.tx ⟨_, _, rfl, h1⟩
 ·cases h
def rMu (K : KW) (f : Uf) : V -> List V -> Hp -> VK -> Prop := fun x vs H Q => ∃ φ S a o u ds o', RelS K φ S H /\ x = .ref a /\ H a = some u /\ RU K φ S.nx H a o u /\ RVs K φ S.nx H ds vs /\ Zj9 f o (Znb f S ds) = some o' /\ ∀ v u', RU K φ S.nx H a o' u' -> Q v (upd H a u')
def ufT : Uf -> String
 | .append => "list"
 | .extend => "list"
 | .update => "dict"
 | .pop => "dict"
 | .insert => "list"
def ufN : Uf -> Str
 | .append => "append"
 | .extend => "extend"
 | .update => "update"
 | .pop => "pop"
 | .insert => "insert"
def ufI : Uf -> String
 | .append => "list.append"
 | .extend => "list.extend"
 | .update => "dict.update"
 | .pop => "dict.pop"
 | .insert => "list.insert"
theorem Zml : MtR X "list.extend" (fun x vs H Q => ∃ l b xs zs, x = .ref l /\ vs = [.ref b] /\ H l = some (.lst xs) /\ Rd H b (.lst zs) /\ xs.length + zs.length <= sizeLine /\ Q .non (upd H l (.lst (xs ++ zs)))) := by
 rintro pins s σ H x vs v us Q I rx rv ⟨l, b, xs, zs, rfl, rfl, hl, hb, hz, q⟩
 cases rx
 obtain ⟨u, rfl, ru⟩ := vals1 rv
 cases ru
 obtain ⟨_, its, n, r, len1, e⟩ := I.lstM hl
 obtain ⟨_, its2, n2, r2, e2⟩ := hb.ok I.hok
 have len2 := r2.length
 have small : its.toArray.size + its2.toArray.size <= sizeLine := by simp only [Qa6]; omega
 have long : ¬ (!its.toArray.isEmpty && Builtin.List.listTooLong (its.toArray.size + its2.toArray.size)) = true := by rw [notLongL small, Bool.and_false]; exact Bool.false_ne_true
 refine call_meets F.slot_list_extend ⟨_, e, rfl⟩ F.entry_list_extend (F.args_list_extend_2 _ _) (AutoSeq1.list_extend_list_list_0 l its.toArray n b its2.toArray n2 long (by simp only [Qa6]; omega) (by omega)) ⟨e, e2, ?_⟩
 exact ⟨.non, _, I.lset (its' := its ++ its2) hl e (by simp) (r.append r2) (by simpa using hz), rfl, q⟩
theorem Zn3 : MtR X "dict.update" (fun x vs H Q => ∃ a b kvs more, x = .ref a /\ vs = [.ref b] /\ H a = some (.dK kvs) /\ (∃ o, H b = some (.frz o (.dK more))) /\ kvs.length + more.length <= sizeLine /\ Q .non (upd H a (.dK (mergeK kvs more)))) := by
 rintro pins s σ H x vs v us Q I rx rv ⟨a, b, kvs, more, rfl, rfl, ha, ⟨o, hb⟩, hz, q⟩
 cases rx
 obtain ⟨u, rfl, ru⟩ := vals1 rv
 cases ru
 have ne : a ≠ b := fun z => by rw [z, hb] at ha; cases ha
 obtain ⟨_, sa, ws, ra, da⟩ := dk_of I.hok ha
 obtain ⟨_, sb, ws2, rb, db⟩ := dk_rd I.hok (.inr ⟨o, hb⟩)
 have l1 : ws.length = kvs.length := by
  have := congrArg List.length (Zew ra).2
  simpa using this
 have l2 : ws2.length = more.length := by
  have := congrArg List.length (Zew rb).2
  simpa using this
 refine call_meetsIn PySem.F.slot_dict_update da.typeIs PySem.F.entry_dict_update (PySem.F.args_dict_update_2 _ _) (meets_dict_update (mixKind X.prog X.w) a b ne sb) ⟨ws, ws2, da, db, by omega, fun h' d1 d2 sm => ?_⟩
 have hz2 : (mergeK kvs more).length <= sizeLine := by
  have := length_mergeK more kvs
  omega
 have he : ∃ q, h'.get? a = some q := let ⟨q, _, _, hq, _⟩ := d1; ⟨q, hq⟩
 exact ⟨.non, _, d_write I (by rw [ha]; exact True.intro) sm he (dk_new hz2 sa (rb.merge ra) d1), rfl, q⟩
theorem Zuh (hu1 : X.A.units + 10 < cLine) (f : Uf) : MtR X (ufI f) (rMu X.kw f) := by
 rintro pins s σ H x vs v us Q I rx rs ⟨φ, S, a, o, u, ds, o', r, rfl, hH, hu, hd, h, k⟩
 unfold Zj9 at h
 split at h
 ·rename_i f0 o0 xs0 ys y hy
  obtain ⟨ws, rfl, q⟩ := hu
  have hy : ds = [y] := hy
  subst hy
  obtain ⟨w, rfl, rw'⟩ := hd.one
  split at h
  ·rename_i hz
   cases h
   rw [<- q.length] at hz
   exact mt_append pins s σ H _ _ v us Q I rx rs ⟨_, ws, w, rfl, rfl, hH, hz, k _ _ ⟨_, rfl, q.append (.cons rw' .nil)⟩⟩
  ·cases h
 ·rename_i f0 o0 xs0 ys y hy
  obtain ⟨ws, rfl, q⟩ := hu
  have hn := RRs.rd r hd.rr
  rw [show ds.map (rdS S) = [y] from hy] at hn
  obtain ⟨w, rfl, rw'⟩ := hn.one
  split at h
  ·split at h
   ·rename_i hz
    cases h
    obtain ⟨b, zs, rfl, hb, q2⟩ := rw'.list
    rw [<- q.length, <- q2.length] at hz
    exact Zml pins s σ H _ _ v us Q I rx rs ⟨_, b, ws, zs, rfl, rfl, hH, hb, hz, k _ _ ⟨_, rfl, q.append q2⟩⟩
   ·cases h
  ·cases h
 ·rename_i f0 o0 xs0 ys y hy
  obtain ⟨ws, rfl, q⟩ := hu
  have hy : ds = [y] := hy
  subst hy
  obtain ⟨w, rfl, rw'⟩ := hd.one
  split at h
  ·split at h
   ·rename_i hz
    cases h
    cases rw' with
    | wd e q2 =>
     rw [<- q.length, <- q2.length] at hz
     exact Zn3 pins s σ H _ _ v us Q I rx rs ⟨_, _, ws, _, rfl, rfl, hH, ⟨_, e⟩, hz, k _ _ ⟨_, rfl, q.putAll q2⟩⟩
   ·cases h
  ·cases h
 ·rename_i f0 o0 xs0 ys y hy
  obtain ⟨ws, rfl, q⟩ := hu
  have hy : ds = [y] := hy
  subst hy
  obtain ⟨w, rfl, rw'⟩ := hd.one
  simp only [Qak] at h
  obtain ⟨kk, hk, h⟩ := h
  split at h
  ·rename_i hl
   cases h
   have e := RV.key hk (.of rw')
   subst e
   rcases q.look kk with ⟨d, v, h1, h2, _⟩ | ⟨h1, _⟩
   ·exact Zrd pins s σ H _ _ _ us Q I rx rs ⟨_, ws, kk, v, rfl, rfl, hH, h2, k _ _ ⟨_, rfl, q.drop kk⟩⟩
   ·rw [h1] at hl; cases hl
  ·cases h
 ·rename_i f0 o0 xs0 ys y hy
  obtain ⟨ws, rfl, ka, q⟩ := hu
  have hy : ds = [y] := hy
  subst hy
  obtain ⟨w, rfl, rw'⟩ := hd.one
  simp only [Qak] at h
  obtain ⟨kk, hk, h⟩ := h
  split at h
  ·rename_i hl
   cases h
   obtain ⟨b', rfl, hb⟩ := RN.keyT hk (.of rw')
   rcases q.look kk with ⟨d, v, h1, h2, _⟩ | ⟨h1, _⟩
   ·exact Zrc hu1 pins s σ H _ _ _ us Q I rx rs ⟨_, ws, kk, b', v, rfl, rfl, hH, ka, hb, h2, k _ _ ⟨_, rfl, ka.drop kk, by rw [Zq9]; exact q.drop kk⟩⟩
   ·rw [h1] at hl; cases hl
  ·cases h
 ·rename_i f0 o0 xs0 ys i y hy
  obtain ⟨ws, rfl, q⟩ := hu
  have hy : ds = [.int i, y] := hy
  subst hy
  cases hd with
  | cons a t =>
   obtain ⟨w, rfl, rw'⟩ := t.one
   cases a
   split at h
   ·rename_i hz
    cases h
    rw [<- q.length] at hz
    exact mt_insert pins s σ H _ _ v us Q I rx rs ⟨_, ws, i, w, rfl, rfl, hH, hz.1, hz.2.1, hz.2.2, k _ _ ⟨_, rfl, ((q.take _).append (.cons rw' .nil)).append (q.drop _)⟩⟩
   ·cases h
 ·cases h
theorem Zui {f : Uf} {φ : Nat -> Addr} {n : Nat} {H : Hp} {o : O} {u : HO} {a : Addr} (hH : H a = some u) (hu : RU X.kw φ n H a o u) (h : Zi9 f o = true) : tyG X (ufT f) (.ref a) H := by
 unfold Zi9 at h
 split at h
 ·obtain ⟨ws, rfl, q⟩ := hu; exact tyG.of (.inl ⟨rfl, _, SqL.of hH⟩)
 ·obtain ⟨ws, rfl, q⟩ := hu; exact tyG.of (.inl ⟨rfl, _, SqL.of hH⟩)
 ·obtain ⟨ws, rfl, q⟩ := hu; exact tyG.of (.inr (.inr (.inl ⟨rfl, .inl ⟨_, hH⟩⟩)))
 ·obtain ⟨ws, rfl, q⟩ := hu; exact tyG.of (.inr (.inr (.inl ⟨rfl, .inl ⟨_, hH⟩⟩)))
 ·obtain ⟨ws, rfl, q⟩ := hu; exact tyG.xt (.inl hH)
 ·obtain ⟨ws, rfl, q⟩ := hu; exact tyG.of (.inl ⟨rfl, _, SqL.of hH⟩)
 ·cases h
def Yf4 (K : KW) : TSet := fun x i v H Q => ∃ φ S a o u di dv o', RelS K φ S H /\ x = .ref a /\ H a = some u /\ RU K φ S.nx H a o u /\ RV K φ S.nx H di i /\ RV K φ S.nx H dv v /\ setO o di dv = some o' /\ ∀ u', RU K φ S.nx H a o' u' -> Q (upd H a u')
theorem Zuj (hu1 : X.A.units + 10 < cLine) : PSet X (Yf4 X.kw) := by
 rintro pins s σ H x i v ov iv u0 Q I ro ri rv ⟨φ, S, a, o, u, di, dv, o', r, rfl, hH, hu, hi, hv, h, k⟩
 unfold setO at h
 split at h
 ·obtain ⟨ws, rfl, q⟩ := hu
  split at h
  ·cases hi
   simp only [Qad] at h
   obtain ⟨j, hj, rfl⟩ := h
   rw [<- q.length] at hj
   exact set_list pins s σ H _ _ v ov iv u0 Q I ro ri rv ⟨_, ws, _, j, rfl, rfl, hH, hj, k _ ⟨_, rfl, q.set hv j⟩⟩
  ·cases h
 ·obtain ⟨ws, rfl, q⟩ := hu
  simp only [Qak] at h
  obtain ⟨kk, hk, h⟩ := h
  split at h
  ·rename_i hl
   cases h
   have e := RV.key hk (.of hi)
   subst e
   cases ro
   rw [<- q.length] at hl
   exact d_setItem (by omega) I (DPut.k hH hl) ri rv fun s' I' => ⟨_, I', k _ ⟨_, rfl, q.put kk hv⟩⟩
  ·cases h
 ·obtain ⟨ws, rfl, ka, q⟩ := hu
  simp only [Qak] at h
  obtain ⟨kk, hk, h⟩ := h
  split at h
  ·rename_i hl
   cases h
   obtain ⟨b', rfl, hb⟩ := RN.keyT hk (.of hi)
   cases ro
   rw [<- q.length, Qal] at hl
   cases ri
   exact Znr hu1 I hH ka hb hl rv fun s' I' => ⟨_, I', k _ ⟨_, rfl, ka.put hb, by rw [Zjf]; exact q.put kk hv⟩⟩
  ·cases h
 ·cases h
def tyN : Ty -> String
 | .str => "str"
 | .tuple => "tuple"
 | .list => "list"
 | .dict => "dict"
 | .int => "int"
 | .bool => "bool"
def tyS : Ty -> Str
 | .str => "str"
 | .tuple => "tuple"
 | .list => "list"
 | .dict => "dict"
 | .int => "int"
 | .bool => "bool"
def tyD : D -> String
 | .non => "NoneType"
 | .bl _ => "bool"
 | .int _ => "int"
 | .str _ => "str"
 | .tup _ => "tuple"
 | .wt _ => "tuple"
 | .kt _ => "tuple"
 | .wl _ => "list"
 | .wd _ => "dict"
 | .wT _ => "dict"
 | .ks _ => "list"
 | .ref _ => "object"
 | .fn _ => "function"
 | .exn _ _ _ => "object"
 | .clo _ _ => "object"
theorem RN.ty {K : KW} {φ : Nat -> Addr} {n : Nat} {H : Hp} {d : D} {x : V} (h : RN K φ n H d x) (ok : Zbj d = true) : TyX K H x (.type (tyD d)) := by
 cases h with
 | of h =>
  cases h with
  | non => exact .base .non
  | bl b => exact .base (.bl b)
  | int i => exact .base (.int i)
  | str z => exact .base (.str z)
  | tup e _ => obtain ⟨o, e, _⟩ := e; exact .fTuple e
  | kt e _ => exact .base (.tup e)
  | wt e _ => obtain ⟨o, its, m, h1, h2, _⟩ := e; exact .kTuple h1 h2
  | wl e _ => exact .base (.frz e)
  | wd e _ => exact .fDict e
  | wT e _ => cases ok
  | ks _ _ => cases ok
  | ref _ => cases ok
  | fn _ => cases ok
  | exn0 _ _ => cases ok
  | exn _ _ _ _ _ => cases ok
  | clo => cases ok
 | opq => cases ok
 | wl e _ => exact .base (.lst e)
 | wd e _ => exact .base (.dK e)
 | wT e _ => cases ok
theorem Zuk (K : KW) (d : D) (ok : Zbj d = true) (t : Ty) : PySem.W.kitOne K (.type (tyD d)) (.type (tyN t)) = some (Zni d t) := by
 cases d <;> cases t <;> first | rfl | (cases ok; done) | decide +kernel
end
end My
namespace My
open PySem PySem.Spec PyProof.Rows L2
structure FunB (K : PySem.W.Frag) (x qual : Str) (st : Stmt) (ps : List Str) (f : Addr) (fd : FuncData) : Prop where
 ex : ∃ (oc : Value) (od : Option Addr) (dV kV doc pm : Value) (an : Option Addr) (cdv ct : Value) (osl : Array (Option Value)),
  fd = PySem.W.fnOf x qual (defArgs st) (defBody st) (defScope st) dV kV doc pm an cdv ct /\ K.lookup f = some ⟨oc, od, .func fd, osl⟩ /\ PySem.W.codeIn K cdv qual = true
 kp : PySem.W.keepIn K (.ref f) = true
 bn : Binds K fd ps []
theorem FunB.of {K : PySem.W.Frag} {x qual : Str} {st : Stmt} {ps : List Str} {f : Addr} {fd : FuncData} (F : Fun K x qual st f fd)
  (h : ∀ (kV doc pm : Value) (an : Option Addr) (cdv ct : Value) (us : List Value), us.length = ps.length -> bindArgs (PySem.W.fnOf x qual (defArgs st) (defBody st) (defScope st) .none kV doc pm an cdv ct) ⟨us, []⟩ = pure (ps.zip us)) : FunB K x qual st ps f fd := by
 obtain ⟨oc, od, kV, doc, pm, an, cdv, ct, osl, e, lk, hcd⟩ := F.ex
 exact ⟨⟨oc, od, _, kV, doc, pm, an, cdv, ct, osl, e, lk, hcd⟩, F.kp, F.binds h⟩
abbrev SpL := LC -> Sp
def Zrf (s : Shared) (H : Hp) (outer : List Env) : LC := ⟨fun cl fr ws => NdefX.CellsAt cl fr ws s.heap H /\ ∀ y c, cl.lookup y = some c -> c ∉ frs outer, fun _ _ _ => False⟩
structure FnG (P : Program) (w : World) (K : PySem.W.Frag) (mg : Str -> Option Value) (base : Heap) (k : Nat) (f : Addr) (fd : FuncData) (ps : List Str) (sp : SpL) : Prop where
 len : ∀ L vs H Q E, sp L vs H Q E -> vs.length = ps.length
 go : ∀ (A : Around) (outer : List Env) (s : Shared) (H : Hp) (args : Args) (us : List Value) (vs : List V) (Q : VK) (E : XK), A.guards = some [] -> Room k A -> Env0 P w K mg base A outer s H -> BindsTo s fd args (ps.zip us) -> Vals vs us -> sp (Zrf s H outer) vs H Q E ->
  codeAny (model P w) A (Code.call (.ref f) args) (CR (L2.CX P w) outer P w H s Q E) s
theorem FnG.of {P : Program} {w : World} {K : PySem.W.Frag} {mg : Str -> Option Value} {base : Heap} {x qual : Str} {st : Stmt} {f : Addr} {fd : FuncData} {N ps : List Str} {k : Nat} {sp : SpL}
  (F : FunB K x qual st ps f fd) (S : FnScope N ps (defScope st)) (len : ∀ L vs H Q E, sp L vs H Q E -> vs.length = ps.length)
  (hbody : ∀ (cdv : Value) (A : Around) (outer : List Env) (s : Shared) (H : Hp) (vs : List V) (Q : VK) (E : XK), A.guards = some [] -> fd.code = cdv -> Room k (A.deeper (envOfC qual (defScope st) s.heap.objs.size f cdv)) -> Env0 P w K mg base A outer s H -> (∀ y c, (cellsFrom (s.heap.objs.size + 1) (defScope st).names []).lookup y = some c -> s.heap.objs.size <= c) -> sp (Zrf s H outer) vs H Q E ->
   ∃ t, PSs (cxOf (L2.CX P w) P w K mg base N qual (defScope st) f cdv A outer s H E) (defBody st) t /\ t { nx := fun _ H' => Q .non H', rt := Q } (start N vs) H) : FnG P w K mg base (k + 1) f fd ps sp := by
 obtain ⟨oc, od, dV, kV, doc, pm, an, cdv, ct, osl, rfl, lk, hcd⟩ := F.ex
 constructor
 ·exact len
 intro A outer s H args us vs Q E hgu hro he hbi hva hsp
 have hln := len _ vs H Q E hsp
 have inK := he.mod.kin.keeps fun b o z => (he.bs b o z).1
 have noL := he.mod.nolimit.keeps fun b o z => (he.bs b o z).1
 have kinds : ∀ p ∈ ps.zip us, (defScope st).names.lookup p.1 = some .local \/ ((defScope st).names.lookup p.1 = some .cell /\ ((cellsFrom (s.heap.objs.size + 1) (defScope st).names []).lookup p.1).isSome = true) := by
  rintro ⟨nm, vl⟩ hm
  cases S.par nm (List.of_mem_zip hm).1 with
  | inl z => exact Or.inl z
  | inr z => exact Or.inr ⟨z, PySem.W.cellsFrom_some _ _ _ (Or.inl z)⟩
 apply codeAny_call_function hro.depth (inK _ _ lk) rfl S.co S.gen rfl (PySem.W.codeRec_of inK hcd)
 apply hbi
 apply wpAny_newFunctionEnv_cells S.kind kinds
 intro env henv s1 inC
 subst henv
 constructor
 ·exact noL.keeps inC.toInCall.keep
 apply codeAny_func
 obtain ⟨t, walk, reading⟩ := hbody cdv A outer s H vs Q E hgu rfl (hro.deeper _) he (fun y c z => Nat.le_of_lt (inC.above y c (PySem.mem_of_lookup z))) hsp
 have start1 := inv_start (CX := L2.CX P w) (E := E) S hro.hd he hln hva inC
 apply wpAny_mono (walk.run [] s1 (start N vs) H _ start1 reading)
 ·intro fl s' hfl
  match fl, hfl with
  | .ret u, ⟨v, σ', H', J, rel, q⟩ => exact ⟨v, H', J.os, J.bare, J.base, J.hok, rel, q⟩
  | .next, ⟨σ', H', J, q⟩ => exact ⟨V.non, H', J.os, J.bare, J.base, J.hok, rfl, q⟩
  | .brk, ⟨_, _, _, q⟩ => exact q.elim
  | .cont, ⟨_, _, _, q⟩ => exact q.elim
 ·intro e s' z
  exact z
section
variable {X : Cx} {k : Nat} {f : Addr} {fd : FuncData} {ps : List Str} {sp : SpL} {W : WX} {x : Str} {p pos : Pos}
theorem FnG.run1 {pins : List (Addr × Obj)} {σ : L2.St} {H : Hp} {s : Shared} {Q : VK} {us : List Value} {vs : List V} (F : FnG X.prog X.w X.kw X.mg X.base k f fd ps sp) (hg : X.A.guards = some []) (hr : Room k X.A) (hb : Binds X.kw fd ps []) (tk : Takes X W)
  (I : Inv X pins σ H s) (r : Vals vs us) (h : sp (Zrf s H X.stack) vs H Q (WE W σ)) : wpAny (model X.prog X.w) X.A (PySem.call (.ref f) us) (EP X pins σ Q) X.xe s := by
 have l1 : (us ++ []).length = ps.length := by rw [Qa5, <- r.length]; exact F.len _ _ _ _ _ h
 have bt := hb s us I.kIn l1
 rw [Qa5] at bt
 apply wpAny_call
 apply codeAny_mono (F.go X.A X.stack s H ⟨us, []⟩ us vs Q (WE W σ) hg hr I.env0 bt r h)
 intro res s' hq
 match res, hq with
 | .error e, hq => exact passAt tk σ pins H s e s' I hq
 | .ok (.ret u), hq => exact I.after hq
 | .ok .next, hq => exact hq.elim
 | .ok .brk, hq => exact hq.elim
 | .ok .cont, hq => exact hq.elim
theorem FnG.run1d {pins : List (Addr × Obj)} {σ : L2.St} {H : Hp} {s : Shared} {Q : VK} {us ds : List Value} {vs dvs : List V} (F : FnG X.prog X.w X.kw X.mg X.base k f fd ps sp) (hg : X.A.guards = some []) (hr : Room k X.A) (hb : Binds X.kw fd ps ds) (hd : Vals dvs ds) (tk : Takes X W)
  (I : Inv X pins σ H s) (r : Vals vs us) (h : sp (Zrf s H X.stack) (vs ++ dvs) H Q (WE W σ)) : wpAny (model X.prog X.w) X.A (PySem.call (.ref f) us) (EP X pins σ Q) X.xe s := by
 have r2 : Vals (vs ++ dvs) (us ++ ds) := r.append hd
 have l1 : (us ++ ds).length = ps.length := by rw [<- r2.length]; exact F.len _ _ _ _ _ h
 have bt := hb s us I.kIn l1
 apply wpAny_call
 apply codeAny_mono (F.go X.A X.stack s H ⟨us, []⟩ (us ++ ds) (vs ++ dvs) Q (WE W σ) hg hr I.env0 bt r2 h)
 intro res s' hq
 match res, hq with
 | .error e, hq => exact passAt tk σ pins H s e s' I hq
 | .ok (.ret u), hq => exact I.after hq
 | .ok .next, hq => exact hq.elim
 | .ok .brk, hq => exact hq.elim
 | .ok .cont, hq => exact hq.elim
def Zn4 (sp : SpL) (dvs : List V) (W : WX) (t : TA) : TE := fun σ H Q => t σ H fun vs H1 => ∀ L, sp L (vs ++ dvs) H1 Q (WE W σ)
theorem Zn5 {e : Expr} {es : List Expr} {t : TA} {dvs : List V} {ds : List Value} (F : FnG X.prog X.w X.kw X.mg X.base k f fd ps sp) (hgu : X.A.guards = some []) (hr : Room k X.A) (hg : Gl X x) (hm : X.mg x = some (.ref f)) (hk : PySem.W.keepIn X.kw (.ref f) = true) (hb : Binds X.kw fd ps ds) (hd : Vals dvs ds) (tk : Takes X W)
  (ha : PA X (e :: es) t) (hdb : (x == ("__debug__" : Str)) = false) (he : starEach (e :: es) X.env = (false, eval e X.env) :: starEach es X.env) (hpl : (backTo pos (starEach es X.env)).any (·.1) = false) :
  PE X (.Call (.Name x p) (e :: es) [] pos) (Zn4 sp dvs W t) := by
 constructor
 intro pins s σ H Q I h
 apply wpAny_Call_Name_kw
 apply ld_glob I hg hm _ hdb
 apply PySem.W.callWith_K (h₀ := X.base) I.ok.mod.kin hk (thn (ha.run pos pins s σ H _ I h) _) he hpl
 rintro us s1 ⟨vs, H1, I1, r, q⟩
 exact ⟨I1.kIn, F.run1d hgu hr hb hd tk I1 r (q _)⟩
theorem Zmm {dvs : List V} {ds : List Value} (F : FnG X.prog X.w X.kw X.mg X.base k f fd ps sp) (hgu : X.A.guards = some []) (hr : Room k X.A) (hg : Gl X x) (hm : X.mg x = some (.ref f)) (hk : PySem.W.keepIn X.kw (.ref f) = true) (hb : Binds X.kw fd ps ds) (hd : Vals dvs ds) (tk : Takes X W) (hdb : (x == ("__debug__" : Str)) = false) :
  PE X (.Call (.Name x p) [] [] pos) (Zn4 sp dvs W tNil) := by
 constructor
 intro pins s σ H Q I h
 apply wpAny_Call_Name_kw
 apply ld_glob I hg hm _ hdb
 exact PySem.W.callWith_K0 I.kIn hk (F.run1d (us := []) (vs := []) hgu hr hb hd tk I .nil (h _))
end
structure Ks where
 sc : Scope
 own : Scope
 df : Bool
 mk' : Bool
def Ks.vis (k : Ks) (x : Str) : Bool := match k.sc.names.lookup x with
 | some .local => true
 | some .cell => true
 | some .free => true
 | _ => false
def Ks.gl (k : Ks) (x : Str) : Bool := match k.sc.names.lookup x with
 | some .globalImplicit => true
 | _ => false
def Ks.st (k : Ks) (x : Str) : Bool := match k.own.names.lookup x with
 | some .local => true
 | some .cell => true
 | _ => false
def Ks.blk (k : Ks) (scope : Scope) : Ks := ⟨relS scope k.sc, scope, false, false⟩
def Zac (x : Str) : Bool := !(x == ("__debug__" : Str)) && !(x == ("__classdict__" : Str)) && !(x == ("__name__" : Str))
def Zah : Expr -> Bool
 | .Starred _ _ => false
 | _ => true
def Zcb : Expr -> Bool
 | .Call (.Name x _) [] [] _ => x != ("super" : Str)
 | _ => true
def Zbx : Expr -> Bool
 | .Set _ _ _ => false
 | _ => true
def Zfd : Expr -> Bool
 | .Slice _ _ _ _ => false
 | _ => true
def Zb5 : Expr -> Bool
 | .ListComp _ _ _ _ => false
 | .SetComp _ _ _ _ => false
 | .DictComp _ _ _ _ _ => false
 | _ => true
def Zge : Expr -> Bool
 | .UnaryOp .Not _ _ => false
 | .BoolOp _ _ _ => false
 | .IfExp _ _ _ _ => false
 | .Compare _ _ _ _ => false
 | _ => true
def okC : Const -> D -> Bool
 | .none, .non => true
 | .bool a, .bl b => a == b
 | .int i, .int j => decide (i = j)
 | .str x, .str y => decide (x = y)
 | _, _ => false
mutual
def eqC : D -> D -> Bool
 | .non, .non => true
 | .bl a, .bl b => a == b
 | .int i, .int j => decide (i = j)
 | .str x, .str y => decide (x = y)
 | .wt xs, .wt ys => Z0j xs ys
 | _, _ => false
def Z0j : List D -> List D -> Bool
 | [], [] => true
 | x :: xs, y :: ys => eqC x y && Z0j xs ys
 | _, _ => false
end
mutual
theorem Zul : ∀ (a b : D), eqC a b = true -> a = b
 | .non, b, h => by cases b <;> first | rfl | (simp [eqC] at h)
 | .bl a, b, h => by cases b <;> first | (simp [eqC] at h; rw [h]) | (simp [eqC] at h)
 | .int a, b, h => by cases b <;> first | (simp [eqC] at h; rw [h]) | (simp [eqC] at h)
 | .str a, b, h => by cases b <;> first | (simp [eqC] at h; rw [h]) | (simp [eqC] at h)
 | .tup a, b, h => by simp [eqC] at h
 | .kt a, b, h => by simp [eqC] at h
 | .ref a, b, h => by simp [eqC] at h
 | .wl a, b, h => by simp [eqC] at h
 | .ks a, b, h => by simp [eqC] at h
 | .wd a, b, h => by simp [eqC] at h
 | .wT a, b, h => by simp [eqC] at h
 | .fn a, b, h => by simp [eqC] at h
 | .wt a, b, h => by
  cases b <;> first | (simp only [eqC] at h; rw [Zn6 _ _ h]) | (simp [eqC] at h)
theorem Zn6 : ∀ (a b : List D), Z0j a b = true -> a = b
 | [], b, h => by cases b <;> first | rfl | (simp [Z0j] at h)
 | x :: xs, b, h => by
  cases b with
  | nil => simp [Z0j] at h
  | cons y ys =>
   simp only [Z0j, Qaa] at h
   rw [Zul _ _ h.1, Zn6 _ _ h.2]
end
def bfN : Bf -> Str
 | .len => "len"
 | .abs => "abs"
 | .int => "int"
 | .tuple => "tuple"
 | .repr => "repr"
 | .all => "all"
 | .any => "any"
 | .max => "max"
 | .min => "min"
 | .str => "str"
def ofN : Of -> Str
 | .list => "list"
 | .sorted => "sorted"
 | .dict => "dict"
 | .sortedX => "sorted"
 | .dictT => "dict"
structure XI where
 c : Str
 fs : List Str
 up : List Str
structure CI where
 c : Str
 fs : List Str
 ms : List (Str × Str)
 ini : Str
structure Pg where
 N : List Str
 fs : List Str
 gs : List (Str × D)
 gd : List (Str × List (Str × Int))
 xs : List XI
 cs : List CI
def Z0k (cs : List CI) (c f : Str) : Bool := cs.any fun x => decide (x.c = c) && x.fs.contains f
def Zmn (cs : List CI) (c m d : Str) : Bool := cs.any fun x => decide (x.c = c) && x.ms.contains (m, d)
def Zqt [CP] (cs : List CI) (c m d : Str) : Bool := (CP.cp d).isEmpty && Zmn cs c m d
def ixT : List Str := ["ValueError", "LookupError", "KeyError", "IndexError"]
def Yf5 : List Str := ["__add__", "__eq__", "__getitem__", "__str__"]
def Z0l (x : CI) : Bool := x.ms.any fun q => Yf5.contains q.1
def Z0m (cs : List CI) (c : Str) : Bool := cs.any fun x => decide (x.c = c) && Z0l x
def Zfw [CP] (cs : List CI) (c m d : Str) : Bool := (CP.cp d).isEmpty && cs.any fun x => decide (x.c = c) && x.ms.contains (m, d) && Z0l x
def Z6p [CP] (cs : List CI) (c m d : Str) : Bool := (CP.cp d).isEmpty && cs.any fun x => decide (x.c = c) && x.ms.any fun q => decide (q.2 = d) && Zbf q.1 && decide (bsN q.1 = m) && !Zhy q.1
def Z6q [CP] (cs : List CI) (c m d : Str) : Bool := (CP.cp d).isEmpty && cs.any fun x => decide (x.c = c) && x.ms.any fun q => decide (q.2 = d) && Zhy q.1 && decide (bsN q.1 = m)
def Zif : ME -> Bool
 | .cst (.str z) => decide (z.length <= 1048576)
 | .fpc _ => true
 | _ => false
def Z0n [CP] (cs : List CI) (c d : Str) : Bool := (CP.cp d).isEmpty && cs.any fun x => decide (x.c = c) && decide (x.ini = d)
def Zig (p : Pg) (ks : Ks) : Expr -> Nat -> Bool
 | .Name x _, i => decide (p.N[i]? = some x) && ks.st x && Zac x
 | _, _ => false
def Zfe (p : Pg) (ks : Ks) : List Expr -> List Nat -> Bool
 | [], [] => true
 | e :: es, i :: is => Zig p ks e i && Zfe p ks es is
 | _, _ => false
def okT (p : Pg) (ks : Ks) (e : Expr) (t : MT) : Bool := match t with
 | .nm i => Zig p ks e i
 | .tp is => match e with
  | .Tuple es _ _ => Zfe p ks es is
  | _ => false
def Zeg {α β : Type} (f : α -> β -> Bool) : List α -> List β -> Bool
 | [], [] => true
 | a :: as, b :: bs => f a b && Zeg f as bs
 | _, _ => false
def Zax (p : Pg) (scope : Scope) (vs : List Nat) : List (Str × Nat) := vs.filterMap fun i => (p.N[i]?).map fun x => (x, i)
def Zwf : Expr -> Bool
 | .UnaryOp o (.Constant c _ _) _ => decide (o = .USub) && decide (c = .int 1)
 | _ => false
def Zc7 : Expr -> Bool
 | .Tuple _ _ _ => true
 | _ => false
def Zd2 : MT -> List Nat -> Bool
 | .nm i, vs => vs.contains i
 | .tp is, vs => is.all vs.contains
def Z0o (a : Arguments) (ps : List Str) : Bool := a.posonlyargs.isEmpty && decide (a.args.map (·.arg) = ps) && a.vararg.isNone && a.kwonlyargs.isEmpty && a.kw_defaults.isEmpty && a.kwarg.isNone && a.defaults.isEmpty && decide (ps.length <= 2)
def Z9e (sc nsc : Scope) (fr : List Str) : Bool :=
 (nsc.names.all fun y => !decide (y.2 = .free) || decide (sc.names.lookup y.1 = some .cell) || decide (sc.names.lookup y.1 = some .free)) && fr.all fun y => decide ((y, NameKind.free) ∈ nsc.names)
def lmB [CP] (m : LmI) (params : Arguments) (scope : Scope) (x : Str) : Bool := Z0o params m.ps && NdefX.nscB m.N m.ps m.fr scope && decide (m.df.np = m.ps.length + m.fr.length) && decide (m.df.n = m.N.length)
def cpB [CP] (f : Str) (k : Nat) (as : List MA) : Bool := (CP.cp f).all fun j => decide (k <= j) && match as[j - k]? with
 | some (.v _) => false
 | some _ => true
 | none => false
def cpC [CP] (as : List MA) (y : Str) : Bool := (match CP.lm y with
 | some m => decide (as.length = m.ps.length)
 | none => false) && (CP.cp y).all fun j => match as[j]? with
 | some (.v _) => false
 | _ => true
variable [CP]
mutual
def okE (p : Pg) : Nat -> Ks -> Expr -> ME -> Bool
 | 0, _, _, _ => false
 | n + 1, ks, e, me => match me with
  | .and a' m => (match e with
   | .BoolOp o (a :: b :: r) _ => decide (o = .And) && okE p n ks a a' && okB p n ks .And (b :: r) m
   | _ => false)
  | .or a' m => (match e with
   | .BoolOp o (a :: b :: r) _ => decide (o = .Or) && okE p n ks a a' && okB p n ks .Or (b :: r) m
   | _ => false)
  | .cst d => (match e with
   | .Constant c _ _ => okC c d
   | _ => false)
  | .var i => (match e with
   | .Name x _ => decide (p.N[i]? = some x) && ks.vis x && Zac x
   | _ => false)
  | .glb y d => (match e with
   | .Name x _ => decide (x = y) && ks.gl x && Zac x && (match p.gs.lookup x with
    | some d' => eqC d' d
    | none => false)
   | _ => false)
  | .bin o' a' b' => (match e with
   | .BinOp a o b _ => decide (o = o') && okE p n ks a a' && okE p n ks b b'
   | _ => false)
  | .neg a' => (match e with
   | .UnaryOp o a _ => decide (o = .USub) && okE p n ks a a'
   | _ => false)
  | .nt a' => (match e with
   | .UnaryOp o a _ => decide (o = .Not) && okE p n ks a a'
   | _ => false)
  | .cmp o' a' b' => (match e with
   | .Compare a [o] [b] _ => decide (o = o') && okR p n ks a a' && okR p n ks b b' && !(behindInMarks o b)
   | _ => false)
  | .ife c' a' b' => (match e with
   | .IfExp c a b _ => okE p n ks c c' && okE p n ks a a' && okE p n ks b b'
   | _ => false)
  | .tup ms => (match e with
   | .Tuple es _ _ => Zev p n ks es ms
   | _ => false)
  | .sub a' i' => (match e with
   | .Subscript a i _ => okR p n ks a a' && okE p n ks i i' && Zfd i
   | _ => false)
  | .slc a' lo' hi' => (match e with
   | .Subscript a (.Slice lo hi none _) _ => okE p n ks a a' && okO p n ks lo lo' && okO p n ks hi hi'
   | _ => false)
  | .rev a' => (match e with
   | .Subscript a (.Slice none none (some st) _) _ => okE p n ks a a' && Zwf st
   | _ => false)
  | .call f ms => (match e with
   | .Call (.Name x _) es [] _ => decide (x = bsN f) && ks.gl x && Zac x && p.fs.contains f && (CP.cp f).isEmpty && Zev p n ks es ms
   | _ => false)
  | .blt f ms => (match e with
   | .Call (.Name x _) es [] _ => decide (x = bfN f) && ks.gl x && Zac x && Zkj p n ks es ms && !es.isEmpty
   | _ => false)
  | .mth f o' ms => (match e with
   | .Call (.Attribute o nm ap) es [] cp => decide (nm = mfN f) && okR p n ks o o' && Zev p n ks es ms && Zcb o && decide (ap.endLine = cp.line) && decide (es.length < 30)
   | _ => false)
  | .dget o' k' d' => (match e with
   | .Call (.Attribute o nm ap) [k, d] [] cp => decide (nm = "get") && okR p n ks o o' && okE p n ks k k' && okE p n ks d d' && Zah k && Zah d && Zcb o && decide (ap.endLine = cp.line)
   | _ => false)
  | .isi a' t => (match e with
   | .Call (.Name x _) [a, .Name y _] [] _ => decide (x = "isinstance") && decide (y = tyS t) && ks.gl x && ks.gl y && Zah a && okE p n ks a a'
   | _ => false)
  | .frz o => Zi5 p n ks e o
  | .sto o => Zi5 p n ks e o
  | .fld c o' f => (match e with
   | .Attribute o nm _ => decide (nm = f) && okE p n ks o o' && Zcb o && Z0k p.cs c f
   | _ => false)
  | .meth c o' m d ms => (match e with
   | .Call (.Attribute o nm ap) es [] cp => decide (nm = m) && okE p n ks o o' && Zev p n ks es ms && Zcb o && decide (ap.endLine = cp.line) && decide (es.length < 30) && Zqt p.cs c m d && !Zbf m
   | _ => false)
  | .metC c o' m d ms => (match e with
   | .Call (.Name x _) es [] cp => (match o' with
    | .var i => decide (p.N[i]? = some x)
    | _ => false) && ks.vis x && Zac x && Zev p n ks es ms && !es.isEmpty && decide (m = "__call__") && Zqt p.cs c m d
   | _ => false)
  | .opI c op a' d b' => (match e with
   | .BinOp a op2 b _ => decide (op2 = op) && (decide (op = .Add) || decide (op = .Mult)) && okE p n ks a a' && okE p n ks b b' && Zfw p.cs c (opN op) d
   | _ => false)
  | .isC c e' => (match e with
   | .Call (.Name x _) [a, .Name y _] [] _ => decide (x = "isinstance") && decide (y = c) && ks.gl x && ks.gl y && Zac y && Zah a && okE p n ks a e' && Z0m p.cs c
   | _ => false)
  | .isiI c e' t => (match e with
   | .Call (.Name x _) [a, .Name y _] [] _ => decide (x = "isinstance") && decide (y = tyS t) && (decide (t = .int) || decide (t = .bool)) && ks.gl x && ks.gl y && Zah a && okE p n ks a e' && Z0m p.cs c
   | _ => false)
  | .prp c o' m d => (match e with
   | .Attribute o nm _ => decide (nm = m) && okE p n ks o o' && Zcb o && Z6p p.cs c m d
   | _ => false)
  | .lenM c o' d => (match e with
   | .Call (.Name x _) [a] [] _ => decide (x = "len") && ks.gl x && Zah a && okE p n ks a o' && Zqt p.cs c "__len__" d
   | _ => false)
  | .eqI c neg a' d b' => (match e with
   | .Compare a [o] [b] _ => decide (o = if neg then .NotEq else .Eq) && okE p n ks a a' && okE p n ks b b' && Zfw p.cs c "__eq__" d
   | _ => false)
  | .conI c neg a' b' d => (match e with
   | .Compare a [o] [b] _ => decide (o = if neg then .NotIn else .In) && okE p n ks a a' && okE p n ks b b' && Zqt p.cs c "__contains__" d && !behindInMarks o b
   | _ => false)
  | .idxI c a' d b' => (match e with
   | .Subscript a i _ => okE p n ks a a' && okE p n ks i b' && Zfd i && Zfw p.cs c "__getitem__" d
   | _ => false)
  | .strI c a' d => (match e with
   | .Call (.Name x _) [a] [] _ => decide (x = "str") && ks.gl x && Zah a && okE p n ks a a' && Zfw p.cs c "__str__" d
   | _ => false)
  | .fpc a' => (match e with
   | .FormattedValue a j none _ => decide (j = -1) && okE p n ks a a'
   | _ => false)
  | .fstr ms => (match e with
   | .JoinedStr vs _ => decide (2 <= vs.length) && decide (vs.length <= 15) && ms.all Zif && Zeg (fun e m => okE p n ks e m) vs ms
   | _ => false)
  | .mkx c fs ms => (match e with
   | .Call (.Name x _) es [] _ => decide (x = c) && ks.gl x && Zac x && Zev p n ks es ms && decide (es.length = fs.length) && p.xs.any fun y => decide (y.c = c) && decide (y.fs = fs) && y.up.contains "!"
   | _ => false)
  | .fldX c fs o' f => (match e with
   | .Attribute o nm _ => decide (nm = f) && okE p n ks o o' && Zcb o && fs.contains f && p.xs.any fun y => decide (y.c = c) && decide (y.fs = fs) && y.up.contains "!"
   | _ => false)
  | .isXo c al subs e' => (match e with
   | .Call (.Name x _) [a, .Name y _] [] _ => decide (x = "isinstance") && decide (y = c) && ks.gl x && ks.gl y && Zac y && Zah a && okE p n ks a e' && (p.xs.any fun z => decide (z.c = c)) && al.all fun q => p.xs.any fun z => decide (z.c = q) && z.up.contains "!" && z.up.contains q && decide (subs.contains q = z.up.contains c)
   | _ => false)
  | .isXt ts tup al subs e' => (match e with
   | .Call (.Name x _) [a, t] [] _ => decide (x = "isinstance") && ks.gl x && Zah a && okE p n ks a e' && (match tup, t with
    | false, .Name y _ => decide (ts = [y]) && ks.gl y && ixT.contains y
    | true, .Tuple [.Name y _, .Name z _] _ _ => decide (ts = [y, z]) && ks.gl y && ixT.contains y && ks.gl z && ixT.contains z
    | _, _ => false) && !al.isEmpty && al.all fun q => p.xs.any fun z => decide (z.c = q) && z.up.contains "!" && decide (subs.contains q = ts.any z.up.contains)
   | _ => false)
  | .clsm c m d ms => (match e with
   | .Call (.Attribute (.Name x _) nm ap) es [] cp => decide (x = c) && decide (nm = m) && ks.gl x && Zac x && Zev p n ks es ms && !es.isEmpty && decide (ap.endLine = cp.line) && decide (es.length < 30) && Z6q p.cs c m d
   | _ => false)
  | .makV i c ini ms => (match e with
   | .Call (.Name x _) es [] _ => decide (p.N[i]? = some x) && ks.vis x && Zac x && Zev p n ks es ms && !es.isEmpty && Z0n p.cs c ini
   | _ => false)
  | .make c ini ms => (match e with
   | .Call (.Name x _) es [] _ => decide (x = c) && ks.gl x && Zac x && Zev p n ks es ms && Z0n p.cs c ini
   | _ => false)
  | .callL f as => (match e with
   | .Call (.Name x _) es [] _ => decide (x = f) && ks.gl x && Zac x && ks.df && p.fs.contains f && !Zbf f && Zjk p n ks es as && !es.isEmpty && cpB f 0 as
   | _ => false)
  | .methL c o' m d as => (match e with
   | .Call (.Attribute o nm ap) es [] cp => decide (nm = m) && ks.df && okE p n ks o o' && Zjk p n ks es as && Zcb o && decide (ap.endLine = cp.line) && decide (es.length < 30) && !es.isEmpty && Zmn p.cs c m d && !Zbf m && cpB d 1 as
   | _ => false)
  | .callc i xs as => (match e with
   | .Call (.Name x _) es [] _ => decide (p.N[i]? = some x) && ks.vis x && Zac x && ks.df && Zjk p n ks es as && decide (es.isEmpty = as.isEmpty) && xs.all (cpC as)
   | _ => false)
  | .byc _ _ a b => okE p n ks e a && okE p n ks e b
  | .isK _ _ _ _ => false
  | .sup _ _ _ _ => false
def okA (p : Pg) : Nat -> Ks -> Expr -> MA -> Bool
 | 0, _, _, _ => false
 | n + 1, ks, e, m => match m with
  | .v m => okE p n ks e m
  | .p i => (match e with
   | .Name x _ => decide (p.N[i]? = some x) && ks.vis x && Zac x && ks.df
   | _ => false)
  | .l x is => (match e with
   | .Lambda params body scope pos => ks.mk' && (CP.nd.lookup (pos.line, pos.col)).isNone && (match CP.lm x with
    | some m => lmB m params scope x && (Zt7 x).isEmpty && Z9e ks.sc scope m.fr && decide (is.map (fun i => p.N[i]?) = m.fr.map some) && (match m.df.body with
     | .seq (.cl js) (.ret mb) => decide (js = CP.cp x) && okE { p with N := m.N } n ⟨scope, scope, true, false⟩ body mb
     | _ => false)
    | none => false)
   | _ => false)
def Zjk (p : Pg) : Nat -> Ks -> List Expr -> List MA -> Bool
 | 0, _, _, _ => false
 | _ + 1, _, [], [] => true
 | n + 1, ks, e :: es, m :: ms => Zah e && okA p n ks e m && Zjk p n ks es ms
 | _ + 1, _, _, _ => false
def okR (p : Pg) : Nat -> Ks -> Expr -> MR -> Bool
 | 0, _, _, _ => false
 | n + 1, ks, e, m => match m with
  | .val m => okE p n ks e m
  | .own i => (match e with
   | .Name x _ => decide (p.N[i]? = some x) && ks.vis x && Zac x
   | _ => false)
def Zi5 (p : Pg) : Nat -> Ks -> Expr -> MO -> Bool
 | 0, _, _, _ => false
 | n + 1, ks, e, m => match m with
  | .lst ms => (match e with
   | .List es _ => Zev p n ks es ms
   | _ => false)
  | .dct ms => (match e with
   | .Dict keys vals _ => decide (keys.length <= 15) && Z0q p n ks keys vals ms
   | _ => false)
  | .dctT => (match e with
   | .Dict [] [] _ => true
   | _ => false)
  | .lkeys a' => (match e with
   | .Call (.Name x _) [.Call (.Attribute a y ap) [] [] cp] [] _ => decide (x = "list") && decide (y = "keys") && ks.gl x && Zcb a && decide (ap.endLine = cp.line) && okR p n ks a a'
   | _ => false)
  | .blt f ms => (match e with
   | .Call (.Name x _) es [] _ => decide (x = ofN f) && ks.gl x && Zac x && Zkj p n ks es ms && !es.isEmpty
   | _ => false)
  | .lc vs t it c e' => (match e with
   | .ListComp elt [⟨tg, iter, ifs, as⟩] scope _ => Znc p n ks elt tg iter ifs as scope vs t it c e'
   | _ => false)
  | .dc vs t it c k' e' => (match e with
   | .DictComp kx elt [⟨tg, iter, ifs, as⟩] scope _ => Znc p n ks elt tg iter ifs as scope vs t it c e' && okE p n (ks.blk scope) kx k'
   | _ => false)
  | .dcT vs t it c k' e' => (match e with
   | .DictComp kx elt [⟨tg, iter, ifs, as⟩] scope _ => Znc p n ks elt tg iter ifs as scope vs t it c e' && okE p n (ks.blk scope) kx k'
   | _ => false)
  | .lc2 vs t it c vs1 t1 it1 c1 e' => (match e with
   | .ListComp elt [⟨tg, iter, ifs, as⟩, ⟨tg1, iter1, ifs1, as1⟩] scope _ => Znc p n ks elt tg iter ifs as scope vs t it c e' && Z0p p n ks tg1 iter1 ifs1 as1 scope vs vs1 t1 it1 c1
   | _ => false)
def Z0p (p : Pg) : Nat -> Ks -> Expr -> Expr -> List Expr -> Int -> Scope -> List Nat -> List Nat -> MT -> MI -> Option ME -> Bool
 | 0, _, _, _, _, _, _, _, _, _, _, _ => false
 | n + 1, ks, tg, iter, ifs, as, scope, vs, vs1, t, it, c => decide (as = 0) && okI p n (ks.blk scope) iter it (Zc7 tg) && Zbx iter && okT p (ks.blk scope) tg t && (match ifs, c with
  | [], none => true
  | [c0], some c' => okE p n (ks.blk scope) c0 c'
  | _, _ => false) && Zd2 t vs1 && vs1.all vs.contains
def Znc (p : Pg) : Nat -> Ks -> Expr -> Expr -> Expr -> List Expr -> Int -> Scope -> List Nat -> MT -> MI -> Option ME -> ME -> Bool
 | 0, _, _, _, _, _, _, _, _, _, _, _, _ => false
 | n + 1, ks, elt, tg, iter, ifs, as, scope, vs, t, it, c, e' => decide (as = 0) && okI p n ks iter it (Zc7 tg) && Zbx iter && decide ((Zax p scope vs).map (·.2) = vs) && blkC p.N ks.sc scope (Zax p scope vs) &&
  okT p (ks.blk scope) tg t && (match ifs, c with
   | [], none => true
   | [c0], some c' => okE p n (ks.blk scope) c0 c'
   | _, _ => false) && okE p n (ks.blk scope) elt e' && Zd2 t vs
def Z0q (p : Pg) : Nat -> Ks -> List (Option Expr) -> List Expr -> List ME -> Bool
 | 0, _, _, _, _ => false
 | _ + 1, _, [], [], [] => true
 | n + 1, ks, some k :: keys, v :: vals, mk :: mv :: ms => okE p n ks k mk && okE p n ks v mv && Z0q p n ks keys vals ms
 | _ + 1, _, _, _, _ => false
def okB (p : Pg) : Nat -> Ks -> BoolOp -> List Expr -> ME -> Bool
 | 0, _, _, _, _ => false
 | n + 1, ks, op, es, me => match es with
  | [] => false
  | [b] => okE p n ks b me
  | b :: c :: r => (match op with
   | .And => (match me with
    | .and b' m => okE p n ks b b' && okB p n ks .And (c :: r) m
    | _ => false)
   | .Or => (match me with
    | .or b' m => okE p n ks b b' && okB p n ks .Or (c :: r) m
    | _ => false))
def Zev (p : Pg) : Nat -> Ks -> List Expr -> List ME -> Bool
 | 0, _, _, _ => false
 | _ + 1, _, [], [] => true
 | n + 1, ks, e :: es, m :: ms => Zah e && okE p n ks e m && Zev p n ks es ms
 | _ + 1, _, _, _ => false
def Zkj (p : Pg) : Nat -> Ks -> List Expr -> List MR -> Bool
 | 0, _, _, _ => false
 | _ + 1, _, [], [] => true
 | n + 1, ks, e :: es, m :: ms => Zah e && okR p n ks e m && Zkj p n ks es ms
 | _ + 1, _, _, _ => false
def okO (p : Pg) : Nat -> Ks -> Option Expr -> Option ME -> Bool
 | 0, _, _, _ => false
 | _ + 1, _, none, none => true
 | n + 1, ks, some e, some m => okE p n ks e m
 | _ + 1, _, _, _ => false
def okI (p : Pg) : Nat -> Ks -> Expr -> MI -> Bool -> Bool
 | 0, _, _, _, _ => false
 | n + 1, ks, e, mi, tt => match mi with
  | .seq m => okE p n ks e m
  | .str m => okE p n ks e m
  | .keys m => okE p n ks e m
  | .rng1 m => (match e with
   | .Call (.Name x _) [a] [] _ => decide (x = "range") && ks.gl x && Zah a && okE p n ks a m
   | _ => false)
  | .rng2 m m' => (match e with
   | .Call (.Name x _) [a, b] [] _ => decide (x = "range") && ks.gl x && Zah a && Zah b && okE p n ks a m && okE p n ks b m'
   | _ => false)
  | .enum m => (match e with
   | .Call (.Name x _) [a] [] _ => tt && decide (x = "enumerate") && ks.gl x && Zah a && okE p n ks a m
   | _ => false)
end
def LmE (p : Pg) (li : LI) (x : Str) : Prop := ∃ (m : LmI) (b : Expr) (mb : ME) (n : Nat), CP.lm x = some m /\ li.fr = m.fr /\ li.body = .expr b /\ lmB m li.params li.scope x = true /\ m.df.body = .seq (.cl (CP.cp x)) (.ret mb) /\ okE { p with N := m.N } n ⟨li.scope, li.scope, true, false⟩ b mb = true
structure FnL (P : Program) (w : World) (K : PySem.W.Frag) (mg : Str -> Option Value) (base : Heap) (k : Nat) (li : LI) (sp : SpL) : Prop where
 go : ∀ (f c : Addr) (cl : List (Str × Addr)) (A : Around) (outer : List Env) (s : Shared) (H : Hp) (us : List Value) (vs ws : List V) (Q : VK) (E : XK), A.guards = some [] -> Room k A -> Env0 P w K mg base A outer s H -> Zma H f (li.at cl c) -> Zd3 H c li.qual ->
  (Zrf s H outer).kn cl li.fr (ws.map some) -> Vals vs us -> sp (Zrf s H outer) (vs ++ ws) H Q E -> codeAny (model P w) A (Code.call (.ref f) ⟨us, []⟩) (CR (L2.CX P w) outer P w H s Q E) s
end My
namespace My
open PySem PySem.Spec PyProof.Rows L2
def Zd7 (tl : List Value) : List Value -> Bool
 | .ref _ :: r => Zd7 tl r
 | l => l == tl
structure TlOk (tl : List Value) : Prop where
 pass : ∀ self : Value, refuseLoop self "__setattr__" tl = pure ()
 obj : tl.contains (.type "object") = true
 ne : tl.isEmpty = false
structure TlB (tl : List Value) (newId : String) : Prop where
 ok : TlOk tl
 base : ∃ B initId, ExcBaseFacts B newId initId tl
theorem Zbt {tl : List Value} : ∀ l : List Value, Zd7 tl l = true -> (∃ c r, l = .ref c :: r /\ Zd7 tl r = true) \/ l = tl := by
 intro l e
 unfold Zd7 at e
 split at e
 ·exact .inl ⟨_, _, rfl, e⟩
 ·exact .inr (beq_iff_eq.mp e)
theorem Zgf {tl : List Value} (T : TlOk tl) (self : Value) : ∀ l : List Value, Zd7 tl l = true -> refuseLoop self "__setattr__" l = pure () := by
 intro l
 induction l with
 | nil =>
  intro e
  rcases Zbt [] e with ⟨c, r', q, h⟩ | q
  ·cases q
  ·rw [q]; exact T.pass self
 | cons a r ih =>
  intro e
  rcases Zbt (a :: r) e with ⟨c, r', q, h⟩ | q
  ·obtain ⟨rfl, rfl⟩ := List.cons.inj q
   rw [refuseLoop_ref]; exact ih h
  ·rw [q]; exact T.pass self
theorem Zby {tl : List Value} (T : TlOk tl) (X : String) : ∀ l : List Value, Zd7 tl l = true -> l.contains (.type X) = tl.contains (.type X) := by
 intro l
 induction l with
 | nil =>
  intro e
  rcases Zbt [] e with ⟨c, r', q, h⟩ | q
  ·cases q
  ·rw [q]
 | cons a r ih =>
  intro e
  rcases Zbt (a :: r) e with ⟨c, r', q, h⟩ | q
  ·obtain ⟨rfl, rfl⟩ := List.cons.inj q
   rw [List.contains_cons, ih h]; rfl
  ·rw [q]
theorem Zeh {tl : List Value} (T : TlOk tl) {l : List Value} (e : Zd7 tl l = true) : l.contains (.type "object") = true := (Zby T "object" l e).trans T.obj
theorem Zkk {tl : List Value} (T : TlOk tl) {l : List Value} (e : Zd7 tl l = true) : l.isEmpty = false := by
 cases l with
 | nil =>
  rcases Zbt [] e with ⟨c, r', q, h⟩ | q
  ·cases q
  ·rw [q]; exact T.ne
 | cons _ _ => rfl
theorem Zfx : TlB [.type "LookupError", .type "Exception", .type "BaseException", .type "object"] "LookupError.__new__" := ⟨⟨fun self => by kernel_rfl, by decide +kernel, rfl⟩, _, _, F.excBase_LookupError⟩
section
open PySem.W PySem.Calls PyProof.Rows PySem.HandSPX Builtin Builtin.ObjectAttr
variable {prog : Program} {w : World} {A : Around} {E : Value -> Shared -> Prop} {R : Result -> Shared -> Prop} {hp : Heap} {g : Array GenState} {d : Drawn} {t : Nat} {os : OsState}
set_option maxHeartbeats 4000000 in
theorem Zrg {K : W.Frag} {name : Str} {tk : Tok} {v : Value} {x C : Addr} {fv : Array Value} {cd : ClassData}
  (X : K.In hp) (hx : hp.get? x = some { cls := .ref C, data := .fields fv }) (hcd : W.clsIn K C = some cd) {tl : List Value} (T : TlOk tl) (hm : Zd7 tl cd.mro = true) (hh : cd.hasDict = true) (ha : W.findIn K (.ref C) name = some none)
  (hq : ∀ h' tk' dx, (∀ b o, b ≠ x -> hp.get? b = some o -> h'.get? b = some o) -> hp.objs.size <= dx -> dx ≠ x -> h'.get? x = some { cls := .ref C, dict := some dx, data := .fields fv } ->
   h'.Ns1 dx (fun y => if y = name then some v else none) -> R (.ok (.ret .none)) ⟨h', g, d, tk', os⟩) :
  codeAny (model prog w) A (.call (.builtin "object.__setattr__") ⟨[.ref x, .str name tk, v], []⟩) R ⟨hp, g, d, t, os⟩ := by
 have I : W.InstAt hp x { cls := .ref C, data := .fields fv } C none := ⟨hx, rfl, rfl, trivial⟩
 have SF := F.store_object
 have ne := Zkk T hm
 have hob : cd.mro.contains (.type "object") = true := Zeh T hm
 have hxs : x ≠ hp.objs.size := Qbg (Heap.lt_size hx)
 have sub : W.Looks (model prog w) hp (isInstance (.ref x) (.type "object")) true := I.type.andThen (W.looks_mroIn X (by unfold W.mroIn; rw [hcd, Option.bind_some, Qat (by rw [ne]; decide), hob]))
 refine codeAny_call_builtin SF.slot.plain SF.entry (@W.check_slot (model prog w) _ _ ⟨hp, g, d, t, os⟩ "object.__setattr__" "object" "__setattr__" (.ref x) [.str name tk, v] [] _ SF.kind SF.split sub (SF.args (.ref x) (.str name tk) v) ?_)
 have hmr : W.Looks (model prog w) hp (mroOf (.ref C)) cd.mro := (W.looks_clsIn X hcd).andThen .now
 have L3 : W.Looks (model prog w) hp (storeTaker? none) none := .now
 have hcls : W.Looks (model prog w) hp (classData C) cd := W.looks_clsIn X hcd
 rw [W.osa_eq, refuse_eq]
 refine Qac (Qac (I.type.at (Qac (hmr.at ?_))))
 rw [Zgf T _ _ hm]
 refine Qah (Qac (I.type.at (Qac ((W.looks_findIn X ha).at (Qac (L3.at ?_))))))
 show wpAny _ _ (storeInOwnDict (.ref x) (.ref C) (.str name tk) name v false) _ _ _
 obtain ⟨nm, bs, mro, ns, qn, hd, sn, sb, ab, col, del⟩ := cd
 dsimp only at hh
 subst hh
 unfold storeInOwnDict ownDictForStores
 repeat (first | with_reducible refine store_in_new ?_ ?_ | with_reducible refine wpAny_loadPart_at hx ?_ | with_reducible refine hcls.at ?_ | wp_step)
 ·exact ⟨_, #[], _, (Heap.get?_update_ne _ _ _ _ hxs.symm).trans (Heap.get?_push_at rfl rfl), rfl, fun e he => absurd he (by simp), fun _ => rfl⟩
 ·intro h' tk' hn' hs
  have hx₁ : (hp.push { cls := .type "dict", data := .dict #[] }).get? x = some { cls := .ref C, data := .fields fv } := Qam _ hx
  refine hq h' tk' hp.objs.size (fun b o hb ho => ?_) (Qao _) hxs.symm ?_ hn'
  ·exact (hs.2 b (Qbg (Heap.lt_size ho))).trans ((Heap.get?_update_ne _ _ _ _ hb).trans (Qam _ ho))
  ·exact (hs.2 x hxs).trans (Heap.get?_update_self _ hx₁ rfl)
set_option maxHeartbeats 4000000 in
theorem Zrh {K : W.Frag} {name : Str} {tk : Tok} {v : Value} {x C dx : Addr} {fv : Array Value} {cd : ClassData} {m0 : Str -> Option Value} {nl : List Str}
  (X : K.In hp) (hx : hp.get? x = some { cls := .ref C, dict := some dx, data := .fields fv }) (hns : hp.Ns1 dx m0) (hw : Within m0 nl) (hz : nl.length <= 1000) (hcd : W.clsIn K C = some cd) {tl : List Value} (T : TlOk tl) (hm : Zd7 tl cd.mro = true) (hh : cd.hasDict = true)
  (ha : W.findIn K (.ref C) name = some none)
  (hq : ∀ h' tk', (∀ b o, b ≠ dx -> hp.get? b = some o -> h'.get? b = some o) -> h'.Ns1 dx (fun y => if y = name then some v else m0 y) -> R (.ok (.ret .none)) ⟨h', g, d, tk', os⟩) :
  codeAny (model prog w) A (.call (.builtin "object.__setattr__") ⟨[.ref x, .str name tk, v], []⟩) R ⟨hp, g, d, t, os⟩ := by
 obtain ⟨oD, esD, epD, hoD, hdD, _⟩ := hns.count hw
 have I : W.InstAt hp x { cls := .ref C, dict := some dx, data := .fields fv } C (some oD) := ⟨hx, rfl, rfl, hoD⟩
 have SF := F.store_object
 have ne := Zkk T hm
 have hob : cd.mro.contains (.type "object") = true := Zeh T hm
 have sub : W.Looks (model prog w) hp (isInstance (.ref x) (.type "object")) true := I.type.andThen (W.looks_mroIn X (by unfold W.mroIn; rw [hcd, Option.bind_some, Qat (by rw [ne]; decide), hob]))
 refine codeAny_call_builtin SF.slot.plain SF.entry (@W.check_slot (model prog w) _ _ ⟨hp, g, d, t, os⟩ "object.__setattr__" "object" "__setattr__" (.ref x) [.str name tk, v] [] _ SF.kind SF.split sub (SF.args (.ref x) (.str name tk) v) ?_)
 have hmr : W.Looks (model prog w) hp (mroOf (.ref C)) cd.mro := (W.looks_clsIn X hcd).andThen .now
 have L3 : W.Looks (model prog w) hp (storeTaker? none) none := .now
 have hcls : W.Looks (model prog w) hp (classData C) cd := W.looks_clsIn X hcd
 rw [W.osa_eq, refuse_eq]
 refine Qac (Qac (I.type.at (Qac (hmr.at ?_))))
 rw [Zgf T _ _ hm]
 refine Qah (Qac (I.type.at (Qac ((W.looks_findIn X ha).at (Qac (L3.at ?_))))))
 show wpAny _ _ (storeInOwnDict (.ref x) (.ref C) (.str name tk) name v false) _ _ _
 obtain ⟨nm, bs, mro, ns, qn, hd, sn, sb, ab, col, del⟩ := cd
 dsimp only at hh
 subst hh
 unfold storeInOwnDict ownDictForStores
 repeat (first | with_reducible refine PySem.OEX.store_in_old hns hw hz ?_ | with_reducible refine wpAny_loadPart_at hx ?_ | with_reducible refine hcls.at ?_ | wp_step)
 intro h' tk' hn' hs
 exact hq h' tk' (fun b o hb ho => (hs.2 b hb).trans ho) hn'
end
structure OexG (K : PySem.W.Frag) (C : Addr) : Prop where
 cls : ∃ nm q N bs bm sn sub ab col dd k0 k1 k2 k3 k5 newId tl, K.lookup C = some (excClassObj nm q C N bs bm true sn sub ab col dd k0 k1 k2 k3 k5 newId) /\ Zd7 tl bm = true /\ TlB tl newId
 sa : PySem.W.findIn K (.ref C) "__setattr__" = some (some (.builtin "object.__setattr__"))
 exC : PySem.W.subIn K (.ref C) (.type "BaseException") = some true
 tyC : PySem.W.typeIn K (.ref C) = some (.type "type")
 kC : PySem.W.keepIn K (.ref C) = true
section
variable {X : Cx} {pins : List (Addr × Obj)} {σ : L2.St} {H : Hp} {s : Shared} {a C dx : Addr} {f : Str} {y : V} {u : Value} {fs : List (Str × V)} {Q : Unit -> Shared -> Prop} {E : Value -> Shared -> Prop} {A : Around}
set_option maxHeartbeats 4000000 in
theorem Zri (T : OexG X.K C) (I : Inv X pins σ H s) (e : H a = some (exo a C none)) (hno : PySem.W.findIn X.K (.ref C) f = some none) (ry : RelV y u)
  (h : ∀ dx s', H dx = none -> dx ≠ a -> Inv X pins σ (upd (upd H dx (exd dx [(f, y)])) a (exo a C (some dx))) s' -> Q () s') : wpAny (model X.prog X.w) A (setAttr (.ref a) f u) Q E s := by
 obtain ⟨nm, q, N, bs, bm, sn, sub, ab, col, dd, k0, k1, k2, k3, k5, newId, tl, hC, hbm, hT⟩ := T.cls
 have hcl : PySem.W.clsIn X.K C = some { name := nm, bases := bs, mro := .ref C :: bm, ns := N, qualname := q, hasDict := true, slotNames := sn, subclasses := sub, abstract := ab, collection := col, hasDel := false } := by unfold PySem.W.clsIn; rw [hC] <;> rfl
 obtain ⟨t1, ho⟩ := exo_at I.hok e
 obtain ⟨hp, g, d, t, os⟩ := s
 refine PySem.W.set_plain I.kIn (ox := { cls := .ref C, dict := none, data := .fields #[.ref t1, .none, .none, .none, .bool false, .none] }) (od := none) ⟨ho, rfl, rfl, trivial⟩ T.sa ?_
 refine Zrg I.kIn ho hcl hT.ok (show Zd7 tl (.ref C :: bm) = true from hbm) rfl hno (fun h' tk' dx k dn dne hx hn => ?_)
 have hnd : H dx = none := I.hok.fresh dn
 have nd : ∀ {b : Addr} {o : Obj}, hp.get? b = some o -> b ≠ dx := fun {b o} q => Qbg (Qa4 (Heap.lt_size q) dn)
 have na : ∀ {b : Addr}, H b = none -> b ≠ a := fun {b} n z => by
  rw [z, e] at n
  cases n
 have Un1 : Un X.fs [] H (upd (upd H dx (exd dx [(f, y)])) a (exo a C (some dx))) hp h' := {
  keep := fun b o q n _ _ => k b o (na n) q
  slot := fun b o q n _ _ => ⟨o.slots, k b o (na n) q⟩
  free := fun b o q n _ => by rw [upd_ne (na n), upd_ne (nd q)]; exact n
  there := fun b o q _ => by
   by_cases hb : b = a
   ·exact ⟨_, by rw [hb]; exact hx⟩
   ·exact ⟨o, k b o hb q⟩
  tups := fun b xs q => by rw [upd_ne (at_ne e q exo_tup), upd_ne (ne_of_none q hnd)]; exact q
  frzs := fun b o v q => by rw [upd_ne (at_ne e q exo_frz), upd_ne (ne_of_none q hnd)]; exact q
  tbls := fun b ps q => ⟨#[], by rw [upd_ne (at_ne e q exo_tbl), upd_ne (ne_of_none q hnd), q]; simp⟩ }
 refine h dx _ hnd dne (I.un (t' := tk') Un1 fun b o q => ?_)
 by_cases hb : b = a
 ·subst hb
  rw [upd_same] at q
  cases q
  exact exo_ok hx
 ·rw [upd_ne hb] at q
  by_cases hd : b = dx
  ·subst hd
   rw [upd_same] at q
   cases q
   exact exd_ok hn (relO_put (fs := []) ry fun g => True.intro)
  ·rw [upd_ne hd] at q
   exact (I.hok b o q).stay (fun c v hc z => k c v (by
     rcases hc with hc | hc
     ·rw [hc]
      exact hb
     ·exact at_ne e hc exo_own) z)
    (fun c hc => by rw [upd_ne (at_ne e hc exo_own), upd_ne (ne_of_none hc hnd)]; exact hc) (fun c xs hc => by rw [upd_ne (at_ne e hc exo_tup), upd_ne (ne_of_none hc hnd)]; exact hc)
set_option maxHeartbeats 4000000 in
theorem Zrj (T : OexG X.K C) (I : Inv X pins σ H s) (e : H a = some (exo a C (some dx))) (ed : H dx = some (exd dx fs)) (hl : fs.length <= 900) (hno : PySem.W.findIn X.K (.ref C) f = some none) (ry : RelV y u)
  (h : ∀ s', Inv X pins σ (upd H dx (exd dx ((f, y) :: fs))) s' -> Q () s') : wpAny (model X.prog X.w) A (setAttr (.ref a) f u) Q E s := by
 obtain ⟨nm, q, N, bs, bm, sn, sub, ab, col, dd, k0, k1, k2, k3, k5, newId, tl, hC, hbm, hT⟩ := T.cls
 have hcl : PySem.W.clsIn X.K C = some { name := nm, bases := bs, mro := .ref C :: bm, ns := N, qualname := q, hasDict := true, slotNames := sn, subclasses := sub, abstract := ab, collection := col, hasDel := false } := by unfold PySem.W.clsIn; rw [hC] <;> rfl
 obtain ⟨t1, ho⟩ := exo_at I.hok e
 obtain ⟨mA, hns, rel⟩ := exd_at I.hok ed
 have hw := within_of rel
 obtain ⟨hp, g, d, t, os⟩ := s
 obtain ⟨oD, _, _, hoD, _, _⟩ := hns.count hw
 refine PySem.W.set_plain I.kIn (ox := { cls := .ref C, dict := some dx, data := .fields #[.ref t1, .none, .none, .none, .bool false, .none] }) (od := some oD) ⟨ho, rfl, rfl, hoD⟩ T.sa ?_
 refine Zrh I.kIn ho hns hw (by rw [Qal]; omega) hcl hT.ok (show Zd7 tl (.ref C :: bm) = true from hbm) rfl hno (fun h' tk' k hn => ?_)
 have hd : ∃ o, h'.get? dx = some o := by
  obtain ⟨o, _, _, e', _⟩ := hn
  exact ⟨o, e'⟩
 exact h _ (I.write (t' := tk') (x := dx) (e := dx) (o := exd dx ((f, y) :: fs)) (by rw [ed]; exact True.intro) (.inl rfl) k hd (exd_ok hn (relO_put ry rel)))
end
def Zwg (K : PySem.W.Frag) (f : Str) (to te : TE) : TS := fun D σ H => te σ H fun y H1 => to σ H1 fun x H2 => ∃ a C : Addr, x = .ref a /\ OexG K C /\ PySem.W.findIn K (.ref C) f = some none /\
 ((
  H2 a = some (exo a C none) /\ ∀ dx, H2 dx = none -> dx ≠ a -> D.nx σ (upd (upd H2 dx (exd dx [(f, y)])) a (exo a C (some dx)))) \/
  ∃ (dx : Addr) (fs : List (Str × V)), H2 a = some (exo a C (some dx)) /\ H2 dx = some (exd dx fs) /\ fs.length <= 900 /\ D.nx σ (upd H2 dx (exd dx ((f, y) :: fs))))
section
variable {X : Cx} {o e : Expr} {es : List Expr} {to te : TE} {ta : TA} {f : Str} {p p' p1 p2 pos : Pos}
set_option maxHeartbeats 4000000 in
theorem Zn7 (ho : PE X o to) (he : PE X e te) (hs : swapsWith e (some (.Attribute o f p')) pos.line X.env = pure false := by rfl) : PS X (.Assign [.Attribute o f p'] e pos) (Zwg X.K f to te) := by
 refine ⟨fun pins s σ H D I h => ?_⟩
 refine plainObj_wpAny_Assign_Attribute (thn (he.run pins s σ H _ I h) fun v s1 ⟨y, H1, I1, r1, q1⟩ => thn (ho.run pins s1 σ H1 _ I1 q1) fun u s2 ⟨x, H2, I2, r2, a, C, ex, T, hno, q⟩ => ?_) hs
 subst ex
 obtain rfl : u = Value.ref a := r2
 rcases q with ⟨ea, q⟩ | ⟨dx, fs, ea, ed, hl, q⟩
 ·exact Zri T I2 ea hno r1 fun dx s' n ne J => ⟨σ, _, J, q dx n ne⟩
 ·exact Zrj T I2 ea ed hl hno r1 fun s' J => ⟨σ, _, J, q⟩
set_option maxHeartbeats 4000000 in
theorem Zrk {CX : CXT} {x : Str} {C fI : Addr} {k : Nat} {fd : FuncData} {ps : List Str} {sp : L2.Sp} {ds : List Value} {dvs : List V} (T : OexG X.K C) (iC : PySem.W.findIn X.K (.ref C) "__init__" = some (some (.ref fI))) (tI : PySem.W.typeIn X.K (.ref fI) = some (.type "function"))
  (F1 : FnOk X.prog X.w X.K X.mg X.base CX k fI fd ps sp) (hr : Room (k + 1) X.A) (hb : Binds X.K fd ps ds) (hd : Vals dvs ds) (hx : Passes CX X (fun _ _ _ => False)) (hg : Gl X x) (hm : X.mg x = some (.ref C)) (ha : PA X (e :: es) ta)
  (hdb : (x == ("__debug__" : Str)) = false := by decide) (he : starEach (e :: es) X.env = (false, eval e X.env) :: starEach es X.env := by rfl) (hpl : (backTo pos (starEach es X.env)).any (·.1) = false := by rfl) :
  PMk X (.Call (.Name x p) (e :: es) [] pos) (tMkO C sp dvs ta) := by
 intro pins s σ H Q I h
 obtain ⟨nm, q, N, bs, bm, sn, sub, ab, col, dd, k0, k1, k2, k3, k5, newId, tl, hC, hbm, hT⟩ := T.cls
 refine wpAny_Call_Name_kw (ld_glob I hg hm ?_ hdb)
 refine PySem.W.callWith_K (h₀ := X.base) I.ok.mod.kin T.kC (thn (ha.run pos pins s σ H _ I h) fun us s1 ⟨vs, H1, I1, r1, hz, q1⟩ => ⟨I1.kIn, ?_⟩) he hpl
 show wpAny _ _ (PySem.call (.ref C) us) _ _ _
 obtain ⟨hp, g, dr, tk, os⟩ := s1
 have hsz : hp.objs.size <= hp.objs.size + 1 := Nat.le_succ _
 have hn : H1 (hp.objs.size + 1) = none := I1.hok.fresh hsz
 have hq := q1 (hp.objs.size + 1) hn
 have kk : ∀ b o, hp.get? b = some o -> ((hp.push (PySem.W.kdv_tup us)).push (PySem.HandSPX.excO C hp.objs.size)).get? b = some o := fun b o e => Qam _ (Qam _ e)
 have hget : ((hp.push (PySem.W.kdv_tup us)).push (PySem.HandSPX.excO C hp.objs.size)).get? (hp.objs.size + 1) = some (PySem.HandSPX.excO C hp.objs.size) := by heap_get
 have I2 : Inv X pins σ (upd H1 (hp.objs.size + 1) (exo (hp.objs.size + 1) C none)) ⟨(hp.push (PySem.W.kdv_tup us)).push (PySem.HandSPX.excO C hp.objs.size), g, dr, tk, os⟩ :=
  I1.laid (t' := tk) (a := hp.objs.size + 1) (o := exo (hp.objs.size + 1) C none) (h' := (hp.push (PySem.W.kdv_tup us)).push (PySem.HandSPX.excO C hp.objs.size)) kk hsz (exo_ok hget)
 have r2 : Vals (V.ref (hp.objs.size + 1) :: (vs ++ dvs)) (Value.ref (hp.objs.size + 1) :: (us ++ ds)) := .cons rfl (r1.append hd)
 have hl : (Value.ref (hp.objs.size + 1) :: us ++ ds).length = ps.length := by
  have e := r2.length
  rw [F1.len _ _ _ _ hq] at e
  exact e.symm
 have hus : us.length <= sizeLine := by
  rw [<- Paired.length r1, sizeLine_eq]
  omega
 obtain ⟨B0, initId0, FB⟩ := hT.base
 refine wpAny_call (PySem.HandSPX.call_own FB (fun Y => Zby hT.ok Y bm hbm) (I1.kIn _ _ hC) (PySem.W.looks_findIn I1.kIn iC) (fun self => PySem.W.bind_fn I1.kIn self tI) hus
  (codeAny_mono (F1.run _ X.stack _ _ ⟨Value.ref (hp.objs.size + 1) :: us, []⟩ (Value.ref (hp.objs.size + 1) :: (us ++ ds)) _ _ (fun _ _ _ => False) (hr.make C us []) (I2.env0.make C us []) (hb _ (Value.ref (hp.objs.size + 1) :: us) I2.kIn hl) r2 hq) fun r s' hq' => ?_))
 cases r with
 | error er => exact hx pins σ _ _ er s' I2 hq'
 | ok fl =>
  cases fl with
  | ret u =>
   obtain ⟨v, H2, os2, bare2, un2, hok2, rv, ev, d, fs, ea, ed, hd1, q2⟩ := hq'
   subst ev
   obtain ⟨h2, g2, d2, t2, os'⟩ := s'
   exact ⟨rv, mk_end (raises_own T.exC T.tyC) I1 hsz kk un2 hok2 os2 bare2 ea ed hd1 q2⟩
  | next => exact False.elim hq'
  | brk => exact False.elim hq'
  | cont => exact False.elim hq'
end
end My
namespace My
open PySem PySem.Spec PyProof.Rows L2
def Zn8 : Stmt -> Option (Str × Str × Str)
 | .Assign [.Attribute (.Name s _) f _] (.Name x _) _ => some (s, f, x)
 | _ => none
theorem Zmo {st : Stmt} {s f x : Str} (h : Zn8 st = some (s, f, x)) : ∃ p1 p2 p3 p4, st = .Assign [.Attribute (.Name s p1) f p2] (.Name x p3) p4 := by
 unfold Zn8 at h
 split at h
 ·cases h
  exact ⟨_, _, _, _, rfl⟩
 ·cases h
def Zdq : List Stmt -> Nat -> List Str -> List Str -> Bool
 | [], _, _, fs => fs.isEmpty
 | st :: r, i, N, fs => match Zn8 st, fs with
  | some (s, f, x), g :: fs => decide (N[0]? = some s) && decide (f = g) && decide (N[i]? = some x) && Zac s && Zac x && Zdq r (i + 1) N fs
  | _, _ => false
theorem Zgg {st : Stmt} {r : List Stmt} {i : Nat} {N fs : List Str} (h : Zdq (st :: r) i N fs = true) : ∃ s f x fs' p1 p2 p3 p4, st = .Assign [.Attribute (.Name s p1) f p2] (.Name x p3) p4 /\ fs = f :: fs' /\ N[0]? = some s /\ N[i]? = some x /\ Zac s = true /\ Zac x = true /\ Zdq r (i + 1) N fs' = true := by
 simp only [Zdq] at h
 split at h
 ·rename_i s f x g fs' e
  simp only [Qaa, Qab] at h
  obtain ⟨⟨⟨⟨⟨h0, rfl⟩, hx⟩, ps⟩, px⟩, hr⟩ := h
  obtain ⟨p1, p2, p3, p4, rfl⟩ := Zmo e
  exact ⟨s, f, x, fs', p1, p2, p3, p4, rfl, rfl, h0, hx, ps, px, hr⟩
 ·cases h
theorem plN {x : Str} (h : Zac x = true) : (x == ("__debug__" : Str)) = false /\ (x == ("__classdict__" : Str)) = false := by
 unfold Zac at h
 simp only [Qaa, Qav] at h
 exact ⟨h.1.1, h.1.2⟩
theorem Zjl {X : Cx} {sts : List Stmt} {t t' : TS} (h : PSs X sts t) (k : ∀ D σ H, t' D σ H -> t D σ H) : PSs X sts t' := ⟨fun pins s σ H D I q => h.run pins s σ H D I (k D σ H q)⟩
structure InitT (st : Stmt) (fs N : List Str) : Prop where
 sc : FnScope N N (defScope st)
 len : N.length = fs.length + 1
 ok : Zdq (defBody st) 1 N fs = true
structure VeC (K : PySem.W.Frag) (C : Addr) : Prop where
 cl : (PySem.W.clsIn K C).isSome = true
 ga : PySem.W.findIn K (.ref C) "__getattribute__" = some (some (.builtin "BaseException.__getattribute__"))
 gg : PySem.W.findIn K (.ref C) "__getattr__" = some none
 sb : PySem.W.subIn K (.ref C) (.type "BaseException") = some true
 cn : PySem.W.findIn K (.ref C) "__class__" = some (some (.builtin "object.__class__"))
 gt : PySem.W.specialIn K (.builtin "object.__class__") "__get__" = some (some (.builtin "getset_descriptor.__get__"))
 tk : PySem.W.takesIn K (.builtin "object.__class__") = some true
 mr : PySem.W.mroIn K C (.type "object") = some true
 one : PySem.W.kitOne K (.ref C) (.type "ValueError") = some false
structure IxC (K : PySem.W.Frag) (C : Addr) : Prop where
 cl : (PySem.W.clsIn K C).isSome = true
 ga : PySem.W.findIn K (.ref C) "__getattribute__" = some (some (.builtin "BaseException.__getattribute__"))
 gg : PySem.W.findIn K (.ref C) "__getattr__" = some none
 sb : PySem.W.subIn K (.ref C) (.type "BaseException") = some true
 cn : PySem.W.findIn K (.ref C) "__class__" = some (some (.builtin "object.__class__"))
 gt : PySem.W.specialIn K (.builtin "object.__class__") "__get__" = some (some (.builtin "getset_descriptor.__get__"))
 tk : PySem.W.takesIn K (.builtin "object.__class__") = some true
 mr : PySem.W.mroIn K C (.type "object") = some true
def ixN (T : Str) : String := if T = "ValueError" then "ValueError" else if T = "LookupError" then "LookupError" else if T = "KeyError" then "KeyError" else "IndexError"
structure XCls (K : PySem.W.Frag) (mg : Str -> Option Value) (x : XI) (C : Addr) : Prop where
 gC : mg x.c = some (.ref C)
 kC : PySem.W.keepIn K (.ref C) = true
 xf : XfC K C
 no : ∀ f ∈ x.fs, PySem.W.findIn K (.ref C) f = some none
 bs : PySem.W.subIn K (.ref C) (.type "BaseException") = some true
 ty : PySem.W.typeIn K (.ref C) = some (.type "type")
 nd : x.fs.Nodup
 few : x.fs.length <= 30
 nv : x.up.contains "~ValueError" = true -> mg "ValueError" = none /\ VeC K C
 iv : x.up.contains "!" = true -> PySem.W.nsIn K mainGlobals x.c = some (some (.ref C)) /\ IxC K C /\ ∀ T ∈ ixT, mg T = none /\ PySem.W.kitOne K (.ref C) (.type (ixN T)) = some (x.up.contains T)
 made : (x.fs = [] /\ ∃ B newId initId bmB, ExcBaseFacts B newId initId bmB /\ PySem.W.excIn K C bmB newId = true) \/
  (x.fs ≠ [] /\ OexG K C /\ ∃ fI fd st N q, PySem.W.findIn K (.ref C) "__init__" = some (some (.ref fI)) /\ PySem.W.typeIn K (.ref fI) = some (.type "function") /\ Fun K "__init__" q st fI fd /\ InitT st x.fs N /\ Binds K fd N [])
def spI (K : PySem.W.Frag) (fs : List Str) : Sp := fun vs H Q _ => ∃ (a C : Addr) (ws : List V), vs = .ref a :: ws /\ ws.length = fs.length /\ OexG K C /\ (∀ f ∈ fs, PySem.W.findIn K (.ref C) f = some none) /\ H a = some (exo a C none) /\
 ∀ dx H', H dx = none -> dx ≠ a -> H' a = some (exo a C (some dx)) -> H' dx = some (exd dx (fs.zip ws).reverse) -> (∀ b, b ≠ a -> b ≠ dx -> H' b = H b) -> Q .non H'
section
variable {X : Cx}
theorem Zih {N : List Str} (hN : X.N = N) (hv : ∀ x ∈ N, Vis X.env.scope x) : ∀ (sts : List Stmt) (fs : List Str) (i : Nat), Zdq sts i N fs = true ->
  PSs X sts (fun D σ H => ∃ (a C dx : Addr) (gs : List (Str × V)) (ws : List V), σ[0]? = some (some (.ref a)) /\ ws.length = fs.length /\ (∀ k w, ws[k]? = some w -> σ[i + k]? = some (some w)) /\ OexG X.kw C /\ (∀ f ∈ fs, PySem.W.findIn X.kw (.ref C) f = some none) /\
   H a = some (exo a C (some dx)) /\ H dx = some (exd dx gs) /\ dx ≠ a /\ gs.length + fs.length <= 900 /\ ∀ H', H' a = some (exo a C (some dx)) -> H' dx = some (exd dx ((fs.zip ws).reverse ++ gs)) -> (∀ b, b ≠ a -> b ≠ dx -> H' b = H b) -> D.nx σ H')
 | [], fs, i, h => by
  cases fs with
  | cons _ _ => simp [Zdq] at h
  | nil =>
   refine Zjl pss_nil fun D σ H ⟨a, C, dx, gs, ws, _, _, _, _, _, h1, h2, _, _, q⟩ => ?_
   exact q H h1 (by simpa using h2) fun _ _ _ => rfl
 | st :: r, fs, i, h => by
  obtain ⟨s, f, x, fs', p1, p2, p3, p4, rfl, rfl, h0, hx, ps, px, hr⟩ := Zgg h
  ·skip
   have ih := Zih hN hv r fs' (i + 1) hr
   have vs : Vis X.env.scope s := hv s (Qbi h0)
   have vx : Vis X.env.scope x := hv x (Qbi hx)
   have one : PS X (.Assign [.Attribute (.Name s p1) f p2] (.Name x p3) p4) (Zwg X.kw f (tVar 0) (tVar i)) := Zn7 (pe_var (by rw [hN]; exact h0) vs (plN ps).1 (plN ps).2) (pe_var (by rw [hN]; exact hx) vx (plN px).1 (plN px).2)
   refine Zjl (pss_cons one ih) fun D σ H ⟨a, C, dx, gs, ws, s0, wl, sw, T, no, ha, hd, ne, lg, q⟩ => ?_
   cases ws with
   | nil => simp at wl
   | cons w ws =>
    have w0 := sw 0 w rfl
    refine ⟨w, by simpa using w0, .ref a, s0, a, C, rfl, T, no f Qag, .inr ⟨dx, gs, ha, hd, by simp only [Qai] at lg; omega, ?_⟩⟩
    refine ⟨a, C, dx, (f, w) :: gs, ws, s0, by simpa using wl, fun k v e => ?_, T, fun g hg => no g (Qae _ hg), ?_, upd_same, ne, by simp only [Qai] at lg ⊢; omega, fun H' q1 q2 q3 => q H' q1 ?_ fun b n1 n2 => (q3 b n1 n2).trans (upd_ne n2)⟩
    ·have := sw (k + 1) v (by simpa using e)
     rw [show i + 1 + k = i + (k + 1) by omega]; exact this
    ·rw [upd_ne (Ne.symm ne)]; exact ha
    ·rw [q2]; simp
theorem Zrl {N : List Str} (hN : X.N = N) (hv : ∀ x ∈ N, Vis X.env.scope x) {sts : List Stmt} {fs : List Str} (h : Zdq sts 1 N fs = true) (hf : fs ≠ []) (few : fs.length <= 30) :
  PSs X sts (fun D σ H => ∃ (a C : Addr) (ws : List V), σ[0]? = some (some (.ref a)) /\ ws.length = fs.length /\ (∀ k w, ws[k]? = some w -> σ[1 + k]? = some (some w)) /\ OexG X.kw C /\ (∀ f ∈ fs, PySem.W.findIn X.kw (.ref C) f = some none) /\
   H a = some (exo a C none) /\ ∀ dx H', H dx = none -> dx ≠ a -> H' a = some (exo a C (some dx)) -> H' dx = some (exd dx (fs.zip ws).reverse) -> (∀ b, b ≠ a -> b ≠ dx -> H' b = H b) -> D.nx σ H') := by
 cases sts with
 | nil =>
  cases fs with
  | nil => exact absurd rfl hf
  | cons _ _ => simp [Zdq] at h
 | cons st r =>
  obtain ⟨s, f, x, fs', p1, p2, p3, p4, rfl, rfl, h0, hx, ps, px, hr⟩ := Zgg h
  ·skip
   have ih := Zih hN hv r fs' 2 hr
   have vs : Vis X.env.scope s := hv s (Qbi h0)
   have vx : Vis X.env.scope x := hv x (Qbi hx)
   have one : PS X (.Assign [.Attribute (.Name s p1) f p2] (.Name x p3) p4) (Zwg X.kw f (tVar 0) (tVar 1)) := Zn7 (pe_var (by rw [hN]; exact h0) vs (plN ps).1 (plN ps).2) (pe_var (by rw [hN]; exact hx) vx (plN px).1 (plN px).2)
   refine Zjl (pss_cons one ih) fun D σ H ⟨a, C, ws, s0, wl, sw, T, no, ha, q⟩ => ?_
   cases ws with
   | nil => simp at wl
   | cons w ws =>
    have w0 := sw 0 w rfl
    refine ⟨w, by simpa using w0, .ref a, s0, a, C, rfl, T, no f Qag, .inl ⟨ha, fun dx hd ne => ?_⟩⟩
    refine ⟨a, C, dx, [(f, w)], ws, s0, by simpa using wl, fun k v e => ?_, T, fun g hg => no g (Qae _ hg), upd_same, ?_, ne, by simp only [Qai, List.length_nil] at few ⊢; omega, fun H' q1 q2 q3 => q dx H' hd ne q1 ?_ fun b n1 n2 => (q3 b n1 n2).trans ((upd_ne n1).trans (upd_ne n2))⟩
    ·have := sw (k + 1) v (by simpa using e)
     rw [show 2 + k = 1 + (k + 1) by omega]; exact this
    ·rw [upd_ne ne]; exact upd_same
    ·rw [q2]; simp
end
theorem Zn9 {P : Program} {w : World} {K : PySem.W.Frag} {mg : Str -> Option Value} {base : Heap} {q : Str} {st : Stmt} {f : Addr} {fd : FuncData} {fs N : List Str} (F : Fun K "__init__" q st f fd) (T : InitT st fs N) (hf : fs ≠ []) (few : fs.length <= 30) : FnOk P w K mg base (L2.CX P w) 1 f fd N (spI K fs) := by
 refine Fun.okX F T.sc (fun vs H Q E ⟨a, C, ws, e, hl, _⟩ => by rw [e, T.len, Qai, hl]) fun cdv A outer s H vs Q E _ ⟨a, C, ws, e, hl, hT, no, ha, qq⟩ => ?_
 subst e
 refine ⟨_, Zrl (N := N) rfl (fun x hx => ?_) T.ok hf few, a, C, ws, rfl, hl, fun k v ek => ?_, hT, no, ha, qq⟩
 ·rcases T.sc.par x hx with z | z
  ·exact .inl z
  ·exact .inr (.inl z)
 ·have : (start N (V.ref a :: ws))[1 + k]? = some (some v) := by
   unfold L2.start
   rw [Nat.add_comm, Qaj, List.cons_append, List.getElem?_cons_succ, Qbc (by
    have := (Qay.mp ek).1
    simpa using this), Qar, ek]
   rfl
  exact this
variable [CP] [TC]
section
variable {env : Env}
theorem Zak {e : Expr} (h : Zah e = true) (es : List Expr) : starEach (e :: es) env = (false, eval e env) :: starEach es env := by
 cases e <;> first | rfl | cases h
def Zaa (es : List Expr) : Bool := es.all Zah
theorem Zab (pos : Pos) : ∀ {es : List Expr}, Zaa es = true -> (backTo pos (starEach es env)).any (·.1) = false
 | [], _ => rfl
 | e :: es, h => by
  rw [Zaa, Qas, Qaa] at h
  rw [Zak h.1]
  show (false || (backTo pos (starEach es env)).any (·.1)) = false
  rw [Zab pos h.2]; rfl
theorem Zii (pos : Pos) : ∀ {es : List Expr}, Zaa es = true -> (backTo pos (starEach es env)).all (fun x => !x.1) = true
 | [], _ => rfl
 | e :: es, h => by
  rw [Zaa, Qas, Qaa] at h
  rw [Zak h.1]
  show (true && (backTo pos (starEach es env)).all (fun x => !x.1)) = true
  rw [Zii pos h.2]; rfl
theorem Zaq {p : Pg} : ∀ {n : Nat} {ks : Ks} {es : List Expr} {ms : List ME}, Zev p n ks es ms = true -> Zaa es = true
 | 0, _, _, _, h => by simp [Zev] at h
 | n + 1, _, [], [], _ => rfl
 | n + 1, _, [], _ :: _, h => by simp [Zev] at h
 | n + 1, _, _ :: _, [], h => by simp [Zev] at h
 | n + 1, ks, e :: es, m :: ms, h => by
  simp only [Zev, Qaa] at h
  rw [Zaa, Qas, Qaa]
  exact ⟨h.1.1, Zaq h.2⟩
theorem Zbz {o : Expr} {nm : Str} (h : Zcb o = true) (t : Sem Value) : attributeBase o nm env t = t := by
 by_cases c : ∃ x p1 p2, o = .Call (.Name x p1) [] [] p2
 ·obtain ⟨x, p1, p2, rfl⟩ := c
  have h : (x != ("super" : Str)) = true := h
  unfold attributeBase
  simp [h]
 ·unfold attributeBase
  split
  ·exact absurd ⟨_, _, _, rfl⟩ c
  ·rfl
theorem Zbu {e : Expr} (h : Zbx e = true) (x : Value) : foldedSetIterable e env x = pure x := by
 cases e <;> first | rfl | cases h
theorem Z1d {i : Expr} (h : Zfd i = true) (o v : Value) : subscripted i false o v = operate [o, v] (getItem o v) := by
 cases i <;> first | rfl | cases h
theorem Zoa {e : Expr} (h : Zge e = true) (whole : Sem Value) : isTrue e env whole = (do let v <- whole; standAt e.pos; holding [v] (truthy v)) := by
 cases e with
 | UnaryOp op a pos => cases op <;> first | rfl | cases h
 | BoolOp _ _ _ => cases h
 | IfExp _ _ _ _ => cases h
 | Compare _ _ _ _ => cases h
 | _ => rfl
end
theorem Zad {x : Str} (h : Zac x = true) : (x == ("__debug__" : Str)) = false := by
 simp only [Zac, Qaa, Qav] at h
 exact h.1.1
theorem Zat {x : Str} (h : Zac x = true) : (x == ("__classdict__" : Str)) = false := by
 simp only [Zac, Qaa, Qav] at h
 exact h.1.2
theorem Zd8 {x : Str} (h : Zac x = true) : x ≠ "__name__" := by
 simp only [Zac, Qaa, Qav] at h
 exact ne_of_beq_false h.2
theorem Zd9 {p : Pg} : ∀ {n : Nat} {ks : Ks} {es : List Expr} {ms : List MR}, Zkj p n ks es ms = true -> Zaa es = true
 | 0, _, _, _, h => by simp [Zkj] at h
 | n + 1, _, [], [], _ => rfl
 | n + 1, _, [], _ :: _, h => by simp [Zkj] at h
 | n + 1, _, _ :: _, [], h => by simp [Zkj] at h
 | n + 1, ks, e :: es, m :: ms, h => by
  simp only [Zkj, Qaa] at h
  rw [Zaa, Qas, Qaa]
  exact ⟨h.1.1, Zd9 h.2⟩
def Z6r (L : LC) (K : KW) (φ : Nat -> Addr) (n : Nat) (H : Hp) (ds : List D) (vs : List V) (j : Nat) : Prop := ∃ y cs f, ds[j]? = some (.clo y cs) /\ vs[j]? = some (.ref f) /\ CloR L K φ n H y cs f
def spC (ca : CA) (C : Cl) (K : KW) (x : Str) : SpL := fun L vs H Q E => ∃ φ S ds, RelS K φ S H /\ RVs K φ S.nx H ds vs /\ (∀ j ∈ CP.cp x, Z6r L K φ S.nx H ds vs j) /\ (C x ds S).wp (Zd4 K φ S H Q) (Zck K ca φ S H E)
theorem Znd {x : Str} (h : (CP.cp x).isEmpty = true) {P : Nat -> Prop} : ∀ j ∈ CP.cp x, P j := fun j hj => by
 rw [List.isEmpty_iff.mp h] at hj
 cases hj
def Z1e (es : Array DictEntry) (kvs : List (Str × Int)) : Prop := es.size = kvs.length /\ ∀ (i : Nat) (p : Str × Int), kvs[i]? = some p -> ∃ (en : DictEntry) (t : Tok), es[i]? = some en /\ en.key = .str p.1 t
def Yc2 (K : PySem.W.Frag) (w : World) (mg : Str -> Option Value) (x : Str) (kvs : List (Str × Int)) : Prop := ∃ d es n, mg x = some (.ref d) /\ KDict K w d es n /\ (∀ z, ∃ r, PySem.W.nsIn K d z = some r /\ (∀ i, lookS kvs z = some i -> ∃ t, r = some (.int i t)) /\ (lookS kvs z = none -> r = none)) /\ Z1e es kvs
def Zwh (K : PySem.W.Frag) (B : Addr) (m : Str) (f : Addr) : Prop := (Zbf m = true /\ Zhy m = true /\ ∃ mc q, ClX.CRead K B mc /\ ClX.CMet K B mc (bsN m) q f) \/ (Zbf m = true /\ Zhy m = false /\ ∃ q, L2.PropOf K B (bsN m) q f) \/ (Zbf m = false /\ Meth K B m f /\ PySem.W.fnIn K f = true)
structure OwnT (K : PySem.W.Frag) (B : Addr) : Prop where
 first : PySem.W.selfFirst K B = true
 cls : PySem.W.findIn K (.ref B) "__class__" = some (some (.builtin "object.__class__"))
 get : PySem.W.specialIn K (.builtin "object.__class__") "__get__" = some (some (.builtin "getset_descriptor.__get__"))
 tak : PySem.W.takesIn K (.builtin "object.__class__") = some true
 obj : PySem.W.mroIn K B (.type "object") = some true
 typ : PySem.W.typeIn K (.ref B) = some (.type "type")
 kbi : PySem.W.kitOne K (.ref B) (.type "int") = some false
 kbb : PySem.W.kitOne K (.ref B) (.type "bool") = some false
 rad : PySem.W.findIn K (.ref B) "__radd__" = some none
 rmu : PySem.W.findIn K (.ref B) "__rmul__" = some none
 ne : PySem.W.findIn K (.ref B) "__ne__" = some (some (.builtin "object.__ne__"))
structure ClsT (P : Program) (w : World) (K : KW) (mg : Str -> Option Value) (base : Heap) (ca : CA) (C : Cl) (k : Nat) (x : CI) (B : Addr) : Prop where
 ns : PySem.W.nsIn K mainGlobals x.c = some (some (.ref B))
 gC : mg x.c = some (.ref B)
 cl : Cls K B
 no : ∀ f ∈ x.fs, NoAttr K B f
 ms : ∀ q ∈ x.ms, ∃ f fd ps, Zwh K B q.1 f /\ Binds K fd ps [] /\ FnG P w K mg base k f fd ps (spC ca C K q.2)
 own : Z0l x = true -> OwnT K B
 mak : ∃ f fd ps us dvs sp, Mk K B f /\ Binds K fd ps us /\ Vals dvs us /\ FnG P w K mg base k f fd ps sp /\ ∀ L vs H Q E, spC ca C K x.ini L vs H Q E -> sp L (vs ++ dvs) H Q E
structure Good (p : Pg) (C : Cl) (ca : CA) (k : Nat) (ks : Ks) (W : WX) (X : Cx) : Prop where
 N : X.N = p.N
 nd : p.N.Nodup
 sc : X.env.scope = ks.sc
 kind : X.env.scope.kind = .function
 st : ∀ x, ks.st x = true -> Loc X.env.scope x /\ (X.fn x = true \/ X.env.scope.names.lookup x = some .local)
 calm : X.calm = true
 gu : X.A.guards = some []
 room3 : Room (k + 3) X.A
 tk : Takes X W
 gs : ∀ x d, p.gs.lookup x = some d -> ∃ v u, X.mg x = some u /\ RelV v u /\ ∀ φ n H, RV X.kw φ n H d v
 gd : ∀ x kvs, p.gd.lookup x = some kvs -> Yc2 X.kw X.w X.mg x kvs
 bl : ∀ f, X.mg (bfN f) = none
 ob : ∀ f, X.mg (ofN f) = none
 ty : ∀ t, X.mg (tyS t) = none
 ii : X.mg "isinstance" = none
 rg : X.mg "range" = none
 en : X.mg "enumerate" = none
 zp : X.mg "zip" = none
 se : X.mg "set" = none
 fn : ∀ x, p.fs.contains x = true -> ∃ f fd ps us dvs sp, PySem.W.nsIn X.kw mainGlobals (bsN x) = some (some (.ref f)) /\ X.mg (bsN x) = some (.ref f) /\ PySem.W.keepIn X.kw (.ref f) = true /\ Binds X.kw fd ps us /\ Vals dvs us /\ (Zbf x = false -> us = []) /\
  FnG X.prog X.w X.kw X.mg X.base (k + 2) f fd ps sp /\ ∀ L vs H Q E, spC ca C X.kw x L vs H Q E -> sp L (vs ++ dvs) H Q E
 ex : ∀ x ∈ p.xs, ∃ B, ca x.c = some B /\ XCls X.kw X.mg x B
 sub : ∀ x ∈ p.xs, ∀ y ∈ p.xs, ∀ B B', ca x.c = some B -> ca y.c = some B' -> PySem.W.exmOne X.kw (.ref B) (.ref B') = some (x.up.contains y.c)
 cax : ∀ c B, ca c = some B -> ∃ x ∈ p.xs, x.c = c
 cl : ∀ x ∈ p.cs, ∃ B, ClsT X.prog X.w X.kw X.mg X.base ca C (k + 2) x B
 lam : ∀ x li, TC.lam x li -> FnL X.prog X.w X.kw X.mg X.base (k + 2) li (spC ca C X.kw x)
 lm : ∀ x li, LmE p li x -> TC.lam x li
 mk' : ks.mk' = true -> ∃ c P, X.env.code = .ref c /\ LamX.TabB X.base X.mg c P /\ (c, P, X.env.qual) ∈ TC.T /\ ∀ q ∈ TC.T, q.2.1 = P -> q.2.2 = X.env.qual
 df : ks.df = true -> X.outer.length < X.stack.length /\ X.ex = [] /\ ∀ y c, X.env.cells.lookup y = some c -> c ∉ X.fs
theorem Good.room {p : Pg} {C : Cl} {ca : CA} {k : Nat} {ks : Ks} {W : WX} {X : Cx} (g : Good p C ca k ks W X) : Room (k + 2) X.A := g.room3.mono (by omega)
theorem Zjm (f : Bf) : bootBuiltins (bfN f) = some (bfV f) := by cases f <;> decide +kernel
theorem Zkl (f : Bf) : Zac (bfN f) = true := by cases f <;> decide +kernel
theorem Zob (f : Of) : bootBuiltins (ofN f) = some (ofV f) := by cases f <;> decide +kernel
theorem Zkm (f : Of) : Zac (ofN f) = true := by cases f <;> decide +kernel
theorem Zwi (t : Ty) : bootBuiltins (tyS t) = some (.type (tyN t)) := by cases t <;> decide +kernel
theorem Zkn (t : Ty) : Zac (tyS t) = true := by cases t <;> decide +kernel
theorem Zcm : bootBuiltins "isinstance" = some (.builtin "isinstance") := by decide +kernel
section
variable (K : KW) (L : LC) (ca : CA) (W : WX)
def tO (c : Ev -> Store -> R Xn O) : TE := fun σ H Q => ∃ φ S ρ, At K L φ S ρ σ H /\ (c ρ S).wp (Za8 K φ S H Q) (Zck K ca φ S H fun cls dd H' => W cls dd σ H')
end
section
variable {p : Pg} {C : Cl} {ca : CA} {k : Nat} {ks : Ks} {W : WX} {X : Cx}
theorem Good.gl (g : Good p C ca k ks W X) {x : Str} (h : ks.gl x = true) : Gl X x := by
 unfold Gl Env.kindOf
 rw [g.sc]
 unfold Ks.gl at h
 split at h
 ·assumption
 ·cases h
theorem Good.vis (g : Good p C ca k ks W X) {x : Str} (h : ks.vis x = true) : Vis X.env.scope x := by
 unfold Vis
 rw [g.sc]
 unfold Ks.vis at h
 split at h
 ·exact .inl (by assumption)
 ·exact .inr (.inl (by assumption))
 ·exact .inr (.inr (by assumption))
 ·cases h
theorem Good.u65 (g : Good p C ca k ks W X) : X.A.units + 65 < cLine := Zda g.room
theorem Good.u1 (g : Good p C ca k ks W X) : X.A.units + 1 < cLine := by have := g.u65; omega
theorem Good.u10 (g : Good p C ca k ks W X) : X.A.units + 10 < cLine := by have := g.u65; omega
structure SE (ca : CA) (C : Cl) (W : WX) (X : Cx) (e : Expr) (m : ME) : Prop where
 pe : PE X e (tC X.kw X.lc ca W (ev C m))
 pt : PT X e (tT X.kw X.lc ca W (ev C m))
 pw : ∀ op vs pos, e = .BoolOp op vs pos -> PW X e (tT X.kw X.lc ca W (ev C m))
abbrev SR (ca : CA) (C : Cl) (W : WX) (X : Cx) (e : Expr) (m : MR) : Prop := PE X e (tG X.kw X.lc ca W (RR X.kw) (evr C m))
abbrev SOb (ca : CA) (C : Cl) (W : WX) (X : Cx) (e : Expr) (m : MO) : Prop := PE X e (tO X.kw X.lc ca W (evO C m))
theorem SE.plain {e : Expr} {m : ME} (h : PE X e (tC X.kw X.lc ca W (ev C m))) (ht : Zge e = true) : SE ca C W X e m :=
 ⟨h, PT.mono (pt_val h (Zoa ht)) fun σ H Q q => Zkd q, fun op vs pos z => by subst z; cases ht⟩
theorem Z1f {c : Const} {j : Nat} {pos : Pos} {d : D} (h : okC c d = true) : SE ca C W X (.Constant c j pos) (.cst d) := by
 refine SE.plain ?_ rfl
 have out : ∀ {v : V} {σ : L2.St} {H : Hp} {Q : VK}, (∀ φ n H, RV X.kw φ n H d v) -> tC X.kw X.lc ca W (ev C (.cst d)) σ H Q -> Q v H := fun hv ⟨φ, S, ρ, a, h⟩ => Zaf.now (S := S) (by simp only [ev] at h; exact h) a.rel (hv _ _ _)
 cases c <;> cases d <;> first
  | (cases h; done)
  | (simp [okC] at h; done)
  | exact PE.mono pe_non fun σ H Q q => out (fun _ _ _ => .non) q
  | (have e := (by simpa [okC] using h); subst e; exact PE.mono pe_bl fun σ H Q q => out (fun _ _ _ => .bl _) q)
  | (have e := (by simpa [okC] using h); subst e; exact PE.mono pe_int fun σ H Q q => out (fun _ _ _ => .int _) q)
  | (have e := (by simpa [okC] using h); subst e; exact PE.mono pe_str fun σ H Q q => out (fun _ _ _ => .str _) q)
theorem Z1g (g : Good p C ca k ks W X) {x : Str} {pos : Pos} {i : Nat} (h1 : p.N[i]? = some x) (h2 : ks.vis x = true) (h3 : Zac x = true) : SE ca C W X (.Name x pos) (.var i) := by
 refine SE.plain (PE.mono (pe_var (i := i) (by rw [g.N]; exact h1) (g.vis h2) (Zad h3) (Zat h3)) fun σ H Q ⟨φ, S, ρ, a, h⟩ => ?_) rfl
 simp only [ev] at h
 split at h
 ·rename_i d e
  obtain ⟨v, e1, rv⟩ := a.env.at_ i d e
  exact ⟨v, e1, Zaf.now h a.rel rv⟩
 ·exact h.elim
theorem Z1h {e : Expr} {m : ME} (h : SE ca C W X e m) : SR ca C W X e (.val m) := PE.mono h.pe fun σ H Q ⟨φ, S, ρ, a, h⟩ => by
 simp only [evr] at h
 exact ⟨φ, S, ρ, a, R.wp_mono h (fun d S' z φ' H' v st r rv => z φ' H' v st r (.of rv)) fun _ _ z => z⟩
theorem Z1i (g : Good p C ca k ks W X) {x : Str} {pos : Pos} {i : Nat} (h1 : p.N[i]? = some x) (h2 : ks.vis x = true) (h3 : Zac x = true) : SR ca C W X (.Name x pos) (.own i) := by
 refine PE.mono (pe_var (i := i) (by rw [g.N]; exact h1) (g.vis h2) (Zad h3) (Zat h3)) fun σ H Q ⟨φ, S, ρ, a, h⟩ => ?_
 simp only [evr] at h
 split at h
 ·rename_i ob e
  obtain ⟨b, e1, ⟨u, hu, ru⟩, off⟩ := a.env.own i ob e
  refine ⟨_, e1, Zaf.now h a.rel ?_⟩
  cases ob with
  | lst ds => obtain ⟨vs, rfl, rs⟩ := ru; exact .wl hu off rs
  | dK ds => obtain ⟨vs, rfl, rs⟩ := ru; exact .wd hu off rs
  | dT ds => obtain ⟨vs, rfl, q, rs⟩ := ru; exact .wT hu off q rs
  | ins c fs => exact ru.elim
 ·exact h.elim
theorem Z1j (g : Good p C ca k ks W X) {x : Str} {pos : Pos} {d : D} (h1 : p.gs.lookup x = some d) (h2 : ks.gl x = true) (h3 : Zac x = true) : SE ca C W X (.Name x pos) (.glb x d) := by
 obtain ⟨v, u, hm, ru, rv⟩ := g.gs x d h1
 refine SE.plain (PE.mono (pe_glob (g.gl h2) hm ru (Zad h3)) fun σ H Q ⟨φ, S, ρ, a, h⟩ => ?_) rfl
 simp only [ev] at h
 exact Zaf.now h a.rel (rv _ _ _)
theorem Z1k {a b : Expr} {ma mb : ME} {op : Operator} {pos : Pos} (ha : SE ca C W X a ma) (hb : SE ca C W X b mb) : SE ca C W X (.BinOp a op b pos) (.bin op ma mb) := by
 refine SE.plain (PE.mono (pe_op (Z08 op) ha.pe hb.pe) fun σ H Q ⟨φ, S, ρ, a, h⟩ => ?_) rfl
 simp only [ev] at h
 exact Zag a h fun dx S1 φ1 H1 x st1 a1 rx h1 => Zag a1 h1 fun dy S2 φ2 H2 y st2 a2 ry h2 => by
  obtain ⟨d, e, q⟩ := Zas h2
  exact ⟨φ2, S2, _, _, d, a2.rel, (RR.of (rx.mono a1.rel st2)).rd a2.rel, (RR.of ry).rd a2.rel, e, Zaf.step (st1.trans st2) q⟩
theorem Zko {ma mb : MR} {op : CmpOp} {σ : L2.St} {H : Hp} {Q : VK} (h : tC X.kw X.lc ca W (ev C (.cmp op ma mb)) σ H Q) : tOp (rOp X.kw fun a b => (Zhv op a b).map .bl) (tG X.kw X.lc ca W (RR X.kw) (evr C ma)) (tG X.kw X.lc ca W (RR X.kw) (evr C mb)) σ H Q := by
 obtain ⟨φ, S, ρ, a, h⟩ := h
 simp only [ev] at h
 exact Zag a h fun dx S1 φ1 H1 x st1 a1 rx h1 => Zag a1 h1 fun dy S2 φ2 H2 y st2 a2 ry h2 => by
  obtain ⟨d, e, q⟩ := Zas h2
  exact ⟨φ2, S2, _, _, d, a2.rel, (rx.mono a1.rel st2).rd a2.rel, ry.rd a2.rel, e, Zaf.step (st1.trans st2) q⟩
theorem Z1l (g : Good p C ca k ks W X) {a b : Expr} {ma mb : MR} {op : CmpOp} {pos : Pos} (ha : SR ca C W X a ma) (hb : SR ca C W X b mb) (hm : behindInMarks op b = false) : SE ca C W X (.Compare a [op] [b] pos) (.cmp op ma mb) := by
 refine ⟨PE.mono (pe_cmpR (Zuc g.u65 op) ha hb hm) fun σ H Q q => Zko q, PT.mono (pt_cmpR (Zuc g.u65 op) ha hb hm) fun σ H Q q => Zko (Zkd q), fun _ _ _ z => nomatch z⟩
theorem Z1m {a : Expr} {ma : ME} {pos : Pos} (ha : SE ca C W X a ma) : SE ca C W X (.UnaryOp .USub a pos) (.neg ma) := by
 refine SE.plain (PE.mono (pe_un un_neg ha.pe) fun σ H Q ⟨φ, S, ρ, a, h⟩ => ?_) rfl
 simp only [ev] at h
 refine Zag a h fun dx S1 φ1 H1 x st1 a1 rx h1 => ?_
 cases rx with
 | int i => exact ⟨i, rfl, Zaf.now (Zaf.step st1 h1) a1.rel (.int _)⟩
 | _ => exact h1.elim
theorem Z9f {a : Expr} {ma : ME} {pos : Pos} (ha : SE ca C W X a ma) : SE ca C W X (.UnaryOp .Not a pos) (.nt ma) := by
 refine ⟨PE.mono (pe_not ha.pe) fun σ H Q ⟨φ, S, ρ, a, h⟩ => ?_, PT.mono (pt_not ha.pt) fun σ H Q ⟨φ, S, ρ, a, h⟩ => ?_, fun _ _ _ z => nomatch z⟩
 ·simp only [ev] at h
  refine Zag a h fun dx S1 φ1 H1 x st1 a1 rx h1 => ?_
  cases rx with
  | bl b => exact ⟨b, rfl, Zaf.now (Zaf.step st1 h1) a1.rel (.bl _)⟩
  | _ => exact h1.elim
 ·simp only [ev] at h
  refine Zno a h (fun d S1 hd => by cases d <;> first | rfl | exact absurd rfl (hd _)) fun b S1 φ1 H1 st1 a1 h1 => ?_
  obtain ⟨b', e, q⟩ := h1
  cases e
  exact q φ1 H1 st1 a1.rel
theorem Zum {a b : Expr} {r : List Expr} {ma mb : ME} {pos : Pos} (ha : SE ca C W X a ma) (hb : SE ca C W X (.BoolOp .And (b :: r) pos) mb) : SE ca C W X (.BoolOp .And (a :: b :: r) pos) (.and ma mb) := by
 have w : PW X (.BoolOp .And (a :: b :: r) pos) (tT X.kw X.lc ca W (ev C (.and ma mb))) := by
  refine PW.mono (pw_and ha.pt (hb.pw _ _ _ rfl)) fun σ H Q ⟨φ, S, ρ, a, h⟩ => ?_
  simp only [ev] at h
  refine Zno a h (fun d S1 hd => by cases d <;> first | rfl | exact absurd rfl (hd _)) fun b S1 φ1 H1 st1 a1 h1 => ?_
  cases b with
  | true => exact ⟨φ1, S1, ρ, a1, R.wp_mono h1 (fun d S2 ⟨b', e, q⟩ => ⟨b', e, fun φ2 H2 st2 => q φ2 H2 (st1.trans st2)⟩) fun _ _ z => z⟩
  | false =>
   obtain ⟨b', e, q⟩ := h1
   cases e
   exact q φ1 H1 st1 a1.rel
 refine ⟨PE.mono (pe_and ha.pe hb.pe) fun σ H Q ⟨φ, S, ρ, a, h⟩ => ?_, w.pt, fun _ _ _ z => w⟩
 simp only [ev] at h
 refine Zag a h fun dx S1 φ1 H1 x st1 a1 rx h1 => ?_
 cases rx with
 | bl b =>
  refine ⟨b, rfl, ?_⟩
  cases b with
  | true => exact ⟨φ1, S1, ρ, a1, R.wp_mono h1 (fun _ _ z => Zaf.step st1 z) fun _ _ z => z⟩
  | false => exact Zaf.now (Zaf.step st1 h1) a1.rel (.bl _)
 | _ => exact h1.elim
theorem Z1n {a b : Expr} {r : List Expr} {ma mb : ME} {pos : Pos} (ha : SE ca C W X a ma) (hb : SE ca C W X (.BoolOp .Or (b :: r) pos) mb) : SE ca C W X (.BoolOp .Or (a :: b :: r) pos) (.or ma mb) := by
 have w : PW X (.BoolOp .Or (a :: b :: r) pos) (tT X.kw X.lc ca W (ev C (.or ma mb))) := by
  refine PW.mono (pw_or ha.pt (hb.pw _ _ _ rfl)) fun σ H Q ⟨φ, S, ρ, a, h⟩ => ?_
  simp only [ev] at h
  refine Zno a h (fun d S1 hd => by cases d <;> first | rfl | exact absurd rfl (hd _)) fun b S1 φ1 H1 st1 a1 h1 => ?_
  cases b with
  | false => exact ⟨φ1, S1, ρ, a1, R.wp_mono h1 (fun d S2 ⟨b', e, q⟩ => ⟨b', e, fun φ2 H2 st2 => q φ2 H2 (st1.trans st2)⟩) fun _ _ z => z⟩
  | true =>
   obtain ⟨b', e, q⟩ := h1
   cases e
   exact q φ1 H1 st1 a1.rel
 refine ⟨PE.mono (pe_or ha.pe hb.pe) fun σ H Q ⟨φ, S, ρ, a, h⟩ => ?_, w.pt, fun _ _ _ z => w⟩
 simp only [ev] at h
 refine Zag a h fun dx S1 φ1 H1 x st1 a1 rx h1 => ?_
 cases rx with
 | bl b =>
  refine ⟨b, rfl, ?_⟩
  cases b with
  | false => exact ⟨φ1, S1, ρ, a1, R.wp_mono h1 (fun _ _ z => Zaf.step st1 z) fun _ _ z => z⟩
  | true => exact Zaf.now (Zaf.step st1 h1) a1.rel (.bl _)
 | _ => exact h1.elim
theorem Z1o {a : Expr} {op : BoolOp} {ma : ME} {pos : Pos} (ha : SE ca C W X a ma) : SE ca C W X (.BoolOp op [a] pos) ma := by
 have w : PW X (.BoolOp op [a] pos) (tT X.kw X.lc ca W (ev C ma)) := by
  cases op with
  | And => exact pw_and1 ha.pt
  | Or => exact pw_or1 ha.pt
 exact ⟨pe_one ha.pe, w.pt, fun _ _ _ _ => w⟩
theorem Z1p {c a b : Expr} {tc ta tb : TT} {pos : Pos} (hc : PT X c tc) (ha : PT X a ta) (hb : PT X b tb) : PT X (.IfExp c a b pos) (fun σ H Q => tc σ H fun d H1 => if d = true then ta σ H1 Q else tb σ H1 Q) := by
 constructor
 intro pins s σ H Q I h
 unfold PySem.isTrue
 apply Qac
 apply thn (hc.run pins s σ H _ I h)
 rintro d s1 ⟨H1, I1, q1⟩
 cases d with
 | true => exact ha.run pins s1 σ H1 Q I1 q1
 | false => exact hb.run pins s1 σ H1 Q I1 q1
theorem Z1q {c a b : Expr} {mc ma mb : ME} {pos : Pos} (hc : SE ca C W X c mc) (ha : SE ca C W X a ma) (hb : SE ca C W X b mb) : SE ca C W X (.IfExp c a b pos) (.ife mc ma mb) := by
 refine ⟨PE.mono (pe_ifExp hc.pt ha.pe hb.pe) fun σ H Q ⟨φ, S, ρ, a, h⟩ => ?_, PT.mono (Z1p hc.pt ha.pt hb.pt) fun σ H Q ⟨φ, S, ρ, a, h⟩ => ?_, fun _ _ _ z => nomatch z⟩
 ·simp only [ev] at h
  refine Zno a h (fun d S1 hd => by cases d <;> first | rfl | exact absurd rfl (hd _)) fun b S1 φ1 H1 st1 a1 h1 => ?_
  cases b with
  | true => exact ⟨φ1, S1, ρ, a1, R.wp_mono h1 (fun _ _ z => Zaf.step st1 z) fun _ _ z => z⟩
  | false => exact ⟨φ1, S1, ρ, a1, R.wp_mono h1 (fun _ _ z => Zaf.step st1 z) fun _ _ z => z⟩
 ·simp only [ev] at h
  refine Zno a h (fun d S1 hd => by cases d <;> first | rfl | exact absurd rfl (hd _)) fun b S1 φ1 H1 st1 a1 h1 => ?_
  cases b with
  | true => exact ⟨φ1, S1, ρ, a1, R.wp_mono h1 (fun d S2 ⟨b', e, q⟩ => ⟨b', e, fun φ2 H2 st2 => q φ2 H2 (st1.trans st2)⟩) fun _ _ z => z⟩
  | false => exact ⟨φ1, S1, ρ, a1, R.wp_mono h1 (fun d S2 ⟨b', e, q⟩ => ⟨b', e, fun φ2 H2 st2 => q φ2 H2 (st1.trans st2)⟩) fun _ _ z => z⟩
abbrev SA (ca : CA) (C : Cl) (W : WX) (X : Cx) (es : List Expr) (ms : List ME) : Prop := PA X es (tG X.kw X.lc ca W (RVs X.kw) (evs C ms))
abbrev SRs (ca : CA) (C : Cl) (W : WX) (X : Cx) (es : List Expr) (ms : List MR) : Prop := PA X es (tG X.kw X.lc ca W (RRs X.kw) (Zi4 C ms))
theorem Zkp : SA ca C W X [] [] := PA.mono pa_nil fun σ H Q ⟨φ, S, ρ, a, h⟩ => by
 simp only [evs] at h
 exact h φ H [] a.rel.refl a.rel .nil
theorem Zff {e : Expr} {es : List Expr} {m : ME} {ms : List ME} (hs : Zah e = true) (he : SE ca C W X e m) (hr : SA ca C W X es ms) : SA ca C W X (e :: es) (m :: ms) := by
 refine PA.mono (pa_cons he.pe hr (Zak hs es)) fun σ H Q ⟨φ, S, ρ, a, h⟩ => ?_
 simp only [evs] at h
 refine Zag a h fun dx S1 φ1 H1 x st1 a1 rx h1 => Zag a1 h1 fun ds S2 φ2 H2 vs st2 a2 rs h2 => ?_
 exact h2 φ2 H2 (x :: vs) (st1.trans st2) a2.rel (.cons (rx.mono a1.rel st2) rs)
theorem Zwj : SRs ca C W X [] [] := PA.mono pa_nil fun σ H Q ⟨φ, S, ρ, a, h⟩ => by
 simp only [Zi4] at h
 exact h φ H [] a.rel.refl a.rel .nil
theorem Zrm {e : Expr} {es : List Expr} {m : MR} {ms : List MR} (hs : Zah e = true) (he : SR ca C W X e m) (hr : SRs ca C W X es ms) : SRs ca C W X (e :: es) (m :: ms) := by
 refine PA.mono (pa_cons he hr (Zak hs es)) fun σ H Q ⟨φ, S, ρ, a, h⟩ => ?_
 simp only [Zi4] at h
 refine Zag a h fun dx S1 φ1 H1 x st1 a1 rx h1 => Zag a1 h1 fun ds S2 φ2 H2 vs st2 a2 rs h2 => ?_
 exact h2 φ2 H2 (x :: vs) (st1.trans st2) a2.rel (.cons (rx.mono a1.rel st2) rs)
theorem Z1r {es : List Expr} {ms : List ME} {j : Nat} {pos : Pos} (ha : SA ca C W X es ms) : SE ca C W X (.Tuple es j pos) (.tup ms) := by
 refine SE.plain (PE.mono (Zjd ha) fun σ H Q ⟨φ, S, ρ, a, h⟩ => ?_) rfl
 simp only [ev] at h
 refine Zag a h fun ds S1 φ1 H1 vs st1 a1 rs h1 => ?_
 split at h1
 ·rename_i hz
  exact ⟨by rw [rs.length]; exact hz, fun q hq => Zvy a1.rel rs hq (Zaf.step st1 h1)⟩
 ·exact h1.elim
theorem Z1s (g : Good p C ca k ks W X) {a i : Expr} {ma : MR} {mi : ME} {pos : Pos} (ha : SR ca C W X a ma) (hi : SE ca C W X i mi) (hs : Zfd i = true) : SE ca C W X (.Subscript a i pos) (.sub ma mi) := by
 refine SE.plain (PE.mono (pe_ix (Z9a g.u10) ha hi.pe (Z1d hs)) fun σ H Q ⟨φ, S, ρ, a, h⟩ => ?_) rfl
 simp only [ev] at h
 exact Zag a h fun dx S1 φ1 H1 x st1 a1 rx h1 => Zag a1 h1 fun dy S2 φ2 H2 y st2 a2 ry h2 => by
  obtain ⟨d, e, q⟩ := Zas h2
  exact ⟨φ2, S2, _, _, d, a2.rel, (rx.mono a1.rel st2).rd a2.rel, (RR.of ry).rd a2.rel, e, Zaf.step (st1.trans st2) q⟩
abbrev SO (ca : CA) (C : Cl) (W : WX) (X : Cx) (e : Option Expr) (m : Option ME) : Prop := PO X e (tG X.kw X.lc ca W (fun _ _ _ a b => a = b) (evo C m))
theorem PO.mono {e : Option Expr} {t t' : TO} (h : PO X e t) (q : ∀ σ H Q, t' σ H Q -> t σ H Q) : PO X e t' := ⟨fun pins s σ H Q I z => h.run pins s σ H Q I (q σ H Q z)⟩
theorem Zwk : SO ca C W X none none := PO.mono po_none fun σ H Q ⟨φ, S, ρ, a, h⟩ => by
 simp only [evo] at h
 exact h φ H none a.rel.refl a.rel rfl
theorem Zwl {e : Expr} {m : ME} (he : SE ca C W X e m) : SO ca C W X (some e) (some m) := by
 refine PO.mono (po_some he.pe) fun σ H Q ⟨φ, S, ρ, a, h⟩ => ?_
 simp only [evo] at h
 refine Zag a h fun dx S1 φ1 H1 x st1 a1 rx h1 => ?_
 cases rx with
 | int i => exact ⟨i, rfl, h1 φ1 H1 (some i) st1 a1.rel rfl⟩
 | _ => exact h1.elim
theorem Z1t {a : Expr} {lo hi : Option Expr} {ma : ME} {ml mh : Option ME} {p2 pos : Pos} (ha : SE ca C W X a ma) (hl : SO ca C W X lo ml) (hh : SO ca C W X hi mh) : SE ca C W X (.Subscript a (.Slice lo hi none p2) pos) (.slc ma ml mh) := by
 refine SE.plain (PE.mono (pe_slice Z9b ha.pe hl hh) fun σ H Q ⟨φ, S, ρ, a, h⟩ => ?_) rfl
 simp only [ev] at h
 exact Zag a h fun dx S1 φ1 H1 x st1 a1 rx h1 => Zag a1 h1 fun l S2 φ2 H2 l' st2 a2 rl h2 => Zag a2 h2 fun u S3 φ3 H3 u' st3 a3 ru h3 => by
  subst rl ru
  obtain ⟨d, e, q⟩ := Zas h3
  exact ⟨φ3, S3, _, d, a3.rel, (RR.of ((rx.mono a1.rel st2).mono a2.rel st3)).rd a3.rel, e, Zaf.step (st1.trans (st2.trans st3)) q⟩
end
end My
namespace My
open PySem PySem.Spec PyProof.Rows L2 HT
variable [CP] [TC]
section
variable {prog : Program} {w : World} {A : Around} {E : Value -> Shared -> Prop} {s : Shared}
theorem Zwm (n : Nat) : Builtin.Slice.sliceAdjust none none (-1) (n : Int) = ((n : Int) - 1, -1) := by
 unfold Builtin.Slice.sliceAdjust
 simp
theorem Zmp (n : Nat) : Builtin.Slice.slicePlaces ((n : Int) - 1) (-1) (-1) = n := by
 unfold Builtin.Slice.slicePlaces
 by_cases h : n = 0
 ·subst h; decide
 ·have h1 : ¬ ((-1 : Int) > 0) := by decide
  have h2 : (n : Int) - 1 > -1 := by omega
  rw [Qat h1, Qan h2]
  simp only [Int.neg_neg, Int.ediv_one]
  omega
theorem Zrn (xs : Array Value) : ((List.range xs.size).filterMap fun (k : Nat) => xs[((xs.size : Int) - 1 + (k : Int) * (-1)).toNat]?).toArray = xs.toList.reverse.toArray := by
 congr 1
 apply List.ext_getElem?
 intro i
 have h : ∀ (l : List Nat) (f : Nat -> Option Value) (g : Nat -> Value), (∀ k ∈ l, f k = some (g k)) -> l.filterMap f = l.map g := by
  intro l f g
  induction l with
  | nil => intro _; rfl
  | cons a l ih =>
   intro h
   rw [List.filterMap_cons, h a Qag, Qaj, ih fun k hk => h k (Qae _ hk)]
 by_cases h0 : xs.size = 0
 ·have : xs = #[] := Array.eq_empty_of_size_eq_zero h0
  subst this; rfl
 rw [h _ _ (fun k => xs[xs.size - 1 - k]'(by omega)) fun k hk => ?_]
 ·by_cases hi : i < xs.size
  ·rw [Qar, List.getElem?_range hi, List.getElem?_reverse (by simpa using hi)]
   simp
  ·rw [Qba (by simp; omega), Qba (by simp; omega)]
 ·have hk := List.mem_range.mp hk
  have e : ((xs.size : Int) - 1 + (k : Int) * (-1)).toNat = xs.size - 1 - k := by omega
  rw [e]
  have : xs.size - 1 - k < xs.size := by omega
  simp [this]
theorem Zjn {sl : Addr} {vk : Value} {n : Nat} {Q : Int × Int × Nat -> Shared -> Prop} (hs : s.heap.IsSliceOf sl .none .none vk) (pk : IsPart vk (some (-1))) (h : Q ((n : Int) - 1, -1, n) s) :
  wpAny (model prog w) A (Builtin.Slice.sliceApplied (.ref sl) (pure (n : Int))) Q E s := by
 obtain ⟨os, hos, _, hds⟩ := id hs
 unfold Builtin.Slice.sliceApplied Builtin.Slice.sliceFields
 refine Qac (Qac (wpAny_field hos hds (x := .none) rfl (Qac (wpAny_field hos hds (x := .none) rfl (Qac (wpAny_field hos hds (x := vk) rfl (Qah ?_)))))))
 refine Qac (slicePart_ pk ?_)
 show wpAny _ _ (if ((-1 : Int) == 0) = true then _ else _) _ _ s
 rw [Qat (by decide)]
 refine Qac (slicePart_ .none (Qac (slicePart_ .none (Qac (Qah ?_)))))
 show wpAny _ _ (match Builtin.Slice.sliceAdjust none none (-1) (n : Int) with | (lo, hi) => pure (lo, (-1 : Int), Builtin.Slice.slicePlaces lo hi (-1))) _ _ s
 rw [Zwm]
 show wpAny _ _ (pure ((n : Int) - 1, (-1 : Int), Builtin.Slice.slicePlaces ((n : Int) - 1) (-1) (-1))) _ _ s
 rw [Zmp]
 exact Qah h
theorem Zro {t sl : Addr} {items : Array Value} {vk : Value} {Q : Value -> Shared -> Prop} (ht : IsTup s.heap t items) (hs : s.heap.IsSliceOf sl .none .none vk) (pk : IsPart vk (some (-1))) (hz : items.size <= sizeLine)
  (h : Q (.ref s.heap.objs.size) { s with heap := s.heap.push { cls := .type "tuple", data := .seq items.toList.reverse.toArray } }) : wpAny (model prog w) A (getItem (.ref t) (.ref sl)) Q E s := by
 have small : sizeOk (.seq items.toList.reverse.toArray) := by
  show items.toList.reverse.toArray.size <= sizeLine
  simpa using hz
 obtain ⟨os, hos, hcs, _⟩ := id hs
 have isS : s.TypeIs (.ref sl) "slice" := ⟨os, hos, hcs⟩
 unfold getItem
 try with_reducible refine wpAny_holding ?_
 first | refine Qac (Qah ?_) | skip
 refine Qac (wpAny_sequenceKey ht.typeIs (by decide) ?_)
 have slot := PyProof.Rows.slot_tuple_getitem
 refine Qac (wpAny_callSpecial?_slot (name := Str.ofString "__getitem__") ht.typeIs slot (wpAny_call_entry slot ht.typeIs entry_tuple_getitem ?_ (args_tuple_getitem _ _)))
 show wpAny _ _ (Builtin.Tuple.tupleItemsOf (.ref t) >>= _) _ _ s
 refine Qac (tupleItemsOf_ ht (Qac (wpAny_typeOf isS ?_)))
 rw [Qan (by decide)]
 refine Qac (Zjn hs pk ?_)
 have no : ¬ (((items.size : Int) - 1 == 0 && (-1 : Int) == 1 && items.size == items.size) = true) := by
  simp
 show wpAny _ _ (if (((items.size : Int) - 1 == 0 && (-1 : Int) == 1 && items.size == items.size) = true) then _ else _) _ _ s
 rw [Qat no, Zrn]
 first
  | exact Qac (m := Builtin.Tuple.tupleExact _) (wpAny_newObj_type (Qah ⟨_, rfl, Qah h⟩) small)
  | exact Qac (Qac (m := Builtin.Tuple.tupleExact _) (wpAny_newObj_type (Qah ⟨_, rfl, Qah h⟩) small))
end
def Z9g (K : KW) (te : TE) : TE := fun σ H Q => te σ H fun x H1 => ∃ a xs, x = .ref a /\ ((SqT K H1 a xs /\ ∀ p, H1 p = none -> ∀ o : Obj, o.dict = none -> Q (.ref p) (upd H1 p (.frz o (.tup xs.reverse)))) \/ (SqL K H1 a xs /\ ∀ p, H1 p = none -> LkQ Q (.ref p) (upd H1 p (.lst xs.reverse))))
theorem Zwn {X : Cx} {e : Expr} {te : TE} {k : Nat} {p1 p2 p3 pos : Pos} (he : PE X e te) : PE X (.Subscript e (.Slice none none (some (.UnaryOp .USub (.Constant (.int 1) k p1) p2)) p3) pos) (Z9g X.kw te) := by
 constructor
 intro pins s σ H Q I h
 refine Subscript_ (thn (he.run pins s σ H _ I h) ?_)
 rintro v s1 ⟨x, H1, I1, r1, a, xs, rfl, hx⟩
 cases r1
 have step : PO X (some (.UnaryOp .USub (.Constant (.int 1) k p1) p2)) (tPart (tUn (rU fun i => .int (-i)) (L2.tC (.int 1)))) := po_some (pe_un un_neg pe_int)
 refine wpAny_Slice (thn (po_none.run pins s1 σ H1 (fun o H2 => o = none /\ H2 = H1) I1 ⟨rfl, rfl⟩) ?_)
 rintro vl s2 ⟨l, H2, I2, pl, rfl, rfl⟩
 refine thn (po_none.run pins s2 σ _ (fun o H3 => o = none /\ H3 = _) I2 ⟨rfl, rfl⟩) ?_
 rintro vu s3 ⟨u, H3, I3, pu, rfl, rfl⟩
 refine thn (step.run pins s3 σ _ (fun o H4 => o = some (-1) /\ H4 = _) I3 ⟨1, rfl, -1, rfl, rfl, rfl⟩) ?_
 rintro vs s4 ⟨o, H4, I4, ps, rfl, rfl⟩
 cases pl
 cases pu
 have I5 : Inv X pins σ _ { s4 with heap := s4.heap.push { cls := .type "slice", data := .fields #[.none, .none, vs] } } := I4.kept (t' := s4.toks) fun b ob z => Qam _ z
 rcases hx with ⟨hx, q⟩ | ⟨hx, q⟩
 ·obtain ⟨its, r, isT, hz⟩ := I5.tuple hx
  have len := r.length
  refine tail_any (ops := [.ref a, .ref s4.heap.objs.size]) isT.typeIs PyProof.Rows.slot_tuple_getitem.lookup ?_ (by with_unfolding_all rfl)
  refine Zro isT (Heap.IsSliceOf.new _ .none .none vs) ps (by simp only [Qa6]; omega) ?_
  exact ⟨.ref _, _, Zjc (t' := s4.toks) I5 (by simpa using hz) r.reverse, rfl, q _ (I5.hok.fresh (Qao _)) _ rfl⟩
 ·obtain ⟨its, r, ht, hz⟩ := I5.list hx
  have len := r.length
  refine Zf5 ?_
  refine tail_any (ops := [.ref a, .ref s4.heap.objs.size]) ht.isList.typeIs slot_list_getitem.lookup ?_ (by with_unfolding_all rfl)
  refine wpAny_getItem_list_slice ht.isList (Heap.IsSliceOf.new _ .none .none vs) .none .none ps (by decide) ?_ (by rw [Qa6] <;> omega)
  rw [PySem.W.krv_pick]
  refine ⟨.ref _, _, I5.laid (t' := s4.toks) (o := .lst xs.reverse) (fun b ob z => Qam _ z) (Qao _) ⟨by simpa using hz, its.reverse, 0, r.reverse, ?_⟩, rfl, q _ (I5.hok.fresh (Qao _))⟩
  exact Qa0 _ rfl
end My
namespace My
open PySem PySem.Spec PyProof.Rows L2
variable [CP] [TC]
section
variable {p : Pg} {C : Cl} {ca : CA} {k : Nat} {ks : Ks} {W : WX} {X : Cx}
theorem Z1u {a : Expr} {ma : ME} {j : Nat} {p1 p2 p3 pos : Pos} (ha : SE ca C W X a ma) : SE ca C W X (.Subscript a (.Slice none none (some (.UnaryOp .USub (.Constant (.int 1) j p1) p2)) p3) pos) (.rev ma) := by
 refine SE.plain (PE.mono (Zwn ha.pe) fun σ H Q ⟨φ, S, ρ, a, h⟩ => ?_) rfl
 simp only [ev] at h
 refine Zag a h fun dx S1 φ1 H1 x st1 a1 rx h1 => ?_
 cases rx with
 | tup e rs => exact ⟨_, _, rfl, .inl ⟨e.sq, fun q hq => Zvy a1.rel rs.reverse hq (Zaf.step st1 h1)⟩⟩
 | wl e rs => exact ⟨_, _, rfl, .inr ⟨SqL.rd (.inr ⟨_, e⟩), fun q hq => Z0h a1.rel rs.reverse hq (Zaf.step st1 h1)⟩⟩
 | _ => exact h1.elim
theorem Zwo (g : Good p C ca k ks W X) {x y : Str} {es : List Expr} {ms : List ME} {p1 pos : Pos} (ha : SA ca C W X es ms) (hlen : es = [] -> ms = []) (hst : Zaa es = true) (hxy : x = bsN y) (h1 : ks.gl x = true) (h2 : Zac x = true) (h3 : p.fs.contains y = true) (h4 : (CP.cp y).isEmpty = true) : SE ca C W X (.Call (.Name x p1) es [] pos) (.call y ms) := by
 subst hxy
 obtain ⟨f, fd, ps, us, dvs, sp, _, hm, hk, hb, hd, _, F, hsp⟩ := g.fn y h3
 refine SE.plain ?_ rfl
 have rd : ∀ σ H Q, tC X.kw X.lc ca W (ev C (.call y ms)) σ H Q -> tG X.kw X.lc ca W (RVs X.kw) (evs C ms) σ H fun vs H1 => ∀ L, sp L (vs ++ dvs) H1 Q (WE W σ) := fun σ H Q ⟨φ, S, ρ, a, h⟩ => by
  simp only [ev] at h
  exact Zag a h fun ds S1 φ1 H1 vs st1 a1 rs h1 L => hsp _ _ _ _ _ ⟨φ1, S1, ds, a1.rel, rs, Znd h4, R.wp_mono h1 (fun _ _ z => Zaf.step st1 z) fun _ _ z => z⟩
 cases es with
 | nil =>
  refine PE.mono (Zmm F g.gu g.room (g.gl h1) hm hk hb hd g.tk (Zad h2)) fun σ H Q q => ?_
  have e0 := hlen rfl
  subst e0
  obtain ⟨φ, S, ρ, a, h⟩ := rd σ H Q q
  simp only [evs] at h
  exact h φ H [] a.rel.refl a.rel .nil
 | cons e es =>
  rw [Zaa, Qas, Qaa] at hst
  exact PE.mono (Zn5 F g.gu g.room (g.gl h1) hm hk hb hd g.tk ha (Zad h2) (Zak hst.1 es) (Zab _ hst.2)) rd
theorem Zfg {x : Str} (h : Zbf x = false) : bsN x = x := by
 unfold bsN
 rw [h]; rfl
theorem Z1v (g : Good p C ca k ks W X) {f : Bf} {e : Expr} {es : List Expr} {ms : List MR} {p1 pos : Pos} (ha : SRs ca C W X (e :: es) ms) (hst : Zaa (e :: es) = true) (h1 : ks.gl (bfN f) = true) : SE ca C W X (.Call (.Name (bfN f) p1) (e :: es) [] pos) (.blt f ms) := by
 refine SE.plain ?_ rfl
 have rd : ∀ σ H Q, tC X.kw X.lc ca W (ev C (.blt f ms)) σ H Q -> tG X.kw X.lc ca W (RRs X.kw) (Zi4 C ms) σ H fun vs H1 => rBl X.kw f vs H1 Q := fun σ H Q ⟨φ, S, ρ, a, h⟩ => by
  simp only [ev] at h
  exact Zag a h fun ds S1 φ1 H1 vs st1 a1 rs h1 => by
   obtain ⟨d, e, q⟩ := Zas h1
   exact ⟨φ1, S1, _, d, a1.rel, rs.rd a1.rel, e, Zaf.step st1 q⟩
 have ok := Z1b g.calm g.gu g.u65 f
 rw [Zaa, Qas, Qaa] at hst
 have hb := Zjm f
 have hn := Zd8 (Zkl f)
 have hd := Zad (Zkl f)
 have hl := g.gl h1
 have hm := g.bl f
 cases f <;> first
  | exact PE.mono (pe_callB ok hl hm hb ha hn hd (Zak hst.1 es) (Zab _ hst.2)) rd
  | exact PE.mono (pe_callTy ok hl hm hb ha hn hd (Zak hst.1 es) (Zab _ hst.2)) rd
theorem Zwp (g : Good p C ca k ks W X) {f : Of} {e : Expr} {es : List Expr} {ms : List MR} {p1 pos : Pos} (ha : SRs ca C W X (e :: es) ms) (hst : Zaa (e :: es) = true) (h1 : ks.gl (ofN f) = true) : SOb ca C W X (.Call (.Name (ofN f) p1) (e :: es) [] pos) (.blt f ms) := by
 have rd : ∀ σ H Q, tO X.kw X.lc ca W (evO C (.blt f ms)) σ H Q -> tG X.kw X.lc ca W (RRs X.kw) (Zi4 C ms) σ H fun vs H1 => rBo X.kw f vs H1 Q := fun σ H Q ⟨φ, S, ρ, a, h⟩ => by
  simp only [evO] at h
  exact Zag a h fun ds S1 φ1 H1 vs st1 a1 rs h1 => by
   obtain ⟨d, e, q⟩ := Zas h1
   exact ⟨φ1, S1, _, d, a1.rel, rs.rd a1.rel, e, Za8.step st1 q⟩
 have un := Zda g.room3
 have ok := Zwd (X := X) (by omega) g.calm f
 rw [Zaa, Qas, Qaa] at hst
 have hb := Zob f
 have hn := Zd8 (Zkm f)
 have hd := Zad (Zkm f)
 have hl := g.gl h1
 have hm := g.ob f
 cases f <;> first
  | exact PE.mono (pe_callB ok hl hm hb ha hn hd (Zak hst.1 es) (Zab _ hst.2)) rd
  | exact PE.mono (pe_callTy ok hl hm hb ha hn hd (Zak hst.1 es) (Zab _ hst.2)) rd
theorem Zei {es : List Expr} {cp : Pos} (hst : Zaa es = true) (hz : es.length < 30) : ((backTo cp (starEach es X.env)).all (fun x => !x.1) && (backToKw cp (keywordEach [] X.env)).all (fun x => x.1.isSome) && decide (es.length + ([] : List Keyword).length + (if ([] : List Keyword).isEmpty then 0 else 1) < 30)) = true := by
 rw [Zii cp hst]
 show (true && true && decide (es.length < 30)) = true
 simpa using hz
theorem Z1w (g : Good p C ca k ks W X) {f : Mf} {o : Expr} {es : List Expr} {mo : MR} {ms : List ME} {ap cp : Pos} (ho : SR ca C W X o mo) (ha : SA ca C W X es ms) (hlen : es = [] -> ms = []) (hst : Zaa es = true) (hs : Zcb o = true) (hl : ap.endLine = cp.line) (hz : es.length < 30) :
  SE ca C W X (.Call (.Attribute o (mfN f) ap) es [] cp) (.mth f mo ms) := by
 refine SE.plain ?_ rfl
 have hb : ∀ nm, attributeBase o nm X.env (eval o X.env) = eval o X.env := fun nm => Zbz hs _
 have hline : (ap.endLine == cp.line) = true := by simpa using hl
 have ok := Z1c g.u1 f
 cases es with
 | nil =>
  have e0 := hlen rfl
  subst e0
  have rd : ∀ σ H Q, tC X.kw X.lc ca W (ev C (.mth f mo [])) σ H Q -> Yc1 X (mfT f) (rMt X.kw f) (tG X.kw X.lc ca W (RR X.kw) (evr C mo)) σ H Q := fun σ H Q ⟨φ, S, ρ, a, h⟩ => by
   simp only [ev, evs] at h
   refine Zag a h fun dx S1 φ1 H1 x st1 a1 rx h1 => ?_
   split at h1
   ·rename_i ty
    obtain ⟨d, e, q⟩ := Zas h1
    exact ⟨Zug (rx.rd a1.rel) ty, ⟨φ1, S1, _, [], d, a1.rel, rx.rd a1.rel, .nil, e, Zaf.step st1 q⟩⟩
   ·exact h1.elim
  cases f with
  | join => exact PE.mono (Zf6 PySem.F.plainAttrs_str PySem.F.slot_str_join PySem.F.type_str_join ok ho (hb _) hline) rd
  | upper => exact PE.mono (Zf6 PySem.F.plainAttrs_str PySem.F.slot_str_upper PySem.F.type_str_upper ok ho (hb _) hline) rd
  | strip => exact PE.mono (Zf6 PySem.F.plainAttrs_str PySem.F.slot_str_strip PySem.F.type_str_strip ok ho (hb _) hline) rd
  | partition => exact PE.mono (Zf6 PySem.F.plainAttrs_str PySem.F.slot_str_partition PySem.F.type_str_partition ok ho (hb _) hline) rd
  | index => exact PE.mono (Zf6 PySem.F.plainAttrs_list PySem.F.slot_list_index PySem.F.type_list_index ok ho (hb _) hline) rd
  | indexT => exact PE.mono (Zf6 PySem.F.plainAttrs_tuple PySem.F.slot_tuple_index PySem.F.type_tuple_index ok ho (hb _) hline) rd
 | cons e es =>
  have rd : ∀ σ H Q, tC X.kw X.lc ca W (ev C (.mth f mo ms)) σ H Q -> tBG X (mfT f) (rMt X.kw f) (tG X.kw X.lc ca W (RR X.kw) (evr C mo)) (tG X.kw X.lc ca W (RVs X.kw) (evs C ms)) σ H Q := fun σ H Q ⟨φ, S, ρ, a, h⟩ => by
   simp only [ev] at h
   refine Zag a h fun dx S1 φ1 H1 x st1 a1 rx h1 => ?_
   split at h1
   ·rename_i ty
    refine ⟨Zug (rx.rd a1.rel) ty, ?_⟩
    exact Zag a1 h1 fun ds S2 φ2 H2 vs st2 a2 rs h2 => by
     obtain ⟨d, e, q⟩ := Zas h2
     exact ⟨φ2, S2, _, _, d, a2.rel, (rx.mono a1.rel st2).rd a2.rel, rs.rr.rd a2.rel, e, Zaf.step (st1.trans st2) q⟩
   ·exact h1.elim
  have hf := Zei (X := X) (cp := cp) hst hz
  rw [Zaa, Qas, Qaa] at hst
  cases f with
  | join => exact PE.mono (Zc6 PySem.F.plainAttrs_str PySem.F.slot_str_join PySem.F.type_str_join ok ho ha (hb _) hf hline (Zak hst.1 es) (Zab _ hst.2)) rd
  | upper => exact PE.mono (Zc6 PySem.F.plainAttrs_str PySem.F.slot_str_upper PySem.F.type_str_upper ok ho ha (hb _) hf hline (Zak hst.1 es) (Zab _ hst.2)) rd
  | strip => exact PE.mono (Zc6 PySem.F.plainAttrs_str PySem.F.slot_str_strip PySem.F.type_str_strip ok ho ha (hb _) hf hline (Zak hst.1 es) (Zab _ hst.2)) rd
  | partition => exact PE.mono (Zc6 PySem.F.plainAttrs_str PySem.F.slot_str_partition PySem.F.type_str_partition ok ho ha (hb _) hf hline (Zak hst.1 es) (Zab _ hst.2)) rd
  | index => exact PE.mono (Zc6 PySem.F.plainAttrs_list PySem.F.slot_list_index PySem.F.type_list_index ok ho ha (hb _) hf hline (Zak hst.1 es) (Zab _ hst.2)) rd
  | indexT => exact PE.mono (Zc6 PySem.F.plainAttrs_tuple PySem.F.slot_tuple_index PySem.F.type_tuple_index ok ho ha (hb _) hf hline (Zak hst.1 es) (Zab _ hst.2)) rd
theorem RV.refE {K : KW} {φ : Nat -> Addr} {n r : Nat} {H : Hp} {v : V} (h : RV K φ n H (.ref r) v) : v = .ref (φ r) := by
 cases h; rfl
theorem Zwq (g : Good p C ca k ks W X) {o e f : Expr} {mo : MR} {mk md : ME} {ap cp : Pos} (ho : SR ca C W X o mo) (hk : SE ca C W X e mk) (hd : SE ca C W X f md) (h1 : Zah e = true) (h2 : Zah f = true) (hs : Zcb o = true) (hl : ap.endLine = cp.line) (ht : backTo cp (starEach [e, f] X.env) = [(false, eval e X.env), (false, eval f X.env)]) :
  SE ca C W X (.Call (.Attribute o "get" ap) [e, f] [] cp) (.dget mo mk md) := by
 refine SE.plain (PE.mono (pe_dget2 g.u1 ho hk.pe hd.pe ⟨Zbz hs _, Zei (by simp [Zaa, h1, h2]) (by simp), by simpa using hl, ht⟩) fun σ H Q ⟨φ, S, ρ, a, h⟩ => ?_) rfl
 simp only [ev] at h
 refine Zag a h fun dx S1 φ1 H1 x st1 a1 rx h1 => ?_
 split at h1
 ·rename_i kvs0 e0
  have r1 := rx.rd a1.rel
  rw [e0] at r1
  obtain ⟨b, ws0, rfl, hr0, _⟩ := r1.dict
  refine ⟨b, rfl, .inl ⟨ws0, hr0⟩, ?_⟩
  refine Zag a1 h1 fun dy S2 φ2 H2 y st2 a2 ry h2 => Zag a2 h2 fun dz S3 φ3 H3 z st3 a3 rz h3 => ?_
  have r3 := ((rx.mono a1.rel st2).mono a2.rel st3).rd a3.rel
  split at h3
  ·rename_i kvs e3
   rw [e3] at r3
   obtain ⟨b', ws, eb, hr, rs⟩ := r3.dict
   cases eb
   obtain ⟨d, e, q⟩ := Zas h3
   simp only [Qad] at e
   obtain ⟨kk, hkk, rfl⟩ := e
   have ey := RV.key hkk (.of (ry.mono a2.rel st3))
   subst ey
   refine ⟨_, DGet.rd hr, ?_⟩
   have q := Zaf.now (Zaf.step (st1.trans (st2.trans st3)) q) a3.rel (v := (valV ws kk).getD z)
   refine q ?_
   rcases rs.look kk with ⟨d, v, f1, f2, f3⟩ | ⟨f1, f2⟩
   ·rw [f1, f2]; exact f3
   ·rw [f1, f2]; exact rz
  ·exact h3.elim
 ·exact h1.elim
theorem Z1x (g : Good p C ca k ks W X) {t : Ty} {pos : Pos} (h : ks.gl (tyS t) = true) : PE X (.Name (tyS t) pos) (L2.tC (.ty (tyN t))) := pe_bltn (g.gl h) (g.ty t) (Zwi t) rfl (Zd8 (Zkn t)) (Zad (Zkn t))
theorem Z1y (g : Good p C ca k ks W X) {a : Expr} {ma : ME} {t : Ty} {p1 p2 pos : Pos} (ha : SE ca C W X a ma) (hst : Zah a = true) (h1 : ks.gl "isinstance" = true) (h2 : ks.gl (tyS t) = true) : SE ca C W X (.Call (.Name "isinstance" p1) [a, .Name (tyS t) p2] [] pos) (.isi ma t) := by
 refine SE.plain (PE.mono (pe_callB call_isi (g.gl h1) g.ii Zcm (pa_cons ha.pe (pa_cons (Z1x g h2) pa_nil rfl) (Zak hst _)) (by decide) (by decide) (Zak hst _) rfl) fun σ H Q ⟨φ, S, ρ, a, h⟩ => ?_) rfl
 simp only [ev] at h
 refine Zag a h fun dx S1 φ1 H1 x st1 a1 rx h1 => ?_
 split at h1
 ·rename_i ok
  exact ⟨x, .ty (tyN t), .type (tyD dx), .type (tyN t), Zni dx t, rfl, .ty _, RN.ty (K := X.kw) (.of rx) ok, Zuk X.kw _ ok t, Zaf.now (Zaf.step st1 h1) a1.rel (.bl _)⟩
 ·exact h1.elim
theorem Zwr {es : List Expr} {ms : List ME} {pos : Pos} (ha : SA ca C W X es ms) : SOb ca C W X (.List es pos) (.lst ms) := by
 refine PE.mono (pe_lst ha) fun σ H Q ⟨φ, S, ρ, a, h⟩ => ?_
 simp only [evO] at h
 refine Zag a h fun ds S1 φ1 H1 vs st1 a1 rs h1 => ?_
 split at h1
 ·rename_i hz
  exact ⟨by rw [rs.length]; exact hz, fun q hq => Zv7 a1.rel rs hq (Za8.step st1 h1)⟩
 ·exact h1.elim
theorem Z1z {e : Expr} {m : MO} (h : SOb ca C W X e m) (ht : Zge e = true) : SE ca C W X e (.frz m) := by
 refine SE.plain (PE.mono (PE.lk h) fun σ H Q ⟨φ, S, ρ, a, h⟩ => ?_) ht
 simp only [ev] at h
 rw [R.wp_bind] at h
 refine ⟨φ, S, ρ, a, R.wp_mono h (fun o S1 h1 φ1 H1 b st1 r1 ow hn => .inr ?_) fun _ _ z => z⟩
 obtain ⟨⟨u, hu, ru⟩, off⟩ := ow
 refine ⟨b, u, hu, ru.mut, fun od => ?_⟩
 have r2 := r1.chg (o' := .frz od u) hu ru.mut off
 have st2 : Step φ S H φ1 S1 (upd H1 b (.frz od u)) := ⟨st1.le, st1.ag, st1.new, fun x o e q => by
  rw [upd_ne (fun z => by rw [z, hn] at e; cases e)]; exact st1.keep x o e q, fun x o e => by
  by_cases z : x = b
  ·subst z; exact ⟨_, upd_same⟩
  ·rw [upd_ne z]; exact st1.trk x o e⟩
 refine h1 φ1 _ _ st2 r2 ?_
 have sb : Sub φ1 S1.nx H1 φ1 S1.nx (upd H1 b (.frz od u)) := Zbc hu ru.mut
 cases o with
 | lst ds => obtain ⟨vs, rfl, rs⟩ := ru; exact .wl upd_same (rs.sub sb)
 | dK ds => obtain ⟨vs, rfl, rs⟩ := ru; exact .wd upd_same (rs.sub sb)
 | dT ds => obtain ⟨vs, rfl, q, rs⟩ := ru; exact .wT upd_same (q.sub sb) (rs.sub sb)
 | ins c fs => exact ru.elim
theorem Z10 {e : Expr} {m : MO} (h : SOb ca C W X e m) (ht : Zge e = true) : SE ca C W X e (.sto m) := by
 refine SE.plain (PE.mono h fun σ H Q ⟨φ, S, ρ, a, h⟩ => ?_) ht
 simp only [ev] at h
 rw [R.wp_bind] at h
 refine ⟨φ, S, ρ, a, R.wp_mono h (fun o S1 h1 φ1 H1 b st1 r1 ow hn => ?_) fun _ _ z => z⟩
 refine h1 _ _ (.ref b) (st1.adopt (o := o) hn) (r1.adopt ⟨ow.ob.choose, ow.ob.choose_spec.1, ow.ob.choose_spec.2.s⟩ ow.off) ?_
 have := RV.ref (K := X.kw) (φ := phi φ1 S1.nx b) (H := H1) (n := S1.nx + 1) (Nat.lt_succ_self S1.nx)
 rw [Zcu] at this
 rw [Zf4]
 exact this
abbrev SKv (ca : CA) (C : Cl) (W : WX) (X : Cx) (pos : Pos) (keys : List (Option Expr)) (vals : List Expr) (ms : List ME) : Prop := ∃ trs, PPs X pos keys vals trs /\ (keys.all (·.isSome) = true /\ keys.length = vals.length /\ ms.length = 2 * keys.length) /\
 ∀ σ H (Q : List (V × V) -> Hp -> Prop), (tG X.kw X.lc ca W (RVs X.kw) (evs C ms) σ H fun vs H1 => ∀ ps, (ps.flatMap fun q => [q.1, q.2]) = vs -> Q ps H1) -> tPairs trs σ H Q
theorem Zws {pos : Pos} : SKv ca C W X pos [] [] [] := ⟨[], pps_nil, ⟨rfl, rfl, rfl⟩, fun σ H Q ⟨φ, S, ρ, a, h⟩ => by
 simp only [evs] at h
 exact h φ H [] a.rel.refl a.rel .nil [] rfl⟩
theorem Zrp {pos : Pos} {e f : Expr} {keys : List (Option Expr)} {vals : List Expr} {mk mv : ME} {ms : List ME} (hk : SE ca C W X e mk) (hv : SE ca C W X f mv) (hr : SKv ca C W X pos keys vals ms) : SKv ca C W X pos (some e :: keys) (f :: vals) (mk :: mv :: ms) := by
 obtain ⟨trs, r1, ⟨r2, r3, r4⟩, r5⟩ := hr
 refine ⟨_, pps_cons hk.pe hv.pe r1, ⟨by simpa using r2, by simp [r3], by simp [r4]; omega⟩, fun σ H Q ⟨φ, S, ρ, a, h⟩ => ?_⟩
 simp only [evs] at h
 show tC X.kw X.lc ca W (ev C mk) σ H _
 refine Zag a h fun dx S1 φ1 H1 x st1 a1 rx h1 => ?_
 rw [R.wp_bind] at h1
 show tC X.kw X.lc ca W (ev C mv) σ H1 _
 refine Zag a1 h1 fun dy S2 φ2 H2 y st2 a2 ry h2 => ?_
 refine r5 σ H2 _ ?_
 refine Zag a2 h2 fun ds S3 φ3 H3 vs st3 a3 rs h3 => ?_
 intro ps eq
 have z := h3 φ3 H3 (x :: y :: vs) (st1.trans (st2.trans st3)) a3.rel (.cons ((rx.mono a1.rel st2).mono a2.rel st3) (.cons (ry.mono a2.rel st3) rs))
 exact z ((x, y) :: ps) (by simp [<- eq])
theorem Zij {φ : Nat -> Addr} {n : Nat} {H : Hp} : ∀ {ds : List D} {qs : List (Key × D)} {vs : List V}, Ze7 ds = some qs -> RVs X.kw φ n H ds vs -> ∃ ps kvs, (ps.flatMap fun q => [q.1, q.2]) = vs /\ ps = kvs.map (fun kv => (kV kv.1, kv.2)) /\ RKs X.kw φ n H qs kvs
 | [], qs, _, e, .nil => by cases e; exact ⟨[], [], rfl, rfl, .nil⟩
 | [_], qs, _, e, _ => by simp [Ze7] at e
 | k :: v :: r, qs, _, e, .cons a (.cons (v := y) b t) => by
  simp only [Ze7, Qak, Qad] at e
  obtain ⟨kk, hk, ps, hp, rfl⟩ := e
  obtain ⟨ps', kvs, e1, e2, e3⟩ := Zij hp t
  have ek := RV.key hk (.of a)
  subst ek
  exact ⟨(kV kk, y) :: ps', (kk, y) :: kvs, by simp [e1], by simp [e2], .cons b e3⟩
theorem Step.aside {φ φ1 : Nat -> Addr} {S S1 : Store} {H H1 : Hp} {b : Addr} {u : HO} (st1 : Step φ S H φ1 S1 H1) (hn : H b = none) : Step φ S H φ1 S1 (upd H1 b u) := ⟨st1.le, st1.ag, st1.new, fun x o e q => by
 rw [upd_ne (fun z => by rw [z, hn] at e; cases e)]; exact st1.keep x o e q, fun x o e => by
 by_cases z : x = b
 ·subst z; exact ⟨_, upd_same⟩
 ·rw [upd_ne z]; exact st1.trk x o e⟩
theorem Zrq {pos : Pos} : SOb ca C W X (.Dict [] [] pos) .dctT := by
 refine PE.mono Zv4 fun σ H Q ⟨φ, S, ρ, a, h⟩ => ?_
 simp only [evO] at h
 exact fun q hq => Z0i (o := .dT []) a.rel ⟨[], rfl, (fun _ z => nomatch z), .nil⟩ hq h
theorem Zwt {pos : Pos} {keys : List (Option Expr)} {vals : List Expr} {ms : List ME} (h15 : keys.length <= 15) (hr : SKv ca C W X pos keys vals ms) : SOb ca C W X (.Dict keys vals pos) (.dct ms) := by
 obtain ⟨trs, r1, ⟨r2, r3, r4⟩, r5⟩ := hr
 cases keys with
 | nil =>
  have e1 : vals = [] := List.length_eq_zero_iff.mp (by simpa using r3.symm)
  have e2 : ms = [] := List.length_eq_zero_iff.mp (by simpa using r4)
  subst e1 e2
  refine PE.mono pe_dnewK fun σ H Q ⟨φ, S, ρ, a, h⟩ => ?_
  simp only [evO, evs] at h
  exact fun q hq => Z0i (o := .dK []) a.rel ⟨[], rfl, .nil⟩ hq h
 | cons k0 keys =>
  refine PE.mono (pe_disp r1 r2 r3 (by simp) h15) fun σ H Q ⟨φ, S, ρ, a, h⟩ => ?_
  simp only [evO] at h
  intro q hq
  refine r5 σ _ _ ?_
  obtain ⟨r0, st0⟩ := a.rel.lay (o' := .dK []) hq
  have off0 : ∀ i, i < S.nx -> φ i ≠ q := fun i hi z => by
   obtain ⟨w, e, _⟩ := a.rel.there hi
   rw [z, hq] at e; cases e
  have a0 := a.step st0 r0
  rw [R.wp_bind] at h
  refine ⟨φ, S, ρ, a0, R.wp_mono h (fun ds S1 h1 φ1 H1 vs st1 rr rs => ?_) fun _ _ z => z.step st0⟩
  obtain ⟨o, e, z⟩ := Zas h1
  simp only [Zf1, Qak] at e
  obtain ⟨qs, eq, e⟩ := e
  split at e
  ·rename_i hz
   cases e
   obtain ⟨ps, kvs, e1, e2, e3⟩ := Zij eq rs
   have keep : H1 q = some (.dK []) := st1.keep q _ upd_same (fun _ z => nomatch z) off0
   have off1 : ∀ i, i < S1.nx -> φ1 i ≠ q := fun i hi z => by
    by_cases hl : i < S.nx
    ·exact off0 i hl ((st1.ag i hl).symm.trans z)
    ·have := st1.new i (Nat.not_lt.mp hl) hi
     rw [z, upd_same] at this; cases this
   intro ps' e1'
   have same : ps' = ps := by
    have inj : ∀ (l m : List (V × V)), (l.flatMap fun q => [q.1, q.2]) = (m.flatMap fun q => [q.1, q.2]) -> l = m := by
     intro l
     induction l with
     | nil => intro m e; cases m with
      | nil => rfl
      | cons _ _ => simp at e
     | cons x l ih => intro m e; cases m with
      | nil => simp at e
      | cons y m =>
       simp only [List.flatMap_cons, List.cons_append, List.nil_append, List.cons.injEq] at e
       obtain ⟨h1, h2, h3⟩ := e
       rw [ih m h3, Prod.ext h1 h2]
    exact inj _ _ (e1'.trans e1.symm)
   subst same
   have hl : kvs.length <= 15 := by
    rw [e3.length]; exact hz
   refine ⟨keep, kvs, e2, hl, ?_⟩
   have mu : Mut (some (HO.dK [])) := trivial
   have sb : Sub φ1 S1.nx H1 φ1 S1.nx (upd H1 q (.dK (mergeK [] kvs))) := Zbc keep mu
   exact z φ1 _ q ((st0.trans st1).aside hq) (rr.chg keep mu off1) ⟨⟨_, upd_same, ⟨_, rfl, (RKs.nil.putAll e3).sub sb⟩⟩, off1⟩ hq
  ·cases e
end
end My
namespace PySem
open Sem (wp)
open AutoSeq1 (wpAny_loadPart')
set_option maxHeartbeats 1000000 in
theorem Zrr {v : Value} {o : Obj} {G : Heap -> Prop} (B : Begins v o G) :
  Meets (Builtin.«enumerate.__new__» ⟨[.type "enumerate", v], []⟩) (fun _ Z s => G s.heap /\
   Z (.ok (.ret (.ref (s.heap.push o).objs.size))) { s with heap := (s.heap.push o).push { cls := .type "enumerate", data := .fields #[.none, .bool false, .ref s.heap.objs.size, rawInt 0, .none, .none] } }) :=
 .of_wp fun prog w A Z s h => by
  obtain ⟨hp, gn, dr, tk, os⟩ := s
  obtain ⟨hG, h⟩ := h
  have isE := sub_enumerate
  have itr : ∀ {A' : Around} {E : Value -> Shared -> Prop} {Q : Value -> Shared -> Prop}, Q (.ref hp.objs.size) ⟨hp.push o, gn, dr, tk, os⟩ -> wpAny (model prog w) A' (pyIter v) Q E ⟨hp, gn, dr, tk, os⟩ := fun z => B.iter prog w _ _ ⟨hp, gn, dr, tk, os⟩ _ hG z
  wp_walk using itr
  refine wpAny_stack_any fun st => My.Qah ?_
  split
  ·rename_i cl _ _ _ _ _
   cases (cl == Value.type "enumerate") <;> (wp_walk using itr; exact ⟨_, rfl, h⟩)
  ·wp_walk using itr
   exact ⟨_, rfl, h⟩
theorem Zg1 {prog : Program} {w : World} {A : Around} {E : Value -> Shared -> Prop} {s : Shared} {v : Value} {o : Obj} {G : Heap -> Prop} {Q : Value -> Shared -> Prop} (B : Begins v o G) (hG : G s.heap)
  (h : ∀ h', IsEnum h' (s.heap.objs.size + 1) s.heap.objs.size 0 .none -> h'.get? s.heap.objs.size = some o -> (∀ b ob, s.heap.get? b = some ob -> h'.get? b = some ob) -> Q (.ref (s.heap.objs.size + 1)) { s with heap := h' }) :
  wpAny (model prog w) A (call (.type "enumerate") [v]) Q E s := by
 apply callType_new F.called_enumerate (by decide) (F.typeCall_enumerate_1 _) (F.newCall_enumerate_1 _) (fun obj => F.args_object_init_2 obj _) F.entry_enumerate_new (Zrr B)
 refine ⟨hG, ?_⟩
 have sz : (s.heap.push o).objs.size = s.heap.objs.size + 1 := Heap.size_push ..
 show _ /\ _
 rw [sz]
 have isE : IsEnum ((s.heap.push o).push { cls := .type "enumerate", data := .fields #[.none, .bool false, .ref s.heap.objs.size, rawInt 0, .none, .none] }) (s.heap.objs.size + 1) s.heap.objs.size 0 .none := by
  have z := My.Qa0 (s.heap.push o) (o := { cls := .type "enumerate", data := .fields #[.none, .bool false, .ref s.heap.objs.size, rawInt 0, .none, .none] }) rfl
  rw [sz] at z
  exact z
 exact ⟨⟨_, isE, rfl⟩, h _ isE (My.Qam _ (My.Qa0 _ B.free)) fun b ob z => My.Qam _ (My.Qam _ z)⟩
end PySem
namespace My
open PySem PySem.Spec PyProof.Rows L2
variable [CP] [TC]
def Z9h (K : PySem.W.Frag) (a : Addr) : It :=
 ⟨fun i H => ∃ xs x, SqT K H a xs /\ xs[i]? = some x, fun i H v H' => ∃ T x, v = .ref T /\ H T = none /\ H' = upd H T (.tup [.int (i : Nat), x]) /\ ∀ ys, SqT K H a ys -> ys[i]? = some x, fun i H => ∃ xs, SqT K H a xs /\ xs.length <= i⟩
theorem Zmq {P : Program} {w : World} {K : PySem.W.Frag} {elts : List Expr} {kk : Nat} {tpos : Pos} (a e it : Addr) :
  Turn P w K (.Tuple elts kk tpos) (Z9h K a) [e, it] e (fun i h => (∃ old, IsEnum h e it (i : Nat) old) /\ h.IsTupleIter it a i /\ e ≠ it) where
 mem := by simp
 obj := fun i h st b hb => by
  obtain ⟨⟨old, he⟩, ⟨o, ho, hc, hd⟩, _⟩ := st
  have hb' : b = e \/ b = it := by simpa using hb
  rcases hb' with z | z
  ·rw [z]; exact ⟨_, he, fun v q => nomatch q⟩
  ·rw [z]; exact ⟨o, ho, fun v q => by rw [hd] at q; cases q⟩
 keep := fun i h h' st kp => by
  obtain ⟨⟨old, he⟩, hi, hne⟩ := st
  exact ⟨⟨old, kp e (by simp) _ he⟩, hi.at fun o q => kp it (by simp) o q, hne⟩
 item := by
  intro X hP hw hK hc i pins s σ H E I hf st hg
  subst hP hw hK
  obtain ⟨⟨old, he⟩, hit, hne⟩ := st
  obtain ⟨xs, x, hq, hx⟩ := hg
  obtain ⟨its, rv, pl, hz⟩ := I.tuple hq
  obtain ⟨u, hu, ru⟩ := rv.get hx
  have hil : i < its.length := (Qay.mp hu).1
  have hel : e < s.heap.objs.size := Heap.lt_size he
  have hitl : it < s.heap.objs.size := by
   obtain ⟨_, q, _⟩ := hit
   exact Heap.lt_size q
  have nat : a ≠ it := fun z => by
   obtain ⟨o1, h1, c1, _⟩ := pl
   obtain ⟨o2, h2, c2, _⟩ := hit
   rw [z, h2] at h1
   cases h1
   rw [c1] at c2
   exact absurd (Value.type.inj c2) (by decide)
  have isT : s.heap.IsTuple a its.toArray := pl
  have hea : e ≠ a := fun z => by
   obtain ⟨o1, h1, c1, _⟩ := pl
   rw [<- z] at h1
   have h2 : s.heap.get? e = some _ := he
   rw [h1] at h2
   cases h2
   exact absurd (Value.type.inj c1) (by decide)
  refine wpAny_pyNext_enum_itemD (Draws.tuple (A := X.A.in1) (I.ok.hd hc) it a nat its.toArray) he ⟨hit, isT⟩ (by simpa using hil) hne (by simp [hne, hea]) fun y h' tk hy ho hst hT hsz hk => ?_
  have ey : y = u := by
   have hy' : its[i]? = some y := by simpa using hy
   rw [hu] at hy'; exact (Option.some.inj hy').symm
  subst ey
  refine ⟨_, rfl, wpAny_letOwnedTupleGo_enum (s := { s with heap := h', toks := tk + 1 }) ho fun h'' he' sb => ?_⟩
  have hT2 : h''.get? s.heap.objs.size = some { cls := .type "tuple", data := .seq #[.int i tk, y] } := (sb.2 _ (Nat.ne_of_gt hel)).trans hT
  have new : ObjOk X.prog X.w (upd H s.heap.objs.size (.tup [.int (i : Nat), x])) h'' s.heap.objs.size (.tup [.int (i : Nat), x]) :=
   ⟨by show 2 <= sizeLine; decide, [.int i tk, y], .cons ⟨_, rfl⟩ (.cons ru .nil), ⟨_, hT2, rfl, _, rfl⟩⟩
  have I1 : Inv X pins σ (upd H s.heap.objs.size (.tup [.int (i : Nat), x])) { s with heap := h'', toks := tk + 1 } :=
   I.turnedNew (ch := [e, it]) (fun b ob hb q => (sb.2 b (fun z => hb (by simp [z]))).trans (hk b ob (fun z => hb (by simp [z])) (fun z => hb (by simp [z])) q)) hf (Qao _) new
  refine ⟨.ref s.heap.objs.size, _, I1, rfl, ⟨_, x, rfl, I.hok.fresh (Qao _), rfl, fun ys hy => by rw [I.tuple_inj hy hq]; exact hx⟩, ⟨⟨y, ?_⟩, hst.1.at fun o q => (sb.2 it (Ne.symm hne)).trans q, hne⟩, fun b hb => ?_⟩
  ·have e1 : ((i + 1 : Nat) : Int) = (i : Int) + 1 := by omega
   rw [e1]; exact he'
  ·have hb' : b < s.heap.objs.size := by
    have z : b = e \/ b = it := by simpa using hb
    rcases z with z | z
    ·rw [z]; exact hel
    ·rw [z]; exact hitl
   rw [upd_ne (Qbg hb')]
   exact (hf b hb).1
 done := by
  intro X hP hw hK hc i pins s σ H E I hf st hg
  subst hP hw hK
  obtain ⟨⟨old, he⟩, hit, hne⟩ := st
  obtain ⟨xs, hq, hx⟩ := hg
  obtain ⟨its, rv, pl, hz⟩ := I.tuple hq
  obtain ⟨f0, f1, f2, f3, f4, f5⟩ := hf it (by simp)
  have isT : s.heap.IsTuple a its.toArray := pl
  have none_at : its.toArray[i]? = none := by
   have hl := rv.length
   simp; omega
  have dr : Draws X.prog X.w X.A.in1 it [it, a] 0 (fun _ _ => False) (fun _ h => h.IsTupleIter it a i /\ h.IsTuple a its.toArray) := {
   live := fun _ _ z => let ⟨o, ho, _⟩ := z.1; ⟨o, ho⟩
   frame := fun _ _ _ z kp => ⟨z.1.at fun o q => kp it (by simp) o q, z.2.at fun o q => kp a (by simp) o q⟩
   item := fun j _ _ _ hj _ _ => absurd hj (Nat.not_lt_zero j)
   done := fun s Q E z hE => wpAny_nextOf_tuple_end (I.ok.hd hc) z.1 z.2 none_at hE }
  exact wpAny_pyNext_enum_endD dr he ⟨hit, isT⟩ fun h' eb => ⟨rfl, I.turned (t' := s.toks) (fun b o hb q => eb b o hb q) f0 f1 f3 f4 f5⟩
 self := fun A i s Q E st h => by
  obtain ⟨⟨_, he⟩, _⟩ := st
  exact wpAny_pyIter_enum he h
def Zun (X : Cx) (φ0 : Nat -> Addr) (n0 : Nat) (H0 : Hp) (ds : List D) (J : It) : Prop :=
 ∃ G Y, Walk J ds.length G Y /\ ∀ φ S H, Sub φ0 n0 H0 φ S.nx H -> RelS X.kw φ S H -> G H /\ ∀ i x H', i < ds.length -> Y i H x H' ->
  ∃ d, ds[i]? = some d /\ ((H' = H /\ RV X.kw φ S.nx H d x) \/ ∃ T vs, H T = none /\ H' = upd H T (.tup vs) /\ RV X.kw φ S.nx H' d x)
abbrev tI (X : Cx) (L : LC) (ca : CA) (W : WX) (c : Ev -> Store -> R Xn (List D)) : TI := fun σ H R =>
 ∃ φ S ρ, At X.kw L φ S ρ σ H /\ (c ρ S).wp (fun q S' => ∀ φ' H' J, Step φ S H φ' S' H' -> RelS X.kw φ' S' H' -> Zun X φ' S'.nx H' q J -> R J H') (Zck X.kw ca φ S H fun cls dd H' => W cls dd σ H')
abbrev SI (ca : CA) (C : Cl) (W : WX) (X : Cx) (tg e : Expr) (m : MI) : Prop := PI X tg e (tI X X.lc ca W (evi C m))
def Z6s (P : Program) (w : World) (d : Addr) (o : Obj) (ks : List (NestedKey × Addr × V)) : It :=
 ⟨fun i H => H d = some (.frz o (XT P w d ks)) /\ i < ks.length, fun i H x H' => H' = H /\ ∃ p, ks[i]? = some p /\ x = .ref p.2.1, fun i H => H d = some (.frz o (XT P w d ks)) /\ ks.length <= i⟩
theorem Zwu {P : Program} {w : World} {ks : List (NestedKey × Addr × V)} {xs : List (NestedKey × Addr × Value)} {es : Array DictEntry} (r : Paired (fun (p : NestedKey × Addr × V) (q : NestedKey × Addr × Value) => p.1 = q.1 /\ p.2.1 = q.2.1 /\ RelV p.2.2 q.2.2) ks xs)
  (he : es.toList = xs.map (entryOfKey (nestedKind P w))) : es.size = ks.length /\ ∀ (i : Nat) (p : NestedKey × Addr × V), ks[i]? = some p -> ∃ en : DictEntry, es[i]? = some en /\ en.key = .ref p.2.1 := by
 have l : ks.length = xs.length := Paired.length r
 have l2 : es.size = xs.length := by rw [<- Array.length_toList, he, Qal]
 refine ⟨by omega, fun i p hp => ?_⟩
 have go : ∀ {ks : List (NestedKey × Addr × V)} {xs : List (NestedKey × Addr × Value)} (i : Nat), Paired (fun (p : NestedKey × Addr × V) (q : NestedKey × Addr × Value) => p.1 = q.1 /\ p.2.1 = q.2.1 /\ RelV p.2.2 q.2.2) ks xs -> ∀ p, ks[i]? = some p -> ∃ q, xs[i]? = some q /\ p.2.1 = q.2.1 := by
  intro ks xs i r
  induction r generalizing i with
  | nil => intro q h; cases h
  | @cons p q ps qs h t ih =>
   intro q' h'
   cases i with
   | zero => cases h'; exact ⟨q, rfl, h.2.1⟩
   | succ i => exact ih i q' h'
 obtain ⟨q, hq, e⟩ := go i r p hp
 refine ⟨entryOfKey (nestedKind P w) q, ?_, ?_⟩
 ·rw [<- Qbl, he, Qar, hq]; rfl
 ·rw [e]; rfl
theorem Z9i {X : Cx} {pins : List (Addr × Obj)} {σ : L2.St} {H : Hp} {s : Shared} {d : Addr} {o : Obj} {ks : List (NestedKey × Addr × V)} (I : Inv X pins σ H s) (h : H d = some (.frz o (XT X.prog X.w d ks))) :
  (d == sysModules) = false /\ s.heap.get? d = some o /\ o.ExactDict /\ ∃ (es : Array DictEntry) (ep : Nat), o.data = .dict es ep /\ es.size = ks.length /\
   ∀ (i : Nat) (p : NestedKey × Addr × V), ks[i]? = some p -> ∃ en : DictEntry, es[i]? = some en /\ en.key = .ref p.2.1 := by
 obtain ⟨hd, ⟨z, hs, xs, rel, o', es, ep, ho, hx, hdt, he, _⟩, _⟩ := I.hok d _ h
 rw [hd] at ho
 cases ho
 obtain ⟨h1, h2⟩ := Zwu rel he
 exact ⟨hs, hd, hx, es, ep, hdt, h1, h2⟩
theorem Zmr {P : Program} {w : World} {K : PySem.W.Frag} {tg : Expr} {d : Addr} {o : Obj} {es : Array DictEntry} {ep : Nat} {ks : List (NestedKey × Addr × V)} (it : Addr) (hod : o.data = .dict es ep) : Turn P w K tg (Z6s P w d o ks) [it] it (fun i h => h.IsKeyIter it d i ks.length ep) where
 mem := by simp
 obj := fun i h st b hb => by
  have e : b = it := by simpa using hb
  subst e
  obtain ⟨oi, e, c, dd⟩ := st
  exact ⟨oi, e, fun v z => by rw [dd] at z; cases z⟩
 keep := fun i h h' st k => st.at fun oi e => k it (by simp) oi e
 item := by
  intro X hP hw hK hc i pins s σ H E I hf st hg
  subst hP hw hK
  obtain ⟨hd, hi⟩ := hg
  obtain ⟨f0, f1, f2, f3, f4, f5⟩ := hf it (by simp)
  obtain ⟨hs, hgd, hx, es', ep', hdt, hsz, ent⟩ := Z9i I hd
  obtain ⟨rfl, rfl⟩ := dict_ep hod hdt
  obtain ⟨p, hkv⟩ : ∃ p, ks[i]? = some p := ⟨ks[i], Qa8 hi⟩
  obtain ⟨en, hen, hkey⟩ := ent i p hkv
  refine next_key_item st hgd hdt hsz hen fun h' st' sb => ?_
  have I1 : Inv X pins σ H { s with heap := h' } := I.turned (t' := s.toks) (fun b ob hb e => (sb.2 b hb).trans e) f0 f1 f3 f4 f5
  obtain ⟨oi, e, c, dd⟩ := id st'
  exact ⟨en.key, rfl, go_of (s := { s with heap := h' }) e c dd (by decide) ⟨.ref p.2.1, H, I1, hkey, ⟨rfl, p, hkv, rfl⟩, st', fun b hb => (hf b hb).1⟩⟩
 done := by
  intro X hP hw hK hc i pins s σ H E I hf st hg
  subst hP hw hK
  obtain ⟨hd, hi⟩ := hg
  obtain ⟨f0, f1, f2, f3, f4, f5⟩ := hf it (by simp)
  obtain ⟨hs, hgd, hx, es', ep', hdt, hsz, ent⟩ := Z9i I hd
  obtain ⟨rfl, rfl⟩ := dict_ep hod hdt
  exact next_key_end (I.ok.hd hc) st hgd hdt hsz hi fun h' eb => ⟨rfl, I.turned (t' := s.toks) (fun b ob hb e => eb b ob hb e) f0 f1 f3 f4 f5⟩
 self := fun A i s Q E st h => by
  refine wpAny_pyIter_slot st.typeIs F.slot_dict_keyiterator_iter (wpAny_call_entry F.slot_dict_keyiterator_iter st.typeIs F.entry_dict_keyiterator_iter ?_ (F.args_dict_keyiterator_iter_1 _))
  show wpAny _ _ (ret (.ref it)) _ _ s
  exact Qah ⟨_, rfl, "dict_keyiterator", _, st.typeIs, F.slot_dict_keyiterator_next.lookup, h⟩
theorem Zms {P : Program} {w : World} {d : Addr} {o : Obj} {ks : List (NestedKey × Addr × V)} : Walk (Z6s P w d o ks) ks.length (fun H => H d = some (.frz o (XT P w d ks))) (fun i H x H' => H' = H /\ ∃ p, ks[i]? = some p /\ x = .ref p.2.1) :=
 ⟨fun _ _ hi q => ⟨q, hi⟩, fun _ q => ⟨q, Qao _⟩, fun _ _ _ _ _ _ y => y⟩
section
variable {p : Pg} {C : Cl} {ca : CA} {k : Nat} {ks : Ks} {W : WX} {X : Cx} {tg e : Expr} {m : ME}
theorem PI.mono {t t' : TI} (h : PI X tg e t) (q : ∀ σ H R, t' σ H R -> t σ H R) : PI X tg e t' := ⟨fun pins s σ H R I z => h.run pins s σ H R I (q σ H R z)⟩
theorem Zcv {α : Type} {l : List α} {i : Nat} (h : i < l.length) : ∃ d, l[i]? = some d := ⟨l[i], by simp [h]⟩
def Yf6 (K : PySem.W.Frag) (t : TE) : TI := fun σ H R => t σ H fun x H1 => ∃ a, x = .ref a /\ (((∃ xs, SqT K H1 a xs) /\ R (Itt K a) H1) \/ ((∃ xs, SqL K H1 a xs) /\ R (Itl K a) H1))
theorem Z11 {t : TE} (he : PE X e t) : PI X tg e (Yf6 X.kw t) := by
 constructor
 intro pins s σ H R I h
 apply thn (he.run pins s σ H _ I h)
 rintro v s1 ⟨x, H1, I1, r1, a, ex, hq⟩
 subst ex
 cases r1
 rcases hq with ⟨⟨xs, hq⟩, q⟩ | ⟨⟨xs, hq⟩, q⟩
 ·obtain ⟨its, _, pl, _⟩ := I1.tuple hq
  apply wpAny_pyIter_tuple (show s1.heap.IsTuple a its.toArray from pl)
  exact pi_one (tk := s1.toks) I1 _ (turn_tuple a _) ⟨_, Qa0 _ rfl, rfl, rfl⟩ q
 ·obtain ⟨its, _, pl, _⟩ := I1.list hq
  apply wpAny_pyIter_list pl.isList
  exact pi_one (tk := s1.toks) I1 _ (turn_list a _) ⟨_, Qa0 _ rfl, rfl, rfl⟩ q
section
variable {φ0 : Nat -> Addr} {n0 : Nat} {H0 : Hp}
theorem Zoc {a : Addr} {ds : List D} {vs : List V} (sq : ∀ φ n H, Sub φ0 n0 H0 φ n H -> SqT X.kw H a vs) (rs : RVs X.kw φ0 n0 H0 ds vs) : Zun X φ0 n0 H0 ds (Itt X.kw a) := by
 refine ⟨fun H => SqT X.kw H a vs, YAt vs, rs.length ▸ walk_tup, fun φ S H sb r => ⟨sq φ S.nx H sb, fun i x H' hi y => ?_⟩⟩
 obtain ⟨rfl, ex⟩ := y
 obtain ⟨d, ed⟩ := Zcv hi
 obtain ⟨v, ev, rv⟩ := (rs.sub sb).get ed
 rw [ex] at ev; cases ev
 exact ⟨d, ed, .inl ⟨rfl, rv⟩⟩
theorem Z12 {a : Addr} {ds : List D} {vs : List V} (sq : ∀ φ n H, Sub φ0 n0 H0 φ n H -> SqL X.kw H a vs) (rs : RVs X.kw φ0 n0 H0 ds vs) : Zun X φ0 n0 H0 ds (Itl X.kw a) := by
 refine ⟨fun H => SqL X.kw H a vs, YAt vs, rs.length ▸ walk_list, fun φ S H sb r => ⟨sq φ S.nx H sb, fun i x H' hi y => ?_⟩⟩
 obtain ⟨rfl, ex⟩ := y
 obtain ⟨d, ed⟩ := Zcv hi
 obtain ⟨v, ev, rv⟩ := (rs.sub sb).get ed
 rw [ex] at ev; cases ev
 exact ⟨d, ed, .inl ⟨rfl, rv⟩⟩
theorem Zuo {lo : Int} {n : Nat} : Zun X φ0 n0 H0 (Zbk lo n) (Itr lo n) := by
 have hl : (Zbk lo n).length = n := by simp [Zbk]
 refine ⟨fun _ => True, YFn fun i => .int (lo + i), ?_, fun φ S H sb r => ⟨trivial, fun i x H' hi y => ?_⟩⟩
 ·rw [hl]; exact walk_range
 ·obtain ⟨rfl, rfl⟩ := y
  rw [hl] at hi
  exact ⟨.int (lo + i), by simp [Zbk, hi], .inl ⟨rfl, .int _⟩⟩
theorem Z13 {z : Str} : Zun X φ0 n0 H0 (Zl8 z) (L2.Its z) := by
 have hl : (Zl8 z).length = z.cps.size := by simp [Zl8]
 refine ⟨fun _ => True, (fun i H v H' => H' = H /\ ∃ c, z.cps[i]? = some c /\ v = .str ⟨#[c]⟩), ?_, fun φ S H sb r => ⟨trivial, fun i x H' hi y => ?_⟩⟩
 ·rw [hl]; exact walk_str
 ·obtain ⟨rfl, c, hc, rfl⟩ := y
  refine ⟨.str ⟨#[c]⟩, ?_, .inl ⟨rfl, .str _⟩⟩
  simp [Zl8, hc]
theorem RV.ofKey {K : KW} {φ : Nat -> Addr} {n : Nat} {H : Hp} (k : Key) : RV K φ n H (ofKey k) (kV k) := by
 cases k with
 | inl i => exact .int i
 | inr s => exact .str s
theorem RKs.keysAt {K : KW} {φ : Nat -> Addr} {n : Nat} {H : Hp} : ∀ {x : List (Key × D)} {y : List (Key × V)} {i : Nat} {k : Key} {v : V}, RKs K φ n H x y -> y[i]? = some (k, v) -> ∃ d, x[i]? = some (k, d)
 | _, _, _, _, _, .nil, e => by simp at e
 | _, _, 0, _, _, .cons _ _, e => by
  simp at e
  obtain ⟨rfl, rfl⟩ := e
  exact ⟨_, rfl⟩
 | _, _, i + 1, k, v, .cons _ t, e => by
  obtain ⟨d, h⟩ := RKs.keysAt (i := i) t (by simpa using e)
  exact ⟨d, by simpa using h⟩
theorem Zrs {d : Addr} {od : Obj} {kvs : List (NestedKey × D)} {ks : List (NestedKey × Addr × V)} (hd : H0 d = some (.frz od (XT X.prog X.w d ks))) (ka : KA H0 ks) (rs : RTs X.kw φ0 n0 H0 kvs (ks.map noB)) : Zun X φ0 n0 H0 (kvs.map fun q => Zq0 q.1) (Z6s X.prog X.w d od ks) := by
 refine ⟨fun H => H d = some (.frz od (XT X.prog X.w d ks)), (fun i H x H' => H' = H /\ ∃ p, ks[i]? = some p /\ x = .ref p.2.1), ?_, fun φ S H sb r => ⟨sb.hf _ _ _ hd, fun i x H' hi y => ?_⟩⟩
 ·have hl : (kvs.map fun q => My.Zq0 q.1).length = ks.length := by
   have := (Zd6 rs ka).length
   simp only [Qal] at this ⊢
   omega
  rw [hl]; exact Zms
 ·obtain ⟨rfl, p, hp, rfl⟩ := y
  have rv := Zd6 rs ka
  obtain ⟨x, hx⟩ := Zcv hi
  obtain ⟨v, ev, r2⟩ := (rv.sub sb).get hx
  rw [Qar, hp] at ev
  cases ev
  exact ⟨x, hx, .inl ⟨rfl, r2⟩⟩
theorem Zwv {d : Addr} {od : Obj} {kvs : List (Key × D)} {ws : List (Key × V)} (hd : H0 d = some (.frz od (.dK ws))) (rs : RKs X.kw φ0 n0 H0 kvs ws) : Zun X φ0 n0 H0 (kvs.map fun q => ofKey q.1) (Itk d od ws) := by
 refine ⟨fun H => H d = some (.frz od (.dK ws)), (fun i H x H' => H' = H /\ ∃ k v, ws[i]? = some (k, v) /\ x = kV k), ?_, fun φ S H sb r => ⟨sb.hf _ _ _ hd, fun i x H' hi y => ?_⟩⟩
 ·have hl : (kvs.map fun q => My.ofKey q.1).length = ws.length := by rw [Qal, rs.length]
  rw [hl]; exact walk_keys
 ·obtain ⟨rfl, k, v, hk, rfl⟩ := y
  obtain ⟨d', hd'⟩ := rs.keysAt hk
  exact ⟨My.ofKey k, by simp [hd'], .inl ⟨rfl, RV.ofKey k⟩⟩
end
theorem Z14 (he : SE ca C W X e m) : SI ca C W X tg e (.seq m) := by
 refine PI.mono (Z11 he.pe) fun σ H Rr ⟨φ, S, ρ, a, h⟩ => ?_
 simp only [evi] at h
 refine Zag a h fun d S1 φ1 H1 x st1 a1 rx h1 => ?_
 obtain ⟨xs, e, h1⟩ := Zas h1
 cases rx with
 | tup hx rs => cases e; exact ⟨_, rfl, .inl ⟨⟨_, hx.sq⟩, h1 φ1 H1 _ st1 a1.rel (Zoc (fun φ n H sb => (hx.sub sb).sq) rs)⟩⟩
 | kt hx rs => cases e; exact ⟨_, rfl, .inl ⟨⟨_, SqT.of hx⟩, h1 φ1 H1 _ st1 a1.rel (Zoc (fun φ n H sb => SqT.of (sb.ht _ _ hx)) rs)⟩⟩
 | wt hx rs => cases e; exact ⟨_, rfl, .inl ⟨⟨_, hx.sq⟩, h1 φ1 H1 _ st1 a1.rel (Zoc (fun φ n H sb => hx.sq) rs)⟩⟩
 | ks hx rs =>
  cases e
  refine ⟨_, rfl, .inr ⟨⟨_, hx.sq⟩, h1 φ1 H1 _ st1 a1.rel (Z12 (fun φ n H sb => ?_) rs)⟩⟩
  rcases hx with ⟨o, hx⟩ | hx
  ·exact KL.sq (.inl ⟨o, sb.hf _ _ _ hx⟩)
  ·exact KL.sq (.inr hx)
 | wl hx rs => cases e; exact ⟨_, rfl, .inr ⟨⟨_, SqL.rd (.inr ⟨_, hx⟩)⟩, h1 φ1 H1 _ st1 a1.rel (Z12 (fun φ n H sb => SqL.rd (.inr ⟨_, sb.hf _ _ _ hx⟩)) rs)⟩⟩
 | _ => cases e
theorem Z15 (he : SE ca C W X e m) : SI ca C W X tg e (.str m) := by
 refine PI.mono (pi_str he.pe) fun σ H Rr ⟨φ, S, ρ, a, h⟩ => ?_
 simp only [evi] at h
 refine Zag a h fun d S1 φ1 H1 x st1 a1 rx h1 => ?_
 obtain ⟨xs, e, h1⟩ := Zas h1
 cases rx with
 | str z => cases e; exact ⟨_, rfl, h1 φ1 H1 _ st1 a1.rel Z13⟩
 | _ => cases e
def Z16 (P : Program) (w : World) (t : TE) : TI := fun σ H R => t σ H fun x H1 => ∃ d od, x = .ref d /\ ((∃ kvs, H1 d = some (.frz od (.dK kvs)) /\ R (Itk d od kvs) H1) \/ ∃ ks, H1 d = some (.frz od (XT P w d ks)) /\ R (Z6s P w d od ks) H1)
theorem Zrt {t : TE} (he : PE X e t) : PI X tg e (Z16 X.prog X.w t) := by
 constructor
 intro pins s σ H Rr I h
 apply thn (he.run pins s σ H _ I h)
 rintro v s1 ⟨x, H1, I1, r1, d, od, rfl, ⟨kvs, hd, q⟩ | ⟨ks, hd, q⟩⟩
 ·cases r1
  obtain ⟨hs, hgd, hx, es, ep, vs, hdt, hsz, kv, hm⟩ := I1.frzK hd
  apply iter_keys hs hgd hx hdt
  apply pi_one (tk := s1.toks) I1 _ (turn_keys _ hdt) ⟨_, Qa0 _ rfl, rfl, _⟩ q
  rw [hsz]; rfl
 ·cases r1
  obtain ⟨hs, hgd, hx, es, ep, hdt, hsz, ent⟩ := Z9i I1 hd
  apply iter_keys hs hgd hx hdt
  apply pi_one (tk := s1.toks) I1 _ (Zmr _ hdt) ⟨_, Qa0 _ rfl, rfl, _⟩ q
  rw [hsz]; rfl
theorem Zww (he : SE ca C W X e m) : SI ca C W X tg e (.keys m) := by
 refine PI.mono (Zrt he.pe) fun σ H Rr ⟨φ, S, ρ, a, h⟩ => ?_
 simp only [evi] at h
 refine Zag a h fun d S1 φ1 H1 x st1 a1 rx h1 => ?_
 obtain ⟨xs, e, h1⟩ := Zas h1
 cases rx with
 | wd hx rs => cases e; exact ⟨_, _, rfl, .inl ⟨_, hx, h1 φ1 H1 _ st1 a1.rel (Zwv hx rs)⟩⟩
 | wT hx ka rs => cases e; exact ⟨_, _, rfl, .inr ⟨_, hx, h1 φ1 H1 _ st1 a1.rel (Zrs hx ka rs)⟩⟩
 | _ => cases e
theorem Zgh {lo hi : Int} {xs : List D} (h : Zc5 lo hi = some xs) : (-(2 ^ 62) <= lo /\ lo < 2 ^ 62 /\ -(2 ^ 62) <= hi /\ hi < 2 ^ 62) /\ xs = Zbk lo (hi - lo).toNat := by
 unfold Zc5 at h
 split at h
 ·rename_i hz
  exact ⟨hz, (Option.some.inj h).symm⟩
 ·cases h
theorem Zwx (g : Good p C ca k ks W X) {p1 pos : Pos} {a : Expr} {m : ME} (hst : Zah a = true) (h1 : ks.gl "range" = true) (ha : SE ca C W X a m) : SI ca C W X tg (.Call (.Name "range" p1) [a] [] pos) (.rng1 m) := by
 refine PI.mono (pi_range1 (g.gl h1) g.rg (Zff hst ha Zkp) (Zak hst [])) fun σ H Rr ⟨φ, S, ρ, a, h⟩ => ?_
 simp only [evi] at h
 refine ⟨φ, S, ρ, a, ?_⟩
 simp only [evs, R.wp_bind] at h ⊢
 refine R.wp_mono h (fun d S1 h1 φ1 H1 vs st1 r1 rs => ?_) fun _ _ z => z
 obtain ⟨v, rfl, rv⟩ := rs.one
 cases rv with
 | int j =>
  obtain ⟨xs, e, h1⟩ := Zas h1
  obtain ⟨hz, rfl⟩ := Zgh e
  refine ⟨j, rfl, hz.2.2.1, hz.2.2.2, h1 φ1 H1 _ st1 r1 ?_⟩
  have e : (j - 0).toNat = j.toNat := by simp
  rw [e]
  exact Zuo
 | _ => exact h1.elim
theorem Zwy (g : Good p C ca k ks W X) {p1 pos : Pos} {a b : Expr} {m m' : ME} (hst : Zah a = true) (hst' : Zah b = true) (h1 : ks.gl "range" = true) (ha : SE ca C W X a m) (hb : SE ca C W X b m') : SI ca C W X tg (.Call (.Name "range" p1) [a, b] [] pos) (.rng2 m m') := by
 refine PI.mono (pi_range2 (g.gl h1) g.rg (Zff hst ha (Zff hst' hb Zkp)) (by rw [Zak hst, Zak hst']; rfl) (by rw [Zak hst']; rfl)) fun σ H Rr ⟨φ, S, ρ, a, h⟩ => ?_
 simp only [evi] at h
 refine ⟨φ, S, ρ, a, ?_⟩
 simp only [evs, R.wp_bind] at h ⊢
 refine R.wp_mono h (fun d S1 h1 => R.wp_mono h1 (fun d' S2 h2 φ1 H1 vs st1 r1 rs => ?_) fun _ _ z => z) fun _ _ z => z
 cases rs with
 | cons rx rs =>
  obtain ⟨v, rfl, rv⟩ := rs.one
  cases rx with
  | int i =>
   cases rv with
   | int j =>
    obtain ⟨xs, e, h2⟩ := Zas h2
    obtain ⟨hz, rfl⟩ := Zgh e
    exact ⟨i, j, rfl, hz, h2 φ1 H1 _ st1 r1 Zuo⟩
   | _ => exact h2.elim
  | _ => exact h2.elim
def Z17 (K : PySem.W.Frag) (ta : TA) : TI := fun σ H Rr => ta σ H fun vs H1 => ∃ a, vs = [.ref a] /\ (((∃ xs, SqT K H1 a xs) /\ Rr (Z9h K a) H1) \/ ((∃ xs, SqL K H1 a xs) /\ Rr (Ite K a) H1))
theorem Zru {e : Expr} {ta : TA} {p1 pos tpos : Pos} {elts : List Expr} {kk : Nat} (hg : Gl X "enumerate") (hm : X.mg "enumerate" = none) (ha : PA X [e] ta) (hs : starEach [e] X.env = [(false, eval e X.env)]) :
  PI X (.Tuple elts kk tpos) (.Call (.Name "enumerate" p1) [e] [] pos) (Z17 X.kw ta) := by
 constructor
 intro pins s σ H Rr I h
 refine Call_ (ld_blt I hg hm boot_enumerate ?_)
 refine PyProof.Rows.callWith_type1 (thn (ha.run pos pins s σ H _ I h) ?_) hs rfl
 rintro us s1 ⟨vs, H1, I1, r1, a, rfl, hq⟩
 obtain ⟨u, rfl, ru⟩ := vals1 r1
 cases ru
 have up : ∀ b ∈ [s1.heap.objs.size + 1, s1.heap.objs.size], s1.heap.objs.size <= b := fun b hb => by
  have z : b = s1.heap.objs.size + 1 \/ b = s1.heap.objs.size := by simpa using hb
  rcases z with z | z
  ·rw [z]; exact Nat.le_succ _
  ·rw [z]; exact Qao _
 rcases hq with ⟨⟨xs, hq⟩, q⟩ | ⟨⟨xs, hq⟩, q⟩
 ·obtain ⟨its, rv, pl, hz⟩ := I1.tuple hq
  have isT : s1.heap.IsTuple a its.toArray := pl
  refine Zg1 (begins_tuple a its.toArray) isT fun h' he hit hk => wpAny_pyIter_enum he ?_
  have I2 : Inv X pins σ H1 { s1 with heap := h' } := I1.kept (t' := s1.toks) hk
  exact ⟨s1.heap.objs.size + 1, [s1.heap.objs.size + 1, s1.heap.objs.size], _, _, H1, rfl, I2, Zmq a (s1.heap.objs.size + 1) s1.heap.objs.size, ⟨⟨.none, he⟩, ⟨_, hit, rfl, rfl⟩, Nat.succ_ne_self _⟩, fun b hb => I1.fpOk (up b hb) (I1.hok.fresh (up b hb)), q⟩
 ·obtain ⟨its, rv, pl, hz⟩ := I1.list hq
  refine call_enumerate_list pl.isList fun h' he hit hsz hk => wpAny_pyIter_enum he ?_
  have I2 : Inv X pins σ H1 { s1 with heap := h' } := I1.kept (t' := s1.toks) hk
  exact ⟨s1.heap.objs.size + 1, [s1.heap.objs.size + 1, s1.heap.objs.size], _, _, H1, rfl, I2, turn_enum a (s1.heap.objs.size + 1) s1.heap.objs.size, ⟨⟨.none, he⟩, hit, Nat.succ_ne_self _⟩, fun b hb => I1.fpOk (up b hb) (I1.hok.fresh (up b hb)), q⟩
theorem Zjo {φ0 : Nat -> Addr} {n0 : Nat} {H0 : Hp} {ds : List D} {vs : List V} {J : It} {G : Hp -> Prop} (sq : ∀ φ n H, Sub φ0 n0 H0 φ n H -> G H) (rs : RVs X.kw φ0 n0 H0 ds vs)
  (wk : Walk J vs.length G (YPair (fun i => some (.int (i : Nat))) (fun i => vs[i]?))) : Zun X φ0 n0 H0 (Zfv ds) J := by
 have hl : (Zfv ds).length = vs.length := by simp [Zfv, rs.length]
 refine ⟨_, _, hl ▸ wk, fun φ S H sb r => ⟨sq φ S.nx H sb, fun i x H' hi y => ?_⟩⟩
 obtain ⟨T, a, b, rfl, hT, rfl, ha, hb⟩ := y
 cases ha
 rw [hl, rs.length] at hi
 obtain ⟨d, ed⟩ := Zcv hi
 obtain ⟨v, ev, rv⟩ := (rs.sub sb).get ed
 have hb : vs[i]? = some b := hb
 rw [hb] at ev; cases ev
 refine ⟨.kt [.int (i : Nat), d], by simp [Zfv, ed], .inr ⟨T, _, hT, rfl, .kt upd_same (.cons (.int _) (.cons (rv.sub (Zjb hT)) .nil))⟩⟩
theorem Zgi {K : PySem.W.Frag} {a : Addr} {xs : List V} : Walk (Z9h K a) xs.length (fun H => SqT K H a xs) (YPair (fun i => some (.int (i : Nat))) (fun i => xs[i]?)) := by
 refine ⟨fun i _ hi q => ⟨xs, xs[i], q, by simp [hi]⟩, fun _ q => ⟨xs, q, Qao _⟩, ?_⟩
 rintro i H v H' _ q ⟨T, x, h1, h2, h3, h4⟩
 exact ⟨T, .int (i : Nat), x, h1, h2, h3, rfl, h4 xs q⟩
theorem Zwz (g : Good p C ca k ks W X) {p1 pos tpos : Pos} {elts : List Expr} {kk : Nat} {a : Expr} {m : ME} (hst : Zah a = true) (h1 : ks.gl "enumerate" = true) (ha : SE ca C W X a m) : SI ca C W X (.Tuple elts kk tpos) (.Call (.Name "enumerate" p1) [a] [] pos) (.enum m) := by
 refine PI.mono (Zru (g.gl h1) g.en (Zff hst ha Zkp) (Zak hst [])) fun σ H Rr ⟨φ, S, ρ, a, h⟩ => ?_
 simp only [evi] at h
 refine ⟨φ, S, ρ, a, ?_⟩
 simp only [evs, R.wp_bind] at h ⊢
 refine R.wp_mono h (fun d S1 h1 φ1 H1 vs st1 r1 rs => ?_) fun _ _ z => z
 obtain ⟨v, rfl, rv⟩ := rs.one
 obtain ⟨xs, e, h1⟩ := Zas h1
 cases rv with
 | tup hx qs => cases e; exact ⟨_, rfl, .inl ⟨⟨_, hx.sq⟩, h1 φ1 H1 _ st1 r1 (Zjo (fun φ n H sb => (hx.sub sb).sq) qs Zgi)⟩⟩
 | wt hx qs => cases e; exact ⟨_, rfl, .inl ⟨⟨_, hx.sq⟩, h1 φ1 H1 _ st1 r1 (Zjo (fun φ n H sb => hx.sq) qs Zgi)⟩⟩
 | wl hx qs => cases e; exact ⟨_, rfl, .inr ⟨⟨_, SqL.rd (.inr ⟨_, hx⟩)⟩, h1 φ1 H1 _ st1 r1 (Zjo (fun φ n H sb => SqL.rd (.inr ⟨_, sb.hf _ _ _ hx⟩)) qs walk_enum)⟩⟩
 | _ => cases e
def gT (K : KW) (L : LC) (t : MT) : TG := fun v σ H Q => ∃ φ S ρ d ρ', At K L φ S ρ σ H /\ RV K φ S.nx H d v /\ putT t d ρ = some ρ' /\ ∀ σ', RelE K L φ S.nx H ρ' σ' -> (∀ vs, Zd2 t vs = true -> L2.wipe σ' vs = L2.wipe σ vs) -> Q σ' H
theorem PG.mono {t t' : TG} (h : PG X tg t) (q : ∀ v σ H Q, t' v σ H Q -> t v σ H Q) : PG X tg t' := ⟨fun pins s σ H v u Q I r z => h.run pins s σ H v u Q I r (q v σ H Q z)⟩
theorem PGs.mono {es : List Expr} {t t' : TGs} (h : PGs X es t) (q : ∀ v σ H Q, t' v σ H Q -> t v σ H Q) : PGs X es t' := ⟨fun pins s σ H v u Q I r z => h.run pins s σ H v u Q I r (q v σ H Q z)⟩
theorem Zej {σ : L2.St} {i : Nat} {x : Option V} : ∀ {vs : List Nat}, i ∉ vs -> L2.wipe (σ.set i x) vs = (L2.wipe σ vs).set i x
 | [], _ => rfl
 | v :: vs, h => by
  rw [Qaf, not_or] at h
  show (L2.wipe (σ.set i x) vs).set v none = ((L2.wipe σ vs).set v none).set i x
  rw [Zej h.2, List.set_comm _ _ h.1]
theorem Zey {σ : L2.St} {i : Nat} {x : Option V} : ∀ {vs : List Nat}, i ∈ vs -> L2.wipe (σ.set i x) vs = L2.wipe σ vs
 | [], h => by simp at h
 | v :: vs, h => by
  show (L2.wipe (σ.set i x) vs).set v none = (L2.wipe σ vs).set v none
  by_cases hv : i ∈ vs
  ·rw [Zey hv]
  ·rcases Qaf.mp h with e | e
   ·subst e
    rw [Zej hv, List.set_set]
   ·exact absurd e hv
def setVs (is : List Nat) (vs : List V) (σ : L2.St) : L2.St := (is.zip vs).foldl (fun r p => r.set p.1 (some p.2)) σ
theorem Zcw {js : List Nat} : ∀ {is : List Nat} {vs : List V} {σ : L2.St}, (∀ i ∈ is, i ∈ js) -> L2.wipe (setVs is vs σ) js = L2.wipe σ js
 | [], _, _, _ => rfl
 | _ :: _, [], _, _ => rfl
 | i :: is, v :: vs, σ, h => by
  show L2.wipe (setVs is vs (σ.set i (some v))) js = _
  rw [Zcw (is := is) fun j hj => h j (Qae _ hj), Zey (h i Qag)]
theorem RelE.setVs {K : KW} {L : LC} {φ : Nat -> Addr} {n : Nat} {H : Hp} : ∀ {is : List Nat} {ds : List D} {vs : List V} {ρ : Ev} {σ : L2.St}, RelE K L φ n H ρ σ -> RVs K φ n H ds vs -> RelE K L φ n H (setAll is (ds.map .v) ρ) (My.setVs is vs σ)
 | [], _, _, _, _, e, _ => e
 | _ :: _, _, _, _, _, e, .nil => e
 | i :: is, _, _, ρ, σ, e, .cons a t => RelE.setVs (is := is) (e.set (i := i) a) t
theorem Zrv (g : Good p C ca k ks W X) {i : Nat} (h : Zig p ks tg i = true) : PG X tg (gName i) := by
 unfold Zig at h
 split at h
 ·simp only [Qaa, Qab] at h
  obtain ⟨⟨h1, h2⟩, h3⟩ := h
  exact pg_name (by rw [g.N]; exact g.nd) (by rw [g.N]; exact h1) (g.st _ h2).1 (g.st _ h2).2
 ·cases h
theorem Zik {e : Expr} {i : Nat} (h : Zig p ks e i = true) : ∃ x pos, e = .Name x pos := by
 unfold Zig at h
 split at h
 ·exact ⟨_, _, rfl⟩
 ·cases h
theorem Zg2 (g : Good p C ca k ks W X) : ∀ {es : List Expr} {is : List Nat}, Zfe p ks es is = true -> PGs X es (fun vs σ H Q => vs.length = is.length /\ Q (setVs is vs σ) H) /\ (assignEach es X.env).length = is.length /\ (assignEach es X.env).findIdx? (·.1) = none
 | [], [], _ => by
  refine ⟨PGs.mono pgs_nil fun vs σ H Q ⟨h1, h2⟩ => ?_, rfl, rfl⟩
  cases vs with
  | nil => exact ⟨rfl, h2⟩
  | cons _ _ => cases h1
 | [], _ :: _, h => by simp [Zfe] at h
 | _ :: _, [], h => by simp [Zfe] at h
 | e :: es, i :: is, h => by
  simp only [Zfe, Qaa] at h
  obtain ⟨x, pos, rfl⟩ := Zik h.1
  obtain ⟨r1, r2, r3⟩ := Zg2 g h.2
  refine ⟨PGs.mono (pgs_cons (Zrv g h.1) r1 rfl) fun vs σ H Q ⟨h1, h2⟩ => ?_, ?_, ?_⟩
  ·cases vs with
   | nil => cases h1
   | cons v vs => exact ⟨v, vs, rfl, by simpa using h1, h2⟩
  ·show (assignEach es X.env).length + 1 = is.length + 1
   rw [r2]
  ·show ((false, _) :: assignEach es X.env).findIdx? (·.1) = none
   rw [List.findIdx?_cons]
   simp [r3]
theorem Z18 {es : List Expr} {kk n : Nat} {t : TGs} {pos : Pos} (hc : X.calm = true) (h : PGs X es t) (hn : (assignEach es X.env).length = n) (hst : (assignEach es X.env).findIdx? (·.1) = none) :
  PG X (.Tuple es kk pos) (fun v σ H Q => gTup X.K n t v σ H Q \/ gLst X.K n t v σ H Q) :=
 ⟨fun pins s σ H v u Q I r hw => hw.elim (fun q => (pg_tup hc h hn hst).run pins s σ H v u Q I r q) fun q => (pg_lst hc h hn hst).run pins s σ H v u Q I r q⟩
theorem sg (g : Good p C ca k ks W X) {t : MT} (h : okT p ks tg t = true) : PG X tg (gT X.kw X.lc t) := by
 unfold okT at h
 split at h
 ·rename_i i
  refine PG.mono (Zrv g h) fun v σ H Q ⟨φ, S, ρ, d, ρ', a, rv, e, q⟩ => ?_
  cases e
  exact q _ (a.env.set rv) fun vs hv => Zey (by simpa [Zd2] using hv)
 ·rename_i is
  split at h
  ·obtain ⟨r1, r2, r3⟩ := Zg2 g h
   refine PG.mono (Z18 g.calm r1 r2 r3) fun v σ H Q ⟨φ, S, ρ, d, ρ', a, rv, e, q⟩ => ?_
   cases rv with
   | wl hx rs =>
    simp only [putT] at e
    split at e
    ·rename_i hl
     cases e
     have hl' := hl.trans rs.length.symm
     exact .inr ⟨_, _, rfl, SqL.rd (.inr ⟨_, hx⟩), hl'.symm, hl'.symm, q _ (a.env.setVs rs) fun vs hv => Zcw (by simpa [Zd2] using hv)⟩
    ·cases e
   | tup hx rs =>
    simp only [putT] at e
    split at e
    ·rename_i hl
     cases e
     have hl' := hl.trans rs.length.symm
     exact .inl ⟨_, _, rfl, hx.sq, hl'.symm, hl'.symm, q _ (a.env.setVs rs) fun vs hv => Zcw (by simpa [Zd2] using hv)⟩
    ·cases e
   | kt hx rs =>
    simp only [putT] at e
    split at e
    ·rename_i hl
     cases e
     have hl' := hl.trans rs.length.symm
     exact .inl ⟨_, _, rfl, SqT.of hx, hl'.symm, hl'.symm, q _ (a.env.setVs rs) fun vs hv => Zcw (by simpa [Zd2] using hv)⟩
    ·cases e
   | _ => cases e
  ·cases h
end
end My
namespace My
open PySem PySem.Spec PyProof.Rows L2
variable [CP] [TC]
section
variable {p : Pg} {C : Cl} {ca : CA} {k : Nat} {ks : Ks} {W : WX} {X : Cx} {tg e : Expr} {m : ME}
def W0 : WX := fun _ _ _ _ => False
theorem Good.blk (g : Good p C ca k ks W X) {scope : Scope} {own : List (Str × Nat)} (hb : blkC p.N ks.sc scope own = true) (s : Shared) (H : Hp) (A : Addr) (cl : List (Str × Addr)) (fp : List Addr) :
  Good p C ca k (ks.blk scope) W0 (X.blk s H scope (compEnvC scope cl A X.env) fp) := by
 have ok := blkOk_by hb
 have hs : (compEnvC scope cl A X.env).scope = relS scope X.env.scope := rfl
 refine ⟨g.N, g.nd, ?_, ?_, fun x hx => ?_, g.calm, g.gu, g.room3, takes0, g.gs, g.gd, g.bl, g.ob, g.ty, g.ii, g.rg, g.en, g.zp, g.se, g.fn, g.ex, g.sub, g.cax, g.cl, g.lam, g.lm, fun z => (by cases z), fun z => (by cases z)⟩
 ·show relS scope X.env.scope = relS scope ks.sc
  rw [g.sc]
 ·exact ok.kind
 ·show Loc (relS scope X.env.scope) x /\ ((scope.names.lookup x == some NameKind.cell) = true \/ (relS scope X.env.scope).names.lookup x = some .local)
  have hx : (match scope.names.lookup x with | some .local => true | some .cell => true | _ => false) = true := hx
  cases e : scope.names.lookup x with
  | none => rw [e] at hx; cases hx
  | some kd =>
   cases kd with
   | «local» =>
    have q := lookup_relS_keep (sc := X.env.scope) (by decide) e
    exact ⟨.inl q, .inr q⟩
   | cell =>
    have q := lookup_relS_keep (sc := X.env.scope) (by decide) e
    exact ⟨.inr q, .inl (by decide)⟩
   | free => rw [e] at hx; cases hx
   | globalExplicit => rw [e] at hx; cases hx
   | globalImplicit => rw [e] at hx; cases hx
theorem Zcn {σ : L2.St} : ∀ {vs : List Nat}, L2.wipe (L2.wipe σ vs) vs = L2.wipe σ vs := by
 intro vs
 have gen : ∀ (us vs : List Nat), (∀ u ∈ us, u ∈ vs) -> L2.wipe (L2.wipe σ us) vs = L2.wipe σ vs := by
  intro us
  induction us with
  | nil => intro vs _; rfl
  | cons u us ih =>
   intro vs h
   show L2.wipe ((L2.wipe σ us).set u none) vs = _
   rw [Zey (h u Qag)]
   exact ih vs fun x hx => h x (Qae _ hx)
 exact gen vs vs fun _ h => h
noncomputable def lcF (C : Cl) (ρ : Ev) (vs : List Nat) (t : MT) (c : Option ME) (m : ME) (d : D) (S : Store) : R Xn (Option D) := match putT t d (Zaw ρ vs) with
 | none => .bad
 | some ρ' => (evc C c ρ' S).bind fun b S => if b then (ev C m ρ' S).bind fun y S => .ok (some y) S else .ok none S
omit [CP] [TC] in
theorem Z19 {vs : List Nat} {t : MT} {it : MI} {c : Option ME} {m : ME} {ρ : Ev} {S : Store} : evO C (.lc vs t it c m) ρ S = (evi C it ρ S).bind fun q S => (lcL (lcF C ρ vs t c m) q [] S).bind fun xs S => .ok (.lst xs) S := by
 simp only [evO]
 rfl
def tTs (K : KW) (L : LC) (ca : CA) (C : Cl) : Option ME -> TT
 | none => tYes
 | some c => tT K L ca W0 (ev C c)
theorem Step.off {φ φ' : Nat -> Addr} {S S' : Store} {H H' : Hp} (st : Step φ S H φ' S' H') {D : Addr} {o : HO} (hD : H D = some o) (nl : ∀ i, i < S.nx -> φ i ≠ D) (nt : NT o := by exact fun _ z => nomatch z) : (∀ i, i < S'.nx -> φ' i ≠ D) /\ H' D = some o := by
 refine ⟨fun i q z => ?_, st.keep D o hD nt nl⟩
 by_cases hi : i < S.nx
 ·rw [st.ag i hi] at z
  exact nl i hi z
 ·have := st.new i (Nat.not_lt.mp hi) q
  rw [z, hD] at this; cases this
theorem Zqu {X' : Cx} {ifs : List Expr} {c : Option ME} (h : PTs X' ifs (tTs X'.kw X'.lc ca C c)) (e : X'.outer = X'.stack) : PTs X' ifs (tTs X'.kw lcB ca C c) := by
 cases c with
 | none => exact h
 | some c => exact ⟨fun pins s σ H Q I q => h.run pins s σ H Q I (tT.weak (Cx.lcB1 e) (Cx.lcB2 e) q)⟩
theorem sgB {p : Pg} {C : Cl} {ca : CA} {k : Nat} {ks : Ks} {W : WX} {X' : Cx} {tg : Expr} (g : Good p C ca k ks W X') (e : X'.outer = X'.stack) {t : MT} (h : okT p ks tg t = true) : PG X' tg (gT X'.kw lcB t) :=
 PG.mono (sg g h) fun v σ H Q ⟨φ, S, ρ, d, ρ', a, rv, z, q⟩ => ⟨φ, S, ρ, d, ρ', a.weak (Cx.lcB1 e) (Cx.lcB2 e), rv, z, fun σ' re => q σ' re.toB⟩
theorem peB {X' : Cx} {W' : WX} {e : Expr} {m : ME} (h : SE ca C W' X' e m) (z : X'.outer = X'.stack) : PE X' e (tC X'.kw lcB ca W' (ev C m)) := PE.mono h.pe fun σ H Q q => tG.weak (Cx.lcB1 z) (Cx.lcB2 z) q
theorem siB {X' : Cx} {W' : WX} {tg e : Expr} {m : MI} (h : SI ca C W' X' tg e m) (z : X'.outer = X'.stack) : PI X' tg e (tI X' lcB ca W' (evi C m)) :=
 ⟨fun pins s σ H R I ⟨φ, S, ρ, a, q⟩ => h.run pins s σ H R I ⟨φ, S, ρ, a.weak (Cx.lcB1 z) (Cx.lcB2 z), q⟩⟩
theorem Zod {vs : List Nat} {t : MT} {it : MI} {c : Option ME} {m : ME} {σ : L2.St} {H : Hp} {Q : VK} (hin : Zd2 t vs = true) (h : tO X.kw X.lc ca W (evO C (.lc vs t it c m)) σ H Q) :
  tLc (tI X X.lc ca W (evi C it)) (gT X.kw lcB t) (tTs X.kw lcB ca C c) (tC X.kw lcB ca W0 (ev C m)) vs σ H Q := by
 obtain ⟨φ, S, ρ, a, h⟩ := h
 rw [Z19, R.wp_bind] at h
 refine ⟨φ, S, ρ, a, R.wp_mono h (fun q S1 hq φ1 H1 J st1 r1 ⟨G, Y, wk, itk⟩ => fun D hD => ?_) fun _ _ z => z⟩
 rw [R.wp_bind] at hq
 have e1 := a.env.mono a.rel st1
 refine lc_it wk (fun i H' => ∃ φ2 S2 acc vacc, Step φ1 S1 H1 φ2 S2 H' /\ RelS X.kw φ2 S2 H' /\ H' D = some (.lst vacc) /\ RVs X.kw φ2 S2.nx H' acc vacc /\ (∀ i, i < S2.nx -> φ2 i ≠ D) /\
  (lcL (lcF C ρ vs t c m) (q.drop i) acc S2).wp (fun xs S3 => Za8 X.kw φ S H Q (.lst xs) S3) (fun _ _ => True)) ?_ ?_ ?_ ?_
 ·obtain ⟨r2, st2⟩ := r1.lay (o' := .lst []) hD
  refine ⟨φ1, S1, [], [], st2, r2, upd_same, .nil, fun i qq z => ?_, R.wp_mono hq (fun _ _ z => z) fun _ _ _ => trivial⟩
  obtain ⟨w, hw, _⟩ := r1.there qq
  rw [z, hD] at hw; cases hw
 ·rintro i H' _ ⟨φ2, S2, acc, vacc, st2, r2, _, _, _, w⟩
  exact (itk φ2 S2 H' (st2.sub r1) r2).1
 ·rintro i x Hc H' hi ⟨φ2, S2, acc, vacc, st2, r2, hDv, racc, nl, w⟩ hy
  obtain ⟨d, hd, hH⟩ := (itk φ2 S2 Hc (st2.sub r1) r2).2 i x H' hi hy
  have hdrop : q.drop i = d :: q.drop (i + 1) := by
   obtain ⟨hlt, e⟩ := Qay.mp hd
   rw [Qbk hlt, e]
  -- the state behind the item
  have hst : RelS X.kw φ2 S2 H' /\ Step φ2 S2 Hc φ2 S2 H' /\ RV X.kw φ2 S2.nx H' d x := by
   rcases hH with ⟨rfl, rv⟩ | ⟨T, ws, hT, rfl, rv⟩
   ·exact ⟨r2, r2.refl, rv⟩
   ·obtain ⟨r3, st3⟩ := r2.lay (o' := .tup ws) hT
    exact ⟨r3, st3, rv⟩
  obtain ⟨r3, st3, rv⟩ := hst
  obtain ⟨nl3, hD3⟩ := st3.off hDv nl
  have st13 := st2.trans st3
  rw [hdrop] at w
  unfold lcL at w
  rw [R.wp_bind, R.wp_calm] at w
  unfold lcF at w
  split at w
  ·exact w.elim
  ·rename_i ρ' hp
   change ((evc C c ρ' S2).bind fun b S => if b then (ev C m ρ' S).bind fun y S => .ok (some y) S else .ok none S).wp (fun o S5 => (match o with
     | none => lcL (lcF C ρ vs t c m) (q.drop (i + 1)) acc S5
     | some y => if acc.length < sizeLine then lcL (lcF C ρ vs t c m) (q.drop (i + 1)) (acc ++ [y]) S5 else .bad).wp (fun xs S3 => Za8 X.kw φ S H Q (.lst xs) S3) (fun _ _ => True)) (fun _ _ => False) at w
   have e3 : RelE X.kw lcB φ2 S2.nx H' (Zaw ρ vs) (L2.wipe σ vs) := (e1.mono r1 st13).toB.wipe vs
   refine ⟨φ2, S2, Zaw ρ vs, d, ρ', ⟨r3, e3⟩, rv, hp, fun σ2 re hw => ⟨?_, ?_⟩⟩
   ·rw [hw vs hin, Zcn]
   -- the test, the element
   ·have racc3 := racc.mono r2 st3
    have elem : ∀ S4 φ4 H4, Step φ2 S2 H' φ4 S4 H4 -> At X.kw lcB φ4 S4 ρ' σ2 H4 -> ((ev C m ρ' S4).bind fun y S => (R.ok (some y) S : R Xn (Option My.D))).wp (fun o S5 => (match o with
      | none => lcL (lcF C ρ vs t c m) (q.drop (i + 1)) acc S5
      | some y => if acc.length < sizeLine then lcL (lcF C ρ vs t c m) (q.drop (i + 1)) (acc ++ [y]) S5 else .bad).wp (fun xs S3 => Za8 X.kw φ S H Q (.lst xs) S3) (fun _ _ => True)) (fun _ _ => False) ->
      tC X.kw lcB ca W0 (ev C m) σ2 H4 fun y H5 => ∃ vacc, H5 D = some (.lst vacc) /\ vacc.length < sizeLine /\ ∃ φ2 S2 acc vacc', Step φ1 S1 H1 φ2 S2 (upd H5 D (.lst (vacc ++ [y]))) /\ RelS X.kw φ2 S2 (upd H5 D (.lst (vacc ++ [y]))) /\ (upd H5 D (.lst (vacc ++ [y]))) D = some (.lst vacc') /\ RVs X.kw φ2 S2.nx (upd H5 D (.lst (vacc ++ [y]))) acc vacc' /\ (∀ i, i < S2.nx -> φ2 i ≠ D) /\
       (lcL (lcF C ρ vs t c m) (q.drop (i + 1)) acc S2).wp (fun xs S3 => Za8 X.kw φ S H Q (.lst xs) S3) (fun _ _ => True) := fun S4 φ4 H4 st4 a4 h4 => by
     rw [R.wp_bind] at h4
     refine ⟨φ4, S4, ρ', a4, R.wp_mono h4 (fun y S5 h5 φ5 H5 v st5 r5 rv5 => ?_) fun _ _ z => z.elim⟩
     have h5 : (if acc.length < sizeLine then _ else R.bad).wp _ _ := h5
     split at h5
     ·rename_i hz
      have st45 := st4.trans st5
      obtain ⟨nl5, hD5⟩ := st45.off hD3 nl3
      have racc5 := racc3.mono r3 st45
      have mu : Mut (some (HO.lst vacc)) := trivial
      have r6 := r5.chg (o' := .lst (vacc ++ [v])) hD5 mu nl5
      have sb6 : Sub φ5 S5.nx H5 φ5 S5.nx (upd H5 D (.lst (vacc ++ [v]))) := Zbc hD5 mu
      exact ⟨vacc, hD5, by rw [racc5.length]; exact hz, φ5, S5, acc ++ [y], vacc ++ [v], (st13.trans st45).aside hD, r6, upd_same, (racc5.append (.cons rv5 .nil)).sub sb6, nl5, h5⟩
     ·exact h5.elim
    have a3 : At X.kw lcB φ2 S2 ρ' σ2 H' := ⟨r3, re⟩
    cases c with
    | none =>
     rw [show evc C none ρ' S2 = .ok true S2 from by simp only [evc]] at w
     have z := elem S2 φ2 H' r3.refl a3 w
     exact z
    | some c0 =>
     rw [show evc C (some c0) ρ' S2 = (ev C c0 ρ' S2).bind blR from by simp only [evc]] at w
     rw [R.wp_bind, R.wp_bind] at w
     refine ⟨φ2, S2, ρ', a3, R.wp_mono w (fun d2 S4 h4 => ?_) fun _ _ z => z.elim⟩
     cases d2 with
     | bl b =>
      refine ⟨b, rfl, fun φ4 H4 st4 r4 => ?_⟩
      have a4 := a3.step st4 r4
      cases b with
      | true => exact iteT (elem S4 φ4 H4 st4 a4 h4)
      | false =>
       obtain ⟨nl4, hD4⟩ := st4.off hD3 nl3
       exact iteF ⟨φ4, S4, acc, vacc, st13.trans st4, r4, hD4, racc3.mono r3 st4, nl4, h4⟩
     | _ => exact h4.elim
 ·rintro Hn ⟨φ2, S2, acc, vacc, st2, r2, hDv, racc, nl, w⟩
  have hd0 : q.drop q.length = [] := List.drop_length
  rw [hd0] at w
  unfold lcL at w
  have w : Za8 X.kw φ S H Q (.lst acc) S2 := w
  refine w φ2 Hn D (st1.trans st2) r2 ⟨⟨_, hDv, ⟨_, rfl, racc⟩⟩, nl⟩ ?_
  cases z : H D with
  | none => rfl
  | some u =>
   obtain ⟨u', z'⟩ := st1.trk D u z
   rw [hD] at z'; cases z'
theorem Z2a (g : Good p C ca k ks W X) {elt iter : Expr} {ifs : List Expr} {scope : Scope} {pos : Pos} {vs : List Nat} {t : MT} {it : MI} {c : Option ME} {m : ME}
  (hi : SI ca C W X tg iter it) (hs : Zbx iter = true) (hv : (Zax p scope vs).map (·.2) = vs) (hb : blkC p.N ks.sc scope (Zax p scope vs) = true) (ht : okT p (ks.blk scope) tg t = true) (hin : Zd2 t vs = true)
  (hc : ∀ X', Good p C ca k (ks.blk scope) W0 X' -> X'.kw = X.kw -> PTs X' ifs (tTs X'.kw X'.lc ca C c)) (he : ∀ X', Good p C ca k (ks.blk scope) W0 X' -> SE ca C W0 X' elt m) :
  SOb ca C W X (.ListComp elt [⟨tg, iter, ifs, 0⟩] scope pos) (.lc vs t it c m) := by
 have ok : BlkOk X.N X.env.scope scope (Zax p scope vs) := by
  rw [g.N, g.sc]; exact blkOk_by hb
 refine PE.mono (pe_lc (g := gT X.kw lcB t) (tt := tTs X.kw lcB ca C c) (te := tC X.kw lcB ca W0 (ev C m)) g.calm (by rw [g.N]; exact g.nd) hi ok
  (fun s H A cl fp => sgB (g.blk hb s H A cl fp) rfl ht) (fun s H A cl fp => Zqu (hc _ (g.blk hb s H A cl fp) rfl) rfl) (fun s H A cl fp => peB (he _ (g.blk hb s H A cl fp)) rfl) (Zbu hs)) fun σ H Q q => ?_
 rw [hv]
 exact Zod hin q
theorem Z2b (g : Good p C ca k ks W X) {y : Str} {py spos : Pos} {i : Nat} {elt iter : Expr} {ifs : List Expr} {scope : Scope} {pos : Pos} {vs : List Nat} {t : MT} {it : MI} {c : Option ME} {m : ME} (hy : p.N[i]? = some y) (hyl : ks.sc.names.lookup y = some .local)
  (hl : py.line = pos.line) (ha : (scope.names.any fun (n, k) => n == y && (k == .local || k == .cell)) = false)
  (hi : SI ca C W X tg iter it) (hs : Zbx iter = true) (hv : (Zax p scope vs).map (·.2) = vs) (hb : blkC p.N ks.sc scope (Zax p scope vs) = true) (ht : okT p (ks.blk scope) tg t = true) (hin : Zd2 t vs = true)
  (hc : ∀ X', Good p C ca k (ks.blk scope) W0 X' -> X'.kw = X.kw -> PTs X' ifs (tTs X'.kw X'.lc ca C c)) (he : ∀ X', Good p C ca k (ks.blk scope) W0 X' -> SE ca C W0 X' elt m) :
  PS X (.Assign [.Name y py] (.ListComp elt [⟨tg, iter, ifs, 0⟩] scope pos) spos) (fun D σ H => tO X.kw X.lc ca W (evO C (.lc vs t it c m)) σ H fun v H1 => D.nx (σ.set i (some v)) H1) := by
 have ok : BlkOk X.N X.env.scope scope (Zax p scope vs) := by
  rw [g.N, g.sc]; exact blkOk_by hb
 have hyX : X.env.scope.names.lookup y = some .local := by rw [g.sc]; exact hyl
 have z := ps_setLc (i := i) (spos := spos) (py := py) (pos := pos) (g := gT X.kw lcB t) (tt := tTs X.kw lcB ca C c) (te := tC X.kw lcB ca W0 (ev C m)) g.calm (by rw [g.N]; exact g.nd) (by rw [g.N]; exact hy) hyX (sw_true g.kind hyX (by simpa using hl) ha) hi ok
  (fun s H A cl fp => sgB (g.blk hb s H A cl fp) rfl ht) (fun s H A cl fp => Zqu (hc _ (g.blk hb s H A cl fp) rfl) rfl) (fun s H A cl fp => peB (he _ (g.blk hb s H A cl fp)) rfl) (Zbu hs)
 refine ⟨fun pins s σ H D I h => z.run pins s σ H D I ?_⟩
 rw [hv]
 exact Zod hin h
end
end My
namespace My
open PySem PySem.Spec PyProof.Rows L2
variable [CP] [TC]
section
variable {p : Pg} {C : Cl} {ca : CA} {k : Nat} {ks : Ks} {W : WX} {X : Cx} {tg e : Expr} {m : ME}
noncomputable def dcF (C : Cl) (ρ : Ev) (vs : List Nat) (t : MT) (c : Option ME) (mk m : ME) (d : D) (S : Store) : R Xn (Option (D × D)) := match putT t d (Zaw ρ vs) with
 | none => .bad
 | some ρ' => (evc C c ρ' S).bind fun b S => if b then (ev C mk ρ' S).bind fun x S => (ev C m ρ' S).bind fun y S => .ok (some (x, y)) S else .ok none S
omit [CP] [TC] in
theorem Z2c {vs : List Nat} {t : MT} {it : MI} {c : Option ME} {mk m : ME} {ρ : Ev} {S : Store} : evO C (.dc vs t it c mk m) ρ S = (evi C it ρ S).bind fun q S => (dcL (dcF C ρ vs t c mk m) q [] S).bind fun xs S => .ok (.dK xs) S := by
 simp only [evO]
 rfl
theorem Z9j {J : It} {n : Nat} {G : Hp -> Prop} {Y : Nat -> Hp -> V -> Hp -> Prop} {g : TG} {tt : TT} {tk tv : TE} {vs : List Nat} {σ : L2.St} {Q : VK} {D : Addr} {Hs : Hp} (wk : Walk J n G Y) (I : Nat -> Hp -> Prop) (h0 : I 0 Hs) (hg : ∀ i H, i <= n -> I i H -> G H)
  (hstep : ∀ i x Hc H', i < n -> I i Hc -> Y i Hc x H' -> g x (L2.wipe σ vs) H' fun σ2 H2 => L2.wipe σ2 vs = L2.wipe σ vs /\ tt σ2 H2 fun b H3 =>
   if b = true then tk σ2 H3 fun y H4 => tv σ2 H4 fun z H5 => ∃ kvs kk, y = kV kk /\ H5 D = some (.dK kvs) /\ kvs.length < sizeLine /\ I (i + 1) (upd H5 D (.dK (putK kvs kk z))) else I (i + 1) H3)
  (hend : ∀ Hn, I n Hn -> Q (.ref D) Hn) :
  ∃ W : Nat -> Nat -> Hp -> Prop, (∃ m, W 0 m Hs) /\ ∀ i m H, W i m H -> (J.stop i H /\ Q (.ref D) H) \/ (J.go i H /\ ∃ Nx : Hp -> Prop, (∀ H', Nx H' -> ∃ m', m' < m /\ W (i + 1) m' H') /\ ∀ x H', J.yld i H x H' -> g x (L2.wipe σ vs) H' fun σ2 H2 => L2.wipe σ2 vs = L2.wipe σ vs /\ tt σ2 H2 fun b H3 =>
   if b = true then tk σ2 H3 fun y H4 => tv σ2 H4 fun z H5 => ∃ kvs kk, y = kV kk /\ H5 D = some (.dK kvs) /\ kvs.length < sizeLine /\ Nx (upd H5 D (.dK (putK kvs kk z))) else Nx H3) := by
 refine ⟨fun i m H => m = n - i /\ i <= n /\ I i H, ⟨n, by omega, Qax _, h0⟩, ?_⟩
 rintro i m H ⟨rfl, hi, hI⟩
 have hG := hg i H hi hI
 by_cases lt : i < n
 ·exact .inr ⟨wk.goes i H lt hG, I (i + 1), fun H' z => ⟨n - (i + 1), by omega, rfl, lt, z⟩, fun x H' y => hstep i x H H' lt hI (wk.yields i H x H' lt hG y)⟩
 ·have e : i = n := by omega
  subst e
  exact .inl ⟨wk.stops H hG, hend H hI⟩
theorem Zoe {vs : List Nat} {t : MT} {it : MI} {c : Option ME} {mk m : ME} {σ : L2.St} {H : Hp} {Q : VK} (hin : Zd2 t vs = true) (h : tO X.kw X.lc ca W (evO C (.dc vs t it c mk m)) σ H Q) :
  tDc (tI X X.lc ca W (evi C it)) (gT X.kw lcB t) (tTs X.kw lcB ca C c) (tC X.kw lcB ca W0 (ev C mk)) (tC X.kw lcB ca W0 (ev C m)) vs σ H Q := by
 obtain ⟨φ, S, ρ, a, h⟩ := h
 rw [Z2c, R.wp_bind] at h
 refine ⟨φ, S, ρ, a, R.wp_mono h (fun q S1 hq φ1 H1 J st1 r1 ⟨G, Y, wk, itk⟩ => fun D hD => ?_) fun _ _ z => z⟩
 rw [R.wp_bind] at hq
 have e1 := a.env.mono a.rel st1
 refine Z9j wk (fun i H' => ∃ φ2 S2 acc vacc, Step φ1 S1 H1 φ2 S2 H' /\ RelS X.kw φ2 S2 H' /\ H' D = some (.dK vacc) /\ RKs X.kw φ2 S2.nx H' acc vacc /\ (∀ i, i < S2.nx -> φ2 i ≠ D) /\
  (dcL (dcF C ρ vs t c mk m) (q.drop i) acc S2).wp (fun xs S3 => Za8 X.kw φ S H Q (.dK xs) S3) (fun _ _ => True)) ?_ ?_ ?_ ?_
 ·obtain ⟨r2, st2⟩ := r1.lay (o' := .dK []) hD
  refine ⟨φ1, S1, [], [], st2, r2, upd_same, .nil, fun i qq z => ?_, R.wp_mono hq (fun _ _ z => z) fun _ _ _ => trivial⟩
  obtain ⟨w, hw, _⟩ := r1.there qq
  rw [z, hD] at hw; cases hw
 ·rintro i H' _ ⟨φ2, S2, acc, vacc, st2, r2, _, _, _, w⟩
  exact (itk φ2 S2 H' (st2.sub r1) r2).1
 ·rintro i x Hc H' hi ⟨φ2, S2, acc, vacc, st2, r2, hDv, racc, nl, w⟩ hy
  obtain ⟨d, hd, hH⟩ := (itk φ2 S2 Hc (st2.sub r1) r2).2 i x H' hi hy
  have hdrop : q.drop i = d :: q.drop (i + 1) := by
   obtain ⟨hlt, e⟩ := Qay.mp hd
   rw [Qbk hlt, e]
  have hst : RelS X.kw φ2 S2 H' /\ Step φ2 S2 Hc φ2 S2 H' /\ RV X.kw φ2 S2.nx H' d x := by
   rcases hH with ⟨rfl, rv⟩ | ⟨T, ws, hT, rfl, rv⟩
   ·exact ⟨r2, r2.refl, rv⟩
   ·obtain ⟨r3, st3⟩ := r2.lay (o' := .tup ws) hT
    exact ⟨r3, st3, rv⟩
  obtain ⟨r3, st3, rv⟩ := hst
  obtain ⟨nl3, hD3⟩ := st3.off hDv nl
  have st13 := st2.trans st3
  rw [hdrop] at w
  unfold dcL at w
  rw [R.wp_bind, R.wp_calm] at w
  unfold dcF at w
  split at w
  ·exact w.elim
  ·rename_i ρ' hp
   obtain ⟨post, hpost⟩ : ∃ post : Option (My.D × My.D) -> Store -> Prop, post = fun o S5 => (match o with
     | none => dcL (dcF C ρ vs t c mk m) (q.drop (i + 1)) acc S5
     | some (k, y) => match Zcj k with
      | some k => if acc.length < sizeLine then dcL (dcF C ρ vs t c mk m) (q.drop (i + 1)) (Zgu acc k y) S5 else .bad
      | none => .bad).wp (fun xs S3 => Za8 X.kw φ S H Q (.dK xs) S3) (fun _ _ => True) := ⟨_, rfl⟩
   change ((evc C c ρ' S2).bind fun b S => if b then (ev C mk ρ' S).bind fun x S => (ev C m ρ' S).bind fun y S => .ok (some (x, y)) S else .ok none S).wp (fun o S5 => (match o with
     | none => dcL (dcF C ρ vs t c mk m) (q.drop (i + 1)) acc S5
     | some (k, y) => match Zcj k with
      | some k => if acc.length < sizeLine then dcL (dcF C ρ vs t c mk m) (q.drop (i + 1)) (Zgu acc k y) S5 else .bad
      | none => .bad).wp (fun xs S3 => Za8 X.kw φ S H Q (.dK xs) S3) (fun _ _ => True)) (fun _ _ => False) at w
   rw [<- hpost] at w
   have e3 : RelE X.kw lcB φ2 S2.nx H' (Zaw ρ vs) (L2.wipe σ vs) := (e1.mono r1 st13).toB.wipe vs
   refine ⟨φ2, S2, Zaw ρ vs, d, ρ', ⟨r3, e3⟩, rv, hp, fun σ2 re hw => ⟨?_, ?_⟩⟩
   ·rw [hw vs hin, Zcn]
   ·have racc3 := racc.sub (st3.sub r2)
    have elem : ∀ S4 φ4 H4, Step φ2 S2 H' φ4 S4 H4 -> At X.kw lcB φ4 S4 ρ' σ2 H4 -> ((ev C mk ρ' S4).bind fun x S => (ev C m ρ' S).bind fun y S => (R.ok (some (x, y)) S : R Xn (Option (My.D × My.D)))).wp post (fun _ _ => False) ->
      tC X.kw lcB ca W0 (ev C mk) σ2 H4 fun y H5 => tC X.kw lcB ca W0 (ev C m) σ2 H5 fun z H6 => ∃ vacc kk, y = kV kk /\ H6 D = some (.dK vacc) /\ vacc.length < sizeLine /\ ∃ φ2 S2 acc vacc', Step φ1 S1 H1 φ2 S2 (upd H6 D (.dK (putK vacc kk z))) /\ RelS X.kw φ2 S2 (upd H6 D (.dK (putK vacc kk z))) /\ (upd H6 D (.dK (putK vacc kk z))) D = some (.dK vacc') /\ RKs X.kw φ2 S2.nx (upd H6 D (.dK (putK vacc kk z))) acc vacc' /\ (∀ i, i < S2.nx -> φ2 i ≠ D) /\
       (dcL (dcF C ρ vs t c mk m) (q.drop (i + 1)) acc S2).wp (fun xs S3 => Za8 X.kw φ S H Q (.dK xs) S3) (fun _ _ => True) := fun S4 φ4 H4 st4 a4 h4 => by
     rw [R.wp_bind] at h4
     refine ⟨φ4, S4, ρ', a4, R.wp_mono h4 (fun y S5 h5 φ5 H5 v st5 r5 rv5 => ?_) fun _ _ z => z.elim⟩
     rw [R.wp_bind] at h5
     have a5 := a4.step st5 r5
     refine ⟨φ5, S5, ρ', a5, R.wp_mono h5 (fun z S6 h6 φ6 H6 v6 st6 r6 rv6 => ?_) fun _ _ z => z.elim⟩
     rw [R.wp_ok, hpost] at h6
     have h6 : (match Zcj y with
      | some k => if acc.length < sizeLine then dcL (dcF C ρ vs t c mk m) (q.drop (i + 1)) (Zgu acc k z) S6 else .bad
      | none => .bad).wp (fun xs S3 => Za8 X.kw φ S H Q (.dK xs) S3) (fun _ _ => True) := h6
     split at h6
     ·rename_i kk hk
      split at h6
      ·rename_i hz
       have st46 := (st4.trans st5).trans st6
       obtain ⟨nl6, hD6⟩ := st46.off hD3 nl3
       have racc6 := racc3.sub (st46.sub r3)
       have ey : v = kV kk := RV.key hk (.of rv5)
       have mu : Mut (some (HO.dK vacc)) := trivial
       have r7 := r6.chg (o' := .dK (putK vacc kk v6)) hD6 mu nl6
       have sb7 : Sub φ6 S6.nx H6 φ6 S6.nx (upd H6 D (.dK (putK vacc kk v6))) := Zbc hD6 mu
       exact ⟨vacc, kk, ey, hD6, by rw [racc6.length]; exact hz, φ6, S6, Zgu acc kk z, putK vacc kk v6, (st13.trans st46).aside hD, r7, upd_same, (racc6.put kk rv6).sub sb7, nl6, h6⟩
      ·exact h6.elim
     ·exact h6.elim
    have a3 : At X.kw lcB φ2 S2 ρ' σ2 H' := ⟨r3, re⟩
    cases c with
    | none =>
     rw [show evc C none ρ' S2 = .ok true S2 from by simp only [evc]] at w
     have z := elem S2 φ2 H' r3.refl a3 w
     exact z
    | some c0 =>
     rw [show evc C (some c0) ρ' S2 = (ev C c0 ρ' S2).bind blR from by simp only [evc]] at w
     rw [R.wp_bind, R.wp_bind] at w
     refine ⟨φ2, S2, ρ', a3, R.wp_mono w (fun d2 S4 h4 => ?_) fun _ _ z => z.elim⟩
     cases d2 with
     | bl b =>
      refine ⟨b, rfl, fun φ4 H4 st4 r4 => ?_⟩
      have a4 := a3.step st4 r4
      cases b with
      | true => exact iteT (elem S4 φ4 H4 st4 a4 h4)
      | false =>
       obtain ⟨nl4, hD4⟩ := st4.off hD3 nl3
       have h4 : post none S4 := h4
       rw [hpost] at h4
       exact iteF ⟨φ4, S4, acc, vacc, st13.trans st4, r4, hD4, racc3.sub (st4.sub r3), nl4, h4⟩
     | _ => exact h4.elim
 ·rintro Hn ⟨φ2, S2, acc, vacc, st2, r2, hDv, racc, nl, w⟩
  have hd0 : q.drop q.length = [] := List.drop_length
  rw [hd0] at w
  unfold dcL at w
  have w : Za8 X.kw φ S H Q (.dK acc) S2 := w
  refine w φ2 Hn D (st1.trans st2) r2 ⟨⟨_, hDv, ⟨_, rfl, racc⟩⟩, nl⟩ ?_
  cases z : H D with
  | none => rfl
  | some u =>
   obtain ⟨u', z'⟩ := st1.trk D u z
   rw [hD] at z'; cases z'
theorem Z2d (g : Good p C ca k ks W X) {kx elt iter : Expr} {ifs : List Expr} {scope : Scope} {pos : Pos} {vs : List Nat} {t : MT} {it : MI} {c : Option ME} {mk m : ME}
  (hi : SI ca C W X tg iter it) (hs : Zbx iter = true) (hv : (Zax p scope vs).map (·.2) = vs) (hb : blkC p.N ks.sc scope (Zax p scope vs) = true) (ht : okT p (ks.blk scope) tg t = true) (hin : Zd2 t vs = true)
  (hc : ∀ X', Good p C ca k (ks.blk scope) W0 X' -> X'.kw = X.kw -> PTs X' ifs (tTs X'.kw X'.lc ca C c)) (hk : ∀ X', Good p C ca k (ks.blk scope) W0 X' -> SE ca C W0 X' kx mk) (he : ∀ X', Good p C ca k (ks.blk scope) W0 X' -> SE ca C W0 X' elt m) :
  SOb ca C W X (.DictComp kx elt [⟨tg, iter, ifs, 0⟩] scope pos) (.dc vs t it c mk m) := by
 have ok : BlkOk X.N X.env.scope scope (Zax p scope vs) := by
  rw [g.N, g.sc]; exact blkOk_by hb
 refine PE.mono (pe_dc (g := gT X.kw lcB t) (tt := tTs X.kw lcB ca C c) (tk := tC X.kw lcB ca W0 (ev C mk)) (tv := tC X.kw lcB ca W0 (ev C m)) g.calm (by rw [g.N]; exact g.nd) hi ok
  (fun s H A cl fp => sgB (g.blk hb s H A cl fp) rfl ht) (fun s H A cl fp => Zqu (hc _ (g.blk hb s H A cl fp) rfl) rfl) (fun s H A cl fp => peB (hk _ (g.blk hb s H A cl fp)) rfl) (fun s H A cl fp => peB (he _ (g.blk hb s H A cl fp)) rfl) (Zbu hs)) fun σ H Q q => ?_
 rw [hv]
 exact Zoe hin q
end
end My
namespace My
open PySem PySem.Spec PyProof.Rows L2
variable [CP] [TC]
section
variable {p : Pg} {C : Cl} {ca : CA} {k : Nat} {ks : Ks} {W : WX} {X : Cx} {tg : Expr}
theorem Zof {kx elt : Expr} {gs : List Comprehension} {scope : Scope} {pos py : Pos} {y : Str} {l : Nat} {env : Env} (h1 : env.scope.kind = .function) (h2 : env.scope.names.lookup y = some .local) (h3 : (py.line == pos.line) = true)
  (h4 : (scope.names.any fun (n, k) => n == y && (k == .local || k == .cell)) = false) : swapsWith (.DictComp kx elt gs scope pos) (some (.Name y py)) l env = pure true := by
 have b1 : env.blockKind = .function := by
  unfold Env.blockKind
  rw [h1]; rfl
 have b2 : env.kindOf y = some .local := h2
 unfold swapsWith
 simp only [b1, b2, h3, h4, Expr.pos]
 rfl
theorem Z9k (g : Good p C ca k ks W X) {y : Str} {py spos : Pos} {i : Nat} {kx elt iter : Expr} {ifs : List Expr} {scope : Scope} {pos : Pos} {vs : List Nat} {t : MT} {it : MI} {c : Option ME} {mk m : ME} (hy : p.N[i]? = some y) (hyl : ks.sc.names.lookup y = some .local)
  (hl : py.line = pos.line) (ha : (scope.names.any fun (n, k) => n == y && (k == .local || k == .cell)) = false)
  (hi : SI ca C W X tg iter it) (hs : Zbx iter = true) (hv : (Zax p scope vs).map (·.2) = vs) (hb : blkC p.N ks.sc scope (Zax p scope vs) = true) (ht : okT p (ks.blk scope) tg t = true) (hin : Zd2 t vs = true)
  (hc : ∀ X', Good p C ca k (ks.blk scope) W0 X' -> X'.kw = X.kw -> PTs X' ifs (tTs X'.kw X'.lc ca C c)) (hk : ∀ X', Good p C ca k (ks.blk scope) W0 X' -> SE ca C W0 X' kx mk) (he : ∀ X', Good p C ca k (ks.blk scope) W0 X' -> SE ca C W0 X' elt m) :
  PS X (.Assign [.Name y py] (.DictComp kx elt [⟨tg, iter, ifs, 0⟩] scope pos) spos) (fun D σ H => tO X.kw X.lc ca W (evO C (.dc vs t it c mk m)) σ H fun v H1 => D.nx (σ.set i (some v)) H1) := by
 have ok : BlkOk X.N X.env.scope scope (Zax p scope vs) := by
  rw [g.N, g.sc]; exact blkOk_by hb
 have hyX : X.env.scope.names.lookup y = some .local := by rw [g.sc]; exact hyl
 have nd : X.N.Nodup := by rw [g.N]; exact g.nd
 have hyN : X.N[i]? = some y := by rw [g.N]; exact hy
 constructor
 intro pins s σ H D I h
 rw [exec_Assign_Name_used _ _ _ _ (Zof g.kind hyX (by simpa using hl) ha)]
 apply Qac
 apply wpAny_standAt
 apply Qac
 have r := Zoe hin h
 rw [<- hv] at r
 have core := dc_core (pos := pos) (pos' := firstIterPos [⟨tg, iter, ifs, 0⟩] pos) (use := some (assign (.Name y py) X.env)) (Qf := fun _ s' => SP X pins D .next s') (g := gT X.kw lcB t) (tt := tTs X.kw lcB ca C c) (tk := tC X.kw lcB ca W0 (ev C mk)) (tv := tC X.kw lcB ca W0 (ev C m)) g.calm nd I hi ok
  (fun s H A cl fp => sgB (g.blk hb s H A cl fp) rfl ht) (fun s H A cl fp => Zqu (hc _ (g.blk hb s H A cl fp) rfl) rfl) (fun s H A cl fp => peB (hk _ (g.blk hb s H A cl fp)) rfl) (fun s H A cl fp => peB (he _ (g.blk hb s H A cl fp)) rfl) (Zbu hs) r (fun L B s' mm H' J q hn f => by
   show wpAny _ _ (assign (.Name y py) X.env (.ref L)) _ _ _
   apply wpAny_assign_Name
   apply store_ok2 (v := V.ref L) J nd hyN (.inl hyX) rfl _ (.inr hyX)
   rintro s2 J2 ⟨a, sb, hab⟩
   obtain ⟨f0, f1, f2, f3, f4, f5⟩ := f
   have ne : B ≠ a := by
    rcases hab with z | z
    ·rw [z]; exact f1
    ·intro w; exact f4 y a z w.symm
   exact ⟨mm, hn.sameBut sb ne, fun h3 sb3 => ⟨_, H', J2.turned (t' := s2.toks) (fun b o hb e => (sb3.2 b hb).trans e) f0 f1 f3 f4 f5, q⟩⟩)
 show wpAny _ X.A (do let _ <- comprehension (.DictComp kx elt [⟨tg, iter, ifs, 0⟩] scope pos) scope X.env (firstIterPos [⟨tg, iter, ifs, 0⟩] pos) newDict false (eval iter X.env) (some (assign (.Name y py) X.env))) _ _ s
 apply Qac
 exact thn core fun _ s' hq => Qah (Qah hq)
end
end My
namespace My
open PySem PySem.Spec PyProof.Rows L2
variable [CP] [TC]
section
variable {prog : Program} {w : World} {A : Around} {env : Env}
theorem Zdr {o : Expr} {name : Str} {ap cp : Pos} {es : List Expr} {Q : Value -> Shared -> Prop} {E : Value -> Shared -> Prop} {s : Shared} (hb : attributeBase o name env (eval o env) = eval o env)
  (hf : methodCallForm (es.length + ([] : List Keyword).length) (backTo cp (starEach es env)) (backToKw cp (keywordEach [] env)) = true) (hl : (ap.endLine == cp.line) = true)
  (h : wpAny (model prog w) A (eval o env) (fun ov s1 => ∀ pl, wpAny (model prog w) A (getMethod ov name pl) (fun fx s2 => wpAny (model prog w) A (callWith cp fx.1 fx.2 (backTo cp (starEach es env)) (backToKw cp (keywordEach [] env))) Q E s2) E s1) E s) :
  wpAny (model prog w) A (eval (.Call (.Attribute o name ap) es [] cp) env) Q E s := by
 have at_ : methodCallPos true o env ap cp = pure cp := by simp [methodCallPos, hl]
 rw [arm_eval_Call, hb]
 apply Qac
 apply wpAny_mono h _ fun _ _ e => e
 intro ov s1 h1
 apply Qac
 apply wpAny_standAt
 unfold methodCall
 rw [hf]
 apply Qac
 apply wpAny_holding
 apply wpAny_mono (h1 _) _ fun _ _ e => e
 intro fx s2 h2
 exact Qac (wpAny_of_eq at_ h2)
end
section
variable {X : Cx} {k : Nat} {f B : Addr} {fd : FuncData} {ps : List Str} {sp : SpL} {W : WX} {x m : Str} {o : Expr} {es : List Expr} {ta : TE} {t : TA} {ap cp p : Pos}
def Zog (B : Addr) (m : Str) (sp : SpL) (W : WX) (ta : TE) (t : TA) : TE := fun σ H Q => ta σ H fun x H1 => ∃ a dx fs, x = .ref a /\ H1 a = some (.ins B dx fs) /\ fs.lookup m = none /\ t σ H1 fun vs H2 => ∀ L, sp L (x :: vs) H2 Q (WE W σ)
theorem Zrw {e : Expr} (ho : PE X o ta) (c : Cls X.kw B) (hm : Meth X.kw B m f) (F : FnG X.prog X.w X.kw X.mg X.base k f fd ps sp) (hgu : X.A.guards = some []) (hr : Room k X.A) (hbd : Binds X.kw fd ps []) (tk : Takes X W) (ha : PA X (e :: es) t)
  (hb : attributeBase o m X.env (eval o X.env) = eval o X.env) (hst : Zaa (e :: es) = true) (hz : (e :: es).length < 30) (hl : (ap.endLine == cp.line) = true) : PE X (.Call (.Attribute o m ap) (e :: es) [] cp) (Zog B m sp W ta t) := by
 constructor
 intro pins s σ H Q I h
 apply Zdr hb (Zei (X := X) (cp := cp) hst hz) hl
 apply thn (ho.run pins s σ H _ I h)
 rintro u s1 ⟨v, H1, I1, rv, a, dx, fs, rfl, ea, hn, q⟩ pl
 cases rv
 apply getmeth_ok I1 ea c hm hn
 rw [Zaa, Qas, Qaa] at hst
 apply PySem.W.callWith_K (first := [.ref a]) (h₀ := X.base) I.ok.mod.kin hm.kp (thn (ha.run cp pins s1 σ H1 _ I1 q) _) (Zak hst.1 es) (Zab _ hst.2)
 rintro us s2 ⟨vs, H2, I2, r, q2⟩
 exact ⟨I2.kIn, F.run1 (us := .ref a :: us) (vs := .ref a :: vs) hgu hr hbd tk I2 (.cons rfl r) (q2 _)⟩
theorem Zoh (ho : PE X o ta) (c : Cls X.kw B) (hm : Meth X.kw B m f) (F : FnG X.prog X.w X.kw X.mg X.base k f fd ps sp) (hgu : X.A.guards = some []) (hr : Room k X.A) (hbd : Binds X.kw fd ps []) (tk : Takes X W)
  (hb : attributeBase o m X.env (eval o X.env) = eval o X.env) (hl : (ap.endLine == cp.line) = true) : PE X (.Call (.Attribute o m ap) [] [] cp) (Zog B m sp W ta tNil) := by
 constructor
 intro pins s σ H Q I h
 apply Zdr hb (Zei (X := X) (cp := cp) (es := []) rfl (by simp)) hl
 apply thn (ho.run pins s σ H _ I h)
 rintro u s1 ⟨v, H1, I1, rv, a, dx, fs, rfl, ea, hn, q⟩ pl
 cases rv
 apply getmeth_ok I1 ea c hm hn
 exact PySem.W.callWith_K0 (first := [.ref a]) I1.kIn hm.kp (F.run1 (us := [.ref a]) (vs := [.ref a]) hgu hr hbd tk I1 (.cons rfl .nil) (q _))
theorem FnG.mk1 {pins : List (Addr × Obj)} {σ : L2.St} {H : Hp} {s : Shared} {Q : VK} {us ds : List Value} {vs dvs : List V} (M : Mk X.kw B f) (F : FnG X.prog X.w X.kw X.mg X.base k f fd ps sp) (hgu : X.A.guards = some []) (hr : Room (k + 1) X.A) (hbd : Binds X.kw fd ps ds) (hd : Vals dvs ds) (tk : Takes X W)
  (I : Inv X pins σ H s) (r : Vals vs us) (h : ∀ y dx, H y = none -> H dx = none -> dx ≠ y -> ∀ L, sp L (.ref y :: vs ++ dvs) (upd (upd H dx (.own y)) y (.ins B dx [])) (fun v H2 => v = .non /\ Q (.ref y) H2) (WE W σ)) :
  wpAny (model X.prog X.w) X.A (PySem.call (.ref B) us) (EP X pins σ Q) X.xe s := by
 obtain ⟨d, hd0⟩ : ∃ d, d = s.heap.objs.size := ⟨_, rfl⟩
 have q0 := h (d + 1) d (by rw [hd0]; exact I.hok.fresh (Nat.le_succ _)) (by rw [hd0]; exact I.hok.fresh (Qao _)) (Qbg (Nat.lt_succ_self _))
 rw [hd0] at q0
 have J := Inv.made (C := B) I
 have r1 : Vals (V.ref (s.heap.objs.size + 1) :: vs) (Value.ref (s.heap.objs.size + 1) :: us) := .cons rfl r
 have rr : Vals (V.ref (s.heap.objs.size + 1) :: vs ++ dvs) (Value.ref (s.heap.objs.size + 1) :: us ++ ds) := r1.append hd
 have ln : (Value.ref (s.heap.objs.size + 1) :: us ++ ds).length = ps.length := by
  rw [<- rr.length]; exact F.len _ _ _ _ _ (q0 lcB)
 have bt := hbd _ _ J.kIn ln
 have hgu' : (X.A.under (.builtin "type.__call__" ⟨.ref B :: us, []⟩)).guards = some [] := by
  first | exact hgu | simpa [Around.under] using hgu
 apply wpAny_call
 apply make_map (f := f) I.kIn M.makes M.init (beq_iff_eq.mp M.fn)
 apply codeAny_mono (F.go _ X.stack _ _ ⟨Value.ref (s.heap.objs.size + 1) :: us, []⟩ _ _ _ _ hgu' (hr.make B us []) (J.env0.make B us []) bt rr (q0 _))
 intro res s' hq
 match res, hq with
 | .error e, hq => exact passAt tk σ pins _ _ e s' J hq
 | .ok (.ret u), hq =>
  obtain ⟨v, H', I3, rv, ev, q3⟩ := J.after hq
  subst ev
  exact ⟨rv, ⟨V.ref (s.heap.objs.size + 1), H', I3, rfl, q3⟩⟩
 | .ok .next, hq => exact hq.elim
 | .ok .brk, hq => exact hq.elim
 | .ok .cont, hq => exact hq.elim
def Zoi (B : Addr) (sp : SpL) (dvs : List V) (W : WX) (t : TA) : TE := fun σ H Q => t σ H fun vs H1 => ∀ y dx, H1 y = none -> H1 dx = none -> dx ≠ y -> ∀ L, sp L (.ref y :: vs ++ dvs) (upd (upd H1 dx (.own y)) y (.ins B dx [])) (fun v H2 => v = .non /\ Q (.ref y) H2) (WE W σ)
theorem Zrx {e : Expr} {ds : List Value} {dvs : List V} (M : Mk X.kw B f) (F : FnG X.prog X.w X.kw X.mg X.base k f fd ps sp) (hgu : X.A.guards = some []) (hr : Room (k + 1) X.A) (hg : Gl X x) (hm : X.mg x = some (.ref B)) (hbd : Binds X.kw fd ps ds) (hd : Vals dvs ds) (tk : Takes X W) (ha : PA X (e :: es) t) (hst : Zaa (e :: es) = true) (hdb : (x == ("__debug__" : Str)) = false) :
  PE X (.Call (.Name x p) (e :: es) [] cp) (Zoi B sp dvs W t) := by
 constructor
 intro pins s σ H Q I h
 rw [Zaa, Qas, Qaa] at hst
 apply wpAny_Call_Name_kw
 apply ld_glob I hg hm _ hdb
 apply PySem.W.callWith_K (h₀ := X.base) I.ok.mod.kin M.kp (thn (ha.run cp pins s σ H _ I h) _) (Zak hst.1 es) (Zab _ hst.2)
 rintro us s1 ⟨vs, H1, I1, r, q⟩
 exact ⟨I1.kIn, F.mk1 M hgu hr hbd hd tk I1 r q⟩
theorem Zoj {ds : List Value} {dvs : List V} (M : Mk X.kw B f) (F : FnG X.prog X.w X.kw X.mg X.base k f fd ps sp) (hgu : X.A.guards = some []) (hr : Room (k + 1) X.A) (hg : Gl X x) (hm : X.mg x = some (.ref B)) (hbd : Binds X.kw fd ps ds) (hd : Vals dvs ds) (tk : Takes X W) (hdb : (x == ("__debug__" : Str)) = false) :
  PE X (.Call (.Name x p) [] [] cp) (Zoi B sp dvs W tNil) := by
 constructor
 intro pins s σ H Q I h
 apply wpAny_Call_Name_kw
 apply ld_glob I hg hm _ hdb
 exact PySem.W.callWith_K0 I.kIn M.kp (F.mk1 (us := []) (vs := []) M hgu hr hbd hd tk I .nil h)
def Z9l (B : Addr) (sp : SpL) (ta : TE) : TE := fun σ H Q => ta σ H fun x H1 => ∃ a dx fs, x = .ref a /\ H1 a = some (.ins B dx fs) /\ ∀ L, sp L [.ref a] H1 Q fun _ _ _ => False
theorem Zw0 {q : Addr} {pos : Pos} (ho : PE X o ta) (c : Cls X.kw B) (hm : L2.PropOf X.kw B m q f) (F : FnG X.prog X.w X.kw X.mg X.base k f fd ps sp) (hgu : X.A.guards = some []) (hr : Room (k + 1) X.A) (hbd : Binds X.kw fd ps [])
  (hb : attributeBase o m X.env (eval o X.env) = eval o X.env) : PE X (.Attribute o m pos) (Z9l B sp ta) := by
 constructor
 intro pins s σ H Q I h
 refine attr_of hb (thn (ho.run pins s σ H _ I h) ?_)
 rintro u s1 ⟨v, H1, I1, rv, a, dx, fs, rfl, ea, z⟩
 cases rv
 obtain ⟨mA, O, _⟩ := ins_get I1.hok ea
 obtain ⟨od, J, _⟩ := O.look
 obtain ⟨more, hrec⟩ := hm.rec_
 have I2 := I1.tok (s1.toks + 1)
 have l1 : ([Value.ref a] ++ []).length = ps.length := (show _ = ([V.ref a] : List V).length from rfl).trans (F.len _ _ _ _ _ (z lcB))
 have bt := hbd { s1 with toks := s1.toks + 1 } _ I2.kIn l1
 rw [Qa5] at bt
 have isC : (PySem.W.clsIn X.kw B).isSome = true := by
  obtain ⟨cd, e, _⟩ := PySem.W.any_some c.hd
  rw [e]; rfl
 have hgu' : X.A.in1.guards = some [] := by
  first | exact hgu | simpa [Around.in1] using hgu
 have rr : Vals [V.ref a] [Value.ref a] := .cons rfl .nil
 apply PySem.W.get_bind I1.kIn J (PySem.W.plainGet_of (c.get m)).1 (PySem.W.findObj_data isC hm.at_ hm.get hm.tak) (PySem.W.plainGet_of (c.get m)).2
 apply wpAny_call
 apply PySem.W.prop_get (s := { s1 with toks := s1.toks + 1 }) I1.kIn hrec
 apply codeAny_mono (F.go X.A.in1 X.stack { s1 with toks := s1.toks + 1 } H1 ⟨[.ref a], []⟩ _ _ Q (fun _ _ _ => False) hgu' hr.in1 I2.env0.in1 bt rr (z _))
 intro res s' hq
 match res, hq with
 | .error e, hq => obtain ⟨_, _, _, _, _, _, _, _, _, _, _, _, z⟩ := hq; exact z.elim
 | .ok (.ret u), hq =>
  obtain ⟨v, H', I3, rv, q3⟩ := I2.after hq
  show wpAny _ _ (handedOut u) _ _ _
  rw [PySem.W.handedOut_of (handed_of rv)]
  exact Qah ⟨v, H', I3, rv, q3⟩
 | .ok .next, hq => exact hq.elim
 | .ok .brk, hq => exact hq.elim
 | .ok .cont, hq => exact hq.elim
end
theorem Zok {M : Model} {A : Around} {E : Value -> Shared -> Prop} {s : Shared} {pos : Pos} {x : Addr} {fst : List Value} {Q : Value -> Shared -> Prop} {args : List (Bool × Sem Value)} (hp : args.any (·.1) = false)
  (h : wpAny M A (evalArgs (.ref x) true args []) (fun a s1 => (∃ C ox od, PySem.W.InstAt s1.heap x ox C od /\ ox.data = .plain) /\ wpAny M A (PySem.call (.ref x) (fst ++ a.pos) a.kw) Q E s1) E s) : wpAny M A (callWith pos (.ref x) fst args []) Q E s := by
 unfold callWith
 apply Qac
 apply wpAny_holding
 apply wpAny_mono h _ fun _ _ e => e
 rintro ar s1 ⟨⟨C, ox, od, J, pl⟩, g⟩
 apply Qac
 apply wpAny_standAt
 have L := PySem.W.kco_keeper (M := M) J pl
 have hq : (args.any (·.1) || ([] : List (Option Str × Sem Value)).any (·.1.isNone)) = false := by rw [hp]; rfl
 simp only [hq]
 apply Qac
 apply L.here
 apply Qac
 apply wpAny_mono (wpAny_operateT g) _ fun _ _ e => e
 intro r s2 hr
 apply Qac
 apply wpAny_holding
 apply wpAny_point
 exact Qah hr
section
open PySem.W
def Zqv : List String := ["NoneType", "bool", "int", "str", "tuple", "list", "dict"]
theorem Z2e {T : String} (h : T ∈ Zqv) {nm : String} (hn : nm = "add" \/ nm = "mul") {K : Frag} : (∃ fo, findIn K (.type T) (PySem.dunder nm) = some fo) /\ ∃ ro, findIn K (.type T) (PySem.dunderR nm) = some ro := by
 have q : (Zqv.all fun T => (fastLookup T (PySem.dunder "add")).isSome && (fastLookup T (PySem.dunderR "add")).isSome && (fastLookup T (PySem.dunder "mul")).isSome && (fastLookup T (PySem.dunderR "mul")).isSome) = true := by decide +kernel
 have q := Qap.mp q T h
 simp only [Qaa] at q
 obtain ⟨⟨⟨a1, a2⟩, a3⟩, a4⟩ := q
 rcases hn with rfl | rfl
 ·exact ⟨Option.isSome_iff_exists.mp a1, Option.isSome_iff_exists.mp a2⟩
 ·exact ⟨Option.isSome_iff_exists.mp a3, Option.isSome_iff_exists.mp a4⟩
theorem Zjp {T : String} (h : T ∈ Zqv) {K : Frag} {B : Addr} : subIn K (.type T) (.ref B) = some false := by
 have q : (Zqv.all fun T => (PySem.fastBuiltinMro T).any fun l => l.all fun v => match v with
  | .type _ => true
  | _ => false) = true := by decide +kernel
 have q := Qap.mp q T h
 show (PySem.fastBuiltinMro T).map (·.contains (.ref B)) = some false
 cases e : PySem.fastBuiltinMro T with
 | none => rw [e] at q; cases q
 | some l =>
  rw [e] at q
  have q : (l.all fun v => match v with
   | .type _ => true
   | _ => false) = true := q
  show some (l.contains (.ref B)) = some false
  congr 1
  refine Bool.eq_false_iff.mpr fun z => ?_
  have m := Qaz.mp z
  have := Qap.mp q _ m
  cases this
theorem Zw1 {prog : Program} {w : World} {A : Around} {E : Value -> Shared -> Prop} {s : Shared} {K : Frag} {x C f : Addr} {ox : Obj} {od : Option Obj} {op : Operator} {b tb : Value} {Q : Value -> Shared -> Prop} (X : K.In s.heap) (I : InstAt s.heap x ox C od) (hb : Looks (model prog w) s.heap (typeOf b) tb)
  (O : OwnT K C) (ht : tb = .ref C \/ ∃ T ∈ Zqv, tb = .type T) (ho : op = .Add \/ op = .Mult) (hs : findIn K (.ref C) (opN op) = some (some (.ref f))) (hf : isFn K (.ref f) = true)
  (h : wpAny (model prog w) A (PySem.call (.ref f) [.ref x, b]) (PySem.W.CmpBack Q) E s) : wpAny (model prog w) A (binaryOp op (.ref x) b) Q E s := by
 obtain ⟨cd, rest, hcd, hm⟩ := ksp_first O.first
 obtain ⟨sym, nm', hi, hnm, hs, hr⟩ : ∃ sym nm', op.info = (sym, nm') /\ (nm' = "add" \/ nm' = "mul") /\ findIn K (.ref C) (PySem.dunder nm') = some (some (.ref f)) /\ findIn K (.ref C) (PySem.dunderR nm') = some none := by
  rcases ho with rfl | rfl
  ·exact ⟨_, "add", rfl, .inl rfl, hs, O.rad⟩
  ·exact ⟨_, "mul", rfl, .inr rfl, hs, O.rmu⟩
 have one := ksp_try X I hs hf h
 obtain ⟨hh, g, d, tt, os⟩ := s
 have L1 : Looks (model prog w) hh (typeOf (.ref x)) (.ref C) := I.type
 have L2 : Looks (model prog w) hh (typeOf b) tb := hb
 have L3 : Looks (model prog w) hh (fillsNumberSlot (.ref C) nm') true := fills_K X hcd hm hs
 simp only [binaryOp, hi]
 refine wpAny_holding (Qac ?_)
 unfold binaryOp1
 refine Qac (L1.at (Qac (L2.at (Qac (L3.at ?_)))))
 rcases ht with rfl | ⟨T, hT, rfl⟩
 ·have hne : (Value.ref C == Value.ref C) = true := beq_self_eq_true _
  simp only [hne, if_true]
  ksp_lk
  refine wpAny_mono one (fun r s' hr' => ?_) fun _ _ e => e
  obtain ⟨v, rfl, hq⟩ := hr'
  ksp_lk
  exact hq
 ·obtain ⟨⟨fo, h1⟩, ro, h2⟩ := Z2e hT hnm (K := K)
  have L4 : Looks (model prog w) hh (fillsNumberSlot (.type T) nm') ((fo.isSome && !isSeqSlot fo) || (ro.isSome && !isSeqSlot ro)) := ksp_fillsT X h1 h2
  have L5 : Looks (model prog w) hh (isSubtype (.type T) (.ref C)) false := looks_subIn X (Zjp hT)
  have L6 : Looks (model prog w) hh (numberSlotInPython (.ref C) nm') true := ksp_inPy X hs hr (.inl rfl)
  have L7 : Looks (model prog w) hh (numberSlotInPython (.type T) nm') false := Looks.of_pure rfl
  have L8 : Looks (model prog w) hh (typeLookup (.type T) (PySem.dunderR nm')) ro := looks_findIn X h2
  generalize ((fo.isSome && !isSeqSlot fo) || (ro.isSome && !isSeqSlot ro)) = right at L4
  have hne : (Value.ref C == Value.type T) = false := Bool.eq_false_iff.mpr fun q => by cases beq_iff_eq.mp q
  simp only [hne, Bool.false_eq_true, if_false]
  cases right with
  | false =>
   ksp_lk
   refine wpAny_mono one (fun r s' hr' => ?_) fun _ _ e => e
   obtain ⟨v, rfl, hq⟩ := hr'
   ksp_lk
   exact hq
  | true =>
   ksp_lk
   refine wpAny_mono one (fun r s' hr' => ?_) fun _ _ e => e
   obtain ⟨v, rfl, hq⟩ := hr'
   ksp_lk
   exact hq
end
theorem Zry {prog : Program} {w : World} {A : Around} {E : Value -> Shared -> Prop} {s : Shared} {K : PySem.W.Frag} {x C f : Addr} {ox : Obj} {od : Option Obj} {Q : Value -> Shared -> Prop} (X : K.In s.heap) (J : PySem.W.InstAt s.heap x ox C od) (hs : PySem.W.findIn K (.ref C) "__len__" = some (some (.ref f))) (hf : PySem.W.isFn K (.ref f) = true)
  (h : wpAny (model prog w) A.in1 (PySem.call (.ref f) [.ref x]) (fun v s' => ∃ (n : Int) (tk : Tok), v = .int n tk /\ 0 <= n /\ n < 2 ^ 62 /\ Q (.int n s'.toks) { s' with toks := s'.toks + 1 }) E s) : wpAny (model prog w) A (PySem.call (.builtin "len") [.ref x]) Q E s := by
 apply PySem.Calls.call_function_entry PySem.kind_len PySem.plain_len PySem.entry_len (PySem.args_len1 _)
 unfold PySem.Builtin.«len»
 apply Qac (m := oneArg "len" ⟨[.ref x], []⟩)
 apply Qah
 apply Qac (m := callSpecial? (.ref x) (PySem.Str.ofString "__len__"))
 apply PySem.W.special_fn X J hs (beq_iff_eq.mp hf)
 apply wpAny_mono h _ fun _ _ e => e
 rintro r s' ⟨n, tk, rfl, n0, n1, q⟩
 apply Qac
 apply wpAny_holding
 apply Qah
 apply Qac
 apply wpAny_letGo
 show wpAny _ _ (if n < 0 then _ else _) _ _ _
 rw [Qat (by omega)]
 show wpAny _ _ (if n >= 2 ^ 63 then _ else _) _ _ _
 rw [Qat (by omega)]
 apply Qac
 apply wpAny_mkInt
 exact Qah ⟨_, rfl, q⟩
section
variable {X : Cx} {k : Nat} {f B : Addr} {fd : FuncData} {ps : List Str} {sp : SpL} {W : WX} {x : Str}
def Z9m (B : Addr) (sp : SpL) (W : WX) (ta : TE) : TE := fun σ H Q => ta σ H fun x H1 => ∃ a dx fs, x = .ref a /\ H1 a = some (.ins B dx fs) /\ ∀ L, sp L [.ref a] H1 (fun v H2 => ∃ n : Int, v = .int n /\ 0 <= n /\ n < 2 ^ 62 /\ Q (.int n) H2) (WE W σ)
theorem Zw2 {o : Expr} {ta : TE} {p1 cp : Pos} (ho : PE X o ta) (hm : Meth X.kw B "__len__" f) (F : FnG X.prog X.w X.kw X.mg X.base k f fd ps sp) (hgu : X.A.guards = some []) (hr : Room (k + 1) X.A) (hbd : Binds X.kw fd ps []) (tk : Takes X W) (hg : Gl X "len") (hmg : X.mg "len" = none) (hst : Zah o = true) :
  PE X (.Call (.Name "len" p1) [o] [] cp) (Z9m B sp W ta) := by
 constructor
 intro pins s σ H Q I h
 apply wpAny_Call_Name_kw
 apply ld_blt I hg hmg (Zjm .len)
 have ha : PA X [o] _ := pa_cons ho pa_nil (Zak hst [])
 refine PyProof.Rows.callWith_builtin1 (thn (ha.run cp pins s σ H (fun vs H1 => match vs with
  | [x] => ∃ a dx fs, x = .ref a /\ H1 a = some (.ins B dx fs) /\ ∀ L, sp L [.ref a] H1 (fun v H2 => ∃ n : Int, v = .int n /\ 0 <= n /\ n < 2 ^ 62 /\ Q (.int n) H2) (WE W σ)
  | _ => False) I ?_) ?_) (Zak hst []) (by rfl)
 ·exact h
 ·rintro us s1 ⟨vs, H1, I1, r, zz⟩
  obtain ⟨x, rfl⟩ : ∃ x, vs = [x] := by
   rcases vs with _ | ⟨x, _ | ⟨y, vs⟩⟩
   ·exact zz.elim
   ·exact ⟨x, rfl⟩
   ·exact zz.elim
  obtain ⟨a, dx, fs, rfl, ea, z⟩ := zz
  obtain ⟨u, rfl, ru⟩ := vals1 r
  cases (show u = Value.ref a from ru)
  obtain ⟨mA, O, _⟩ := ins_get I1.hok ea
  obtain ⟨od, J, _⟩ := O.look
  apply Zry I1.kIn J hm.at_ hm.fn
  have l1 : ([Value.ref a] ++ []).length = ps.length := (show _ = ([V.ref a] : List V).length from rfl).trans (F.len _ _ _ _ _ (z lcB))
  have bt := hbd s1 _ I1.kIn l1
  rw [Qa5] at bt
  have hgu' : X.A.in1.guards = some [] := by
   first | exact hgu | simpa [Around.in1] using hgu
  have rr : Vals [V.ref a] [Value.ref a] := .cons rfl .nil
  apply wpAny_call
  apply codeAny_mono (F.go X.A.in1 X.stack s1 H1 ⟨[.ref a], []⟩ _ _ _ (WE W σ) hgu' hr.in1 I1.env0.in1 bt rr (z _))
  intro res s' hq
  match res, hq with
  | .error e, hq => exact passAt tk σ pins H1 _ e s' I1 hq
  | .ok (.ret u), hq =>
   obtain ⟨v, H2, I2, rv, n, rfl, n0, n1, q⟩ := I1.after hq
   obtain ⟨t, rfl⟩ := rv
   exact ⟨n, t, rfl, n0, n1, .int n, H2, I2.tok _, ⟨_, rfl⟩, q⟩
  | .ok .next, hq => exact hq.elim
  | .ok .brk, hq => exact hq.elim
  | .ok .cont, hq => exact hq.elim
def TyQ (K : PySem.W.Frag) (B : Addr) (H : Hp) (y : V) : Prop := ∃ t, TyX K H y t /\ (t = .ref B \/ ∃ T ∈ Zqv, t = .type T)
def Yf7 (K : PySem.W.Frag) (B : Addr) (sp : SpL) (W : WX) (ta tb : TE) : TE := fun σ H Q => ta σ H fun x H1 => tb σ H1 fun y H2 => ∃ a dx fs, x = .ref a /\ H2 a = some (.ins B dx fs) /\ TyQ K B H2 y /\ ∀ L, sp L [.ref a, y] H2 Q (WE W σ)
theorem Z2f {o e : Expr} {ta tb : TE} {op : Operator} {pos : Pos} (ha : PE X o ta) (hb : PE X e tb) (hm : Meth X.kw B (opN op) f) (O : OwnT X.kw B) (ho : op = .Add \/ op = .Mult) (F : FnG X.prog X.w X.kw X.mg X.base k f fd ps sp) (hgu : X.A.guards = some []) (hr : Room k X.A) (hbd : Binds X.kw fd ps []) (tk : Takes X W) :
  PE X (.BinOp o op e pos) (Yf7 X.kw B sp W ta tb) := by
 constructor
 intro pins s σ H Q I h
 refine wpAny_BinOp (binT ha hb I h fun v u s2 x y H2 I2 rx ry q => ?_)
 obtain ⟨a, dx, fs, rfl, ea, ⟨t, ty, ht⟩, z⟩ := q
 cases (show v = Value.ref a from rx)
 obtain ⟨mA, Ob, _⟩ := ins_get I2.hok ea
 obtain ⟨od, J, _⟩ := Ob.look
 obtain ⟨P, Z, pz, _⟩ := kit_of I2 ry ty
 refine Zw1 (tb := t) I2.kIn J (Z.ty _ _ I2.kIn pz) O ht ho hm.at_ hm.fn ?_
 refine wpAny_mono (F.run1 (us := [.ref a, u]) (vs := [.ref a, y]) hgu hr hbd tk I2 (.cons rfl (.cons ry .nil)) (z _)) (fun r s3 hq => ?_) fun _ _ e => e
 obtain ⟨v, H3, I3, rv, q⟩ := hq
 have out : EP X pins σ Q r s3 := ⟨v, H3, I3, rv, q⟩
 cases v with
 | non => cases (show r = Value.none from rv); exact out
 | bl b => cases (show r = Value.bool b from rv); exact out
 | int i => obtain ⟨t, e⟩ := (show ∃ t, r = Value.int i t from rv); cases e; exact out
 | str i => obtain ⟨t, e⟩ := (show ∃ t, r = Value.str i t from rv); cases e; exact out
 | byt i => obtain ⟨t, e⟩ := (show ∃ t, r = Value.bytes i t from rv); cases e; exact out
 | flt i => obtain ⟨t, e⟩ := (show ∃ t, r = Value.float i t from rv); cases e; exact out
 | ref a => cases (show r = Value.ref a from rv); exact out
 | ty n => cases (show r = Value.type n from rv); exact out
def Zup (B : Addr) (sp : SpL) (W : WX) (i : Nat) (t : TA) : TE := fun σ H Q => ∃ a, σ[i]? = some (some (.ref a)) /\ t σ H fun vs H2 => ∃ dx fs, H2 a = some (.ins B dx fs) /\ ∀ L, sp L (.ref a :: vs) H2 Q (WE W σ)
theorem Zrz {i : Nat} {p1 cp : Pos} {e : Expr} {es : List Expr} {t : TA} (hN : X.N[i]? = some x) (hv : Vis X.env.scope x) (hm : Meth X.kw B "__call__" f) (hfn : PySem.W.fnIn X.kw f = true) (F : FnG X.prog X.w X.kw X.mg X.base k f fd ps sp) (hgu : X.A.guards = some []) (hr : Room k X.A) (hbd : Binds X.kw fd ps []) (tk : Takes X W)
  (ha : PA X (e :: es) t) (hdb : (x == ("__debug__" : Str)) = false) (hcd : (x == ("__classdict__" : Str)) = false) (he : starEach (e :: es) X.env = (false, eval e X.env) :: starEach es X.env) (hpl : (backTo cp (starEach es X.env)).any (·.1) = false) :
  PE X (.Call (.Name x p1) (e :: es) [] cp) (Zup B sp W i t) := by
 constructor
 intro pins s σ H Q I h
 obtain ⟨a, hs, ht⟩ := h
 apply wpAny_Call_Name_kw
 have lv := (pe_var (pos := p1) hN hv hdb hcd).run pins s σ H (fun v H1 => v = .ref a /\ H1 = H) I ⟨.ref a, hs, rfl, rfl⟩
 apply thn lv
 rintro u s1 ⟨v, H1, I1, r1, rfl, rfl⟩
 cases r1
 have run := ha.run cp pins s1 σ _ _ I1 ht
 rw [he] at run ⊢
 have hp : (backTo cp ((false, eval e X.env) :: starEach es X.env)).any (·.1) = false := by
  show (false || (backTo cp (starEach es X.env)).any (·.1)) = false
  rw [hpl]; rfl
 refine Zok hp (PySem.Calls.evalArgs_plain (thn run ?_))
 rintro us s2 ⟨vs, H2, I2, r, dx, fs, ea, q⟩
 obtain ⟨mA, O, _⟩ := ins_get I2.hok ea
 obtain ⟨od, J, _⟩ := O.look
 refine ⟨⟨B, _, _, J, rfl⟩, ?_⟩
 have rr : Vals (V.ref a :: vs) (Value.ref a :: us) := .cons rfl r
 have l1 : (Value.ref a :: us ++ []).length = ps.length := by rw [Qa5, <- rr.length]; exact F.len _ _ _ _ _ (q lcB)
 have bt := hbd s2 _ I2.kIn l1
 rw [Qa5] at bt
 apply wpAny_call
 apply PySem.W.kco_code I2.kIn J rfl hm.at_ hm.fn hfn
 apply codeAny_mono (F.go X.A X.stack s2 H2 ⟨Value.ref a :: us, []⟩ _ _ Q (WE W σ) hgu hr I2.env0 bt rr (q _))
 intro res s' hq
 match res, hq with
 | .error e, hq => exact passAt tk σ pins H2 s2 e s' I2 hq
 | .ok (.ret u), hq => exact I2.after hq
 | .ok .next, hq => exact hq.elim
 | .ok .brk, hq => exact hq.elim
 | .ok .cont, hq => exact hq.elim
end
theorem RFs.lookN {r : D -> V -> Prop} {f : Str} : ∀ {xs : List (Str × D)} {us : List (Str × V)}, RFs r xs us -> xs.lookup f = none -> us.lookup f = none
 | _, _, .nil, _ => rfl
 | _, _, .cons (k := g) a t, h => by
  rw [List.lookup_cons] at h ⊢
  cases e : f == g with
  | true => rw [e] at h; cases h
  | false =>
   rw [e] at h
   exact RFs.lookN t h
theorem RFs.lookS {r : D -> V -> Prop} {f : Str} {d : D} : ∀ {xs : List (Str × D)} {us : List (Str × V)}, RFs r xs us -> xs.lookup f = some d -> ∃ v, us.lookup f = some v /\ r d v
 | _, _, .nil, h => by cases h
 | _, _, .cons (k := g) a t, h => by
  rw [List.lookup_cons] at h ⊢
  cases e : f == g with
  | true =>
   rw [e] at h
   cases h
   exact ⟨_, rfl, a⟩
  | false =>
   rw [e] at h
   exact RFs.lookS t h
theorem RFs.put {r : D -> V -> Prop} {f : Str} {d : D} {v : V} (h : r d v) : ∀ {xs : List (Str × D)} {us : List (Str × V)}, RFs r xs us -> RFs r (Zl9 f d xs) (putF f v us)
 | _, _, .nil => .cons h .nil
 | _, _, .cons (k := g) a t => by
  unfold Zl9 putF
  by_cases e : g = f
  ·rw [Qan e, Qan e]; exact .cons h t
  ·rw [Qat e, Qat e]; exact .cons a (RFs.put h t)
theorem RFs.length {r : D -> V -> Prop} : ∀ {xs : List (Str × D)} {us : List (Str × V)}, RFs r xs us -> us.length = xs.length
 | _, _, .nil => rfl
 | _, _, .cons a t => by simp [RFs.length t]
section
variable {p : Pg} {C : Cl} {ca : CA} {k : Nat} {ks : Ks} {W : WX} {X : Cx}
theorem Zkq {cs : List CI} {c f : Str} (h : Z0k cs c f = true) : ∃ x ∈ cs, x.c = c /\ f ∈ x.fs := by
 unfold Z0k at h
 obtain ⟨x, hx, q⟩ := Qa1.mp h
 simp only [Qaa, Qab, Qaz] at q
 exact ⟨x, hx, q.1, q.2⟩
theorem Zez {cs : List CI} {c m d : Str} (h : Zqt cs c m d = true) : (CP.cp d).isEmpty = true /\ ∃ x ∈ cs, x.c = c /\ (m, d) ∈ x.ms := by
 unfold Zqt Zmn at h
 rw [Qaa] at h
 obtain ⟨x, hx, q⟩ := Qa1.mp h.2
 simp only [Qaa, Qab, Qaz] at q
 exact ⟨h.1, x, hx, q.1, q.2⟩
theorem Zol {cs : List CI} {c m d : Str} (h : Zmn cs c m d = true) : ∃ x ∈ cs, x.c = c /\ (m, d) ∈ x.ms := by
 unfold Zmn at h
 obtain ⟨x, hx, q⟩ := Qa1.mp h
 simp only [Qaa, Qab, Qaz] at q
 exact ⟨x, hx, q.1, q.2⟩
theorem Zr0 {cs : List CI} {c m d : Str} (h : Z6p cs c m d = true) : (CP.cp d).isEmpty = true /\ ∃ x ∈ cs, x.c = c /\ ∃ q ∈ x.ms, q.2 = d /\ Zbf q.1 = true /\ bsN q.1 = m /\ Zhy q.1 = false := by
 unfold Z6p at h
 rw [Qaa] at h
 obtain ⟨x, hx, q⟩ := Qa1.mp h.2
 simp only [Qaa, Qab, Qa1, Qav] at q
 obtain ⟨e, y, hy, ⟨⟨q1, q2⟩, q3⟩, q4⟩ := q
 exact ⟨h.1, x, hx, e, y, hy, q1, q2, q3, q4⟩
theorem Zkr {cs : List CI} {c d : Str} (h : Z0n cs c d = true) : (CP.cp d).isEmpty = true /\ ∃ x ∈ cs, x.c = c /\ x.ini = d := by
 unfold Z0n at h
 rw [Qaa] at h
 obtain ⟨x, hx, q⟩ := Qa1.mp h.2
 simp only [Qaa, Qab] at q
 exact ⟨h.1, x, hx, q.1, q.2⟩
theorem Zbm {φ : Nat -> Addr} {S : Store} {H : Hp} {K : KW} {r : Nat} {c : Str} {fs : List (Str × D)} {B : Addr} (rel : RelS K φ S H) (e : S.get r = some (.ins c fs)) (hB : PySem.W.nsIn K mainGlobals c = some (some (.ref B))) : ∃ dx vs, H (φ r) = some (.ins B dx vs) /\ RFs (RV K φ S.nx H) fs vs := by
 obtain ⟨u, hu, B', dx, vs, h1, rfl, h2⟩ := rel.obj r _ e
 rw [hB] at h1
 cases h1
 exact ⟨dx, vs, hu, h2⟩
theorem Zom {S : Store} {c f : Str} {x d : D} (h : Z05 S c f x = some d) : ∃ r fs, x = .ref r /\ S.get r = some (.ins c fs) /\ fs.lookup f = some d := by
 unfold Z05 at h
 split at h
 ·split at h
  ·rename_i r _ c' fs e
   split at h
   ·rename_i ec
    subst ec
    exact ⟨r, fs, rfl, e, h⟩
   ·cases h
  ·cases h
 ·cases h
theorem Z2g (g : Good p C ca k ks W X) {o : Expr} {mo : ME} {c f : Str} {pos : Pos} (ho : SE ca C W X o mo) (hs : Zcb o = true) (hc : Z0k p.cs c f = true) : SE ca C W X (.Attribute o f pos) (.fld c mo f) := by
 obtain ⟨x, hx, rfl, hf⟩ := Zkq hc
 obtain ⟨B, T⟩ := g.cl x hx
 refine SE.plain (PE.mono (pe_fld ho.pe (Zbz hs _)) fun σ H Q ⟨φ, S, ρ, a, h⟩ => ?_) rfl
 simp only [ev] at h
 refine Zag a h fun dx S1 φ1 H1 v st1 a1 rx h1 => ?_
 obtain ⟨d, e, q⟩ := Zas h1
 obtain ⟨r, fs, rfl, e1, e2⟩ := Zom e
 obtain ⟨dd, vs, hu, rf⟩ := Zbm a1.rel e1 T.ns
 obtain ⟨y, ey, ry⟩ := rf.lookS e2
 have ex := rx.refE
 subst ex
 exact ⟨_, B, dd, vs, y, rfl, hu, T.cl, T.no f hf, ey, (Zaf.step st1 q).now a1.rel ry⟩
theorem Za6 {S : Store} {c m : Str} {x : D} (h : Zes S c m x = true) : ∃ r fs, x = .ref r /\ S.get r = some (.ins c fs) /\ fs.lookup m = none := by
 unfold Zes at h
 split at h
 ·split at h
  ·rename_i r _ c' fs e
   simp only [Qaa, Qab, Option.isNone_iff_eq_none] at h
   obtain ⟨rfl, h2⟩ := h
   exact ⟨r, fs, rfl, e, h2⟩
  ·cases h
 ·cases h
theorem Zar {K : PySem.W.Frag} {B f : Addr} {m : Str} (h : Zwh K B m f) (e : Zbf m = false) : Meth K B m f /\ PySem.W.fnIn K f = true := by
 rcases h with ⟨z, _⟩ | ⟨z, _⟩ | ⟨_, h⟩
 ·rw [e] at z; cases z
 ·rw [e] at z; cases z
 ·exact h
theorem Zw3 (g : Good p C ca k ks W X) {o : Expr} {mo : ME} {c m d : Str} {es : List Expr} {ms : List ME} {ap cp : Pos} (ho : SE ca C W X o mo) (ha : SA ca C W X es ms) (hlen : es = [] -> ms = []) (hst : Zaa es = true) (hs : Zcb o = true) (hl : ap.endLine = cp.line) (hz : es.length < 30) (hc : Zqt p.cs c m d = true) (hend : Zbf m = false) :
  SE ca C W X (.Call (.Attribute o m ap) es [] cp) (.meth c mo m d ms) := by
 obtain ⟨hcp, x, hx, rfl, hm⟩ := Zez hc
 obtain ⟨B, T⟩ := g.cl x hx
 obtain ⟨f, fd, ps, MX, bd, F⟩ := T.ms _ hm
 obtain ⟨M, _⟩ := Zar MX hend
 have hb : attributeBase o m X.env (eval o X.env) = eval o X.env := Zbz hs _
 have hline : (ap.endLine == cp.line) = true := by simpa using hl
 refine SE.plain ?_ rfl
 have rd : ∀ σ H Q, tC X.kw X.lc ca W (ev C (.meth x.c mo m d ms)) σ H Q -> Zog B m (spC ca C X.kw d) W (tC X.kw X.lc ca W (ev C mo)) (tG X.kw X.lc ca W (RVs X.kw) (evs C ms)) σ H Q := fun σ H Q ⟨φ, S, ρ, a, h⟩ => by
  simp only [ev] at h
  refine Zag a h fun dx S1 φ1 H1 v st1 a1 rx h1 => ?_
  split at h1
  ·rename_i hi
   obtain ⟨r, fs, rfl, e1, e2⟩ := Za6 hi
   obtain ⟨dd, vs, hu, rf⟩ := Zbm a1.rel e1 T.ns
   have ex := rx.refE
   subst ex
   refine ⟨_, dd, vs, rfl, hu, rf.lookN e2, ?_⟩
   exact Zag a1 h1 fun ds S2 φ2 H2 ws st2 a2 rs h2 L => ⟨φ2, S2, .ref r :: ds, a2.rel, .cons (rx.mono a1.rel st2) rs, Znd hcp, R.wp_mono h2 (fun _ _ z => Zaf.step (st1.trans st2) z) fun _ _ z => z⟩
  ·exact h1.elim
 cases es with
 | nil =>
  have e0 := hlen rfl
  subst e0
  refine PE.mono (Zoh ho.pe T.cl M F g.gu g.room bd g.tk hb hline) fun σ H Q q => ?_
  obtain ⟨φ, S, ρ, a, h⟩ := rd σ H Q q
  refine ⟨φ, S, ρ, a, R.wp_mono h (fun dx S1 h1 φ1 H1 v st1 r1 rx => ?_) fun _ _ z => z⟩
  obtain ⟨b, dd, vs, rfl, hu, hn, φ2, S2, ρ2, a2, h2⟩ := h1 φ1 H1 v st1 r1 rx
  simp only [evs] at h2
  exact ⟨b, dd, vs, rfl, hu, hn, h2 φ2 H1 [] a2.rel.refl a2.rel .nil⟩
 | cons e es => exact PE.mono (Zrw ho.pe T.cl M F g.gu g.room bd g.tk ha hb hst hz hline) rd
theorem Zds {cs : List CI} {c m d : Str} (h : Zfw cs c m d = true) : (CP.cp d).isEmpty = true /\ ∃ x ∈ cs, x.c = c /\ (m, d) ∈ x.ms /\ Z0l x = true := by
 unfold Zfw at h
 rw [Qaa] at h
 obtain ⟨x, hx, q⟩ := Qa1.mp h.2
 simp only [Qaa, Qab, Qaz] at q
 exact ⟨h.1, x, hx, q.1.1, q.1.2, q.2⟩
theorem Zks {cs : List CI} {c : Str} (h : Z0m cs c = true) : ∃ x ∈ cs, x.c = c /\ Z0l x = true := by
 unfold Z0m at h
 obtain ⟨x, hx, q⟩ := Qa1.mp h
 simp only [Qaa, Qab] at q
 exact ⟨x, hx, q.1, q.2⟩
theorem Zdt {S : Store} {c : Str} {x : D} (h : Zq3 S c x = true) : ∃ r fs, x = .ref r /\ S.get r = some (.ins c fs) := by
 unfold Zq3 at h
 split at h
 ·rename_i r
  split at h
  ·rename_i c' fs e
   have := Qau h
   subst this
   exact ⟨r, fs, rfl, e⟩
  ·cases h
 ·cases h
theorem Zon {d : D} (h : Zbj d = true) : tyD d ∈ Zqv := by
 cases d <;> first | (cases h; done) | (simp [tyD, Zqv]; done)
theorem Zw4 {K : PySem.W.Frag} {B : Addr} {T : String} (O : OwnT K B) (h : T ∈ Zqv) : PySem.W.kitOne K (.type T) (.ref B) = some false := by
 obtain ⟨cd, rest, hcd, hm⟩ := PySem.W.ksp_first O.first
 have hne : (Value.type T == Value.ref B) = false := Bool.eq_false_iff.mpr fun q => by cases beq_iff_eq.mp q
 unfold PySem.W.kitOne PySem.W.kitCls
 rw [hne, Qat (by simp)]
 simp only [hcd, O.typ, Option.isSome_some, beq_self_eq_true, Bool.and_self, if_true]
 exact Zjp h
theorem Zkt {K : PySem.W.Frag} {B a dx : Addr} {fs : List (Str × V)} {H : Hp} (O : OwnT K B) (cl : Cls K B) (e : H a = some (.ins B dx fs)) : TyX K H (.ref a) (.ref B) := .base (.ins e cl O.cls O.get O.tak O.obj)
theorem Zw5 {op : Operator} (ho : op = .Add \/ op = .Mult) : Zbf (opN op) = false := by
 rcases ho with rfl | rfl <;> decide +kernel
theorem Z2h (g : Good p C ca k ks W X) {a b : Expr} {mo me : ME} {c d : Str} {op : Operator} {pos : Pos} (ha : SE ca C W X a mo) (hb : SE ca C W X b me) (ho : op = .Add \/ op = .Mult) (hc : Zfw p.cs c (opN op) d = true) : SE ca C W X (.BinOp a op b pos) (.opI c op mo d me) := by
 obtain ⟨hcp, x, hx, rfl, hm, hop⟩ := Zds hc
 obtain ⟨B, T⟩ := g.cl x hx
 have O := T.own hop
 obtain ⟨f, fd, ps, MX, bd, F⟩ := T.ms _ hm
 obtain ⟨M, _⟩ := Zar MX (Zw5 ho)
 refine SE.plain (PE.mono (Z2f ha.pe hb.pe M O ho F g.gu g.room bd g.tk) fun σ H Q ⟨φ, S, ρ, a, h⟩ => ?_) rfl
 simp only [ev] at h
 refine Zag a h fun dx S1 φ1 H1 x1 st1 a1 rx h1 => Zag a1 h1 fun dy S2 φ2 H2 y st2 a2 ry h2 => ?_
 split at h2
 ·rename_i hi
  rw [Qaa, Bool.or_eq_true] at hi
  obtain ⟨hi1, hi2⟩ := hi
  obtain ⟨r, fs, rfl, e2, e3⟩ := Za6 hi1
  obtain ⟨dd, vs, hu, rf⟩ := Zbm a2.rel e2 T.ns
  have rx2 := rx.mono a1.rel st2
  have ex := rx2.refE
  subst ex
  have ty : TyQ X.kw B H2 y := by
   rcases hi2 with ok | io
   ·exact ⟨_, RN.ty (K := X.kw) (.of ry) ok, .inr ⟨_, Zon ok, rfl⟩⟩
   ·obtain ⟨r2, fs2, rfl, e4⟩ := Zdt io
    obtain ⟨dd2, vs2, hu2, _⟩ := Zbm a2.rel e4 T.ns
    have ey := ry.refE
    subst ey
    exact ⟨_, Zkt O T.cl hu2, .inl rfl⟩
  exact ⟨_, dd, vs, rfl, hu, ty, fun L => ⟨φ2, S2, [.ref r, dy], a2.rel, .cons rx2 (.cons ry .nil), Znd hcp, R.wp_mono h2 (fun _ _ z => Zaf.step (st1.trans st2) z) fun _ _ z => z⟩⟩
 ·exact h2.elim
theorem Z2i (g : Good p C ca k ks W X) {a : Expr} {ma : ME} {c : Str} {p1 p2 pos : Pos} (ha : SE ca C W X a ma) (hst : Zah a = true) (h1 : ks.gl "isinstance" = true) (h2 : ks.gl c = true) (h3 : Zac c = true) (hc : Z0m p.cs c = true) : SE ca C W X (.Call (.Name "isinstance" p1) [a, .Name c p2] [] pos) (.isC c ma) := by
 obtain ⟨x, hx, rfl, hop⟩ := Zks hc
 obtain ⟨B, T⟩ := g.cl x hx
 have O := T.own hop
 have pn' : PE X (.Name x.c p2) _ := pe_glob (v := .ref B) (g.gl h2) T.gC rfl (Zad h3)
 refine SE.plain (PE.mono (pe_callB call_isi (g.gl h1) g.ii Zcm (pa_cons ha.pe (pa_cons pn' pa_nil rfl) (Zak hst _)) (by decide) (by decide) (Zak hst _) rfl) fun σ H Q ⟨φ, S, ρ, a, h⟩ => ?_) rfl
 simp only [ev] at h
 refine Zag a h fun dx S1 φ1 H1 v st1 a1 rx h1 => ?_
 split at h1
 ·rename_i io
  obtain ⟨r, fs, rfl, e2⟩ := Zdt io
  obtain ⟨dd, vs, hu, rf⟩ := Zbm a1.rel e2 T.ns
  have ex := rx.refE
  subst ex
  exact ⟨_, .ref B, .ref B, .ref B, true, rfl, .own B, Zkt O T.cl hu, by unfold PySem.W.kitOne; rw [Qan (beq_self_eq_true _)], Zaf.now (Zaf.step st1 h1) a1.rel (.bl _)⟩
 ·split at h1
  ·rename_i ok
   exact ⟨v, .ref B, .type (tyD dx), .ref B, false, rfl, .own B, RN.ty (K := X.kw) (.of rx) ok, Zw4 O (Zon ok), Zaf.now (Zaf.step st1 h1) a1.rel (.bl _)⟩
  ·exact h1.elim
theorem Zw6 (g : Good p C ca k ks W X) {a : Expr} {ma : ME} {c : Str} {t : Ty} {p1 p2 pos : Pos} (ha : SE ca C W X a ma) (hst : Zah a = true) (h1 : ks.gl "isinstance" = true) (h2 : ks.gl (tyS t) = true) (ht : t = .int \/ t = .bool) (hc : Z0m p.cs c = true) : SE ca C W X (.Call (.Name "isinstance" p1) [a, .Name (tyS t) p2] [] pos) (.isiI c ma t) := by
 obtain ⟨x, hx, rfl, hop⟩ := Zks hc
 obtain ⟨B, T⟩ := g.cl x hx
 have O := T.own hop
 refine SE.plain (PE.mono (pe_callB call_isi (g.gl h1) g.ii Zcm (pa_cons ha.pe (pa_cons (Z1x g h2) pa_nil rfl) (Zak hst _)) (by decide) (by decide) (Zak hst _) rfl) fun σ H Q ⟨φ, S, ρ, a, h⟩ => ?_) rfl
 simp only [ev] at h
 refine Zag a h fun dx S1 φ1 H1 v st1 a1 rx h1 => ?_
 split at h1
 ·rename_i io
  obtain ⟨r, fs, rfl, e2⟩ := Zdt io
  obtain ⟨dd, vs, hu, rf⟩ := Zbm a1.rel e2 T.ns
  have ex := rx.refE
  subst ex
  exact ⟨_, .ty (tyN t), .ref B, .type (tyN t), false, rfl, .ty _, Zkt O T.cl hu, by rcases ht with rfl | rfl <;> first | exact O.kbi | exact O.kbb, Zaf.now (Zaf.step st1 h1) a1.rel (.bl _)⟩
 ·split at h1
  ·rename_i ok
   exact ⟨v, .ty (tyN t), .type (tyD dx), .type (tyN t), Zni dx t, rfl, .ty _, RN.ty (K := X.kw) (.of rx) ok, Zuk X.kw _ ok t, Zaf.now (Zaf.step st1 h1) a1.rel (.bl _)⟩
  ·exact h1.elim
theorem Z2j (g : Good p C ca k ks W X) {o : Expr} {mo : ME} {c m d : Str} {pos : Pos} (ho : SE ca C W X o mo) (hs : Zcb o = true) (hc : Z6p p.cs c m d = true) : SE ca C W X (.Attribute o m pos) (.prp c mo m d) := by
 obtain ⟨hcp, x, hx, rfl, q, hq, rfl, e1, rfl, e9⟩ := Zr0 hc
 obtain ⟨B, T⟩ := g.cl x hx
 obtain ⟨f, fd, ps, MX, bd, F⟩ := T.ms _ hq
 obtain ⟨pa, hm⟩ : ∃ pa, L2.PropOf X.kw B (bsN q.1) pa f := by
  rcases MX with ⟨_, z, _⟩ | ⟨_, _, h⟩ | ⟨h, _⟩
  ·rw [e9] at z; cases z
  ·exact h
  ·rw [e1] at h; cases h
 refine SE.plain (PE.mono (Zw0 ho.pe T.cl hm F g.gu g.room3 bd (Zbz hs _)) fun σ H Q ⟨φ, S, ρ, a, h⟩ => ?_) rfl
 simp only [ev] at h
 refine Zag a h fun dx S1 φ1 H1 v st1 a1 rx h1 => ?_
 split at h1
 ·rename_i hi
  obtain ⟨r, fs, rfl, e2, e3⟩ := Za6 hi
  obtain ⟨dd, vs, hu, rf⟩ := Zbm a1.rel e2 T.ns
  have ex := rx.refE
  subst ex
  exact ⟨_, dd, vs, rfl, hu, fun L => ⟨φ1, S1, [.ref r], a1.rel, .cons rx .nil, Znd hcp, R.wp_mono (R.wp_calm _ _ _ ▸ h1) (fun _ _ z => Zaf.step st1 z) fun _ _ z => z.elim⟩⟩
 ·exact h1.elim
theorem Zw7 (g : Good p C ca k ks W X) {o : Expr} {mo : ME} {c d : Str} {p1 cp : Pos} (ho : SE ca C W X o mo) (hst : Zah o = true) (hgl : ks.gl "len" = true) (hc : Zqt p.cs c "__len__" d = true) : SE ca C W X (.Call (.Name "len" p1) [o] [] cp) (.lenM c mo d) := by
 obtain ⟨hcp, x, hx, rfl, hm⟩ := Zez hc
 obtain ⟨B, T⟩ := g.cl x hx
 obtain ⟨f, fd, ps, MX, bd, F⟩ := T.ms _ hm
 obtain ⟨M, _⟩ := Zar MX (show Zbf "__len__" = false by decide +kernel)
 refine SE.plain (PE.mono (Zw2 ho.pe M F g.gu g.room3 bd g.tk (g.gl hgl) (g.bl .len) hst) fun σ H Q ⟨φ, S, ρ, a, h⟩ => ?_) rfl
 simp only [ev] at h
 refine Zag a h fun dx S1 φ1 H1 v st1 a1 rx h1 => ?_
 split at h1
 ·rename_i hi
  obtain ⟨r, fs, rfl, e2, e3⟩ := Za6 hi
  obtain ⟨dd, vs, hu, rf⟩ := Zbm a1.rel e2 T.ns
  have ex := rx.refE
  subst ex
  rw [R.wp_bind] at h1
  refine ⟨_, dd, vs, rfl, hu, fun L => ⟨φ1, S1, [.ref r], a1.rel, .cons rx .nil, Znd hcp, R.wp_mono h1 (fun y S2 h2 φ2 H2 u st2 r2 ru => ?_) fun _ _ z => z⟩⟩
  split at h2
  ·split at h2
   ·rename_i i hi
    cases ru
    exact ⟨i, rfl, hi.1, hi.2, h2 φ2 H2 (.int i) (st1.trans st2) r2 (.int i)⟩
   ·exact h2.elim
  ·exact h2.elim
 ·exact h1.elim
theorem Zr1 (g : Good p C ca k ks W X) {x c d : Str} {i : Nat} {es : List Expr} {ms : List ME} {p1 cp : Pos} (ha : SA ca C W X es ms) (hne : es.isEmpty = false) (hst : Zaa es = true) (h1 : p.N[i]? = some x) (h2 : ks.vis x = true) (h3 : Zac x = true) (hc : Zqt p.cs c "__call__" d = true) :
  SE ca C W X (.Call (.Name x p1) es [] cp) (.metC c (.var i) "__call__" d ms) := by
 obtain ⟨hcp, y, hy, rfl, hm⟩ := Zez hc
 obtain ⟨B, T⟩ := g.cl y hy
 obtain ⟨f, fd, ps, MX, bd, F⟩ := T.ms _ hm
 obtain ⟨M, hfn⟩ := Zar MX (show Zbf "__call__" = false by decide +kernel)
 refine SE.plain ?_ rfl
 have rd : ∀ σ H Q, tC X.kw X.lc ca W (ev C (.metC y.c (.var i) "__call__" d ms)) σ H Q -> Zup B (spC ca C X.kw d) W i (tG X.kw X.lc ca W (RVs X.kw) (evs C ms)) σ H Q := fun σ H Q ⟨φ, S, ρ, a, h⟩ => by
  simp only [ev] at h
  split at h
  ·rename_i q e
   obtain ⟨v, e1, rv⟩ := a.env.at_ i _ e
   cases q with
   | ref r =>
    have ex := rv.refE
    subst ex
    refine ⟨φ r, e1, Zag a h fun ds S1 φ1 H1 vs st1 a1 rs h1 => ?_⟩
    split at h1
    ·rename_i hi
     obtain ⟨r', fs, er, e2, e3⟩ := Za6 hi
     cases er
     obtain ⟨dd, ws, hu, rf⟩ := Zbm a1.rel e2 T.ns
     have r2 := rv.mono a.rel st1
     have e5 := r2.refE
     rw [<- V.ref.inj e5] at hu
     exact ⟨dd, ws, hu, fun L => ⟨φ1, S1, .ref r :: ds, a1.rel, .cons r2 rs, Znd hcp, R.wp_mono h1 (fun _ _ z => Zaf.step st1 z) fun _ _ z => z⟩⟩
    ·exact h1.elim
   | _ => exact h.elim
  ·exact h.elim
 cases es with
 | nil => cases hne
 | cons e es =>
  rw [Zaa, Qas, Qaa] at hst
  exact PE.mono (Zrz (by rw [g.N]; exact h1) (g.vis h2) M hfn F g.gu g.room bd g.tk ha (Zad h3) (Zat h3) (Zak hst.1 es) (Zab _ hst.2)) rd
theorem Zil {c0 ini : Str} {ms : List ME} {B : Addr} {sp : SpL} {dvs : List V} (hcp : (CP.cp ini).isEmpty = true) (hns : PySem.W.nsIn X.kw mainGlobals c0 = some (some (.ref B))) (hsp : ∀ L vs H Q E, spC ca C X.kw ini L vs H Q E -> sp L (vs ++ dvs) H Q E) {σ : L2.St} {H : Hp} {Q : VK} {φ : Nat -> Addr} {S : Store} {ρ : Ev} (a : At X.kw X.lc φ S ρ σ H)
  (h : ((evs C ms ρ S).bind fun xs S => (C ini (.ref S.nx :: xs) (S.new (.ins c0 []))).bind fun d S' => match d with
   | .non => (.ok (.ref S.nx) S' : RD)
   | _ => .bad).wp (Zaf X.kw (RV X.kw) φ S H Q) (Zck X.kw ca φ S H fun cls dd H' => W cls dd σ H')) :
  tG X.kw X.lc ca W (RVs X.kw) (evs C ms) σ H fun vs H1 => ∀ y dx, H1 y = none -> H1 dx = none -> dx ≠ y -> ∀ L, sp L (.ref y :: vs ++ dvs) (upd (upd H1 dx (.own y)) y (.ins B dx [])) (fun v H2 => v = .non /\ Q (.ref y) H2) (WE W σ) := by
 refine Zag a h fun ds S1 φ1 H1 vs st1 a1 rs h1 => ?_
 intro y dx hy hd ne
 obtain ⟨r2, st2⟩ := a1.rel.lay (o' := .own y) hd
 have hy2 : (upd H1 dx (.own y)) y = none := by rw [upd_ne (Ne.symm ne)]; exact hy
 obtain ⟨r3, st3⟩ := r2.lay (o' := .ins B dx []) hy2
 have off : ∀ i, i < S1.nx -> φ1 i ≠ y := fun i hi z => by
  obtain ⟨u, e, _⟩ := a1.rel.there hi
  rw [z, hy] at e; cases e
 have r4 := r3.adopt (p := y) (o := .ins c0 []) ⟨_, upd_same, B, dx, [], hns, rfl, .nil⟩ off
 have st4 : Step φ1 S1 H1 (phi φ1 S1.nx y) (S1.new (.ins c0 [])) (upd (upd H1 dx (.own y)) y (.ins B dx [])) := (st2.trans st3).adopt (o := .ins c0 []) hy
 have ry : RV X.kw (phi φ1 S1.nx y) (S1.new (.ins c0 [])).nx (upd (upd H1 dx (.own y)) y (.ins B dx [])) (.ref S1.nx) (.ref y) := by
  have := RV.ref (K := X.kw) (φ := phi φ1 S1.nx y) (H := upd (upd H1 dx (.own y)) y (.ins B dx [])) (n := S1.nx + 1) (Nat.lt_succ_self S1.nx)
  rw [Zcu] at this
  rw [Zf4]
  exact this
 rw [R.wp_bind] at h1
 intro L
 refine hsp _ _ _ _ _ ⟨_, _, _, r4, .cons ry (rs.mono a1.rel st4), Znd hcp, R.wp_mono h1 (fun d S5 h5 φ5 H5 v st5 r5 rv => ?_) fun _ _ z => Zck.step st4 z⟩
 split at h5
 ·cases rv
  refine ⟨rfl, h5 φ5 H5 (.ref y) (st1.trans (st4.trans st5)) r5 ?_⟩
  exact ry.mono r4 st5
 ·exact h5.elim
theorem Zw8 (g : Good p C ca k ks W X) {c ini : Str} {es : List Expr} {ms : List ME} {p1 cp : Pos} (ha : SA ca C W X es ms) (hlen : es = [] -> ms = []) (hst : Zaa es = true) (h1 : ks.gl c = true) (h2 : Zac c = true) (hc : Z0n p.cs c ini = true) :
  SE ca C W X (.Call (.Name c p1) es [] cp) (.make c ini ms) := by
 obtain ⟨hcp, x, hx, rfl, rfl⟩ := Zkr hc
 obtain ⟨B, T⟩ := g.cl x hx
 obtain ⟨f, fd, ps, us, dvs, sp, M, bd, hd, F, hsp⟩ := T.mak
 refine SE.plain ?_ rfl
 have rd : ∀ σ H Q, tC X.kw X.lc ca W (ev C (.make x.c x.ini ms)) σ H Q -> tG X.kw X.lc ca W (RVs X.kw) (evs C ms) σ H fun vs H1 => ∀ y dx, H1 y = none -> H1 dx = none -> dx ≠ y -> ∀ L, sp L (.ref y :: vs ++ dvs) (upd (upd H1 dx (.own y)) y (.ins B dx [])) (fun v H2 => v = .non /\ Q (.ref y) H2) (WE W σ) := fun σ H Q ⟨φ, S, ρ, a, h⟩ => by
  simp only [ev] at h
  exact Zil hcp T.ns hsp a h
 cases es with
 | nil =>
  have e0 := hlen rfl
  subst e0
  refine PE.mono (Zoj M F g.gu g.room3 (g.gl h1) T.gC bd hd g.tk (Zad h2)) fun σ H Q q => ?_
  obtain ⟨φ, S, ρ, a, h⟩ := rd σ H Q q
  simp only [evs] at h
  exact h φ H [] a.rel.refl a.rel .nil
 | cons e es => exact PE.mono (Zrx M F g.gu g.room3 (g.gl h1) T.gC bd hd g.tk ha hst (Zad h2)) rd
end
end My
namespace My
open PySem PySem.Spec PyProof.Rows
end My
namespace My
open PySem PySem.Spec PyProof.Rows L2
def wd (d : Option Nat) (p : SetTable.Probe) : SetTable.Probe := { p with dummy := d }
end My
namespace My
open PySem PySem.Spec PyProof.Rows L2 SrtO
end My
namespace My
open PySem PySem.Spec PyProof.Rows L2
end My
namespace My
open PySem PySem.Spec PyProof.Rows L2 SrtO
end My
namespace My
open PySem PySem.Spec PyProof.Rows L2
variable [CP] [TC]
section
open PySem.W
theorem Zuq {prog : Program} {w : World} {A : Around} {E : Value -> Shared -> Prop} {s : Shared} {K : Frag} {x C : Addr} {ox : Obj} {od : Option Obj} {b tb : Value} {Q : Value -> Shared -> Prop} (hu : A.units < cLine) (X : K.In s.heap) (I : InstAt s.heap x ox C od) (hb : Looks (model prog w) s.heap (typeOf b) tb)
  (ht : tb = .ref C \/ ∃ T ∈ Zqv, tb = .type T) {op : CmpOp}
  (one : wpAny (model prog w) A (tryCompare (.ref x) (cmpInfo op).2.1 b) (fun r s' => ∃ v, r = some v /\ Q v s') E s) : wpAny (model prog w) A (richCompare op (.ref x) b) Q E s := by
 unfold richCompare
 simp only [oneThing_ref]
 refine wpAny_holding (Qac (wpAny_cRoomFor hu ?_))
 refine Qac (I.type.here (Qac (hb.here ?_)))
 split
 ·rename_i q
  have e : subIn K tb (.ref C) = some false := by
   rcases ht with rfl | ⟨T, hT, rfl⟩
   ·simp at q
   ·exact Zjp hT
  refine Qac ((looks_subIn X e).here ?_)
  simp only [Bool.false_eq_true, if_false]
  refine Qac (wpAny_mono one (fun r s' z => ?_) fun _ _ e => e)
  obtain ⟨v, rfl, hq⟩ := z
  exact Qah hq
 ·refine Qac (Qah ?_)
  simp only [Bool.false_eq_true, if_false]
  refine Qac (wpAny_mono one (fun r s' z => ?_) fun _ _ e => e)
  obtain ⟨v, rfl, hq⟩ := z
  exact Qah hq
theorem Z2k {prog : Program} {w : World} {A : Around} {E : Value -> Shared -> Prop} {s : Shared} {K : Frag} {x C f : Addr} {ox : Obj} {od : Option Obj} {b : Value} {Q : Value -> Shared -> Prop} (X : K.In s.heap) (I : InstAt s.heap x ox C od) (hs : findIn K (.ref C) "__eq__" = some (some (.ref f))) (hf : isFn K (.ref f) = true)
  (h : wpAny (model prog w) A (PySem.call (.ref f) [.ref x, b]) (PySem.W.CmpBack Q) E s) : wpAny (model prog w) A (tryCompare (.ref x) "__eq__" b) (fun r s' => ∃ v, r = some v /\ Q v s') E s := by
 unfold tryCompare
 refine Qac (ifBound_K X I hs hf (wpAny_mono h (fun v s' hv => ?_) fun _ _ e => e))
 cases v <;> first | exact hv.elim | exact Qah ⟨_, rfl, hv⟩
theorem Zoo {M : Model} {A : Around} {E : Value -> Shared -> Prop} {s : Shared} {K : Frag} {x C : Addr} {ox : Obj} {od : Option Obj} {name : Str} {id : String} {args : List Value} {Q : Option Value -> Shared -> Prop} (X : K.In s.heap) (I : InstAt s.heap x ox C od) (hs : findIn K (.ref C) name = some (some (.builtin id)))
  (hb : ∀ self, bindSpecial (.builtin id) self = pure (.builtin id, [self])) (h : wpAny M A (PySem.call (.builtin id) (.ref x :: args)) (fun v => Q (some v)) E s) : wpAny M A (callSpecialIfBound? (.ref x) name args) Q E s := by
 simp only [callSpecialIfBound?, bindSpecialIfBound?]
 refine wpAny_holding (Qac (Qac (Qac (I.type.here ((looks_findIn X hs).here ?_)))))
 refine Qac (wpAny_askSetting (wpAny_ite ?_))
 have fin : wpAny M A (PySem.call (.builtin id) ([.ref x] ++ args) >>= fun v => pure (some v)) Q E s := Qac (wpAny_mono h (fun v s' h' => Qah h') fun _ _ h' => h')
 split
 ·exact Qac ((Looks.of_pure (hb _)).here (Qah (by exact fin)))
 ·exact wpAny_tryCatch (Qac ((Looks.of_pure (hb _)).here (Qah (by exact fin))))
theorem Z2l {prog : Program} {w : World} {A : Around} {E : Value -> Shared -> Prop} {s : Shared} {K : Frag} {x C f : Addr} {ox : Obj} {od : Option Obj} {b : Value} {Q : Value -> Shared -> Prop} (hu : A.in1.units < cLine) (X : K.In s.heap) (I : InstAt s.heap x ox C od) (O : OwnT K C) (hs : findIn K (.ref C) "__eq__" = some (some (.ref f))) (hf : isFn K (.ref f) = true)
  (h : wpAny (model prog w) A.in1 (PySem.call (.ref f) [.ref x, b]) (fun v s' => ∃ k : Bool, v = .bool k /\ Q (.bool (!k)) s') E s) : wpAny (model prog w) A (tryCompare (.ref x) "__ne__" b) (fun r s' => ∃ v, r = some v /\ Q v s') E s := by
 unfold tryCompare
 refine Qac (Zoo X I O.ne PySem.F.cmp_object.ne.bind ?_)
 refine wpAny_call (codeAny_call_builtin PySem.F.cmp_object.ne.plain PySem.F.cmpEntry_ne (check_slot (i := "object.__ne__") (owner := "object") (n := "__ne__") PySem.F.cmpKind_ne PySem.F.cmpSplit_ne (I.type.andThen (looks_mroIn X O.obj)) (PySem.F.cmpArgs_ne _ _) ?_))
 unfold Builtin.«object.__ne__»
 refine Qac (m := slotArgs "__ne__" 1 _) (Qah ?_)
 refine Qac (m := cRoomFor _ _) (wpAny_cRoomFor hu ?_)
 refine Qac (m := callSpecialIfBound? (.ref x) (Str.ofString "__eq__") _) (ifBound_K X I hs hf (wpAny_mono h (fun v s' hq => ?_) fun _ _ e => e))
 obtain ⟨k, rfl, hq⟩ := hq
 refine Qac (wpAny_truthy_bool ?_)
 exact Qah (Qah ⟨_, rfl, hq⟩)
theorem Zw9 {prog : Program} {w : World} {A : Around} {E : Value -> Shared -> Prop} {s : Shared} {K : Frag} {x C f : Addr} {ox : Obj} {od : Option Obj} {value slice : Expr} {i : Value} {Q : Value -> Shared -> Prop} (X : K.In s.heap) (I : InstAt s.heap x ox C od) (hs : findIn K (.ref C) "__getitem__" = some (some (.ref f))) (hf : fnIn K f = true) (hfn : isFn K (.ref f) = true)
  (h : wpAny (model prog w) A.in1 (PySem.call (.ref f) [.ref x, i]) Q E s)
  (hsl : subscripted slice true (.ref x) i = runValue (.builtin "lifetime.subscript" ⟨[.ref x, i], []⟩)) :
  wpAny (model prog w) A (subscriptTail value slice (.ref x) i) Q E s := by
 unfold fnIn at hf
 split at hf
 ·rename_i e
  unfold subscriptTail getitemInPython
  refine Qac (Qac (Qac (I.type.here ((looks_findIn X hs).here ?_))))
  dsimp only
  refine Qac (wpAny_load (X _ _ e) (Qah ?_))
  dsimp only
  rw [hsl]
  refine Qac (wpAny_runValue (codeAny_builtin entry_sub ?_))
  unfold Builtin.«lifetime.subscript»
  refine Qac (special_fn X I hs (beq_iff_eq.mp hfn) (wpAny_mono h (fun v s' z => ?_) fun _ _ z => z))
  refine Qah ?_
  show wpAny (model prog w) A (letTemporaryGo value (.ref x) v >>= fun _ => pure v) Q E s'
  exact Qac (wpAny_letTemporaryGo (Qah z))
 ·cases hf
open Builtin Builtin.Str in
theorem Zxa {prog : Program} {w : World} {A : Around} {E : Value -> Shared -> Prop} {s : Shared} {K : Frag} {x C f : Addr} {ox : Obj} {od : Option Obj} {Q : Value -> Shared -> Prop} (hu : A.in1.in1.units < cLine) (X : K.In s.heap) (I : InstAt s.heap x ox C od) (hs : findIn K (.ref C) "__str__" = some (some (.ref f))) (hf : isFn K (.ref f) = true)
  (h : wpAny (model prog w) A.in1.in1 (PySem.call (.ref f) [.ref x]) (StrBack Q) E s) : wpAny (model prog w) A (PySem.call (.type "str") [.ref x]) Q E s := by
 refine callType_codes (T := "str") (Bi := Builtin.«object.__init__») (Q₁ := fun r s₁ => ∃ y u, r = .str y u /\ Q r s₁) PySem.F.called_str (PySem.F.typeCall_str_1 _) PySem.F.entry_object_init ?_ ?_
 ·refine codeAny_of_tree ?_
  show wpAny _ A.in1.in1 (do checkBuiltinCall "str.__new__" ⟨[.type "str", .ref x], []⟩; again (.builtin "str.__new__" ⟨[.type "str", .ref x], []⟩)) _ _ s
  refine Qac (wpAny_of_eq (PySem.F.newCall_str_1 _) (Qah ⟨plainId_quiet (by decide +kernel) _, codeAny_builtin PySem.F.entry_str_new ?_⟩))
  rw [Around.under_plainId (by decide +kernel) _]
  rw [str_new_tree]
  refine Qac (Qah ?_)
  refine Qac (wpAny_of_eq isSubtype_str_str ?_)
  have key : wpAny (model prog w) A.in1.in1 (PySem.Builtin.Str.strOf (.ref x)) (fun r s₁ => ∃ y u, r = .str y u /\ Q r s₁) E s := by
   unfold PySem.Builtin.Str.strOf
   rw [show isExactStr (.ref x) = false from rfl]
   refine Qac (m := cRoomFor _ _) (wpAny_cRoomFor hu ?_)
   refine Qac (m := callSpecial? (.ref x) (Str.ofString "__str__")) (special_fn X I hs (beq_iff_eq.mp hf) (wpAny_mono h (fun r s' z => ?_) fun _ _ y => y))
   cases r <;> first | exact z.elim | exact Qah ⟨_, _, rfl, z⟩
  exact Qac (wpAny_mono key (fun r s₁ hr => Qah hr) fun _ _ y => y)
 ·rintro obj s₁ ⟨y, u, rfl, hq⟩
  exact ⟨typeIs_str _ _ _, PySem.F.args_object_init_2 _ _, object_init_meets PySem.F.called_str.init.lookup PySem.F.called_str.made (by decide) prog w A.in1 _ s₁ ⟨typeIs_str _ _ _, rfl, hq⟩⟩
end
section
variable {X : Cx} {k : Nat} {f B : Addr} {fd : FuncData} {ps : List Str} {sp : SpL} {W : WX} {x : Str} {ta tb : TE}
theorem FnG.codeA {A : Around} {pins : List (Addr × Obj)} {σ : L2.St} {H : Hp} {s : Shared} {Q : VK} {us : List Value} {vs : List V} (F : FnG X.prog X.w X.kw X.mg X.base k f fd ps sp) (hgu : A.guards = some []) (hr : Room k A) (hE : Env0 X.prog X.w X.K X.mg X.base A X.stack s H) (hbd : Binds X.kw fd ps []) (tk : Takes X W)
  (I : Inv X pins σ H s) (r : Vals vs us) (h : sp (Zrf s H X.stack) vs H Q (WE W σ)) : codeAny (model X.prog X.w) A (.call (.ref f) ⟨us, []⟩) (fun r s' => match r with | .ok (.ret v) => EP X pins σ Q v s' | .ok _ => False | .error e => X.xe e s') s := by
 have l1 : (us ++ []).length = ps.length := by rw [Qa5, <- r.length]; exact F.len _ _ _ _ _ h
 have bt := hbd s us I.kIn l1
 rw [Qa5] at bt
 apply codeAny_mono (F.go A X.stack s H ⟨us, []⟩ us vs Q (WE W σ) hgu hr hE bt r h)
 intro res s' hq
 match res, hq with
 | .error e, hq => exact passAt tk σ pins H s e s' I hq
 | .ok (.ret u), hq => exact I.after hq
 | .ok .next, hq => exact hq.elim
 | .ok .brk, hq => exact hq.elim
 | .ok .cont, hq => exact hq.elim
theorem FnG.runA {A : Around} {pins : List (Addr × Obj)} {σ : L2.St} {H : Hp} {s : Shared} {Q : VK} {us : List Value} {vs : List V} (F : FnG X.prog X.w X.kw X.mg X.base k f fd ps sp) (hgu : A.guards = some []) (hr : Room k A) (hE : Env0 X.prog X.w X.K X.mg X.base A X.stack s H) (hbd : Binds X.kw fd ps []) (tk : Takes X W)
 (I : Inv X pins σ H s) (r : Vals vs us) (h : sp (Zrf s H X.stack) vs H Q (WE W σ)) : wpAny (model X.prog X.w) A (PySem.call (.ref f) us) (EP X pins σ Q) X.xe s := wpAny_call (F.codeA hgu hr hE hbd tk I r h)
theorem Zku {A : Around} (h : A.guards = some []) : A.in1.guards = some [] := by
 first | exact h | simpa [Around.in1] using h
def Z9n (K : PySem.W.Frag) (B : Addr) (sp : SpL) (W : WX) (neg : Bool) (ta tb : TE) : TE := fun σ H Q => ta σ H fun x H1 => tb σ H1 fun y H2 => ∃ a dx fs, x = .ref a /\ H2 a = some (.ins B dx fs) /\ TyQ K B H2 y /\ ∀ L, sp L [.ref a, y] H2 (fun z H3 => ∃ b, z = .bl b /\ Q (.bl (neg != b)) H3) (WE W σ)
theorem Zop {op : CmpOp} {neg : Bool} (ho : op = if neg then .NotEq else .Eq) (hm : Meth X.kw B "__eq__" f) (O : OwnT X.kw B) (F : FnG X.prog X.w X.kw X.mg X.base k f fd ps sp) (hgu : X.A.guards = some []) (hr : Room (k + 1) X.A) (hu : X.A.units + 2 < cLine) (hbd : Binds X.kw fd ps []) (tk : Takes X W)
  {pins : List (Addr × Obj)} {σ : L2.St} {H2 : Hp} {s2 : Shared} {Q : VK} {v u : Value} {x y : V} (I2 : Inv X pins σ H2 s2) (rx : RelV x v) (ry : RelV y u)
  (q : ∃ a dx fs, x = .ref a /\ H2 a = some (.ins B dx fs) /\ TyQ X.kw B H2 y /\ ∀ L, sp L [.ref a, y] H2 (fun z H3 => ∃ b, z = .bl b /\ Q (.bl (neg != b)) H3) (WE W σ)) : wpAny (model X.prog X.w) X.A (compareOp op v u) (EP X pins σ Q) X.xe s2 := by
 obtain ⟨a, dx, fs, rfl, ea, ⟨t, ty, ht⟩, z⟩ := q
 cases (show v = Value.ref a from rx)
 obtain ⟨mA, Ob, _⟩ := ins_get I2.hok ea
 obtain ⟨od, J, _⟩ := Ob.look
 obtain ⟨P, Z, pz, _⟩ := kit_of I2 ry ty
 have rr : Vals [V.ref a, y] [Value.ref a, u] := .cons rfl (.cons ry .nil)
 cases neg with
 | false =>
  cases ho
  refine PySem.W.cmp_ofEq (Zuq (by omega) I2.kIn J (Z.ty _ _ I2.kIn pz) ht (Z2k I2.kIn J hm.at_ hm.fn ?_))
  refine wpAny_mono (F.runA (us := [.ref a, u]) (vs := [.ref a, y]) hgu (hr.mono (Nat.le_succ k)) I2.env0 hbd tk I2 rr (z _)) (fun r s3 hq => ?_) fun _ _ e => e
  obtain ⟨v, H3, I3, rv, b, rfl, q⟩ := hq
  cases (show r = Value.bool b from rv)
  refine ⟨.bl b, H3, I3, rfl, ?_⟩
  simpa using q
 | true =>
  cases ho
  refine PySem.W.cmp_ofNotEq (Zuq (by omega) I2.kIn J (Z.ty _ _ I2.kIn pz) ht (Z2l (by show X.A.units + 1 < cLine; omega) I2.kIn J O hm.at_ hm.fn ?_))
  refine wpAny_mono (F.runA (us := [.ref a, u]) (vs := [.ref a, y]) (Zku hgu) hr.in1 I2.env0.in1 hbd tk I2 rr (z _)) (fun r s3 hq => ?_) fun _ _ e => e
  obtain ⟨v, H3, I3, rv, b, rfl, q⟩ := hq
  cases (show r = Value.bool b from rv)
  refine ⟨b, rfl, .bl (!b), H3, I3, rfl, ?_⟩
  simpa using q
theorem Z2m {o e : Expr} {op : CmpOp} {neg : Bool} {pos : Pos} (ha : PE X o ta) (hb : PE X e tb) (ho : op = if neg then .NotEq else .Eq) (hm : Meth X.kw B "__eq__" f) (O : OwnT X.kw B) (F : FnG X.prog X.w X.kw X.mg X.base k f fd ps sp) (hgu : X.A.guards = some []) (hr : Room (k + 1) X.A) (hu : X.A.units + 2 < cLine) (hbd : Binds X.kw fd ps []) (tk : Takes X W) :
  PE X (.Compare o [op] [e] pos) (Z9n X.kw B sp W neg ta tb) := by
 refine ⟨fun pins s σ H Q I h => ?_⟩
 exact wpAny_Compare1 (binT ha hb I h fun v u s2 x y H2 I2 rx ry q => Zop ho hm O F hgu hr hu hbd tk I2 rx ry q) (nomark e (by cases neg <;> subst ho <;> decide) (by cases neg <;> subst ho <;> decide))
theorem Z2n {o e : Expr} {op : CmpOp} {neg : Bool} {pos : Pos} (ha : PE X o ta) (hb : PE X e tb) (ho : op = if neg then .NotEq else .Eq) (hm : Meth X.kw B "__eq__" f) (O : OwnT X.kw B) (F : FnG X.prog X.w X.kw X.mg X.base k f fd ps sp) (hgu : X.A.guards = some []) (hr : Room (k + 1) X.A) (hu : X.A.units + 2 < cLine) (hbd : Binds X.kw fd ps []) (tk : Takes X W) :
  PT X (.Compare o [op] [e] pos) (tTest (Z9n X.kw B sp W neg ta tb)) := by
 refine ⟨fun pins s σ H Q I h => ?_⟩
 refine wpAny_isTrue_Compare1 (thn (ha.run pins s σ H _ I h) fun v s1 ⟨x, H1, I1, r1, q1⟩ => thn (hb.run pins s1 σ H1 _ I1 q1) fun u s2 ⟨y, H2, I2, r2, q2⟩ =>
  thn (Zop (Q := fun x H' => ∃ k, x = .bl k /\ Q k H') ho hm O F hgu hr hu hbd tk I2 r1 r2 q2) fun c s3 ⟨z, H3, I3, r3, k, e, q3⟩ => ?_) (nomark e (by cases neg <;> subst ho <;> decide) (by cases neg <;> subst ho <;> decide))
 subst e
 cases r3
 exact wpAny_truthy_bool ⟨H3, I3, q3⟩
def Z9o (B : Addr) (sp : SpL) (W : WX) (ta tb : TE) : TE := fun σ H Q => ta σ H fun x H1 => tb σ H1 fun y H2 => ∃ a dx fs, x = .ref a /\ H2 a = some (.ins B dx fs) /\ ∀ L, sp L [.ref a, y] H2 Q (WE W σ)
theorem Zxb {i : Expr} (h : Zfd i = true) (a : Addr) (u : Value) : subscripted i true (.ref a) u = runValue (.builtin "lifetime.subscript" ⟨[.ref a, u], []⟩) := by
 cases i <;> first | (with_unfolding_all rfl) | cases h
theorem Zxc {o e : Expr} {pos : Pos} (ha : PE X o ta) (hb : PE X e tb) (hs : Zfd e = true) (hm : Meth X.kw B "__getitem__" f) (hfn : PySem.W.fnIn X.kw f = true) (F : FnG X.prog X.w X.kw X.mg X.base k f fd ps sp) (hgu : X.A.guards = some []) (hr : Room (k + 1) X.A) (hbd : Binds X.kw fd ps []) (tk : Takes X W) :
  PE X (.Subscript o e pos) (Z9o B sp W ta tb) := by
 refine ⟨fun pins s σ H Q I h => ?_⟩
 refine Subscript_ (binT ha hb I h fun v u s2 x y H2 I2 rx ry q => ?_)
 obtain ⟨a, dx, fs, rfl, ea, z⟩ := q
 cases (show v = Value.ref a from rx)
 obtain ⟨mA, Ob, _⟩ := ins_get I2.hok ea
 obtain ⟨od, J, _⟩ := Ob.look
 exact Zw9 I2.kIn J hm.at_ hfn hm.fn (F.runA (us := [.ref a, u]) (vs := [.ref a, y]) (Zku hgu) hr.in1 I2.env0.in1 hbd tk I2 (.cons rfl (.cons ry .nil)) (z _)) (Zxb hs a u)
theorem Zr2 {k : Nat} {A : Around} (r : Room (k + 1) A) : Room k A.in1.in1 := ⟨r.hd, by have := r.dp; show A.depth + 3 * k + 5 < _; omega, by have := r.un; show A.units + 1 + 1 + 16 * k + 200 < _; omega⟩
def Z9p (B : Addr) (sp : SpL) (W : WX) (ta : TE) : TE := fun σ H Q => ta σ H fun x H1 => ∃ a dx fs, x = .ref a /\ H1 a = some (.ins B dx fs) /\ ∀ L, sp L [.ref a] H1 (fun v H2 => ∃ z : Str, v = .str z /\ Q (.str z) H2) (WE W σ)
theorem Zxd {o : Expr} {p1 cp : Pos} (ho : PE X o ta) (hm : Meth X.kw B "__str__" f) (F : FnG X.prog X.w X.kw X.mg X.base k f fd ps sp) (hgu : X.A.guards = some []) (hr : Room (k + 1) X.A) (hu : X.A.units + 2 < cLine) (hbd : Binds X.kw fd ps []) (tk : Takes X W) (hg : Gl X "str") (hmg : X.mg "str" = none) (hst : Zah o = true) :
  PE X (.Call (.Name "str" p1) [o] [] cp) (Z9p B sp W ta) := by
 constructor
 intro pins s σ H Q I h
 apply wpAny_Call_Name_kw
 apply ld_blt I hg hmg (Zjm .str)
 have ha : PA X [o] _ := pa_cons ho pa_nil (Zak hst [])
 refine PyProof.Rows.callWith_type1 (thn (ha.run cp pins s σ H (fun vs H1 => match vs with
  | [x] => ∃ a dx fs, x = .ref a /\ H1 a = some (.ins B dx fs) /\ ∀ L, sp L [.ref a] H1 (fun v H2 => ∃ z : Str, v = .str z /\ Q (.str z) H2) (WE W σ)
  | _ => False) I ?_) ?_) (Zak hst []) (by rfl)
 ·exact h
 ·rintro us s1 ⟨vs, H1, I1, r, zz⟩
  obtain ⟨x, rfl⟩ : ∃ x, vs = [x] := by
   rcases vs with _ | ⟨x, _ | ⟨y, vs⟩⟩
   ·exact zz.elim
   ·exact ⟨x, rfl⟩
   ·exact zz.elim
  obtain ⟨a, dx, fs, rfl, ea, z⟩ := zz
  obtain ⟨u, rfl, ru⟩ := vals1 r
  cases (show u = Value.ref a from ru)
  obtain ⟨mA, O, _⟩ := ins_get I1.hok ea
  obtain ⟨od, J, _⟩ := O.look
  refine Zxa (by show X.A.units + 1 + 1 < cLine; omega) I1.kIn J hm.at_ hm.fn ?_
  refine wpAny_mono (F.runA (us := [.ref a]) (vs := [.ref a]) (Zku (Zku hgu)) (Zr2 hr) I1.env0.in1.in1 hbd tk I1 (.cons rfl .nil) (z _)) (fun r s3 hq => ?_) fun _ _ e => e
  obtain ⟨v, H3, I3, rv, y, rfl, q⟩ := hq
  obtain ⟨t, rfl⟩ := rv
  exact ⟨.str y, H3, I3, ⟨_, rfl⟩, q⟩
def Z9q (B : Addr) (sp : SpL) (W : WX) (t : TA) : TE := fun σ H Q => t σ H fun vs H2 => ∀ L, sp L (.ref B :: vs) H2 Q (WE W σ)
theorem Zxe {m : Str} {mc : Value} {pa : Addr} {e : Expr} {es : List Expr} {t : TA} {p1 ap cp : Pos} (r : ClX.CRead X.kw B mc) (c : ClX.CMet X.kw B mc m pa f) (F : FnG X.prog X.w X.kw X.mg X.base k f fd ps sp) (hgu : X.A.guards = some []) (hr : Room k X.A) (hbd : Binds X.kw fd ps []) (tk : Takes X W) (hg : Gl X x) (hmg : X.mg x = some (.ref B)) (hdb : (x == ("__debug__" : Str)) = false)
  (ha : PA X (e :: es) t) (hst : Zaa (e :: es) = true) (hz : (e :: es).length < 30) (hl : (ap.endLine == cp.line) = true) : PE X (.Call (.Attribute (.Name x p1) m ap) (e :: es) [] cp) (Z9q B sp W t) := by
 constructor
 intro pins s σ H Q I h
 have hn : PE X (.Name x p1) (L2.tC (.ref B)) := pe_glob hg hmg rfl hdb
 apply Zdr (Zbz (nm := m) (o := .Name x p1) rfl _) (Zei (X := X) (cp := cp) hst hz) hl
 apply thn (hn.run pins s σ H (fun v H1 => v = .ref B /\ H1 = H) I ⟨rfl, rfl⟩)
 rintro u s1 ⟨v, H1, I1, r1, rfl, rfl⟩ pl
 obtain rfl : u = Value.ref B := r1
 refine ClX.getmethcm_ok I1 r c fun s2 I2 => ?_
 rw [Zaa, Qas, Qaa] at hst
 refine ClX.callwith_cm I2 (ClX.base_none I1 (Qao _)) c.fi (thn (ha.run cp _ s2 σ _ _ I2 h) fun us s3 ⟨vs, H2, I3, rv, q2⟩ => ⟨⟨ClX.pin_at I3, I3.kIn⟩, ?_⟩) (Zak hst.1 es) (Zab _ hst.2)
 have z := wpAny_call (PySem.W.method_call (ClX.pin_at I3) (F.codeA (us := .ref B :: us) (vs := .ref B :: vs) hgu hr I3.env0 hbd tk I3 (.cons rfl rv) (q2 _)))
 exact thn z fun _ _ y => ClX.unpinE y
def Z9r (B : Addr) (i : Nat) (sp : SpL) (dvs : List V) (W : WX) (t : TA) : TE := fun σ H Q => σ[i]? = some (some (.ref B)) /\ Zoi B sp dvs W t σ H Q
theorem Zxf {e : Expr} {es : List Expr} {t : TA} {i : Nat} {p1 cp : Pos} {ds : List Value} {dvs : List V} (M : Mk X.kw B f) (F : FnG X.prog X.w X.kw X.mg X.base k f fd ps sp) (hgu : X.A.guards = some []) (hr : Room (k + 1) X.A) (hN : X.N[i]? = some x) (hv : Vis X.env.scope x) (hbd : Binds X.kw fd ps ds) (hd : Vals dvs ds) (tk : Takes X W) (ha : PA X (e :: es) t) (hst : Zaa (e :: es) = true) (hdb : (x == ("__debug__" : Str)) = false) (hcd : (x == ("__classdict__" : Str)) = false) :
  PE X (.Call (.Name x p1) (e :: es) [] cp) (Z9r B i sp dvs W t) := by
 constructor
 intro pins s σ H Q I h
 obtain ⟨hs, h⟩ := h
 rw [Zaa, Qas, Qaa] at hst
 apply wpAny_Call_Name_kw
 have lv := (pe_var (pos := p1) hN hv hdb hcd).run pins s σ H (fun v H1 => v = .ref B /\ H1 = H) I ⟨.ref B, hs, rfl, rfl⟩
 apply thn lv
 rintro u s1 ⟨v, H1, I1, r1, rfl, rfl⟩
 cases r1
 apply PySem.W.callWith_K (h₀ := X.base) I.ok.mod.kin M.kp (thn (ha.run cp pins s1 σ _ _ I1 h) _) (Zak hst.1 es) (Zab _ hst.2)
 rintro us s2 ⟨vs, H2, I2, r, q⟩
 exact ⟨I2.kIn, F.mk1 M hgu hr hbd hd tk I2 r q⟩
end
section
variable {p : Pg} {C : Cl} {ca : CA} {k : Nat} {ks : Ks} {W : WX} {X : Cx}
theorem Z2o (g : Good p C ca k ks W X) {a b : Expr} {mo me : ME} {c d : Str} {neg : Bool} {op : CmpOp} {pos : Pos} (ha : SE ca C W X a mo) (hb : SE ca C W X b me) (ho : op = if neg then .NotEq else .Eq) (hc : Zfw p.cs c "__eq__" d = true) : SE ca C W X (.Compare a [op] [b] pos) (.eqI c neg mo d me) := by
 obtain ⟨hcp, x, hx, rfl, hm, hop⟩ := Zds hc
 obtain ⟨B, T⟩ := g.cl x hx
 have O := T.own hop
 obtain ⟨f, fd, ps, MX, bd, F⟩ := T.ms _ hm
 obtain ⟨M, _⟩ := Zar MX (show Zbf "__eq__" = false by decide +kernel)
 have rd : ∀ σ H Q, tC X.kw X.lc ca W (ev C (.eqI x.c neg mo d me)) σ H Q -> Z9n X.kw B (spC ca C X.kw d) W neg (tC X.kw X.lc ca W (ev C mo)) (tC X.kw X.lc ca W (ev C me)) σ H Q := fun σ H Q ⟨φ, S, ρ, a, h⟩ => by
  simp only [ev] at h
  refine Zag a h fun dx S1 φ1 H1 x1 st1 a1 rx h1 => Zag a1 h1 fun dy S2 φ2 H2 y st2 a2 ry h2 => ?_
  split at h2
  ·rename_i hi
   rw [Qaa, Bool.or_eq_true] at hi
   obtain ⟨hi1, hi2⟩ := hi
   obtain ⟨r, fs, rfl, e2, e3⟩ := Za6 hi1
   obtain ⟨dd, vs, hu, rf⟩ := Zbm a2.rel e2 T.ns
   have rx2 := rx.mono a1.rel st2
   have ex := rx2.refE
   subst ex
   have ty : TyQ X.kw B H2 y := by
    rcases hi2 with ok | io
    ·exact ⟨_, RN.ty (K := X.kw) (.of ry) ok, .inr ⟨_, Zon ok, rfl⟩⟩
    ·obtain ⟨r2, fs2, rfl, e4⟩ := Zdt io
     obtain ⟨dd2, vs2, hu2, _⟩ := Zbm a2.rel e4 T.ns
     have ey := ry.refE
     subst ey
     exact ⟨_, Zkt O T.cl hu2, .inl rfl⟩
   rw [R.wp_bind] at h2
   refine ⟨_, dd, vs, rfl, hu, ty, fun L => ⟨φ2, S2, [.ref r, dy], a2.rel, .cons rx2 (.cons ry .nil), Znd hcp, R.wp_mono h2 (fun z S3 h3 φ3 H3 u st3 r3 ru => ?_) fun _ _ z => z⟩⟩
   split at h3
   ·rename_i b
    cases ru
    exact ⟨b, rfl, h3 φ3 H3 (.bl (neg != b)) (st1.trans (st2.trans st3)) r3 (.bl _)⟩
   ·exact h3.elim
  ·exact h2.elim
 refine ⟨PE.mono (Z2m ha.pe hb.pe ho M O F g.gu g.room3 (by have := Zda g.room3; omega) bd g.tk) rd, PT.mono (Z2n ha.pe hb.pe ho M O F g.gu g.room3 (by have := Zda g.room3; omega) bd g.tk) fun σ H Q q => rd σ H _ (Zkd q), fun _ _ _ z => nomatch z⟩
theorem Zxg (g : Good p C ca k ks W X) {a b : Expr} {mo me : ME} {c d : Str} {pos : Pos} (ha : SE ca C W X a mo) (hb : SE ca C W X b me) (hs : Zfd b = true) (hc : Zfw p.cs c "__getitem__" d = true) : SE ca C W X (.Subscript a b pos) (.idxI c mo d me) := by
 obtain ⟨hcp, x, hx, rfl, hm, hop⟩ := Zds hc
 obtain ⟨B, T⟩ := g.cl x hx
 obtain ⟨f, fd, ps, MX, bd, F⟩ := T.ms _ hm
 obtain ⟨M, hfn⟩ := Zar MX (show Zbf "__getitem__" = false by decide +kernel)
 refine SE.plain (PE.mono (Zxc ha.pe hb.pe hs M hfn F g.gu g.room3 bd g.tk) fun σ H Q ⟨φ, S, ρ, a, h⟩ => ?_) rfl
 simp only [ev] at h
 refine Zag a h fun dx S1 φ1 H1 x1 st1 a1 rx h1 => Zag a1 h1 fun dy S2 φ2 H2 y st2 a2 ry h2 => ?_
 split at h2
 ·rename_i hi
  obtain ⟨r, fs, rfl, e2, e3⟩ := Za6 hi
  obtain ⟨dd, vs, hu, rf⟩ := Zbm a2.rel e2 T.ns
  have rx2 := rx.mono a1.rel st2
  have ex := rx2.refE
  subst ex
  exact ⟨_, dd, vs, rfl, hu, fun L => ⟨φ2, S2, [.ref r, dy], a2.rel, .cons rx2 (.cons ry .nil), Znd hcp, R.wp_mono h2 (fun _ _ z => Zaf.step (st1.trans st2) z) fun _ _ z => z⟩⟩
 ·exact h2.elim
theorem Zxh (g : Good p C ca k ks W X) {o : Expr} {mo : ME} {c d : Str} {p1 cp : Pos} (ho : SE ca C W X o mo) (hst : Zah o = true) (hgl : ks.gl "str" = true) (hc : Zfw p.cs c "__str__" d = true) : SE ca C W X (.Call (.Name "str" p1) [o] [] cp) (.strI c mo d) := by
 obtain ⟨hcp, x, hx, rfl, hm, hop⟩ := Zds hc
 obtain ⟨B, T⟩ := g.cl x hx
 obtain ⟨f, fd, ps, MX, bd, F⟩ := T.ms _ hm
 obtain ⟨M, _⟩ := Zar MX (show Zbf "__str__" = false by decide +kernel)
 refine SE.plain (PE.mono (Zxd ho.pe M F g.gu g.room3 (by have := Zda g.room3; omega) bd g.tk (g.gl hgl) (g.bl .str) hst) fun σ H Q ⟨φ, S, ρ, a, h⟩ => ?_) rfl
 simp only [ev] at h
 refine Zag a h fun dx S1 φ1 H1 v st1 a1 rx h1 => ?_
 split at h1
 ·rename_i hi
  obtain ⟨r, fs, rfl, e2, e3⟩ := Za6 hi
  obtain ⟨dd, vs, hu, rf⟩ := Zbm a1.rel e2 T.ns
  have ex := rx.refE
  subst ex
  rw [R.wp_bind] at h1
  refine ⟨_, dd, vs, rfl, hu, fun L => ⟨φ1, S1, [.ref r], a1.rel, .cons rx .nil, Znd hcp, R.wp_mono h1 (fun y S2 h2 φ2 H2 u st2 r2 ru => ?_) fun _ _ z => z⟩⟩
  split at h2
  ·rename_i z
   cases ru
   exact ⟨z, rfl, h2 φ2 H2 (.str z) (st1.trans st2) r2 (.str z)⟩
  ·exact h2.elim
 ·exact h1.elim
theorem Zr3 {cs : List CI} {c m d : Str} (h : Z6q cs c m d = true) : (CP.cp d).isEmpty = true /\ ∃ x ∈ cs, x.c = c /\ ∃ q ∈ x.ms, q.2 = d /\ Zhy q.1 = true /\ bsN q.1 = m := by
 unfold Z6q at h
 rw [Qaa] at h
 obtain ⟨x, hx, q⟩ := Qa1.mp h.2
 simp only [Qaa, Qab, Qa1] at q
 obtain ⟨e, y, hy, ⟨q1, q2⟩, q3⟩ := q
 exact ⟨h.1, x, hx, e, y, hy, q1, q2, q3⟩
theorem Zxi {x : Str} (h : Zhy x = true) : Zbf x = true := by
 unfold Zhy at h
 split at h
 ·exact h
 ·cases h
theorem Zxj (g : Good p C ca k ks W X) {c m d : Str} {es : List Expr} {ms : List ME} {p1 ap cp : Pos} (ha : SA ca C W X es ms) (hne : es.isEmpty = false) (hst : Zaa es = true) (h1 : ks.gl c = true) (h2 : Zac c = true) (hl : ap.endLine = cp.line) (hz : es.length < 30) (hc : Z6q p.cs c m d = true) :
  SE ca C W X (.Call (.Attribute (.Name c p1) m ap) es [] cp) (.clsm c m d ms) := by
 obtain ⟨hcp, x, hx, rfl, q, hq, rfl, e1, rfl⟩ := Zr3 hc
 obtain ⟨B, T⟩ := g.cl x hx
 obtain ⟨f, fd, ps, MX, bd, F⟩ := T.ms _ hq
 obtain ⟨mc, pa, cr, cm⟩ : ∃ mc pa, ClX.CRead X.kw B mc /\ ClX.CMet X.kw B mc (bsN q.1) pa f := by
  rcases MX with ⟨_, _, h⟩ | ⟨_, z, _⟩ | ⟨z, _⟩
  ·exact h
  ·rw [e1] at z; cases z
  ·rw [Zxi e1] at z; cases z
 have hline : (ap.endLine == cp.line) = true := by simpa using hl
 cases es with
 | nil => cases hne
 | cons e es =>
  refine SE.plain (PE.mono (Zxe cr cm F g.gu g.room bd g.tk (g.gl h1) T.gC (Zad h2) ha hst hz hline) fun σ H Q ⟨φ, S, ρ, a, h⟩ => ?_) rfl
  simp only [ev] at h
  refine Zag a h fun ds S1 φ1 H1 vs st1 a1 rs h1 => ?_
  exact fun L => ⟨φ1, S1, .fn x.c :: ds, a1.rel, .cons (.fn T.ns) rs, Znd hcp, R.wp_mono h1 (fun _ _ z => Zaf.step st1 z) fun _ _ z => z⟩
theorem Zxk (g : Good p C ca k ks W X) {y c ini : Str} {i : Nat} {es : List Expr} {ms : List ME} {p1 cp : Pos} (ha : SA ca C W X es ms) (hne : es.isEmpty = false) (hst : Zaa es = true) (h1 : p.N[i]? = some y) (h2 : ks.vis y = true) (h3 : Zac y = true) (hc : Z0n p.cs c ini = true) :
  SE ca C W X (.Call (.Name y p1) es [] cp) (.makV i c ini ms) := by
 obtain ⟨hcp, x, hx, rfl, rfl⟩ := Zkr hc
 obtain ⟨B, T⟩ := g.cl x hx
 obtain ⟨f, fd, ps, us, dvs, sp, M, bd, hd, F, hsp⟩ := T.mak
 cases es with
 | nil => cases hne
 | cons e es =>
  refine SE.plain (PE.mono (Zxf (i := i) M F g.gu g.room3 (by rw [g.N]; exact h1) (g.vis h2) bd hd g.tk ha hst (Zad h3) (Zat h3)) fun σ H Q ⟨φ, S, ρ, a, h⟩ => ?_) rfl
  simp only [ev] at h
  split at h
  ·rename_i z ez
   split at h
   ·rename_i hz
    subst hz
    obtain ⟨v, e1, rv⟩ := a.env.at_ i _ ez
    cases rv with
    | fn hn =>
     rw [T.ns] at hn
     cases hn
     exact ⟨e1, Zil hcp T.ns hsp a h⟩
   ·exact h.elim
  ·exact h.elim
theorem Z2p (g : Good p C ca k ks W X) {a : Expr} {ma : ME} {pos : Pos} (ha : SE ca C W X a ma) : SE ca C W X (.FormattedValue a (-1) none pos) (.fpc ma) := by
 refine SE.plain (PE.mono (pe_fmt ha.pe) fun σ H Q ⟨φ, S, ρ, a, h⟩ => ?_) rfl
 simp only [ev] at h
 refine Zag a h fun dx S1 φ1 H1 v st1 a1 rx h1 => ?_
 obtain ⟨d, e, q⟩ := Zas h1
 unfold Zvw at e
 split at e
 ·rename_i y
  split at e
  ·rename_i hy
   cases e
   cases rx
   exact .inl ⟨y, rfl, by
    have : (1048576 : Nat) <= sizeLine := by decide
    omega, (Zaf.step st1 q).now a1.rel (.str _)⟩
  ·cases e
 ·rename_i i
  split at e
  ·rename_i hi
   cases e
   cases rx
   exact .inr ⟨i, rfl, hi.1, (Zaf.step st1 q).now a1.rel (.str _)⟩
  ·cases e
 ·cases e
def Yc3 : D -> Bool
 | .str y => decide (y.length <= 1048576)
 | _ => false
theorem Zr4 {m : ME} (h : Zif m = true) {ρ : Ev} {S S' : Store} {d : D} (e : ev C m ρ S = .ok d S') : Yc3 d = true := by
 cases m with
 | cst d0 =>
  simp only [ev] at e
  cases e
  cases d with
  | str z => exact h
  | _ => cases h
 | fpc e0 =>
  simp only [ev] at e
  cases e1 : ev C e0 ρ S with
  | ok x S1 =>
   rw [e1, R.bind_ok] at e
   unfold Zvw at e
   split at e
   ·split at e
    ·rename_i hy
     cases e
     exact decide_eq_true hy
    ·cases e
   ·split at e
    ·rename_i hi
     cases e
     exact decide_eq_true hi.2
    ·cases e
   ·cases e
  | exc _ _ => rw [e1] at e; cases e
  | bad => rw [e1] at e; cases e
 | _ => cases h
theorem Zmt {α : Type} {m : ME} (h : Zif m = true) (ρ : Ev) (S : Store) (f : D -> Store -> R Xn α) : (ev C m ρ S).bind f = (ev C m ρ S).bind fun x S => if Yc3 x then f x S else .bad := by
 cases e : ev C m ρ S with
 | ok x S1 =>
  rw [R.bind_ok, R.bind_ok, Zr4 h e]
  rfl
 | exc _ _ => rfl
 | bad => rfl
theorem Zfh (a b : Str) : (a ++ b).length = a.length + b.length := by
 show (a.cps ++ b.cps).size = _
 rw [Array.size_append]; rfl
theorem Zgj : ∀ {es : List Expr} {ms : List ME}, (ms.all Zif) = true -> Zeg (fun (_ : Expr) (_ : ME) => true) es ms = true -> ∀ (acc : Str) (φ : Nat -> Addr) (S : Store) (ρ : Ev) (σ : L2.St) (H : Hp) (G : List D -> Store -> RD) (Q : VK), acc.length + 1048576 * ms.length <= sizeLine -> At X.kw X.lc φ S ρ σ H ->
  ((evs C ms ρ S).bind G).wp (Zaf X.kw (RV X.kw) φ S H Q) (Zck X.kw ca φ S H fun cls dd H' => W cls dd σ H') ->
  (∀ (ss : List Str) (S' : Store), (∀ z ∈ ss, z.length <= 1048576) -> G (ss.map .str) S' = .ok (.str (ss.foldl (fun a b => a ++ b) acc)) S') ->
  tJs (ms.map fun m => tC X.kw X.lc ca W (ev C m)) acc σ H fun out H1 => Q (.str out) H1
 | [], [], _, _, acc, φ, S, ρ, σ, H, G, Q, hz, a, h, hG => by
  simp only [evs, R.bind_ok] at h
  have e := hG [] S (fun z hz => by cases hz)
  rw [show ([] : List Str).map D.str = [] from rfl] at e
  rw [e] at h
  exact (show Zaf X.kw (RV X.kw) φ S H Q (.str acc) S from h).now a.rel (.str acc)
 | [], _ :: _, _, z, _, _, _, _, _, _, _, _, _, _, _, _ => by cases z
 | _ :: _, [], _, z, _, _, _, _, _, _, _, _, _, _, _, _ => by cases z
 | e :: es, m :: ms, hp, z, acc, φ, S, ρ, σ, H, G, Q, hz, a, h, hG => by
  rw [Qas, Qaa] at hp
  have z2 : Zeg (fun (_ : Expr) (_ : ME) => true) es ms = true := by
   simpa [Zeg] using z
  have e1 : (evs C (m :: ms) ρ S).bind G = (ev C m ρ S).bind fun x S => (evs C ms ρ S).bind fun xs S => G (x :: xs) S := by
   simp only [evs]
   cases ev C m ρ S with
   | ok x S1 =>
    simp only [R.bind_ok]
    cases evs C ms ρ S1 <;> rfl
   | exc _ _ => rfl
   | bad => rfl
  rw [e1, Zmt hp.1] at h
  refine Zag (rel := RV X.kw) a h fun dx S1 φ1 H1 v st1 a1 rx h1 => ?_
  split at h1
  ·rename_i hs
   cases dx with
   | str y =>
    have hy : y.length <= 1048576 := Qau hs
    cases rx
    have hz2 : acc.length + y.length + 1048576 * ms.length <= sizeLine := by
     rw [Qai] at hz
     omega
    refine ⟨y, rfl, by rw [Zfh]; omega, ?_⟩
    refine Zgj hp.2 z2 (acc ++ y) φ1 S1 ρ σ H1 (fun xs S => G (.str y :: xs) S) Q (by rw [Zfh]; exact hz2) a1 (R.wp_mono h1 (fun _ _ z => Zaf.step st1 z) fun _ _ z => z) fun ss S' hss => ?_
    exact hG (y :: ss) S' fun w hw => by
     rcases Qaf.mp hw with rfl | hw
     ·exact hy
     ·exact hss w hw
   | _ => cases hs
  ·exact h1.elim
theorem Zmu (ss : List Str) : Zci (ss.map D.str) = some ss := by
 unfold Zci
 induction ss with
 | nil => rfl
 | cons z ss ih =>
  rw [Qaj, Zbv, ih]
  rfl
inductive All2 {α β : Type} (r : α -> β -> Prop) : List α -> List β -> Prop where
 | nil : All2 r [] []
 | cons {a : α} {b : β} {as : List α} {bs : List β} (h : r a b) (t : All2 r as bs) : All2 r (a :: as) (b :: bs)
theorem All2.len {α β : Type} {r : α -> β -> Prop} : ∀ {as : List α} {bs : List β}, All2 r as bs -> as.length = bs.length
 | _, _, .nil => rfl
 | _, _, .cons _ t => by simp [t.len]
theorem All2.of {α β : Type} {r : α -> β -> Prop} {f : α -> β -> Bool} (hf : ∀ a b, f a b = true -> r a b) : ∀ {as : List α} {bs : List β}, Zeg f as bs = true -> All2 r as bs
 | [], [], _ => .nil
 | [], _ :: _, h => by cases h
 | _ :: _, [], h => by cases h
 | a :: as, b :: bs, h => by
  have h : (f a b && Zeg f as bs) = true := h
  rw [Qaa] at h
  exact .cons (hf a b h.1) (All2.of hf h.2)
theorem Zur : ∀ {es : List Expr} {ms : List ME}, All2 (SE ca C W X) es ms -> PJ X es (ms.map fun m => tC X.kw X.lc ca W (ev C m))
 | _, _, .nil => .nil
 | _, _, .cons h t => .cons h.pe (Zur t)
theorem Zkv {α β : Type} : ∀ {es : List α} {ms : List β} {r : α -> β -> Prop}, All2 r es ms -> Zeg (fun (_ : α) (_ : β) => true) es ms = true
 | _, _, _, .nil => rfl
 | _, _, _, .cons _ t => by
  show (true && _) = true
  rw [Zkv t]; rfl
theorem Zxl (g : Good p C ca k ks W X) {es : List Expr} {ms : List ME} {pos : Pos} (h1 : 2 <= es.length) (h2 : es.length <= 15) (hp : ms.all Zif = true) (h : All2 (SE ca C W X) es ms) : SE ca C W X (.JoinedStr es pos) (.fstr ms) := by
 have hl : es.length = ms.length := h.len
 have hj := Zur h
 have z := Zkv h
 match es, h1, hj with
 | v1 :: v2 :: rest, _, hj =>
  refine SE.plain (PE.mono (pe_joined hj) fun σ H Q ⟨φ, S, ρ, a, h⟩ => ?_) rfl
  simp only [ev] at h
  refine Zgj hp z Str.empty φ S ρ σ H _ Q ?_ a h fun ss S' hss => ?_
  ·rw [hl] at h2
   show 0 + 1048576 * ms.length <= 16777216
   omega
  ·rw [Zmu]
   rfl
end
end My
namespace My
open PySem PySem.Spec PyProof.Rows L2
variable [CP] [TC]
section
open PySem.W
theorem Zek {M : Model} {A : Around} {E : Value -> Shared -> Prop} {s : Shared} {K : Frag} {x C f : Addr} {ox : Obj} {od : Option Obj} {v : Value} {Q : Bool -> Shared -> Prop} (X : K.In s.heap) (I : InstAt s.heap x ox C od) (hs : findIn K (.ref C) "__contains__" = some (some (.ref f))) (hf : isFn K (.ref f) = true)
  (h : wpAny M A (PySem.call (.ref f) [.ref x, v]) (fun r s' => wpAny M A (truthy r) Q E s') E s) : wpAny M A (contains (.ref x) v) Q E s := by
 unfold contains
 refine wpAny_holding (Qac (Qac (I.type.here ((looks_findIn X hs).here ?_))))
 rw [Qat (by simp)]
 exact Qac (unlessNone_K X I hs hf h)
end
section
variable {X : Cx} {k : Nat} {f B : Addr} {fd : FuncData} {ps : List Str} {sp : SpL} {W : WX} {x : Str} {ta tb : TE}
def Zxm (B : Addr) (sp : SpL) (W : WX) (neg : Bool) (ta tb : TE) : TE := fun σ H Q => ta σ H fun y H1 => tb σ H1 fun x H2 => ∃ a dx fs, x = .ref a /\ H2 a = some (.ins B dx fs) /\ ∀ L, sp L [.ref a, y] H2 (fun z H3 => ∃ b, z = .bl b /\ Q (.bl (neg != b)) H3) (WE W σ)
theorem Zkw {op : CmpOp} {neg : Bool} (ho : op = if neg then .NotIn else .In) (hm : Meth X.kw B "__contains__" f) (F : FnG X.prog X.w X.kw X.mg X.base k f fd ps sp) (hgu : X.A.guards = some []) (hr : Room (k + 1) X.A) (hbd : Binds X.kw fd ps []) (tk : Takes X W)
  {pins : List (Addr × Obj)} {σ : L2.St} {H2 : Hp} {s2 : Shared} {Q : VK} {v u : Value} {x y : V} (I2 : Inv X pins σ H2 s2) (ry : RelV y v) (rx : RelV x u)
  (q : ∃ a dx fs, x = .ref a /\ H2 a = some (.ins B dx fs) /\ ∀ L, sp L [.ref a, y] H2 (fun z H3 => ∃ b, z = .bl b /\ Q (.bl (neg != b)) H3) (WE W σ)) : wpAny (model X.prog X.w) X.A (compareOp op v u) (EP X pins σ Q) X.xe s2 := by
 obtain ⟨a, dx, fs, rfl, ea, z⟩ := q
 cases (show u = Value.ref a from rx)
 obtain ⟨mA, Ob, _⟩ := ins_get I2.hok ea
 obtain ⟨od, J, _⟩ := Ob.look
 have rr : Vals [V.ref a, y] [Value.ref a, v] := .cons rfl (.cons ry .nil)
 cases neg with
 | false =>
  cases ho
  refine Qac (Zek I2.kIn J hm.at_ hm.fn (wpAny_mono (F.runA (us := [.ref a, v]) (vs := [.ref a, y]) hgu (hr.mono (Nat.le_succ k)) I2.env0 hbd tk I2 rr (z _)) (fun r s3 hq => ?_) fun _ _ e => e))
  obtain ⟨v, H3, I3, rv, b, rfl, q⟩ := hq
  cases (show r = Value.bool b from rv)
  refine wpAny_truthy_bool (Qah ⟨.bl b, H3, I3, rfl, ?_⟩)
  simpa using q
 | true =>
  cases ho
  refine Qac (Zek I2.kIn J hm.at_ hm.fn (wpAny_mono (F.runA (us := [.ref a, v]) (vs := [.ref a, y]) hgu (hr.mono (Nat.le_succ k)) I2.env0 hbd tk I2 rr (z _)) (fun r s3 hq => ?_) fun _ _ e => e))
  obtain ⟨v, H3, I3, rv, b, rfl, q⟩ := hq
  cases (show r = Value.bool b from rv)
  refine wpAny_truthy_bool (Qah ⟨.bl (!b), H3, I3, rfl, ?_⟩)
  simpa using q
theorem Zxn {o e : Expr} {op : CmpOp} {neg : Bool} {pos : Pos} (ha : PE X e ta) (hb : PE X o tb) (hin : behindInMarks op o = false) (ho : op = if neg then .NotIn else .In) (hm : Meth X.kw B "__contains__" f) (F : FnG X.prog X.w X.kw X.mg X.base k f fd ps sp) (hgu : X.A.guards = some []) (hr : Room (k + 1) X.A) (hbd : Binds X.kw fd ps []) (tk : Takes X W) :
  PE X (.Compare e [op] [o] pos) (Zxm B sp W neg ta tb) := by
 refine ⟨fun pins s σ H Q I h => ?_⟩
 exact wpAny_Compare1 (binT ha hb I h fun v u s2 x y H2 I2 rx ry q => Zkw ho hm F hgu hr hbd tk I2 rx ry q) hin
theorem Zxo {o e : Expr} {op : CmpOp} {neg : Bool} {pos : Pos} (ha : PE X e ta) (hb : PE X o tb) (hin : behindInMarks op o = false) (ho : op = if neg then .NotIn else .In) (hm : Meth X.kw B "__contains__" f) (F : FnG X.prog X.w X.kw X.mg X.base k f fd ps sp) (hgu : X.A.guards = some []) (hr : Room (k + 1) X.A) (hbd : Binds X.kw fd ps []) (tk : Takes X W) :
  PT X (.Compare e [op] [o] pos) (tTest (Zxm B sp W neg ta tb)) := by
 refine ⟨fun pins s σ H Q I h => ?_⟩
 refine wpAny_isTrue_Compare1 (thn (ha.run pins s σ H _ I h) fun v s1 ⟨x, H1, I1, r1, q1⟩ => thn (hb.run pins s1 σ H1 _ I1 q1) fun u s2 ⟨y, H2, I2, r2, q2⟩ =>
  thn (Zkw (Q := fun x H' => ∃ k, x = .bl k /\ Q k H') ho hm F hgu hr hbd tk I2 r1 r2 q2) fun c s3 ⟨z, H3, I3, r3, k, e, q3⟩ => ?_) hin
 subst e
 cases r3
 exact wpAny_truthy_bool ⟨H3, I3, q3⟩
end
section
variable {p : Pg} {C : Cl} {ca : CA} {k : Nat} {ks : Ks} {W : WX} {X : Cx}
theorem Zxp (g : Good p C ca k ks W X) {a b : Expr} {me mo : ME} {c d : Str} {neg : Bool} {op : CmpOp} {pos : Pos} (ha : SE ca C W X a me) (hb : SE ca C W X b mo) (hin : behindInMarks op b = false) (ho : op = if neg then .NotIn else .In) (hc : Zqt p.cs c "__contains__" d = true) : SE ca C W X (.Compare a [op] [b] pos) (.conI c neg me mo d) := by
 obtain ⟨hcp, x, hx, rfl, hm⟩ := Zez hc
 obtain ⟨B, T⟩ := g.cl x hx
 obtain ⟨f, fd, ps, MX, bd, F⟩ := T.ms _ hm
 obtain ⟨M, _⟩ := Zar MX (show Zbf "__contains__" = false by decide +kernel)
 have rd : ∀ σ H Q, tC X.kw X.lc ca W (ev C (.conI x.c neg me mo d)) σ H Q -> Zxm B (spC ca C X.kw d) W neg (tC X.kw X.lc ca W (ev C me)) (tC X.kw X.lc ca W (ev C mo)) σ H Q := fun σ H Q ⟨φ, S, ρ, a, h⟩ => by
  simp only [ev] at h
  refine Zag a h fun dy S1 φ1 H1 x1 st1 a1 ry h1 => Zag a1 h1 fun dx S2 φ2 H2 y st2 a2 rx h2 => ?_
  split at h2
  ·rename_i hi
   obtain ⟨r, fs, rfl, e2, e3⟩ := Za6 hi
   obtain ⟨dd, vs, hu, rf⟩ := Zbm a2.rel e2 T.ns
   have ry2 := ry.mono a1.rel st2
   have ex := rx.refE
   subst ex
   rw [R.wp_bind] at h2
   refine ⟨_, dd, vs, rfl, hu, fun L => ⟨φ2, S2, [.ref r, dy], a2.rel, .cons rx (.cons ry2 .nil), Znd hcp, R.wp_mono h2 (fun z S3 h3 φ3 H3 u st3 r3 ru => ?_) fun _ _ z => z⟩⟩
   split at h3
   ·rename_i b
    cases ru
    exact ⟨b, rfl, h3 φ3 H3 (.bl (neg != b)) (st1.trans (st2.trans st3)) r3 (.bl _)⟩
   ·exact h3.elim
  ·exact h2.elim
 refine ⟨PE.mono (Zxn ha.pe hb.pe hin ho M F g.gu g.room3 bd g.tk) rd, PT.mono (Zxo ha.pe hb.pe hin ho M F g.gu g.room3 bd g.tk) fun σ H Q q => rd σ H _ (Zkd q), fun _ _ _ z => nomatch z⟩
end
end My
namespace My
open PySem PySem.Spec PyProof.Rows L2
variable [CP] [TC]
section
variable {X : Cx}
theorem Zjq {e : Expr} {t : TE} (h : PE X e t) : PE X e (fun σ H Q => t σ H (LkQ Q)) := ⟨fun pins s σ H Q I q => Zf5 (h.run pins s σ H (LkQ Q) I q)⟩
def Yf8 (C : Addr) (sp : Sp) (t : TA) : TE := fun σ H Q => t σ H fun vs H1 => vs.length <= 1000 /\ ∀ a, H1 a = none -> sp (.ref a :: vs) (upd H1 a (exo a C none)) (fun v H2 => v = .non /\ Q (.ref a) H2) (fun _ _ _ => False)
set_option maxHeartbeats 4000000 in
theorem Z2q {CX : CXT} {x : Str} {C fI : Addr} {k : Nat} {fd : FuncData} {ps : List Str} {sp : L2.Sp} {e : Expr} {es : List Expr} {ta : TA} {p pos : Pos} (T : OexG X.K C) (iC : PySem.W.findIn X.K (.ref C) "__init__" = some (some (.ref fI))) (tI : PySem.W.typeIn X.K (.ref fI) = some (.type "function"))
  (F1 : FnOk X.prog X.w X.K X.mg X.base CX k fI fd ps sp) (hr : Room (k + 1) X.A) (hb : Binds X.K fd ps []) (hx : Passes CX X (fun _ _ _ => False)) (hg : Gl X x) (hm : X.mg x = some (.ref C)) (ha : PA X (e :: es) ta)
  (hdb : (x == ("__debug__" : Str)) = false := by decide) (he : starEach (e :: es) X.env = (false, eval e X.env) :: starEach es X.env := by rfl) (hpl : (backTo pos (starEach es X.env)).any (·.1) = false := by rfl) :
  PE X (.Call (.Name x p) (e :: es) [] pos) (Yf8 C sp ta) := by
 refine ⟨fun pins s σ H Q I h => ?_⟩
 obtain ⟨nm, q, N, bs, bm, sn, sub, ab, col, dd, k0, k1, k2, k3, k5, newId, tl, hC, hbm, hT⟩ := T.cls
 refine wpAny_Call_Name_kw (ld_glob I hg hm ?_ hdb)
 refine PySem.W.callWith_K (h₀ := X.base) I.ok.mod.kin T.kC (thn (ha.run pos pins s σ H _ I h) fun us s1 ⟨vs, H1, I1, r1, hz, q1⟩ => ⟨I1.kIn, ?_⟩) he hpl
 show wpAny _ _ (PySem.call (.ref C) us) _ _ _
 obtain ⟨hp, g, dr, tk, os⟩ := s1
 have hsz : hp.objs.size <= hp.objs.size + 1 := Nat.le_succ _
 have hn : H1 (hp.objs.size + 1) = none := I1.hok.fresh hsz
 have hq := q1 (hp.objs.size + 1) hn
 have kk : ∀ b o, hp.get? b = some o -> ((hp.push (PySem.W.kdv_tup us)).push (PySem.HandSPX.excO C hp.objs.size)).get? b = some o := fun b o e => Qam _ (Qam _ e)
 have hget : ((hp.push (PySem.W.kdv_tup us)).push (PySem.HandSPX.excO C hp.objs.size)).get? (hp.objs.size + 1) = some (PySem.HandSPX.excO C hp.objs.size) := by heap_get
 have I2 : Inv X pins σ (upd H1 (hp.objs.size + 1) (exo (hp.objs.size + 1) C none)) ⟨(hp.push (PySem.W.kdv_tup us)).push (PySem.HandSPX.excO C hp.objs.size), g, dr, tk, os⟩ :=
  I1.laid (t' := tk) (a := hp.objs.size + 1) (o := exo (hp.objs.size + 1) C none) (h' := (hp.push (PySem.W.kdv_tup us)).push (PySem.HandSPX.excO C hp.objs.size)) kk hsz (exo_ok hget)
 have r2 : Vals (V.ref (hp.objs.size + 1) :: vs) (Value.ref (hp.objs.size + 1) :: us) := .cons rfl r1
 have hl : (Value.ref (hp.objs.size + 1) :: us ++ []).length = ps.length := by
  rw [Qa5]
  have e := r2.length
  rw [F1.len _ _ _ _ hq] at e
  exact e.symm
 have bt := hb _ (Value.ref (hp.objs.size + 1) :: us) I2.kIn hl
 rw [Qa5] at bt
 have hus : us.length <= sizeLine := by
  rw [<- Paired.length r1, sizeLine_eq]
  omega
 obtain ⟨B0, initId0, FB⟩ := hT.base
 refine wpAny_call (PySem.HandSPX.call_own FB (fun Y => Zby hT.ok Y bm hbm) (I1.kIn _ _ hC) (PySem.W.looks_findIn I1.kIn iC) (fun self => PySem.W.bind_fn I1.kIn self tI) hus
  (codeAny_mono (F1.run _ X.stack _ _ ⟨Value.ref (hp.objs.size + 1) :: us, []⟩ (Value.ref (hp.objs.size + 1) :: us) _ _ (fun _ _ _ => False) (hr.make C us []) (I2.env0.make C us []) bt r2 hq) fun r s' hq' => ?_))
 cases r with
 | error er => exact hx pins σ _ _ er s' I2 hq'
 | ok fl =>
  cases fl with
  | ret u =>
   obtain ⟨v, H2, I3, rv, ev, q2⟩ := I2.after hq'
   subst ev
   exact ⟨rv, ⟨V.ref (hp.objs.size + 1), H2, I3, rfl, q2⟩⟩
  | next => exact False.elim hq'
  | brk => exact False.elim hq'
  | cont => exact False.elim hq'
theorem Zxq {B : Addr} {bmB : List Value} {T newId initId : String} {x : Str} {p pos : Pos} (F : ExcBaseFacts T newId initId bmB) (q : PySem.W.excIn X.kw B bmB newId = true) (gC : X.mg x = some (.ref B))
  (kC : PySem.W.keepIn X.kw (.ref B) = true) (hg : Gl X x) (hdb : (x == ("__debug__" : Str)) = false) : PE X (.Call (.Name x p) [] [] pos) (fun _ H Q => ∀ a, H a = none -> Q (.ref a) (upd H a (ExO (.ref B) a))) := by
 refine ⟨fun pins s σ H Q I h => ?_⟩
 apply wpAny_Call_Name_kw
 apply ld_glob I hg gC _ hdb
 apply PySem.W.callWith_K0 I.kIn kC
 show wpAny _ _ (PySem.call (.ref B) []) _ _ _
 obtain ⟨bm, N, nm, qn, bs, hdct, sn, sub, ab, col, dd, k0, k1, k2, k3, k5, mN, hC, hN, hni, T'⟩ := exc_obj I.kIn q
 refine wpAny_call_exc_subT F T' hC hN hni (fun h' a hm => ?_) (Qax _)
 have hn : H a = none := I.hok.gone hm.new
 obtain ⟨t, ht, _, _⟩ := hm.there
 exact ⟨.ref a, upd H a (ExO (.ref B) a), I.laidN hm.keeps hm.new hn (exO_ok ht ⟨rfl, rfl⟩ rfl rfl rfl (show 4 < 6 by decide)), rfl, h a hn⟩
def Z9s (C : Addr) (f : Str) (te : TE) : TE := fun σ H Q => te σ H fun x H1 => ∃ (a dx : Addr) (o od : Obj) (fs : List (Str × V)) (v : V), x = .ref a /\ H1 a = some (.frz o (exo a C (some dx))) /\ H1 dx = some (.frz od (exd dx fs)) /\ fs.lookup f = some v /\ Q v H1
theorem Zxr {C : Addr} {e : Expr} {te : TE} {pos : Pos} {n : Str} (T : XfC X.K C) (hno : PySem.W.findIn X.K (.ref C) n = some none) (he : PE X e te) (hb : attributeBase e n X.env (eval e X.env) = eval e X.env) : PE X (.Attribute e n pos) (Z9s C n te) := by
 refine ⟨fun pins s σ H Q I h => ?_⟩
 refine attr_of hb (thn (he.run pins s σ H _ I h) fun u s1 hh => ?_)
 obtain ⟨x, H1, I1, rx, a, dx, o, od0, fs, v, ex, ea, ed, l, q⟩ := hh
 subst ex
 obtain rfl : u = Value.ref a := rx
 obtain ⟨ha, ⟨t1, hget⟩, _⟩ := I1.hok a _ ea
 obtain ⟨hd, ⟨mA, hns, hr⟩, _⟩ := I1.hok dx _ ed
 obtain ⟨od, ho, hl⟩ := lookIn_ns hns
 obtain ⟨u, hu, ru⟩ := RelO.some_of (v := v) (o := mA n) (by rw [<- l]; exact hr n)
 have J : PySem.W.InstAt s1.heap a _ C (some od) := ⟨hget, rfl, by unfold PySem.W.notCls; rfl, ho⟩
 exact HandSPX.exc_get I1.kIn J T.ga T.gg T.exC (PySem.W.findObj_own T.hdC hno rfl (by rw [hl, hu])) (handed_of ru) ⟨v, H1, I1.tok _, ru, q⟩
def AtX (H : Hp) (a C : Addr) : Prop := (∃ o, H a = some (.frz o (ExO (.ref C) a))) \/ ∃ o dx od fs, H a = some (.frz o (exo a C (some dx))) /\ H dx = some (.frz od (exd dx fs))
theorem Zkx {pins : List (Addr × Obj)} {σ : L2.St} {H : Hp} {s : Shared} {a C : Addr} (I : Inv X pins σ H s) (h : AtX H a C) : ∃ ox od, PySem.W.InstAt s.heap a ox C od := by
 rcases h with ⟨o, e⟩ | ⟨o, dx, od0, fs, e, ed⟩
 ·obtain ⟨ha, ⟨oe, vs, hget, hz, hd, _⟩, _⟩ := I.hok a _ e
  refine ⟨oe, none, hget, hz.1, by unfold PySem.W.notCls; rw [hd] <;> rfl, ?_⟩
  rw [hz.2]; trivial
 ·obtain ⟨ha, ⟨t1, hget⟩, _⟩ := I.hok a _ e
  obtain ⟨hd, ⟨mA, hns, hr⟩, _⟩ := I.hok dx _ ed
  obtain ⟨od, ho, hl⟩ := lookIn_ns hns
  exact ⟨_, some od, hget, rfl, by unfold PySem.W.notCls; rfl, ho⟩
theorem Zky : CallR X (.builtin "isinstance") (fun xs H Q => ∃ (a C : Addr) (c : V) (cv : Value) (b : Bool), xs = [.ref a, c] /\ IxC X.kw C /\ AtX H a C /\ (∀ u, RelV c u -> u = cv) /\ PySem.W.kitOne X.kw (.ref C) cv = some b /\ Q (.bl b) H) := by
 intro pins s σ H xs us Q I r h
 obtain ⟨a, C, c, cv, b, rfl, vx, hx, hcv, e, q⟩ := h
 obtain ⟨u1, u2, rfl, r1, r2⟩ := vals2 r
 cases (show u1 = Value.ref a from r1)
 have ec := hcv _ r2
 subst ec
 obtain ⟨ox, od, J⟩ := Zkx I hx
 exact PySem.W.kia_one (PySem.W.kitx_exc vx.cl vx.ga vx.gg vx.sb vx.cn vx.gt vx.tk vx.mr) I.kIn J e (fun z => nomatch z) fun tk => ⟨.bl b, H, I.tok tk, rfl, q⟩
theorem Zr5 : CallR X (.builtin "isinstance") (fun xs H Q => ∃ (a C t : Addr) (S T : String) (b : Bool), xs = [.ref a, .ref t] /\ IxC X.kw C /\ AtX H a C /\ TX H t [.ty S, .ty T] /\ PySem.W.kitAny X.kw (.ref C) [.type S, .type T] = some b /\ Q (.bl b) H) := by
 intro pins s σ H xs us Q I r h
 obtain ⟨a, C, t, S, T, b, rfl, vx, hx, ⟨o, et, ed⟩, e, q⟩ := h
 obtain ⟨u1, u2, rfl, r1, r2⟩ := vals2 r
 cases (show u1 = Value.ref a from r1)
 cases (show u2 = Value.ref t from r2)
 obtain ⟨ox, od, J⟩ := Zkx I hx
 obtain ⟨hget, _, its, hits, ⟨⟨cls, dd, data, sl⟩, ho, hc, n, hd⟩⟩ := I.hok t _ et
 dsimp only at hc hd
 subst hc hd
 obtain ⟨w1, w2, rfl, e1, e2⟩ := vals2 hits
 cases (show w1 = Value.type S from e1)
 cases (show w2 = Value.type T from e2)
 exact PySem.W.kia_tup (PySem.W.kitx_exc vx.cl vx.ga vx.gg vx.sb vx.cn vx.gt vx.tk vx.mr) I.kIn J ho e (fun z => nomatch z) fun tk => ⟨.bl b, H, I.tok tk, rfl, q⟩
end
section
variable {p : Pg} {C : Cl} {ca : CA} {k : Nat} {ks : Ks} {W : WX} {X : Cx}
theorem lkq {Q : VK} {v : V} {H : Hp} {a : Addr} {u : HO} (e : H a = some u) (m : Mut (some u)) (h : ∀ od, Q v (upd H a (.frz od u))) : LkQ Q v H := ⟨a, u, e, m, h⟩
theorem Zr6 {φ : Nat -> Addr} {S : Store} {H : Hp} {Q : VK} {c : Str} {B a : Addr} (r : RelS X.kw φ S H) (hn : PySem.W.nsIn X.kw mainGlobals c = some (some (.ref B))) (ha : H a = none) (h : Zd4 X.kw φ S H Q (.exn c [] []) S) : LkQ Q (.ref a) (upd H a (ExO (.ref B) a)) := by
 refine lkq upd_same trivial fun od => ?_
 rw [upd_upd]
 obtain ⟨r', st⟩ := r.lay (o' := .frz od (ExO (.ref B) a)) ha
 exact h φ _ _ st r' (.exn0 hn upd_same)
theorem Zxs {φ : Nat -> Addr} {S : Store} {H H' : Hp} {Q : VK} {c : Str} {fs : List Str} {B a dx : Addr} {ds : List D} {vs : List V} (r : RelS X.kw φ S H) (hn : PySem.W.nsIn X.kw mainGlobals c = some (some (.ref B))) (ha : H a = none) (hd : H dx = none) (ne : dx ≠ a)
  (e1 : H' a = some (exo a B (some dx))) (e2 : H' dx = some (exd dx (fs.zip vs).reverse)) (e3 : ∀ b, b ≠ a -> b ≠ dx -> H' b = H b) (hl : ds.length = fs.length) (rs : RVs X.kw φ S.nx H ds vs) (h : Zd4 X.kw φ S H Q (.exn c fs ds) S) : LkQ (LkQ Q) (.ref a) H' := by
 refine lkq e1 trivial fun od => lkq (a := dx) (u := exd dx (fs.zip vs).reverse) (by rw [upd_ne ne]; exact e2) trivial fun od2 => ?_
 obtain ⟨r1, st1⟩ := r.lay (o' := .frz od (exo a B (some dx))) ha
 have hd1 : (upd H a (.frz od (exo a B (some dx)))) dx = none := by rw [upd_ne ne]; exact hd
 obtain ⟨r2, st2⟩ := r1.lay (o' := .frz od2 (exd dx (fs.zip vs).reverse)) hd1
 have eq : upd (upd H' a (.frz od (exo a B (some dx)))) dx (.frz od2 (exd dx (fs.zip vs).reverse)) = upd (upd H a (.frz od (exo a B (some dx)))) dx (.frz od2 (exd dx (fs.zip vs).reverse)) := by
  funext b
  by_cases h1 : b = dx
  ·rw [h1, upd_same, upd_same]
  ·rw [upd_ne h1, upd_ne h1]
   by_cases h2 : b = a
   ·rw [h2, upd_same, upd_same]
   ·rw [upd_ne h2, upd_ne h2, e3 b h2 h1]
 rw [eq]
 exact h φ _ _ (st1.trans st2) r2 (.exn hn (by rw [upd_ne (Ne.symm ne)]; exact upd_same) upd_same hl (rs.mono r (st1.trans st2)))
theorem Z2r (g : Good p C ca k ks W X) {c : Str} {fs : List Str} {es : List Expr} {ms : List ME} {p1 pos : Pos} (ha : SA ca C W X es ms) (hm : es = [] -> ms = []) (hst : Zaa es = true) (hgl : ks.gl c = true) (hpl : Zac c = true) (h0 : es.length = fs.length) (hx : ∃ x ∈ p.xs, x.c = c /\ x.fs = fs /\ x.up.contains "!" = true) :
  SE ca C W X (.Call (.Name c p1) es [] pos) (.mkx c fs ms) := by
 obtain ⟨x, hx, rfl, rfl, hi⟩ := hx
 obtain ⟨B, hB, T⟩ := g.ex x hx
 obtain ⟨hn, vx, _⟩ := T.iv hi
 rcases T.made with ⟨hf, Tn, newId, initId, bmB, F, q⟩ | ⟨hf, O, fI, fd, st, N, qn, iC, tI, Fn, IT, bd⟩
 ·have e0 : es = [] := by
   rw [hf] at h0
   exact List.eq_nil_of_length_eq_zero h0
  have m0 := hm e0
  subst e0
  subst m0
  rw [hf]
  refine SE.plain (PE.mono (Zjq (Zxq F q T.gC T.kC (g.gl hgl) (Zad hpl))) fun σ H Q ⟨φ, S, ρ, a, h⟩ => ?_) rfl
  simp only [ev, evs, R.bind_ok, List.length_nil, if_true] at h
  intro b hb
  exact Zr6 a.rel hn hb h
 ·cases es with
  | nil =>
   have : x.fs = [] := by
    cases hq : x.fs with
    | nil => rfl
    | cons _ _ => rw [hq] at h0; cases h0
   exact absurd this hf
  | cons e es =>
   rw [Zaa, Qas, Qaa] at hst
   have hr : Room (1 + 1) X.A := g.room.mono (by omega)
   have F1 : FnOk X.prog X.w X.kw X.mg X.base (L2.CX X.prog X.w) 1 fI fd N (spI X.kw x.fs) := Zn9 Fn IT hf T.few
   have ps : Passes (L2.CX X.prog X.w) X (fun _ _ _ => False) := fun pins σ H s e s' I c => g.tk e s' (XE.of_call (W := W) I (fun _ _ _ z => z.elim) c)
   refine SE.plain (PE.mono (Zjq (Zjq (Z2q O iC tI F1 hr bd ps (g.gl hgl) T.gC ha (Zad hpl) (Zak hst.1 es) (Zab _ hst.2)))) fun σ H Q ⟨φ, S, ρ, a, h⟩ => ?_) rfl
   simp only [ev] at h
   refine Zag a h fun ds S1 φ1 H1 vs st1 a1 rv h1 => ?_
   split at h1
   ·rename_i hl
    have hlv : vs.length = x.fs.length := by rw [rv.length]; exact hl
    refine ⟨by have := T.few; omega, fun b hb => ⟨b, B, vs, rfl, hlv, O, T.no, upd_same, fun dx H' hdx ne q1 q2 q3 => ⟨rfl, ?_⟩⟩⟩
    have hdx' : H1 dx = none := by rw [upd_ne ne] at hdx; exact hdx
    exact Zxs a1.rel hn hb hdx' ne q1 q2 (fun b' h1 h2 => by rw [q3 b' h1 h2, upd_ne h1]) hl rv (Zaf.step st1 h1)
   ·exact h1.elim
theorem Zoq {K : KW} {φ : Nat -> Addr} {n : Nat} {H : Hp} : ∀ {fs : List Str} {ds : List D} {vs : List V}, RVs K φ n H ds vs -> RFs (RV K φ n H) (fs.zip ds) (fs.zip vs)
 | [], _, _, _ => .nil
 | _ :: _, _, _, .nil => .nil
 | _ :: _, _, _, .cons a t => .cons a (Zoq t)
theorem Zor {r : D -> V -> Prop} : ∀ {xs ys : List (Str × D)} {us vs : List (Str × V)}, RFs r xs us -> RFs r ys vs -> RFs r (xs ++ ys) (us ++ vs)
 | _, _, _, _, .nil, h => h
 | _, _, _, _, .cons a t, h => .cons a (Zor t h)
theorem Zos {r : D -> V -> Prop} : ∀ {xs : List (Str × D)} {us : List (Str × V)}, RFs r xs us -> RFs r xs.reverse us.reverse
 | _, _, .nil => .nil
 | _, _, .cons a t => by
  rw [List.reverse_cons, List.reverse_cons]
  exact Zor (Zos t) (.cons a .nil)
theorem Zxt {K : KW} {φ : Nat -> Addr} {n : Nat} {H : Hp} {c : Str} {fs : List Str} {ds : List D} {v : V} (r : RV K φ n H (.exn c fs ds) v) : (fs = [] /\ ds = []) \/ ∃ (a C dx : Addr) (o od : Obj) (vs : List V), v = .ref a /\ PySem.W.nsIn K mainGlobals c = some (some (.ref C)) /\ H a = some (.frz o (exo a C (some dx))) /\ H dx = some (.frz od (exd dx (fs.zip vs).reverse)) /\ RVs K φ n H ds vs := by
 cases r with
 | exn0 _ _ => exact .inl ⟨rfl, rfl⟩
 | exn h e1 e2 hl rs => exact .inr ⟨_, _, _, _, _, _, rfl, h, e1, e2, rs⟩
theorem Zxu (g : Good p C ca k ks W X) {c f : Str} {fs : List Str} {o : Expr} {mo : ME} {pos : Pos} (ho : SE ca C W X o mo) (hs : Zcb o = true) (hf : fs.contains f = true) (hx : ∃ x ∈ p.xs, x.c = c /\ x.fs = fs /\ x.up.contains "!" = true) : SE ca C W X (.Attribute o f pos) (.fldX c fs mo f) := by
 obtain ⟨x, hx, rfl, rfl, hi⟩ := hx
 obtain ⟨B, hB, T⟩ := g.ex x hx
 obtain ⟨hn, vx, _⟩ := T.iv hi
 refine SE.plain (PE.mono (Zxr T.xf (T.no f (Qaz.mp hf)) ho.pe (Zbz hs _)) fun σ H Q ⟨φ, S, ρ, a, h⟩ => ?_) rfl
 simp only [ev] at h
 refine Zag a h fun dx S1 φ1 H1 v st1 a1 rv h1 => ?_
 obtain ⟨d, e, q⟩ := Zas h1
 unfold xfD at e
 split at e
 ·split at e
  ·rename_i hc
   obtain ⟨rfl, rfl⟩ := hc
   rcases Zxt rv with ⟨h1, h2⟩ | ⟨b, C', dx, o1, od, vs, rfl, hn', e1, e2, rs⟩
   ·rw [h1] at e; cases e
   ·rw [hn] at hn'
    cases hn'
    obtain ⟨w, ew, rw'⟩ := (Zos (Zoq (fs := x.fs) rs)).lookS e
    exact ⟨_, _, _, _, _, w, rfl, e1, e2, ew, (Zaf.step st1 q).now a1.rel rw'⟩
  ·cases e
 ·cases e
theorem Zmv {K : PySem.W.Frag} {cls c : Value} {b : Bool} (h : PySem.W.exmOne K cls c = some b) (hs : cls = c -> b = true) : PySem.W.kitOne K cls c = some b := by
 unfold PySem.W.kitOne
 unfold PySem.W.exmOne at h
 split at h
 ·split
  ·rename_i q
   rw [hs (beq_iff_eq.mp q)]
  ·exact h
 ·cases h
theorem Zxv : ∀ T ∈ ixT, bootBuiltins T = some (.type (ixN T)) /\ (T == ("__debug__" : Str)) = false /\ T ≠ "__name__" := by
 intro T h
 simp only [ixT, Qaf, Qbb, or_false] at h
 rcases h with rfl | rfl | rfl | rfl <;> exact ⟨by decide +kernel, by decide +kernel, by decide +kernel⟩
theorem Zot {φ : Nat -> Addr} {n : Nat} {H : Hp} {c : Str} {fs : List Str} {xs : List D} {v : V} {B : Addr} (r : RV X.kw φ n H (.exn c fs xs) v) (hn : PySem.W.nsIn X.kw mainGlobals c = some (some (.ref B))) : ∃ a, v = .ref a /\ AtX H a B := by
 cases r with
 | exn0 h e => rw [hn] at h; cases h; exact ⟨_, rfl, .inl ⟨_, e⟩⟩
 | exn h e1 e2 _ _ => rw [hn] at h; cases h; exact ⟨_, rfl, .inr ⟨_, _, _, _, e1, e2⟩⟩
theorem Zxw (g : Good p C ca k ks W X) {a : Expr} {ma : ME} {c : Str} {al subs : List Str} {p1 p2 pos : Pos} (ha : SE ca C W X a ma) (hst : Zah a = true) (h1 : ks.gl "isinstance" = true) (h2 : ks.gl c = true) (h3 : Zac c = true) (hc : ∃ z ∈ p.xs, z.c = c)
  (hal : ∀ q ∈ al, ∃ z ∈ p.xs, z.c = q /\ z.up.contains "!" = true /\ z.up.contains q = true /\ subs.contains q = z.up.contains c) : SE ca C W X (.Call (.Name "isinstance" p1) [a, .Name c p2] [] pos) (.isXo c al subs ma) := by
 obtain ⟨y, hy, rfl⟩ := hc
 obtain ⟨B', hB', T'⟩ := g.ex y hy
 have pn' : PE X (.Name y.c p2) _ := pe_glob (v := .ref B') (g.gl h2) T'.gC rfl (Zad h3)
 refine SE.plain (PE.mono (pe_callB Zky (g.gl h1) g.ii Zcm (pa_cons ha.pe (pa_cons pn' pa_nil rfl) (Zak hst _)) (by decide) (by decide) (Zak hst _) rfl) fun σ H Q ⟨φ, S, ρ, a0, h⟩ => ?_) rfl
 simp only [ev] at h
 refine Zag a0 h fun dx S1 φ1 H1 v st1 a1 rx h1 => ?_
 obtain ⟨d, e, q⟩ := Zas h1
 unfold Z0g at e
 split at e
 ·rename_i c' fs' xs'
  split at e
  ·rename_i hq
   cases e
   obtain ⟨z, hz, rfl, z1, z2, z3⟩ := hal _ (Qaz.mp hq)
   obtain ⟨B, hB, T⟩ := g.ex z hz
   obtain ⟨hn, vx, _⟩ := T.iv z1
   obtain ⟨b, rfl, hx⟩ := Zot rx hn
   have e1 := g.sub z hz y hy B B' hB hB'
   refine ⟨b, B, .ref B', .ref B', subs.contains z.c, rfl, vx, hx, fun u hu => hu, ?_, (Zaf.step st1 q).now a1.rel (.bl _)⟩
   rw [z3]
   refine Zmv e1 fun q => ?_
   have e2 := g.sub z hz z hz B B hB hB
   cases q
   rw [e1] at e2
   rw [Option.some.inj e2]
   exact z2
  ·cases e
 ·cases e
theorem Zxx (g : Good p C ca k ks W X) {T : Str} {p1 : Pos} (h : T ∈ ixT) (hg : ks.gl T = true) (hm : X.mg T = none) : PE X (.Name T p1) (L2.tC (.ty (ixN T))) := by
 obtain ⟨h1, h2, h3⟩ := Zxv T h
 exact pe_bltn (g.gl hg) hm h1 rfl h3 h2
theorem Zr7 (g : Good p C ca k ks W X) {a : Expr} {ma : ME} {T : Str} {al subs : List Str} {p1 p2 pos : Pos} (ha : SE ca C W X a ma) (hst : Zah a = true) (h1 : ks.gl "isinstance" = true) (h2 : ks.gl T = true) (h3 : T ∈ ixT) (hm : X.mg T = none)
  (hal : ∀ q ∈ al, ∃ z ∈ p.xs, z.c = q /\ z.up.contains "!" = true /\ subs.contains q = z.up.contains T) : SE ca C W X (.Call (.Name "isinstance" p1) [a, .Name T p2] [] pos) (.isXt [T] false al subs ma) := by
 have pn' := Zxx g (p1 := p2) h3 h2 hm
 refine SE.plain (PE.mono (pe_callB Zky (g.gl h1) g.ii Zcm (pa_cons ha.pe (pa_cons pn' pa_nil rfl) (Zak hst _)) (by decide) (by decide) (Zak hst _) rfl) fun σ H Q ⟨φ, S, ρ, a0, h⟩ => ?_) rfl
 simp only [ev] at h
 refine Zag a0 h fun dx S1 φ1 H1 v st1 a1 rx h1 => ?_
 obtain ⟨d, e, q⟩ := Zas h1
 unfold Z0g at e
 split at e
 ·rename_i c' fs' xs'
  split at e
  ·rename_i hq
   cases e
   obtain ⟨z, hz, rfl, z1, z3⟩ := hal _ (Qaz.mp hq)
   obtain ⟨B, hB, T'⟩ := g.ex z hz
   obtain ⟨hn, vx, hk⟩ := T'.iv z1
   obtain ⟨b, rfl, hx⟩ := Zot rx hn
   refine ⟨b, B, .ty (ixN T), .type (ixN T), subs.contains z.c, rfl, vx, hx, fun u hu => hu, ?_, (Zaf.step st1 q).now a1.rel (.bl _)⟩
   rw [z3]
   exact (hk T h3).2
  ·cases e
 ·cases e
theorem Zr8 (g : Good p C ca k ks W X) {a : Expr} {ma : ME} {T U : Str} {al subs : List Str} {p1 p2 p3 p4 pos : Pos} {x1} (ha : SE ca C W X a ma) (hst : Zah a = true) (h1 : ks.gl "isinstance" = true) (h2 : ks.gl T = true) (h3 : T ∈ ixT) (hm : X.mg T = none) (h4 : ks.gl U = true) (h5 : U ∈ ixT) (hm2 : X.mg U = none)
  (hal : ∀ q ∈ al, ∃ z ∈ p.xs, z.c = q /\ z.up.contains "!" = true /\ subs.contains q = (z.up.contains T || z.up.contains U)) : SE ca C W X (.Call (.Name "isinstance" p1) [a, .Tuple [.Name T p2, .Name U p3] x1 p4] [] pos) (.isXt [T, U] true al subs ma) := by
 have pt : PE X (.Tuple [.Name T p2, .Name U p3] x1 p4) _ := Zjd (pa_cons (Zxx g (p1 := p2) h3 h2 hm) (pa_cons (Zxx g (p1 := p3) h5 h4 hm2) pa_nil rfl) rfl)
 refine SE.plain (PE.mono (pe_callB Zr5 (g.gl h1) g.ii Zcm (pa_cons ha.pe (pa_cons pt pa_nil rfl) (Zak hst _)) (by decide) (by decide) (Zak hst _) rfl) fun σ H Q ⟨φ, S, ρ, a0, h⟩ => ?_) rfl
 simp only [ev] at h
 refine Zag a0 h fun dx S1 φ1 H1 v st1 a1 rx h1 => ?_
 obtain ⟨d, e, q⟩ := Zas h1
 unfold Z0g at e
 split at e
 ·rename_i c' fs' xs'
  split at e
  ·rename_i hq
   cases e
   obtain ⟨z, hz, rfl, z1, z3⟩ := hal _ (Qaz.mp hq)
   obtain ⟨B, hB, T'⟩ := g.ex z hz
   obtain ⟨hn, vx, hk⟩ := T'.iv z1
   refine ⟨Qaw (Nat.le_of_eq rfl : _ <= 2) (by decide), fun l hl o ho => ?_⟩
   obtain ⟨r2, st2⟩ := a1.rel.lay (o' := .frz o (.tup [.ty (ixN T), .ty (ixN U)])) hl
   obtain ⟨b, rfl, hx⟩ := Zot (rx.mono a1.rel st2) hn
   refine ⟨b, B, l, ixN T, ixN U, subs.contains z.c, rfl, vx, hx, ⟨o, upd_same, ho⟩, ?_, (Zaf.step (st1.trans st2) q) φ1 _ _ r2.refl r2 (.bl _)⟩
   rw [z3]
   unfold PySem.W.kitAny
   rw [(hk T h3).2]
   cases z.up.contains T with
   | true => rfl
   | false =>
    show PySem.W.kitAny X.kw (.ref B) [.type (ixN U)] = _
    unfold PySem.W.kitAny
    rw [(hk U h5).2]
    cases z.up.contains U <;> rfl
  ·cases e
 ·cases e
end
end My
namespace My
open PySem PySem.Spec PyProof.Rows L2
variable [CP] [TC]
structure Grown (H H1 : Hp) : Prop where
 keep : ∀ b o, H b = some o -> NT o -> H1 b = some o
 back : ∀ b, H1 b = none -> H b = none
 tab : ∀ p ∈ TC.T, Zq5 H1 p.2.1 (Zt6 p.2.2)
theorem Grown.step {K : KW} {φ : Nat -> Addr} {S : Store} {H H1 : Hp} (g : Grown H H1) (r : RelS K φ S H) : RelS K φ S H1 /\ Step φ S H φ S H1 := by
 have st : Step φ S H φ S H1 := ⟨Qao _, fun _ _ => rfl, fun i h q => absurd q (Nat.not_lt.mpr h), fun a o e nt _ => g.keep a o e nt, fun a o e => by
  cases z : H1 a with
  | none => rw [g.back a z] at e; cases e
  | some o' => exact ⟨o', rfl⟩⟩
 refine ⟨⟨r.inj, fun i o q => ?_, g.tab⟩, st⟩
 obtain ⟨u, e, h⟩ := r.obj i o q
 exact ⟨u, g.keep _ _ e (My.Mut.nt h.mut), h.sub (st.sub r)⟩
theorem Zq5.ext {H H' : Hp} {P : Addr} {nm : Nat -> Nat -> Str} (t : Zq5 H P nm) (h : H' P = H P) (e : ∀ b o u, H b = some (.frz o u) -> H' b = some (.frz o u)) : Zq5 H' P nm := by
 obtain ⟨ps, h1, h2, h3⟩ := t
 refine ⟨ps, by rw [h]; exact h1, h2, fun pos cv hc => ?_⟩
 obtain ⟨c, e1, o, e2⟩ := h3 pos cv hc
 exact ⟨c, e1, o, e _ _ _ e2⟩
theorem Zxy {P : Program} {w : World} {H : Hp} {h : Heap} {f : Addr} {F : LF} {od : Option Addr} {sl : Array (Option Value)} {doc pm ctv : Value} (e : h.get? f = some (⟨.type "function", od, .func (F.fd doc pm ctv), sl⟩ : Obj)) : ObjOk P w H h f (Zt5 f F) :=
 ⟨⟨od, sl, doc, pm, ctv, e⟩, ⟨_, e⟩, fun h1 h2 ⟨od, sl, d, p, t, z⟩ st => ⟨od, sl, d, p, t, st _ z⟩⟩
theorem Zou {P : Program} {w : World} {H : Hp} {h : Heap} {f : Addr} {F : LF} (hok : HOk P w H h) (e : Zma H f F) : ∃ (od : Option Addr) (sl : Array (Option Value)) (doc pm ctv : Value), h.get? f = some (⟨.type "function", od, .func (F.fd doc pm ctv), sl⟩ : Obj) := by
 obtain ⟨o, e⟩ := e
 obtain ⟨_, z, _⟩ := hok f _ e
 exact z
theorem Zr9 {P : Program} {w : World} {H : Hp} {h : Heap} {c : Addr} {q : Str} (hok : HOk P w H h) (e : Zd3 H c q) : h.CodeRec (.ref c) q := by
 obtain ⟨o, e⟩ := e
 obtain ⟨_, ⟨oc, vs, t, h1, h2, h3⟩, _⟩ := hok c _ e
 exact ⟨c, oc, vs, t, rfl, h1, h2, h3⟩
section
variable {X : Cx} {pins : List (Addr × Obj)} {σ : L2.St} {H : Hp} {s : Shared}
theorem Zkz {F : LF} {o : Obj} {h' : Heap} {tk : Nat} {doc pm ctv : Value} (I : Inv X pins σ H { s with heap := h', toks := tk }) (ho : o = { cls := .type "function", data := .func (F.fd doc pm ctv) }) : ∃ oz, Inv X pins σ (upd H h'.objs.size (.frz oz (Zt5 h'.objs.size F))) { s with heap := h'.push o, toks := tk } := by
 subst ho
 have e : (h'.push ({ cls := .type "function", data := .func (F.fd doc pm ctv) } : Obj)).get? h'.objs.size = some ({ cls := .type "function", data := .func (F.fd doc pm ctv) } : Obj) := Qa0 _ rfl
 have I1 := I.laid (a := h'.objs.size) (o := Zt5 h'.objs.size F) (t' := tk) (h' := h'.push { cls := .type "function", data := .func (F.fd doc pm ctv) }) (fun b u q => Qam _ q) (Qao _) (Zxy e)
 obtain ⟨oz, I2⟩ := I1.lock upd_same trivial
 rw [upd_upd] at I2
 exact ⟨oz, I2⟩
theorem Zdu {a b : Addr} {o : HO} (e : upd H a o b = Option.none) : H b = Option.none := by
 unfold upd at e
 split at e
 ·cases e
 ·exact e
theorem Zov {c P : Addr} {params : Arguments} {body : Expr} {scope : Scope} {pos : Pos} {E : Value -> Shared -> Prop} {Q : Value -> Shared -> Prop} (I : Inv X pins σ H s) (TB : LamX.TabB X.base X.mg c P) (hcode : X.env.code = .ref c) (hm : (c, P, X.env.qual) ∈ TC.T)
  (hu : ∀ q ∈ TC.T, q.2.1 = P -> q.2.2 = X.env.qual) (hn : Zt6 X.env.qual pos.line pos.col = X.env.qual ++ "<lambda>") (hT : ∀ p ∈ TC.T, Zq5 H p.2.1 (Zt6 p.2.2)) (hdef : defaultsOf params X.env = ([], [])) (hfree : ∀ y ∈ scope.names, y.2 = .free -> ∃ c, X.env.cells.lookup y.1 = some c)
  (h : ∀ (f c' : Addr) (H1 : Hp) (s' : Shared), Inv X pins σ H1 s' -> Grown H H1 -> H f = none -> Zma H1 f ⟨"<lambda>", X.env.qual ++ "<lambda>", params, .expr body, scope, cloFrom X.env.cells scope.names [], c'⟩ -> Zd3 H1 c' (X.env.qual ++ "<lambda>") -> Q (.ref f) s') :
  wpAny (model X.prog X.w) X.A (eval (.Lambda params body scope pos) X.env) Q E s := by
 obtain ⟨ps, hP, ht, ha⟩ := hT _ hm
 have hP : H P = some (.tbl ps) := hP
 refine PySem.W.kla_eval hdef ?_
 have bP : s.heap.BuiltinsAt X.mg P := TB.bm.keeps I.bk
 have hP' : s.heap.get? P = some { cls := .none, data := .fields ps } := I.hok P _ hP
 cases hc : codeAmong pos ps.toList with
 | none =>
  refine PySem.W.kla_makeFunction (mg := X.mg) (c := c) (P := P) (ps := ps) (L2.closure_ok hfree) I.ok.glob (I.mod.glob.keeps I.bk) hcode (TB.code.keeps I.bk) hP' ht hc TB.gP bP fun c' ctv h' tk hx hge hlt hrec htb => ?_
  obtain ⟨c2, oc, vs, t, e2, hoc, hd, hv⟩ := hrec
  cases e2
  have nC : H c' = none := I.hok.fresh hge
  have cP : c' ≠ P := fun z => by rw [z, hP] at nC; cases nC
  have I0 := LamX.inv_table (q := X.env.qual ++ "<lambda>") (t' := tk) (more := #[rawInt pos.line, rawInt pos.col, .ref c']) (h' := h') I hP (fun b o hb e => hx b o hb e) htb hge ⟨oc, vs, t, hoc, hd, hv⟩
  obtain ⟨oz, I1⟩ := I0.lock upd_same trivial
  rw [upd_upd] at I1
  obtain ⟨of, I2⟩ := Zkz (F := ⟨"<lambda>", X.env.qual ++ "<lambda>", params, .expr body, scope, cloFrom X.env.cells scope.names [], c'⟩) (pm := (X.mg "__name__").getD .none) (ctv := ctv) (doc := .none) I1 rfl
  have n1 : h'.objs.size ≠ c' := Nat.ne_of_gt hlt
  have nF : H h'.objs.size = none := I.hok.fresh (Qaw hge (Nat.le_of_lt hlt))
  have nP : h'.objs.size ≠ P := fun z => by rw [z, hP] at nF; cases nF
  have at_ : ∀ b o, H b = some o -> b ≠ P -> upd (upd (upd H P (.tbl (ps ++ #[rawInt pos.line, rawInt pos.col, .ref c']))) c' (.frz oz (LamX.CodeO c' (X.env.qual ++ "<lambda>")))) h'.objs.size (.frz of (Zt5 h'.objs.size ⟨"<lambda>", X.env.qual ++ "<lambda>", params, .expr body, scope, cloFrom X.env.cells scope.names [], c'⟩)) b = some o := fun b o e q => by
   rw [upd_ne (ne_of_none e nF), upd_ne (ne_of_none e nC), upd_ne q]
   exact e
  have frzs : ∀ b o u, H b = some (.frz o u) -> upd (upd (upd H P (.tbl (ps ++ #[rawInt pos.line, rawInt pos.col, .ref c']))) c' (.frz oz (LamX.CodeO c' (X.env.qual ++ "<lambda>")))) h'.objs.size (.frz of (Zt5 h'.objs.size ⟨"<lambda>", X.env.qual ++ "<lambda>", params, .expr body, scope, cloFrom X.env.cells scope.names [], c'⟩)) b = some (.frz o u) := fun b o u e => at_ b _ e fun z => by
   rw [z, hP] at e
   cases e
  have atc : upd (upd (upd H P (.tbl (ps ++ #[rawInt pos.line, rawInt pos.col, .ref c']))) c' (.frz oz (LamX.CodeO c' (X.env.qual ++ "<lambda>")))) h'.objs.size (.frz of (Zt5 h'.objs.size ⟨"<lambda>", X.env.qual ++ "<lambda>", params, .expr body, scope, cloFrom X.env.cells scope.names [], c'⟩)) c' = some (.frz oz (LamX.CodeO c' (X.env.qual ++ "<lambda>"))) := by
   rw [upd_ne (Ne.symm n1), upd_same]
  refine h _ c' _ _ I2 ⟨fun b o e nt => at_ b o e fun z => nt ps (Option.some.inj (e.symm.trans (by rw [z]; exact hP))), fun b e => Zdu (Zdu (Zdu e)), fun p hp => ?_⟩ nF ⟨of, upd_same⟩ ⟨oz, atc⟩
  by_cases hb : p.2.1 = P
  ·rw [hb, hu p hp hb]
   have eL : (ps ++ #[rawInt pos.line, rawInt pos.col, .ref c']).toList = ps.toList ++ [rawInt pos.line, rawInt pos.col, .ref c'] := by simp
   refine ⟨_, by rw [upd_ne (Ne.symm nP), upd_ne (Ne.symm cP), upd_same], by rw [eL]; exact PySem.TriplesOk_snoc _ _ _ _ ht, fun p' cv hcv => ?_⟩
   rw [eL] at hcv
   rcases NdefX.among_app2 _ ht hcv with z | ⟨z, z1, z2⟩
   ·obtain ⟨c0, e1, o0, e2⟩ := ha p' cv z
    exact ⟨c0, e1, o0, frzs _ _ _ e2⟩
   ·refine ⟨c', z, oz, ?_⟩
    rw [<- z1, <- z2]
    show _ = some (HO.frz oz (LamX.CodeO c' (Zt6 X.env.qual pos.line pos.col)))
    rw [hn]
    exact atc
  ·refine (hT p hp).ext ?_ frzs
   obtain ⟨qs, hq, _, _⟩ := hT p hp
   rw [hq]
   exact at_ _ _ hq hb
 | some cv =>
  obtain ⟨c', e, hco⟩ := ha pos cv hc
  subst e
  have hco : Zd3 H c' (Zt6 X.env.qual pos.line pos.col) := hco
  rw [hn] at hco
  refine PySem.W.kla_makeFunctionHit (mg := X.mg) (c := c) (P := P) (ps := ps) (L2.closure_ok hfree) I.ok.glob (I.mod.glob.keeps I.bk) hcode (TB.code.keeps I.bk) hP' ht hc bP fun ctv h' tk hx hsz => ?_
  have I1 : Inv X pins σ H { s with heap := h', toks := tk } := I.kept hx
  obtain ⟨of, I2⟩ := Zkz (F := ⟨"<lambda>", X.env.qual ++ "<lambda>", params, .expr body, scope, cloFrom X.env.cells scope.names [], c'⟩) (pm := (X.mg "__name__").getD .none) (ctv := ctv) (doc := .none) I1 rfl
  have nF : H h'.objs.size = none := I.hok.fresh hsz
  have at_ : ∀ b o, H b = some o -> upd H h'.objs.size (.frz of (Zt5 h'.objs.size ⟨"<lambda>", X.env.qual ++ "<lambda>", params, .expr body, scope, cloFrom X.env.cells scope.names [], c'⟩)) b = some o := fun b o e => by
   rw [upd_ne (ne_of_none e nF)]
   exact e
  obtain ⟨oz, ez⟩ := hco
  refine h _ c' _ _ I2 ⟨fun b o e _ => at_ b o e, fun b e => Zdu e, fun p hp => (hT p hp).ext ?_ fun b o u e => at_ b _ e⟩ nF ⟨of, upd_same⟩ ⟨oz, at_ _ _ ez⟩
  obtain ⟨qs, hq, _, _⟩ := hT p hp
  rw [hq]
  exact at_ _ _ hq
end
end My
namespace My
open PySem PySem.Spec PyProof.Rows L2
variable [CP] [TC]
def Zus (X : Cx) (σ : L2.St) (L : LC) : Prop := (∀ cl fr ws, X.lc.kn cl fr ws -> L.kn cl fr ws) /\ ∀ cl fr js (ws : List V), X.lc.cp cl fr js -> js.map (NdefX.slotAt σ) = ws.map some -> L.kn cl fr (ws.map some)
section
variable {X : Cx} {pins : List (Addr × Obj)} {σ : L2.St} {H : Hp} {s : Shared}
theorem Zjr (I : Inv X pins σ H s) (hd : X.outer.length < X.stack.length) (hf : ∀ y c, X.env.cells.lookup y = some c -> c ∉ X.fs) : Zus X σ (Zrf s H X.stack) := by
 have nst : ∀ (c : Addr), c ∉ X.fs -> c ≠ X.env.locals -> c ∉ frs X.stack := fun c h1 h2 hm => by
  rcases Qaf.mp (I.stkSub c hm) with e | e
  ·exact h2 e
  ·exact h1 e
 refine ⟨fun cl fr ws h => ?_, fun cl fr js ws h e => ?_⟩
 ·obtain ⟨C, n1, n2⟩ := h hd
  refine ⟨C.later n1 n2 I, fun y c e => nst c (n1 y c e) fun z => ?_⟩
  obtain ⟨_, v, o, ho, _⟩ := C.all y c e
  rw [z] at ho
  exact Nat.lt_irrefl _ (Qa4 (Heap.lt_size ho) I.ok.above)
 ·have cp := h hd
  have C := NdefX.cells_of I (⟨cp.sub, cp.kin, cp.sup, cp.at_⟩ : NdefX.Caps X cl fr js)
  rw [e] at C
  exact ⟨C, fun y c e => nst c (hf y c (cp.sub y c e)) (I.cne y c (cp.sub y c e))⟩
def Zxz (X : Cx) (σ : L2.St) (φ : Nat -> Addr) (n : Nat) (H : Hp) (y : Str) (cs : List D) (f : Addr) : Prop := CloR X.lc X.kw φ n H y cs f \/
 ∃ (li : LI) (cl : List (Str × Addr)) (c : Addr) (is : List Nat) (ws : List V), TC.lam y li /\ Zma H f (li.at cl c) /\ Zd3 H c li.qual /\ X.lc.cp cl li.fr is /\ Zt7 y = [] /\ is.map (NdefX.slotAt σ) = ws.map some /\ RVs X.kw φ n H cs ws
theorem Zxz.toL {φ : Nat -> Addr} {n : Nat} {L : LC} {y : Str} {cs : List D} {f : Addr} (h : Zxz X σ φ n H y cs f) (o : Zus X σ L) : CloR L X.kw φ n H y cs f := by
 rcases h with h | ⟨li, cl, c, is, ws, h1, h2, h3, h4, h5, h6, h7⟩
 ·exact h.weak o.1
 ·exact .mk (fun _ => "") (fun _ => []) (fun _ => 0) h1 h2 h3 (o.2 _ _ _ _ h4 h6) h7 (fun j hj => by rw [h5] at hj; cases hj) fun j hj => by rw [h5] at hj; cases hj
theorem Zxz.sub {φ φ' : Nat -> Addr} {n n' : Nat} {H' : Hp} (s : Sub φ n H φ' n' H') {y : Str} {cs : List D} {f : Addr} (h : Zxz X σ φ n H y cs f) : Zxz X σ φ' n' H' y cs f := by
 rcases h with h | ⟨li, cl, c, is, ws, h1, h2, h3, h4, h5, h6, h7⟩
 ·exact .inl (h.sub s)
 ·exact .inr ⟨li, cl, c, is, ws, h1, h2.sub s, h3.sub s, h4, h5, h6, h7.sub s⟩
def Z2s : MA -> Bool
 | .v _ => false
 | _ => true
def RC1 (X : Cx) (σ : L2.St) (a : MA) (φ : Nat -> Addr) (n : Nat) (H : Hp) (d : D) (v : V) : Prop := RV X.kw φ n H d v /\ (Z2s a = true -> ∃ (y : Str) (cs : List D) (f : Addr), d = D.clo y cs /\ v = V.ref f /\ Zxz X σ φ n H y cs f)
def RCs (X : Cx) (σ : L2.St) (as : List MA) (φ : Nat -> Addr) (n : Nat) (H : Hp) (ds : List D) (vs : List V) : Prop := RVs X.kw φ n H ds vs /\ ds.length = as.length /\
 ∀ (j : Nat) (a : MA), as[j]? = some a -> Z2s a = true -> ∃ (y : Str) (cs : List D) (f : Addr), ds[j]? = some (D.clo y cs) /\ vs[j]? = some (V.ref f) /\ Zxz X σ φ n H y cs f
end
section
variable {p : Pg} {C : Cl} {ca : CA} {k : Nat} {ks : Ks} {W : WX} {X : Cx}
abbrev SM (ca : CA) (C : Cl) (W : WX) (X : Cx) (e : Expr) (a : MA) : Prop := PE X e fun σ H Q => tG X.kw X.lc ca W (RC1 X σ a) (eva C a) σ H Q
abbrev SMs (ca : CA) (C : Cl) (W : WX) (X : Cx) (es : List Expr) (as : List MA) : Prop := PA X es fun σ H Q => tG X.kw X.lc ca W (RCs X σ as) (Zf2 C as) σ H Q
theorem Yf9 {e : Expr} {m : ME} (h : SE ca C W X e m) : SM ca C W X e (.v m) := PE.mono h.pe fun σ H Q ⟨φ, S, ρ, a, h⟩ => by
 simp only [eva] at h
 exact ⟨φ, S, ρ, a, R.wp_mono h (fun d S' z φ' H' v st r rv => z φ' H' v st r ⟨rv, fun z => nomatch z⟩) fun _ _ z => z⟩
theorem Zow {φ : Nat -> Addr} {n : Nat} {H : Hp} {ρ : Ev} {σ : L2.St} {L : LC} {K : KW} (e : RelE K L φ n H ρ σ) {i m : Nat} {d : D} (h : (ρ[i]?).bind (Zb2 ρ m) = some d) : ∃ v, NdefX.slotAt σ i = some v /\ RV K φ n H d v := by
 cases z : ρ[i]? with
 | none => rw [z] at h; cases h
 | some sl =>
  rw [z] at h
  have h : Zb2 ρ m sl = some d := h
  cases sl with
  | no => cases m <;> simp [Zb2] at h
  | o _ => cases m <;> simp [Zb2] at h
  | v d' =>
   have : d' = d := by cases m <;> simpa [Zb2] using h
   subst this
   obtain ⟨v, e1, e2⟩ := e.at_ i _ z
   exact ⟨v, NdefX.slotAt_of e1, e2⟩
  | c x cs =>
   have : D.clo x cs = d := by cases m <;> simpa [Zb2] using h
   subst this
   obtain ⟨f, e1, _⟩ := e.clo i _ _ z
   exact ⟨_, NdefX.slotAt_of e1, .clo⟩
  | df x is =>
   obtain ⟨f, e1, _⟩ := e.df i _ _ z
   cases m with
   | zero => simp [Zb2] at h
   | succ m =>
    simp only [Zb2, Qad] at h
    obtain ⟨cs, _, rfl⟩ := h
    exact ⟨_, NdefX.slotAt_of e1, .clo⟩
theorem Zg3 {φ : Nat -> Addr} {n : Nat} {H : Hp} {ρ : Ev} {σ : L2.St} {L : LC} {K : KW} (e : RelE K L φ n H ρ σ) {m : Nat} : ∀ {is : List Nat} {cs : List D}, Zbv (fun i => (ρ[i]?).bind (Zb2 ρ m)) is = some cs -> ∃ ws, is.map (NdefX.slotAt σ) = ws.map some /\ RVs K φ n H cs ws
 | [], cs, h => by
  cases h
  exact ⟨[], rfl, .nil⟩
 | i :: is, cs, h => by
  obtain ⟨y, t, h1, h2, rfl⟩ := Zbd h
  obtain ⟨ws, e1, e2⟩ := Zg3 e h2
  obtain ⟨v, a1, a2⟩ := Zow e h1
  exact ⟨v :: ws, by simp [a1, e1], .cons a2 e2⟩
theorem Yga (g : Good p C ca k ks W X) {x : Str} {pos : Pos} {i : Nat} (h1 : p.N[i]? = some x) (h2 : ks.vis x = true) (h3 : Zac x = true) : SM ca C W X (.Name x pos) (.p i) := by
 refine PE.mono (pe_var (i := i) (by rw [g.N]; exact h1) (g.vis h2) (Zad h3) (Zat h3)) fun σ H Q ⟨φ, S, ρ, a, h⟩ => ?_
 simp only [eva] at h
 split at h
 ·rename_i y cs e
  obtain ⟨f, e1, cr⟩ := a.env.clo i _ _ e
  exact ⟨_, e1, Zaf.now h a.rel ⟨.clo, fun _ => ⟨y, cs, f, rfl, rfl, .inl cr⟩⟩⟩
 ·rename_i y is e
  obtain ⟨f, e1, li, cl, c, a1, a2, a3, a4, a5⟩ := a.env.df i _ _ e
  obtain ⟨d, ed, hq⟩ := Zas h
  simp only [Zb2, Qad] at ed
  obtain ⟨cs, ec, rfl⟩ := ed
  obtain ⟨ws, w1, w2⟩ := Zg3 a.env ec
  exact ⟨_, e1, Zaf.now hq a.rel ⟨.clo, fun _ => ⟨y, cs, f, rfl, rfl, .inr ⟨li, cl, c, is, ws, a1, a2, a3, a4, a5, w1, w2⟩⟩⟩⟩
 ·exact h.elim
theorem Zsa {params : Arguments} {ps : List Str} {env : Env} (h : Z0o params ps = true) : defaultsOf params env = ([], []) := by
 unfold Z0o at h
 simp only [Qaa, List.isEmpty_iff] at h
 obtain ⟨⟨⟨⟨⟨⟨⟨_, _⟩, _⟩, _⟩, h5⟩, _⟩, h7⟩, _⟩ := h
 obtain ⟨a1, a2, a3, a4, a5, a6, a7⟩ := params
 dsimp only at h5 h7
 subst h5
 subst h7
 rfl
theorem Ygb (g : Good p C ca k ks W X) {params : Arguments} {body : Expr} {scope : Scope} {pos : Pos} {x : Str} {is : List Nat} {n : Nat} {m : LmI} {mb : ME} (hmk : ks.mk' = true) (hnd : CP.nd.lookup (pos.line, pos.col) = none) (hm : CP.lm x = some m) (hl : lmB m params scope x = true) (hcf : Zt7 x = [])
  (hcap : Z9e ks.sc scope m.fr = true) (his : is.map (fun i => p.N[i]?) = m.fr.map some) (hb : m.df.body = .seq (.cl (CP.cp x)) (.ret mb)) (hk : okE { p with N := m.N } n ⟨scope, scope, true, false⟩ body mb = true) : SM ca C W X (.Lambda params body scope pos) (.l x is) := by
 have par : Z0o params m.ps = true := by
  unfold lmB at hl
  simp only [Qaa] at hl
  exact hl.1.1.1
 unfold Z9e at hcap
 simp only [Qaa, Bool.or_eq_true, Qav, Qab, decide_eq_false_iff_not, Qap] at hcap
 have hfree : ∀ y ∈ scope.names, y.2 = .free -> X.env.scope.names.lookup y.1 = some .cell \/ X.env.scope.names.lookup y.1 = some .free := fun y hy e => by
  rw [g.sc]
  rcases hcap.1 y hy with (z | z) | z
  ·exact absurd e z
  ·exact .inl z
  ·exact .inr z
 constructor
 intro pins s σ H Q I ⟨φ, S, ρ, a, h⟩
 simp only [eva] at h
 obtain ⟨d, ed, hq⟩ := Zas h
 simp only [Zgv, Qad] at ed
 obtain ⟨cs, ec, rfl⟩ := ed
 obtain ⟨ws, w1, w2⟩ := Zg3 a.env ec
 obtain ⟨c, P, t1, t2, t3, t4⟩ := g.mk' hmk
 have hn : Zt6 X.env.qual pos.line pos.col = X.env.qual ++ "<lambda>" := by
  unfold Zt6
  rw [hnd]; rfl
 have hfr : ∀ y ∈ scope.names, y.2 = .free -> ∃ c, X.env.cells.lookup y.1 = some c := fun y hy e => (hfree y hy e).elim (fun z => I.ok.has _ (.inl z)) fun z => I.ok.has _ (.inr z)
 refine Zov I t2 t1 t3 t4 hn a.rel.tab (Zsa par) hfr fun f c' H1 s' I1 gr f0 f1 c1 => ?_
 obtain ⟨r1, st1⟩ := gr.step a.rel
 have cp := NdefX.Caps.made (X := X) I.ok hfree hcap.2 (js := is) (fr := m.fr) (by rw [g.N]; exact his)
 refine ⟨.ref f, H1, I1, rfl, hq φ H1 (.ref f) st1 r1 ⟨.clo, fun _ => ⟨x, cs, f, rfl, rfl, .inr ⟨⟨"<lambda>", X.env.qual ++ "<lambda>", params, .expr body, scope, m.fr⟩, _, c', is, ws, ?_, f1, c1, fun _ => ⟨cp.sub, cp.kin, cp.sup, cp.at_⟩, hcf, w1, w2.sub (st1.sub a.rel)⟩⟩⟩⟩
 exact g.lm x _ ⟨m, body, mb, n, hm, rfl, rfl, hl, hb, hk⟩
theorem Zx0 : SMs ca C W X [] [] := PA.mono pa_nil fun σ H Q ⟨φ, S, ρ, a, h⟩ => by
 simp only [Zf2] at h
 exact h φ H [] a.rel.refl a.rel ⟨.nil, rfl, fun j a e => by simp at e⟩
theorem Zsb {e : Expr} {es : List Expr} {m : MA} {ms : List MA} (hs : Zah e = true) (he : SM ca C W X e m) (hr : SMs ca C W X es ms) : SMs ca C W X (e :: es) (m :: ms) := by
 refine PA.mono (pa_cons he hr (Zak hs es)) fun σ H Q ⟨φ, S, ρ, a, h⟩ => ?_
 simp only [Zf2] at h
 refine Zag a h fun dx S1 φ1 H1 x st1 a1 rx h1 => Zag a1 h1 fun ds S2 φ2 H2 vs st2 a2 rs h2 => ?_
 have sb := st2.sub a1.rel
 refine h2 φ2 H2 (x :: vs) (st1.trans st2) a2.rel ⟨.cons (rx.1.sub sb) rs.1, by rw [Qai, Qai, rs.2.1], fun j b e hv => ?_⟩
 cases j with
 | zero =>
  cases e
  obtain ⟨y, cs, f, e1, e2, e3⟩ := rx.2 hv
  exact ⟨y, cs, f, by rw [e1]; rfl, by rw [e2]; rfl, e3.sub sb⟩
 | succ j =>
  obtain ⟨y, cs, f, e1, e2, e3⟩ := rs.2.2 j b (by simpa using e) hv
  exact ⟨y, cs, f, by simpa using e1, by simpa using e2, e3⟩
def Z2t (X : Cx) (sp : SpL) (W : WX) (t : TA) : TE := fun σ H Q => t σ H fun vs H1 => ∀ L, Zus X σ L -> sp L vs H1 Q (WE W σ)
theorem Zsc {f : Addr} {fd : FuncData} {ps : List Str} {sp : SpL} {kk : Nat} {x : Str} {p1 pos : Pos} {e : Expr} {es : List Expr} {t : TA} (F : FnG X.prog X.w X.kw X.mg X.base kk f fd ps sp) (hgu : X.A.guards = some []) (hr : Room kk X.A) (hg : Gl X x) (hm : X.mg x = some (.ref f)) (hk : PySem.W.keepIn X.kw (.ref f) = true) (hb : Binds X.kw fd ps []) (tk : Takes X W)
  (hd : X.outer.length < X.stack.length) (hf : ∀ y c, X.env.cells.lookup y = some c -> c ∉ X.fs) (ha : PA X (e :: es) t) (hdb : (x == ("__debug__" : Str)) = false) (he : starEach (e :: es) X.env = (false, eval e X.env) :: starEach es X.env) (hpl : (backTo pos (starEach es X.env)).any (·.1) = false) :
  PE X (.Call (.Name x p1) (e :: es) [] pos) (Z2t X sp W t) := by
 constructor
 intro pins s σ H Q I h
 apply wpAny_Call_Name_kw
 apply ld_glob I hg hm _ hdb
 apply PySem.W.callWith_K (h₀ := X.base) I.ok.mod.kin hk (thn (ha.run pos pins s σ H _ I h) _) he hpl
 rintro us s1 ⟨vs, H1, I1, r, q⟩
 exact ⟨I1.kIn, F.run1 hgu hr hb tk I1 r (q _ (Zjr I1 hd hf))⟩
theorem RCs.cp {σ : L2.St} {as : List MA} {φ : Nat -> Addr} {n : Nat} {H : Hp} {ds : List D} {vs : List V} {L : LC} (r : RCs X σ as φ n H ds vs) (o : Zus X σ L) {f : Str} (h : cpB f 0 as = true) : ∀ j ∈ CP.cp f, Z6r L X.kw φ n H ds vs j := fun j hj => by
 have q := Qap.mp h j hj
 simp only [Qaa, Nat.sub_zero] at q
 have q2 := q.2
 split at q2
 ·cases q2
 ·rename_i a hn e
  have hv : Z2s a = true := by
   cases a with
   | v e0 => exact (hn e0 rfl).elim
   | _ => rfl
  obtain ⟨y, cs, f, e1, e2, e3⟩ := r.2.2 j a e hv
  exact ⟨y, cs, f, e1, e2, e3.toL o⟩
 ·cases q2
theorem Zsd (g : Good p C ca k ks W X) {f : Str} {es : List Expr} {as : List MA} {p1 pos : Pos} (ha : SMs ca C W X es as) (hne : es.isEmpty = false) (hst : Zaa es = true) (h1 : ks.gl f = true) (h2 : Zac f = true) (hdf : ks.df = true) (h3 : p.fs.contains f = true) (h4 : Zbf f = false) (h5 : cpB f 0 as = true) : SE ca C W X (.Call (.Name f p1) es [] pos) (.callL f as) := by
 obtain ⟨fa, fd, ps, us, dvs, sp, _, hm, hk, hb, hd, hu, F, hsp⟩ := g.fn f h3
 rw [Zfg h4] at hm
 have hu := hu h4
 subst hu
 cases hd
 obtain ⟨d1, d2, d3⟩ := g.df hdf
 refine SE.plain ?_ rfl
 cases es with
 | nil => cases hne
 | cons e es =>
  rw [Zaa, Qas, Qaa] at hst
  refine PE.mono (Zsc F g.gu g.room (g.gl h1) hm hk hb g.tk d1 d3 ha (Zad h2) (Zak hst.1 es) (Zab _ hst.2)) fun σ H Q ⟨φ, S, ρ, a, h⟩ => ?_
  simp only [ev] at h
  refine Zag a h fun ds S1 φ1 H1 vs st1 a1 rs h1 L o => ?_
  have q := hsp L vs H1 Q (WE W σ) ⟨φ1, S1, ds, a1.rel, rs.1, rs.cp o h5, R.wp_mono h1 (fun _ _ z => Zaf.step st1 z) fun _ _ z => z⟩
  rw [Qa5] at q
  exact q
def Z2u (X : Cx) (B : Addr) (m : Str) (sp : SpL) (W : WX) (ta : TE) (t : TA) : TE := fun σ H Q => ta σ H fun x H1 => ∃ a dx fs, x = .ref a /\ H1 a = some (.ins B dx fs) /\ fs.lookup m = none /\ t σ H1 fun vs H2 => ∀ L, Zus X σ L -> sp L (x :: vs) H2 Q (WE W σ)
theorem Zse {f B : Addr} {fd : FuncData} {ps : List Str} {sp : SpL} {kk : Nat} {m : Str} {o e : Expr} {es : List Expr} {ta : TE} {t : TA} {ap cp : Pos} (ho : PE X o ta) (c : Cls X.kw B) (hm : Meth X.kw B m f) (F : FnG X.prog X.w X.kw X.mg X.base kk f fd ps sp) (hgu : X.A.guards = some []) (hr : Room kk X.A) (hbd : Binds X.kw fd ps []) (tk : Takes X W)
  (hd : X.outer.length < X.stack.length) (hf : ∀ y c, X.env.cells.lookup y = some c -> c ∉ X.fs) (ha : PA X (e :: es) t)
  (hb : attributeBase o m X.env (eval o X.env) = eval o X.env) (hst : Zaa (e :: es) = true) (hz : (e :: es).length < 30) (hl : (ap.endLine == cp.line) = true) : PE X (.Call (.Attribute o m ap) (e :: es) [] cp) (Z2u X B m sp W ta t) := by
 constructor
 intro pins s σ H Q I h
 apply Zdr hb (Zei (X := X) (cp := cp) hst hz) hl
 apply thn (ho.run pins s σ H _ I h)
 rintro u s1 ⟨v, H1, I1, rv, a, dx, fs, rfl, ea, hn, q⟩ pl
 cases rv
 apply getmeth_ok I1 ea c hm hn
 rw [Zaa, Qas, Qaa] at hst
 apply PySem.W.callWith_K (first := [.ref a]) (h₀ := X.base) I.ok.mod.kin hm.kp (thn (ha.run cp pins s1 σ H1 _ I1 q) _) (Zak hst.1 es) (Zab _ hst.2)
 rintro us s2 ⟨vs, H2, I2, r, q2⟩
 exact ⟨I2.kIn, F.run1 (us := .ref a :: us) (vs := .ref a :: vs) hgu hr hbd tk I2 (.cons rfl r) (q2 _ (Zjr I2 hd hf))⟩
theorem RCs.cp1 {σ : L2.St} {as : List MA} {φ : Nat -> Addr} {n : Nat} {H : Hp} {d : D} {v : V} {ds : List D} {vs : List V} {L : LC} (r : RCs X σ as φ n H ds vs) (o : Zus X σ L) {f : Str} (h : cpB f 1 as = true) : ∀ j ∈ CP.cp f, Z6r L X.kw φ n H (d :: ds) (v :: vs) j := fun j hj => by
 have q := Qap.mp h j hj
 simp only [Qaa, Qab] at q
 have q2 := q.2
 cases j with
 | zero => omega
 | succ j =>
  rw [show j + 1 - 1 = j from rfl] at q2
  split at q2
  ·cases q2
  ·rename_i a hn e
   have hv : Z2s a = true := by
    cases a with
    | v e0 => exact (hn e0 rfl).elim
    | _ => rfl
   obtain ⟨y, cs, f, e1, e2, e3⟩ := r.2.2 j a e hv
   exact ⟨y, cs, f, by simpa using e1, by simpa using e2, e3.toL o⟩
  ·cases q2
theorem Zsf (g : Good p C ca k ks W X) {o : Expr} {mo : ME} {c m d : Str} {es : List Expr} {as : List MA} {ap cp : Pos} (ho : SE ca C W X o mo) (ha : SMs ca C W X es as) (hne : es.isEmpty = false) (hst : Zaa es = true) (hs : Zcb o = true) (hl : ap.endLine = cp.line) (hz : es.length < 30) (hdf : ks.df = true) (hc : Zmn p.cs c m d = true) (hend : Zbf m = false) (h5 : cpB d 1 as = true) :
  SE ca C W X (.Call (.Attribute o m ap) es [] cp) (.methL c mo m d as) := by
 obtain ⟨x, hx, rfl, hm⟩ := Zol hc
 obtain ⟨B, T⟩ := g.cl x hx
 obtain ⟨f, fd, ps, MX, bd, F⟩ := T.ms _ hm
 obtain ⟨M, _⟩ := Zar MX hend
 have hb : attributeBase o m X.env (eval o X.env) = eval o X.env := Zbz hs _
 have hline : (ap.endLine == cp.line) = true := by simpa using hl
 obtain ⟨d1, d2, d3⟩ := g.df hdf
 refine SE.plain ?_ rfl
 cases es with
 | nil => cases hne
 | cons e es =>
  refine PE.mono (Zse ho.pe T.cl M F g.gu g.room bd g.tk d1 d3 ha hb hst hz hline) fun σ H Q ⟨φ, S, ρ, a, h⟩ => ?_
  simp only [ev] at h
  refine Zag a h fun dx S1 φ1 H1 v st1 a1 rx h1 => ?_
  split at h1
  ·rename_i hi0
   obtain ⟨r, fs, rfl, e1, e2⟩ := Za6 hi0
   obtain ⟨dd, vs, hu, rf⟩ := Zbm a1.rel e1 T.ns
   have ex := rx.refE
   subst ex
   refine ⟨_, dd, vs, rfl, hu, rf.lookN e2, ?_⟩
   exact Zag a1 h1 fun ds S2 φ2 H2 ws st2 a2 rs h2 L ok => ⟨φ2, S2, .ref r :: ds, a2.rel, .cons (rx.mono a1.rel st2) rs.1, rs.cp1 ok h5, R.wp_mono h2 (fun _ _ z => Zaf.step (st1.trans st2) z) fun _ _ z => z⟩
  ·exact h1.elim
def Zox (X : Cx) (kk i : Nat) (W : WX) (t : TA) : TE := fun σ H Q => ∃ (f : Addr) (li : LI) (cl : List (Str × Addr)) (c : Addr) (ws : List V) (sp : SpL), σ[i]? = some (some (.ref f)) /\ Zma H f (li.at cl c) /\ X.lc.kn cl li.fr (ws.map some) /\ FnL X.prog X.w X.kw X.mg X.base kk li sp /\
 t σ H fun vs H1 => Zma H1 f (li.at cl c) /\ Zd3 H1 c li.qual /\ ∀ L, Zus X σ L -> sp L (vs ++ ws) H1 Q (WE W σ)
theorem Zoy {pins : List (Addr × Obj)} {σ : L2.St} {H : Hp} {s : Shared} {f : Addr} {F : LF} (I : Inv X pins σ H s) (e : Zma H f F) : PySem.W.FnAt f s.heap := by
 obtain ⟨od, sl, doc, pm, ctv, ho⟩ := Zou I.hok e
 exact ⟨_, od, _, sl, ho⟩
theorem Z2v {pins : List (Addr × Obj)} {σ : L2.St} {H : Hp} {s : Shared} {Q : VK} {kk : Nat} {f c : Addr} {cl : List (Str × Addr)} {li : LI} {sp : SpL} {us : List Value} {vs ws : List V} (Fn : FnL X.prog X.w X.kw X.mg X.base kk li sp) (hgu : X.A.guards = some []) (hr : Room kk X.A) (tk : Takes X W) (hd : X.outer.length < X.stack.length) (hf : ∀ y c, X.env.cells.lookup y = some c -> c ∉ X.fs)
  (I : Inv X pins σ H s) (h1 : Zma H f (li.at cl c)) (h2 : Zd3 H c li.qual) (hk : X.lc.kn cl li.fr (ws.map some)) (r : Vals vs us) (q : ∀ L, Zus X σ L -> sp L (vs ++ ws) H Q (WE W σ)) : wpAny (model X.prog X.w) X.A (PySem.call (.ref f) us) (EP X pins σ Q) X.xe s := by
 have ok := Zjr I hd hf
 apply wpAny_call
 apply codeAny_mono (Fn.go f c cl X.A X.stack s H us vs ws Q (WE W σ) hgu hr I.env0 h1 h2 (ok.1 _ _ _ hk) r (q _ ok))
 intro res s' hq
 match res, hq with
 | .error e, hq => exact passAt tk σ pins H s e s' I hq
 | .ok (.ret u), hq => exact I.after hq
 | .ok .next, hq => exact hq.elim
 | .ok .brk, hq => exact hq.elim
 | .ok .cont, hq => exact hq.elim
theorem Zsg {kk i : Nat} {x : Str} {p1 pos : Pos} {e : Expr} {es : List Expr} {t : TA} (hgu : X.A.guards = some []) (hr : Room kk X.A) (hN : X.N[i]? = some x) (hv : Vis X.env.scope x) (tk : Takes X W) (hd : X.outer.length < X.stack.length) (hf : ∀ y c, X.env.cells.lookup y = some c -> c ∉ X.fs) (ha : PA X (e :: es) t)
  (hdb : (x == ("__debug__" : Str)) = false) (hcd : (x == ("__classdict__" : Str)) = false) (he : starEach (e :: es) X.env = (false, eval e X.env) :: starEach es X.env) (hpl : (backTo pos (starEach es X.env)).any (·.1) = false) : PE X (.Call (.Name x p1) (e :: es) [] pos) (Zox X kk i W t) := by
 constructor
 intro pins s σ H Q I ⟨f, li, cl, c, ws, sp, hs, hz, hk, Fn, ht⟩
 apply wpAny_Call_Name_kw
 have lv := (pe_var (pos := p1) hN hv hdb hcd).run pins s σ H (fun v H1 => v = .ref f /\ H1 = H) I ⟨.ref f, hs, rfl, rfl⟩
 apply thn lv
 rintro u s1 ⟨v, H1, I1, r1, rfl, rfl⟩
 cases r1
 refine PySem.W.callWith_F (first := []) (Zoy I1 hz) (thn (ha.run pos pins s1 σ _ _ I1 ht) ?_) he hpl
 rintro us s2 ⟨vs, H2, I2, r, h1, h2, q⟩
 exact ⟨Zoy I2 h1, Z2v Fn hgu hr tk hd hf I2 h1 h2 hk r q⟩
theorem Zoz {kk i : Nat} {x : Str} {p1 pos : Pos} (hgu : X.A.guards = some []) (hr : Room kk X.A) (hN : X.N[i]? = some x) (hv : Vis X.env.scope x) (tk : Takes X W) (hd : X.outer.length < X.stack.length) (hf : ∀ y c, X.env.cells.lookup y = some c -> c ∉ X.fs)
  (hdb : (x == ("__debug__" : Str)) = false) (hcd : (x == ("__classdict__" : Str)) = false) : PE X (.Call (.Name x p1) [] [] pos) (Zox X kk i W tNil) := by
 constructor
 intro pins s σ H Q I ⟨f, li, cl, c, ws, sp, hs, hz, hk, Fn, h1, h2, q⟩
 apply wpAny_Call_Name_kw
 have lv := (pe_var (pos := p1) hN hv hdb hcd).run pins s σ H (fun v H1 => v = .ref f /\ H1 = H) I ⟨.ref f, hs, rfl, rfl⟩
 apply thn lv
 rintro u s1 ⟨v, H1, I1, r1, rfl, rfl⟩
 cases r1
 exact PySem.W.callWith_F0 (first := []) (Zoy I1 hz) (Z2v (us := []) (vs := []) Fn hgu hr tk hd hf I1 h1 h2 hk .nil q)
theorem Zsh (g : Good p C ca k ks W X) {x : Str} {i : Nat} {xs : List Str} {es : List Expr} {as : List MA} {p1 pos : Pos} (ha : SMs ca C W X es as) (hlen : es = [] -> as = []) (hst : Zaa es = true) (h1 : p.N[i]? = some x) (h2 : ks.vis x = true) (h3 : Zac x = true) (hdf : ks.df = true) (h4 : xs.all (cpC as) = true) :
  SE ca C W X (.Call (.Name x p1) es [] pos) (.callc i xs as) := by
 obtain ⟨d1, d2, d3⟩ := g.df hdf
 refine SE.plain ?_ rfl
 have rd : ∀ σ H Q, tC X.kw X.lc ca W (ev C (.callc i xs as)) σ H Q -> Zox X (k + 2) i W (fun σ H Q => tG X.kw X.lc ca W (RCs X σ as) (Zf2 C as) σ H Q) σ H Q := fun σ H Q ⟨φ, S, ρ, a, h⟩ => by
  simp only [ev] at h
  split at h
  ·rename_i y cs e
   split at h
   ·rename_i hc
    have hcp := Qap.mp h4 y (Qaz.mp hc)
    obtain ⟨f, e1, cr⟩ := a.env.clo i _ _ e
    cases cr with
    | @mk _ _ _ c cl li ws yf df ff l1 l2 l3 l4 l5 l6 l7 =>
     refine ⟨f, li, cl, c, ws, _, e1, l2, l4, g.lam y li l1, Zag a h fun ds S1 φ1 H1 vs st1 a1 rs h1 => ⟨l2.sub (st1.sub a.rel), l3.sub (st1.sub a.rel), fun L ok => ⟨φ1, S1, ds ++ cs, a1.rel, rs.1.append (l5.sub (st1.sub a.rel)), fun j hj => ?_, R.wp_mono h1 (fun _ _ z => Zaf.step st1 z) fun _ _ z => z⟩⟩⟩
     unfold cpC at hcp
     rw [Qaa] at hcp
     obtain ⟨hc1, hc2⟩ := hcp
     split at hc1
     ·rename_i m em
      have hlen2 : as.length = m.ps.length := Qau hc1
      have hds : ds.length = m.ps.length := rs.2.1.trans hlen2
      have hvs : vs.length = ds.length := rs.1.length
      by_cases hlt : j < ds.length
      ·have q := Qap.mp hc2 j hj
       obtain ⟨b, eb⟩ : ∃ b, as[j]? = some b := ⟨as[j]'(by omega), Qa8 _⟩
       have hv : Z2s b = true := by
        cases b with
        | v e0 => rw [eb] at q; cases q
        | _ => rfl
       obtain ⟨y', cs', f', g1, g2, g3⟩ := rs.2.2 j b eb hv
       exact ⟨y', cs', f', by rw [Qbc hlt]; exact g1, by rw [Qbc (by omega)]; exact g2, g3.toL ok⟩
      ·have hm : j - m.ps.length ∈ Zt7 y := by
        unfold Zt7
        rw [em]
        refine List.mem_filterMap.mpr ⟨j, hj, ?_⟩
        rw [Qan (by omega)]
       obtain ⟨g1, g2⟩ := l6 _ hm
       have g3 := l7 _ hm
       exact ⟨yf (j - m.ps.length), df (j - m.ps.length), ff (j - m.ps.length), by rw [List.getElem?_append_right (by omega), hds]; exact g1, by rw [List.getElem?_append_right (by omega), hvs, hds]; exact g2, (g3.sub (st1.sub a.rel)).weak ok.1⟩
     ·cases hc1
   ·exact h.elim
  ·exact h.elim
 cases es with
 | nil =>
  have e0 := hlen rfl
  subst e0
  refine PE.mono (Zoz g.gu g.room (by rw [g.N]; exact h1) (g.vis h2) g.tk d1 d3 (Zad h3) (Zat h3)) fun σ H Q q => ?_
  obtain ⟨f, li, cl, c, ws, sp, e1, e2, e3, Fn, φ, S, ρ, a, h⟩ := rd σ H Q q
  simp only [Zf2] at h
  exact ⟨f, li, cl, c, ws, sp, e1, e2, e3, Fn, h φ H [] a.rel.refl a.rel ⟨.nil, rfl, fun j a e => by simp at e⟩⟩
 | cons e es =>
  rw [Zaa, Qas, Qaa] at hst
  exact PE.mono (Zsg g.gu g.room (by rw [g.N]; exact h1) (g.vis h2) g.tk d1 d3 ha (Zad h3) (Zat h3) (Zak hst.1 es) (Zab _ hst.2)) rd
end
end My
namespace My
open PySem PySem.Spec PyProof.Rows L2
variable [CP] [TC]
section
variable {K : KW} {L : LC} {φ φ' : Nat -> Addr} {H H' : Hp} {ρ : Ev} {σ : L2.St}
theorem Zk0 (ρ : Ev) (i : Nat) (o : O) : (noO ρ)[i]? ≠ some (.o o) := by
 intro h
 unfold noO at h
 rw [Qar] at h
 cases e : ρ[i]? with
 | none => rw [e] at h; cases h
 | some x =>
  rw [e] at h
  cases x <;> cases h
theorem Z9t {i : Nat} {d : D} (h : (noO ρ)[i]? = some (.v d)) : ρ[i]? = some (.v d) := by
 unfold noO at h
 rw [Qar] at h
 cases e : ρ[i]? with
 | none => rw [e] at h; cases h
 | some x =>
  rw [e] at h
  cases x with
  | no => cases h
  | v d2 =>
   have : Sl.v d2 = Sl.v d := Option.some.inj h
   rw [this]
  | o _ => cases h
  | c _ _ => cases h
  | df _ _ => cases h
theorem Z2w {i : Nat} {y : Sl} (hy : ∀ o, y ≠ .o o) (hn : y ≠ .no) (h : (noO ρ)[i]? = some y) : ρ[i]? = some y := by
 unfold noO at h
 rw [Qar] at h
 cases e : ρ[i]? with
 | none => rw [e] at h; cases h
 | some x =>
  rw [e] at h
  have h := Option.some.inj h
  cases x with
  | no => exact absurd h.symm hn
  | o _ => exact absurd h.symm hn
  | v _ => rw [<- h]; rfl
  | c _ _ => rw [<- h]; rfl
  | df _ _ => rw [<- h]; rfl
theorem RelE.noO {n : Nat} (e : RelE K L φ n H ρ σ) : RelE K L φ n H (noO ρ) σ :=
 ⟨by unfold My.noO; rw [Qal]; exact e.len, fun i d h => e.at_ i d (Z9t h), fun i o h => (Zk0 ρ i o h).elim, fun i j o o' v _ h => (Zk0 ρ i o h).elim, fun i x cs h => e.clo i x cs (Z2w (fun _ z => nomatch z) (fun z => nomatch z) h), fun i x cs h => e.df i x cs (Z2w (fun _ z => nomatch z) (fun z => nomatch z) h)⟩
def Zb0 (ρ : Ev) : Prop := ∀ (i : Nat) (o : O), ρ[i]? ≠ some (.o o)
theorem RelE.subO {n n' : Nat} (e : RelE K L φ n H ρ σ) (no : Zb0 ρ) (s : Sub φ n H φ' n' H') : RelE K L φ' n' H' ρ σ :=
 ⟨e.len, fun i d h => let ⟨v, h1, h2⟩ := e.at_ i d h; ⟨v, h1, h2.sub s⟩, fun i o h => (no i o h).elim, fun i j o o' v _ h => (no i o h).elim, fun i x cs h => let ⟨v, h1, h2⟩ := e.clo i x cs h; ⟨v, h1, h2.sub s⟩, fun i x cs h => let ⟨v, h1, h2⟩ := e.df i x cs h; ⟨v, h1, h2.sub s⟩⟩
theorem Zb0.set (no : Zb0 ρ) (i : Nat) {x : Sl} (hx : ∀ o, x ≠ .o o) : Zb0 (ρ.set i x) := fun j o h => by
 rcases Zal h with ⟨_, _, e⟩ | ⟨_, e⟩
 ·exact hx o e
 ·exact no j o e
theorem Zb0.wipe (no : Zb0 ρ) : ∀ vs : List Nat, Zb0 (Zaw ρ vs)
 | [] => no
 | v :: vs => (Zb0.wipe no vs).set v fun _ => nofun
theorem Zb0.setAll : ∀ (is : List Nat) (ds : List D) {ρ : Ev}, Zb0 ρ -> Zb0 (setAll is (ds.map .v) ρ)
 | [], _, _, no => no
 | _ :: _, [], _, no => no
 | i :: is, d :: ds, _, no => Zb0.setAll is ds (no.set i fun _ => nofun)
theorem Zb0.putT {t : MT} {d : D} {ρ' : Ev} (no : Zb0 ρ) (h : putT t d ρ = some ρ') : Zb0 ρ' := by
 unfold My.putT at h
 split at h
 ·cases h; exact no.set _ fun _ => nofun
 ·split at h
  ·cases h; exact Zb0.setAll _ _ no
  ·cases h
 ·split at h
  ·cases h; exact Zb0.setAll _ _ no
  ·cases h
 ·split at h
  ·cases h; exact Zb0.setAll _ _ no
  ·cases h
 ·cases h
end
section
variable {p : Pg} {C : Cl} {ca : CA} {k : Nat} {ks : Ks} {W : WX} {X : Cx} {tg tg1 e : Expr} {m : ME}
noncomputable def Z2x (C : Cl) (ρ : Ev) (vs : List Nat) (t : MT) (c : Option ME) (vs1 : List Nat) (t1 : MT) (it1 : MI) (c1 : Option ME) (m : ME) (d : D) (acc : List D) (S : Store) : R Xn (List D) := match putT t d (Zaw (noO ρ) vs) with
 | none => .bad
 | some ρ' => (evc C c ρ' S).bind fun b S => if b then (evi C it1 ρ' S).bind fun q S => lcL (lcF C ρ' vs1 t1 c1 m) q acc S else .ok acc S
omit [CP] [TC] in
theorem Zut {vs vs1 : List Nat} {t t1 : MT} {it it1 : MI} {c c1 : Option ME} {m : ME} {ρ : Ev} {S : Store} : evO C (.lc2 vs t it c vs1 t1 it1 c1 m) ρ S = (evi C it ρ S).bind fun q S => (lcA (Z2x C ρ vs t c vs1 t1 it1 c1 m) q [] S).bind fun xs S => .ok (.lst xs) S := by
 simp only [evO]
 rfl
theorem Zo0 {J : It} {n : Nat} {G : Hp -> Prop} {Y : Nat -> Hp -> V -> Hp -> Prop} {Stop : Hp -> Prop} {Body : V -> Hp -> (Hp -> Prop) -> Prop} {Hs : Hp} (wk : Walk J n G Y) (I : Nat -> Hp -> Prop) (h0 : I 0 Hs) (hg : ∀ i H, i <= n -> I i H -> G H)
  (hstep : ∀ i x Hc H', i < n -> I i Hc -> Y i Hc x H' -> Body x H' (I (i + 1))) (hend : ∀ Hn, I n Hn -> Stop Hn) :
  ∃ W : Nat -> Nat -> Hp -> Prop, (∃ m, W 0 m Hs) /\ ∀ i m H, W i m H -> (J.stop i H /\ Stop H) \/ (J.go i H /\ ∃ Nx : Hp -> Prop, (∀ H', Nx H' -> ∃ m', m' < m /\ W (i + 1) m' H') /\ ∀ x H', J.yld i H x H' -> Body x H' Nx) := by
 refine ⟨fun i m H => m = n - i /\ i <= n /\ I i H, ⟨n, by omega, Qax _, h0⟩, ?_⟩
 rintro i m H ⟨rfl, hi, hI⟩
 have hG := hg i H hi hI
 by_cases lt : i < n
 ·exact .inr ⟨wk.goes i H lt hG, I (i + 1), fun H' z => ⟨n - (i + 1), by omega, rfl, lt, z⟩, fun x H' y => hstep i x H H' lt hI (wk.yields i H x H' lt hG y)⟩
 ·have e : i = n := by omega
  subst e
  exact .inl ⟨wk.stops H hG, hend H hI⟩
theorem Zo1 {α : Type} {q : List α} {i : Nat} {d : α} (hd : q[i]? = some d) : q.drop i = d :: q.drop (i + 1) := by
 obtain ⟨hlt, e⟩ := Qay.mp hd
 rw [Qbk hlt, e]
theorem Zk1 {vs vs1 : List Nat} {t t1 : MT} {it it1 : MI} {c c1 : Option ME} {m : ME} {σ : L2.St} {H : Hp} {Q : VK} (hin : Zd2 t vs = true) (hin1 : Zd2 t1 vs1 = true) (h : tO X.kw X.lc ca W (evO C (.lc2 vs t it c vs1 t1 it1 c1 m)) σ H Q) :
  tLc2 (tI X X.lc ca W (evi C it)) (gT X.kw lcB t) (tTs X.kw lcB ca C c) (tI X lcB ca W0 (evi C it1)) (gT X.kw lcB t1) (tTs X.kw lcB ca C c1) (tC X.kw lcB ca W0 (ev C m)) vs vs1 σ H Q := by
 obtain ⟨φ, S, ρ, a, h⟩ := h
 rw [Zut, R.wp_bind] at h
 refine ⟨φ, S, ρ, a, R.wp_mono h (fun q S1 hq φ1 H1 J st1 r1 ⟨G, Y, wk, itk⟩ => fun D hD => ?_) fun _ _ z => z⟩
 rw [R.wp_bind] at hq
 have e1 := (a.env.mono a.rel st1).noO
 obtain ⟨F, hF⟩ : ∃ F, F = Z2x C ρ vs t c vs1 t1 it1 c1 m := ⟨_, rfl⟩
 rw [<- hF] at hq
 obtain ⟨Fin, hFin⟩ : ∃ Fin : List My.D -> Store -> Prop, Fin = fun xs S3 => Za8 X.kw φ S H Q (.lst xs) S3 := ⟨_, rfl⟩
 obtain ⟨I0, hI0⟩ : ∃ I0 : Nat -> Hp -> Prop, I0 = fun i H' => ∃ φ2 S2 acc vacc, Step φ1 S1 H1 φ2 S2 H' /\ RelS X.kw φ2 S2 H' /\ H' D = some (.lst vacc) /\ RVs X.kw φ2 S2.nx H' acc vacc /\ (∀ i, i < S2.nx -> φ2 i ≠ D) /\
  (lcA F (q.drop i) acc S2).wp Fin (fun _ _ => True) := ⟨_, rfl⟩
 refine Zo0 wk I0 ?_ ?_ ?_ ?_
 ·subst hI0
  obtain ⟨r2, st2⟩ := r1.lay (o' := .lst []) hD
  refine ⟨φ1, S1, [], [], st2, r2, upd_same, .nil, fun i qq z => ?_, R.wp_mono hq (fun _ _ z => by rw [hFin]; exact z) fun _ _ _ => trivial⟩
  obtain ⟨w, hw, _⟩ := r1.there qq
  rw [z, hD] at hw; cases hw
 ·subst hI0
  rintro i H' _ ⟨φ2, S2, acc, vacc, st2, r2, _, _, _, w⟩
  exact (itk φ2 S2 H' (st2.sub r1) r2).1
 ·have nx : ∀ {i : Nat} {φ2 : Nat -> Addr} {S2 : Store} {H' : Hp} {acc : List My.D} {vacc : List V}, Step φ1 S1 H1 φ2 S2 H' -> RelS X.kw φ2 S2 H' -> H' D = some (.lst vacc) -> RVs X.kw φ2 S2.nx H' acc vacc -> (∀ i, i < S2.nx -> φ2 i ≠ D) -> (lcA F (q.drop i) acc S2).wp Fin (fun _ _ => True) -> I0 i H' := fun {i φ2 S2 H' acc vacc} a b c d e f => by
   rw [hI0]; exact ⟨φ2, S2, acc, vacc, a, b, c, d, e, f⟩
  intro i x Hc H' hi hI hy
  rw [hI0] at hI
  obtain ⟨φ2, S2, acc, vacc, st2, r2, hDv, racc, nl, w⟩ := hI
  obtain ⟨d, hd, hH⟩ := (itk φ2 S2 Hc (st2.sub r1) r2).2 i x H' hi hy
  have hdrop := Zo1 hd
  have hst : RelS X.kw φ2 S2 H' /\ Step φ2 S2 Hc φ2 S2 H' /\ RV X.kw φ2 S2.nx H' d x := by
   rcases hH with ⟨rfl, rv⟩ | ⟨T, ws, hT, rfl, rv⟩
   ·exact ⟨r2, r2.refl, rv⟩
   ·obtain ⟨r3, st3⟩ := r2.lay (o' := .tup ws) hT
    exact ⟨r3, st3, rv⟩
  obtain ⟨r3, st3, rv⟩ := hst
  obtain ⟨nl3, hD3⟩ := st3.off hDv nl
  have st13 := st2.trans st3
  have racc3 := racc.mono r2 st3
  rw [hdrop] at w
  unfold lcA at w
  rw [R.wp_bind, R.wp_calm] at w
  have w : (Z2x C ρ vs t c vs1 t1 it1 c1 m d acc S2).wp (fun acc S' => (lcA F (q.drop (i + 1)) acc S').wp Fin fun _ _ => True) (fun _ _ => False) := by rw [<- hF]; exact w
  obtain ⟨post, hpost⟩ : ∃ post : List My.D -> Store -> Prop, post = fun acc S' => (lcA F (q.drop (i + 1)) acc S').wp Fin fun _ _ => True := ⟨_, rfl⟩
  rw [<- hpost] at w
  unfold Z2x at w
  split at w
  ·exact w.elim
  ·rename_i ρ' hp
   have e3 : RelE X.kw lcB φ2 S2.nx H' (Zaw (noO ρ) vs) (L2.wipe σ vs) := (e1.subO (Zk0 ρ) (st13.sub r1)).toB.wipe vs
   have no3 : Zb0 ρ' := Zb0.putT (Zb0.wipe (Zk0 ρ) vs) hp
   refine ⟨φ2, S2, Zaw (noO ρ) vs, d, ρ', ⟨r3, e3⟩, rv, hp, fun σ2 re hw => ⟨?_, ?_⟩⟩
   ·rw [hw vs hin, Zcn]
   -- the test, the Zjs walk
   ·have Zjs : ∀ S4 φ4 H4, Step φ2 S2 H' φ4 S4 H4 -> At X.kw lcB φ4 S4 ρ' σ2 H4 -> ((evi C it1 ρ' S4).bind fun q S => lcL (lcF C ρ' vs1 t1 c1 m) q acc S).wp post (fun _ _ => False) ->
      tI X lcB ca W0 (evi C it1) σ2 H4 fun J1 H5 => ∃ W1 : Nat -> Nat -> Hp -> Prop, (∃ m, W1 0 m H5) /\ ∀ j k H, W1 j k H ->
       (J1.stop j H /\ I0 (i + 1) H) \/ (J1.go j H /\ ∃ Nx1 : Hp -> Prop, (∀ H', Nx1 H' -> ∃ k', k' < k /\ W1 (j + 1) k' H') /\ ∀ x H', J1.yld j H x H' -> gT X.kw lcB t1 x (L2.wipe σ2 vs1) H' fun σ3 H5 => L2.wipe σ3 vs1 = L2.wipe σ2 vs1 /\ tTs X.kw lcB ca C c1 σ3 H5 fun b H6 =>
        if b = true then tC X.kw lcB ca W0 (ev C m) σ3 H6 fun y H7 => ∃ acc, H7 D = some (.lst acc) /\ acc.length < sizeLine /\ Nx1 (upd H7 D (.lst (acc ++ [y]))) else Nx1 H6) := fun S4 φ4 H4 st4 a4 h4 => by
     rw [R.wp_bind] at h4
     refine ⟨φ4, S4, ρ', a4, R.wp_mono h4 (fun q1 S5 h5 φ5 H5 J1 st5 r5 ⟨G1, Y1, wk1, itk1⟩ => ?_) fun _ _ z => z.elim⟩
     have st45 := st4.trans st5
     obtain ⟨nl5, hD5⟩ := st45.off hD3 nl3
     have racc5 := racc3.mono r3 st45
     have e5 : RelE X.kw lcB φ5 S5.nx H5 ρ' σ2 := a4.env.mono a4.rel st5
     obtain ⟨I1, hI1⟩ : ∃ I1 : Nat -> Hp -> Prop, I1 = fun j H6 => ∃ φ6 S6 acc vacc, Step φ1 S1 H1 φ6 S6 H6 /\ Sub φ5 S5.nx H5 φ6 S6.nx H6 /\ RelS X.kw φ6 S6 H6 /\ H6 D = some (.lst vacc) /\ RVs X.kw φ6 S6.nx H6 acc vacc /\ (∀ i, i < S6.nx -> φ6 i ≠ D) /\
      (lcL (lcF C ρ' vs1 t1 c1 m) (q1.drop j) acc S6).wp post (fun _ _ => False) := ⟨_, rfl⟩
     refine Zo0 wk1 I1 ?_ ?_ ?_ ?_
     ·rw [hI1]
      exact ⟨φ5, S5, acc, vacc, st13.trans st45, Sub.refl, r5, hD5, racc5, nl5, h5⟩
     ·rw [hI1]
      rintro j H6 _ ⟨φ6, S6, acc6, vacc6, st6, sb6, r6, _⟩
      exact (itk1 φ6 S6 H6 sb6 r6).1
     ·have nx1 : ∀ {j : Nat} {φ6 : Nat -> Addr} {S6 : Store} {H6 : Hp} {acc : List My.D} {vacc : List V}, Step φ1 S1 H1 φ6 S6 H6 -> Sub φ5 S5.nx H5 φ6 S6.nx H6 -> RelS X.kw φ6 S6 H6 -> H6 D = some (.lst vacc) -> RVs X.kw φ6 S6.nx H6 acc vacc -> (∀ i, i < S6.nx -> φ6 i ≠ D) -> (lcL (lcF C ρ' vs1 t1 c1 m) (q1.drop j) acc S6).wp post (fun _ _ => False) -> I1 j H6 := fun {j φ6 S6 H6 acc vacc} a b c d e f g => by
       rw [hI1]; exact ⟨φ6, S6, acc, vacc, a, b, c, d, e, f, g⟩
      intro j x1 Hd H6 hj hI hy1
      rw [hI1] at hI
      obtain ⟨φ6, S6, acc6, vacc6, st6, sb6, r6, hD6, racc6, nl6, w6⟩ := hI
      obtain ⟨d1, hd1, hH1⟩ := (itk1 φ6 S6 Hd sb6 r6).2 j x1 H6 hj hy1
      have hst : RelS X.kw φ6 S6 H6 /\ Step φ6 S6 Hd φ6 S6 H6 /\ RV X.kw φ6 S6.nx H6 d1 x1 := by
       rcases hH1 with ⟨rfl, rv⟩ | ⟨T, ws, hT, rfl, rv⟩
       ·exact ⟨r6, r6.refl, rv⟩
       ·obtain ⟨r3, st3⟩ := r6.lay (o' := .tup ws) hT
        exact ⟨r3, st3, rv⟩
      obtain ⟨r7, st7, rv7⟩ := hst
      obtain ⟨nl7, hD7⟩ := st7.off hD6 nl6
      have st17 := st6.trans st7
      have sb57 := sb6.trans (st7.sub r6)
      have racc7 := racc6.mono r6 st7
      rw [Zo1 hd1] at w6
      unfold lcL at w6
      rw [R.wp_bind, R.wp_calm] at w6
      unfold lcF at w6
      split at w6
      ·exact w6.elim
      ·rename_i ρ1 hp1
       change ((evc C c1 ρ1 S6).bind fun b S => if b then (ev C m ρ1 S).bind fun y S => .ok (some y) S else .ok none S).wp (fun o S5 => (match o with
         | none => lcL (lcF C ρ' vs1 t1 c1 m) (q1.drop (j + 1)) acc6 S5
         | some y => if acc6.length < sizeLine then lcL (lcF C ρ' vs1 t1 c1 m) (q1.drop (j + 1)) (acc6 ++ [y]) S5 else .bad).wp post (fun _ _ => False)) (fun _ _ => False) at w6
       have e7 : RelE X.kw lcB φ6 S6.nx H6 (Zaw ρ' vs1) (L2.wipe σ2 vs1) := (e5.subO no3 sb57).wipe vs1
       refine ⟨φ6, S6, Zaw ρ' vs1, d1, ρ1, ⟨r7, e7⟩, rv7, hp1, fun σ3 re3 hw3 => ⟨?_, ?_⟩⟩
       ·rw [hw3 vs1 hin1, Zcn]
       ·have elem : ∀ S8 φ8 H8, Step φ6 S6 H6 φ8 S8 H8 -> At X.kw lcB φ8 S8 ρ1 σ3 H8 -> ((ev C m ρ1 S8).bind fun y S => (R.ok (some y) S : R Xn (Option My.D))).wp (fun o S5 => (match o with
          | none => lcL (lcF C ρ' vs1 t1 c1 m) (q1.drop (j + 1)) acc6 S5
          | some y => if acc6.length < sizeLine then lcL (lcF C ρ' vs1 t1 c1 m) (q1.drop (j + 1)) (acc6 ++ [y]) S5 else .bad).wp post (fun _ _ => False)) (fun _ _ => False) ->
          tC X.kw lcB ca W0 (ev C m) σ3 H8 fun y H9 => ∃ vacc, H9 D = some (.lst vacc) /\ vacc.length < sizeLine /\ I1 (j + 1) (upd H9 D (.lst (vacc ++ [y]))) := fun S8 φ8 H8 st8 a8 h8 => by
         rw [R.wp_bind] at h8
         refine ⟨φ8, S8, ρ1, a8, R.wp_mono h8 (fun y S9 h9 φ9 H9 v st9 r9 rv9 => ?_) fun _ _ z => z.elim⟩
         have h9 : (if acc6.length < sizeLine then _ else R.bad).wp _ _ := h9
         split at h9
         ·rename_i hz
          have st89 := st8.trans st9
          obtain ⟨nl9, hD9⟩ := st89.off hD7 nl7
          have racc9 := racc7.mono r7 st89
          have mu : Mut (some (HO.lst vacc6)) := trivial
          have r10 := r9.chg (o' := .lst (vacc6 ++ [v])) hD9 mu nl9
          have sb10 : Sub φ9 S9.nx H9 φ9 S9.nx (upd H9 D (.lst (vacc6 ++ [v]))) := Zbc hD9 mu
          exact ⟨vacc6, hD9, by rw [racc9.length]; exact hz, nx1 ((st17.trans st89).aside hD) ((sb57.trans (st89.sub r7)).trans sb10) r10 upd_same ((racc9.append (.cons rv9 .nil)).sub sb10) nl9 h9⟩
         ·exact h9.elim
        have a7 : At X.kw lcB φ6 S6 ρ1 σ3 H6 := ⟨r7, re3⟩
        cases c1 with
        | none =>
         rw [show evc C none ρ1 S6 = .ok true S6 from by simp only [evc]] at w6
         have z := elem S6 φ6 H6 r7.refl a7 w6
         exact z
        | some c0 =>
         rw [show evc C (some c0) ρ1 S6 = (ev C c0 ρ1 S6).bind blR from by simp only [evc]] at w6
         rw [R.wp_bind, R.wp_bind] at w6
         refine ⟨φ6, S6, ρ1, a7, R.wp_mono w6 (fun d2 S8 h8 => ?_) fun _ _ z => z.elim⟩
         cases d2 with
         | bl b =>
          refine ⟨b, rfl, fun φ8 H8 st8 r8 => ?_⟩
          have a8 := a7.step st8 r8
          cases b with
          | true => exact iteT (elem S8 φ8 H8 st8 a8 h8)
          | false =>
           obtain ⟨nl8, hD8⟩ := st8.off hD7 nl7
           exact iteF (nx1 (st17.trans st8) (sb57.trans (st8.sub r7)) r8 hD8 (racc7.mono r7 st8) nl8 h8)
         | _ => exact h8.elim
     ·rw [hI1]
      rintro Hn ⟨φ6, S6, acc6, vacc6, st6, sb6, r6, hD6, racc6, nl6, w6⟩
      have hd0 : q1.drop q1.length = [] := List.drop_length
      rw [hd0] at w6
      unfold lcL at w6
      have w6 : post acc6 S6 := w6
      rw [hpost] at w6
      exact nx st6 r6 hD6 racc6 nl6 w6
    have a3 : At X.kw lcB φ2 S2 ρ' σ2 H' := ⟨r3, re⟩
    cases c with
    | none =>
     rw [show evc C none ρ' S2 = .ok true S2 from by simp only [evc]] at w
     have z := Zjs S2 φ2 H' r3.refl a3 w
     exact z
    | some c0 =>
     rw [show evc C (some c0) ρ' S2 = (ev C c0 ρ' S2).bind blR from by simp only [evc]] at w
     rw [R.wp_bind, R.wp_bind] at w
     refine ⟨φ2, S2, ρ', a3, R.wp_mono w (fun d2 S4 h4 => ?_) fun _ _ z => z.elim⟩
     cases d2 with
     | bl b =>
      refine ⟨b, rfl, fun φ4 H4 st4 r4 => ?_⟩
      have a4 := a3.step st4 r4
      cases b with
      | true => exact iteT (Zjs S4 φ4 H4 st4 a4 h4)
      | false =>
       obtain ⟨nl4, hD4⟩ := st4.off hD3 nl3
       have h4 : post acc S4 := h4
       rw [hpost] at h4
       exact iteF (nx (st13.trans st4) r4 hD4 (racc3.mono r3 st4) nl4 h4)
     | _ => exact h4.elim
 ·subst hI0
  rintro Hn ⟨φ2, S2, acc, vacc, st2, r2, hDv, racc, nl, w⟩
  have hd0 : q.drop q.length = [] := List.drop_length
  rw [hd0] at w
  unfold lcA at w
  have w : Fin acc S2 := w
  rw [hFin] at w
  refine w φ2 Hn D (st1.trans st2) r2 ⟨⟨_, hDv, ⟨_, rfl, racc⟩⟩, nl⟩ ?_
  cases z : H D with
  | none => rfl
  | some u =>
   obtain ⟨u', z'⟩ := st1.trk D u z
   rw [hD] at z'; cases z'
theorem Zx1 (g : Good p C ca k ks W X) {elt iter iter1 : Expr} {ifs ifs1 : List Expr} {scope : Scope} {pos : Pos} {vs vs1 : List Nat} {t t1 : MT} {it it1 : MI} {c c1 : Option ME} {m : ME}
  (hi : SI ca C W X tg iter it) (hs : Zbx iter = true) (hv : (Zax p scope vs).map (·.2) = vs) (hb : blkC p.N ks.sc scope (Zax p scope vs) = true) (ht : okT p (ks.blk scope) tg t = true) (hin : Zd2 t vs = true)
  (hc : ∀ X', Good p C ca k (ks.blk scope) W0 X' -> X'.kw = X.kw -> PTs X' ifs (tTs X'.kw X'.lc ca C c)) (he : ∀ X', Good p C ca k (ks.blk scope) W0 X' -> SE ca C W0 X' elt m)
  (hi1 : ∀ X', Good p C ca k (ks.blk scope) W0 X' -> SI ca C W0 X' tg1 iter1 it1) (hs1 : Zbx iter1 = true) (ht1 : okT p (ks.blk scope) tg1 t1 = true) (hin1 : Zd2 t1 vs1 = true) (hv1 : vs1.all vs.contains = true)
  (hc1 : ∀ X', Good p C ca k (ks.blk scope) W0 X' -> X'.kw = X.kw -> PTs X' ifs1 (tTs X'.kw X'.lc ca C c1)) :
  SOb ca C W X (.ListComp elt [⟨tg, iter, ifs, 0⟩, ⟨tg1, iter1, ifs1, 0⟩] scope pos) (.lc2 vs t it c vs1 t1 it1 c1 m) := by
 have ok : BlkOk X.N X.env.scope scope (Zax p scope vs) := by
  rw [g.N, g.sc]; exact blkOk_by hb
 have hv2 : ∀ i ∈ vs1, i ∈ (Zax p scope vs).map (·.2) := fun i h => by
  rw [hv]
  exact Qaz.mp (Qap.mp hv1 i h)
 refine PE.mono (pe_lc2 (g := gT X.kw lcB t) (tt := tTs X.kw lcB ca C c) (te := tC X.kw lcB ca W0 (ev C m)) (wi1 := tI X lcB ca W0 (evi C it1)) (g1 := gT X.kw lcB t1) (tt1 := tTs X.kw lcB ca C c1) g.calm (by rw [g.N]; exact g.nd) hi ok hv2
  (fun s H A cl fp => sgB (g.blk hb s H A cl fp) rfl ht) (fun s H A cl fp => Zqu (hc _ (g.blk hb s H A cl fp) rfl) rfl) (fun s H A cl fp => siB (hi1 _ (g.blk hb s H A cl fp)) rfl) (fun s H A cl fp => sgB (g.blk hb s H A cl fp) rfl ht1) (fun s H A cl fp => Zqu (hc1 _ (g.blk hb s H A cl fp) rfl) rfl)
  (fun s H A cl fp => peB (he _ (g.blk hb s H A cl fp)) rfl) (Zbu hs) (fun env x => Zbu hs1 x)) fun σ H Q q => ?_
 rw [hv]
 exact Zk1 hin hin1 q
theorem Zsi {env : Env} {elt : Expr} {gs : List Comprehension} {scope : Scope} {pos py : Pos} {y : Str} {l : Nat} (h1 : env.scope.kind = .function) (h2 : env.scope.names.lookup y = some .local) (h3 : (py.line == pos.line) = true)
  (h4 : (scope.names.any fun (n, k) => n == y && (k == .local || k == .cell)) = false) : swapsWith (.ListComp elt gs scope pos) (some (.Name y py)) l env = pure true := by
 have b1 : env.blockKind = .function := by
  unfold Env.blockKind
  rw [h1]; rfl
 have b2 : env.kindOf y = some .local := h2
 unfold swapsWith
 simp only [b1, b2, h3, h4, Expr.pos]
 rfl
theorem Z2y (g : Good p C ca k ks W X) {y : Str} {py spos : Pos} {i : Nat} {elt iter iter1 : Expr} {ifs ifs1 : List Expr} {scope : Scope} {pos : Pos} {vs vs1 : List Nat} {t t1 : MT} {it it1 : MI} {c c1 : Option ME} {m : ME} (hy : p.N[i]? = some y) (hyl : ks.sc.names.lookup y = some .local)
  (hl : py.line = pos.line) (ha : (scope.names.any fun (n, k) => n == y && (k == .local || k == .cell)) = false)
  (hi : SI ca C W X tg iter it) (hs : Zbx iter = true) (hv : (Zax p scope vs).map (·.2) = vs) (hb : blkC p.N ks.sc scope (Zax p scope vs) = true) (ht : okT p (ks.blk scope) tg t = true) (hin : Zd2 t vs = true)
  (hc : ∀ X', Good p C ca k (ks.blk scope) W0 X' -> X'.kw = X.kw -> PTs X' ifs (tTs X'.kw X'.lc ca C c)) (he : ∀ X', Good p C ca k (ks.blk scope) W0 X' -> SE ca C W0 X' elt m)
  (hi1 : ∀ X', Good p C ca k (ks.blk scope) W0 X' -> SI ca C W0 X' tg1 iter1 it1) (hs1 : Zbx iter1 = true) (ht1 : okT p (ks.blk scope) tg1 t1 = true) (hin1 : Zd2 t1 vs1 = true) (hv1 : vs1.all vs.contains = true)
  (hc1 : ∀ X', Good p C ca k (ks.blk scope) W0 X' -> X'.kw = X.kw -> PTs X' ifs1 (tTs X'.kw X'.lc ca C c1)) :
  PS X (.Assign [.Name y py] (.ListComp elt [⟨tg, iter, ifs, 0⟩, ⟨tg1, iter1, ifs1, 0⟩] scope pos) spos) (fun D σ H => tO X.kw X.lc ca W (evO C (.lc2 vs t it c vs1 t1 it1 c1 m)) σ H fun v H1 => D.nx (σ.set i (some v)) H1) := by
 have ok : BlkOk X.N X.env.scope scope (Zax p scope vs) := by
  rw [g.N, g.sc]; exact blkOk_by hb
 have hyX : X.env.scope.names.lookup y = some .local := by rw [g.sc]; exact hyl
 have hv2 : ∀ i ∈ vs1, i ∈ (Zax p scope vs).map (·.2) := fun i h => by
  rw [hv]
  exact Qaz.mp (Qap.mp hv1 i h)
 have z := ps_setLc2 (i := i) (spos := spos) (py := py) (pos := pos) (g := gT X.kw lcB t) (tt := tTs X.kw lcB ca C c) (te := tC X.kw lcB ca W0 (ev C m)) (wi1 := tI X lcB ca W0 (evi C it1)) (g1 := gT X.kw lcB t1) (tt1 := tTs X.kw lcB ca C c1) g.calm (by rw [g.N]; exact g.nd) (by rw [g.N]; exact hy) hyX (Zsi g.kind hyX (by simpa using hl) ha) hi ok hv2
  (fun s H A cl fp => sgB (g.blk hb s H A cl fp) rfl ht) (fun s H A cl fp => Zqu (hc _ (g.blk hb s H A cl fp) rfl) rfl) (fun s H A cl fp => siB (hi1 _ (g.blk hb s H A cl fp)) rfl) (fun s H A cl fp => sgB (g.blk hb s H A cl fp) rfl ht1) (fun s H A cl fp => Zqu (hc1 _ (g.blk hb s H A cl fp) rfl) rfl)
  (fun s H A cl fp => peB (he _ (g.blk hb s H A cl fp)) rfl) (Zbu hs) (fun env x => Zbu hs1 x)
 refine ⟨fun pins s σ H D I h => z.run pins s σ H D I ?_⟩
 rw [hv]
 exact Zk1 hin hin1 h
end
end My
namespace My
open PySem PySem.Spec PyProof.Rows L2
variable [CP] [TC]
section
variable {X : Cx}
theorem Zo2 {P : Program} {w : World} {ks : List (NestedKey × Addr × V)} {xs : List (NestedKey × Addr × Value)} {es : Array DictEntry} (r : Paired (fun (p : NestedKey × Addr × V) (q : NestedKey × Addr × Value) => p.1 = q.1 /\ p.2.1 = q.2.1 /\ RelV p.2.2 q.2.2) ks xs)
  (he : es.toList = xs.map (entryOfKey (nestedKind P w))) : es.size = ks.length /\ ∀ i (hi : i < es.size), ∃ p : NestedKey × Addr × V, ks[i]? = some p /\ es[i].key = .ref p.2.1 := by
 have l : ks.length = xs.length := Paired.length r
 have l2 : es.size = xs.length := by rw [<- Array.length_toList, he, Qal]
 refine ⟨by omega, fun i hi => ?_⟩
 have e1 : es.toList[i]? = some es[i] := by rw [Qbl]; exact Array.getElem?_eq_getElem hi
 rw [he, Qar] at e1
 cases hx : xs[i]? with
 | none => rw [hx] at e1; cases e1
 | some q =>
  rw [hx] at e1
  have e2 : entryOfKey (nestedKind P w) q = es[i] := Option.some.inj e1
  have : ∀ {ks : List (NestedKey × Addr × V)} {xs : List (NestedKey × Addr × Value)} (i : Nat), Paired (fun (p : NestedKey × Addr × V) (q : NestedKey × Addr × Value) => p.1 = q.1 /\ p.2.1 = q.2.1 /\ RelV p.2.2 q.2.2) ks xs -> ∀ q, xs[i]? = some q -> ∃ p, ks[i]? = some p /\ p.2.1 = q.2.1 := by
   intro ks xs i r
   induction r generalizing i with
   | nil => intro q h; cases h
   | @cons p q ps qs h t ih =>
    intro q' h'
    cases i with
    | zero => cases h'; exact ⟨p, rfl, h.2.1⟩
    | succ i => exact ih i q' h'
  obtain ⟨p, hp, e3⟩ := this i r q hx
  refine ⟨p, hp, ?_⟩
  rw [<- e2, e3]
  rfl
def Z2z (K : KW) (ta : TE) : TE := fun σ H Q => ta σ H fun x H1 => ∃ d ks, x = .ref d /\ Rd H1 d (XT K.P K.w d ks) /\ ∀ p, H1 p = none -> Q (.ref p) (upd H1 p (.lst (ks.map fun q => V.ref q.2.1)))
theorem Zsj {e : Expr} {ta : TE} {p pos apos cpos : Pos} (hc : X.calm = true) (hg : Gl X "list") (hm : X.mg "list" = none) (ha : PE X e ta) (hbase : attributeBase e "keys" X.env (eval e X.env) = eval e X.env) (hline : (apos.endLine == cpos.line) = true) :
  PE X (.Call (.Name "list" p) [.Call (.Attribute e "keys" apos) [] [] cpos] [] pos) (Z2z X.kw ta) := by
 constructor
 intro pins s σ H Q I h
 refine Call_ ?_
 apply ld_blt I hg hm (Zob .list)
 refine PyProof.Rows.callWith_type1 (PyProof.Rows.args_cons ?_ rfl) rfl rfl
 refine wpAny_Call_method (T := "dict") (id := "dict.keys") hbase rfl hline F.plainAttrs_dict F.slot_dict_keys F.type_dict_keys (thn (ha.run pins s σ H _ I h) fun u s1 ⟨x, H1, I1, rx, d, ks, ex, hd, q⟩ => ?_)
 subst ex
 obtain rfl : u = Value.ref d := rx
 obtain ⟨⟨z, hs, xs, rel, o, es, ep, ho, hx, hdt, he, _⟩, _⟩ := (show ObjOk X.prog X.w H1 s1.heap d (XT X.prog X.w d ks) from rd_of I1.hok hd)
 obtain ⟨hsz, hkey⟩ := Zo2 rel he
 have raw : s1.heap.DictRaw d es ep := ⟨o, ho, hx, hdt⟩
 refine ⟨raw.typeIs, fun a e => by cases e; exact ⟨o, ho, hx.2.1⟩, ?_⟩
 have fin : wpAny (model X.prog X.w) X.A (spliced (backTo pos (starEach [] X.env))) (fun vs s₂ => wpAny (model X.prog X.w) X.A (PySem.call (.type "list") (Value.ref s1.heap.objs.size :: vs)) (EP X pins σ Q) X.xe s₂) X.xe { s1 with heap := s1.heap.push { cls := .type "dict_keys", data := .fields #[.ref d] } } := by
  apply PyProof.Rows.args_nil
  have I2 : Inv X pins σ H1 { s1 with heap := s1.heap.push { cls := .type "dict_keys", data := .fields #[.ref d] } } := I1.kept (t' := s1.toks) fun b ob q => Qam _ q
  have view : PySem.W.KdlKeysView (s1.heap.push { cls := .type "dict_keys", data := .fields #[.ref d] }) s1.heap.objs.size d := ⟨_, Qa0 _ rfl, rfl, rfl⟩
  refine PySem.W.kdl_call (KdlSrc.rawKeys (es := es) (ep := ep) (d := d) (r := s1.heap.objs.size)) (I2.ok.hd hc) ⟨view, raw.push _⟩ (by omega) fun h' tk acc' c' kp e2 it => ?_
  have ea : acc'.toList = (ks.map fun q => q.2.1).map Value.ref := by
   have hl : acc'.toList.length = ks.length := by rw [Array.length_toList, it.1]; exact hsz
   apply List.ext_getElem?
   intro j
   rw [Qar, Qar]
   cases hj : acc'.toList[j]? with
   | none =>
    have h1 := List.getElem?_eq_none_iff.mp hj
    rw [Qba (by omega)]
    rfl
   | some v =>
    obtain ⟨hi, hv⟩ := it.2 j v (by rw [<- Qbl]; exact hj)
    obtain ⟨p, hp, ep⟩ := hkey j hi
    rw [hp, hv, ep]
    rfl
  have rv : Vals (ks.map fun q => V.ref q.2.1) acc'.toList := by
   rw [ea]
   have := vals_refs (ks.map fun q => q.2.1)
   rw [Qbm] at this
   exact this
  exact ⟨.ref _, _, I2.laid (t' := tk) (o := .lst (ks.map fun q => V.ref q.2.1)) kp (Qao _) ⟨by rw [Qal]; exact z, acc'.toList, c', rv, by rw [Array.toArray_toList]; exact e2⟩, rfl, q _ (I2.hok.fresh (Qao _))⟩
 show wpAny _ _ (callWith cpos (.builtin "dict.keys") [.ref d] [] []) _ X.xe s1
 exact method_meetsIn F.slot_dict_keys F.entry_dict_keys rfl (PySem.evalArgs_none ⟨rfl, raw.typeIs, F.args_dict_keys_1 _, _, meets_dict_keys_raw d hs, ⟨es, ep, raw⟩, fin⟩)
end
section
variable {p : Pg} {C : Cl} {ca : CA} {k : Nat} {ks : Ks} {W : WX} {X : Cx}
theorem Zo3 (g : Good p C ca k ks W X) {a : Expr} {ma : MR} {p1 pos apos cpos : Pos} (hs : Zcb a = true) (h1 : ks.gl "list" = true) (hl : apos.endLine = cpos.line) (ha : SR ca C W X a ma) :
  SOb ca C W X (.Call (.Name "list" p1) [.Call (.Attribute a "keys" apos) [] [] cpos] [] pos) (.lkeys ma) := by
 refine PE.mono (Zsj g.calm (g.gl h1) (g.ob .list) ha (Zbz hs _) (by rw [hl]; simp)) fun σ H Q ⟨φ, S, ρ, a, h⟩ => ?_
 simp only [evO] at h
 refine Zag a h fun d S1 φ1 H1 v st1 a1 rv h1 => ?_
 obtain ⟨y, e, q⟩ := Zas h1
 have rn := rv.rd a1.rel
 cases hd : rdS S1 d with
 | wT kvs =>
  rw [hd] at e rn
  cases e
  cases rn with
  | of r => cases r with
   | wT e ka rt => exact ⟨_, _, rfl, .inr ⟨_, e⟩, fun p hp => Zv7 a1.rel (Zd6 rt ka) hp (Za8.step st1 q)⟩
  | wT e ka rt => exact ⟨_, _, rfl, .inl e, fun p hp => Zv7 a1.rel (Zd6 rt ka) hp (Za8.step st1 q)⟩
 | _ => rw [hd] at e; cases e
end
end My
namespace My
open PySem PySem.Spec PyProof.Rows L2 DT
variable [CP] [TC]
section
variable {X : Cx}
theorem Zo4 {pins : List (Addr × Obj)} {σ : L2.St} {H : Hp} {s : Shared} {E : Value -> Shared -> Prop} {a b : Addr} {k : NestedKey} {ks : List (NestedKey × Addr × V)} {v : V} {r : Value} {Q : Unit -> Shared -> Prop} (hu : X.A.units + 10 < cLine) (I : Inv X pins σ H s) (e : H a = some (XT X.prog X.w a ks)) (ka : KA H ks) (eb : KN H k b) (l : ks.length < sizeLine) (rv : L2.RelV v r)
  (h : ∀ s', Inv X pins σ (upd H a (XT X.prog X.w a (Zd1 ks k b v))) s' -> Q () s') : wpAny (model X.prog X.w) X.A (dictSet a (.ref b) r) Q E s := by
 obtain ⟨z, hd, xs, rel, dd⟩ := Zmd I (.inl e) ka
 have hz : xs.length <= sizeLine := by rw [<- Paired.length rel]; exact z
 have hl : (Zd1 ks k b v).length <= sizeLine := by have := Zgy ks k b v; omega
 refine wpAny_dictSet_heap (hsz := hz) (show X.A.units + 8 < cLine by omega) (Zcl I eb) dd fun h' dd' hs => h _ ?_
 obtain ⟨q, es, ep, hq, h2, h3, h4, _, h5⟩ := dd'
 exact d_write I (by rw [e]; exact True.intro) hs ⟨q, hq⟩ (XT.ok ⟨hl, hd, _, rel.put k rv, q, es, ep, hq, h2, h3, h4, h5⟩)
def tDX (X : Cx) (wi : TI) (g : TG) (tt : TT) (tk tv : TE) (vs : List Nat) : TE := fun σ H Q => wi σ H fun J H1 => ∀ D, H1 D = none -> ∃ W : Nat -> Nat -> Hp -> Prop, (∃ m, W 0 m (upd H1 D (XT X.prog X.w D []))) /\ ∀ i m H, W i m H ->
 (J.stop i H /\ Q (.ref D) H) \/ (J.go i H /\ ∃ Nx : Hp -> Prop, (∀ H', Nx H' -> ∃ m', m' < m /\ W (i + 1) m' H') /\ ∀ x H', J.yld i H x H' -> g x (L2.wipe σ vs) H' fun σ2 H2 => L2.wipe σ2 vs = L2.wipe σ vs /\ tt σ2 H2 fun b H3 =>
  if b = true then tk σ2 H3 fun y H4 => tv σ2 H4 fun z H5 => ∃ ks k c, y = V.ref c /\ KN H5 k c /\ H5 D = some (XT X.prog X.w D ks) /\ KA H5 ks /\ ks.length < sizeLine /\ Nx (upd H5 D (XT X.prog X.w D (Zd1 ks k c z))) else Nx H3)
theorem Zk2 {pins : List (Addr × Obj)} {s0 : Shared} {σ : L2.St} {H0 : Hp} {Q : VK} {kx vx tg iter : Expr} {ifs : List Expr} {scope : Scope} {own : List (Str × Nat)} {pos pos' : Pos} {wi : TI} {g : TG} {tt : TT} {tk tv : TE} {use : Option (Value -> Sem Unit)} {Qf : Value -> Shared -> Prop}
  (calm : X.calm = true) (hu : X.A.units + 10 < cLine) (ndN : X.N.Nodup) (I0 : Inv X pins σ H0 s0) (hi : PI X tg iter wi) (bk : BlkOk X.N X.env.scope scope own)
  (hg : ∀ (z : Shared) (G : Hp) (c : Addr) (cl : List (Str × Addr)) (fp : List Addr), PG (X.blk z G scope (compEnvC scope cl c X.env) fp) tg g)
  (ht : ∀ (z : Shared) (G : Hp) (c : Addr) (cl : List (Str × Addr)) (fp : List Addr), PTs (X.blk z G scope (compEnvC scope cl c X.env) fp) ifs tt)
  (hk : ∀ (z : Shared) (G : Hp) (c : Addr) (cl : List (Str × Addr)) (fp : List Addr), PE (X.blk z G scope (compEnvC scope cl c X.env) fp) kx tk)
  (hv : ∀ (z : Shared) (G : Hp) (c : Addr) (cl : List (Str × Addr)) (fp : List Addr), PE (X.blk z G scope (compEnvC scope cl c X.env) fp) vx tv)
  (fold : ∀ x, foldedSetIterable iter X.env x = pure x) (h : tDX X wi g tt tk tv (own.map (·.2)) σ H0 Q)
  (back : ∀ D c z m G, Inv X pins σ G z -> Q (.ref D) G -> z.heap.Ns c m -> FpOk X pins G c -> compPost (model X.prog X.w) X.A X.xe use Qf (.ref D) c (.ok .next) z) :
  wpAny (model X.prog X.w) X.A (comprehension (.DictComp kx vx [⟨tg, iter, ifs, 0⟩] scope pos) scope X.env pos' newDict false (eval iter X.env) use) Qf X.xe s0 := by
 have frees : ∀ y ∈ scope.names, y.2 = .free -> ∃ c, X.env.cells.lookup y.1 = some c := fun y hy e => (bk.free y hy e).elim (fun q => I0.ok.has _ (.inl q)) fun q => I0.ok.has _ (.inr q)
 refine wpAny_comprehension_free (use := use) rfl fold (closure_ok frees) bk.kind (fun y hy e => by rw [bk.uniq y hy, e]) (thn (hi.run pins s0 σ H0 _ I0 h) fun xv s1 hx => thn hx fun itv s2 h2 => ?_)
 obtain ⟨it, fp, tn, J, H2, rfl, I2, T, st2, f2, q⟩ := h2
 refine wpAny_newObj_type (newEnv_comp ?_)
 obtain ⟨D, eD⟩ : ∃ D, D = s2.heap.objs.size := ⟨_, rfl⟩
 rw [<- eD]
 have D0 : H2 D = none := I2.hok.fresh (Nat.le_of_eq eD.symm)
 obtain ⟨W, ⟨m0, w0⟩, turn⟩ := q D D0
 -- the dict is laid
 obtain ⟨s3, e3⟩ : ∃ s3 : Shared, s3 = { s2 with heap := s2.heap.push { cls := .type "dict", data := .dict #[] } } := ⟨_, rfl⟩
 have e3h : s3.heap = s2.heap.push { cls := .type "dict", data := .dict #[] } := by rw [e3]
 have I3 : Inv X pins σ (upd H2 D (XT X.prog X.w D [])) s3 := by
  rw [e3, eD]
  exact I2.laid (t' := s2.toks) (fun _ _ z => Qam _ z) (Qao _) (XT.ok ⟨Qax _, beq_eq_false_iff_ne.mpr (Ne.symm (Qbg I2.big)), [], .nil, _, #[], 0, Qa0 _ rfl, ⟨rfl, rfl, rfl⟩, rfl, rfl, List.nodup_nil⟩)
 have below : ∀ b ∈ fp, b < s2.heap.objs.size := fun b hb => let ⟨o, eo, _⟩ := T.obj _ _ st2 b hb; Heap.lt_size eo
 have f3 : ∀ b ∈ fp, FpOk X pins (upd H2 D (XT X.prog X.w D [])) b /\ b < s3.heap.objs.size := fun b hb => by
  have lt := below b hb
  have ne : b ≠ D := by rw [eD]; exact Qbg lt
  exact ⟨⟨(upd_ne ne).trans (f2 b hb).1, (f2 b hb).2⟩, by rw [e3h, Heap.size_push]; exact Nat.lt_succ_of_lt lt⟩
 have st3 : tn 0 s3.heap := T.keep _ _ _ st2 fun b _ o eo => by rw [e3h]; exact Qam _ eo
 have I4 := block_start I3 bk ndN f3
 obtain ⟨cl, ecl⟩ : ∃ cl, cl = cellsFrom (s3.heap.objs.size + 1) scope.names (cloFrom X.env.cells scope.names []) := ⟨_, rfl⟩
 rw [<- ecl] at I4
 have pg := hg s3 (upd H2 D (XT X.prog X.w D [])) s3.heap.objs.size cl fp
 have pt := ht s3 (upd H2 D (XT X.prog X.w D [])) s3.heap.objs.size cl fp
 have pk := hk s3 (upd H2 D (XT X.prog X.w D [])) s3.heap.objs.size cl fp
 have pv := hv s3 (upd H2 D (XT X.prog X.w D [])) s3.heap.objs.size cl fp
 obtain ⟨ce, ece⟩ : ∃ ce, ce = compEnvC scope cl s3.heap.objs.size X.env := ⟨_, rfl⟩
 obtain ⟨H3, eH3⟩ : ∃ H3, H3 = upd H2 D (XT X.prog X.w D []) := ⟨_, rfl⟩
 obtain ⟨s4, e4⟩ : ∃ s4 : Shared, s4 = { s3 with heap := pushCells (s3.heap.push { cls := .type "dict", data := .dict #[] }) scope.names } := ⟨_, rfl⟩
 rw [<- e3]
 rw [<- e4] at I4
 rw [<- ece] at I4 pg pt pk pv
 rw [<- eH3] at I3 I4 w0 f3 pg pt pk pv
 have cL : ce.locals = s3.heap.objs.size := by rw [ece]; rfl
 show codeAny _ _ (.compStart (.DictComp kx vx [⟨tg, iter, ifs, 0⟩] scope pos) 0 (.ref it) (.ref D) (compEnvC scope (cellsFrom (s3.heap.objs.size + 1) scope.names (cloFrom X.env.cells scope.names [])) s3.heap.objs.size X.env)) (compPost (model X.prog X.w) X.A X.xe use Qf (.ref D) s3.heap.objs.size) { s3 with heap := pushCells (s3.heap.push { cls := .type "dict", data := .dict #[] }) scope.names }
 rw [<- ecl, <- ece, <- e4]
 have off3 : ∀ b ∈ fp, H3 b = none := fun b hb => (f3 b hb).1.1
 have st4 : tn 0 s4.heap := T.keep _ _ _ st3 fun b _ o eo => by rw [e4]; exact pushCells_keeps _ _ _ _ (Qam _ eo)
 have pinOk : ∀ {σ' : L2.St} {G : Hp} {z : Shared}, Inv (X.blk s3 H3 scope ce fp) [] σ' G z -> (∀ b ∈ fp, G b = none) -> ∀ b ∈ fp, FpOk (X.blk s3 H3 scope ce fp) [] G b := fun {σ' G z} Iz off b hb =>
  ⟨off b hb, (Iz.ok.exf b hb).1, Iz.ok.exfs b hb, .inl hb, fun x c e => (Iz.ok.exf b hb).2 x c e, fun p hp => absurd (show p ∈ ([] : List (Addr × Obj)) ++ [] from hp) (by simp)⟩
 have loop : codeAny (model X.prog X.w) X.A (.compLoop (.DictComp kx vx [⟨tg, iter, ifs, 0⟩] scope pos) 0 (.ref it) (.ref D) ce) (compPost (model X.prog X.w) X.A X.xe use Qf (.ref D) s3.heap.objs.size) s4 := by
  refine compLoop_anyD (fun n z => ∃ i G, Inv (X.blk s3 H3 scope ce fp) [] (L2.wipe σ (own.map (·.2))) G z /\ tn i z.heap /\ (∀ b ∈ fp, G b = none) /\ W i n G) ?_ m0 ⟨0, H3, I4, st4, off3, w0⟩
  rintro n z5 ⟨i, G5, I5, t5, off5, w5⟩
  rcases turn i n G5 w5 with ⟨stop, fin⟩ | ⟨go, Nx, hNx, step⟩
  ·refine thnF (T.done (X.blk s3 H3 scope ce fp) rfl rfl rfl calm i [] z5 _ G5 (fun _ _ => False) I5 (pinOk I5 off5) t5 stop) fun r z6 ⟨hr, I6⟩ => ?_
   rw [hr]
   have I7 : Inv X pins σ G5 z6 := I3.call' (ch := fp) I6.os I6.base I6.hok I6.bare fun b hb => let f := (f3 b hb).1; ⟨f.2.2.2.1, f.2.1, f.2.2.2.2.1, f.2.2.2.2.2⟩
   have n7 : G5 s3.heap.objs.size = none := cL ▸ (show G5 ce.locals = none from I6.free)
   obtain ⟨m, hm, _⟩ := I6.loc
   have hm : z6.heap.Ns s3.heap.objs.size m := cL ▸ (show z6.heap.Ns ce.locals m from hm)
   exact back D s3.heap.objs.size z6 m G5 I7 fin hm (I3.fpOk (Qao _) n7)
  ·refine thnF (T.item (X.blk s3 H3 scope ce fp) rfl rfl rfl calm i [] z5 _ G5 (fun _ _ => False) I5 (pinOk I5 off5) t5 go) fun r z6 ⟨u, hr, q6⟩ => ?_
   rw [hr]
   refine thnF q6 fun _ z7 ⟨x, G7, I7, r7, y7, t7, off7⟩ => ?_
   refine thnF (pg.run _ z7 _ G7 x u _ (I7.pinned (pinOk I7 off7) (T.obj _ _ t7)) r7 (step x G7 y7)) fun _ z8 ⟨σ8, G8, I8, w8, q8⟩ => ?_
   refine thnF (pt.run _ z8 σ8 G8 _ I8 q8) fun b z9 ⟨G9, I9, q9⟩ => ?_
   have next : ∀ {z : Shared} {G : Hp}, Inv (X.blk s3 H3 scope ce fp) ([] ++ pinsAt fp z7.heap) σ8 G z -> Nx G -> ∃ m, m < n /\ ∃ i G, Inv (X.blk s3 H3 scope ce fp) [] (L2.wipe σ (own.map (·.2))) G z /\ tn i z.heap /\ (∀ b ∈ fp, G b = none) /\ W i m G := fun {z G} Iz nx => by
    obtain ⟨m', lt, w'⟩ := hNx G nx
    have pin : ∀ b ∈ fp, ∀ o, z7.heap.get? b = some o -> z.heap.get? b = some o /\ G b = none := fun b hb o eo =>
     let k := Iz.pin (b, o) (Qbf _ (Qbf _ (mem_pinsAt hb eo)))
     ⟨k.1, k.2.1⟩
    refine ⟨m', lt, i + 1, G, (Iz.unpinned (pins := [])).weak (by rw [<- w8, L2.wipe_length]) (fun j v e => by rw [<- w8] at e; exact (L2.wipe_some e).1), T.keep _ _ _ t7 fun b hb o eo => (pin b hb o eo).1, fun b hb => ?_, w'⟩
    obtain ⟨o, eo, _⟩ := T.obj _ _ t7 b hb
    exact (pin b hb o eo).2
   cases b with
   | false => exact next I9 q9
   | true =>
    refine thnF (pk.run _ z9 σ8 G9 _ I9 q9) fun zk z10 ⟨yk, G10, I10, r10, q10⟩ => ?_
    refine thnF (pv.run _ z10 σ8 G10 _ I10 q10) fun zv z11 ⟨yv, G11, I11, r11, ks, k, c, ek, tx, hD, ka, lz, nx⟩ => ?_
    subst ek
    obtain rfl : zk = Value.ref c := r10
    exact Zo4 (X := X.blk s3 H3 scope ce fp) hu I11 hD ka tx lz r11 fun z12 I12 => next I12 nx
 exact codeAny_compStart_dict loop (T.self X.A 0 _ _ _ st4 loop)
end
end My
namespace My
open PySem PySem.Spec PyProof.Rows L2 DT
variable [CP] [TC]
section
variable {X : Cx}
theorem Z20 {kx vx tg iter : Expr} {ifs : List Expr} {scope : Scope} {own : List (Str × Nat)} {pos : Pos} {wi : TI} {g : TG} {tt : TT} {tk tv : TE} (calm : X.calm = true) (hu : X.A.units + 10 < cLine) (ndN : X.N.Nodup) (hi : PI X tg iter wi) (bk : BlkOk X.N X.env.scope scope own)
  (hg : ∀ (z : Shared) (G : Hp) (c : Addr) (cl : List (Str × Addr)) (fp : List Addr), PG (X.blk z G scope (compEnvC scope cl c X.env) fp) tg g)
  (ht : ∀ (z : Shared) (G : Hp) (c : Addr) (cl : List (Str × Addr)) (fp : List Addr), PTs (X.blk z G scope (compEnvC scope cl c X.env) fp) ifs tt)
  (hk : ∀ (z : Shared) (G : Hp) (c : Addr) (cl : List (Str × Addr)) (fp : List Addr), PE (X.blk z G scope (compEnvC scope cl c X.env) fp) kx tk)
  (hv : ∀ (z : Shared) (G : Hp) (c : Addr) (cl : List (Str × Addr)) (fp : List Addr), PE (X.blk z G scope (compEnvC scope cl c X.env) fp) vx tv) (fold : ∀ x, foldedSetIterable iter X.env x = pure x) :
  PE X (.DictComp kx vx [⟨tg, iter, ifs, 0⟩] scope pos) (tDX X wi g tt tk tv (own.map (·.2))) := by
 constructor
 intro pins s σ H Q I h
 rw [arm_eval_DictComp]
 refine Zk2 calm hu ndN I hi bk hg ht hk hv fold h fun D c z m G Iz q hn f => ⟨m, hn, fun h2 sb => ?_⟩
 exact ⟨.ref D, G, Iz.turned (t' := z.toks) (fun b o hb e => (sb.2 b hb).trans e) f.1 f.2.1 f.2.2.2.1 f.2.2.2.2.1 f.2.2.2.2.2, rfl, q⟩
end
section
variable {p : Pg} {C : Cl} {ca : CA} {k : Nat} {ks : Ks} {W : WX} {X : Cx} {tg e : Expr} {m : ME}
omit [CP] [TC] in
theorem Zuu {vs : List Nat} {t : MT} {it : MI} {c : Option ME} {mk m : ME} {ρ : Ev} {S : Store} : evO C (.dcT vs t it c mk m) ρ S = (evi C it ρ S).bind fun q S => (Zkb (dcF C ρ vs t c mk m) q [] S).bind fun xs S => .ok (.dT xs) S := by
 simp only [evO]
 rfl
theorem Z21 {J : It} {n : Nat} {G : Hp -> Prop} {Y : Nat -> Hp -> V -> Hp -> Prop} {g : TG} {tt : TT} {tk tv : TE} {vs : List Nat} {σ : L2.St} {Q : VK} {D : Addr} {Hs : Hp} (wk : Walk J n G Y) (I : Nat -> Hp -> Prop) (h0 : I 0 Hs) (hg : ∀ i H, i <= n -> I i H -> G H)
  (hstep : ∀ i x Hc H', i < n -> I i Hc -> Y i Hc x H' -> g x (L2.wipe σ vs) H' fun σ2 H2 => L2.wipe σ2 vs = L2.wipe σ vs /\ tt σ2 H2 fun b H3 =>
   if b = true then tk σ2 H3 fun y H4 => tv σ2 H4 fun z H5 => ∃ ks kk cc, y = V.ref cc /\ KN H5 kk cc /\ H5 D = some (XT X.prog X.w D ks) /\ KA H5 ks /\ ks.length < sizeLine /\ I (i + 1) (upd H5 D (XT X.prog X.w D (Zd1 ks kk cc z))) else I (i + 1) H3)
  (hend : ∀ Hn, I n Hn -> Q (.ref D) Hn) :
  ∃ W : Nat -> Nat -> Hp -> Prop, (∃ m, W 0 m Hs) /\ ∀ i m H, W i m H -> (J.stop i H /\ Q (.ref D) H) \/ (J.go i H /\ ∃ Nx : Hp -> Prop, (∀ H', Nx H' -> ∃ m', m' < m /\ W (i + 1) m' H') /\ ∀ x H', J.yld i H x H' -> g x (L2.wipe σ vs) H' fun σ2 H2 => L2.wipe σ2 vs = L2.wipe σ vs /\ tt σ2 H2 fun b H3 =>
   if b = true then tk σ2 H3 fun y H4 => tv σ2 H4 fun z H5 => ∃ ks kk cc, y = V.ref cc /\ KN H5 kk cc /\ H5 D = some (XT X.prog X.w D ks) /\ KA H5 ks /\ ks.length < sizeLine /\ Nx (upd H5 D (XT X.prog X.w D (Zd1 ks kk cc z))) else Nx H3) := by
 refine ⟨fun i m H => m = n - i /\ i <= n /\ I i H, ⟨n, by omega, Qax _, h0⟩, ?_⟩
 rintro i m H ⟨rfl, hi, hI⟩
 have hG := hg i H hi hI
 by_cases lt : i < n
 ·exact .inr ⟨wk.goes i H lt hG, I (i + 1), fun H' z => ⟨n - (i + 1), by omega, rfl, lt, z⟩, fun x H' y => hstep i x H H' lt hI (wk.yields i H x H' lt hG y)⟩
 ·have e : i = n := by omega
  subst e
  exact .inl ⟨wk.stops H hG, hend H hI⟩
theorem Zk3 {vs : List Nat} {t : MT} {it : MI} {c : Option ME} {mk m : ME} {σ : L2.St} {H : Hp} {Q : VK} (hin : Zd2 t vs = true) (h : tO X.kw X.lc ca W (evO C (.dcT vs t it c mk m)) σ H Q) :
  tDX X (tI X X.lc ca W (evi C it)) (gT X.kw lcB t) (tTs X.kw lcB ca C c) (tC X.kw lcB ca W0 (ev C mk)) (tC X.kw lcB ca W0 (ev C m)) vs σ H Q := by
 obtain ⟨φ, S, ρ, a, h⟩ := h
 rw [Zuu, R.wp_bind] at h
 refine ⟨φ, S, ρ, a, R.wp_mono h (fun q S1 hq φ1 H1 J st1 r1 ⟨G, Y, wk, itk⟩ => fun D hD => ?_) fun _ _ z => z⟩
 rw [R.wp_bind] at hq
 have e1 := a.env.mono a.rel st1
 refine Z21 wk (fun i H' => ∃ φ2 S2 acc vacc, Step φ1 S1 H1 φ2 S2 H' /\ RelS X.kw φ2 S2 H' /\ H' D = some (XT X.prog X.w D vacc) /\ KA H' vacc /\ RTs X.kw φ2 S2.nx H' acc (vacc.map noB) /\ (∀ i, i < S2.nx -> φ2 i ≠ D) /\
  (Zkb (dcF C ρ vs t c mk m) (q.drop i) acc S2).wp (fun xs S3 => Za8 X.kw φ S H Q (.dT xs) S3) (fun _ _ => True)) ?_ ?_ ?_ ?_
 ·obtain ⟨r2, st2⟩ := r1.lay (o' := XT X.prog X.w D []) hD
  refine ⟨φ1, S1, [], [], st2, r2, upd_same, (fun p hp => by cases hp), .nil, fun i qq z => ?_, R.wp_mono hq (fun _ _ z => z) fun _ _ _ => trivial⟩
  obtain ⟨w, hw, _⟩ := r1.there qq
  rw [z, hD] at hw; cases hw
 ·rintro i H' _ ⟨φ2, S2, acc, vacc, st2, r2, _, _, _, _, w⟩
  exact (itk φ2 S2 H' (st2.sub r1) r2).1
 ·rintro i x Hc H' hi ⟨φ2, S2, acc, vacc, st2, r2, hDv, kacc, racc, nl, w⟩ hy
  obtain ⟨d, hd, hH⟩ := (itk φ2 S2 Hc (st2.sub r1) r2).2 i x H' hi hy
  have hdrop : q.drop i = d :: q.drop (i + 1) := by
   obtain ⟨hlt, e⟩ := Qay.mp hd
   rw [Qbk hlt, e]
  have hst : RelS X.kw φ2 S2 H' /\ Step φ2 S2 Hc φ2 S2 H' /\ RV X.kw φ2 S2.nx H' d x := by
   rcases hH with ⟨rfl, rv⟩ | ⟨T, ws, hT, rfl, rv⟩
   ·exact ⟨r2, r2.refl, rv⟩
   ·obtain ⟨r3, st3⟩ := r2.lay (o' := .tup ws) hT
    exact ⟨r3, st3, rv⟩
  obtain ⟨r3, st3, rv⟩ := hst
  obtain ⟨nl3, hD3⟩ := st3.off hDv nl
  have st13 := st2.trans st3
  rw [hdrop] at w
  unfold Zkb at w
  rw [R.wp_bind, R.wp_calm] at w
  unfold dcF at w
  split at w
  ·exact w.elim
  ·rename_i ρ' hp
   obtain ⟨post, hpost⟩ : ∃ post : Option (My.D × My.D) -> Store -> Prop, post = fun o S5 => (match o with
     | none => Zkb (dcF C ρ vs t c mk m) (q.drop (i + 1)) acc S5
     | some (k, y) => match Zb1 k with
      | some k => if acc.length < sizeLine then Zkb (dcF C ρ vs t c mk m) (q.drop (i + 1)) (Zgu acc k y) S5 else .bad
      | none => .bad).wp (fun xs S3 => Za8 X.kw φ S H Q (.dT xs) S3) (fun _ _ => True) := ⟨_, rfl⟩
   change ((evc C c ρ' S2).bind fun b S => if b then (ev C mk ρ' S).bind fun x S => (ev C m ρ' S).bind fun y S => .ok (some (x, y)) S else .ok none S).wp (fun o S5 => (match o with
     | none => Zkb (dcF C ρ vs t c mk m) (q.drop (i + 1)) acc S5
     | some (k, y) => match Zb1 k with
      | some k => if acc.length < sizeLine then Zkb (dcF C ρ vs t c mk m) (q.drop (i + 1)) (Zgu acc k y) S5 else .bad
      | none => .bad).wp (fun xs S3 => Za8 X.kw φ S H Q (.dT xs) S3) (fun _ _ => True)) (fun _ _ => False) at w
   rw [<- hpost] at w
   have e3 : RelE X.kw lcB φ2 S2.nx H' (Zaw ρ vs) (L2.wipe σ vs) := (e1.mono r1 st13).toB.wipe vs
   refine ⟨φ2, S2, Zaw ρ vs, d, ρ', ⟨r3, e3⟩, rv, hp, fun σ2 re hw => ⟨?_, ?_⟩⟩
   ·rw [hw vs hin, Zcn]
   ·have racc3 := racc.sub (st3.sub r2)
    have kacc3 := kacc.sub (st3.sub r2)
    have elem : ∀ S4 φ4 H4, Step φ2 S2 H' φ4 S4 H4 -> At X.kw lcB φ4 S4 ρ' σ2 H4 -> ((ev C mk ρ' S4).bind fun x S => (ev C m ρ' S).bind fun y S => (R.ok (some (x, y)) S : R Xn (Option (My.D × My.D)))).wp post (fun _ _ => False) ->
      tC X.kw lcB ca W0 (ev C mk) σ2 H4 fun y H5 => tC X.kw lcB ca W0 (ev C m) σ2 H5 fun z H6 => ∃ vacc kk cc, y = V.ref cc /\ KN H6 kk cc /\ H6 D = some (XT X.prog X.w D vacc) /\ KA H6 vacc /\ vacc.length < sizeLine /\ ∃ φ2 S2 acc vacc', Step φ1 S1 H1 φ2 S2 (upd H6 D (XT X.prog X.w D (Zd1 vacc kk cc z))) /\ RelS X.kw φ2 S2 (upd H6 D (XT X.prog X.w D (Zd1 vacc kk cc z))) /\ (upd H6 D (XT X.prog X.w D (Zd1 vacc kk cc z))) D = some (XT X.prog X.w D vacc') /\ KA (upd H6 D (XT X.prog X.w D (Zd1 vacc kk cc z))) vacc' /\ RTs X.kw φ2 S2.nx (upd H6 D (XT X.prog X.w D (Zd1 vacc kk cc z))) acc (vacc'.map noB) /\ (∀ i, i < S2.nx -> φ2 i ≠ D) /\
       (Zkb (dcF C ρ vs t c mk m) (q.drop (i + 1)) acc S2).wp (fun xs S3 => Za8 X.kw φ S H Q (.dT xs) S3) (fun _ _ => True) := fun S4 φ4 H4 st4 a4 h4 => by
     rw [R.wp_bind] at h4
     refine ⟨φ4, S4, ρ', a4, R.wp_mono h4 (fun y S5 h5 φ5 H5 v st5 r5 rv5 => ?_) fun _ _ z => z.elim⟩
     rw [R.wp_bind] at h5
     have a5 := a4.step st5 r5
     refine ⟨φ5, S5, ρ', a5, R.wp_mono h5 (fun z S6 h6 φ6 H6 v6 st6 r6 rv6 => ?_) fun _ _ z => z.elim⟩
     rw [R.wp_ok, hpost] at h6
     have h6 : (match Zb1 y with
      | some k => if acc.length < sizeLine then Zkb (dcF C ρ vs t c mk m) (q.drop (i + 1)) (Zgu acc k z) S6 else .bad
      | none => .bad).wp (fun xs S3 => Za8 X.kw φ S H Q (.dT xs) S3) (fun _ _ => True) := h6
     split at h6
     ·rename_i kk hk
      split at h6
      ·rename_i hz
       have st46 := (st4.trans st5).trans st6
       obtain ⟨nl6, hD6⟩ := st46.off hD3 nl3
       have racc6 := racc3.sub (st46.sub r3)
       have kacc6 := kacc3.sub (st46.sub r3)
       obtain ⟨cc, ey, tx5⟩ := RN.keyT hk (.of rv5)
       have tx6 := tx5.sub (st6.sub r5)
       have mu : Mut (some (XT X.prog X.w D vacc)) := Z1a
       have r7 := r6.chg (o' := XT X.prog X.w D (Zd1 vacc kk cc v6)) hD6 mu nl6
       have sb7 : Sub φ6 S6.nx H6 φ6 S6.nx (upd H6 D (XT X.prog X.w D (Zd1 vacc kk cc v6))) := Zbc hD6 mu
       have ln : vacc.length = acc.length := by
        have := racc6.length
        rw [Qal] at this
        exact this
       exact ⟨vacc, kk, cc, ey, tx6, hD6, kacc6, by rw [ln]; exact hz, φ6, S6, Zgu acc kk z, Zd1 vacc kk cc v6, (st13.trans st46).aside hD, r7, upd_same, (kacc6.put tx6).sub sb7, by rw [Zjf]; exact (racc6.put kk rv6).sub sb7, nl6, h6⟩
      ·exact h6.elim
     ·exact h6.elim
    have a3 : At X.kw lcB φ2 S2 ρ' σ2 H' := ⟨r3, re⟩
    cases c with
    | none =>
     rw [show evc C none ρ' S2 = .ok true S2 from by simp only [evc]] at w
     have z := elem S2 φ2 H' r3.refl a3 w
     exact z
    | some c0 =>
     rw [show evc C (some c0) ρ' S2 = (ev C c0 ρ' S2).bind blR from by simp only [evc]] at w
     rw [R.wp_bind, R.wp_bind] at w
     refine ⟨φ2, S2, ρ', a3, R.wp_mono w (fun d2 S4 h4 => ?_) fun _ _ z => z.elim⟩
     cases d2 with
     | bl b =>
      refine ⟨b, rfl, fun φ4 H4 st4 r4 => ?_⟩
      have a4 := a3.step st4 r4
      cases b with
      | true => exact iteT (elem S4 φ4 H4 st4 a4 h4)
      | false =>
       obtain ⟨nl4, hD4⟩ := st4.off hD3 nl3
       have h4 : post none S4 := h4
       rw [hpost] at h4
       exact iteF ⟨φ4, S4, acc, vacc, st13.trans st4, r4, hD4, kacc3.sub (st4.sub r3), racc3.sub (st4.sub r3), nl4, h4⟩
     | _ => exact h4.elim
 ·rintro Hn ⟨φ2, S2, acc, vacc, st2, r2, hDv, kacc, racc, nl, w⟩
  have hd0 : q.drop q.length = [] := List.drop_length
  rw [hd0] at w
  unfold Zkb at w
  have w : Za8 X.kw φ S H Q (.dT acc) S2 := w
  refine w φ2 Hn D (st1.trans st2) r2 ⟨⟨_, hDv, ⟨vacc, rfl, kacc, racc⟩⟩, nl⟩ ?_
  cases z : H D with
  | none => rfl
  | some u =>
   obtain ⟨u', z'⟩ := st1.trk D u z
   rw [hD] at z'; cases z'
theorem Zx2 (g : Good p C ca k ks W X) {kx elt iter : Expr} {ifs : List Expr} {scope : Scope} {pos : Pos} {vs : List Nat} {t : MT} {it : MI} {c : Option ME} {mk m : ME}
  (hi : SI ca C W X tg iter it) (hs : Zbx iter = true) (hv : (Zax p scope vs).map (·.2) = vs) (hb : blkC p.N ks.sc scope (Zax p scope vs) = true) (ht : okT p (ks.blk scope) tg t = true) (hin : Zd2 t vs = true)
  (hc : ∀ X', Good p C ca k (ks.blk scope) W0 X' -> X'.kw = X.kw -> PTs X' ifs (tTs X'.kw X'.lc ca C c)) (hk : ∀ X', Good p C ca k (ks.blk scope) W0 X' -> SE ca C W0 X' kx mk) (he : ∀ X', Good p C ca k (ks.blk scope) W0 X' -> SE ca C W0 X' elt m) :
  SOb ca C W X (.DictComp kx elt [⟨tg, iter, ifs, 0⟩] scope pos) (.dcT vs t it c mk m) := by
 have ok : BlkOk X.N X.env.scope scope (Zax p scope vs) := by
  rw [g.N, g.sc]; exact blkOk_by hb
 refine PE.mono (Z20 (g := gT X.kw lcB t) (tt := tTs X.kw lcB ca C c) (tk := tC X.kw lcB ca W0 (ev C mk)) (tv := tC X.kw lcB ca W0 (ev C m)) g.calm (by have := Zda g.room3; omega) (by rw [g.N]; exact g.nd) hi ok
  (fun s H A cl fp => sgB (g.blk hb s H A cl fp) rfl ht) (fun s H A cl fp => Zqu (hc _ (g.blk hb s H A cl fp) rfl) rfl) (fun s H A cl fp => peB (hk _ (g.blk hb s H A cl fp)) rfl) (fun s H A cl fp => peB (he _ (g.blk hb s H A cl fp)) rfl) (Zbu hs)) fun σ H Q q => ?_
 rw [hv]
 exact Zk3 hin q
theorem Z22 (g : Good p C ca k ks W X) {y : Str} {py spos : Pos} {i : Nat} {kx elt iter : Expr} {ifs : List Expr} {scope : Scope} {pos : Pos} {vs : List Nat} {t : MT} {it : MI} {c : Option ME} {mk m : ME} (hy : p.N[i]? = some y) (hyl : ks.sc.names.lookup y = some .local)
  (hl : py.line = pos.line) (ha : (scope.names.any fun (n, k) => n == y && (k == .local || k == .cell)) = false)
  (hi : SI ca C W X tg iter it) (hs : Zbx iter = true) (hv : (Zax p scope vs).map (·.2) = vs) (hb : blkC p.N ks.sc scope (Zax p scope vs) = true) (ht : okT p (ks.blk scope) tg t = true) (hin : Zd2 t vs = true)
  (hc : ∀ X', Good p C ca k (ks.blk scope) W0 X' -> X'.kw = X.kw -> PTs X' ifs (tTs X'.kw X'.lc ca C c)) (hk : ∀ X', Good p C ca k (ks.blk scope) W0 X' -> SE ca C W0 X' kx mk) (he : ∀ X', Good p C ca k (ks.blk scope) W0 X' -> SE ca C W0 X' elt m) :
  PS X (.Assign [.Name y py] (.DictComp kx elt [⟨tg, iter, ifs, 0⟩] scope pos) spos) (fun D σ H => tO X.kw X.lc ca W (evO C (.dcT vs t it c mk m)) σ H fun v H1 => D.nx (σ.set i (some v)) H1) := by
 have ok : BlkOk X.N X.env.scope scope (Zax p scope vs) := by
  rw [g.N, g.sc]; exact blkOk_by hb
 have hyX : X.env.scope.names.lookup y = some .local := by rw [g.sc]; exact hyl
 have nd : X.N.Nodup := by rw [g.N]; exact g.nd
 have hyN : X.N[i]? = some y := by rw [g.N]; exact hy
 constructor
 intro pins s σ H D I h
 rw [exec_Assign_Name_used _ _ _ _ (Zof g.kind hyX (by simpa using hl) ha)]
 apply Qac
 apply wpAny_standAt
 apply Qac
 have r := Zk3 hin h
 rw [<- hv] at r
 have core := Zk2 (pos := pos) (pos' := firstIterPos [⟨tg, iter, ifs, 0⟩] pos) (use := some (assign (.Name y py) X.env)) (Qf := fun _ s' => SP X pins D .next s') (g := gT X.kw lcB t) (tt := tTs X.kw lcB ca C c) (tk := tC X.kw lcB ca W0 (ev C mk)) (tv := tC X.kw lcB ca W0 (ev C m)) g.calm (by have := Zda g.room3; omega) nd I hi ok
  (fun s H A cl fp => sgB (g.blk hb s H A cl fp) rfl ht) (fun s H A cl fp => Zqu (hc _ (g.blk hb s H A cl fp) rfl) rfl) (fun s H A cl fp => peB (hk _ (g.blk hb s H A cl fp)) rfl) (fun s H A cl fp => peB (he _ (g.blk hb s H A cl fp)) rfl) (Zbu hs) r (fun L B s' mm H' J q hn f => by
   show wpAny _ _ (assign (.Name y py) X.env (.ref L)) _ _ _
   apply wpAny_assign_Name
   apply store_ok2 (v := V.ref L) J nd hyN (.inl hyX) rfl _ (.inr hyX)
   rintro s2 J2 ⟨a, sb, hab⟩
   obtain ⟨f0, f1, f2, f3, f4, f5⟩ := f
   have ne : B ≠ a := by
    rcases hab with z | z
    ·rw [z]; exact f1
    ·intro w; exact f4 y a z w.symm
   exact ⟨mm, hn.sameBut sb ne, fun h3 sb3 => ⟨_, H', J2.turned (t' := s2.toks) (fun b o hb e => (sb3.2 b hb).trans e) f0 f1 f3 f4 f5, q⟩⟩)
 show wpAny _ X.A (do let _ <- comprehension (.DictComp kx elt [⟨tg, iter, ifs, 0⟩] scope pos) scope X.env (firstIterPos [⟨tg, iter, ifs, 0⟩] pos) newDict false (eval iter X.env) (some (assign (.Name y py) X.env))) _ _ s
 apply Qac
 exact thn core fun _ s' hq => Qah (Qah hq)
end
end My
namespace My
open PySem PySem.Spec PyProof.Rows L2
variable [CP] [TC]
section
variable (p : Pg) (C : Cl) (ca : CA) (k : Nat)
structure Snd (n : Nat) : Prop where
 e : ∀ ks W X e m, Good p C ca k ks W X -> okE p n ks e m = true -> SE ca C W X e m
 r : ∀ ks W X e m, Good p C ca k ks W X -> okR p n ks e m = true -> SR ca C W X e m
 ob : ∀ ks W X e m, Good p C ca k ks W X -> Zi5 p n ks e m = true -> SOb ca C W X e m /\ Zge e = true
 lc : ∀ ks W X elt tg iter ifs as scope vs t it c m, Good p C ca k ks W X -> Znc p n ks elt tg iter ifs as scope vs t it c m = true ->
  as = 0 /\ SI ca C W X tg iter it /\ Zbx iter = true /\ (Zax p scope vs).map (·.2) = vs /\ blkC p.N ks.sc scope (Zax p scope vs) = true /\ okT p (ks.blk scope) tg t = true /\ Zd2 t vs = true /\
   (∀ X', Good p C ca k (ks.blk scope) W0 X' -> X'.kw = X.kw -> PTs X' ifs (tTs X'.kw X'.lc ca C c)) /\ (∀ X', Good p C ca k (ks.blk scope) W0 X' -> SE ca C W0 X' elt m)
 l2 : ∀ ks W X tg iter ifs as scope vs vs1 t it c, Good p C ca k ks W X -> True -> Z0p p n ks tg iter ifs as scope vs vs1 t it c = true ->
  as = 0 /\ (∀ X', Good p C ca k (ks.blk scope) W0 X' -> SI ca C W0 X' tg iter it) /\ Zbx iter = true /\ okT p (ks.blk scope) tg t = true /\ Zd2 t vs1 = true /\ vs1.all vs.contains = true /\
   (∀ X', Good p C ca k (ks.blk scope) W0 X' -> X'.kw = X.kw -> PTs X' ifs (tTs X'.kw X'.lc ca C c))
 kv : ∀ ks W X pos keys vals ms, Good p C ca k ks W X -> Z0q p n ks keys vals ms = true -> SKv ca C W X pos keys vals ms
 b : ∀ ks W X op es pos m, Good p C ca k ks W X -> okB p n ks op es m = true -> SE ca C W X (.BoolOp op es pos) m
 a : ∀ ks W X es ms, Good p C ca k ks W X -> Zev p n ks es ms = true -> SA ca C W X es ms /\ (es = [] -> ms = [])
 rs : ∀ ks W X es ms, Good p C ca k ks W X -> Zkj p n ks es ms = true -> SRs ca C W X es ms
 o : ∀ ks W X e m, Good p C ca k ks W X -> okO p n ks e m = true -> SO ca C W X e m
 am : ∀ ks W X e a, Good p C ca k ks W X -> okA p n ks e a = true -> SM ca C W X e a
 ms : ∀ ks W X es as, Good p C ca k ks W X -> Zjk p n ks es as = true -> SMs ca C W X es as /\ (es = [] -> as = [])
 i : ∀ ks W X tg e m tt, Good p C ca k ks W X -> okI p n ks e m tt = true -> (tt = true -> ∃ elts kk pos, tg = .Tuple elts kk pos) -> SI ca C W X tg e m
end
section
variable {p : Pg} {C : Cl} {ca : CA} {k : Nat}
theorem Z9u {n : Nat} (ih : Snd p C ca k n) : ∀ ks W X es ms, Good p C ca k ks W X -> Zev p (n + 1) ks es ms = true -> SA ca C W X es ms /\ (es = [] -> ms = []) := by
 intro ks W X es ms g h
 cases es with
 | nil =>
  cases ms with
  | nil => exact ⟨Zkp, fun _ => rfl⟩
  | cons _ _ => simp [Zev] at h
 | cons e es =>
  cases ms with
  | nil => simp [Zev] at h
  | cons m ms =>
   simp only [Zev, Qaa] at h
   exact ⟨Zff h.1.1 (ih.e _ _ _ _ _ g h.1.2) (ih.a _ _ _ _ _ g h.2).1, fun z => nomatch z⟩
theorem Z9v {n : Nat} (ih : Snd p C ca k n) : ∀ ks W X e m, Good p C ca k ks W X -> okO p (n + 1) ks e m = true -> SO ca C W X e m := by
 intro ks W X e m g h
 cases e with
 | none =>
  cases m with
  | none => exact Zwk
  | some _ => simp [okO] at h
 | some e =>
  cases m with
  | none => simp [okO] at h
  | some m =>
   simp only [okO] at h
   exact Zwl (ih.e _ _ _ _ _ g h)
theorem Z9w {n : Nat} (ih : Snd p C ca k n) : ∀ ks W X op es pos m, Good p C ca k ks W X -> okB p (n + 1) ks op es m = true -> SE ca C W X (.BoolOp op es pos) m := by
 intro ks W X op es pos m g h
 match es, h with
 | [], h => simp [okB] at h
 | [b], h => exact Z1o (ih.e _ _ _ _ _ g (by simpa [okB] using h))
 | b :: c :: r, h =>
  cases op with
  | And =>
   simp only [okB] at h
   split at h
   ·rw [Qaa] at h
    exact Zum (ih.e _ _ _ _ _ g h.1) (ih.b _ _ _ _ _ _ _ g h.2)
   ·cases h
  | Or =>
   simp only [okB] at h
   split at h
   ·rw [Qaa] at h
    exact Z1n (ih.e _ _ _ _ _ g h.1) (ih.b _ _ _ _ _ _ _ g h.2)
   ·cases h
theorem Z9x {n : Nat} (ih : Snd p C ca k n) : ∀ ks W X tg e m tt, Good p C ca k ks W X -> okI p (n + 1) ks e m tt = true -> (tt = true -> ∃ elts kk pos, tg = .Tuple elts kk pos) -> SI ca C W X tg e m := by
 intro ks W X tg e m tt g h ht
 cases m with
 | seq m => exact Z14 (ih.e _ _ _ _ _ g (by simpa [okI] using h))
 | str m => exact Z15 (ih.e _ _ _ _ _ g (by simpa [okI] using h))
 | keys m => exact Zww (ih.e _ _ _ _ _ g (by simpa [okI] using h))
 | rng1 m =>
  simp only [okI] at h
  split at h
  ·simp only [Qaa, Qab] at h
   obtain ⟨⟨⟨rfl, h2⟩, h3⟩, h4⟩ := h
   exact Zwx g h3 h2 (ih.e _ _ _ _ _ g h4)
  ·cases h
 | rng2 m m' =>
  simp only [okI] at h
  split at h
  ·simp only [Qaa, Qab] at h
   obtain ⟨⟨⟨⟨⟨rfl, h2⟩, h3⟩, h4⟩, h5⟩, h6⟩ := h
   exact Zwy g h3 h4 h2 (ih.e _ _ _ _ _ g h5) (ih.e _ _ _ _ _ g h6)
  ·cases h
 | enum m =>
  simp only [okI] at h
  split at h
  ·simp only [Qaa, Qab] at h
   obtain ⟨⟨⟨⟨h0, rfl⟩, h2⟩, h3⟩, h4⟩ := h
   obtain ⟨elts, kk, pos, rfl⟩ := ht h0
   exact Zwz g h3 h2 (ih.e _ _ _ _ _ g h4)
  ·cases h
theorem Zfi {e : Expr} (h : Zc7 e = true) : ∃ elts kk pos, e = .Tuple elts kk pos := by
 cases e <;> first | (cases h; done) | exact ⟨_, _, _, rfl⟩
theorem Z9y {n : Nat} (ih : Snd p C ca k n) : ∀ ks W X e m, Good p C ca k ks W X -> okR p (n + 1) ks e m = true -> SR ca C W X e m := by
 intro ks W X e m g h
 cases m with
 | val m => exact Z1h (ih.e _ _ _ _ _ g (by simpa [okR] using h))
 | own i =>
  simp only [okR] at h
  split at h
  ·simp only [Qaa, Qab] at h
   exact Z1i g h.1.1 h.1.2 h.2
  ·cases h
theorem Z23 {n : Nat} (ih : Snd p C ca k n) : ∀ ks W X es ms, Good p C ca k ks W X -> Zkj p (n + 1) ks es ms = true -> SRs ca C W X es ms := by
 intro ks W X es ms g h
 cases es with
 | nil =>
  cases ms with
  | nil => exact Zwj
  | cons _ _ => simp [Zkj] at h
 | cons e es =>
  cases ms with
  | nil => simp [Zkj] at h
  | cons m ms =>
   simp only [Zkj, Qaa] at h
   exact Zrm h.1.1 (ih.r _ _ _ _ _ g h.1.2) (ih.rs _ _ _ _ _ g h.2)
theorem Z24 {n : Nat} (ih : Snd p C ca k n) : ∀ ks W X pos keys vals ms, Good p C ca k ks W X -> Z0q p (n + 1) ks keys vals ms = true -> SKv ca C W X pos keys vals ms := by
 intro ks W X pos keys vals ms g h
 unfold Z0q at h
 split at h
 ·cases ‹n + 1 = 0›
 ·exact Zws
 ·rename_i n' ks k' keys v vals mk mv ms e
  cases e
  simp only [Qaa] at h
  exact Zrp (ih.e _ _ _ _ _ g h.1.1) (ih.e _ _ _ _ _ g h.1.2) (ih.kv _ _ _ _ _ _ _ g h.2)
 ·cases h
theorem Z25 {n : Nat} (ih : Snd p C ca k n) : ∀ ks W X elt tg iter ifs as scope vs t it c m, Good p C ca k ks W X -> Znc p (n + 1) ks elt tg iter ifs as scope vs t it c m = true ->
  as = 0 /\ SI ca C W X tg iter it /\ Zbx iter = true /\ (Zax p scope vs).map (·.2) = vs /\ blkC p.N ks.sc scope (Zax p scope vs) = true /\ okT p (ks.blk scope) tg t = true /\ Zd2 t vs = true /\
   (∀ X', Good p C ca k (ks.blk scope) W0 X' -> X'.kw = X.kw -> PTs X' ifs (tTs X'.kw X'.lc ca C c)) /\ (∀ X', Good p C ca k (ks.blk scope) W0 X' -> SE ca C W0 X' elt m) := by
 intro ks W X elt tg iter ifs as scope vs t it c m g h
 simp only [Znc, Qaa, Qab] at h
 obtain ⟨⟨⟨⟨⟨⟨⟨⟨h1, h2⟩, h3⟩, h4⟩, h5⟩, h6⟩, h7⟩, h8⟩, h9⟩ := h
 refine ⟨h1, ih.i _ _ _ _ _ _ _ g h2 Zfi, h3, h4, h5, h6, h9, fun X' g' e => ?_, fun X' g' => ih.e _ _ _ _ _ g' h8⟩
 split at h7
 ·exact pts_nil
 ·exact pts_one (ih.e _ _ _ _ _ g' h7).pt
 ·cases h7
theorem Z26 {n : Nat} (ih : Snd p C ca k n) : ∀ ks W X tg iter ifs as scope vs vs1 t it c, Good p C ca k ks W X -> True -> Z0p p (n + 1) ks tg iter ifs as scope vs vs1 t it c = true ->
  as = 0 /\ (∀ X', Good p C ca k (ks.blk scope) W0 X' -> SI ca C W0 X' tg iter it) /\ Zbx iter = true /\ okT p (ks.blk scope) tg t = true /\ Zd2 t vs1 = true /\ vs1.all vs.contains = true /\
   (∀ X', Good p C ca k (ks.blk scope) W0 X' -> X'.kw = X.kw -> PTs X' ifs (tTs X'.kw X'.lc ca C c)) := by
 intro ks W X tg iter ifs as scope vs vs1 t it c g _ h
 simp only [Z0p, Qaa, Qab] at h
 obtain ⟨⟨⟨⟨⟨⟨h1, h2⟩, h3⟩, h6⟩, h7⟩, h8⟩, h9⟩ := h
 refine ⟨h1, fun X' g' => ih.i _ _ _ _ _ _ _ g' h2 Zfi, h3, h6, h8, h9, fun X' g' e => ?_⟩
 split at h7
 ·exact pts_nil
 ·exact pts_one (ih.e _ _ _ _ _ g' h7).pt
 ·cases h7
theorem Z27 {n : Nat} (ih : Snd p C ca k n) : ∀ ks W X e m, Good p C ca k ks W X -> Zi5 p (n + 1) ks e m = true -> SOb ca C W X e m /\ Zge e = true := by
 intro ks W X e m g h
 cases m with
 | lst ms =>
  simp only [Zi5] at h
  split at h
  ·exact ⟨Zwr (ih.a _ _ _ _ _ g h).1, rfl⟩
  ·cases h
 | dctT =>
  simp only [Zi5] at h
  split at h
  ·exact ⟨Zrq, rfl⟩
  ·cases h
 | dct ms =>
  simp only [Zi5] at h
  split at h
  ·simp only [Qaa, Qab] at h
   exact ⟨Zwt h.1 (ih.kv _ _ _ _ _ _ _ g h.2), rfl⟩
  ·cases h
 | lkeys a =>
  simp only [Zi5] at h
  split at h
  ·simp only [Qaa, Qab] at h
   obtain ⟨⟨⟨⟨⟨rfl, rfl⟩, h2⟩, h3⟩, h4⟩, h5⟩ := h
   exact ⟨Zo3 g h3 h2 h4 (ih.r _ _ _ _ _ g h5), rfl⟩
  ·cases h
 | blt f ms =>
  simp only [Zi5] at h
  split at h
  ·rename_i es _
   simp only [Qaa, Qab] at h
   obtain ⟨⟨⟨⟨rfl, h2⟩, h3⟩, h4⟩, h5⟩ := h
   cases es with
   | nil => simp at h5
   | cons e es => exact ⟨Zwp g (ih.rs _ _ _ _ _ g h4) (Zd9 h4) h2, rfl⟩
  ·cases h
 | lc vs t it c m =>
  simp only [Zi5] at h
  split at h
  ·obtain ⟨rfl, h2, h3, h4, h5, h6, h7, h8, h9⟩ := ih.lc _ _ _ _ _ _ _ _ _ _ _ _ _ _ g h
   exact ⟨Z2a g h2 h3 h4 h5 h6 h7 h8 h9, rfl⟩
  ·cases h
 | dc vs t it c mk m =>
  simp only [Zi5] at h
  split at h
  ·rw [Qaa] at h
   obtain ⟨rfl, h2, h3, h4, h5, h6, h7, h8, h9⟩ := ih.lc _ _ _ _ _ _ _ _ _ _ _ _ _ _ g h.1
   exact ⟨Z2d g h2 h3 h4 h5 h6 h7 h8 (fun X' g' => ih.e _ _ _ _ _ g' h.2) h9, rfl⟩
  ·cases h
 | dcT vs t it c mk m =>
  simp only [Zi5] at h
  split at h
  ·rw [Qaa] at h
   obtain ⟨rfl, h2, h3, h4, h5, h6, h7, h8, h9⟩ := ih.lc _ _ _ _ _ _ _ _ _ _ _ _ _ _ g h.1
   exact ⟨Zx2 g h2 h3 h4 h5 h6 h7 h8 (fun X' g' => ih.e _ _ _ _ _ g' h.2) h9, rfl⟩
  ·cases h
 | lc2 vs t it c vs1 t1 it1 c1 m =>
  simp only [Zi5] at h
  split at h
  ·rw [Qaa] at h
   obtain ⟨rfl, h2, h3, h4, h5, h6, h7, h8, h9⟩ := ih.lc _ _ _ _ _ _ _ _ _ _ _ _ _ _ g h.1
   obtain ⟨rfl, q1, q2, q3, q4, q5, q6⟩ := ih.l2 _ _ _ _ _ _ _ _ _ _ _ _ _ g trivial h.2
   exact ⟨Zx1 g h2 h3 h4 h5 h6 h7 h8 h9 q1 q2 q3 q4 q5 q6, rfl⟩
  ·cases h
theorem Zx3 {e : Expr} (h : Zwf e = true) : ∃ j p1 p2, e = .UnaryOp .USub (.Constant (.int 1) j p1) p2 := by
 unfold Zwf at h
 split at h
 ·simp only [Qaa, Qab] at h
  obtain ⟨rfl, rfl⟩ := h
  exact ⟨_, _, _, rfl⟩
 ·cases h
theorem Zcx {p : Pg} : ∀ {n : Nat} {ks : Ks} {es : List Expr} {ms : List MA}, Zjk p n ks es ms = true -> Zaa es = true
 | 0, _, _, _, h => by simp [Zjk] at h
 | n + 1, _, [], [], _ => rfl
 | n + 1, _, [], _ :: _, h => by simp [Zjk] at h
 | n + 1, _, _ :: _, [], h => by simp [Zjk] at h
 | n + 1, ks, e :: es, m :: ms, h => by
  simp only [Zjk, Qaa] at h
  rw [Zaa, Qas, Qaa]
  exact ⟨h.1.1, Zcx h.2⟩
theorem Z28 {n : Nat} (ih : Snd p C ca k n) : ∀ ks W X e a, Good p C ca k ks W X -> okA p (n + 1) ks e a = true -> SM ca C W X e a := by
 intro ks W X e a g h
 cases a with
 | v m =>
  simp only [okA] at h
  exact Yf9 (ih.e _ _ _ _ _ g h)
 | p i =>
  simp only [okA] at h
  split at h
  ·simp only [Qaa, Qab] at h
   exact Yga g h.1.1.1 h.1.1.2 h.1.2
  ·cases h
 | l x is =>
  simp only [okA] at h
  split at h
  ·simp only [Qaa] at h
   obtain ⟨⟨h1, h2⟩, h3⟩ := h
   split at h3
   ·rename_i m em
    simp only [Qaa, Qab] at h3
    obtain ⟨⟨⟨⟨h3, h4⟩, h5⟩, h6⟩, h7⟩ := h3
    split at h7
    ·rename_i js mb eb
     simp only [Qaa, Qab] at h7
     obtain ⟨rfl, h7⟩ := h7
     exact Ygb g h1 (Option.isNone_iff_eq_none.mp h2) em h3 (List.isEmpty_iff.mp h4) h5 h6 eb h7
    ·cases h7
   ·cases h3
  ·cases h
theorem Z29 {n : Nat} (ih : Snd p C ca k n) : ∀ ks W X es as, Good p C ca k ks W X -> Zjk p (n + 1) ks es as = true -> SMs ca C W X es as /\ (es = [] -> as = []) := by
 intro ks W X es ms g h
 cases es with
 | nil =>
  cases ms with
  | nil => exact ⟨Zx0, fun _ => rfl⟩
  | cons _ _ => simp [Zjk] at h
 | cons e es =>
  cases ms with
  | nil => simp [Zjk] at h
  | cons m ms =>
   simp only [Zjk, Qaa] at h
   exact ⟨Zsb h.1.1 (ih.am _ _ _ _ _ g h.1.2) (ih.ms _ _ _ _ _ g h.2).1, fun z => nomatch z⟩
theorem Z3a {e : Expr} {i : Nat} {c : Str} {a b : ME} {X : Cx} {W : WX} (ha : SE ca C W X e a) (hb : SE ca C W X e b) : SE ca C W X e (.byc i c a b) := by
 have one : ∀ {S : Store} {ρ : Ev}, ev C (.byc i c a b) ρ S = if Z06 S ρ i = some c then ev C a ρ S else ev C b ρ S := by
  intro S ρ
  simp only [ev]
 have two : ∀ {σ : L2.St} {H : Hp} {Q : VK}, tC X.kw X.lc ca W (ev C (.byc i c a b)) σ H Q -> tC X.kw X.lc ca W (ev C a) σ H Q \/ tC X.kw X.lc ca W (ev C b) σ H Q := fun ⟨φ, S, ρ, z, h⟩ => by
  rw [one] at h
  split at h
  ·exact .inl ⟨φ, S, ρ, z, h⟩
  ·exact .inr ⟨φ, S, ρ, z, h⟩
 have three : ∀ {σ : L2.St} {H : Hp} {Q : Bool -> Hp -> Prop}, tT X.kw X.lc ca W (ev C (.byc i c a b)) σ H Q -> tT X.kw X.lc ca W (ev C a) σ H Q \/ tT X.kw X.lc ca W (ev C b) σ H Q := fun ⟨φ, S, ρ, z, h⟩ => by
  rw [one] at h
  split at h
  ·exact .inl ⟨φ, S, ρ, z, h⟩
  ·exact .inr ⟨φ, S, ρ, z, h⟩
 exact ⟨⟨fun pins s σ H Q I q => (two q).elim (fun q => ha.pe.run pins s σ H Q I q) fun q => hb.pe.run pins s σ H Q I q⟩,
  ⟨fun pins s σ H Q I q => (three q).elim (fun q => ha.pt.run pins s σ H Q I q) fun q => hb.pt.run pins s σ H Q I q⟩,
  fun op vs pos z => ⟨fun wh pins s σ H Q I q => (three q).elim (fun q => (ha.pw op vs pos z).run wh pins s σ H Q I q) fun q => (hb.pw op vs pos z).run wh pins s σ H Q I q⟩⟩
theorem Z9z {n : Nat} (ih : Snd p C ca k n) : ∀ ks W X e m, Good p C ca k ks W X -> okE p (n + 1) ks e m = true -> SE ca C W X e m := by
 intro ks W X e m g h
 cases m with
 | cst d =>
  simp only [okE] at h
  split at h
  ·exact Z1f h
  ·cases h
 | var i =>
  simp only [okE] at h
  split at h
  ·simp only [Qaa, Qab] at h
   exact Z1g g h.1.1 h.1.2 h.2
  ·cases h
 | glb y d =>
  simp only [okE] at h
  split at h
  ·simp only [Qaa, Qab] at h
   obtain ⟨⟨⟨rfl, h2⟩, h3⟩, h4⟩ := h
   split at h4
   ·rename_i d' hd
    have := Zul _ _ h4
    subst this
    exact Z1j g hd h2 h3
   ·cases h4
  ·cases h
 | bin o a b =>
  simp only [okE] at h
  split at h
  ·simp only [Qaa, Qab] at h
   obtain ⟨⟨rfl, h2⟩, h3⟩ := h
   exact Z1k (ih.e _ _ _ _ _ g h2) (ih.e _ _ _ _ _ g h3)
  ·cases h
 | neg a =>
  simp only [okE] at h
  split at h
  ·simp only [Qaa, Qab] at h
   obtain ⟨rfl, h2⟩ := h
   exact Z1m (ih.e _ _ _ _ _ g h2)
  ·cases h
 | nt a =>
  simp only [okE] at h
  split at h
  ·simp only [Qaa, Qab] at h
   obtain ⟨rfl, h2⟩ := h
   exact Z9f (ih.e _ _ _ _ _ g h2)
  ·cases h
 | cmp o a b =>
  simp only [okE] at h
  split at h
  ·simp only [Qaa, Qab, Qav] at h
   obtain ⟨⟨⟨rfl, h2⟩, h3⟩, h4⟩ := h
   exact Z1l g (ih.r _ _ _ _ _ g h2) (ih.r _ _ _ _ _ g h3) h4
  ·cases h
 | and a b =>
  simp only [okE] at h
  split at h
  ·simp only [Qaa, Qab] at h
   obtain ⟨⟨rfl, h2⟩, h3⟩ := h
   exact Zum (ih.e _ _ _ _ _ g h2) (ih.b _ _ _ _ _ _ _ g h3)
  ·cases h
 | or a b =>
  simp only [okE] at h
  split at h
  ·simp only [Qaa, Qab] at h
   obtain ⟨⟨rfl, h2⟩, h3⟩ := h
   exact Z1n (ih.e _ _ _ _ _ g h2) (ih.b _ _ _ _ _ _ _ g h3)
  ·cases h
 | ife c a b =>
  simp only [okE] at h
  split at h
  ·simp only [Qaa] at h
   exact Z1q (ih.e _ _ _ _ _ g h.1.1) (ih.e _ _ _ _ _ g h.1.2) (ih.e _ _ _ _ _ g h.2)
  ·cases h
 | tup ms =>
  simp only [okE] at h
  split at h
  ·exact Z1r (ih.a _ _ _ _ _ g h).1
  ·cases h
 | sub a i =>
  simp only [okE] at h
  split at h
  ·simp only [Qaa] at h
   exact Z1s g (ih.r _ _ _ _ _ g h.1.1) (ih.e _ _ _ _ _ g h.1.2) h.2
  ·cases h
 | slc a lo hi =>
  simp only [okE] at h
  split at h
  ·simp only [Qaa] at h
   exact Z1t (ih.e _ _ _ _ _ g h.1.1) (ih.o _ _ _ _ _ g h.1.2) (ih.o _ _ _ _ _ g h.2)
  ·cases h
 | call f ms =>
  simp only [okE] at h
  split at h
  ·simp only [Qaa, Qab] at h
   obtain ⟨⟨⟨⟨⟨h1, h2⟩, h3⟩, h4⟩, h6⟩, h5⟩ := h
   obtain ⟨a1, a2⟩ := ih.a _ _ _ _ _ g h5
   exact Zwo g a1 a2 (Zaq h5) h1 h2 h3 h4 h6
  ·cases h
 | blt f ms =>
  simp only [okE] at h
  split at h
  ·rename_i es _
   simp only [Qaa, Qab] at h
   obtain ⟨⟨⟨⟨rfl, h2⟩, h3⟩, h4⟩, h5⟩ := h
   cases es with
   | nil => simp at h5
   | cons e es => exact Z1v g (ih.rs _ _ _ _ _ g h4) (Zd9 h4) h2
  ·cases h
 | rev a =>
  simp only [okE] at h
  split at h
  ·simp only [Qaa] at h
   obtain ⟨j, p1, p2, rfl⟩ := Zx3 h.2
   exact Z1u (ih.e _ _ _ _ _ g h.1)
  ·cases h
 | mth f o ms =>
  simp only [okE] at h
  split at h
  ·simp only [Qaa, Qab] at h
   obtain ⟨⟨⟨⟨⟨rfl, h2⟩, h3⟩, h4⟩, h5⟩, h6⟩ := h
   obtain ⟨a1, a2⟩ := ih.a _ _ _ _ _ g h3
   exact Z1w g (ih.r _ _ _ _ _ g h2) a1 a2 (Zaq h3) h4 h5 h6
  ·cases h
 | dget o k d =>
  simp only [okE] at h
  split at h
  ·simp only [Qaa, Qab] at h
   obtain ⟨⟨⟨⟨⟨⟨⟨rfl, h2⟩, h3⟩, h4⟩, h5⟩, h6⟩, h7⟩, h8⟩ := h
   refine Zwq g (ih.r _ _ _ _ _ g h2) (ih.e _ _ _ _ _ g h3) (ih.e _ _ _ _ _ g h4) h5 h6 h7 h8 ?_
   rw [Zak h5, Zak h6]; rfl
  ·cases h
 | isi a t =>
  simp only [okE] at h
  split at h
  ·simp only [Qaa, Qab] at h
   obtain ⟨⟨⟨⟨⟨rfl, rfl⟩, h2⟩, h3⟩, h4⟩, h5⟩ := h
   exact Z1y g (ih.e _ _ _ _ _ g h5) h4 h2 h3
  ·cases h
 | frz o =>
  simp only [okE] at h
  obtain ⟨a, b⟩ := ih.ob _ _ _ _ _ g h
  exact Z1z a b
 | sto o =>
  simp only [okE] at h
  obtain ⟨a, b⟩ := ih.ob _ _ _ _ _ g h
  exact Z10 a b
 | fld c o f =>
  simp only [okE] at h
  split at h
  ·simp only [Qaa, Qab] at h
   obtain ⟨⟨⟨rfl, h2⟩, h3⟩, h4⟩ := h
   exact Z2g g (ih.e _ _ _ _ _ g h2) h3 h4
  ·cases h
 | meth c o m d ms =>
  simp only [okE] at h
  split at h
  ·simp only [Qaa, Qab] at h
   obtain ⟨⟨⟨⟨⟨⟨⟨rfl, h2⟩, h3⟩, h4⟩, h5⟩, h6⟩, h7⟩, h8⟩ := h
   obtain ⟨a1, a2⟩ := ih.a _ _ _ _ _ g h3
   exact Zw3 g (ih.e _ _ _ _ _ g h2) a1 a2 (Zaq h3) h4 h5 h6 h7 (by simpa using h8)
  ·cases h
 | metC c o m d ms =>
  simp only [okE] at h
  split at h
  ·simp only [Qaa, Qab, Qav] at h
   obtain ⟨⟨⟨⟨⟨⟨h1, h2⟩, h3⟩, h4⟩, h5⟩, rfl⟩, h7⟩ := h
   split at h1
   ·exact Zr1 g (ih.a _ _ _ _ _ g h4).1 h5 (Zaq h4) (Qau h1) h2 h3 h7
   ·cases h1
  ·cases h
 | opI c op a b d =>
  simp only [okE] at h
  split at h
  ·simp only [Qaa, Bool.or_eq_true, Qab] at h
   obtain ⟨⟨⟨⟨rfl, h2⟩, h3⟩, h4⟩, h5⟩ := h
   exact Z2h g (ih.e _ _ _ _ _ g h3) (ih.e _ _ _ _ _ g h4) h2 h5
  ·cases h
 | isC c a =>
  simp only [okE] at h
  split at h
  ·simp only [Qaa, Qab] at h
   obtain ⟨⟨⟨⟨⟨⟨⟨rfl, rfl⟩, h3⟩, h4⟩, h5⟩, h6⟩, h7⟩, h8⟩ := h
   exact Z2i g (ih.e _ _ _ _ _ g h7) h6 h3 h4 h5 h8
  ·cases h
 | isiI c a t =>
  simp only [okE] at h
  split at h
  ·simp only [Qaa, Bool.or_eq_true, Qab] at h
   obtain ⟨⟨⟨⟨⟨⟨⟨rfl, rfl⟩, ht⟩, h3⟩, h4⟩, h6⟩, h7⟩, h8⟩ := h
   exact Zw6 g (ih.e _ _ _ _ _ g h7) h6 h3 h4 ht h8
  ·cases h
 | prp c o m d =>
  simp only [okE] at h
  split at h
  ·simp only [Qaa, Qab] at h
   obtain ⟨⟨⟨rfl, h3⟩, h4⟩, h5⟩ := h
   exact Z2j g (ih.e _ _ _ _ _ g h3) h4 h5
  ·cases h
 | lenM c o d =>
  simp only [okE] at h
  split at h
  ·simp only [Qaa, Qab] at h
   obtain ⟨⟨⟨⟨rfl, h2⟩, h3⟩, h4⟩, h5⟩ := h
   exact Zw7 g (ih.e _ _ _ _ _ g h4) h3 h2 h5
  ·cases h
 | eqI c neg a d b =>
  simp only [okE] at h
  split at h
  ·simp only [Qaa, Qab] at h
   obtain ⟨⟨⟨h1, h2⟩, h3⟩, h4⟩ := h
   exact Z2o g (ih.e _ _ _ _ _ g h2) (ih.e _ _ _ _ _ g h3) h1 h4
  ·cases h
 | conI c neg a b d =>
  simp only [okE] at h
  split at h
  ·simp only [Qaa, Qab] at h
   obtain ⟨⟨⟨⟨h1, h2⟩, h3⟩, h4⟩, h5⟩ := h
   exact Zxp g (ih.e _ _ _ _ _ g h2) (ih.e _ _ _ _ _ g h3) (by simpa using h5) h1 h4
  ·cases h
 | idxI c a d b =>
  simp only [okE] at h
  split at h
  ·simp only [Qaa, Qab] at h
   obtain ⟨⟨⟨h1, h2⟩, h3⟩, h4⟩ := h
   exact Zxg g (ih.e _ _ _ _ _ g h1) (ih.e _ _ _ _ _ g h2) h3 h4
  ·cases h
 | strI c a d =>
  simp only [okE] at h
  split at h
  ·simp only [Qaa, Qab] at h
   obtain ⟨⟨⟨⟨rfl, h2⟩, h3⟩, h4⟩, h5⟩ := h
   exact Zxh g (ih.e _ _ _ _ _ g h4) h3 h2 h5
  ·cases h
 | fpc a =>
  simp only [okE] at h
  split at h
  ·simp only [Qaa, Qab] at h
   obtain ⟨rfl, h2⟩ := h
   exact Z2p g (ih.e _ _ _ _ _ g h2)
  ·cases h
 | fstr ms =>
  simp only [okE] at h
  split at h
  ·simp only [Qaa, Qab] at h
   obtain ⟨⟨⟨h1, h2⟩, h3⟩, h4⟩ := h
   exact Zxl g h1 h2 h3 (All2.of (fun e m q => ih.e _ _ _ _ _ g q) h4)
  ·cases h
 | mkx c fs ms =>
  simp only [okE] at h
  split at h
  ·simp only [Qaa, Qab, Qa1] at h
   obtain ⟨⟨⟨⟨⟨rfl, h2⟩, h3⟩, h4⟩, h5⟩, y, hy, ⟨e1, e2⟩, e3⟩ := h
   obtain ⟨a1, a2⟩ := ih.a _ _ _ _ _ g h4
   exact Z2r g a1 a2 (Zaq h4) h2 h3 h5 ⟨y, hy, e1, e2, e3⟩
  ·cases h
 | fldX c fs o f =>
  simp only [okE] at h
  split at h
  ·simp only [Qaa, Qab, Qa1] at h
   obtain ⟨⟨⟨⟨rfl, h2⟩, h3⟩, h4⟩, y, hy, ⟨e1, e2⟩, e3⟩ := h
   exact Zxu g (ih.e _ _ _ _ _ g h2) h3 h4 ⟨y, hy, e1, e2, e3⟩
  ·cases h
 | isXo c al subs e =>
  simp only [okE] at h
  split at h
  ·rw [Qaa, Qaa] at h
   obtain ⟨⟨h, hc⟩, hal⟩ := h
   simp only [Qaa, Qab] at h
   obtain ⟨⟨⟨⟨⟨⟨rfl, rfl⟩, h3⟩, h4⟩, h5⟩, h6⟩, h7⟩ := h
   obtain ⟨z, hz, ez⟩ := Qa1.mp hc
   refine Zxw g (ih.e _ _ _ _ _ g h7) h6 h3 h4 h5 ⟨z, hz, Qau ez⟩ fun q hq => ?_
   obtain ⟨z2, hz2, e2⟩ := Qa1.mp (Qap.mp hal q hq)
   simp only [Qaa, Qab] at e2
   exact ⟨z2, hz2, e2.1.1.1, e2.1.1.2, e2.1.2, e2.2⟩
  ·cases h
 | isXt ts tup al subs e =>
  simp only [okE] at h
  split at h
  ·rw [Qaa, Qaa, Qaa] at h
   obtain ⟨⟨⟨h, ht⟩, hne⟩, hal⟩ := h
   simp only [Qaa, Qab] at h
   obtain ⟨⟨⟨rfl, h2⟩, h3⟩, h4⟩ := h
   have hal' : ∀ q ∈ al, ∃ z ∈ p.xs, z.c = q /\ z.up.contains "!" = true /\ subs.contains q = ts.any z.up.contains := fun q hq => by
    obtain ⟨z2, hz2, e2⟩ := Qa1.mp (Qap.mp hal q hq)
    simp only [Qaa, Qab] at e2
    exact ⟨z2, hz2, e2.1.1, e2.1.2, e2.2⟩
   have mgn : ∀ T ∈ ixT, X.mg T = none := fun T hT => by
    cases al with
    | nil => cases hne
    | cons q al =>
     obtain ⟨z, hz, _, z1, _⟩ := hal' q Qag
     obtain ⟨B, hB, TT⟩ := g.ex z hz
     exact ((TT.iv z1).2.2 T hT).1
   split at ht
   ·simp only [Qaa, Qab, Qaz] at ht
    obtain ⟨⟨rfl, t2⟩, t3⟩ := ht
    refine Zr7 g (ih.e _ _ _ _ _ g h4) h3 h2 t2 t3 (mgn _ t3) fun q hq => ?_
    obtain ⟨z, hz, z1, z2, z3⟩ := hal' q hq
    exact ⟨z, hz, z1, z2, by simpa using z3⟩
   ·simp only [Qaa, Qab, Qaz] at ht
    obtain ⟨⟨⟨⟨rfl, t2⟩, t3⟩, t4⟩, t5⟩ := ht
    refine Zr8 g (ih.e _ _ _ _ _ g h4) h3 h2 t2 t3 (mgn _ t3) t4 t5 (mgn _ t5) fun q hq => ?_
    obtain ⟨z, hz, z1, z2, z3⟩ := hal' q hq
    exact ⟨z, hz, z1, z2, by simpa using z3⟩
   ·cases ht
  ·cases h
 | clsm c m d ms =>
  simp only [okE] at h
  split at h
  ·simp only [Qaa, Qab, Qav] at h
   obtain ⟨⟨⟨⟨⟨⟨⟨⟨rfl, rfl⟩, h3⟩, h4⟩, h5⟩, h6⟩, h7⟩, h8⟩, h9⟩ := h
   exact Zxj g (ih.a _ _ _ _ _ g h5).1 h6 (Zaq h5) h3 h4 h7 h8 h9
  ·cases h
 | makV i c ini ms =>
  simp only [okE] at h
  split at h
  ·simp only [Qaa, Qab, Qav] at h
   obtain ⟨⟨⟨⟨⟨h1, h2⟩, h3⟩, h4⟩, h5⟩, h6⟩ := h
   exact Zxk g (ih.a _ _ _ _ _ g h4).1 h5 (Zaq h4) h1 h2 h3 h6
  ·cases h
 | make c ini ms =>
  simp only [okE] at h
  split at h
  ·simp only [Qaa, Qab] at h
   obtain ⟨⟨⟨⟨rfl, h2⟩, h3⟩, h4⟩, h5⟩ := h
   obtain ⟨a1, a2⟩ := ih.a _ _ _ _ _ g h4
   exact Zw8 g a1 a2 (Zaq h4) h2 h3 h5
  ·cases h
 | callL f as =>
  simp only [okE] at h
  split at h
  ·simp only [Qaa, Qab, Qav] at h
   obtain ⟨⟨⟨⟨⟨⟨⟨⟨rfl, h1⟩, h2⟩, h3⟩, h4⟩, h5⟩, h6⟩, h7⟩, h8⟩ := h
   exact Zsd g (ih.ms _ _ _ _ _ g h6).1 h7 (Zcx h6) h1 h2 h3 h4 h5 h8
  ·cases h
 | methL c o m d as =>
  simp only [okE] at h
  split at h
  ·simp only [Qaa, Qab, Qav] at h
   obtain ⟨⟨⟨⟨⟨⟨⟨⟨⟨⟨rfl, h1⟩, h2⟩, h3⟩, h4⟩, h5⟩, h6⟩, h7⟩, h8⟩, h9⟩, h10⟩ := h
   exact Zsf g (ih.e _ _ _ _ _ g h2) (ih.ms _ _ _ _ _ g h3).1 h7 (Zcx h3) h4 h5 h6 h1 h8 h9 h10
  ·cases h
 | callc i xs as =>
  simp only [okE] at h
  split at h
  ·simp only [Qaa, Qab] at h
   obtain ⟨⟨⟨⟨⟨⟨h1, h2⟩, h3⟩, h4⟩, h5⟩, h6⟩, h7⟩ := h
   exact Zsh g (ih.ms _ _ _ _ _ g h5).1 (ih.ms _ _ _ _ _ g h5).2 (Zcx h5) h1 h2 h3 h4 h7
  ·cases h
 | byc i c a b =>
  simp only [okE, Qaa] at h
  exact Z3a (ih.e _ _ _ _ _ g h.1) (ih.e _ _ _ _ _ g h.2)
 | isK c al subs e => simp [okE] at h
 | sup cs m d es => simp [okE] at h
theorem snd : ∀ n, Snd p C ca k n
 | 0 => by
  constructor
  ·exact fun _ _ _ _ _ _ h => by simp [okE] at h
  ·exact fun _ _ _ _ _ _ h => by simp [okR] at h
  ·exact fun _ _ _ _ _ _ h => by simp [Zi5] at h
  ·exact fun _ _ _ _ _ _ _ _ _ _ _ _ _ _ _ h => by simp [Znc] at h
  ·exact fun _ _ _ _ _ _ _ _ _ _ _ _ _ _ _ h => by simp [Z0p] at h
  ·exact fun _ _ _ _ _ _ _ _ h => by simp [Z0q] at h
  ·exact fun _ _ _ _ _ _ _ _ h => by simp [okB] at h
  ·exact fun _ _ _ _ _ _ h => by simp [Zev] at h
  ·exact fun _ _ _ _ _ _ h => by simp [Zkj] at h
  ·exact fun _ _ _ _ _ _ h => by simp [okO] at h
  ·exact fun _ _ _ _ _ _ h => by simp [okA] at h
  ·exact fun _ _ _ _ _ _ h => by simp [Zjk] at h
  ·exact fun _ _ _ _ _ _ _ _ h => by simp [okI] at h
 | n + 1 => ⟨Z9z (snd n), Z9y (snd n), Z27 (snd n), Z25 (snd n), Z26 (snd n), Z24 (snd n), Z9w (snd n), Z9u (snd n), Z23 (snd n), Z9v (snd n), Z28 (snd n), Z29 (snd n), Z9x (snd n)⟩
end
end My
namespace My
open PySem PySem.Spec PyProof.Rows L2
variable [CP] [TC]
structure En where
 φ : Nat -> Addr
 S : Store
 H : Hp
section
variable (K : KW) (L : LC) (ca : CA) (W : WX) (E : En)
structure AtE (φ : Nat -> Addr) (S : Store) (ρ : Ev) (σ : L2.St) (H : Hp) : Prop extends At K L φ S ρ σ H where
 st : Step E.φ E.S E.H φ S H
 fr : ∀ (j : Nat) (ob : O) (b : Addr), ρ[j]? = some (.o ob) -> σ[j]? = some (some (.ref b)) -> E.H b = none
def Zfy (φ : Nat -> Addr) (S : Store) (H : Hp) (D : Ends) (fl : Fl) (S' : Store) : Prop := match fl with
 | .nx ρ => ∀ φ' H' σ', Sub φ S.nx H φ' S'.nx H' -> AtE K L E φ' S' ρ σ' H' -> D.nx σ' H'
 | .rt d => ∀ φ' H' v, Step E.φ E.S E.H φ' S' H' -> RelS K φ' S' H' -> RV K φ' S'.nx H' d v -> D.rt v H'
 | .bk ρ => ∀ φ' H' σ', Sub φ S.nx H φ' S'.nx H' -> AtE K L E φ' S' ρ σ' H' -> D.bk σ' H'
 | .ct ρ => ∀ φ' H' σ', Sub φ S.nx H φ' S'.nx H' -> AtE K L E φ' S' ρ σ' H' -> D.ct σ' H'
def Zco (φ : Nat -> Addr) (S : Store) (H : Hp) (x : Xn × Ev) (S' : Store) : Prop := ∀ φ' H' σ' cls dd, Sub φ S.nx H φ' S'.nx H' -> AtE K L E φ' S' x.2 σ' H' -> RX ca K φ' S'.nx H' x.1 cls dd -> W cls dd σ' H'
def tS (c : Ev -> Store -> RS) : TS := fun D σ H => ∃ φ S ρ, AtE K L E φ S ρ σ H /\ (c ρ S).wp (Zfy K L E φ S H D) (Zco K L ca W E φ S H)
end
abbrev SS (ca : CA) (C : Cl) (W : WX) (X : Cx) (E : En) (st : Stmt) (m : MS) : Prop := PS X st (tS X.kw X.lc ca W E (Zae C m))
abbrev SB (ca : CA) (C : Cl) (W : WX) (X : Cx) (E : En) (sts : List Stmt) (m : MS) : Prop := PSs X sts (tS X.kw X.lc ca W E (Zae C m))
section
variable {K : KW} {L : LC} {ca : CA} {W : WX} {C : Cl} {X : Cx} {E : En} {φ φ1 : Nat -> Addr} {S S1 : Store} {H H1 : Hp} {ρ : Ev} {σ : L2.St} {Dn : Ends}
theorem Zfy.sub {fl : Fl} {S' : Store} (st : Sub φ S.nx H φ1 S1.nx H1) (h : Zfy K L E φ S H Dn fl S') : Zfy K L E φ1 S1 H1 Dn fl S' := by
 cases fl with
 | nx ρ => exact fun φ' H' σ' st' => h φ' H' σ' (st.trans st')
 | rt d => exact h
 | bk ρ => exact fun φ' H' σ' st' => h φ' H' σ' (st.trans st')
 | ct ρ => exact fun φ' H' σ' st' => h φ' H' σ' (st.trans st')
theorem Zco.sub {x : Xn × Ev} {S' : Store} (st : Sub φ S.nx H φ1 S1.nx H1) (h : Zco K L ca W E φ S H x S') : Zco K L ca W E φ1 S1 H1 x S' := fun φ' H' σ' cls dd st' => h φ' H' σ' cls dd (st.trans st')
theorem AtE.step (a : AtE K L E φ S ρ σ H) (st : Step φ S H φ1 S1 H1) (r : RelS K φ1 S1 H1) : AtE K L E φ1 S1 ρ σ H1 := ⟨a.toAt.step st r, a.st.trans st, a.fr⟩
theorem Zco.toX (a : AtE K L E φ S ρ σ H) {x : Xn} {S' : Store} (h : Zco K L ca W E φ S H (x, ρ) S') : Zck K ca φ S H (fun cls dd H' => W cls dd σ H') x S' := fun φ' H' cls dd st r rx => h φ' H' σ cls dd (st.sub a.rel) (a.step st r) rx
theorem PS.mono {st : Stmt} {t t' : TS} (h : PS X st t) (q : ∀ D σ H, t' D σ H -> t D σ H) : PS X st t' := ⟨fun pins s σ H D I z => h.run pins s σ H D I (q D σ H z)⟩
theorem PSs.mono {st : List Stmt} {t t' : TS} (h : PSs X st t) (q : ∀ D σ H, t' D σ H -> t D σ H) : PSs X st t' := ⟨fun pins s σ H D I z => h.run pins s σ H D I (q D σ H z)⟩
theorem Zdv {α β γ : Type} {rel : (Nat -> Addr) -> Nat -> Hp -> α -> β -> Prop} {c : Ev -> Store -> R Xn α} {g : α -> Store -> R (Xn × Ev) γ} {P : γ -> Store -> Prop} {Q : β -> Hp -> Prop} (a : AtE K L E φ S ρ σ H) (h : (((c ρ S).mapE fun x => (x, ρ)).bind g).wp P (Zco K L ca W E φ S H))
  (k : ∀ d S1 φ1 H1 x, Step φ S H φ1 S1 H1 -> Sub φ S.nx H φ1 S1.nx H1 -> AtE K L E φ1 S1 ρ σ H1 -> rel φ1 S1.nx H1 d x -> (g d S1).wp P (Zco K L ca W E φ1 S1 H1) -> Q x H1) : tG K L ca W rel c σ H Q := by
 rw [R.wp_bind, R.wp_mapE] at h
 exact ⟨φ, S, ρ, a.toAt, R.wp_mono h (fun d S1 hg φ1 H1 x st r rv => k d S1 φ1 H1 x st (st.sub a.rel) (a.step st r) rv (R.wp_mono hg (fun _ _ z => z) fun _ _ z => z.sub (st.sub a.rel))) fun _ _ z => z.toX a⟩
theorem Zo5 {γ : Type} {c : Ev -> Store -> R Xn O} {g : O -> Store -> R (Xn × Ev) γ} {P : γ -> Store -> Prop} {Q : VK} (a : AtE K L E φ S ρ σ H) (h : (((c ρ S).mapE fun x => (x, ρ)).bind g).wp P (Zco K L ca W E φ S H))
  (k : ∀ o S1 φ1 H1 b, Step φ S H φ1 S1 H1 -> Sub φ S.nx H φ1 S1.nx H1 -> AtE K L E φ1 S1 ρ σ H1 -> Own K φ1 S1.nx H1 o b -> H b = none -> (g o S1).wp P (Zco K L ca W E φ1 S1 H1) -> Q (.ref b) H1) : tO K L ca W c σ H Q := by
 rw [R.wp_bind, R.wp_mapE] at h
 exact ⟨φ, S, ρ, a.toAt, R.wp_mono h (fun d S1 hg φ1 H1 x st r ow hn => k d S1 φ1 H1 x st (st.sub a.rel) (a.step st r) ow hn (R.wp_mono hg (fun _ _ z => z) fun _ _ z => z.sub (st.sub a.rel))) fun _ _ z => z.toX a⟩
theorem Z3b {γ : Type} {c : Ev -> Store -> RD} {g : D -> Store -> R (Xn × Ev) γ} {P : γ -> Store -> Prop} {Q : Bool -> Hp -> Prop} (a : AtE K L E φ S ρ σ H) (h : (((c ρ S).mapE fun x => (x, ρ)).bind g).wp P (Zco K L ca W E φ S H))
  (hb : ∀ d S1, (∀ b, d ≠ .bl b) -> g d S1 = .bad)
  (k : ∀ b S1 φ1 H1, Sub φ S.nx H φ1 S1.nx H1 -> AtE K L E φ1 S1 ρ σ H1 -> (g (.bl b) S1).wp P (Zco K L ca W E φ1 S1 H1) -> Q b H1) : tT K L ca W c σ H Q := by
 rw [R.wp_bind, R.wp_mapE] at h
 refine ⟨φ, S, ρ, a.toAt, R.wp_mono h (fun d S1 hg => ?_) fun _ _ z => z.toX a⟩
 cases d with
 | bl b => exact ⟨b, rfl, fun φ1 H1 st r => k b S1 φ1 H1 (st.sub a.rel) (a.step st r) (R.wp_mono hg (fun _ _ z => z) fun _ _ z => z.sub (st.sub a.rel))⟩
 | _ => rw [hb _ _ (fun b => by simp)] at hg; exact hg.elim
theorem Zjs {c : Ev -> Store -> RS} {P : Fl -> Store -> Prop} {D' : Ends} (a : AtE K L E φ S ρ σ H) (h : (c ρ S).wp P (Zco K L ca W E φ S H)) (k : ∀ fl S', P fl S' -> Zfy K L E φ S H D' fl S') : tS K L ca W E c D' σ H :=
 ⟨φ, S, ρ, a, R.wp_mono h k fun _ _ z => z⟩
theorem Zx4 {pos : Pos} : SS ca C W X E (.Pass pos) .skip := PS.mono ps_pass fun D σ H ⟨φ, S, ρ, a, h⟩ => by
 simp only [Zae] at h
 exact h φ H σ .refl a
theorem Z3c {pos : Pos} : SS ca C W X E (.Break pos) .brk := PS.mono ps_break fun D σ H ⟨φ, S, ρ, a, h⟩ => by
 simp only [Zae] at h
 exact h φ H σ .refl a
theorem Z3d {pos : Pos} : SS ca C W X E (.Continue pos) .ctn := PS.mono ps_continue fun D σ H ⟨φ, S, ρ, a, h⟩ => by
 simp only [Zae] at h
 exact h φ H σ .refl a
theorem Z3e : SB ca C W X E [] .skip := PSs.mono pss_nil fun D σ H ⟨φ, S, ρ, a, h⟩ => by
 simp only [Zae] at h
 exact h φ H σ .refl a
theorem Zx5 {st : Stmt} {r : List Stmt} {m m' : MS} (h1 : SS ca C W X E st m) (h2 : SB ca C W X E r m') : SB ca C W X E (st :: r) (.seq m m') := by
 refine PSs.mono (pss_cons h1 h2) fun D σ H ⟨φ, S, ρ, a, h⟩ => ?_
 simp only [Zae] at h
 rw [R.wp_bind] at h
 refine Zjs a h fun fl S' hq => ?_
 cases fl with
 | nx ρ' => exact fun φ' H' σ' st' a' => ⟨φ', S', ρ', a', R.wp_mono hq (fun _ _ z => z.sub st') fun _ _ z => z.sub st'⟩
 | rt d => exact hq
 | bk ρ' => exact hq
 | ct ρ' => exact hq
theorem Zx6 {e : Expr} {m : ME} {pos : Pos} (he : SE ca C W X e m) (hn : Zb5 e = true) : SS ca C W X E (.Expr e pos) (.expr m) := by
 refine PS.mono (ps_expr he.pe (by cases e <;> first | rfl | cases hn)) fun D σ H ⟨φ, S, ρ, a, h⟩ => ?_
 simp only [Zae] at h
 exact Zdv a h fun d S1 φ1 H1 x _ st1 a1 rx h1 => h1 φ1 H1 σ st1 a1
theorem Z3f {e : Expr} {m : ME} {pos : Pos} (he : SE ca C W X e m) : SS ca C W X E (.Return (some e) pos) (.ret m) := by
 refine PS.mono (ps_ret he.pe) fun D σ H ⟨φ, S, ρ, a, h⟩ => ?_
 simp only [Zae] at h
 exact Zdv a h fun d S1 φ1 H1 x _ st1 a1 rx h1 => h1 φ1 H1 x a1.st a1.rel rx
theorem Z3g {c : Expr} {a b : List Stmt} {mc : ME} {ma mb : MS} {pos : Pos} (hc : SE ca C W X c mc) (ha : SB ca C W X E a ma) (hb : SB ca C W X E b mb) : SS ca C W X E (.If c a b pos) (.ife mc ma mb) := by
 refine PS.mono (ps_if hc.pt ha hb) fun D σ H ⟨φ, S, ρ, a, h⟩ => ?_
 simp only [Zae] at h
 refine Z3b a h (fun d S1 hd => by cases d <;> first | rfl | exact absurd rfl (hd _)) fun b S1 φ1 H1 st1 a1 h1 => ?_
 cases b with
 | true => exact iteT (Zjs a1 h1 fun fl S' z => z.sub st1)
 | false => exact iteF (Zjs a1 h1 fun fl S' z => z.sub st1)
end
section
variable {K : KW} {L : LC} {E : En} {φ φ1 : Nat -> Addr} {S S1 : Store} {H H1 : Hp} {ρ : Ev} {σ : L2.St}
theorem AtE.setV (a : AtE K L E φ S ρ σ H) {i : Nat} {d : D} {v : V} (h : RV K φ S.nx H d v) : AtE K L E φ S (ρ.set i (.v d)) (σ.set i (some v)) H := by
 refine ⟨⟨a.rel, a.env.set h⟩, a.st, fun j ob b e1 e2 => ?_⟩
 rcases Zal e1 with ⟨rfl, _, z⟩ | ⟨ne, e1⟩
 ·cases z
 ·rw [Qaq ne] at e2
  exact a.fr j ob b e1 e2
theorem AtE.setO (a : AtE K L E φ S ρ σ H) {i : Nat} {o : O} {b : Addr} (h : Own K φ S.nx H o b) (ne : ∀ (j : Nat) (o' : O), j ≠ i -> ρ[j]? = some (.o o') -> σ[j]? ≠ some (some (.ref b))) (hn : E.H b = none) : AtE K L E φ S (ρ.set i (.o o)) (σ.set i (some (.ref b))) H := by
 refine ⟨⟨a.rel, a.env.put (x := .o o) ⟨b, rfl, h⟩ fun _ _ => ne⟩, a.st, fun j ob b' e1 e2 => ?_⟩
 rcases Zal e1 with ⟨rfl, hl, _⟩ | ⟨nj, e1⟩
 ·rw [Qa3 (by rw [<- a.env.len]; exact hl)] at e2
  cases e2
  exact hn
 ·rw [Qaq nj] at e2
  exact a.fr j ob b' e1 e2
theorem At.new_ne (a : At K L φ S ρ σ H) {b : Addr} (hn : H b = none) (j : Nat) (o' : O) (h : ρ[j]? = some (.o o')) : σ[j]? ≠ some (some (.ref b)) := fun z => by
 obtain ⟨c, e, ⟨u, hu, _⟩, _⟩ := a.env.own j o' h
 rw [z] at e; cases e
 rw [hn] at hu; cases hu
theorem Step.none (st : Step φ S H φ1 S1 H1) {b : Addr} (h : H1 b = none) : H b = none := by
 cases z : H b with
 | none => rfl
 | some u =>
  obtain ⟨u', z'⟩ := st.trk b u z
  rw [h] at z'; cases z'
theorem AtE.chg (a : AtE K L E φ S ρ σ H) {j : Nat} {ob ob' : O} {b : Addr} {u u' : HO} (hj : ρ[j]? = some (.o ob)) (hv : σ[j]? = some (some (.ref b))) (hp : H b = some u) (m : Mut (some u)) (off : ∀ i, i < S.nx -> φ i ≠ b) (hu : RU K φ S.nx H b ob' u') :
  AtE K L E φ S (ρ.set j (.o ob')) σ (upd H b u') /\ Sub φ S.nx H φ S.nx (upd H b u') := by
 have sb : Sub φ S.nx H φ S.nx (upd H b u') := Zbc hp m
 have e := a.env.chg (o' := u') hj hv hp m
 have hl : j < ρ.length := (Qay.mp hj).1
 have e2 := e.put (i := j) (x := .o ob') (v := .ref b) ⟨b, rfl, ⟨u', upd_same, hu.sub sb⟩, off⟩ fun _ _ k o' hk h1 h2 => by
  rcases Zal h1 with ⟨rfl, _, z⟩ | ⟨_, h1⟩
  ·cases z
  ·exact a.env.inj k j o' ob (.ref b) hk h1 hj h2 hv
 have es : σ.set j (some (.ref b)) = σ := by
  apply List.ext_getElem?
  intro i
  by_cases hi : j = i
  ·subst hi; rw [Qa3 (by rw [<- a.env.len]; exact hl), hv]
  ·rw [Qaq hi]
 rw [List.set_set, es] at e2
 refine ⟨⟨⟨a.rel.chg hp m off, e2⟩, a.st.aside (a.fr j ob b hj hv), fun k o' b' h1 h2 => ?_⟩, sb⟩
 rcases Zal h1 with ⟨rfl, _, _⟩ | ⟨_, h1⟩
 ·rw [hv] at h2; cases h2
  exact a.fr _ ob b hj hv
 ·exact a.fr k o' b' h1 h2
theorem AtE.frz (a : AtE K L E φ S ρ σ H) {j : Nat} {ob : O} {b : Addr} {u : HO} {od : Obj} (hj : ρ[j]? = some (.o ob)) (hv : σ[j]? = some (some (.ref b))) (hp : H b = some u) (hu : RU K φ S.nx H b ob u) (off : ∀ i, i < S.nx -> φ i ≠ b) :
  AtE K L E φ S (ρ.set j (.v ob.rd)) σ (upd H b (.frz od u)) /\ Sub φ S.nx H φ S.nx (upd H b (.frz od u)) := by
 have m := hu.mut
 have sb : Sub φ S.nx H φ S.nx (upd H b (.frz od u)) := Zbc hp m
 have e := a.env.chg (o' := .frz od u) hj hv hp m
 have hl : j < ρ.length := (Qay.mp hj).1
 have rv : RV K φ S.nx (upd H b (.frz od u)) ob.rd (.ref b) := by
  cases ob with
  | lst ds => obtain ⟨vs, rfl, rs⟩ := hu; exact .wl upd_same (rs.sub sb)
  | dK ds => obtain ⟨vs, rfl, rs⟩ := hu; exact .wd upd_same (rs.sub sb)
  | dT ds => obtain ⟨vs, rfl, q, rs⟩ := hu; exact .wT upd_same (q.sub sb) (rs.sub sb)
  | ins c fs => exact hu.elim
 have e2 := e.set (i := j) rv
 have es : σ.set j (some (.ref b)) = σ := by
  apply List.ext_getElem?
  intro i
  by_cases hi : j = i
  ·subst hi; rw [Qa3 (by rw [<- a.env.len]; exact hl), hv]
  ·rw [Qaq hi]
 rw [List.set_set, es] at e2
 refine ⟨⟨⟨a.rel.chg hp m off, e2⟩, a.st.aside (a.fr j ob b hj hv), fun k o' b' h1 h2 => ?_⟩, sb⟩
 rcases Zal h1 with ⟨rfl, _, z⟩ | ⟨_, h1⟩
 ·cases z
 ·exact a.fr k o' b' h1 h2
theorem AtE.forget (a : AtE K L E φ S ρ σ H) (i : Nat) : AtE K L E φ S (ρ.set i .no) σ H := by
 refine ⟨⟨a.rel, ⟨by simpa using a.env.len, fun j d q => ?_, fun j o q => ?_, fun j k o o' w hjk q q' z z' => ?_, fun j y cs q => ?_, fun j y is q => ?_⟩⟩, a.st, fun j o b q z => ?_⟩
 ·rcases Zal q with ⟨rfl, _, z⟩ | ⟨_, q⟩
  ·cases z
  ·exact a.env.at_ j d q
 ·rcases Zal q with ⟨rfl, _, z⟩ | ⟨_, q⟩
  ·cases z
  ·exact a.env.own j o q
 ·rcases Zal q with ⟨rfl, _, y⟩ | ⟨_, q⟩
  ·cases y
  ·rcases Zal q' with ⟨rfl, _, y⟩ | ⟨_, q'⟩
   ·cases y
   ·exact a.env.inj j k o o' w hjk q q' z z'
 ·rcases Zal q with ⟨rfl, _, z⟩ | ⟨_, q⟩
  ·cases z
  ·exact a.env.clo j y cs q
 ·rcases Zal q with ⟨rfl, _, z⟩ | ⟨_, q⟩
  ·cases z
  ·exact a.env.df j y is q
 ·rcases Zal q with ⟨rfl, _, y⟩ | ⟨_, q⟩
  ·cases y
  ·exact a.fr j o b q z
theorem AtE.wipe (a : AtE K L E φ S ρ σ H) : ∀ vs, AtE K L E φ S (Zaw ρ vs) σ H
 | [] => a
 | v :: vs => (AtE.wipe a vs).forget v
theorem AtE.setVs (a : AtE K L E φ S ρ σ H) : ∀ {is : List Nat} {ds : List D} {vs : List V}, RVs K φ S.nx H ds vs -> AtE K L E φ S (setAll is (ds.map .v) ρ) (My.setVs is vs σ) H := by
 intro is
 induction is generalizing ρ σ with
 | nil => intro ds vs _; exact a
 | cons i is ih =>
  intro ds vs h
  cases h with
  | nil => exact a
  | cons h t => exact ih (a.setV h) t
end
section
variable {p : Pg} {C : Cl} {ca : CA} {k : Nat} {ks : Ks} {W : WX} {X : Cx} {tg : Expr} {E : En}
theorem Zjt {env : Env} {tg : Expr} (h : Zah tg = true) : (assignEach [tg] env).map (·.2) = [assign tg env] := by
 cases tg <;> first | rfl | cases h
theorem Zg4 {t : MT} (h : okT p ks tg t = true) : Zah tg = true := by
 cases tg <;> first | rfl | (cases t <;> simp [okT, Zig] at h)
def gE (K : KW) (L : LC) (E : En) (t : MT) : TG := fun v σ H Q => ∃ φ S ρ d ρ', AtE K L E φ S ρ σ H /\ RV K φ S.nx H d v /\ putT t d ρ = some ρ' /\ ∀ σ', AtE K L E φ S ρ' σ' H -> Q σ' H
theorem sgE (g : Good p C ca k ks W X) {t : MT} (h : okT p ks tg t = true) : PG X tg (gE X.kw X.lc E t) := by
 unfold okT at h
 split at h
 ·rename_i i
  refine PG.mono (Zrv g h) fun v σ H Q ⟨φ, S, ρ, d, ρ', a, rv, e, q⟩ => ?_
  cases e
  exact q _ (a.setV rv)
 ·rename_i is
  split at h
  ·obtain ⟨r1, r2, r3⟩ := Zg2 g h
   refine PG.mono (Z18 g.calm r1 r2 r3) fun v σ H Q ⟨φ, S, ρ, d, ρ', a, rv, e, q⟩ => ?_
   cases rv with
   | wl hx rs =>
    simp only [putT] at e
    split at e
    ·rename_i hl
     cases e
     have hl' := hl.trans rs.length.symm
     exact .inr ⟨_, _, rfl, SqL.rd (.inr ⟨_, hx⟩), hl'.symm, hl'.symm, q _ (a.setVs rs)⟩
    ·cases e
   | tup hx rs =>
    simp only [putT] at e
    split at e
    ·rename_i hl
     cases e
     have hl' := hl.trans rs.length.symm
     exact .inl ⟨_, _, rfl, hx.sq, hl'.symm, hl'.symm, q _ (a.setVs rs)⟩
    ·cases e
   | kt hx rs =>
    simp only [putT] at e
    split at e
    ·rename_i hl
     cases e
     have hl' := hl.trans rs.length.symm
     exact .inl ⟨_, _, rfl, SqT.of hx, hl'.symm, hl'.symm, q _ (a.setVs rs)⟩
    ·cases e
   | _ => cases e
  ·cases h
theorem Zk4 {m : ME} {t : MT} {D : Ends} {σ : L2.St} {H : Hp} (h : tS X.kw X.lc ca W E (Zae C (.asg t m)) D σ H) : tAsg (tC X.kw X.lc ca W (ev C m)) (gE X.kw X.lc E t) D σ H := by
 obtain ⟨φ, S, ρ, a, h⟩ := h
 simp only [Zae] at h
 refine Zdv a h fun d S1 φ1 H1 x _ st1 a1 rx h1 => ?_
 split at h1
 ·rename_i ρ' hp
  exact ⟨φ1, S1, ρ, d, ρ', a1, rx, hp, fun σ' a' => h1 φ1 H1 σ' st1 a'⟩
 ·exact h1.elim
theorem Zo6 {t : MT} {e : Expr} (ht : okT p ks tg t = true) (hs : (Zc7 tg && Zc7 e) = false) : swappedStores [tg] e X.env = pure none := by
 have l : ∀ (tg e : Expr), okT p ks tg t = true -> (Zc7 tg && Zc7 e) = false -> swappedStores [tg] e X.env = pure none := by
  intro tg e ht hs
  cases tg <;> first
   | rfl
   | (exfalso; cases t <;> simp [okT, Zig] at ht; done)
   | (cases e <;> first | rfl | cases hs)
 exact l tg e ht hs
theorem Z3h (g : Good p C ca k ks W X) {e : Expr} {m : ME} {t : MT} {pos : Pos} (he : SE ca C W X e m) (ht : okT p ks tg t = true) (hn : Zb5 e = true) (hs : (Zc7 tg && Zc7 e) = false) : SS ca C W X E (.Assign [tg] e pos) (.asg t m) :=
 PS.mono (ps_asg he.pe (sgE g ht) (by cases e <;> first | rfl | cases hn) (Zo6 ht hs) (Zjt (Zg4 ht))) fun D σ H h => Zk4 h
theorem Zo7 {φ φ1 : Nat -> Addr} {S S1 : Store} {H H1 : Hp} {ρ : Ev} {σ : L2.St} {o : O} {b : Addr} {i : Nat} (a : AtE X.kw X.lc E φ S ρ σ H) (a1 : AtE X.kw X.lc E φ1 S1 ρ σ H1) (ow : Own X.kw φ1 S1.nx H1 o b) (hn : H b = none) : AtE X.kw X.lc E φ1 S1 (ρ.set i (.o o)) (σ.set i (some (.ref b))) H1 :=
 a1.setO ow (fun j o' _ hj => a.toAt.new_ne hn j o' hj) (a.st.none hn)
theorem Z3i (g : Good p C ca k ks W X) {e : Expr} {m : MO} {i : Nat} {pos : Pos} (he : SOb ca C W X e m) (ht : Zig p ks tg i = true) (hn : Zb5 e = true) : SS ca C W X E (.Assign [tg] e pos) (.new i m) := by
 have ht' : okT p ks tg (.nm i) = true := ht
 have hs : (Zc7 tg && Zc7 e) = false := by
  cases tg <;> first | rfl | (simp [Zig] at ht)
 refine PS.mono (ps_asg he (Zrv g ht) (by cases e <;> first | rfl | cases hn) (Zo6 ht' hs) (Zjt (Zg4 ht'))) fun D σ H ⟨φ, S, ρ, a, h⟩ => ?_
 simp only [Zae] at h
 exact Zo5 a h fun o S1 φ1 H1 b _ st1 a1 ow hn h1 => h1 φ1 H1 _ st1 (Zo7 a a1 ow hn)
theorem Zx7 (g : Good p C ca k ks W X) {o i e : Expr} {mo mi me : ME} {p1 pos : Pos} (ho : SE ca C W X o mo) (hi : SE ca C W X i mi) (he : SE ca C W X e me) (hn : Zb5 e = true) (hsl : Zfd i = true) : SS ca C W X E (.Assign [.Subscript o i p1] e pos) (.setI mo mi me) := by
 refine PS.mono (ps_asg he.pe (pg_sub ho.pe hi.pe (Zuj g.u10) (by intro v; cases i <;> first | rfl | cases hsl)) (by cases e <;> first | rfl | cases hn) rfl rfl) fun D σ H ⟨φ, S, ρ, a, h⟩ => ?_
 simp only [Zae] at h
 refine Zdv a h fun d S1 φ1 H1 x s1 st1 a1 rx h1 => Zdv a1 h1 fun d2 S2 φ2 H2 y s2 st2 a2 ry h2 => Zdv a2 h2 fun d3 S3 φ3 H3 z s3 st3 a3 rz h3 => ?_
 split at h3
 ·rename_i r
  split at h3
  ·rename_i ob' hob
   simp only [Qak] at hob
   obtain ⟨ob, eo, es⟩ := hob
   have ry := ry.mono a2.rel s3
   cases ry with
   | ref hr =>
    obtain ⟨u, hu, ru⟩ := a3.rel.obj r ob eo
    refine ⟨φ3, S3, φ3 r, ob, u, d3, d, ob', a3.rel, rfl, hu, ru.u (Zq6 es), rz, (rx.mono a1.rel s2).mono a2.rel s3, es, fun u' ru' => ?_⟩
    obtain ⟨r4, st4⟩ := a3.rel.put eo ru'.s
    exact h3 φ3 _ σ (st1.trans (st2.trans (st3.trans (st4.sub a3.rel)))) (a3.step st4 r4)
  ·exact h3.elim
 ·exact h3.elim
theorem Zx8 (g : Good p C ca k ks W X) {x : Str} {px : Pos} {j : Nat} {i e : Expr} {mi me : ME} {p1 pos : Pos} (h1 : p.N[j]? = some x) (h2 : ks.vis x = true) (h3 : Zac x = true) (hi : SE ca C W X i mi) (he : SE ca C W X e me) (hn : Zb5 e = true) (hsl : Zfd i = true) : SS ca C W X E (.Assign [.Subscript (.Name x px) i p1] e pos) (.setN j mi me) := by
 have ho := pe_var (X := X) (i := j) (pos := px) (by rw [g.N]; exact h1) (g.vis h2) (Zad h3) (Zat h3)
 refine PS.mono (ps_asg he.pe (pg_sub ho hi.pe (Zuj g.u10) (by intro v; cases i <;> first | rfl | cases hsl)) (by cases e <;> first | rfl | cases hn) rfl rfl) fun D σ H ⟨φ, S, ρ, a, h⟩ => ?_
 simp only [Zae] at h
 refine Zdv a h fun d S1 φ1 H1 x s1 st1 a1 rx h1 => ?_
 split at h1
 ·rename_i ob hj
  obtain ⟨b, hv, _⟩ := a1.env.own j ob hj
  refine ⟨_, hv, ?_⟩
  refine Zdv a1 h1 fun d3 S3 φ3 H3 z s3 st3 a3 rz h3 => ?_
  split at h3
  ·rename_i ob' es
   obtain ⟨b', hv', ⟨u, hu, ru⟩, off⟩ := a3.env.own j ob hj
   rw [hv] at hv'; cases hv'
   refine ⟨φ3, S3, b, ob, u, d3, d, ob', a3.rel, rfl, hu, ru, rz, rx.mono a1.rel s3, es, fun u' ru' => ?_⟩
   obtain ⟨a4, sb⟩ := a3.chg hj hv hu ru.mut off ru'
   exact h3 φ3 _ σ (st1.trans (st3.trans sb)) a4
  ·exact h3.elim
 ·exact h1.elim
theorem Zim : typeOf (.builtin "list.insert") = pure (.type "method_descriptor") := by
 show builtinType _ = _
 rw [builtinType_eq_fast]
 kernel_rfl
theorem Z3j (g : Good p C ca k ks W X) {x : Str} {px : Pos} {j : Nat} {f : Uf} {e : Expr} {es : List Expr} {ms : List ME} {ap cp pos : Pos} (h1 : p.N[j]? = some x) (h2 : ks.vis x = true) (h3 : Zac x = true) (ha : SA ca C W X (e :: es) ms) (hst : Zaa (e :: es) = true) (hl : ap.endLine = cp.line) (hz : (e :: es).length < 30) :
  SS ca C W X E (.Expr (.Call (.Attribute (.Name x px) (ufN f) ap) (e :: es) [] cp) pos) (.mut j f ms) := by
 have ho := pe_var (X := X) (i := j) (pos := px) (by rw [g.N]; exact h1) (g.vis h2) (Zad h3) (Zat h3)
 have hf := Zei (X := X) (cp := cp) hst hz
 have hline : (ap.endLine == cp.line) = true := by simpa using hl
 have ok := Zuh (X := X) g.u10 f
 rw [Zaa, Qas, Qaa] at hst
 have rd : ∀ D σ H, tS X.kw X.lc ca W E (Zae C (.mut j f ms)) D σ H -> tBG X (ufT f) (rMu X.kw f) (tVar j) (tG X.kw X.lc ca W (RVs X.kw) (evs C ms)) σ H fun _ H1 => D.nx σ H1 := fun D σ H ⟨φ, S, ρ, a, h⟩ => by
  simp only [Zae] at h
  split at h
  ·rename_i ob hj
   split at h
   ·rename_i ty
    obtain ⟨b, hv, ⟨u, hu, ru⟩, off⟩ := a.env.own j ob hj
    refine ⟨_, hv, Zui hu ru ty, ?_⟩
    refine Zdv a h fun ds S1 φ1 H1 vs s1 st1 a1 rs h1 => ?_
    split at h1
    ·rename_i ob' em
     obtain ⟨b', hv', ⟨u, hu, ru⟩, off⟩ := a1.env.own j ob hj
     rw [hv] at hv'; cases hv'
     refine ⟨φ1, S1, b, ob, u, ds, ob', a1.rel, rfl, hu, ru, rs, em, fun _ u' ru' => ?_⟩
     obtain ⟨a4, sb⟩ := a1.chg hj hv hu ru.mut off ru'
     exact h1 φ1 _ σ (st1.trans sb) a4
    ·exact h1.elim
   ·exact h.elim
  ·exact h.elim
 cases f with
 | append => exact PS.mono (ps_expr (Zc6 PySem.F.plainAttrs_list PySem.F.slot_list_append PySem.F.type_list_append ok ho ha rfl hf hline (Zak hst.1 es) (Zab _ hst.2)) rfl) rd
 | extend => exact PS.mono (ps_expr (Zc6 PySem.F.plainAttrs_list PySem.F.slot_list_extend PySem.F.type_list_extend ok ho ha rfl hf hline (Zak hst.1 es) (Zab _ hst.2)) rfl) rd
 | update => exact PS.mono (ps_expr (Zc6 PySem.F.plainAttrs_dict PySem.F.slot_dict_update PySem.F.type_dict_update ok ho ha rfl hf hline (Zak hst.1 es) (Zab _ hst.2)) rfl) rd
 | pop => exact PS.mono (ps_expr (Zc6 PySem.F.plainAttrs_dict PySem.F.slot_dict_pop PySem.F.type_dict_pop ok ho ha rfl hf hline (Zak hst.1 es) (Zab _ hst.2)) rfl) rd
 | insert => exact PS.mono (ps_expr (Zc6 PySem.F.plainAttrs_list F.slot_list_insert Zim ok ho ha rfl hf hline (Zak hst.1 es) (Zab _ hst.2)) rfl) rd
theorem Zx9 (g : Good p C ca k ks W X) {o : Expr} (hsup : Zcb o = true) {mo : ME} {f : Uf} {e : Expr} {es : List Expr} {ms : List ME} {ap cp pos : Pos} (ho : SE ca C W X o mo) (ha : SA ca C W X (e :: es) ms) (hst : Zaa (e :: es) = true) (hl : ap.endLine = cp.line) (hz : (e :: es).length < 30) :
  SS ca C W X E (.Expr (.Call (.Attribute o (ufN f) ap) (e :: es) [] cp) pos) (.mutS mo f ms) := by
 have hb : ∀ nm, attributeBase o nm X.env (eval o X.env) = eval o X.env := fun nm => Zbz hsup _
 have hf := Zei (X := X) (cp := cp) hst hz
 have hline : (ap.endLine == cp.line) = true := by simpa using hl
 have ok := Zuh (X := X) g.u10 f
 rw [Zaa, Qas, Qaa] at hst
 have rd : ∀ D σ H, tS X.kw X.lc ca W E (Zae C (.mutS mo f ms)) D σ H -> tBG X (ufT f) (rMu X.kw f) (tC X.kw X.lc ca W (ev C mo)) (tG X.kw X.lc ca W (RVs X.kw) (evs C ms)) σ H fun _ H1 => D.nx σ H1 := fun D σ H ⟨φ, S, ρ, a, h⟩ => by
  simp only [Zae] at h
  refine Zdv a h fun d S1 φ1 H1 y s1 st1 a1 ry h1 => ?_
  split at h1
  ·rename_i r
   split at h1
   ·rename_i ob eo
    split at h1
    ·rename_i ty
     have ey := ry.refE
     obtain ⟨u, hu, ru⟩ := a1.rel.obj r ob eo
     subst ey
     refine ⟨Zui hu (ru.u (Zq7 ty)) ty, ?_⟩
     refine Zdv a1 h1 fun ds S2 φ2 H2 vs s2 st2 a2 rs h2 => ?_
     split at h2
     ·rename_i ob' em
      simp only [Qak] at em
      obtain ⟨ob2, eo2, em⟩ := em
      have e2 := (ry.mono a1.rel s2).refE
      obtain ⟨u2, hu2, ru2⟩ := a2.rel.obj r ob2 eo2
      refine ⟨φ2, S2, φ2 r, ob2, u2, ds, ob', a2.rel, e2, hu2, ru2.u (Zq8 em), rs, em, fun _ u' ru' => ?_⟩
      obtain ⟨r4, st4⟩ := a2.rel.put eo2 ru'.s
      exact h2 φ2 _ σ (st1.trans (st2.trans (st4.sub a2.rel))) (a2.step st4 r4)
     ·exact h2.elim
    ·exact h1.elim
   ·exact h1.elim
  ·exact h1.elim
 cases f with
 | append => exact PS.mono (ps_expr (Zc6 PySem.F.plainAttrs_list PySem.F.slot_list_append PySem.F.type_list_append ok ho.pe ha (hb _) hf hline (Zak hst.1 es) (Zab _ hst.2)) rfl) rd
 | extend => exact PS.mono (ps_expr (Zc6 PySem.F.plainAttrs_list PySem.F.slot_list_extend PySem.F.type_list_extend ok ho.pe ha (hb _) hf hline (Zak hst.1 es) (Zab _ hst.2)) rfl) rd
 | update => exact PS.mono (ps_expr (Zc6 PySem.F.plainAttrs_dict PySem.F.slot_dict_update PySem.F.type_dict_update ok ho.pe ha (hb _) hf hline (Zak hst.1 es) (Zab _ hst.2)) rfl) rd
 | pop => exact PS.mono (ps_expr (Zc6 PySem.F.plainAttrs_dict PySem.F.slot_dict_pop PySem.F.type_dict_pop ok ho.pe ha (hb _) hf hline (Zak hst.1 es) (Zab _ hst.2)) rfl) rd
 | insert => exact PS.mono (ps_expr (Zc6 PySem.F.plainAttrs_list F.slot_list_insert Zim ok ho.pe ha (hb _) hf hline (Zak hst.1 es) (Zab _ hst.2)) rfl) rd
theorem Zmw {S S' : Store} {c f : Str} {v x : D} (h : Zq2 S c f v x = some S') : ∃ r fs, x = .ref r /\ S.get r = some (.ins c fs) /\ fs.length < 1000 /\ S' = S.put r (.ins c (Zl9 f v fs)) := by
 unfold Zq2 at h
 split at h
 ·split at h
  ·rename_i r _ c' fs e
   split at h
   ·rename_i ec
    obtain ⟨rfl, hl⟩ := ec
    cases h
    exact ⟨r, fs, rfl, e, hl, rfl⟩
   ·cases h
  ·cases h
 ·cases h
theorem Zya (g : Good p C ca k ks W X) {o e : Expr} {mo me : ME} {c f : Str} {p1 pos : Pos} (ho : SE ca C W X o mo) (he : SE ca C W X e me) (hc : Z0k p.cs c f = true) : SS ca C W X E (.Assign [.Attribute o f p1] e pos) (.setF c mo f me) := by
 obtain ⟨x, hx, rfl, hf⟩ := Zkq hc
 obtain ⟨B, T⟩ := g.cl x hx
 refine PS.mono (ps_fld ho.pe he.pe (by cases e <;> rfl)) fun D σ H ⟨φ, S, ρ, a, h⟩ => ?_
 simp only [Zae] at h
 refine Zdv a h fun d S1 φ1 H1 v s1 st1 a1 rv h1 => Zdv a1 h1 fun d2 S2 φ2 H2 y s2 st2 a2 ry h2 => ?_
 split at h2
 ·rename_i S' es
  obtain ⟨r, fs, rfl, e1, hl, rfl⟩ := Zmw es
  obtain ⟨dd, vs, hu, rf⟩ := Zbm a2.rel e1 T.ns
  have ey := ry.refE
  subst ey
  refine ⟨_, B, dd, vs, rfl, hu, T.cl, T.no f hf, by rw [rf.length]; exact hl, ?_⟩
  obtain ⟨r4, st4⟩ := a2.rel.put (o := .ins x.c (Zl9 f d fs)) (o' := .ins B dd (putF f v vs)) e1 ⟨B, dd, _, T.ns, rfl, rf.put (rv.mono a1.rel s2)⟩
  exact h2 φ2 _ σ (st1.trans (st2.trans (st4.sub a2.rel))) (a2.step st4 r4)
 ·exact h2.elim
theorem Zyb {st : Stmt} : SS ca C W X E st .stop := ⟨fun pins s σ H D I ⟨φ, S, ρ, a, h⟩ => by
 simp only [Zae] at h
 exact h.elim⟩
theorem Z90 {sts : List Stmt} {j : Nat} {m : MS} (h : SB ca C W X E sts m) : SB ca C W X E sts (.seq (.fz j) m) := by
 constructor
 rintro pins s σ H D I ⟨φ, S, ρ, a, w⟩
 simp only [Zae] at w
 split at w
 ·rename_i ob hj
  obtain ⟨b, hv, ⟨u, hu, ru⟩, off⟩ := a.env.own j ob hj
  obtain ⟨od, I2⟩ := I.lock hu ru.mut
  obtain ⟨a2, sb⟩ := a.frz (od := od) hj hv hu ru off
  exact h.run pins s σ _ D I2 ⟨φ, S, _, a2, R.wp_mono w (fun _ _ z => z.sub sb) fun _ _ z => z.sub sb⟩
 ·exact w.elim
theorem Zyc {sts : List Stmt} {vs : List Nat} {m : MS} (h : SB ca C W X E sts m) : SB ca C W X E sts (.seq (.wipe vs) m) := by
 constructor
 rintro pins s σ H D I ⟨φ, S, ρ, a, w⟩
 simp only [Zae] at w
 exact h.run pins s σ _ D I ⟨φ, S, _, a.wipe vs, w⟩
theorem Z3k {sts : List Stmt} {j : Nat} {m1 m2 : MS} (h1 : SB ca C W X E sts m1) (h2 : SB ca C W X E sts m2) : SB ca C W X E sts (.alt j m1 m2) := by
 constructor
 rintro pins s σ H D I ⟨φ, S, ρ, a, w⟩
 simp only [Zae] at w
 split at w
 ·exact h1.run pins s σ _ D I ⟨φ, S, _, a, w⟩
 ·exact h2.run pins s σ _ D I ⟨φ, S, _, a, w⟩
end
end My
namespace My
open PySem PySem.Spec PyProof.Rows L2
variable [CP] [TC]
section
variable {p : Pg} {C : Cl} {ca : CA} {k : Nat} {ks : Ks} {W : WX} {X : Cx} {tg : Expr} {E : En}
noncomputable def Zg5 (C : Cl) (t : MT) (b : MS) (d : D) (ρ : Ev) (S : Store) : RS := match putT t d ρ with
 | some ρ' => Zae C b ρ' S
 | none => .bad
omit [CP] [TC] in
theorem Zk5 {t : MT} {it : MI} {b : MS} {ρ : Ev} {S : Store} : Zae C (.for_ t it b) ρ S = ((evi C it ρ S).mapE fun x => (x, ρ)).bind fun q S => Zet (Zg5 C t b) q ρ S := by
 simp only [Zae]
 rfl
theorem Z3l (g : Good p C ca k ks W X) (hp : PassesOwn (model X.prog X.w) X.A X.env X.xe) {iter : Expr} {body : List Stmt} {t : MT} {it : MI} {b : MS} {pos : Pos} (hi : SI ca C W X tg iter it) (hs : Zbx iter = true) (ht : okT p ks tg t = true) (hb : SB ca C W X E body b) :
  SS ca C W X E (.For tg iter body [] pos) (.for_ t it b) := by
 refine PS.mono (ps_for hp g.calm hi (sgE (E := E) g ht) hb (Zbu hs)) fun D σ H ⟨φ, S, ρ, a, h⟩ => ?_
 rw [Zk5, R.wp_bind, R.wp_mapE] at h
 refine ⟨φ, S, ρ, a.toAt, R.wp_mono h (fun q S1 hq φ1 H1 J st1 r1 ⟨G, Y, wk, itk⟩ => ?_) fun _ _ z => z.toX a⟩
 have sb1 := st1.sub a.rel
 refine for_it wk (fun i σ' H' => ∃ φ2 S2 ρ2, Sub φ1 S1.nx H1 φ2 S2.nx H' /\ AtE X.kw X.lc E φ2 S2 ρ2 σ' H' /\ (Zet (Zg5 C t b) (q.drop i) ρ2 S2).wp (Zfy X.kw X.lc E φ S H D) (Zco X.kw X.lc ca W E φ S H)) ?_ ?_ ?_ ?_
 ·exact ⟨φ1, S1, ρ, .refl, a.step st1 r1, hq⟩
 ·rintro i σ' H' _ ⟨φ2, S2, ρ2, sb2, a2, w⟩
  exact (itk φ2 S2 H' sb2 a2.rel).1
 ·rintro i x σ' Hc H' hlt ⟨φ2, S2, ρ2, sb2, a2, w⟩ hy
  obtain ⟨d, hd, hH⟩ := (itk φ2 S2 Hc sb2 a2.rel).2 i x H' hlt hy
  have hdrop : q.drop i = d :: q.drop (i + 1) := by
   obtain ⟨hl, e⟩ := Qay.mp hd
   rw [Qbk hl, e]
  obtain ⟨r3, st3, rv⟩ : RelS X.kw φ2 S2 H' /\ Step φ2 S2 Hc φ2 S2 H' /\ RV X.kw φ2 S2.nx H' d x := by
   rcases hH with ⟨rfl, rv⟩ | ⟨T, ws, hT, rfl, rv⟩
   ·exact ⟨a2.rel, a2.rel.refl, rv⟩
   ·obtain ⟨r3, st3⟩ := a2.rel.lay (o' := .tup ws) hT
    exact ⟨r3, st3, rv⟩
  have sb13 := sb2.trans (st3.sub a2.rel)
  have a3 := a2.step st3 r3
  rw [hdrop] at w
  unfold Zet at w
  rw [R.wp_bind] at w
  unfold Zg5 at w
  split at w
  ·rename_i ρ' hpt
   refine ⟨φ2, S2, ρ2, d, ρ', a3, rv, hpt, fun σ3 a4 => ⟨φ2, S2, ρ', a4, R.wp_mono w (fun fl S4 h4 => ?_) fun e S4 h4 => h4.sub (sb1.trans sb13)⟩⟩
   cases fl with
   | nx ρ4 => exact fun φ4 H4 σ4 st4 a4 => ⟨φ4, S4, ρ4, sb13.trans st4, a4, h4⟩
   | ct ρ4 => exact fun φ4 H4 σ4 st4 a4 => ⟨φ4, S4, ρ4, sb13.trans st4, a4, h4⟩
   | bk ρ4 => exact fun φ4 H4 σ4 st4 a4 => h4 φ4 H4 σ4 (sb1.trans (sb13.trans st4)) a4
   | rt d4 => exact h4
  ·exact w.elim
 ·rintro σ' Hn ⟨φ2, S2, ρ2, sb2, a2, w⟩
  rw [List.drop_length] at w
  unfold Zet at w
  exact w φ2 Hn σ' (sb1.trans sb2) a2
theorem Z3m (g : Good p C ca k ks W X) (hp : PassesOwn (model X.prog X.w) X.A X.env X.xe) {c : Expr} {body : List Stmt} {n : Nat} {mc : ME} {b : MS} {pos : Pos} (hc : SE ca C W X c mc) (hb : SB ca C W X E body b) :
  SS ca C W X E (.While c body [] pos) (.whl n mc b) := by
 refine PS.mono (ps_while hp hc.pt hb) fun D σ H ⟨φ, S, ρ, a, h⟩ => ?_
 simp only [Zae] at h
 refine ⟨fun m σ' H' => ∃ φ2 S2 ρ2, Sub φ S.nx H φ2 S2.nx H' /\ AtE X.kw X.lc E φ2 S2 ρ2 σ' H' /\ (Zt4 (fun ρ S => (ev C mc ρ S).mapE fun x => (x, ρ)) (fun ρ S => Zae C b ρ S) m ρ2 S2).wp (Zfy X.kw X.lc E φ S H D) (Zco X.kw X.lc ca W E φ S H), ⟨n, φ, S, ρ, .refl, a, h⟩, ?_⟩
 rintro m σ' H' ⟨φ2, S2, ρ2, st2, a2, w⟩
 cases m with
 | zero => exact w.elim
 | succ m =>
  unfold Zt4 at w
  rw [R.wp_bind, R.wp_mapE] at w
  refine ⟨φ2, S2, ρ2, a2.toAt, R.wp_mono w (fun d S3 h3 => ?_) fun x S' z => (z.sub st2).toX a2⟩
  cases d with
  | bl bb =>
   refine ⟨bb, rfl, fun φ3 H3 st3 r3 => ?_⟩
   have a3 := a2.step st3 r3
   have st23 := st2.trans (st3.sub a2.rel)
   cases bb with
   | true =>
    refine iteT ⟨_, fun σ4 H4 z => ⟨m, Nat.lt_succ_self m, z⟩, ?_⟩
    have h3 : ((Zae C b ρ2 S3).bind _).wp _ _ := h3
    rw [R.wp_bind] at h3
    refine ⟨φ3, S3, ρ2, a3, R.wp_mono h3 (fun fl S4 h4 => ?_) fun _ _ z => z.sub st23⟩
    cases fl with
    | nx ρ4 => exact fun φ4 H4 σ4 st4 a4 => ⟨φ4, S4, ρ4, st23.trans st4, a4, h4⟩
    | ct ρ4 => exact fun φ4 H4 σ4 st4 a4 => ⟨φ4, S4, ρ4, st23.trans st4, a4, h4⟩
    | bk ρ4 => exact fun φ4 H4 σ4 st4 a4 => h4 φ4 H4 σ4 (st23.trans st4) a4
    | rt d4 => exact h4
   | false => exact iteF (h3 φ3 H3 σ' st23 a3)
  | _ => exact h3.elim
theorem Z3n (g : Good p C ca k ks W X) {y : Str} {py spos : Pos} {i : Nat} {elt iter : Expr} {ifs : List Expr} {scope : Scope} {pos : Pos} {vs : List Nat} {t : MT} {it : MI} {c : Option ME} {m : ME} (hy : p.N[i]? = some y) (hyl : ks.sc.names.lookup y = some .local)
  (hl : py.line = pos.line) (ha : (scope.names.any fun (n, k) => n == y && (k == .local || k == .cell)) = false)
  (hi : SI ca C W X tg iter it) (hs : Zbx iter = true) (hv : (Zax p scope vs).map (·.2) = vs) (hb : blkC p.N ks.sc scope (Zax p scope vs) = true) (ht : okT p (ks.blk scope) tg t = true) (hin : Zd2 t vs = true)
  (hc : ∀ X', Good p C ca k (ks.blk scope) W0 X' -> X'.kw = X.kw -> PTs X' ifs (tTs X'.kw X'.lc ca C c)) (he : ∀ X', Good p C ca k (ks.blk scope) W0 X' -> SE ca C W0 X' elt m) :
  SS ca C W X E (.Assign [.Name y py] (.ListComp elt [⟨tg, iter, ifs, 0⟩] scope pos) spos) (.new i (.lc vs t it c m)) := by
 refine PS.mono (Z2b g hy hyl hl ha hi hs hv hb ht hin hc he) fun D σ H ⟨φ, S, ρ, a, h⟩ => ?_
 simp only [Zae] at h
 exact Zo5 a h fun o S1 φ1 H1 b _ st1 a1 ow hn h1 => h1 φ1 H1 _ st1 (Zo7 a a1 ow hn)
theorem PS.lk {st : Stmt} {t : TS} (h : PS X st t) : PS X st (fun D => t ⟨fun σ H => D.nx σ H \/ ∃ d u, H d = some u /\ Mut (some u) /\ ∀ od, D.nx σ (upd H d (.frz od u)), D.rt, D.bk, D.ct⟩) := by
 constructor
 intro pins s σ H D I hw
 apply thn (h.run pins s σ H _ I hw)
 intro f s1 q
 match f, q with
 | .next, ⟨σ', H', I2, .inl q⟩ => exact ⟨σ', H', I2, q⟩
 | .next, ⟨σ', H', I2, .inr ⟨d, u, hd, mu, q⟩⟩ =>
  obtain ⟨od, I3⟩ := I2.lock hd mu
  exact ⟨σ', _, I3, q od⟩
 | .brk, q => exact q
 | .cont, q => exact q
 | .ret w, q => exact q
theorem Z3o (g : Good p C ca k ks W X) {y : Str} {py spos : Pos} {i : Nat} {elt iter : Expr} {ifs : List Expr} {scope : Scope} {pos : Pos} {vs : List Nat} {t : MT} {it : MI} {c : Option ME} {m : ME} (hy : p.N[i]? = some y) (hyl : ks.sc.names.lookup y = some .local)
  (hl : py.line = pos.line) (ha : (scope.names.any fun (n, k) => n == y && (k == .local || k == .cell)) = false)
  (hi : SI ca C W X tg iter it) (hs : Zbx iter = true) (hv : (Zax p scope vs).map (·.2) = vs) (hb : blkC p.N ks.sc scope (Zax p scope vs) = true) (ht : okT p (ks.blk scope) tg t = true) (hin : Zd2 t vs = true)
  (hc : ∀ X', Good p C ca k (ks.blk scope) W0 X' -> X'.kw = X.kw -> PTs X' ifs (tTs X'.kw X'.lc ca C c)) (he : ∀ X', Good p C ca k (ks.blk scope) W0 X' -> SE ca C W0 X' elt m) :
  SS ca C W X E (.Assign [.Name y py] (.ListComp elt [⟨tg, iter, ifs, 0⟩] scope pos) spos) (.asg (.nm i) (.frz (.lc vs t it c m))) := by
 refine PS.mono (PS.lk (Z2b g hy hyl hl ha hi hs hv hb ht hin hc he)) fun D σ H ⟨φ, S, ρ, a, h⟩ => ?_
 simp only [Zae, ev, R.wp_bind, R.wp_mapE] at h
 refine ⟨φ, S, ρ, a.toAt, R.wp_mono h (fun o S1 h1 φ1 H1 b st1 r1 ow hn => .inr ?_) fun _ _ z => z.toX a⟩
 obtain ⟨⟨u, hu, ru⟩, off⟩ := ow
 refine ⟨b, u, hu, ru.mut, fun od => ?_⟩
 have sb : Sub φ1 S1.nx H1 φ1 S1.nx (upd H1 b (.frz od u)) := Zbc hu ru.mut
 have a2 : AtE X.kw X.lc E φ1 S1 ρ σ (upd H1 b (.frz od u)) := by
  have a1 := a.step st1 r1
  have st2 := st1.aside (u := .frz od u) hn
  have r2 := r1.chg (o' := .frz od u) hu ru.mut off
  exact a.step st2 r2
 have rv : RV X.kw φ1 S1.nx (upd H1 b (.frz od u)) o.rd (.ref b) := by
  cases o with
  | lst ds => obtain ⟨vs, rfl, rs⟩ := ru; exact .wl upd_same (rs.sub sb)
  | dK ds => obtain ⟨vs, rfl, rs⟩ := ru; exact .wd upd_same (rs.sub sb)
  | dT ds => obtain ⟨vs, rfl, q, rs⟩ := ru; exact .wT upd_same (q.sub sb) (rs.sub sb)
  | ins c fs => exact ru.elim
 exact h1 φ1 _ _ ((st1.sub a.rel).trans sb) (a2.setV rv)
theorem Zo8 {st : Stmt} {i : Nat} {mo : MO} (z : PS X st (fun D σ H => tO X.kw X.lc ca W (evO C mo) σ H fun v H1 => D.nx (σ.set i (some v)) H1)) : SS ca C W X E st (.new i mo) := by
 refine PS.mono z fun D σ H ⟨φ, S, ρ, a, h⟩ => ?_
 simp only [Zae] at h
 exact Zo5 a h fun o S1 φ1 H1 b _ st1 a1 ow hn h1 => h1 φ1 H1 _ st1 (Zo7 a a1 ow hn)
theorem Zo9 {st : Stmt} {i : Nat} {mo : MO} (z : PS X st (fun D σ H => tO X.kw X.lc ca W (evO C mo) σ H fun v H1 => D.nx (σ.set i (some v)) H1)) : SS ca C W X E st (.asg (.nm i) (.frz mo)) := by
 refine PS.mono (PS.lk z) fun D σ H ⟨φ, S, ρ, a, h⟩ => ?_
 simp only [Zae, ev, R.wp_bind, R.wp_mapE] at h
 refine ⟨φ, S, ρ, a.toAt, R.wp_mono h (fun o S1 h1 φ1 H1 b st1 r1 ow hn => .inr ?_) fun _ _ z => z.toX a⟩
 obtain ⟨⟨u, hu, ru⟩, off⟩ := ow
 refine ⟨b, u, hu, ru.mut, fun od => ?_⟩
 have sb : Sub φ1 S1.nx H1 φ1 S1.nx (upd H1 b (.frz od u)) := Zbc hu ru.mut
 have a2 : AtE X.kw X.lc E φ1 S1 ρ σ (upd H1 b (.frz od u)) := a.step (st1.aside (u := .frz od u) hn) (r1.chg (o' := .frz od u) hu ru.mut off)
 have rv : RV X.kw φ1 S1.nx (upd H1 b (.frz od u)) o.rd (.ref b) := by
  cases o with
  | lst ds => obtain ⟨vs, rfl, rs⟩ := ru; exact .wl upd_same (rs.sub sb)
  | dK ds => obtain ⟨vs, rfl, rs⟩ := ru; exact .wd upd_same (rs.sub sb)
  | dT ds => obtain ⟨vs, rfl, q, rs⟩ := ru; exact .wT upd_same (q.sub sb) (rs.sub sb)
  | ins c fs => exact ru.elim
 exact h1 φ1 _ _ ((st1.sub a.rel).trans sb) (a2.setV rv)
end
end My
namespace My
open PySem PySem.Spec PyProof.Rows L2
variable [CP] [TC]
section
variable {r : D -> V -> Prop}
theorem RFs.app : ∀ {xs ys : List (Str × D)} {us vs : List (Str × V)}, RFs r xs us -> RFs r ys vs -> RFs r (xs ++ ys) (us ++ vs)
 | _, _, _, _, .nil, h => h
 | _, _, _, _, .cons a t, h => .cons a (t.app h)
theorem RFs.rev : ∀ {xs : List (Str × D)} {us : List (Str × V)}, RFs r xs us -> RFs r xs.reverse us.reverse
 | _, _, .nil => .nil
 | _, _, .cons a t => by
  rw [List.reverse_cons, List.reverse_cons]
  exact t.rev.app (.cons a .nil)
theorem RFs.look {f : Str} : ∀ {xs : List (Str × D)} {us : List (Str × V)} {d : D}, RFs r xs us -> xs.lookup f = some d -> ∃ v, us.lookup f = some v /\ r d v
 | _, _, _, .nil, h => by cases h
 | _, _, _, .cons (k := k) a t, h => by
  rw [List.lookup_cons] at h ⊢
  split at h
  ·cases h; exact ⟨_, rfl, a⟩
  ·exact t.look h
end
section
variable {K : KW} {L : LC} {φ : Nat -> Addr} {n : Nat} {H : Hp}
theorem Zuv : ∀ {fs : List Str} {ds : List D} {vs : List V}, RVs K φ n H ds vs -> RFs (RV K φ n H) (fs.zip ds) (fs.zip vs)
 | [], _, _, _ => .nil
 | _ :: _, _, _, .nil => .nil
 | _ :: _, _, _, .cons a t => .cons a (Zuv t)
end
section
variable {X : Cx}
theorem Zsk {B : Addr} {bmB : List Value} {T newId initId : String} {x : Str} {p pos : Pos} (F : ExcBaseFacts T newId initId bmB) (q : PySem.W.excIn X.kw B bmB newId = true) (gC : X.mg x = some (.ref B))
  (kC : PySem.W.keepIn X.kw (.ref B) = true) (r : Raises X (.ref B)) (hg : Gl X x) (hdb : (x == ("__debug__" : Str)) = false) : PMk X (.Call (.Name x p) [] [] pos) (fun _ H Q => Q (.ref B) none H) := by
 intro pins s σ H Q I h
 apply wpAny_Call_Name_kw
 apply ld_glob I hg gC _ hdb
 apply PySem.W.callWith_K0 I.kIn kC
 show wpAny _ _ (PySem.call (.ref B) []) _ _ _
 obtain ⟨bm, N, nm, qn, bs, hdct, sn, sub, ab, col, dd, k0, k1, k2, k3, k5, mN, hC, hN, hni, T'⟩ := exc_obj I.kIn q
 exact wpAny_call_exc_subT F T' hC hN hni (fun h' e hm => mk_of I hm r h (I.hok.gone hm.new)) (Qax _)
end
section
variable {p : Pg} {C : Cl} {ca : CA} {k : Nat} {ks : Ks} {W : WX} {X : Cx} {E : En}
theorem Zyd (g : Good p C ca k ks W X) {x : XI} (hx : x ∈ p.xs) {es : List Expr} {ms : List ME} {p1 p2 pos : Pos} (hgl : ks.gl x.c = true) (hpl : Zac x.c = true) (ha : SA ca C W X es ms) (hst : Zaa es = true) (hm : es = [] -> ms = []) (h0 : es.isEmpty = x.fs.isEmpty) :
  SS ca C W X E (.Raise (some (.Call (.Name x.c p1) es [] p2)) none pos) (.rais x.c x.fs ms) := by
 obtain ⟨B, hB, T⟩ := g.ex x hx
 have rs := raises_own (X := X) T.bs T.ty
 rcases T.made with ⟨hf, Tn, newId, initId, bmB, F, q⟩ | ⟨hf, O, fI, fd, st, N, qn, iC, tI, Fn, IT, bd⟩
 ·rw [hf] at h0 ⊢
  have e0 : es = [] := by simpa using h0
  have m0 := hm e0
  subst e0
  subst m0
  refine PS.mono (ps_raise g.calm g.tk (Zsk F q T.gC T.kC rs (g.gl hgl) (Zad hpl))) fun D σ H ⟨φ, S, ρ, a, h⟩ => ?_
  simp only [Zae, evs] at h
  exact h φ H σ _ _ .refl a ⟨B, hB, rfl, .inl ⟨rfl, rfl⟩⟩
 ·cases es with
  | nil =>
   have : x.fs = [] := by simpa using h0.symm
   exact absurd this hf
  | cons e es =>
   rw [Zaa, Qas, Qaa] at hst
   have hr : Room (1 + 1) X.A := g.room.mono (by omega)
   have F1 : FnOk X.prog X.w X.kw X.mg X.base (L2.CX X.prog X.w) 1 fI fd N (spI X.kw x.fs) := Zn9 Fn IT hf T.few
   have ps : Passes (L2.CX X.prog X.w) X (fun _ _ _ => False) := fun pins σ H s e s' I c => g.tk e s' (XE.of_call (W := W) I (fun _ _ _ z => z.elim) c)
   refine PS.mono (ps_raise g.calm g.tk (Zrk O iC tI F1 hr bd .nil ps (g.gl hgl) T.gC ha (Zad hpl) (Zak hst.1 es) (Zab _ hst.2))) fun D σ H ⟨φ, S, ρ, a, h⟩ => ?_
   simp only [Zae] at h
   refine Zdv a h fun ds S1 φ1 H1 vs s1 st1 a1 rv h1 => ?_
   split at h1
   ·rename_i hl
    have hlv : vs.length = x.fs.length := by rw [rv.length]; exact hl
    refine ⟨by have := T.few; omega, fun a0 ha0 => ⟨a0, B, vs ++ [], rfl, by simpa using hlv, O, T.no, upd_same, fun dx H' hdx ne q1 q2 q3 => ⟨rfl, dx, _, q1, q2, ?_, ?_⟩⟩⟩
    ·rw [upd_ne ne] at hdx; exact hdx
    ·rw [upd_ne ne] at hdx
     have eH : upd (L2.del H' a0) dx (.xd (x.fs.zip (vs ++ [])).reverse) = upd H1 dx (.xd (x.fs.zip vs).reverse) := by
      funext b
      by_cases hb : b = dx
      ·rw [hb, upd_same, upd_same, Qa5]
      ·rw [upd_ne hb, upd_ne hb]
       by_cases hb2 : b = a0
       ·rw [hb2, L2.del_same, ha0]
       ·rw [L2.del_ne hb2, q3 b hb2 hb, upd_ne hb2]
     rw [eH]
     obtain ⟨r2, st2⟩ := a1.rel.lay (o' := .xd (x.fs.zip vs).reverse) hdx
     exact h1 φ1 _ σ _ _ (st2.sub a1.rel) (a1.step st2 r2) ⟨B, hB, rfl, .inr ⟨dx, _, rfl, upd_same, (Zuv (rv.mono a1.rel st2)).rev⟩⟩
   ·exact h1.elim
end
end My
namespace My
open PySem PySem.Spec PyProof.Rows L2
variable [CP] [TC]
open PySem.W (kitOne kit_cls Looks) in
theorem Zye {K : PySem.W.Frag} {x t c : Value} {H : Heap -> Prop} (ty : ∀ (M : Model) (h : Heap), H h -> Looks M h (typeOf x) t) (e : kitOne K t c = some true) : Answers (fun s => K.In s.heap /\ H s.heap) x c true := by
 intro dep tk prog w A R s hs
 obtain ⟨h0, g, d, tt, os⟩ := s
 obtain ⟨⟨X, p⟩, hq⟩ := hs
 have LT := ty (model prog w) h0 p
 unfold kitOne at e
 unfold Builtin.«isinstance.nested»
 refine Qac (LT.at ?_)
 by_cases q : (t == c) = true
 ·rw [Qan q]
  first
   | exact Qac (wpAny_rule (hq tt))
   | exact Qac (wpAny_rule (Qah (hq tt)))
 ·rw [Qat q] at e
  rw [Qat q]
  obtain ⟨hty, his, hsub⟩ := kit_cls (M := model prog w) X e
  have LI : Looks (model prog w) h0 (isInstance x c) true := LT.andThen hsub
  refine Qac (hty.at ?_)
  rw [Qan (by decide)]
  k_delta "plainIsInstance"
  refine Qac (Qac (his.at ?_))
  simp only [Bool.not_true, Bool.false_eq_true, if_false]
  refine Qac (LI.at ?_)
  first
   | exact Qah (Qah (hq tt))
   | (simp only [if_true]; first | exact Qah (Qah (hq tt)) | exact Qah (hq tt) | exact Qac (Qah (Qah (hq tt))))
open PySem.W (kitOne Looks) in
theorem Zyf {prog : Program} {w : World} {A : Around} {E : Value -> Shared -> Prop} {s : Shared} {Q : Value -> Shared -> Prop} {K : PySem.W.Frag} {x t c : Value} {H : Heap -> Prop} (ty : ∀ (M : Model) (h : Heap), H h -> Looks M h (typeOf x) t) (X : K.In s.heap) (p : H s.heap) (e : kitOne K t c = some true) (hx : x ≠ .builtin "__main__.__loader__#opaque") (h : ∀ tk, Q (.bool true) { s with toks := tk }) :
  wpAny (model prog w) A (PySem.call (.builtin "isinstance") [x, c]) Q E s :=
 call_isinstance (S := fun _ R s => (K.In s.heap /\ H s.heap) /\ ∀ tk, R (.ok (.ret (.bool true))) { s with toks := tk })
  (fun prog w A R s hs => isinstance_outer (Zye ty e 0 _ prog w A R s hs) hx) ⟨⟨X, p⟩, h⟩
open PySem.W (kitOne Looks) in
theorem Zk6 {X : Cx} {a B B' : Addr} {oe : Obj} {d : Option Addr} {pn : List (Addr × Obj)} (hz : Zc (.ref B) d oe) (hk : kitOne X.kw (.ref B) (.ref B') = some true) :
  CallR (X.suite a ((a, oe) :: pn)) (.builtin "isinstance") (fun xs H Q => xs = [.ref a, .ref B'] /\ Q (.bl true) H) := by
 intro pins s σ H xs us Q I r h
 obtain ⟨rfl, q⟩ := h
 obtain ⟨u1, u2, rfl, r1, r2⟩ := vals2 r
 cases (show u1 = Value.ref a from r1)
 cases (show u2 = Value.ref B' from r2)
 obtain ⟨ha, _⟩ := I.pin (a, oe) (Qa7 _ Qag)
 exact Zyf (K := X.kw) (H := fun h => h.get? a = some oe) (fun M h p => by rw [<- hz.1]; exact (Looks.ld p).andThen .now) I.kIn ha hk (fun z => nomatch z) fun tk => ⟨.bl true, H, I.tok tk, rfl, q⟩
mutual
def okH (i : Option Nat) (N : List Str) (ks : Ks) : HE -> Expr -> Bool
 | .cst d, e => (match e with
  | .Constant c _ _ => okC c d
  | _ => false)
 | .fld g, e => (match e with
  | .Attribute (.Name y _) f _ => decide (f = g) && (match i with
   | some i => decide (N[i]? = some y)
   | none => false) && ks.vis y && Zac y
  | _ => false)
 | .tup hs, e => (match e with
  | .Tuple es _ _ => decide (hs.length <= 1000) && Z0r i N ks hs es
  | _ => false)
 | .lst hs, e => (match e with
  | .List es _ => decide (hs.length <= 1000) && Z0r i N ks hs es
  | _ => false)
 | .isi c a, e => (match e with
  | .IfExp (.Call (.Name f _) [.Name y _, .Name c' _] [] _) e1 _ _ => decide (f = "isinstance") && decide (c' = c) && (match i with
   | some i => decide (N[i]? = some y)
   | none => false) && ks.vis y && Zac y && ks.gl f && ks.gl c && Zac c && okH i N ks a e1
  | .Call (.Name f _) [.Name y _, .Name c' _] [] _ => decide (f = "isinstance") && decide (c' = c) && (match i with
   | some i => decide (N[i]? = some y)
   | none => false) && ks.vis y && Zac y && ks.gl f && ks.gl c && Zac c && (match a with
   | .cst (.bl true) => true
   | _ => false)
  | _ => false)
def Z0r (i : Option Nat) (N : List Str) (ks : Ks) : List HE -> List Expr -> Bool
 | [], es => es.isEmpty
 | h :: hs, es => (match es with
  | e :: es => Zah e && okH i N ks h e && Z0r i N ks hs es
  | [] => false)
end
mutual
def Zqw : HE -> List Str
 | .cst _ => []
 | .fld f => [f]
 | .tup es => Zmx es
 | .lst es => Zmx es
 | .isi _ e => Zqw e
def Zmx : List HE -> List Str
 | [] => []
 | e :: es => Zqw e ++ Zmx es
end
mutual
def Zqx : HE -> List Str
 | .cst _ => []
 | .fld _ => []
 | .tup es => Zmy es
 | .lst es => Zmy es
 | .isi c e => c :: Zqx e
def Zmy : List HE -> List Str
 | [] => []
 | e :: es => Zqx e ++ Zmy es
end
mutual
def Zuw : HE -> Bool
 | .cst _ => false
 | .fld _ => false
 | .tup es => Zmz es
 | .lst es => Zmz es
 | .isi _ e => Zuw e
def Zmz : List HE -> Bool
 | [] => false
 | e :: es => Zuw e || Zmz es
end
def Z3p (xs : List XI) (y : XI) (he : HE) : Prop := (∀ c ∈ Zqx he, y.up.contains c = true /\ ∃ z ∈ xs, z.c = c) /\ (Zuw he = true -> y.up.contains "~ValueError" = true)
structure ExAt (K : KW) (φ : Nat -> Addr) (S : Store) (H : Hp) (a : Addr) (d : Option Addr) (fs : List (Str × D)) (i : Option Nat) (σ : L2.St) : Prop where
 rel : RelS K φ S H
 nm : ∀ j, i = some j -> σ[j]? = some (some (.ref a))
 fs : fs = [] \/ ∃ dd ws, d = some dd /\ H dd = some (.xd ws) /\ RFs (RV K φ S.nx H) fs ws
theorem ExAt.step {K : KW} {φ φ' : Nat -> Addr} {S S' : Store} {H H' : Hp} {a : Addr} {d : Option Addr} {fs : List (Str × D)} {i : Option Nat} {σ : L2.St} (h : ExAt K φ S H a d fs i σ) (st : Step φ S H φ' S' H') (r : RelS K φ' S' H') : ExAt K φ' S' H' a d fs i σ := by
 refine ⟨r, h.nm, ?_⟩
 rcases h.fs with e | ⟨dd, ws, e1, e2, e3⟩
 ·exact .inl e
 ·exact .inr ⟨dd, ws, e1, st.keep dd _ e2 (fun _ z => nomatch z) (h.rel.off e2 fun z => z), e3.sub (st.sub h.rel)⟩
def tH (K : KW) (a : Addr) (d : Option Addr) (fs : List (Str × D)) (i : Option Nat) (he : HE) : TE := fun σ H Q => ∃ φ S y, ExAt K φ S H a d fs i σ /\ evh fs he = some y /\ Zd4 K φ S H Q y S
def tHs (K : KW) (a : Addr) (d : Option Addr) (fs : List (Str × D)) (i : Option Nat) (hs : List HE) : TA := fun σ H Q => ∃ φ S ys, ExAt K φ S H a d fs i σ /\ Zq4 fs hs = some ys /\ Zaf K (RVs K) φ S H Q ys S
section
variable {p : Pg} {C : Cl} {ca : CA} {k : Nat} {ks : Ks} {W : WX} {X : Cx} {E : En}
theorem Zg6 {fs : List (Str × D)} : ∀ {hs : List HE} {ys : List D}, Zq4 fs hs = some ys -> ys.length = hs.length
 | [], ys, h => by simp only [Zq4] at h; cases h; rfl
 | e :: es, ys, h => by
  simp only [Zq4, Qak, Qad] at h
  obtain ⟨x, _, xs, h2, rfl⟩ := h
  rw [Qai, Qai, Zg6 h2]
open PySem.W (kitOne) in
theorem Z3q (g : Good p C ca k ks W X) {a B B' : Addr} {oe : Obj} {d : Option Addr} {pn : List (Addr × Obj)} (hz : Zc (.ref B) d oe) {c y : Str} {j : Nat} (hy : p.N[j]? = some y) (vy : ks.vis y = true) (py : Zac y = true) (hc : X.mg c = some (.ref B')) (gc : ks.gl c = true) (pc : Zac c = true) (gi : ks.gl "isinstance" = true)
  (hk : kitOne X.kw (.ref B) (.ref B') = some true) {e1 e2 : Expr} {t1 : TE} {p1 p2 p3 p4 p5 : Pos} (h1 : PE (X.suite a ((a, oe) :: pn)) e1 t1) :
  PE (X.suite a ((a, oe) :: pn)) (.IfExp (.Call (.Name "isinstance" p1) [.Name y p2, .Name c p3] [] p4) e1 e2 p5) (fun σ H Q => σ[j]? = some (some (.ref a)) /\ t1 σ H Q) := by
 have pv : PE (X.suite a ((a, oe) :: pn)) (.Name y p2) (tVar j) := pe_var (by show X.N[j]? = some y; rw [g.N]; exact hy) (g.vis vy) (Zad py) (Zat py)
 have pn' : PE (X.suite a ((a, oe) :: pn)) (.Name c p3) _ := pe_glob (v := .ref B') (g.gl gc) hc rfl (Zad pc)
 have pt := pe_callB (pos := p4) (p := p1) (Zk6 hz hk) (g.gl gi) g.ii Zcm (pa_cons pv (pa_cons pn' pa_nil rfl) rfl) (by decide) (by decide) rfl rfl
 have pb : PE (X.suite a ((a, oe) :: pn)) e2 (fun _ _ _ => False) := ⟨fun _ _ _ _ _ _ h => h.elim⟩
 refine PE.mono (pe_ifExp (pt_val pt (Zoa rfl)) h1 pb) fun σ H Q ⟨q1, q2⟩ => ?_
 exact ⟨.ref a, q1, rfl, true, rfl, q2⟩
open PySem.W (kitOne) in
theorem Z3r (g : Good p C ca k ks W X) {a B B' : Addr} {oe : Obj} {d : Option Addr} {pn : List (Addr × Obj)} (hz : Zc (.ref B) d oe) {c y : Str} {j : Nat} (hy : p.N[j]? = some y) (vy : ks.vis y = true) (py : Zac y = true) (hc : X.mg c = some (.ref B')) (gc : ks.gl c = true) (pc : Zac c = true) (gi : ks.gl "isinstance" = true)
  (hk : kitOne X.kw (.ref B) (.ref B') = some true) {p1 p2 p3 p4 : Pos} :
  PE (X.suite a ((a, oe) :: pn)) (.Call (.Name "isinstance" p1) [.Name y p2, .Name c p3] [] p4) (fun σ H Q => σ[j]? = some (some (.ref a)) /\ Q (.bl true) H) := by
 have pv : PE (X.suite a ((a, oe) :: pn)) (.Name y p2) (tVar j) := pe_var (by show X.N[j]? = some y; rw [g.N]; exact hy) (g.vis vy) (Zad py) (Zat py)
 have pn' : PE (X.suite a ((a, oe) :: pn)) (.Name c p3) _ := pe_glob (v := .ref B') (g.gl gc) hc rfl (Zad pc)
 have pt := pe_callB (pos := p4) (p := p1) (Zk6 hz hk) (g.gl gi) g.ii Zcm (pa_cons pv (pa_cons pn' pa_nil rfl) rfl) (by decide) (by decide) rfl rfl
 refine PE.mono pt fun σ H Q ⟨q1, q2⟩ => ?_
 exact ⟨.ref a, q1, rfl, q2⟩
mutual
theorem Z91 (g : Good p C ca k ks W X) {a B : Addr} {oe : Obj} {d : Option Addr} {pn : List (Addr × Obj)} (T : XfC X.kw B) (hz : Zc (.ref B) d oe) (hfl : ∃ vs, oe.data = .fields vs) {fs : List (Str × D)} {i : Option Nat} : ∀ (he : HE) (e : Expr), okH i p.N ks he e = true -> (∀ f ∈ Zqw he, PySem.W.findIn X.kw (.ref B) f = some none) -> (∀ c ∈ Zqx he, ∃ B', X.mg c = some (.ref B') /\ PySem.W.kitOne X.kw (.ref B) (.ref B') = some true) -> (Zuw he = true -> X.mg "ValueError" = none /\ VeC X.kw B) ->
  PE (X.suite a ((a, oe) :: pn)) e (tH X.kw a d fs i he)
 | .cst y, e, h, _, _, _ => by
  simp only [okH] at h
  split at h
  ·rename_i c j pos
   have out : ∀ {v : V} {σ : L2.St} {H : Hp} {Q : VK}, (∀ φ n H, RV X.kw φ n H y v) -> tH X.kw a d fs i (.cst y) σ H Q -> Q v H := fun hv ⟨φ, S, y', x, e, q⟩ => by
    simp only [evh] at e
    cases e
    exact Zaf.now q x.rel (hv _ _ _)
   cases c <;> cases y <;> first
    | (cases h; done)
    | (simp [okC] at h; done)
    | exact PE.mono pe_non fun σ H Q q => out (fun _ _ _ => .non) q
    | (have e := (by simpa [okC] using h); subst e; exact PE.mono pe_bl fun σ H Q q => out (fun _ _ _ => .bl _) q)
    | (have e := (by simpa [okC] using h); subst e; exact PE.mono pe_int fun σ H Q q => out (fun _ _ _ => .int _) q)
    | (have e := (by simpa [okC] using h); subst e; exact PE.mono pe_str fun σ H Q q => out (fun _ _ _ => .str _) q)
  ·cases h
 | .fld f, e, h, hn, _, _ => by
  simp only [okH] at h
  split at h
  ·rename_i y p1 f' p2
   simp only [Qaa, Qab] at h
   obtain ⟨⟨⟨rfl, h2⟩, h3⟩, h4⟩ := h
   cases i with
   | none => cases h2
   | some j =>
    have h2 : p.N[j]? = some y := Qau h2
    have pv : PE (X.suite a ((a, oe) :: pn)) (.Name y p1) (tVar j) := pe_var (by show X.N[j]? = some y; rw [g.N]; exact h2) (g.vis h3) (Zad h4) (Zat h4)
    refine PE.mono (pe_xf T (hn f' (by simp [Zqw])) hz hfl pv) fun σ H Q ⟨φ, S, z, x, e, q⟩ => ?_
    simp only [evh] at e
    rcases x.fs with rfl | ⟨dd, ws, e1, e2, e3⟩
    ·cases e
    ·obtain ⟨v, lv, rv⟩ := e3.look e
     exact ⟨.ref a, x.nm j rfl, rfl, rfl, dd, ws, v, e1, e2, lv, Zaf.now q x.rel rv⟩
  ·cases h
 | .tup hs, e, h, hn, hi, hv => by
  simp only [okH] at h
  split at h
  ·rw [Qaa, Qab] at h
   refine PE.mono (Zjd (Z92 (fs := fs) g T hz hfl hs _ h.2 (fun f hf => hn f (by simpa only [Zqw] using hf)) (fun c hc => hi c (by simpa only [Zqx] using hc)) (fun q => hv (by simpa only [Zuw] using q)))) fun σ H Q ⟨φ, S, z, x, e, q⟩ => ?_
   simp only [evh, Qad] at e
   obtain ⟨ys, e1, rfl⟩ := e
   refine ⟨φ, S, ys, x, e1, fun φ1 H1 vs st1 r1 rs => ⟨?_, fun q' hq' => Zvy r1 rs hq' (Zaf.step st1 q)⟩⟩
   have := h.1
   rw [rs.length, Zg6 e1, sizeLine_eq]; omega
  ·cases h
 | .lst hs, e, h, hn, hi, hv => by
  simp only [okH] at h
  split at h
  ·rw [Qaa, Qab] at h
   refine PE.mono (PE.lk (pe_lst (Z92 (fs := fs) g T hz hfl hs _ h.2 (fun f hf => hn f (by simpa only [Zqw] using hf)) (fun c hc => hi c (by simpa only [Zqx] using hc)) (fun q => hv (by simpa only [Zuw] using q))))) fun σ H Q ⟨φ, S, z, x, e, q⟩ => ?_
   simp only [evh, Qad] at e
   obtain ⟨ys, e1, rfl⟩ := e
   refine ⟨φ, S, ys, x, e1, fun φ1 H1 vs st1 r1 rs => ⟨?_, fun q' hq' => Or.inr (Z0h r1 rs hq' (Zaf.step st1 q))⟩⟩
   have := h.1
   rw [rs.length, Zg6 e1, sizeLine_eq]; omega
  ·cases h
 | .isi c he, e, h, hn, hi, hv => by
  simp only [okH] at h
  split at h
  ·rename_i f p1 y p2 c' p3 p4 e1 e2 p5
   simp only [Qaa, Qab] at h
   obtain ⟨⟨⟨⟨⟨⟨⟨⟨rfl, rfl⟩, h2⟩, h3⟩, h4⟩, h5⟩, h6⟩, h7⟩, h8⟩ := h
   cases i with
   | none => cases h2
   | some j =>
    have h2 : p.N[j]? = some y := Qau h2
    obtain ⟨B', hm, hk⟩ := hi c' (by simp [Zqx])
    refine PE.mono (Z3q g hz h2 h3 h4 hm h6 h7 h5 hk (Z91 (fs := fs) g T hz hfl he e1 h8 (fun f hf => hn f (by simpa only [Zqw] using hf)) (fun c hc => hi c (by simp only [Zqx]; exact Qae _ hc)) (fun q => hv (by simpa only [Zuw] using q)))) fun σ H Q ⟨φ, S, z, x, e, q⟩ => ?_
    simp only [evh] at e
    exact ⟨x.nm j rfl, φ, S, z, x, e, q⟩
  ·rename_i f p1 y p2 c' p3 p4
   simp only [Qaa, Qab] at h
   obtain ⟨⟨⟨⟨⟨⟨⟨⟨rfl, rfl⟩, h2⟩, h3⟩, h4⟩, h5⟩, h6⟩, h7⟩, h8⟩ := h
   cases i with
   | none => cases h2
   | some j =>
    have h2 : p.N[j]? = some y := Qau h2
    obtain ⟨B', hm, hk⟩ := hi c' (by simp [Zqx])
    split at h8
    ·refine PE.mono (Z3r g hz h2 h3 h4 hm h6 h7 h5 hk) fun σ H Q ⟨φ, S, z, x, e, q⟩ => ?_
     simp only [evh] at e
     cases e
     exact ⟨x.nm j rfl, Zaf.now q x.rel (.bl _)⟩
    ·cases h8
  ·cases h
theorem Z92 (g : Good p C ca k ks W X) {a B : Addr} {oe : Obj} {d : Option Addr} {pn : List (Addr × Obj)} (T : XfC X.kw B) (hz : Zc (.ref B) d oe) (hfl : ∃ vs, oe.data = .fields vs) {fs : List (Str × D)} {i : Option Nat} : ∀ (hs : List HE) (es : List Expr), Z0r i p.N ks hs es = true -> (∀ f ∈ Zmx hs, PySem.W.findIn X.kw (.ref B) f = some none) -> (∀ c ∈ Zmy hs, ∃ B', X.mg c = some (.ref B') /\ PySem.W.kitOne X.kw (.ref B) (.ref B') = some true) -> (Zmz hs = true -> X.mg "ValueError" = none /\ VeC X.kw B) ->
  PA (X.suite a ((a, oe) :: pn)) es (tHs X.kw a d fs i hs)
 | [], es, h, _, _, _ => by
  simp only [Z0r] at h
  have e0 : es = [] := by simpa using h
  subst e0
  refine PA.mono pa_nil fun σ H Q ⟨φ, S, ys, x, e, q⟩ => ?_
  simp only [Zq4] at e
  cases e
  exact Zaf.now q x.rel .nil
 | he :: hs, es, h, hn, hi, hv => by
  simp only [Z0r] at h
  split at h
  ·rename_i e es
   simp only [Qaa] at h
   refine PA.mono (pa_cons (Z91 (fs := fs) g T hz hfl he e h.1.2 (fun f hf => hn f (by simp only [Zmx]; exact Qa7 _ hf)) (fun c hc => hi c (by simp only [Zmy]; exact Qa7 _ hc)) (fun q => hv (by simp only [Zmz, q, Bool.true_or]))) (Z92 (fs := fs) g T hz hfl hs es h.2 (fun f hf => hn f (by simp only [Zmx]; exact Qbf _ hf)) (fun c hc => hi c (by simp only [Zmy]; exact Qbf _ hc)) (fun q => hv (by simp only [Zmz, q, Bool.or_true]))) (Zak h.1.1 es)) fun σ H Q ⟨φ, S, ys, x, e, q⟩ => ?_
   simp only [Zq4, Qak, Qad] at e
   obtain ⟨y, e1, ys, e2, rfl⟩ := e
   exact ⟨φ, S, y, x, e1, fun φ1 H1 v st1 r1 rv => ⟨φ1, S, ys, x.step st1 r1, e2, fun φ2 H2 vs st2 r2 rs => q φ2 H2 _ (st1.trans st2) r2 (.cons (rv.mono r1 st2) rs)⟩⟩
  ·cases h
end
theorem AtE.blank {φ : Nat -> Addr} {S : Store} {ρ : Ev} {σ : L2.St} {H : Hp} (a : AtE X.kw X.lc E φ S ρ σ H) (i : Nat) (x : Option V) : AtE X.kw X.lc E φ S (ρ.set i .no) (σ.set i x) H := by
 have no : ∀ {j : Nat} {sl : Sl}, (ρ.set i .no)[j]? = some sl -> sl = .no \/ (j ≠ i /\ ρ[j]? = some sl) := fun {j sl} h => by
  rcases Zal h with ⟨_, _, z⟩ | ⟨z, h⟩
  ·exact .inl z.symm
  ·exact .inr ⟨fun w => z w.symm, h⟩
 have ne : ∀ {j : Nat}, j ≠ i -> (σ.set i x)[j]? = σ[j]? := fun h => Qaq (Ne.symm h)
 refine ⟨⟨a.rel, ⟨by simpa using a.env.len, fun j d h => ?_, fun j o h => ?_, fun j l o o' v jl h1 h2 h3 h4 => ?_, fun j y cs h => ?_, fun j y is h => ?_⟩⟩, a.st, fun j o b h1 h2 => ?_⟩
 ·rcases no h with z | ⟨n, h⟩
  ·cases z
  ·rw [ne n]; exact a.env.at_ j d h
 ·rcases no h with z | ⟨n, h⟩
  ·cases z
  ·rw [ne n]; exact a.env.own j o h
 ·rcases no h1 with z | ⟨n1, h1⟩
  ·cases z
  ·rcases no h2 with z | ⟨n2, h2⟩
   ·cases z
   ·rw [ne n1] at h3
    rw [ne n2] at h4
    exact a.env.inj j l o o' v jl h1 h2 h3 h4
 ·rcases no h with z | ⟨n, h⟩
  ·cases z
  ·rw [ne n]; exact a.env.clo j y cs h
 ·rcases no h with z | ⟨n, h⟩
  ·cases z
  ·rw [ne n]; exact a.env.df j y is h
 ·rcases no h1 with z | ⟨n1, h1⟩
  ·cases z
  ·rw [ne n1] at h2
   exact a.fr j o b h1 h2
def tSu (K : KW) (ca : CA) (xs : List XI) (i : Option Nat) (j : Nat) (he : HE) : Addr -> Value -> Option Addr -> TS := fun a cls d D σ H =>
 ∃ φ S B x fs y, cls = .ref B /\ x ∈ xs /\ ca x.c = some B /\ (∀ f ∈ Zqw he, f ∈ x.fs) /\ Z3p xs x he /\ ExAt K φ S H a d fs i σ /\ evh fs he = some y /\ ∀ φ' H' v, Step φ S H φ' S H' -> RelS K φ' S H' -> RV K φ' S.nx H' y v -> D.nx (σ.set j (some v)) H'
theorem Zsl (g : Good p C ca k ks W X) {i : Option Nat} {j : Nat} {tg e : Expr} {he : HE} {pos : Pos} (ht : Zig p ks tg j = true) (h : okH i p.N ks he e = true) (hc : Zb5 e = true) (a : Addr) (oe : Obj) (cls : Value) (d : Option Addr) (pn : List (Addr × Obj)) (hz : Zc cls d oe) (hfl : ∃ vs, oe.data = .fields vs) :
  PSs (X.suite a ((a, oe) :: pn)) [.Assign [tg] e pos] (tSu X.kw ca p.xs i j he a cls d) := by
 obtain ⟨y, py, rfl⟩ := Zik ht
 constructor
 intro pins s σ H D I ⟨φ, S, B, x, fs, z, ec, hx, hB, hf, hu, ex, ev', q⟩
 subst ec
 obtain ⟨B', hB', T⟩ := g.ex x hx
 rw [hB] at hB'
 cases hB'
 unfold Zig at ht
 simp only [Qaa, Qab] at ht
 obtain ⟨⟨t1, t2⟩, t3⟩ := ht
 have gst := g.st y t2
 have pg : PG (X.suite a ((a, oe) :: pn)) (.Name y py) (gName j) := pg_name (by show X.N.Nodup; rw [g.N]; exact g.nd) (by show X.N[j]? = some y; rw [g.N]; exact t1) gst.1 gst.2
 have pe := Z91 (fs := fs) (a := a) (pn := pn) g T.xf hz hfl he e h (fun f hf' => T.no f (hf f hf')) (fun c hc => by
  obtain ⟨u1, y, hy, rfl⟩ := hu.1 c hc
  obtain ⟨B', hB', T'⟩ := g.ex y hy
  have su := g.sub x hx y hy B B' hB hB'
  rw [u1] at su
  refine ⟨B', T'.gC, ?_⟩
  unfold PySem.W.kitOne
  by_cases q : (Value.ref B == Value.ref B') = true
  ·rw [Qan q]
  ·rw [Qat q]
   unfold PySem.W.exmOne at su
   split at su
   ·exact su
   ·cases su) (fun q => T.nv (hu.2 q))
 have ps := pss_cons (ps_asg (pos := pos) pe pg (by
  cases e <;> first | rfl | (cases hc)) (by cases e <;> rfl)) pss_nil
 exact ps.run pins s σ H D I ⟨φ, S, z, ex, ev', fun φ' H' v st r rv => q φ' H' v st r rv⟩
theorem Good.tr (g : Good p C ca k ks W X) {pn : List (Addr × Obj)} {xe : Value -> Shared -> Prop} {W' : WX} (tk : Takes (X.tr pn xe) W') : Good p C ca k ks W' (X.tr pn xe) :=
 ⟨g.N, g.nd, g.sc, g.kind, g.st, g.calm, g.gu, g.room3, tk, g.gs, g.gd, g.bl, g.ob, g.ty, g.ii, g.rg, g.en, g.zp, g.se, g.fn, g.ex, g.sub, g.cax, g.cl, g.lam, g.lm, g.mk', g.df⟩
theorem Zsm (g : Good p C ca k ks W X) {x : XI} (hx : x ∈ p.xs) (hgl : ks.gl x.c = true) (hpl : Zac x.c = true) : ∃ B, ca x.c = some B /\ Names X x.c (.ref B) := by
 obtain ⟨B, hB, T⟩ := g.ex x hx
 exact ⟨B, hB, g.gl hgl, Zad hpl, .inl T.gC⟩
structure Own1 (X : Cx) : Prop where
 po : PassesOwn (model X.prog X.w) X.A X.env X.xe
 stk : X.stack = X.env :: X.outer
 frm : X.env.frame = some X.env.locals
end
end My
namespace My
open PySem PySem.Spec PyProof.Rows L2
variable [CP] [TC]
structure Cls2 where
 c : Value
 nm : Option Nat
 ts : Addr -> Value -> Option Addr -> TS
def Zyg (nm : Option Nat) (D : Ends) : Ends := match nm with
 | none => D
 | some i => { nx := fun σ' H' => D.nx (σ'.set i none) H', rt := D.rt, bk := fun σ' H' => D.bk (σ'.set i none) H', ct := fun σ' H' => D.ct (σ'.set i none) H' }
def Zpa (nm : Option Nat) (σ : L2.St) (a : Addr) : L2.St := match nm with
 | none => σ
 | some i => σ.set i (some (.ref a))
def Z3s (K : PySem.W.Frag) (Wout : WX) (D : Ends) : List Cls2 -> WX
 | [] => Wout
 | q :: r => fun cls d σ H => ∃ b, PySem.W.exmOne K cls q.c = some b /\ (b = true -> ∀ a, H a = none -> q.ts a cls d (Zyg q.nm D) (Zpa q.nm σ a) H) /\ (b = false -> Z3s K Wout D r cls d σ H)
inductive HdsM (X : Cx) : List ExceptHandler -> List Cls2 -> Prop
 | nil : HdsM X [] []
 | plain {x : Str} {c : Value} {ts : Addr -> Value -> Option Addr -> TS} {b₀ : Stmt} {suite : List Stmt} {np pos' : Pos} {hds : List ExceptHandler} {l : List Cls2} (hc : Names X x c)
  (hsu : ∀ (a : Addr) (oe : Obj) (cls : Value) (d : Option Addr) (pn : List (Addr × Obj)), Zc cls d oe -> (∃ vs, oe.data = .fields vs) -> PSs (X.suite a ((a, oe) :: pn)) (b₀ :: suite) (ts a cls d)) (r : HdsM X hds l) :
  HdsM X (.ExceptHandler (some (.Name x np)) none (b₀ :: suite) pos' :: hds) (⟨c, none, ts⟩ :: l)
 | named {x n : Str} {i : Nat} {c : Value} {ts : Addr -> Value -> Option Addr -> TS} {b₀ : Stmt} {suite : List Stmt} {np pos' : Pos} {hds : List ExceptHandler} {l : List Cls2} (hc : Names X x c) (hi : X.N[i]? = some n) (hln : X.env.kindOf n = some .local)
  (hsu : ∀ (a : Addr) (oe : Obj) (cls : Value) (d : Option Addr) (pn : List (Addr × Obj)), Zc cls d oe -> (∃ vs, oe.data = .fields vs) -> PSs (X.suite a ((a, oe) :: pn)) (b₀ :: suite) (ts a cls d)) (r : HdsM X hds l) :
  HdsM X (.ExceptHandler (some (.Name x np)) (some n) (b₀ :: suite) pos' :: hds) (⟨c, some i, ts⟩ :: l)
section
variable {X : Cx} {body : List Stmt} {h₀ : ExceptHandler} {hds : List ExceptHandler} {l : List Cls2} {pos : Pos} {tb : WX -> TS} {Wout : WX}
theorem Zm0 (hs : X.stack = X.env :: X.outer) (hf : X.env.frame = some X.env.locals) (hN : X.N.Nodup) (tk : Takes X Wout)
  (hb : ∀ (W : WX) (pn : List (Addr × Obj)) (xe : Value -> Shared -> Prop), Takes (X.tr pn xe) W -> PassesOwn (model X.prog X.w) X.A X.env xe -> PSs (X.tr pn xe) body (tb W))
  (hh : HdsM X (h₀ :: hds) l) : PS X (.Try body (h₀ :: hds) [] [] pos) (fun D σ H => tb (Z3s X.K Wout D l) D σ H) := by
 refine ⟨fun pins s σ H D I h => ?_⟩
 have ok := I.ok
 have hfr : X.A.frames = some (X.env :: X.outer) := by rw [ok.frames, hs]
 refine wpAny_Try_except ?_
 refine wpAny_mono ((hb (Z3s X.K Wout D l) (X.pn ++ pins) (fun e s₁ => wpAny (model X.prog X.w) X.A (noteFrame e X.env) (fun _ s₂ => wpAny (model X.prog X.w) X.A (setFlight e none) (fun _ s₃ =>
  wpAny (model X.prog X.w) X.A (handleBy e X.env (h₀ :: hds)) (SP X pins D) X.xe s₃) X.xe s₂) X.xe s₁) (fun u s' xx => ?_) PassesOwn.looking).run [] s σ H D (I.toTry _) h) (fun f s1 hsp => ?_) (fun e s1 he => he)
 ·obtain ⟨a, B, sI, pins', σ', H', cls, d, rfl, J', nb, up, sky, na, os, ag, w⟩ := xx
  have J : Inv X pins σ' H' sI := J'.ofTry ok
  have sky' : Sky B (X.env :: X.outer) a (Zc cls d) X.env.locals s'.heap := by rw [<- hs]; exact sky
  show wpAny (model X.prog X.w) X.A (noteFrame (.ref a) X.env) _ _ _
  refine Sky.land Zc.steady hfr hf sky' fun h3 fl3 up3 => ?_
  have J3 : Inv X pins σ' H' { s' with heap := h3 } := J.landed nb fl3.1 (up.trans up3) os ag
  obtain ⟨oe3, vs3, he3, hz3, hd3⟩ := fl3.there
  have nfr : a ∉ frs (X.env :: X.outer) := fun hm => by
   obtain ⟨_, o', e', hnf⟩ := fl3.2.2.1.mem hm
   rw [he3] at e'; cases e'
   exact hnf _ hd3
  have nL : a ≠ X.env.locals := fun z => nfr (List.mem_filterMap.mpr ⟨X.env, Qag, by rw [hf, z]⟩)
  have nF : a ∉ X.fs := fun hm => by
   obtain ⟨e, he, q⟩ := List.mem_filterMap.mp hm
   exact nfr (List.mem_filterMap.mpr ⟨e, Qae _ he, q⟩)
  have S3 := J3.suite he3 hd3 na nL nF
  have LT : PySem.W.Looks (model X.prog X.w) h3 (typeOf (.ref a)) cls := fun A Q E s k q => wpAny_typeOf_ref (k _ _ he3) (by rw [hz3.1]; exact q)
  have test : ∀ {x : Str} {np : Pos} {c : Value} {Q E : Value -> Shared -> Prop}, Names X x c -> Q c { s' with heap := h3 } -> wpAny (model X.prog X.w) (X.A.mark (some (.ref a))) (eval (.Name x np) X.env) Q E { s' with heap := h3 } := fun {x np c Q E} hc q => by
   obtain ⟨hg, hdbg, hm | ⟨hm, hv, hnn⟩⟩ := hc
   ·exact ld_glob (X := X.suite a ((a, oe3) :: (X.pn ++ pins))) S3 hg hm q hdbg
   ·exact ld_blt (X := X.suite a ((a, oe3) :: (X.pn ++ pins))) S3 hg hm hv q hnn hdbg
  have go : ∀ {hds' : List ExceptHandler} {l' : List Cls2}, HdsM X hds' l' -> Z3s X.K Wout D l' cls d σ' H' ->
    wpAny (model X.prog X.w) X.A (handleBy (.ref a) X.env hds') (SP X pins D) X.xe { s' with heap := h3 } := by
   intro hds' l' hk
   induction hk with
   | nil =>
    intro w
    refine wpAny_handleBy_nil ?_
    obtain ⟨k1, k2, k3, oe, vs, T, oT, ts', he, hz, hd, h1, hr⟩ := id fl3
    unfold PySem.passOn
    refine Qac (wpAny_field he hd h1 ?_)
    rw [Qat (show ¬ ((Value.ref T == Value.none) = true) from by simp)]
    have fin : wpAny (model X.prog X.w) X.A (setFlight (.ref a) X.env.frame) (fun _ s4 => wpAny (model X.prog X.w) X.A (throw (.ref a) : Sem Flow) (SP X pins D) X.xe s4) X.xe { s' with heap := h3 } := by
     rw [hf]
     refine HandSPX.setFlight_upZ fl3 fun h4 hh4 up4 => wpAny_throw (tk _ _ ?_)
     exact ⟨a, B, sI, pins, σ', H', cls, d, rfl, J, nb, (up.trans up3).trans up4, .inr (.inr (by rw [hs]; exact hh4)), na, os, ag, w⟩
    first
     | exact Qac (Qah (Qac fin))
     | exact Qac fin
   | @plain x c ts b₀ suite np pos' hds2 l2 hc hsu r ih =>
    intro w
    obtain ⟨b, hb1, hyes, hno⟩ := w
    refine wpAny_handleBy_cons (codeAny_handlers_test ?_) (by intro q; cases q)
    refine test hc ((PySem.W.exm_one (M := model X.prog X.w) (J3.kIn) LT hb1).here ?_)
    cases b with
    | true =>
     refine codeAny_handlers_suite ?_
     refine HandSPX.lands_againZ fl3 fun h4 fl4 up4 => ?_
     have J4 : Inv X pins σ' H' { s' with heap := h4 } := J.landed nb fl4.1 ((up.trans up3).trans up4) os ag
     obtain ⟨oe4, vs4, he4, hz4, hd4⟩ := fl4.there
     have S4 := J4.suite he4 hd4 na nL nF
     refine wpAny_mono ((hsu a oe4 cls d (X.pn ++ pins) hz4 ⟨_, hd4⟩).run [] _ _ H' _ S4 (hyes rfl a na)) (fun f s6 hsp => ?_) (fun _ _ z => False.elim z)
     cases f with
     | ret u =>
      obtain ⟨v6, σ6, H6, S6, r6, q6⟩ := hsp
      exact ⟨_, _, _, S6.unsuite ok, r6, q6⟩
     | _ =>
      obtain ⟨σ6, H6, S6, q6⟩ := hsp
      exact ⟨_, _, S6.unsuite ok, q6⟩
    | false =>
     show wpAny _ X.A (handleBy (.ref a) X.env hds2) _ _ _
     exact ih (hno rfl)
   | @named x n i c ts b₀ suite np pos' hds2 l2 hc hi hln hsu r ih =>
    intro w
    obtain ⟨b, hb1, hyes, hno⟩ := w
    have hloc : Loc X.env.scope n := .inl hln
    refine wpAny_handleBy_cons (codeAny_handlers_test ?_) (by intro q; cases q)
    refine test hc ((PySem.W.exm_one (M := model X.prog X.w) (J3.kIn) LT hb1).here ?_)
    cases b with
    | true =>
     refine codeAny_handlers_suite_as ?_
     refine HandSPX.lands_againZ fl3 fun h4 fl4 up4 => ?_
     have J4 : Inv X pins σ' H' { s' with heap := h4 } := J.landed nb fl4.1 ((up.trans up3).trans up4) os ag
     obtain ⟨oe4, vs4, he4, hz4, hd4⟩ := fl4.there
     have S4 := J4.suite he4 hd4 na nL nF
     refine store_ok (X := X.suite a ((a, oe4) :: (X.pn ++ pins))) (v := .ref a) S4 hN hi hloc rfl (fun s5 S5 => ?_) (.inr hln)
     refine wpAny_mono ((hsu a oe4 cls d (X.pn ++ pins) hz4 ⟨_, hd4⟩).run [] s5 _ H' _ S5 (hyes rfl a na)) (fun f s6 hsp => ?_) (fun _ _ z => False.elim z)
     have end_ : ∀ {σ6 : L2.St} {H6 : Hp} {Q : Shared -> Prop}, Inv (X.suite a ((a, oe4) :: (X.pn ++ pins))) [] σ6 H6 s6 -> (∀ s7, Inv X pins (σ6.set i none) H6 s7 -> Q s7) ->
       wpAny (model X.prog X.w) X.A (do bindName X.env n .none; unbindBehindTheSuite X.env n pos') (fun _ s7 => Q s7) X.xe s6 := fun {σ6 H6 Q} S6 hq => gone_ok (S6.unsuite ok) hN hi hln hq
     cases f with
     | ret u =>
      obtain ⟨v6, σ6, H6, S6, r6, q6⟩ := hsp
      exact end_ S6 fun s7 J7 => ⟨_, _, _, J7, r6, q6⟩
     | _ =>
      obtain ⟨σ6, H6, S6, q6⟩ := hsp
      exact end_ S6 fun s7 J7 => ⟨_, _, J7, q6⟩
    | false =>
     show wpAny _ X.A (handleBy (.ref a) X.env hds2) _ _ _
     exact ih (hno rfl)
  exact go hh w
 ·cases f with
  | next =>
   obtain ⟨σ', H', J', q⟩ := hsp
   exact wpAny_execs_nil ⟨σ', H', J'.ofTry ok, q⟩
  | brk =>
   obtain ⟨σ', H', J', q⟩ := hsp
   exact ⟨σ', H', J'.ofTry ok, q⟩
  | cont =>
   obtain ⟨σ', H', J', q⟩ := hsp
   exact ⟨σ', H', J'.ofTry ok, q⟩
  | ret u =>
   obtain ⟨v, σ', H', J', r, q⟩ := hsp
   exact ⟨v, σ', H', J'.ofTry ok, r, q⟩
end
end My
namespace My
open PySem PySem.Spec PyProof.Rows L2
variable [CP] [TC]
section
variable {p : Pg} {C : Cl} {ca : CA} {k : Nat} {ks : Ks} {W : WX} {X : Cx} {E : En}
def Zfj (P : Fl -> Store -> Prop) (Q : Xn × Ev -> Store -> Prop) (hs : List Hd) (x : Xn × Ev) (S' : Store) : Prop := match Znk x.1.c hs with
 | none => Q x S'
 | some h => ∃ d ρ', evh x.1.fs h.e = some d /\ Zhz h x.2 d = some ρ' /\ P (Fl.nx ρ') S'
theorem Zyh {b : MS} {hs : List Hd} {S : Store} {ρ : Ev} {P : Fl -> Store -> Prop} {Q : Xn × Ev -> Store -> Prop} (w : (Zae C (.tr b hs) ρ S).wp P Q) : (Zae C b ρ S).wp P (Zfj P Q hs) := by
 simp only [Zae] at w
 cases e : Zae C b ρ S with
 | ok fl S' => rw [e] at w; exact w
 | bad => rw [e] at w; exact w.elim
 | exc x S' =>
  rw [e] at w
  show Zfj P Q hs x S'
  have w : (match Znk x.1.c hs with
    | none => (R.exc x S' : RS)
    | some h => match (evh x.1.fs h.e).bind fun d => (Zhz h x.2 d) with
     | some ρ' => .ok (Fl.nx ρ') S'
     | none => .bad).wp P Q := w
  unfold Zfj
  cases hd : Znk x.1.c hs with
  | none => rw [hd] at w; exact w
  | some h =>
   rw [hd] at w
   cases ee : (evh x.1.fs h.e).bind fun d => (Zhz h x.2 d) with
   | none => simp only [ee] at w; exact w.elim
   | some ρ' =>
    simp only [ee] at w
    obtain ⟨d, e1, e2⟩ := Qak.mp ee
    exact ⟨d, ρ', e1, e2, w⟩
inductive CkM (p : Pg) (ks : Ks) : List ExceptHandler -> List Hd -> Prop
 | nil : CkM p ks [] []
 | cons {x : XI} {h : Hd} {nm : Option Str} {np pos' pos'' : Pos} {tg e : Expr} {hds : List ExceptHandler} {hs : List Hd} (hx : x ∈ p.xs) (hgl : ks.gl x.c = true) (hpl : Zac x.c = true) (ht : Zig p ks tg h.j = true) (hh : okH h.nm p.N ks h.e e = true) (hc : Zb5 e = true)
  (hcs : ∀ y ∈ p.xs, h.cs.contains y.c = y.up.contains x.c) (hfs : ∀ y ∈ p.xs, y.up.contains x.c = true -> ∀ f ∈ Zqw h.e, f ∈ y.fs) (his : ∀ y ∈ p.xs, y.up.contains x.c = true -> Z3p p.xs y h.e)
  (hn : (nm = none /\ h.nm = none) \/ ∃ i n, nm = some n /\ h.nm = some i /\ p.N[i]? = some n /\ ks.sc.names.lookup n = some .local /\ i ≠ h.j) (r : CkM p ks hds hs) :
  CkM p ks (.ExceptHandler (some (.Name x.c np)) nm [.Assign [tg] e pos''] pos' :: hds) (h :: hs)
theorem Zsn {c : Str} {h : Hd} {hs : List Hd} (q : h.cs.contains c = true) : Znk c (h :: hs) = some h := by unfold Znk; rw [List.find?_cons, q]
theorem Zpb {c : Str} {h : Hd} {hs : List Hd} (q : h.cs.contains c = false) : Znk c (h :: hs) = Znk c hs := by unfold Znk; rw [List.find?_cons, q]
theorem Z3t (g : Good p C ca k ks W X) {hds : List ExceptHandler} {hs : List Hd} (h : CkM p ks hds hs) : ∃ l, HdsM X hds l /\ ∀ {D : Ends} {φ : Nat -> Addr} {S : Store} {H : Hp} {xx : Xn × Ev} {S' : Store} {φ' : Nat -> Addr} {H' : Hp} {σ' : L2.St} {cls : Value} {dd : Option Addr},
  Sub φ S.nx H φ' S'.nx H' -> AtE X.kw X.lc E φ' S' xx.2 σ' H' -> RX ca X.kw φ' S'.nx H' xx.1 cls dd -> Zfj (Zfy X.kw X.lc E φ S H D) (Zco X.kw X.lc ca W E φ S H) hs xx S' -> Z3s X.K W D l cls dd σ' H' := by
 induction h with
 | nil => exact ⟨[], .nil, fun sb at' rx q => q _ _ _ _ _ sb at' rx⟩
 | @cons x h nm np pos' pos'' tg e hds hs hx hgl hpl ht hh hc hcs hfs his hn r ih =>
  obtain ⟨l, hl, ih⟩ := ih
  obtain ⟨B, hB, nX⟩ := Zsm g hx hgl hpl
  have su0 : ∀ (a : Addr) (oe : Obj) (cls : Value) (d : Option Addr) (pn : List (Addr × Obj)), Zc cls d oe -> (∃ vs, oe.data = .fields vs) -> PSs (X.suite a ((a, oe) :: pn)) [.Assign [tg] e pos''] (tSu X.kw ca p.xs h.nm h.j h.e a cls d) := fun a oe cls d pn hz hfl => Zsl g ht hh hc a oe cls d pn hz hfl
  refine ⟨⟨.ref B, h.nm, tSu X.kw ca p.xs h.nm h.j h.e⟩ :: l, ?_, ?_⟩
  ·rcases hn with ⟨rfl, e2⟩ | ⟨i, n, rfl, e2, hi, hk, ne⟩
   ·rw [e2] at su0 ⊢
    exact .plain nX su0 hl
   ·rw [e2] at su0 ⊢
    exact .named nX (by rw [g.N]; exact hi) (by show X.env.scope.names.lookup n = _; rw [g.sc]; exact hk) su0 hl
  ·intro D φ S H xx S' φ' H' σ' cls dd sb at' rx q
   obtain ⟨C1, c1, ecl, fsr⟩ := id rx
   obtain ⟨y, hy, ey⟩ := g.cax _ _ c1
   have su := g.sub y hy x hx C1 B (by rw [ey]; exact c1) hB
   have hcy := hcs y hy
   rw [ey] at hcy
   subst ecl
   refine ⟨_, su, fun bt a0 ha0 => ?_, fun bf => ?_⟩
   ·have q : ∃ d ρ', evh xx.1.fs h.e = some d /\ Zhz h xx.2 d = some ρ' /\ Zfy X.kw X.lc E φ S H D (Fl.nx ρ') S' := by
     have q := q
     unfold Zfj at q
     rw [Zsn (hcy.trans bt)] at q
     exact q
    obtain ⟨d', ρ', e1, e2, pf⟩ := q
    have fs' : xx.1.fs = [] \/ ∃ dd' ws, dd = some dd' /\ H' dd' = some (.xd ws) /\ RFs (RV X.kw φ' S'.nx H') xx.1.fs ws := by
     rcases fsr with ⟨z, _⟩ | ⟨d0, ws, z1, z2, z3⟩
     ·exact .inl z
     ·exact .inr ⟨d0, ws, z1, z2, z3⟩
    unfold Zhz at e2
    rcases hn with ⟨_, en⟩ | ⟨i, n, _, en, hi, hk, ne⟩
    ·rw [en] at e2
     cases e2
     show tSu X.kw ca p.xs h.nm h.j h.e a0 (.ref C1) dd (Zyg h.nm D) (Zpa h.nm σ' a0) H'
     rw [en]
     exact ⟨φ', S', C1, y, xx.1.fs, d', rfl, hy, by rw [ey]; exact c1, hfs y hy bt, his y hy bt, ⟨at'.rel, (fun j z => by cases z), fs'⟩, e1, fun φ2 H2 v st2 r2 rv2 => pf φ2 H2 _ (sb.trans (st2.sub at'.rel)) ((at'.step st2 r2).setV rv2)⟩
    ·rw [en] at e2
     simp only at e2
     split at e2
     ·rename_i lt
      cases e2
      have lt2 : i < σ'.length := by rw [<- at'.env.len]; exact lt
      show tSu X.kw ca p.xs h.nm h.j h.e a0 (.ref C1) dd (Zyg h.nm D) (Zpa h.nm σ' a0) H'
      rw [en]
      refine ⟨φ', S', C1, y, xx.1.fs, d', rfl, hy, by rw [ey]; exact c1, hfs y hy bt, his y hy bt, ⟨at'.rel, fun j z => ?_, fs'⟩, e1, fun φ2 H2 v st2 r2 rv2 => ?_⟩
      ·cases z
       exact Qa3 lt2
      ·have eq : ((σ'.set i (some (.ref a0))).set h.j (some v)).set i none = (σ'.set i none).set h.j (some v) := by
        rw [List.set_comm _ _ (Ne.symm ne), List.set_set]
       show D.nx (((σ'.set i (some (.ref a0))).set h.j (some v)).set i none) H2
       rw [eq]
       exact pf φ2 H2 _ (sb.trans (st2.sub at'.rel)) (((at'.step st2 r2).blank i none).setV rv2)
     ·cases e2
   ·have q : Zfj (Zfy X.kw X.lc E φ S H D) (Zco X.kw X.lc ca W E φ S H) hs xx S' := by
     have q := q
     unfold Zfj at q ⊢
     rw [Zpb (hcy.trans bf)] at q
     exact q
    exact ih sb at' rx q
theorem Zyi (g : Good p C ca k ks W X) (hp : Own1 X) {body : List Stmt} {b : MS} {h₀ : ExceptHandler} {hds : List ExceptHandler} {hs : List Hd} {pos : Pos} (hb : ∀ W' X', Good p C ca k ks W' X' -> Own1 X' -> X'.kw = X.kw -> SB ca C W' X' E body b) (h : CkM p ks (h₀ :: hds) hs) :
  SS ca C W X E (.Try body (h₀ :: hds) [] [] pos) (.tr b hs) := by
 have body1 : ∀ (W' : WX) (pn : List (Addr × Obj)) (xe : Value -> Shared -> Prop), Takes (X.tr pn xe) W' -> PassesOwn (model X.prog X.w) X.A X.env xe -> PSs (X.tr pn xe) body (tS X.kw X.lc ca W' E (Zae C b)) := fun W' pn xe tk po => hb W' _ (g.tr tk) ⟨po, hp.stk, hp.frm⟩ rfl
 obtain ⟨l, hl, q⟩ := Z3t (E := E) g h
 refine PS.mono (Zm0 (tb := fun W' => tS X.kw X.lc ca W' E (Zae C b)) hp.stk hp.frm (by rw [g.N]; exact g.nd) g.tk body1 hl) fun D σ H ⟨φ, S, ρ, a, h0⟩ => ?_
 exact ⟨φ, S, ρ, a, R.wp_mono (Zyh h0) (fun fl S' z => z) fun xx S' c φ' H' σ' cls dd sb at' rx => q sb at' rx c⟩
end
end My
namespace My
open PySem PySem.Spec PyProof.Rows L2
variable [CP] [TC]
def Zpc (sc : Scope) (x y : Str) (px py : Pos) (vs : List Expr) : Bool :=
 decide (sc.names.lookup x = some .local) && decide (sc.names.lookup y = some .local) && decide (px.line = py.line) && !(x == y) && !(vs.all (foldedForSure 8)) && !(vs.all (constantsAlone 8))
def Zpd (sc : Scope) (x y z : Str) (px py pz : Pos) (vs : List Expr) : Bool :=
 decide (sc.names.lookup x = some .local) && decide (sc.names.lookup y = some .local) && decide (sc.names.lookup z = some .local) && decide (px.line = py.line) && decide (px.line = pz.line) && !(x == y) && !(x == z) && !(y == z) && !(vs.all (foldedForSure 8)) && !(vs.all (constantsAlone 8))
section
variable {p : Pg} {C : Cl} {ca : CA} {k : Nat} {ks : Ks} {W : WX} {X : Cx} {tg : Expr} {E : En}
theorem Good.bk (g : Good p C ca k ks W X) : X.env.blockKind = .function := by
 unfold Env.blockKind
 rw [g.kind]
 rfl
theorem Zgk {vs : List Expr} (h : Zaa vs = true) : (vs.any fun | .Starred .. => true | _ => false) = false := by
 induction vs with
 | nil => rfl
 | cons v vs ih =>
  rw [Zaa, Qas, Qaa] at h
  rw [List.any_cons, ih h.2]
  cases v <;> first | rfl | (cases h.1)
theorem Zso (g : Good p C ca k ks W X) {x y : Str} {px py pt pt2 : Pos} {kt k2 : Nat} {a b : Expr} (hs : Zaa [a, b] = true) (h : Zpc ks.sc x y px py [a, b] = true) :
  swappedStores [.Tuple [.Name x px, .Name y py] kt pt] (.Tuple [a, b] k2 pt2) X.env = pure (some [x, y]) := by
 simp only [Zpc, Qaa, Qab, Qav] at h
 obtain ⟨⟨⟨⟨⟨h1, h2⟩, h3⟩, h4⟩, h5⟩, h6⟩ := h
 have k1 : X.env.kindOf x = some .local := by unfold Env.kindOf; rw [g.sc]; exact h1
 have k2 : X.env.kindOf y = some .local := by unfold Env.kindOf; rw [g.sc]; exact h2
 have na := Zgk hs
 unfold swappedStores
 simp only [g.bk, k1, k2, h3, na, h5, h6, Expr.pos, List.filterMap, List.head?, Option.map, Option.getD]
 have hyx : (y == x) = false := by
  cases e : y == x with
  | false => rfl
  | true => rw [eq_of_beq e, beq_self_eq_true] at h4; cases h4
 simp [List.eraseDups, List.eraseDupsBy, List.eraseDupsBy.loop, h4, hyx]
 simp only [Zaa, Qas, Qaa] at hs
 rintro (z | z)
 ·cases a <;> first | (cases z; done) | (cases hs.1)
 ·cases b <;> first | (cases z; done) | (cases hs.2.1)
theorem Zsp (g : Good p C ca k ks W X) {x y z : Str} {px py pz pt pt2 : Pos} {kt k2 : Nat} {a b c : Expr} (hs : Zaa [a, b, c] = true) (h : Zpd ks.sc x y z px py pz [a, b, c] = true) :
  swappedStores [.Tuple [.Name x px, .Name y py, .Name z pz] kt pt] (.Tuple [a, b, c] k2 pt2) X.env = pure (some [x, y, z]) := by
 simp only [Zpd, Qaa, Qab, Qav] at h
 obtain ⟨⟨⟨⟨⟨⟨⟨⟨⟨h1, h2⟩, h2'⟩, h3⟩, h3'⟩, h4⟩, h4'⟩, h4''⟩, h5⟩, h6⟩ := h
 have k1 : X.env.kindOf x = some .local := by unfold Env.kindOf; rw [g.sc]; exact h1
 have k2 : X.env.kindOf y = some .local := by unfold Env.kindOf; rw [g.sc]; exact h2
 have k3 : X.env.kindOf z = some .local := by unfold Env.kindOf; rw [g.sc]; exact h2'
 have na := Zgk hs
 unfold swappedStores
 have sy : ∀ {u v : Str}, (u == v) = false -> (v == u) = false := fun {u v} h => by
  cases e : v == u with
  | false => rfl
  | true => rw [eq_of_beq e, beq_self_eq_true] at h; cases h
 simp only [g.bk, k1, k2, k3, <- h3, <- h3', na, h5, h6, Expr.pos, List.filterMap, List.head?, Option.map, Option.getD]
 simp [List.eraseDups, List.eraseDupsBy, List.eraseDupsBy.loop, h4, h4', h4'', sy h4, sy h4', sy h4'']
 simp only [Zaa, Qas, Qaa] at hs
 rintro (z | z | z)
 ·cases a <;> first | (cases z; done) | (cases hs.1)
 ·cases b <;> first | (cases z; done) | (cases hs.2.1)
 ·cases c <;> first | (cases z; done) | (cases hs.2.2.1)
inductive RPs (K : KW) (φ : Nat -> Addr) (n : Nat) (H : Hp) : List Sl -> List V -> Prop
 | nil : RPs K φ n H [] []
 | v {d : D} {v : V} {xs : List Sl} {vs : List V} : RV K φ n H d v -> RPs K φ n H xs vs -> RPs K φ n H (.v d :: xs) (v :: vs)
 | o {ob : O} {b : Addr} {xs : List Sl} {vs : List V} : Own K φ n H ob b -> RPs K φ n H xs vs -> (∀ (i : Nat) (o' : O), xs[i]? = some (.o o') -> vs[i]? ≠ some (.ref b)) -> RPs K φ n H (.o ob :: xs) (.ref b :: vs)
def Yc4 (H : Hp) (xs : List Sl) (vs : List V) : Prop := ∀ (i : Nat) (ob : O) (b : Addr), xs[i]? = some (.o ob) -> vs[i]? = some (.ref b) -> H b = none
section
variable {K : KW} {L : LC} {φ φ' : Nat -> Addr} {S S' : Store} {H H' : Hp} {ρ : Ev} {σ : L2.St}
theorem RPs.length {n : Nat} : ∀ {xs : List Sl} {vs : List V}, RPs K φ n H xs vs -> vs.length = xs.length
 | _, _, .nil => rfl
 | _, _, .v _ t => by simp [RPs.length t]
 | _, _, .o _ t _ => by simp [RPs.length t]
theorem RPs.mono (r : RelS K φ S H) (st : Step φ S H φ' S' H') : ∀ {xs : List Sl} {vs : List V}, RPs K φ S.nx H xs vs -> RPs K φ' S'.nx H' xs vs
 | _, _, .nil => .nil
 | _, _, .v h t => .v (h.mono r st) (RPs.mono r st t)
 | _, _, .o h t d => .o (h.mono r st) (RPs.mono r st t) d
theorem AtE.setPs : ∀ {is : List Nat} {xs : List Sl} {vs : List V} {ρ : Ev} {σ : L2.St}, AtE K L E φ S ρ σ H -> RPs K φ S.nx H xs vs ->
  (∀ (i : Nat) (ob : O) (b : Addr), xs[i]? = some (.o ob) -> vs[i]? = some (.ref b) -> E.H b = none /\ ∀ (j : Nat) (o' : O), ρ[j]? = some (.o o') -> σ[j]? ≠ some (some (.ref b))) -> AtE K L E φ S (setAll is xs ρ) (My.setVs is vs σ) H
 | [], _, _, _, _, a, _, _ => a
 | _ :: _, _, _, _, _, a, .nil, _ => a
 | i :: is, _, _, ρ, σ, a, .v (d := d) (v := v) h t, q => by
  refine AtE.setPs (is := is) (a.setV (i := i) h) t fun j ob b e1 e2 => ?_
  obtain ⟨q1, q2⟩ := q (j + 1) ob b (by simpa using e1) (by simpa using e2)
  refine ⟨q1, fun l o' h1 h2 => ?_⟩
  rcases Zal h1 with ⟨_, _, z⟩ | ⟨ne, h1⟩
  ·cases z
  ·rw [Qaq ne] at h2
   exact q2 l o' h1 h2
 | i :: is, _, _, ρ, σ, a, .o (ob := ob0) (b := b0) h t dist, q => by
  obtain ⟨q1, q2⟩ := q 0 ob0 b0 rfl rfl
  refine AtE.setPs (is := is) (a.setO (i := i) h (fun j o' _ hj => q2 j o' hj) q1) t fun j ob b e1 e2 => ?_
  obtain ⟨q1', q2'⟩ := q (j + 1) ob b (by simpa using e1) (by simpa using e2)
  refine ⟨q1', fun l o' h1 h2 => ?_⟩
  rcases Zal h1 with ⟨rfl, hl, _⟩ | ⟨ne, h1⟩
  ·rw [Qa3 (by rw [<- a.env.len]; exact hl)] at h2
   cases h2
   exact dist j ob e1 e2
  ·rw [Qaq ne] at h2
   exact q2' l o' h1 h2
end
def tP (K : KW) (L : LC) (ca : CA) (W : WX) (c : Ev -> Store -> R Xn (List Sl)) : TA := fun σ H Q => ∃ φ S ρ, At K L φ S ρ σ H /\
 (c ρ S).wp (fun xs S' => ∀ φ' H' vs, Step φ S H φ' S' H' -> RelS K φ' S' H' -> RPs K φ' S'.nx H' xs vs -> Yc4 H xs vs -> Q vs H') (Zck K ca φ S H fun cls dd H' => W cls dd σ H')
abbrev SP (ca : CA) (C : Cl) (W : WX) (X : Cx) (es : List Expr) (ms : List MP) : Prop := PA X es (tP X.kw X.lc ca W (evp C ms))
theorem Z3u : SP ca C W X [] [] := PA.mono pa_nil fun σ H Q ⟨φ, S, ρ, a, h⟩ => by
 simp only [evp] at h
 exact h φ H [] a.rel.refl a.rel .nil fun i ob b e => by simp at e
theorem Ygc {e : Expr} {es : List Expr} {m : ME} {ms : List MP} (hs : Zah e = true) (he : SE ca C W X e m) (hr : SP ca C W X es ms) : SP ca C W X (e :: es) (.v m :: ms) := by
 refine PA.mono (pa_cons he.pe hr (Zak hs es)) fun σ H Q ⟨φ, S, ρ, a, h⟩ => ?_
 simp only [evp] at h
 refine Zag a h fun dx S1 φ1 H1 x st1 a1 rx h1 => ?_
 rw [R.wp_bind] at h1
 refine ⟨φ1, S1, ρ, a1, R.wp_mono h1 (fun xs S2 h2 φ2 H2 vs st2 r2 rs nw => ?_) fun _ _ z => z⟩
 refine h2 φ2 H2 (x :: vs) (st1.trans st2) r2 (.v (rx.mono a1.rel st2) rs) fun i ob b e1 e2 => ?_
 cases i with
 | zero => simp at e1
 | succ i => exact st1.none (nw i ob b (by simpa using e1) (by simpa using e2))
theorem Ygd {e : Expr} {es : List Expr} {m : MO} {ms : List MP} (hs : Zah e = true) (he : SOb ca C W X e m) (hr : SP ca C W X es ms) : SP ca C W X (e :: es) (.o m :: ms) := by
 refine PA.mono (pa_cons he hr (Zak hs es)) fun σ H Q ⟨φ, S, ρ, a, h⟩ => ?_
 simp only [evp] at h
 rw [R.wp_bind] at h
 refine ⟨φ, S, ρ, a, R.wp_mono h (fun o S1 h1 φ1 H1 b st1 r1 ow hn => ?_) fun _ _ z => z⟩
 rw [R.wp_bind] at h1
 have a1 := a.step st1 r1
 refine ⟨φ1, S1, ρ, a1, R.wp_mono h1 (fun xs S2 h2 φ2 H2 vs st2 r2 rs nw => ?_) fun _ _ z => z.step st1⟩
 refine h2 φ2 H2 (.ref b :: vs) (st1.trans st2) r2 (.o (ow.mono r1 st2) rs fun i o' e1 e2 => ?_) fun i ob b' e1 e2 => ?_
 ·have := nw i o' b e1 e2
  obtain ⟨u, hu, _⟩ := ow.ob
  rw [this] at hu; cases hu
 ·cases i with
  | zero => simp at e2; subst e2; exact hn
  | succ i => exact st1.none (nw i ob b' (by simpa using e1) (by simpa using e2))
theorem Zux {φ φ1 : Nat -> Addr} {S S1 : Store} {H H1 : Hp} {ρ : Ev} {σ : L2.St} {is : List Nat} {xs : List Sl} {vs : List V} (a : AtE X.kw X.lc E φ S ρ σ H) (a1 : AtE X.kw X.lc E φ1 S1 ρ σ H1) (rs : RPs X.kw φ1 S1.nx H1 xs vs) (nw : Yc4 H xs vs) : AtE X.kw X.lc E φ1 S1 (setAll is xs ρ) (setVs is vs σ) H1 :=
 a1.setPs rs fun i ob b e1 e2 => ⟨a.st.none (nw i ob b e1 e2), fun j o' hj => a.toAt.new_ne (nw i ob b e1 e2) j o' hj⟩
theorem Zk7 {is : List Nat} {ms : List MP} {D : Ends} {σ : L2.St} {H : Hp} (h : tS X.kw X.lc ca W E (Zae C (.par is ms)) D σ H) : tP X.kw X.lc ca W (evp C ms) σ H fun vs H1 => vs.length = is.length /\ D.nx (setVs is vs σ) H1 := by
 obtain ⟨φ, S, ρ, a, h⟩ := h
 simp only [Zae] at h
 rw [R.wp_bind, R.wp_mapE] at h
 refine ⟨φ, S, ρ, a.toAt, R.wp_mono h (fun xs S1 h1 φ1 H1 vs st1 r1 rs nw => ?_) fun _ _ z => z.toX a⟩
 split at h1
 ·rename_i hl
  exact ⟨by rw [rs.length]; exact hl, h1 φ1 H1 _ (st1.sub a.rel) (Zux a (a.step st1 r1) rs nw)⟩
 ·exact h1.elim
theorem Zuy {c : Ev -> Store -> R Xn (List Sl)} {σ : L2.St} {H : Hp} {Q Q' : List V -> Hp -> Prop} (h : tP X.kw X.lc ca W c σ H Q) (q : ∀ b H', Q b H' -> Q' b H') : tP X.kw X.lc ca W c σ H Q' := by
 obtain ⟨φ, S, ρ, a, w⟩ := h
 exact ⟨φ, S, ρ, a, R.wp_mono w (fun _ _ z φ' H' b st r rb nw => q b H' (z φ' H' b st r rb nw)) fun _ _ z => z⟩
theorem Zdw {e : Expr} {i : Nat} (h : Zig p ks e i = true) : ∃ x pos, e = .Name x pos /\ p.N[i]? = some x := by
 unfold Zig at h
 split at h
 ·simp only [Qaa, Qab] at h
  exact ⟨_, _, rfl, h.1.1⟩
 ·cases h
theorem Zsq (g : Good p C ca k ks W X) {i j : Nat} {x y : Str} (hi : p.N[i]? = some x) (hj : p.N[j]? = some y) (h : (x == y) = false) : i ≠ j := fun z => by
 subst z
 rw [hi] at hj; cases hj
 rw [beq_self_eq_true] at h; cases h
theorem Zyj (g : Good p C ca k ks W X) {x y : Str} {px py pt pt2 pos : Pos} {kt k2 : Nat} {a b : Expr} {i j : Nat} {ms : List MP} (hi : p.N[i]? = some x) (hj : p.N[j]? = some y) (ha : SP ca C W X [a, b] ms) (hs : Zaa [a, b] = true) (h : Zpc ks.sc x y px py [a, b] = true) :
  SS ca C W X E (.Assign [.Tuple [.Name x px, .Name y py] kt pt] (.Tuple [a, b] k2 pt2) pos) (.par [i, j] ms) := by
 have h' := h
 simp only [Zpc, Qaa, Qab, Qav] at h'
 obtain ⟨⟨⟨⟨⟨h1, h2⟩, _⟩, h4⟩, _⟩, _⟩ := h'
 refine PS.mono (ps_par (i := i) (j := j) g.calm (by rw [g.N]; exact g.nd) (by rw [g.N]; exact hi) (by rw [g.N]; exact hj) (Zsq g hi hj h4) (by rw [g.sc]; exact h1) (by rw [g.sc]; exact h2) ha (Zso g hs h) rfl) fun D σ H h => ?_
 refine Zuy (Zk7 h) fun vs H1 ⟨hl, q⟩ => ?_
 match vs, hl, q with
 | [v, w], _, q => exact ⟨v, w, rfl, q⟩
theorem Zyk (g : Good p C ca k ks W X) {x y z : Str} {px py pz pt pt2 pos : Pos} {kt k2 : Nat} {a b c : Expr} {i j l : Nat} {ms : List MP} (hi : p.N[i]? = some x) (hj : p.N[j]? = some y) (hl : p.N[l]? = some z) (ha : SP ca C W X [a, b, c] ms) (hs : Zaa [a, b, c] = true) (h : Zpd ks.sc x y z px py pz [a, b, c] = true) :
  SS ca C W X E (.Assign [.Tuple [.Name x px, .Name y py, .Name z pz] kt pt] (.Tuple [a, b, c] k2 pt2) pos) (.par [i, j, l] ms) := by
 have h' := h
 simp only [Zpd, Qaa, Qab, Qav] at h'
 obtain ⟨⟨⟨⟨⟨⟨⟨⟨⟨h1, h2⟩, h2'⟩, _⟩, _⟩, h4⟩, h4'⟩, h4''⟩, _⟩, _⟩ := h'
 refine PS.mono (ps_par3 (i := i) (j := j) (l := l) g.calm (by rw [g.N]; exact g.nd) (by rw [g.N]; exact hi) (by rw [g.N]; exact hj) (by rw [g.N]; exact hl) (Zsq g hi hj h4) (Zsq g hi hl h4') (Zsq g hj hl h4'') (by rw [g.sc]; exact h1) (by rw [g.sc]; exact h2) (by rw [g.sc]; exact h2') ha (Zsp g hs h) rfl) fun D σ H h => ?_
 refine Zuy (Zk7 h) fun vs H1 ⟨hl, q⟩ => ?_
 match vs, hl, q with
 | [u, v, w], _, q => exact ⟨u, v, w, rfl, q⟩
theorem Zju (g : Good p C ca k ks W X) {ts vs : List Expr} {pt pt2 pos : Pos} {kt k2 : Nat} {is : List Nat} {ms : List MP} (ht : Zfe p ks ts is = true) (ha : SP ca C W X vs ms) (hsz : is.length <= sizeLine) (hsw : swappedStores [.Tuple ts kt pt] (.Tuple vs k2 pt2) X.env = pure none) :
  SS ca C W X E (.Assign [.Tuple ts kt pt] (.Tuple vs k2 pt2) pos) (.par is ms) := by
 obtain ⟨r1, r2, r3⟩ := Zg2 g ht
 refine PS.mono (ps_asg (pe_tup ha) (pg_tup g.calm r1 r2 r3) rfl hsw rfl) fun D σ H ⟨φ, S, ρ, a, h⟩ => ?_
 simp only [Zae] at h
 rw [R.wp_bind, R.wp_mapE] at h
 refine ⟨φ, S, ρ, a.toAt, R.wp_mono h (fun xs S1 h1 φ1 H1 vs st1 rr rs nw => ?_) fun _ _ z => z.toX a⟩
 split at h1
 ·rename_i hl
  refine ⟨by rw [rs.length, hl]; exact hsz, fun q hq => ?_⟩
  obtain ⟨r', st⟩ := rr.lay (o' := .tup vs) hq
  have hl' : vs.length = is.length := by rw [rs.length]; exact hl
  have a1 := (a.step st1 rr).step st r'
  exact ⟨q, vs, rfl, SqT.of upd_same, hl', hl', h1 φ1 _ _ ((st1.trans st).sub a.rel) (Zux a a1 (rs.mono rr st) nw)⟩
 ·exact h1.elim
theorem Zsr {env : Env} {ts vs : List Expr} {pt pt2 : Pos} {kt k2 : Nat} (h : 4 <= ts.length) : swappedStores [.Tuple ts kt pt] (.Tuple vs k2 pt2) env = pure none := by
 unfold swappedStores
 have e : (!(ts.length == 2 || ts.length == 3) || vs.length != ts.length || env.blockKind != .function) = true := by
  have e2 : (ts.length == 2) = false := by simp; omega
  have e3 : (ts.length == 3) = false := by simp; omega
  rw [e2, e3]; rfl
 simp only [e]
 rfl
theorem Z3v {α β : Type} {f : α -> Option β} {x : α} : ∀ {l : List α}, x ∈ l -> f x = none -> (l.filterMap f).length < l.length
 | [], h, _ => by simp at h
 | y :: l, h, e => by
  rw [Qai]
  have le := List.length_filterMap_le f l
  rcases Qaf.mp h with rfl | h
  ·rw [List.filterMap_cons, e]; show (l.filterMap f).length < _; omega
  ·have ih := Z3v (f := f) h e
   rw [List.filterMap_cons]
   cases f y with
   | none => show (l.filterMap f).length < _; omega
   | some z => show (l.filterMap f).length + 1 < _; omega
def Z93 (sc : Scope) (ts : List Expr) : Bool := ts.any fun t => match t with
 | .Name x _ => decide (sc.names.lookup x ≠ some .local)
 | _ => false
theorem Zss {env : Env} {ts vs : List Expr} {pt pt2 : Pos} {kt k2 : Nat} (h : Z93 env.scope ts = true) : swappedStores [.Tuple ts kt pt] (.Tuple vs k2 pt2) env = pure none := by
 unfold Z93 at h
 obtain ⟨t, ht, e⟩ := Qa1.mp h
 unfold swappedStores
 simp only
 split
 ·rfl
 split
 ·rfl
 refine Qan ?_
 rw [Bool.or_eq_true]
 left
 have := Z3v (f := fun
  | .Name id pos => if env.kindOf id == some .local && pos.line == (ts.head?.map (·.pos.line)).getD 0 then some id else none
  | _ => none) ht (by
   split at e
   ·rename_i x px
    have n := Qau e
    have k : (env.kindOf x == some .local) = false := by
     unfold Env.kindOf
     cases q : env.scope.names.lookup x == some .local with
     | false => rfl
     | true => exact absurd (eq_of_beq q) n
    simp only [k]
    rfl
   ·cases e)
 rw [bne_iff_ne]
 exact Qbg this
end
theorem Zpe {env : Env} {ts vs : List Expr} {pt pt2 : Pos} {kt k2 : Nat} (h : vs.all (foldedForSure 8) = true) : swappedStores [.Tuple ts kt pt] (.Tuple vs k2 pt2) env = pure none := by
 unfold swappedStores
 simp only [h, if_true]
 split
 ·rfl
 split
 ·rfl
 split
 ·rfl
 rfl
def Zuz (ks : Ks) (ts vs : List Expr) : Bool := match ts, vs with
 | [.Name x px, .Name y py], [a, b] => Zpc ks.sc x y px py [a, b]
 | [.Name x px, .Name y py, .Name z pz], [a, b, c] => Zpd ks.sc x y z px py pz [a, b, c]
 | _ :: _ :: _ :: _ :: _, _ => decide (ts.length <= 30)
 | _, _ => false
def Zyl (ks : Ks) (ts vs : List Expr) : Bool := (Z93 ks.sc ts && decide (ts.length <= 30)) || (vs.all (foldedForSure 8) && decide (ts.length <= 30)) || Zuz ks ts vs
def Zst (p : Pg) (n : Nat) (ks : Ks) : List Expr -> List MP -> Bool
 | [], [] => true
 | e :: es, .v m :: ms => Zah e && okE p n ks e m && Zst p n ks es ms
 | e :: es, .o m :: ms => Zah e && Zi5 p n ks e m && Zst p n ks es ms
 | _, _ => false
def Zsu (p : Pg) (n : Nat) (ks : Ks) (tg elt : Expr) (gens : List Comprehension) (scope : Scope) (pos : Pos) (i : Nat) (m : MO) : Bool := match tg, gens, m with
 | .Name y py, [⟨tg, iter, ifs, as⟩], .lc vs t it c m => decide (p.N[i]? = some y) && decide (ks.sc.names.lookup y = some .local) && decide (py.line = pos.line) && !(scope.names.any fun (n, k) => n == y && (k == .local || k == .cell)) &&
  Znc p n ks elt tg iter ifs as scope vs t it c m
 | .Name y py, [⟨tg, iter, ifs, as⟩, ⟨tg1, iter1, ifs1, as1⟩], .lc2 vs t it c vs1 t1 it1 c1 m => decide (p.N[i]? = some y) && decide (ks.sc.names.lookup y = some .local) && decide (py.line = pos.line) && !(scope.names.any fun (n, k) => n == y && (k == .local || k == .cell)) &&
  Znc p n ks elt tg iter ifs as scope vs t it c m && Z0p p n ks tg1 iter1 ifs1 as1 scope vs vs1 t1 it1 c1
 | _, _, _ => false
def Zsv (p : Pg) (n : Nat) (ks : Ks) (tg kx elt : Expr) (gens : List Comprehension) (scope : Scope) (pos : Pos) (i : Nat) (m : MO) : Bool := match tg, gens, m with
 | .Name y py, [⟨tg, iter, ifs, as⟩], .dc vs t it c mk m => decide (p.N[i]? = some y) && decide (ks.sc.names.lookup y = some .local) && decide (py.line = pos.line) && !(scope.names.any fun (n, k) => n == y && (k == .local || k == .cell)) &&
  Znc p n ks elt tg iter ifs as scope vs t it c m && okE p n (ks.blk scope) kx mk
 | .Name y py, [⟨tg, iter, ifs, as⟩], .dcT vs t it c mk m => decide (p.N[i]? = some y) && decide (ks.sc.names.lookup y = some .local) && decide (py.line = pos.line) && !(scope.names.any fun (n, k) => n == y && (k == .local || k == .cell)) &&
  Znc p n ks elt tg iter ifs as scope vs t it c m && okE p n (ks.blk scope) kx mk
 | _, _, _ => false
def Z3w (ks : Ks) : Expr -> Bool
 | .Name y _ => decide (ks.sc.names.lookup y = some .cell)
 | _ => false
def Zym (p : Pg) (n : Nat) (ks : Ks) (tg e : Expr) (t : MT) (m : ME) : Bool := match e with
 | .ListComp elt gens scope pos => (match t, m with
  | .nm i, .frz o => Zsu p n ks tg elt gens scope pos i o || (Z3w ks tg && okE p n ks (.ListComp elt gens scope pos) (.frz o) && okT p ks tg (.nm i))
  | _, _ => false)
 | .DictComp kx elt gens scope pos => (match t, m with
  | .nm i, .frz o => Zsv p n ks tg kx elt gens scope pos i o
  | _, _ => false)
 | e => okE p n ks e m && okT p ks tg t && Zb5 e && !(Zc7 tg && Zc7 e)
def Zyn (p : Pg) (n : Nat) (ks : Ks) (tg e : Expr) (i : Nat) (m : MO) : Bool := match e with
 | .ListComp elt gens scope pos => Zsu p n ks tg elt gens scope pos i m
 | .DictComp kx elt gens scope pos => Zsv p n ks tg kx elt gens scope pos i m
 | e => Zi5 p n ks e m && Zig p ks tg i && Zb5 e
def Zyo (p : Pg) (ks : Ks) (eh : ExceptHandler) (h : Hd) : Bool := match eh with
 | .ExceptHandler (some (.Name c _)) nm [.Assign [tg] e _] _ => (match p.xs.find? fun x => decide (x.c = c) with
  | some x => ks.gl c && Zac c && Zig p ks tg h.j && okH h.nm p.N ks h.e e && Zb5 e && (p.xs.all fun y => (h.cs.contains y.c == y.up.contains c) && (!(y.up.contains c) || ((Zqw h.e).all y.fs.contains && ((Zqx h.e).all fun c => y.up.contains c && p.xs.any fun z => decide (z.c = c)) && (!(Zuw h.e) || y.up.contains "~ValueError")))) && (match nm, h.nm with
   | none, none => true
   | some m, some i => decide (p.N[i]? = some m) && decide (ks.sc.names.lookup m = some .local) && decide (i ≠ h.j)
   | _, _ => false)
  | none => false)
 | _ => false
def Zsw (p : Pg) (ks : Ks) : List ExceptHandler -> List Hd -> Bool
 | [], [] => true
 | eh :: r, h :: hs => Zyo p ks eh h && Zsw p ks r hs
 | _, _ => false
theorem Zk8 {p : Pg} {ks : Ks} : ∀ {hds : List ExceptHandler} {hs : List Hd}, Zsw p ks hds hs = true -> CkM p ks hds hs
 | [], [], _ => .nil
 | [], _ :: _, h => by cases h
 | _ :: _, [], h => by cases h
 | eh :: r, hd :: hs, h => by
  have h : (Zyo p ks eh hd && Zsw p ks r hs) = true := h
  rw [Qaa] at h
  obtain ⟨h0, hr⟩ := h
  have ih := Zk8 hr
  unfold Zyo at h0
  split at h0
  ·rename_i c np nm tg e pos'' pos'
   split at h0
   ·rename_i x hf
    have hx := List.mem_of_find?_eq_some hf
    have hc : x.c = c := by have := List.find?_some hf; exact Qau this
    simp only [Qaa, Qap] at h0
    obtain ⟨⟨⟨⟨⟨⟨h1, h2⟩, h4⟩, h5⟩, h6⟩, h7⟩, h8⟩ := h0
    rw [<- hc] at h1 h2 h7 ⊢
    refine .cons hx h1 h2 h4 h5 h6 (fun y hy => by have := (h7 y hy).1; simpa using this) (fun y hy hb f hf => by
      have := (h7 y hy).2
      rw [hb] at this
      simp only [Bool.not_true, Bool.false_or, Qaa, Qap] at this
      simpa using this.1.1 f hf) (fun y hy hb => by
      have := (h7 y hy).2
      rw [hb] at this
      simp only [Bool.not_true, Bool.false_or, Qaa, Qap, Qa1, Qab] at this
      refine ⟨fun c hc => this.1.2 c hc, fun q => ?_⟩
      have t := this.2
      rw [q] at t
      simpa using t) ?_ ih
    cases nm with
    | none =>
     cases hn : hd.nm with
     | none => exact .inl ⟨rfl, rfl⟩
     | some i => rw [hn] at h8; cases h8
    | some m =>
     cases hn : hd.nm with
     | none => rw [hn] at h8; cases h8
     | some i =>
      rw [hn] at h8
      simp only [Qaa, Qab] at h8
      exact .inr ⟨i, m, rfl, rfl, h8.1.1, h8.1.2, h8.2⟩
   ·cases h0
  ·cases h0
mutual
def okS (p : Pg) (n : Nat) : Nat -> Ks -> Stmt -> MS -> Bool
 | 0, _, _, _ => false
 | d + 1, ks, st, ms => match ms with
  | .skip => (match st with
   | .Pass _ => true
   | _ => false)
  | .brk => (match st with
   | .Break _ => true
   | _ => false)
  | .ctn => (match st with
   | .Continue _ => true
   | _ => false)
  | .seq _ _ => false
  | .fz _ => false
  | .wipe _ => false
  | .alt _ _ _ => false
  | .cl _ => false
  | .ndef _ _ _ => false
  | .fin _ _ => false
  | .byc _ _ a b => okS p n d ks st a && okS p n d ks st b
  | .stop => true
  | .setF c o f m => (match st with
   | .Assign [.Attribute o' f' _] e _ => decide (f' = f) && okE p n ks o' o && okE p n ks e m && Z0k p.cs c f
   | _ => false)
  | .rais c fs es => (match st with
   | .Raise (some (.Call (.Name c' _) es' [] _)) none _ => decide (c' = c) && (match p.xs.find? fun x => decide (x.c = c) with
    | some x => decide (x.fs = fs)
    | none => false) && ks.gl c && Zac c && Zev p n ks es' es && (es'.isEmpty == fs.isEmpty)
   | _ => false)
  | .tr b hs => (match st with
   | .Try body (h0 :: hds) [] [] _ => Zin p n d ks body b && Zsw p ks (h0 :: hds) hs
   | _ => false)
  | .mutS o f es => (match st with
   | .Expr (.Call (.Attribute o' nm ap) es' [] cp) _ => Zcb o' && okE p n ks o' o && decide (nm = ufN f) && Zev p n ks es' es && decide (ap.endLine = cp.line) && decide (es'.length < 30) && !es'.isEmpty
   | _ => false)
  | .asg t m => (match st with
   | .Assign [tg] e _ => Zym p n ks tg e t m
   | _ => false)
  | .new i m => (match st with
   | .Assign [tg] e _ => Zyn p n ks tg e i m
   | _ => false)
  | .par is es => (match st with
   | .Assign [.Tuple ts _ _] (.Tuple vs _ _) _ => Zfe p ks ts is && Zst p n ks vs es && Zyl ks ts vs && decide (is.length = ts.length)
   | _ => false)
  | .expr m => (match st with
   | .Expr e _ => okE p n ks e m && Zb5 e
   | _ => false)
  | .ret m => (match st with
   | .Return (some e) _ => okE p n ks e m
   | _ => false)
  | .ife c a b => (match st with
   | .If c' a' b' _ => okE p n ks c' c && Zin p n d ks a' a && Zin p n d ks b' b
   | _ => false)
  | .for_ t it b => (match st with
   | .For tg iter body [] _ => okI p n ks iter it (Zc7 tg) && Zbx iter && okT p ks tg t && Zin p n d ks body b
   | _ => false)
  | .whl _ c b => (match st with
   | .While c' body [] _ => okE p n ks c' c && Zin p n d ks body b
   | _ => false)
  | .setI o i e => (match st with
   | .Assign [.Subscript o' i' _] e' _ => okE p n ks o' o && okE p n ks i' i && okE p n ks e' e && Zb5 e' && Zfd i'
   | _ => false)
  | .setN j i e => (match st with
   | .Assign [.Subscript (.Name x _) i' _] e' _ => decide (p.N[j]? = some x) && ks.vis x && Zac x && okE p n ks i' i && okE p n ks e' e && Zb5 e' && Zfd i'
   | _ => false)
  | .mut j f es => (match st with
   | .Expr (.Call (.Attribute (.Name x _) nm ap) es' [] cp) _ => decide (p.N[j]? = some x) && ks.vis x && Zac x && decide (nm = ufN f) && Zev p n ks es' es && decide (ap.endLine = cp.line) && decide (es'.length < 30) && !es'.isEmpty
   | _ => false)
def Zin (p : Pg) (n : Nat) : Nat -> Ks -> List Stmt -> MS -> Bool
 | 0, _, _, _ => false
 | d + 1, ks, sts, ms => match ms with
  | .seq (.fz _) b => Zin p n d ks sts b
  | .seq (.wipe _) b => Zin p n d ks sts b
  | .alt _ a b => Zin p n d ks sts a && Zin p n d ks sts b
  | .byc _ _ a b => Zin p n d ks sts a && Zin p n d ks sts b
  | .skip => (match sts with
   | [] => true
   | _ => false)
  | .seq a b => (match sts with
   | s :: r => okS p n d ks s a && Zin p n d ks r b
   | [] => false)
  | _ => false
end
end My
namespace My
open PySem PySem.Spec PyProof.Rows L2
variable [CP] [TC]
section
variable {p : Pg} {C : Cl} {ca : CA} {k : Nat} {ks : Ks} {W : WX} {X : Cx} {tg : Expr} {E : En}
theorem Zu0 (g : Good p C ca k ks W X) {n i : Nat} {elt : Expr} {gens : List Comprehension} {scope : Scope} {pos spos : Pos} {m : MO} (h : Zsu p n ks tg elt gens scope pos i m = true) :
  SS ca C W X E (.Assign [tg] (.ListComp elt gens scope pos) spos) (.new i m) /\ SS ca C W X E (.Assign [tg] (.ListComp elt gens scope pos) spos) (.asg (.nm i) (.frz m)) := by
 have ih := snd (p := p) (C := C) (ca := ca) (k := k) n
 unfold Zsu at h
 split at h
 ·simp only [Qaa, Qab, Qav] at h
  obtain ⟨⟨⟨⟨h1, h2⟩, h3⟩, h4⟩, h5⟩ := h
  obtain ⟨rfl, q2, q3, q4, q5, q6, q7, q8, q9⟩ := ih.lc _ _ _ _ _ _ _ _ _ _ _ _ _ _ g h5
  exact ⟨Z3n g h1 h2 h3 h4 q2 q3 q4 q5 q6 q7 q8 q9, Z3o g h1 h2 h3 h4 q2 q3 q4 q5 q6 q7 q8 q9⟩
 ·simp only [Qaa, Qab, Qav] at h
  obtain ⟨⟨⟨⟨⟨h1, h2⟩, h3⟩, h4⟩, h5⟩, h6⟩ := h
  obtain ⟨rfl, q2, q3, q4, q5, q6, q7, q8, q9⟩ := ih.lc _ _ _ _ _ _ _ _ _ _ _ _ _ _ g h5
  obtain ⟨rfl, l1, l2, l3, l4, l5, l6⟩ := ih.l2 _ _ _ _ _ _ _ _ _ _ _ _ _ g trivial h6
  have z := Z2y (spos := spos) g h1 h2 h3 h4 q2 q3 q4 q5 q6 q7 q8 q9 l1 l2 l3 l4 l5 l6
  exact ⟨Zo8 z, Zo9 z⟩
 ·cases h
theorem Zu1 (g : Good p C ca k ks W X) {n i : Nat} {kx elt : Expr} {gens : List Comprehension} {scope : Scope} {pos spos : Pos} {m : MO} (h : Zsv p n ks tg kx elt gens scope pos i m = true) :
  SS ca C W X E (.Assign [tg] (.DictComp kx elt gens scope pos) spos) (.new i m) /\ SS ca C W X E (.Assign [tg] (.DictComp kx elt gens scope pos) spos) (.asg (.nm i) (.frz m)) := by
 have ih := snd (p := p) (C := C) (ca := ca) (k := k) n
 unfold Zsv at h
 split at h
 ·simp only [Qaa, Qab, Qav] at h
  obtain ⟨⟨⟨⟨⟨h1, h2⟩, h3⟩, h4⟩, h5⟩, h6⟩ := h
  obtain ⟨rfl, q2, q3, q4, q5, q6, q7, q8, q9⟩ := ih.lc _ _ _ _ _ _ _ _ _ _ _ _ _ _ g h5
  have z := Z9k (spos := spos) g h1 h2 h3 h4 q2 q3 q4 q5 q6 q7 q8 (fun X' g' => ih.e _ _ _ _ _ g' h6) q9
  exact ⟨Zo8 z, Zo9 z⟩
 ·simp only [Qaa, Qab, Qav] at h
  obtain ⟨⟨⟨⟨⟨h1, h2⟩, h3⟩, h4⟩, h5⟩, h6⟩ := h
  obtain ⟨rfl, q2, q3, q4, q5, q6, q7, q8, q9⟩ := ih.lc _ _ _ _ _ _ _ _ _ _ _ _ _ _ g h5
  have z := Z22 (spos := spos) g h1 h2 h3 h4 q2 q3 q4 q5 q6 q7 q8 (fun X' g' => ih.e _ _ _ _ _ g' h6) q9
  exact ⟨Zo8 z, Zo9 z⟩
 ·cases h
theorem Zyp (g : Good p C ca k ks W X) {e : Expr} {m : ME} {t : MT} {pos : Pos} (he : SE ca C W X e m) (ht : okT p ks tg t = true) (hn : swapsWithSole [tg] e pos.line X.env = pure false) (hs : (Zc7 tg && Zc7 e) = false) : SS ca C W X E (.Assign [tg] e pos) (.asg t m) :=
 PS.mono (ps_asg he.pe (sgE g ht) hn (Zo6 ht hs) (Zjt (Zg4 ht))) fun D σ H h => Zk4 h
theorem Zyq (g : Good p C ca k ks W X) {elt : Expr} {gens : List Comprehension} {scope : Scope} {pos : Pos} {l : Nat} (h : Z3w ks tg = true) : swapsWithSole [tg] (.ListComp elt gens scope pos) l X.env = pure false := by
 cases tg with
 | Name y py =>
  have h := Qau (show decide (ks.sc.names.lookup y = some .cell) = true from h)
  have ky : X.env.kindOf y = some .cell := by
   show X.env.scope.names.lookup y = _
   rw [g.sc]; exact h
  have sw : swapsWith (.ListComp elt gens scope pos) (some (.Name y py)) l X.env = pure false := by
   unfold swapsWith
   simp only [ky]
   have nl : (some PySem.NameKind.cell == some PySem.NameKind.local) = false := rfl
   simp only [nl, Bool.and_false, Bool.false_and]
  exact sw
 | _ => cases h
theorem Z3x (g : Good p C ca k ks W X) {n : Nat} {e : Expr} {t : MT} {m : ME} {pos : Pos} (h : Zym p n ks tg e t m = true) : SS ca C W X E (.Assign [tg] e pos) (.asg t m) := by
 have ih := snd (p := p) (C := C) (ca := ca) (k := k) n
 unfold Zym at h
 split at h
 ·split at h
  ·rcases Bool.or_eq_true_iff.mp h with h | h
   ·exact (Zu0 g h).2
   ·simp only [Qaa] at h
    exact Zyp g (ih.e _ _ _ _ _ g h.1.2) h.2 (Zyq g h.1.1) (by cases tg <;> rfl)
  ·cases h
 ·split at h
  ·exact (Zu1 g h).2
  ·cases h
 ·simp only [Qaa, Qav] at h
  exact Z3h g (ih.e _ _ _ _ _ g h.1.1.1) h.1.1.2 h.1.2 h.2
theorem Z3y (g : Good p C ca k ks W X) {n : Nat} {e : Expr} {i : Nat} {m : MO} {pos : Pos} (h : Zyn p n ks tg e i m = true) : SS ca C W X E (.Assign [tg] e pos) (.new i m) := by
 have ih := snd (p := p) (C := C) (ca := ca) (k := k) n
 unfold Zyn at h
 split at h
 ·exact (Zu0 g h).1
 ·exact (Zu1 g h).1
 ·simp only [Qaa] at h
  exact Z3i g (ih.ob _ _ _ _ _ g h.1.1).1 h.1.2 h.2
theorem Zyr (g : Good p C ca k ks W X) {n : Nat} : ∀ {es : List Expr} {ms : List MP}, Zst p n ks es ms = true -> SP ca C W X es ms /\ Zaa es = true
 | [], [], _ => ⟨Z3u, rfl⟩
 | [], _ :: _, h => by simp [Zst] at h
 | _ :: _, [], h => by simp [Zst] at h
 | e :: es, .v m :: ms, h => by
  simp only [Zst, Qaa] at h
  obtain ⟨a, b⟩ := Zyr g h.2
  exact ⟨Ygc h.1.1 ((snd n).e _ _ _ _ _ g h.1.2) a, by rw [Zaa, Qas, Qaa]; exact ⟨h.1.1, b⟩⟩
 | e :: es, .o m :: ms, h => by
  simp only [Zst, Qaa] at h
  obtain ⟨a, b⟩ := Zyr g h.2
  exact ⟨Ygd h.1.1 ((snd n).ob _ _ _ _ _ g h.1.2).1 a, by rw [Zaa, Qas, Qaa]; exact ⟨h.1.1, b⟩⟩
theorem Z3z (g : Good p C ca k ks W X) {n : Nat} {ts vs : List Expr} {is : List Nat} {ms : List MP} {pt pt2 pos : Pos} {kt k2 : Nat} (h1 : Zfe p ks ts is = true) (h2 : Zst p n ks vs ms = true) (h3 : Zyl ks ts vs = true) (h4 : is.length = ts.length) : SS ca C W X E (.Assign [.Tuple ts kt pt] (.Tuple vs k2 pt2) pos) (.par is ms) := by
 obtain ⟨ha, hst⟩ := Zyr g h2
 unfold Zyl at h3
 rw [Bool.or_eq_true, Bool.or_eq_true] at h3
 rcases h3 with (h3 | h3) | h3
 ·rw [Qaa] at h3
  refine Zju g h1 ha ?_ (Zss (by rw [g.sc]; exact h3.1))
  have := Qau h3.2
  rw [h4, sizeLine_eq]
  omega
 ·rw [Qaa] at h3
  refine Zju g h1 ha ?_ (Zpe h3.1)
  have := Qau h3.2
  rw [h4, sizeLine_eq]
  omega
 unfold Zuz at h3
 split at h3
 ·match is, h4 with
  | [i, j], _ =>
   simp only [Zfe, Qaa, and_true] at h1
   obtain ⟨x, q, e, n1⟩ := Zdw h1.1
   cases e
   obtain ⟨y, q, e, n2⟩ := Zdw h1.2
   cases e
   exact Zyj g n1 n2 ha hst h3
 ·match is, h4 with
  | [i, j, l], _ =>
   simp only [Zfe, Qaa, and_true] at h1
   obtain ⟨x, q, e, n1⟩ := Zdw h1.1
   cases e
   obtain ⟨y, q, e, n2⟩ := Zdw h1.2.1
   cases e
   obtain ⟨z, q, e, n3⟩ := Zdw h1.2.2
   cases e
   exact Zyk g n1 n2 n3 ha hst h3
 ·refine Zju g h1 ha ?_ (Zsr (by simp))
  have := Qau h3
  rw [h4, sizeLine_eq]
  omega
 ·cases h3
theorem Zk9 {i : Nat} {c : Str} {a b : MS} {D : Ends} {σ : L2.St} {H : Hp} (h : tS X.kw X.lc ca W E (Zae C (.byc i c a b)) D σ H) : tS X.kw X.lc ca W E (Zae C a) D σ H \/ tS X.kw X.lc ca W E (Zae C b) D σ H := by
 obtain ⟨φ, S, ρ, z, h⟩ := h
 simp only [Zae] at h
 split at h
 ·exact .inl ⟨φ, S, ρ, z, h⟩
 ·exact .inr ⟨φ, S, ρ, z, h⟩
theorem Z30 {st : Stmt} {i : Nat} {c : Str} {a b : MS} (ha : SS ca C W X E st a) (hb : SS ca C W X E st b) : SS ca C W X E st (.byc i c a b) :=
 ⟨fun pins s σ H D I q => (Zk9 q).elim (fun q => ha.run pins s σ H D I q) fun q => hb.run pins s σ H D I q⟩
theorem Z31 {sts : List Stmt} {i : Nat} {c : Str} {a b : MS} (ha : SB ca C W X E sts a) (hb : SB ca C W X E sts b) : SB ca C W X E sts (.byc i c a b) :=
 ⟨fun pins s σ H D I q => (Zk9 q).elim (fun q => ha.run pins s σ H D I q) fun q => hb.run pins s σ H D I q⟩
theorem Yc5 : ∀ (d n : Nat), (∀ ks W X E st m, Good p C ca k ks W X -> Own1 X -> okS p n d ks st m = true -> SS ca C W X E st m) /\ (∀ ks W X E sts m, Good p C ca k ks W X -> Own1 X -> Zin p n d ks sts m = true -> SB ca C W X E sts m)
 | 0, n => ⟨fun _ _ _ _ _ _ _ _ h => by simp [okS] at h, fun _ _ _ _ _ _ _ _ h => by simp [Zin] at h⟩
 | d + 1, n => by
  obtain ⟨i1, i2⟩ := Yc5 d n
  have ih := snd (p := p) (C := C) (ca := ca) (k := k) n
  refine ⟨fun ks W X E st m g hp h => ?_, fun ks W X E sts m g hp h => ?_⟩
  ·cases m with
   | skip =>
    simp only [okS] at h
    split at h
    ·exact Zx4
    ·cases h
   | brk =>
    simp only [okS] at h
    split at h
    ·exact Z3c
    ·cases h
   | ctn =>
    simp only [okS] at h
    split at h
    ·exact Z3d
    ·cases h
   | seq a b => simp [okS] at h
   | fz j => simp [okS] at h
   | wipe j => simp [okS] at h
   | alt j a b => simp [okS] at h
   | cl is => simp [okS] at h
   | ndef i x is => simp [okS] at h
   | fin b f => simp [okS] at h
   | byc i c a b =>
    simp only [okS, Qaa] at h
    exact Z30 (i1 _ _ _ _ _ _ g hp h.1) (i1 _ _ _ _ _ _ g hp h.2)
   | asg t m =>
    simp only [okS] at h
    split at h
    ·exact Z3x g h
    ·cases h
   | new i m =>
    simp only [okS] at h
    split at h
    ·exact Z3y g h
    ·cases h
   | par is es =>
    simp only [okS] at h
    split at h
    ·simp only [Qaa, Qab] at h
     exact Z3z g h.1.1.1 h.1.1.2 h.1.2 h.2
    ·cases h
   | expr m =>
    simp only [okS] at h
    split at h
    ·rw [Qaa] at h
     exact Zx6 (ih.e _ _ _ _ _ g h.1) h.2
    ·cases h
   | ret m =>
    simp only [okS] at h
    split at h
    ·exact Z3f (ih.e _ _ _ _ _ g h)
    ·cases h
   | ife c a b =>
    simp only [okS] at h
    split at h
    ·simp only [Qaa] at h
     exact Z3g (ih.e _ _ _ _ _ g h.1.1) (i2 _ _ _ _ _ _ g hp h.1.2) (i2 _ _ _ _ _ _ g hp h.2)
    ·cases h
   | for_ t it b =>
    simp only [okS] at h
    split at h
    ·simp only [Qaa] at h
     exact Z3l g hp.po (ih.i _ _ _ _ _ _ _ g h.1.1.1 Zfi) h.1.1.2 h.1.2 (i2 _ _ _ _ _ _ g hp h.2)
    ·cases h
   | whl n c b =>
    simp only [okS] at h
    split at h
    ·rw [Qaa] at h
     exact Z3m g hp.po (ih.e _ _ _ _ _ g h.1) (i2 _ _ _ _ _ _ g hp h.2)
    ·cases h
   | setI o i e =>
    simp only [okS] at h
    split at h
    ·simp only [Qaa] at h
     exact Zx7 g (ih.e _ _ _ _ _ g h.1.1.1.1) (ih.e _ _ _ _ _ g h.1.1.1.2) (ih.e _ _ _ _ _ g h.1.1.2) h.1.2 h.2
    ·cases h
   | setN j i e =>
    simp only [okS] at h
    split at h
    ·simp only [Qaa, Qab] at h
     obtain ⟨⟨⟨⟨⟨⟨h1, h2⟩, h3⟩, h4⟩, h5⟩, h6⟩, h7⟩ := h
     exact Zx8 g h1 h2 h3 (ih.e _ _ _ _ _ g h4) (ih.e _ _ _ _ _ g h5) h6 h7
    ·cases h
   | stop => exact Zyb
   | rais c fs es =>
    simp only [okS] at h
    split at h
    ·simp only [Qaa, Qab] at h
     obtain ⟨⟨⟨⟨⟨hcc, h2⟩, h3⟩, h4⟩, h5⟩, h6⟩ := h
     split at h2
     ·rename_i x hf
      have hx := List.mem_of_find?_eq_some hf
      have hc : x.c = c := by have := List.find?_some hf; exact Qau this
      have h2 := Qau h2
      subst h2
      subst hc
      subst hcc
      obtain ⟨a1, a2⟩ := ih.a _ _ _ _ _ g h5
      exact Zyd g hx h3 h4 a1 (Zaq h5) a2 (by simpa using h6)
     ·cases h2
    ·cases h
   | tr b hs =>
    simp only [okS] at h
    split at h
    ·rw [Qaa] at h
     exact Zyi g hp (fun W' X' g' o' _ => i2 _ _ _ _ _ _ g' o' h.1) (Zk8 h.2)
    ·cases h
   | setF c o f m =>
    simp only [okS] at h
    split at h
    ·simp only [Qaa, Qab] at h
     obtain ⟨⟨⟨rfl, h2⟩, h3⟩, h4⟩ := h
     exact Zya g (ih.e _ _ _ _ _ g h2) (ih.e _ _ _ _ _ g h3) h4
    ·cases h
   | mutS o f es =>
    simp only [okS] at h
    split at h
    ·rename_i es' _ _
     simp only [Qaa, Qab] at h
     obtain ⟨⟨⟨⟨⟨⟨h0, h1⟩, rfl⟩, h5⟩, h6⟩, h7⟩, h8⟩ := h
     cases es' with
     | nil => simp at h8
     | cons e es' => exact Zx9 g h0 (ih.e _ _ _ _ _ g h1) (ih.a _ _ _ _ _ g h5).1 (Zaq h5) h6 h7
    ·cases h
   | «mut» j f es =>
    simp only [okS] at h
    split at h
    ·rename_i es' _ _
     simp only [Qaa, Qab] at h
     obtain ⟨⟨⟨⟨⟨⟨⟨h1, h2⟩, h3⟩, rfl⟩, h5⟩, h6⟩, h7⟩, h8⟩ := h
     cases es' with
     | nil => simp at h8
     | cons e es' => exact Z3j g h1 h2 h3 (ih.a _ _ _ _ _ g h5).1 (Zaq h5) h6 h7
    ·cases h
  ·simp only [Zin] at h
   split at h
   ·exact Z90 (i2 _ _ _ _ _ _ g hp h)
   ·exact Zyc (i2 _ _ _ _ _ _ g hp h)
   ·rw [Qaa] at h
    exact Z3k (i2 _ _ _ _ _ _ g hp h.1) (i2 _ _ _ _ _ _ g hp h.2)
   ·rw [Qaa] at h
    exact Z31 (i2 _ _ _ _ _ _ g hp h.1) (i2 _ _ _ _ _ _ g hp h.2)
   ·split at h
    ·exact Z3e
    ·cases h
   ·split at h
    ·rw [Qaa] at h
     exact Zx5 (i1 _ _ _ _ _ _ g hp h.1) (i2 _ _ _ _ _ _ g hp h.2)
    ·cases h
   ·cases h
end
end My
namespace My
open PySem PySem.Spec PyProof.Rows L2
variable [CP] [TC]
def Zfz : MS -> List Nat × MS
 | .seq (.cl is) b => (is, b)
 | m => ([], m)
structure PhiX (Φ : Str -> Option Df) (x : Str) (df : Df) : Prop where
 e : Φ x = some df
 cp : CP.cp x = (Zfz df.body).1
def MkT (q : Str) (st : Stmt) (fd : FuncData) : Prop := CP.mks.contains st.pos.line = true -> ∃ c P, fd.code = .ref c /\ (c, P, q ++ ".<locals>.") ∈ TC.T
structure DefT (fs : List Str) (gs : List (Str × D)) (gd : List (Str × List (Str × Int))) (xs : List XI) (cs : List CI) (st : Stmt) (N ps : List Str) (df : Df) : Prop where
 sc : FnScope N ps (defScope st)
 np : df.np = ps.length
 n : df.n = N.length
 bd : ∀ (nm q : Str) (kV doc pm : Value) (an : Option Addr) (cdv ct : Value) (us : List Value), us.length = ps.length -> bindArgs (PySem.W.fnOf nm q (defArgs st) (defBody st) (defScope st) .none kV doc pm an cdv ct) ⟨us, []⟩ = pure (ps.zip us)
 ok : Zin ⟨N, fs, gs, gd, xs, cs⟩ 60 80 ⟨defScope st, defScope st, true, CP.mks.contains st.pos.line⟩ (defBody st) (Zfz df.body).2 = true
def Hd_ (K : PySem.W.Frag) (fs : List Str) (gs : List (Str × D)) (gd : List (Str × List (Str × Int))) (xs : List XI) (cs : List CI) (Φ : Str -> Option Df) (x : Str) (at_ : Addr -> Prop) : Prop :=
 ∃ df st N ps f fd nm q, PhiX Φ x df /\ DefT fs gs gd xs cs st N ps df /\ (FunB K nm q st ps f fd /\ MkT q st fd) /\ at_ f
def HdC (w : World) (K : PySem.W.Frag) (mg : Str -> Option Value) (fs : List Str) (gs : List (Str × D)) (gd : List (Str × List (Str × Int))) (xs : List XI) (cs : List CI) (Φ : Str -> Option Df) (y : Str) : Prop :=
 ∃ df st N ps f fd nm q x us dvs, PhiX Φ x df /\ DefT fs gs gd xs cs st N ps df /\ (FunB K nm q st ps f fd /\ MkT q st fd) /\ PySem.W.nsIn K mainGlobals (bsN y) = some (some (.ref f)) /\ mg (bsN y) = some (.ref f) /\ Binds K fd ps us /\ Vals dvs us /\ (Zbf y = false -> us = []) /\
  ∀ (k : Nat) (ca : CA) (P : Program) L vs H Q E, spC ca (call Φ k) ⟨K, P, w⟩ y L vs H Q E -> spC ca (call Φ k) ⟨K, P, w⟩ x L (vs ++ dvs) H Q E
theorem HdC.of {w : World} {K : PySem.W.Frag} {mg : Str -> Option Value} {fs : List Str} {gs : List (Str × D)} {gd : List (Str × List (Str × Int))} {xs : List XI} {cs : List CI} {Φ : Str -> Option Df} {x : Str}
  (h : Hd_ K fs gs gd xs cs Φ x fun f => PySem.W.nsIn K mainGlobals x = some (some (.ref f)) /\ mg x = some (.ref f)) (e : Zbf x = false) : HdC w K mg fs gs gd xs cs Φ x := by
 obtain ⟨df, st, N, ps, f, fd, nm, q, h1, h2, h3, h4, h5⟩ := h
 refine ⟨df, st, N, ps, f, fd, nm, q, x, [], [], h1, h2, h3, by rw [Zfg e]; exact h4, by rw [Zfg e]; exact h5, h3.1.bn, .nil, fun _ => rfl, fun k ca P L vs H Q E z => ?_⟩
 rw [Qa5]
 exact z
def MkC (w : World) (K : PySem.W.Frag) (fs : List Str) (gs : List (Str × D)) (gd : List (Str × List (Str × Int))) (xs : List XI) (cs : List CI) (Φ : Str -> Option Df) (y : Str) (B : Addr) : Prop :=
 ∃ df st N ps f fd nm q x us dvs, PhiX Φ x df /\ DefT fs gs gd xs cs st N ps df /\ (FunB K nm q st ps f fd /\ MkT q st fd) /\ Mk K B f /\ Binds K fd ps us /\ Vals dvs us /\
  ∀ (k : Nat) (ca : CA) (P : Program) L vs H Q E, spC ca (call Φ k) ⟨K, P, w⟩ y L vs H Q E -> spC ca (call Φ k) ⟨K, P, w⟩ x L (vs ++ dvs) H Q E
theorem MkC.of {w : World} {K : PySem.W.Frag} {fs : List Str} {gs : List (Str × D)} {gd : List (Str × List (Str × Int))} {xs : List XI} {cs : List CI} {Φ : Str -> Option Df} {x : Str} {B : Addr} (h : Hd_ K fs gs gd xs cs Φ x (Mk K B)) : MkC w K fs gs gd xs cs Φ x B := by
 obtain ⟨df, st, N, ps, f, fd, nm, q, h1, h2, h3, h4⟩ := h
 refine ⟨df, st, N, ps, f, fd, nm, q, x, [], [], h1, h2, h3, h4, h3.1.bn, .nil, fun k ca P L vs H Q E z => ?_⟩
 rw [Qa5]
 exact z
structure Top (w : World) (K : PySem.W.Frag) (mg : Str -> Option Value) (fs : List Str) (gs : List (Str × D)) (gd : List (Str × List (Str × Int))) (Φ : Str -> Option Df) (xs : List XI) (cs : List CI) (ca : CA) : Prop where
 tu : ∀ q ∈ TC.T, ∀ r ∈ TC.T, q.2.1 = r.2.1 -> q.2.2 = r.2.2
 lam : ∀ x li, TC.lam x li ↔ LmE ⟨[], fs, gs, gd, xs, cs⟩ li x
 lmΦ : ∀ x m, CP.lm x = some m -> Φ x = some m.df
 cl : ∀ x ∈ cs, ∃ B, PySem.W.nsIn K mainGlobals x.c = some (some (.ref B)) /\ mg x.c = some (.ref B) /\ Cls K B /\ (∀ f ∈ x.fs, NoAttr K B f) /\
  (∀ q ∈ x.ms, Hd_ K fs gs gd xs cs Φ q.2 (Zwh K B q.1)) /\ (Z0l x = true -> OwnT K B) /\ MkC w K fs gs gd xs cs Φ x.ini B
 fs : ∀ x, fs.contains x = true -> HdC w K mg fs gs gd xs cs Φ x
 gs : ∀ x d, gs.lookup x = some d -> ∃ v u, mg x = some u /\ RelV v u /\ ∀ (P : Program) φ n H, RV ⟨K, P, w⟩ φ n H d v
 gd : ∀ x kvs, gd.lookup x = some kvs -> Yc2 K w mg x kvs
 bl : ∀ f, mg (bfN f) = none
 ob : ∀ f, mg (ofN f) = none
 ty : ∀ t, mg (tyS t) = none
 ii : mg "isinstance" = none
 rg : mg "range" = none
 en : mg "enumerate" = none
 zp : mg "zip" = none
 se : mg "set" = none
 ex : ∀ x ∈ xs, ∃ B, ca x.c = some B /\ XCls K mg x B
 sub : ∀ x ∈ xs, ∀ y ∈ xs, ∀ B B', ca x.c = some B -> ca y.c = some B' -> PySem.W.exmOne K (.ref B) (.ref B') = some (x.up.contains y.c)
 cax : ∀ c B, ca c = some B -> ∃ x ∈ xs, x.c = c
section
variable {P : Program} {w : World} {K : PySem.W.Frag} {mg : Str -> Option Value} {base : Heap} {ca : CA} {fs : List Str} {gs : List (Str × D)} {gd : List (Str × List (Str × Int))} {Φ : Str -> Option Df} {xs : List XI} {cs : List CI}
theorem Zla {Z : KW} {N : List Str} {φ : Nat -> Addr} {S : Store} {H : Hp} {ds : List D} {vs : List V} (r : RelS Z φ S H) (h : RVs Z φ S.nx H ds vs) {L : LC} : AtE Z L ⟨φ, S, H⟩ φ S (ds.map .v ++ List.replicate (N.length - ds.length) .no) (start N vs) H := by
 have hl := h.length
 have no : ∀ (i : Nat) (ob : O), (ds.map Sl.v ++ List.replicate (N.length - ds.length) Sl.no)[i]? ≠ some (.o ob) := fun i ob e => by
  have m := Qbi e
  rcases Qbh.mp m with m | m
  ·obtain ⟨d, _, z⟩ := Qa2.mp m; cases z
  ·have := (List.mem_replicate.mp m).2; cases this
 have no2 : ∀ (i : Nat) (sl : Sl), (ds.map Sl.v ++ List.replicate (N.length - ds.length) Sl.no)[i]? = some sl -> (∃ d, sl = .v d) \/ sl = .no := fun i sl e => by
  have m := Qbi e
  rcases Qbh.mp m with m | m
  ·obtain ⟨d, _, z⟩ := Qa2.mp m
   exact .inl ⟨d, z.symm⟩
  ·exact .inr (List.mem_replicate.mp m).2
 refine ⟨⟨r, ⟨?_, fun i d e => ?_, fun i ob e => absurd e (no i ob), fun i j o o' v _ e => absurd e (no i o), fun i x cs e => ?_, fun i x cs e => ?_⟩⟩, r.refl, fun j ob b e => absurd e (no j ob)⟩
 rotate_left 2
 ·rcases no2 i _ e with ⟨d, z⟩ | z <;> cases z
 ·rcases no2 i _ e with ⟨d, z⟩ | z <;> cases z
 ·unfold L2.start; simp [hl]
 ·by_cases hi : i < ds.length
  ·rw [Qbc (by simpa using hi)] at e
   have ed : ds[i]? = some d := by
    rw [Qar] at e
    cases z : ds[i]? with
    | none => rw [z] at e; cases e
    | some d' => rw [z] at e; cases e; rfl
   obtain ⟨v, e1, e2⟩ := h.get ed
   refine ⟨v, ?_, e2⟩
   unfold L2.start
   rw [Qbc (by simp; omega), Qar, e1]
   rfl
  ·rw [List.getElem?_append_right (by simp; omega)] at e
   rw [List.getElem?_replicate] at e
   split at e <;> cases e
omit [CP] [TC] in
theorem Zg7 {k : Nat} {x : Str} {df : Df} {ds : List D} {S : Store} (h : Φ x = some df) : call Φ (k + 1) x ds S = if ds.length = df.np then
   match Zae (call Φ k) df.body (ds.map .v ++ List.replicate (df.n - ds.length) .no) S with
   | .ok (.rt d) S' => .ok d S'
   | .ok (.nx _) S' => .ok .non S'
   | .ok _ _ => .bad
   | .exc x S' => .exc x.1 S'
   | .bad => .bad
  else .bad := by
 simp only [call, h] <;> rfl
theorem Zlb {C : Cl} {b : MS} {ρ : Ev} {S : Store} : Zae C b ρ S = match Zc9 (Zfz b).1 ρ with
  | some ρ' => Zae C (Zfz b).2 ρ' S
  | none => .bad := by
 cases b with
 | seq a b' =>
  cases a with
  | cl is =>
   simp only [Zfz, Zae]
   cases Zc9 is ρ <;> rfl
  | _ => rfl
 | _ => rfl
theorem AtE.cl {Z : KW} {L : LC} {E : En} {φ : Nat -> Addr} {S : Store} {H : Hp} {σ : L2.St} : ∀ {is : List Nat} {ρ ρ' : Ev}, AtE Z L E φ S ρ σ H -> (∀ j ∈ is, ∀ x cs, ρ[j]? = some (.v (.clo x cs)) -> ∃ f, σ[j]? = some (some (.ref f)) /\ CloR L Z φ S.nx H x cs f) -> Zc9 is ρ = some ρ' -> AtE Z L E φ S ρ' σ H
 | [], ρ, ρ', a, _, h => by cases h; exact a
 | i :: is, ρ, ρ', a, q, h => by
  unfold Zc9 at h
  split at h
  ·rename_i x cs e
   obtain ⟨f, e1, cr⟩ := q i Qag x cs e
   have no : ∀ {j : Nat} {sl : Sl}, (ρ.set i (.c x cs))[j]? = some sl -> (j = i /\ sl = .c x cs) \/ (j ≠ i /\ ρ[j]? = some sl) := fun {j sl} h => by
    rcases Zal h with ⟨w, _, z⟩ | ⟨z, h⟩
    ·exact .inl ⟨w.symm, z.symm⟩
    ·exact .inr ⟨fun w => z w.symm, h⟩
   refine AtE.cl (is := is) ⟨⟨a.rel, ⟨by simpa using a.env.len, fun j d h => ?_, fun j o h => ?_, fun j l o o' v jl h1 h2 h3 h4 => ?_, fun j y ds h => ?_, fun j y js h => ?_⟩⟩, a.st, fun j o b h1 h2 => ?_⟩ (fun j hj y ds hh => ?_) h
   ·rcases no h with ⟨_, z⟩ | ⟨_, h⟩
    ·cases z
    ·exact a.env.at_ j d h
   ·rcases no h with ⟨_, z⟩ | ⟨_, h⟩
    ·cases z
    ·exact a.env.own j o h
   ·rcases no h1 with ⟨_, z⟩ | ⟨_, h1⟩
    ·cases z
    ·rcases no h2 with ⟨_, z⟩ | ⟨_, h2⟩
     ·cases z
     ·exact a.env.inj j l o o' v jl h1 h2 h3 h4
   ·rcases no h with ⟨w, z⟩ | ⟨_, h⟩
    ·cases z
     rw [w]
     exact ⟨f, e1, cr⟩
    ·exact a.env.clo j y ds h
   ·rcases no h with ⟨_, z⟩ | ⟨_, h⟩
    ·cases z
    ·exact a.env.df j y js h
   ·rcases no h1 with ⟨_, z⟩ | ⟨_, h1⟩
    ·cases z
    ·exact a.fr j o b h1 h2
   ·rcases no hh with ⟨_, z⟩ | ⟨_, hh⟩
    ·cases z
    ·exact q j (Qae _ hj) y ds hh
  ·cases h
theorem Zpf {Z : KW} {L : LC} {N : List Str} {φ : Nat -> Addr} {n : Nat} {H : Hp} {ds : List D} {vs : List V} {j : Nat} (h : Z6r L Z φ n H ds vs j) {x : Str} {cs : List D} (e : (ds.map Sl.v ++ List.replicate (N.length - ds.length) Sl.no)[j]? = some (.v (.clo x cs))) : ∃ f, (start N vs)[j]? = some (some (.ref f)) /\ CloR L Z φ n H x cs f := by
 obtain ⟨y, ds', f, e1, e2, cr⟩ := h
 have hj : j < ds.length := (Qay.mp e1).1
 have hv : j < vs.length := (Qay.mp e2).1
 rw [Qbc (by simpa using hj), Qar, e1] at e
 cases e
 refine ⟨f, ?_, cr⟩
 unfold L2.start
 rw [Qbc (by simpa using hv), Qar, e2]
 rfl
abbrev Tb (base : Heap) (mg : Str -> Option Value) : Prop := ∀ q ∈ TC.T, LamX.TabB base mg q.1 q.2.1
structure AllK (P : Program) (w : World) (K : PySem.W.Frag) (mg : Str -> Option Value) (base : Heap) (fs : List Str) (gs : List (Str × D)) (gd : List (Str × List (Str × Int))) (Φ : Str -> Option Df) (xs : List XI) (cs : List CI) (ca : CA) (k : Nat) : Prop where
 d : ∀ (y nm qn : Str) (df : Df) (st : Stmt) (N ps : List Str) (f : Addr) (fd : FuncData), PhiX Φ y df -> DefT fs gs gd xs cs st N ps df -> FunB K nm qn st ps f fd -> MkT qn st fd -> FnG P w K mg base (2 * k + 2) f fd ps (spC ca (call Φ k) ⟨K, P, w⟩ y)
 l : ∀ x li, TC.lam x li -> FnL P w K mg base (2 * k + 2) li (spC ca (call Φ k) ⟨K, P, w⟩ x)
section
variable {N : List Str} {k : Nat} {ks : Ks} {X : Cx} {W : WX}
theorem Zpg (T : Top w K mg fs gs gd Φ xs cs ca) (ih : AllK P w K mg base fs gs gd Φ xs cs ca k) (eN : X.N = N) (nd : N.Nodup) (sc : X.env.scope = ks.sc) (kind : X.env.scope.kind = .function) (st : ∀ x, ks.st x = true -> Loc X.env.scope x /\ (X.fn x = true \/ X.env.scope.names.lookup x = some .local)) (calm : X.calm = true) (gu : X.A.guards = some []) (room : Room (2 * k + 3) X.A) (tk : Takes X W)
  (eP : X.prog = P) (ew : X.w = w) (eK : X.K = K) (em : X.mg = mg) (eb : X.base = base)
  (mk : ks.mk' = true -> ∃ c P, X.env.code = .ref c /\ LamX.TabB X.base X.mg c P /\ (c, P, X.env.qual) ∈ TC.T /\ ∀ q ∈ TC.T, q.2.1 = P -> q.2.2 = X.env.qual) (df : ks.df = true -> X.outer.length < X.stack.length /\ X.ex = [] /\ ∀ y c, X.env.cells.lookup y = some c -> c ∉ X.fs) : Good ⟨N, fs, gs, gd, xs, cs⟩ (call Φ k) ca (2 * k) ks W X := by
 subst eP ew eK em eb
 refine ⟨eN, nd, sc, kind, st, calm, gu, room, tk, fun x d h => (let ⟨v, u, a, b, c⟩ := T.gs x d h; ⟨v, u, a, b, c X.prog⟩), T.gd, T.bl, T.ob, T.ty, T.ii, T.rg, T.en, T.zp, T.se, fun y hy => ?_, T.ex, T.sub, T.cax, fun y hy => ?_, ih.l, fun x li h => (T.lam x li).mpr h, mk, df⟩
 ·obtain ⟨df', st', N', ps', f', fd', nm', q', x', us', dvs', h1, h2, h3, h4, h5, h6, h7, h8, h9⟩ := T.fs y hy
  exact ⟨f', fd', ps', us', dvs', _, h4, h5, h3.1.kp, h6, h7, h8, ih.d _ _ _ _ _ _ _ _ _ h1 h2 h3.1 h3.2, fun L vs H Q E z => h9 k ca X.prog L vs H Q E z⟩
 ·obtain ⟨B, c1, c2, c3, c4, c5, cw, c6⟩ := T.cl y hy
  refine ⟨B, c1, c2, c3, c4, fun q hq => ?_, cw, ?_⟩
  ·obtain ⟨df', st', N', ps', f', fd', nm', q', h1, h2, h3, h4⟩ := c5 q hq
   exact ⟨f', fd', ps', h4, h3.1.bn, ih.d _ _ _ _ _ _ _ _ _ h1 h2 h3.1 h3.2⟩
  ·obtain ⟨df', st', N', ps', f', fd', nm', q', x', us', dvs', h1, h2, h3, h4, h5, h6, h7⟩ := c6
   exact ⟨f', fd', ps', us', dvs', _, h4, h5, h6, ih.d _ _ _ _ _ _ _ _ _ h1 h2 h3.1 h3.2, fun L vs H Q E z => h7 k ca X.prog L vs H Q E z⟩
end
theorem Z32 {h base : Heap} {l : List Env} (F : h.FunFrames base l) {b : Addr} (hb : b ∈ frs l) : b < h.objs.size := by
 obtain ⟨_, o, e, _⟩ := F.mem hb
 exact Heap.lt_size e
theorem Z33 (T : Top w K mg fs gs gd Φ xs cs ca) (tb : Tb base mg) {k : Nat} {x nm qn : Str} {df : Df} {st : Stmt} {N ps : List Str} {f : Addr} {fd : FuncData} (h : PhiX Φ x df) (T1 : DefT fs gs gd xs cs st N ps df) (F : FunB K nm qn st ps f fd) (M : MkT qn st fd) (ih : AllK P w K mg base fs gs gd Φ xs cs ca k) :
  FnG P w K mg base (2 * (k + 1) + 2) f fd ps (spC ca (call Φ (k + 1)) ⟨K, P, w⟩ x) := by
 refine FnG.of (k := 2 * k + 3) F T1.sc (fun L vs H Q E ⟨φ, S, ds, r, rs, _, q⟩ => ?_) fun cdv A outer s H vs Q E hgu hcd hro he hce ⟨φ, S, ds, r, rs, hcl, q⟩ => ?_
 ·rw [Zg7 h.e] at q
  split at q
  ·rename_i hl
   rw [rs.length, hl, T1.np]
  ·exact q.elim
 ·rw [Zg7 h.e] at q
  have g : Good ⟨N, fs, gs, gd, xs, cs⟩ (call Φ k) ca (2 * k) ⟨defScope st, defScope st, true, CP.mks.contains st.pos.line⟩ (fun cls d _ H => E cls d H) (cxOf (L2.CX P w) P w K mg base N qn (defScope st) f cdv A outer s H E) := by
   refine Zpg T ih rfl T1.sc.nd rfl T1.sc.kind (fun y hy => ⟨?_, .inl rfl⟩) rfl hgu hro (takes_of rfl rfl rfl rfl) rfl rfl rfl rfl rfl (fun hm => ?_) fun _ => ⟨Nat.lt_succ_self _, rfl, fun y c hc hf => ?_⟩
   ·unfold Ks.st at hy
    split at hy
    ·rename_i e; exact .inl e
    ·rename_i e; exact .inr e
    ·cases hy
   ·obtain ⟨c, P', e1, e2⟩ := M hm
    exact ⟨c, P', hcd.symm.trans e1, tb _ e2, e2, fun q hq e => T.tu q hq _ e2 e⟩
   ·exact Nat.lt_irrefl _ (Qa4 (Z32 he.funs hf) (hce y c hc))
  refine ⟨_, ((Yc5 80 60).2 _ _ _ ⟨φ, S, H⟩ _ _ g ⟨passes_of rfl, rfl, rfl⟩ T1.ok), ?_⟩
  split at q
  ·rw [Zlb] at q
   rw [T1.n] at q
   cases e : Zc9 (Zfz df.body).1 (ds.map Sl.v ++ List.replicate (N.length - ds.length) Sl.no) with
   | none => rw [e] at q; exact q.elim
   | some ρ' =>
    rw [e] at q
    dsimp only at q
    have a := Zla (N := N) (L := Cx.lc (cxOf (L2.CX P w) P w K mg base N qn (defScope st) f cdv A outer s H E)) r rs
    have a2 := a.cl (fun j hj y cs' z => by
     obtain ⟨f', g1, g2⟩ := Zpf (N := N) (hcl j (by rw [h.cp]; exact hj)) z
     exact ⟨f', g1, g2.weak fun cl fr ws q _ => ⟨q.1, q.2, fun y c _ z => nomatch z⟩⟩) e
    refine ⟨φ, S, _, a2, ?_⟩
    generalize Zae (call Φ k) (Zfz df.body).2 _ S = res at q ⊢
    match res, q with
    | .ok (.rt d) S', q => exact q
    | .ok (.nx ρ) S', q => exact fun φ' H' σ' _ a => q φ' H' .non a.st a.rel .non
    | .exc x S', q => exact fun φ' H' σ' cls dd _ a rx => q φ' H' cls dd a.st a.rel rx
  ·exact q.elim
theorem Z94 {nm ql : Str} {bd : FuncBody} {sc : Scope} {cl : List (Str × Addr)} {ct doc pm code : Value} : bindArgs { name := nm, qualname := ql, params := { posonlyargs := [], args := [], vararg := none, kwonlyargs := [], kw_defaults := [], kwarg := none, defaults := [] }, body := bd, scope := sc, globals := mainGlobals, closure := cl, defaults := .none, kwdefaults := .none, doc := doc, pyModule := pm, annotations := none, code := code, closureTuple := ct, builtins := builtinsNs } ⟨[], []⟩ = pure [] := by rfl
theorem Z95 {nm ql : Str} {bd : FuncBody} {sc : Scope} {cl : List (Str × Addr)} {ct doc pm code : Value} {x : Str} {an : Option Expr} {ps : Pos} {u : Value} : bindArgs { name := nm, qualname := ql, params := { posonlyargs := [], args := [⟨x, an, ps⟩], vararg := none, kwonlyargs := [], kw_defaults := [], kwarg := none, defaults := [] }, body := bd, scope := sc, globals := mainGlobals, closure := cl, defaults := .none, kwdefaults := .none, doc := doc, pyModule := pm, annotations := none, code := code, closureTuple := ct, builtins := builtinsNs } ⟨[u], []⟩ = pure [(x, u)] := by
 have e : (x == x) = true := beq_self_eq_true x
 unfold bindArgs
 simp [e, seqItems?]
 rfl
theorem Z96 {x y : Str} (ne : x ≠ y) {nm ql : Str} {bd : FuncBody} {sc : Scope} {cl : List (Str × Addr)} {ct doc pm code : Value} {an an' : Option Expr} {ps ps' : Pos} {u v : Value} : bindArgs { name := nm, qualname := ql, params := { posonlyargs := [], args := [⟨x, an, ps⟩, ⟨y, an', ps'⟩], vararg := none, kwonlyargs := [], kw_defaults := [], kwarg := none, defaults := [] }, body := bd, scope := sc, globals := mainGlobals, closure := cl, defaults := .none, kwdefaults := .none, doc := doc, pyModule := pm, annotations := none, code := code, closureTuple := ct, builtins := builtinsNs } ⟨[u, v], []⟩ = pure [(x, u), (y, v)] := by
 have e : (x == x) = true := beq_self_eq_true x
 have e2 : (y == y) = true := beq_self_eq_true y
 have e3 : (y == x) = false := beq_eq_false_iff_ne.mpr (Ne.symm ne)
 unfold bindArgs
 simp [e, e2, e3, seqItems?, List.lookup]
 rfl
theorem Zsx {li : LI} {cl : List (Str × Addr)} {c : Addr} {ps : List Str} (h : Z0o li.params ps = true) (nd : ps.Nodup) (doc pm ctv : Value) (us : List Value) (hl : us.length = ps.length) : bindArgs ((li.at cl c).fd doc pm ctv) ⟨us, []⟩ = pure (ps.zip us) := by
 unfold Z0o at h
 simp only [Qaa, List.isEmpty_iff, Option.isNone_iff_eq_none, Qab] at h
 obtain ⟨⟨⟨⟨⟨⟨⟨h1, h2⟩, h3⟩, h4⟩, h5⟩, h6⟩, h7⟩, h8⟩ := h
 obtain ⟨nm, ql, ⟨a1, a2, a3, a4, a5, a6, a7⟩, bd, sc, fr⟩ := li
 dsimp only at h1 h2 h3 h4 h5 h6 h7
 subst h1 h2 h3 h4 h5 h6 h7
 match a2, us, hl, h8, nd with
 | [], [], _, _, _ => exact Z94
 | [⟨x, an, q⟩], [u], _, _, _ => exact Z95
 | [⟨x, an, q⟩, ⟨y, an', q'⟩], [u, v], _, _, nd => exact Z96 (by simpa using nd)
 | _ :: _ :: _ :: _, _, _, h8, _ => simp at h8
theorem Zph {N : List Str} {vs ws : List V} : NdefX.startF N vs (ws.map some) = L2.start N (vs ++ ws) := by
 unfold NdefX.startF L2.start
 rw [List.map_append, List.append_assoc, Qbd, Qal, Nat.sub_sub]
theorem Z34 (T : Top w K mg fs gs gd Φ xs cs ca) {k : Nat} {x : Str} {li : LI} (h : TC.lam x li) (ih : AllK P w K mg base fs gs gd Φ xs cs ca k) : FnL P w K mg base (2 * (k + 1) + 2) li (spC ca (call Φ (k + 1)) ⟨K, P, w⟩ x) := by
 obtain ⟨m, b, mb, n, em, efr, eb, hl, ebd, hk⟩ := (T.lam x li).mp h
 have eΦ := T.lmΦ x m em
 unfold lmB at hl
 simp only [Qaa, Qab] at hl
 obtain ⟨⟨⟨hpar, hsc⟩, hnp⟩, hnn⟩ := hl
 have Sc := NdefX.nscope_by hsc
 constructor
 intro f c cl A outer s H us vs ws Q E hgu hro he hz hc hkn hva ⟨φ, S, ds, r, rs, hcl, q⟩
 rw [Zg7 eΦ] at q
 split at q
 rotate_left 1
 ·exact q.elim
 rename_i hdl
 have hws : ws.length = m.fr.length := by
  have := hkn.1.len
  rw [Qal, efr] at this
  exact this
 have hpnd : m.ps.Nodup := by
  have h1 := Sc.nd.sublist (List.take_sublist (m.ps.length + m.fr.length) m.N)
  rw [Sc.pre] at h1
  exact (List.nodup_append.mp h1).1
 have hvl : vs.length = m.ps.length := by
  have h1 := rs.length
  rw [Qbd, hdl, hnp, hws] at h1
  omega
 have lim : s.heap.NoLimit := he.mod.nolimit.keeps fun b o e => (he.bs b o e).1
 obtain ⟨od, sl, doc, pm, ctv, ho⟩ := Zou he.hok hz
 have g : Good ⟨m.N, fs, gs, gd, xs, cs⟩ (call Φ k) ca (2 * k) ⟨li.scope, li.scope, true, false⟩ (fun cls d _ H => E cls d H) (NdefX.ncx (L2.CX P w) P w K mg base m.N ⟨li.name, li.qual, li.params, [], li.scope, cl, c⟩ f A outer s H E) := by
  refine Zpg T ih rfl Sc.nd rfl Sc.kind (fun y hy => ?_) rfl hgu (hro.deeper _) (takes_of rfl rfl rfl rfl) rfl rfl rfl rfl rfl (fun z => by cases z) fun _ => ⟨Nat.lt_succ_self _, rfl, fun y c hc hf => hkn.2 y c hc hf⟩
  unfold Ks.st at hy
  split at hy
  ·rename_i e; exact ⟨.inl e, .inr e⟩
  ·rename_i e; exact absurd rfl (Sc.nocell _ (PySem.mem_of_lookup e))
  ·cases hy
 have se := (snd (p := ⟨m.N, fs, gs, gd, xs, cs⟩) (C := call Φ k) (ca := ca) (k := 2 * k) n).e _ _ _ _ _ g hk
 refine PySem.W.kla_callFunE hro.depth ho rfl Sc.co Sc.gen (show li.body = _ from eb) (Zr9 he.hok hc) ?_
 rw [Zsx hpar hpnd doc pm ctv us (by rw [<- hva.length]; exact hvl)]
 refine Qah (wpAny_newFunctionEnv Sc.nocell (fun ⟨n', _⟩ hy => Sc.par n' (List.of_mem_zip hy).1) (fun h₁ hns hsb => ⟨lim.fresh _ hsb, ?_⟩) Sc.kind)
 show codeAny _ _ (.expr b (NdefX.envF ⟨li.name, li.qual, li.params, [], li.scope, cl, c⟩ f s.heap.objs.size)) _ _
 have kp : ∀ b o, s.heap.get? b = some o -> h₁.get? b = some o := fun b o e => hsb.extBut b o (Qbg (Heap.lt_size e)) (Qam _ e)
 have CA : NdefX.CellsAt cl m.fr (ws.map some) s.heap H := by
  rw [<- efr]
  exact hkn.1
 have I : Inv (NdefX.ncx (L2.CX P w) P w K mg base m.N ⟨li.name, li.qual, li.params, [], li.scope, cl, c⟩ f A outer s H E) [] (NdefX.startF m.N vs (ws.map some)) H { s with heap := h₁, toks := s.toks + (m.ps.zip us).length } := NdefX.inv_startN Sc hro.hd he hvl hva CA hns kp
 rw [Zph] at I
 rw [Zlb, ebd, hnn] at q
 have e2 : (Zfz (.seq (.cl (CP.cp x)) (.ret mb))).1 = CP.cp x := rfl
 have e3 : (Zfz (.seq (.cl (CP.cp x)) (.ret mb))).2 = .ret mb := rfl
 rw [e2, e3] at q
 cases e : Zc9 (CP.cp x) (ds.map Sl.v ++ List.replicate (m.N.length - ds.length) Sl.no) with
 | none => rw [e] at q; exact q.elim
 | some ρ' =>
  rw [e] at q
  have a := Zla (N := m.N) (L := Cx.lc (NdefX.ncx (L2.CX P w) P w K mg base m.N ⟨li.name, li.qual, li.params, [], li.scope, cl, c⟩ f A outer s H E)) r rs
  have a2 := a.cl (fun j hj y cs' z => by
   obtain ⟨f', g1, g2⟩ := Zpf (N := m.N) (hcl j hj) z
   exact ⟨f', g1, g2.weak fun cl fr ws q _ => ⟨q.1, q.2, fun y c _ z => nomatch z⟩⟩) e
  have q2 : (ev (call Φ k) mb ρ' S).wp (Zd4 ⟨K, P, w⟩ φ S H Q) (Zck ⟨K, P, w⟩ ca φ S H E) := by
   simp only [Zae] at q
   generalize ev (call Φ k) mb ρ' S = res at q ⊢
   match res, q with
   | .ok d S', q => exact q
   | .exc x S', q => exact q
  refine PySem.W.kla_codeExpr (wpAny_mono (se.pe.run [] _ _ H Q I ⟨φ, S, ρ', a2.toAt, q2⟩) (fun u s' hs => ?_) fun e s' hs => hs)
  obtain ⟨v, H', J, rv, z⟩ := hs
  exact ⟨v, H', J.os, J.bare, J.base, J.hok, rv, z⟩
theorem Top.all_ok (T : Top w K mg fs gs gd Φ xs cs ca) (tb : Tb base mg) : ∀ k, AllK P w K mg base fs gs gd Φ xs cs ca k
 | 0 => ⟨fun _ _ _ _ _ _ _ _ _ _ _ _ _ => ⟨fun L vs H Q E ⟨φ, S, ds, _, _, _, h⟩ => h.elim, fun _ _ _ _ _ _ _ _ _ _ _ _ _ _ ⟨φ, S, ds, _, _, _, h⟩ => h.elim⟩, fun _ _ _ => ⟨fun _ _ _ _ _ _ _ _ _ _ _ _ _ _ _ _ _ _ _ ⟨φ, S, ds, _, _, _, h⟩ => h.elim⟩⟩
 | k + 1 => ⟨fun _ _ _ _ _ _ _ _ _ a b c d => Z33 T tb a b c d (Top.all_ok T tb k), fun _ _ h => Z34 T h (Top.all_ok T tb k)⟩
theorem Top.fn_law (T : Top w K mg fs gs gd Φ xs cs ca) (tb : Tb base mg) {x : Str} {st : Stmt} {N ps : List Str} {df : Df} {f : Addr} {fd : FuncData} {k : Nat} (F : Fun K x x st f fd) (D : DefT fs gs gd xs cs st N ps df) (M : MkT x st fd) (h : PhiX Φ x df) : FnG P w K mg base (2 * k + 2) f fd ps (spC ca (call Φ k) ⟨K, P, w⟩ x) :=
 (Top.all_ok T tb k).d x x x df st N ps f fd h D (FunB.of F (D.bd x x)) M
end
end My
namespace My
open PySem PySem.Spec PyProof.Rows L2
variable [CP]
def S0 : Store := ⟨[]⟩
def Zsy (Φ : Str -> Option Df) (k m : Nat) : Prop := ∀ ns : List Int, ns.length <= m -> (call Φ k "law" [.ks (ns.map .int)] S0).wp (fun d _ => d = .bl true) fun _ _ => False
section
variable [TC]
theorem Zlc {K : KW} {φ : Nat -> Addr} {n : Nat} {H : Hp} : ∀ ns : List Int, RVs K φ n H (ns.map .int) (ns.map V.int)
 | [] => .nil
 | _ :: ns => .cons (.int _) (Zlc ns)
theorem Z35 {K : KW} {ca : CA} {Φ : Str -> Option Df} {k m : Nat} (L : Zsy Φ k m) (cp : CP.cp "law" = []) {Lc : LC} {H : Hp} {a : Addr} {ns : List Int} (hl : ns.length <= m) (tb : ∀ p ∈ TC.T, H p.2.1 = some (.tbl #[])) (hk : KL K H a (ns.map V.int)) :
  spC ca (call Φ k) K "law" Lc [.ref a] H (fun v _ => v = .bl true) fun _ _ _ => False := by
 refine ⟨fun _ => a, S0, [.ks (ns.map .int)], ⟨fun i j hi => absurd hi (Nat.not_lt_zero i), fun i o e => absurd (Zf3 e) (Nat.not_lt_zero i), fun p hp => ⟨#[], tb p hp, trivial, fun _ _ z => nomatch z⟩⟩, .cons (.ks hk (Zlc ns)) .nil, fun j hj => ?_, R.wp_mono (L ns hl) (fun d S' e => ?_) fun _ _ z => z.elim⟩
 ·rw [cp] at hj
  cases hj
 subst e
 intro φ' H' v _ _ rv
 cases rv
 rfl
def tbs : List Addr := TC.T.map (·.2.1)
def scr (a : Addr) (vs : List Value) (ns : List Int) (b : Bool) : Hp := fun x => if b = true /\ x = a then some (.frz { cls := .type "list", data := .seq vs.toArray } (.lst (ns.map V.int))) else if x ∈ tbs then some (.tbl #[]) else none
theorem Zu2 {a x : Addr} {vs : List Value} {ns : List Int} {b : Bool} {u : HO} (h : scr a vs ns b x = some u) : (b = true /\ x = a /\ u = .frz { cls := .type "list", data := .seq vs.toArray } (.lst (ns.map V.int))) \/ (x ∈ tbs /\ u = .tbl #[]) := by
 unfold scr at h
 split at h
 ·rename_i c
  exact .inl ⟨c.1, c.2, (Option.some.inj h).symm⟩
 ·split at h
  ·rename_i c
   exact .inr ⟨c, (Option.some.inj h).symm⟩
  ·cases h
theorem Zsz {a x : Addr} {vs : List Value} {ns : List Int} {b : Bool} (h : b = true -> x ≠ a) (t : x ∉ tbs) : scr a vs ns b x = none := (Qat fun c => h c.1 c.2).trans (Qat t)
def Z97 (P : Program) (w : World) (K : PySem.W.Frag) (mg : Str -> Option Value) (Φ : Str -> Option Df) (k : Nat) (h : Heap) (fa : Addr) (fd : FuncData) (x : Str) : Prop :=
 (∀ q ∈ TC.T, h.get? q.2.1 = some { cls := .none, data := .fields #[] } /\ K.lookup q.2.1 = none /\ PySem.W.CodeHd h q.1 q.2.1) /\
  ∃ ca : CA, ∀ base : Heap, (∀ q ∈ TC.T, LamX.TabB base mg q.1 q.2.1) -> FnG P w K mg base (2 * k + 2) fa fd [x] (spC ca (call Φ k) ⟨K, P, w⟩ "law")
theorem Zys {P : Program} {w : World} {K : PySem.W.Frag} {mg mb : Str -> Option Value} {Φ : Str -> Option Df} {k n : Nat} {fa a : Addr} {fd : FuncData} {x : Str} {sB : Shared} {vs : List Value} {ns : List Int}
  (L : Zsy Φ k n) (cp : CP.cp "law" = []) (small : n <= sizeLine) (room : Room (2 * k + 2) callerA) (isK : K.In sB.heap) (Gg : sB.heap.Ns mainGlobals mg) (Gb : sB.heap.Ns builtinsNs mb) (Gbb : ∀ x : Str, x ≠ "__name__" -> mb x = bootBuiltins x) (Gl : sB.heap.NoLimit) (noGen : sB.gens = #[])
  (hbm : ∃ (bm : Addr) (ob : Obj), mg "__builtins__" = some (.ref bm) /\ bm ≠ builtinsNs /\ sB.heap.get? bm = some ob /\ ob.cls = .type "module" /\ ob.dict = some builtinsNs /\ ob.data = .plain)
  (there : sB.heap.get? a = some { cls := .type "list", data := .seq vs.toArray }) (isI : IntsAre vs ns) (hlen : ns.length <= n) (bnd : ∀ (s : Shared) (u : Value), BindsTo s fd ⟨[u], []⟩ [(x, u)]) (R : Z97 P w K mg Φ k sB.heap fa fd x) :
  codeAny (model P w) callerA (.call (.ref fa) ⟨[.ref a], []⟩) (fun r s' => r = .ok (.ret (.bool true)) /\ OldK sB.heap s'.heap /\ s'.os = sB.os /\ AllBare s'.gens) sB := by
 obtain ⟨tt, ca, fn⟩ := R
 -- tables
 have isT : ∀ b : Addr, b ∈ tbs -> sB.heap.get? b = some { cls := .none, data := .fields #[] } /\ K.lookup b = none := fun b hb => by
  obtain ⟨p, hp, e⟩ := Qa2.mp hb
  rw [<- e]
  exact ⟨(tt p hp).1, (tt p hp).2.1⟩
 have memT : ∀ p ∈ TC.T, p.2.1 ∈ tbs := fun p hp => Qa2.mpr ⟨p, hp, rfl⟩
 have noT : ∀ {b : Addr} {o : Obj}, sB.heap.get? b = some o -> o.data ≠ .fields #[] -> b ∉ tbs := fun {b o} e d z => by
  rw [(isT b z).1] at e
  cases e
  exact d rfl
 have aT : a ∉ tbs := noT there fun z => nomatch (show Data.seq vs.toArray _ = Data.fields #[] from z)
 -- is the script an object of the top
 have split : ∃ b : Bool, (b = true -> K.lookup a = none) /\ (b = false -> ∃ o, K.lookup a = some o) := by
  cases e : K.lookup a with
  | none => exact ⟨true, fun _ => rfl, fun z => nomatch z⟩
  | some o => exact ⟨false, fun z => (nomatch z), fun _ => ⟨o, rfl⟩⟩
 obtain ⟨b, bT, bF⟩ := split
 have vals := vals_ints isI
 have room2 : ns.length <= sizeLine := Qaw hlen small
 have isKL : KL ⟨K, P, w⟩ (scr a vs ns b) a (ns.map V.int) := by
  cases b with
  | true => exact .inl ⟨_, Qan ⟨rfl, rfl⟩⟩
  | false =>
   obtain ⟨o, e⟩ := bF rfl
   have e2 := isK a o e
   rw [there] at e2
   cases e2
   exact .inr ⟨_, vs.toArray, _, e, rfl, rfl, rfl, by rw [Qa6, isI.length]; exact room2, by simpa using vals⟩
 have tabs : ∀ p ∈ TC.T, scr a vs ns b p.2.1 = some (.tbl #[]) := fun p hp => (Qat fun c => aT (by rw [<- c.2]; exact memT p hp)).trans (Qan (memT p hp))
 have heapOk : HOk P w (scr a vs ns b) sB.heap := fun y u z => by
  rcases Zu2 z with ⟨_, rfl, rfl⟩ | ⟨m, rfl⟩
  ·exact ⟨there, by rw [Qal]; exact room2, vs, _, vals, there⟩
  ·exact (isT y m).1
 -- what the tale does not name stands in the ground
 have down : ∀ {y : Addr} {o : Obj}, sB.heap.get? y = some o -> (b = true -> y ≠ a) -> y ∉ tbs -> (hidT sB.heap (scr a vs ns b)).get? y = some o := fun e z t => hidT_get e (Zsz z t)
 have Z8b : ∀ {y : Addr} {o : Obj}, sB.heap.get? y = some o -> (∀ vs n, o.data ≠ .seq vs n) -> b = true -> y ≠ a := fun {y o} e d _ z => by
  subst z
  rw [there] at e
  cases e
  exact d _ _ rfl
 have names : ∀ {y : Addr} {m : Str -> Option Value}, sB.heap.Ns y m -> (hidT sB.heap (scr a vs ns b)).Ns y m := by
  intro y m ⟨o, es, ep, e, dt, r⟩
  exact ⟨o, es, ep, down e (Z8b e fun _ _ z => by rw [dt] at z; cases z) (noT e fun z => by rw [dt] at z; cases z), dt, r⟩
 have kDown : K.In (hidT sB.heap (scr a vs ns b)) := fun y o e => down (isK y o e) (fun hb z => by
  subst z
  rw [bT hb] at e
  cases e) fun z => by
   rw [(isT y z).2] at e
   cases e
 obtain ⟨mc, lim1, lim2⟩ := Gl
 have mod : L2.Mod K mg (hidT sB.heap (scr a vs ns b)) := ⟨kDown, names Gg, ⟨mb, names Gb, Gbb⟩, ⟨mc, names lim1, lim2⟩⟩
 have TB : ∀ q ∈ TC.T, LamX.TabB (hidT sB.heap (scr a vs ns b)) mg q.1 q.2.1 := fun p hp => by
  obtain ⟨hTp, _, C⟩ := tt p hp
  refine ⟨?_, ?_, fun z => ?_⟩
  ·obtain ⟨o, us, file, tf, flags, tg, inF, text, tx, e1, r1, r2, r3, r4, r5, r6, r7, r8, hne⟩ := C
   refine ⟨o, us, file, tf, flags, tg, inF, text, tx, down e1 (Z8b e1 fun vs n z => ?_) (noT e1 fun z => ?_), r1, r2, r3, r4, r5, r6, r7, r8, hne⟩
   ·rw [r2] at z
    cases z
   ·rw [r2] at z
    cases z
    simp at r3
  ·obtain ⟨bm, ob, b1, b2, b3, b4, b5, b6⟩ := hbm
   have nG : bm ≠ mainGlobals := fun q => by
    obtain ⟨o, es, ep, e, hd, _⟩ := Gg
    rw [q, e] at b3
    cases b3
    rw [hd] at b6
    cases b6
   have nP : bm ≠ p.2.1 := fun q => by
    rw [q, hTp] at b3
    cases b3
    cases b6
   refine ⟨bm, ob, b1, b2, nG, nP, down b3 (Z8b b3 fun vs n z => ?_) (noT b3 fun z => ?_), b4, b5, b6⟩
   ·rw [b6] at z
    cases z
   ·rw [b6] at z
    cases z
  ·obtain ⟨o, es, ep, e, hd, _⟩ := Gg
   rw [z, hTp] at e
   cases e
   cases hd
 have env : Env0 P w K mg (hidT sB.heap (scr a vs ns b)) callerA [] sB (scr a vs ns b) :=
  ⟨rfl, mod, fun y o e => of_hidT e, by rw [hidT_size]; exact Qao _, trivial, fun y hy => (nomatch hy), heapOk, .of_eq noGen⟩
 have run := (fn (hidT sB.heap (scr a vs ns b)) TB).go callerA [] sB (scr a vs ns b) ⟨[.ref a], []⟩ [.ref a] [.ref a] _ _ rfl room env (bnd sB (.ref a)) (.cons rfl .nil) (Z35 L cp hlen tabs isKL)
 apply codeAny_mono run
 intro res sC fin
 match res, fin with
 | .error e, ⟨_, _, _, _, _, _, _, _, _, _, _, _, no⟩ => exact no.elim
 | .ok .next, no => exact no.elim
 | .ok .brk, no => exact no.elim
 | .ok .cont, no => exact no.elim
 | .ok (.ret u), ⟨v, H', os, bare, un, heapOk', rel, e⟩ =>
  have e' : v = .bl true := e
  subst e'
  have e2 : u = Value.bool true := rel
  subst e2
  have key : ∀ y o, y ∉ tbs -> sB.heap.get? y = some o -> sC.heap.get? y = some o := fun y o nt ey => by
   cases z : scr a vs ns b y with
   | none => exact un.keep y o ey z (fun m => nomatch m) (by simp)
   | some u =>
    rcases Zu2 z with ⟨_, rfl, rfl⟩ | ⟨m, _⟩
    ·rw [there] at ey
     cases ey
     exact (heapOk' _ _ (un.frzs _ _ _ z)).1
    ·exact (nt m).elim
  have grown : ∀ p ∈ TC.T, ∃ more : Array Value, sC.heap.get? p.2.1 = some { cls := .none, data := .fields more } := fun p hp => by
   obtain ⟨more, z⟩ := un.tbls p.2.1 #[] (tabs p hp)
   exact ⟨_, heapOk' p.2.1 _ z⟩
  refine ⟨rfl, ⟨fun y o ey => ?_, fun y o ey => ?_⟩, os, bare⟩
  ·by_cases hb : y ∈ tbs
   ·obtain ⟨p, hp, ep⟩ := Qa2.mp hb
    obtain ⟨more, hm⟩ := grown p hp
    rw [<- ep] at ey ⊢
    rw [(tt p hp).1] at ey
    cases ey
    exact .inr (.inl ⟨((tt p hp).2.2.tab (tt p hp).1).isCodeTable, rfl, #[], more, rfl, by rw [Array.empty_append]; exact hm⟩)
   ·exact .inl (key y o hb ey)
  ·by_cases hb : y ∈ tbs
   ·obtain ⟨p, hp, ep⟩ := Qa2.mp hb
    obtain ⟨more, hm⟩ := grown p hp
    rw [<- ep]
    exact ⟨_, hm⟩
   ·exact ⟨o, key y o hb ey⟩
end
theorem Zyt {l : PySem.W.OpenLaw} {n k : Nat} {q : Program} {loose : List Str} {XP : (Str -> Option Value) -> Heap -> Prop} {YP : World -> Heap -> Prop} {d : DefRec} {K : Params -> PySem.W.Frag} {x : Str} {Φ : Str -> Option Df}
  (most : l.most = some n) (small : n <= sizeLine) (plain : d.params.defaults = []) (room : Room (2 * k + 2) callerA) (isIn : ∀ (w : World) (h : Heap), YP w h -> (K w.params).In h) (L : Zsy Φ k n) (cp : CP.cp "law" = [])
  (F : ∀ (w : World) (mg : Str -> Option Value) (fa : Addr) (h : Heap), YP w h -> (K w.params).In h -> h.Ns mainGlobals mg -> mg d.name = some (.ref fa) ->
   ∃ fd : FuncData, (∀ (s : Shared) (u : Value), BindsTo s fd ⟨[u], []⟩ [(x, u)]) /\ ∃ tc : TC, @Z97 _ tc l.prog w (K w.params) mg Φ k h fa fd x) :
  PySem.W.WalkO q loose XP YP l.row.toRowW d [] (fun f vs => PySem.call f vs) := by
 apply Att.attach_call most plain
 intro w sA sB mg mb fa ob pm cd doc a vs ns G Y _ _ _ hmg there isI hlen noGen
 obtain ⟨fd, bnd, tc, fn⟩ := F w mg fa _ Y (isIn w _ Y) G.T.g hmg
 exact @Zys _ tc _ _ _ _ _ _ _ _ _ _ _ _ _ _ _ L cp small room (isIn w _ Y) G.T.g G.T.b G.T.builtins G.T.nolimit noGen G.T.bmain there isI hlen bnd fn
end My
namespace My
open PySem PySem.Spec PyProof.Rows L2
variable [CP] [TC]
section
variable {w : World} {K : PySem.W.Frag} {mg : Str -> Option Value} {fs : List Str} {gs : List (Str × D)} {gd : List (Str × List (Str × Int))} {xs : List XI} {cs : List CI} {st : Stmt} {N ps : List Str} {df : Df} {Φ : Str -> Option Df} {x q m : Str} {B : Addr}
def Z6t (K : PySem.W.Frag) (f : Addr) : Addr × Addr := match K.lookup f with
 | some ⟨_, _, .func fd, _⟩ => (match fd.code with
  | .ref c => (c, match K.lookup c with
   | some ⟨_, _, .fields vs, _⟩ => (match (vs[11]? : Option Value) with
    | some (.ref P) => P
    | _ => 0)
   | _ => 0)
  | _ => (0, 0))
 | _ => (0, 0)
def Z36 (K : PySem.W.Frag) (C m : Str) : Addr := if C = "" then (match PySem.W.nsIn K mainGlobals m with
 | some (some (.ref f)) => f
 | _ => 0) else (match PySem.W.nsIn K mainGlobals C with
 | some (some (.ref B)) => (match PySem.W.findIn K (.ref B) m with
  | some (some (.ref f)) => f
  | _ => 0)
 | _ => 0)
def Zld (K : PySem.W.Frag) (p : Str × Str × Str) : Addr × Addr × Str := ((Z6t K (Z36 K p.1 p.2.1)).1, (Z6t K (Z36 K p.1 p.2.1)).2, p.2.2)
def Zpi (K : PySem.W.Frag) (ts : List Addr) (ps : List (Str × Str × Str)) : Bool :=
 (ps.all fun p => PySem.W.codeHdIn K (Zld K p).1 (Zld K p).2.1 && (ts.contains (Zld K p).2.1 && (K.lookup (Zld K p).2.1).isNone)) && ps.all fun p => ps.all fun r => (Zld K p).2.1 != (Zld K r).2.1 || decide (p.2.2 = r.2.2)
theorem Zyu {K : PySem.W.Frag} {ts : List Addr} {ps : List (Str × Str × Str)} {h : Heap} (ok : Zpi K ts ps = true) (X : K.In h) (hT : ∀ P ∈ ts, h.get? P = some { cls := .none, data := .fields #[] }) :
  (∀ q ∈ ps.map (Zld K), h.get? q.2.1 = some { cls := .none, data := .fields #[] } /\ K.lookup q.2.1 = none /\ PySem.W.CodeHd h q.1 q.2.1) /\ ∀ q ∈ ps.map (Zld K), ∀ r ∈ ps.map (Zld K), q.2.1 = r.2.1 -> q.2.2 = r.2.2 := by
 unfold Zpi at ok
 rw [Qaa, Qap, Qap] at ok
 obtain ⟨ok1, ok2⟩ := ok
 refine ⟨fun q hq => ?_, fun q hq r hr e => ?_⟩
 ·obtain ⟨p, hp, rfl⟩ := Qa2.mp hq
  have := ok1 p hp
  rw [Qaa, Qaa] at this
  exact ⟨hT _ (by simpa using this.2.1), by simpa using this.2.2, PySem.W.codeHd_of_K X this.1⟩
 ·obtain ⟨p, hp, rfl⟩ := Qa2.mp hq
  obtain ⟨p', hp', rfl⟩ := Qa2.mp hr
  have := Qap.mp (ok2 p hp) p' hp'
  rw [Bool.or_eq_true] at this
  rcases this with z | z
  ·rw [e] at z; simp at z
  ·exact Qau z
theorem Zle {K : PySem.W.Frag} {m : Str} {f : Addr} (a : PySem.W.nsIn K mainGlobals m = some (some (.ref f))) : Z36 K "" m = f := by
 unfold Z36
 rw [Qan rfl, a]
theorem Zyv {K : PySem.W.Frag} {f : Addr} {oc : Value} {od : Option Addr} {fd : FuncData} {sl : Array (Option Value)} {q : Str} (l : K.lookup f = some ⟨oc, od, .func fd, sl⟩) (c : PySem.W.codeIn K fd.code q = true) : fd.code = .ref (Z6t K f).1 := by
 unfold Z6t
 rw [l]
 cases e : fd.code with
 | ref c => simp only [e]
 | _ => rw [e] at c; cases c
def MkP (K : PySem.W.Frag) (C m q : Str) (st : Stmt) : Prop := CP.mks.contains st.pos.line = true -> Zld K (C, m, q ++ ".<locals>.") ∈ TC.T
theorem MkP.t {K : PySem.W.Frag} {C m q : Str} {st : Stmt} {f : Addr} {oc : Value} {od : Option Addr} {fd : FuncData} {sl : Array (Option Value)} {q' : Str} (M : MkP K C m q st) (ef : Z36 K C m = f) (l : K.lookup f = some ⟨oc, od, .func fd, sl⟩) (c : PySem.W.codeIn K fd.code q' = true) : MkT q st fd := fun h => by
 have := M h
 unfold Zld at this
 rw [ef] at this
 exact ⟨_, _, Zyv l c, this⟩
theorem Zu3 {K : PySem.W.Frag} {l : List (Str × Str × Str)} {C m q : Str} (h : (C, m, q) ∈ l) : Zld K (C, m, q) ∈ l.map (Zld K) := List.mem_map_of_mem h
theorem MkT.no {q : Str} {st : Stmt} {fd : FuncData} (h : CP.mks.contains st.pos.line = false) : MkT q st fd := fun z => by
 rw [h] at z
 cases z
def AtF (K : PySem.W.Frag) (x q : Str) (st : Stmt) (f : Addr) : Prop :=
 ∃ (od an : Option Addr) (sl : Array (Option Value)) (oc kV dc pm cd ct : Value), K.lookup f = some ⟨oc, od, .func (PySem.W.fnOf x q (defArgs st) (defBody st) (defScope st) .none kV dc pm an cd ct), sl⟩ /\ PySem.W.codeIn K cd q = true /\ PySem.W.keepIn K (.ref f) = true
def AtT (K : PySem.W.Frag) (x : Str) (st : Stmt) : Prop := ∃ f, PySem.W.nsIn K mainGlobals x = some (some (.ref f)) /\ AtF K x x st f
theorem AtT.mk {f : Addr} {od an : Option Addr} {sl : Array (Option Value)} {oc kV dc pm cd ct : Value} (a : PySem.W.nsIn K mainGlobals x = some (some (.ref f)))
  (l : K.lookup f = some ⟨oc, od, .func (PySem.W.fnOf x x (defArgs st) (defBody st) (defScope st) .none kV dc pm an cd ct), sl⟩) (c : PySem.W.codeIn K cd x = true) (k : PySem.W.keepIn K (.ref f) = true) : AtT K x st :=
 ⟨f, a, od, an, sl, oc, kV, dc, pm, cd, ct, l, c, k⟩
def FnA (K : PySem.W.Frag) (mg : Str -> Option Value) (x : Str) (st : Stmt) (ps : List Str) : Prop := ∃ f fd, (FunB K x x st ps f fd /\ MkT x st fd) /\ PySem.W.nsIn K mainGlobals x = some (some (.ref f)) /\ mg x = some (.ref f)
theorem AtT.fn {h : Heap} (A : AtT K x st) (X : K.In h) (G : h.Ns mainGlobals mg) (T : DefT fs gs gd xs cs st N ps df) (M : MkP K "" x x st := by exact fun h => absurd h (by decide +kernel)) : FnA K mg x st ps := by
 obtain ⟨f, a, od, an, sl, oc, kV, dc, pm, cd, ct, l, c, k⟩ := A
 exact ⟨f, _, ⟨FunB.of (fun_mk l c k) (T.bd _ _), M.t (Zle a) l c⟩, a, PySem.W.mg_of X G a⟩
theorem FnA.hd (F : FnA K mg x st ps) (h : PhiX Φ x df) (T : DefT fs gs gd xs cs st N ps df) (e : Zbf x = false := by decide +kernel) : HdC w K mg fs gs gd xs cs Φ x := by
 obtain ⟨f, fd, a, b⟩ := F
 exact HdC.of ⟨_, _, _, _, f, fd, _, _, h, T, a, b⟩ e
omit [TC] in
theorem DefT.at_ (sc : FnScope N ps (defScope st) := by exact ⟨rfl, rfl, rfl, by decide +kernel, rfl, by decide +kernel, by decide +kernel⟩) (np : df.np = ps.length := by rfl) (n : df.n = N.length := by rfl)
 (bd : ∀ (nm q : Str) (kV doc pm : Value) (an : Option Addr) (cdv ct : Value) (us : List Value), us.length = ps.length -> bindArgs (PySem.W.fnOf nm q (defArgs st) (defBody st) (defScope st) .none kV doc pm an cdv ct) ⟨us, []⟩ = pure (ps.zip us) := by
  first
  | exact fun _ _ _ _ _ _ _ _ us hl => match us, hl with | [_], _ => rfl
  | exact fun _ _ _ _ _ _ _ _ us hl => match us, hl with | [_, _], _ => rfl
  | exact fun _ _ _ _ _ _ _ _ us hl => match us, hl with | [_, _, _], _ => rfl
  | exact fun _ _ _ _ _ _ _ _ us hl => match us, hl with | [_, _, _, _], _ => rfl
  | exact fun _ _ _ _ _ _ _ _ us hl => match us, hl with | [_, _, _, _, _], _ => rfl
  | exact fun _ _ _ _ _ _ _ _ us hl => match us, hl with | [_, _, _, _, _, _], _ => rfl
  | exact fun _ _ _ _ _ _ _ _ us hl => match us, hl with | [], _ => rfl)
 (ok : Zin ⟨N, fs, gs, gd, xs, cs⟩ 60 80 ⟨defScope st, defScope st, true, CP.mks.contains st.pos.line⟩ (defBody st) (Zfz df.body).2 = true := by decide +kernel) : DefT fs gs gd xs cs st N ps df := ⟨sc, np, n, bd, ok⟩
end
def Zs0 (l : List (Str × Df)) (x : Str) : Option Df := (l.find? fun p => decide (p.1 = x)).map (·.2)
omit [CP] [TC] in
theorem Zan : ∀ {l : List (Str × Df)}, (l.map (·.1)).Nodup -> ∀ {i : Nat} {x : Str} {d : Df}, l[i]? = some (x, d) -> Zs0 l x = some d
 | [], _, i, x, d, h => by simp at h
 | p :: l, nd, 0, x, d, h => by
  simp only [List.getElem?_cons_zero, Option.some.injEq] at h
  subst h
  simp [Zs0]
 | p :: l, nd, i + 1, x, d, h => by
  rw [Qaj, List.nodup_cons] at nd
  rw [List.getElem?_cons_succ] at h
  have ne : ¬ p.1 = x := fun e => nd.1 (by rw [e]; exact Qa2.mpr ⟨(x, d), Qbi h, rfl⟩)
  have ih := Zan nd.2 h
  unfold Zs0 at ih ⊢
  rw [List.find?_cons_of_neg (by simpa using ne)]
  exact ih
end My
namespace K02
open PySem PySem.Spec PyProof.Rows L2 My
def Zbi (i : Nat) : Stmt := PySem.Challenge.pw_webscripts_k02_neighbours.main.body.getD i (.Pass ⟨0, 0, 0, 0⟩)
def fs : List Str := ("tie_of" : Str) :: ("look_post" : Str) :: ("friends_of" : Str) :: ("neighbours" : Str) :: ("are_tied" : Str) :: ("_law_deck" : Str) :: ("_law_draw" : Str) :: ("_law_tie" : Str) :: ("_law_couples" : Str) :: ("_law_web" : Str) :: ("_law_name" : Str) :: ("_law_names" : Str) :: ("_law_pick" : Str) :: ("_law_odd" : Str) :: ("_law_near" : Str) :: ("_law_lost" : Str) :: ("law" : Str) :: []
def cs : List CI := []
def gs : List (Str × D) := []
def gd : List (Str × List (Str × Int)) := []
def xs : List XI := [⟨"NoPost", ["name"], ["NoPost"]⟩]
def Zg8 : MS := (.seq (.ret (.ife (.cmp .Lt (.val (.var 0)) (.val (.var 1))) (.tup [(.var 0), (.var 1)]) (.tup [(.var 1), (.var 0)])))
 .skip)
def Zao : Df := ⟨2, 2, Zg8⟩
def Zdc : MS := (.seq (.ife (.or (.nt (.isi (.var 1) .str)) (.cmp .NotIn (.val (.var 1)) (.val (.sub (.val (.var 0)) (.cst (.int 0)))))) (.seq (.rais "NoPost" ["name"] [(.var 1)])
 .skip) .skip)
 .skip)
def Zbb : Df := ⟨2, 2, Zdc⟩
def Zam : MS := (.seq (.ife (.cmp .Eq (.val (.var 3)) (.val (.var 1))) (.seq (.mut 2 .append [(.var 4)])
 .skip) .skip)
 (.seq (.ife (.cmp .Eq (.val (.var 4)) (.val (.var 1))) (.seq (.mut 2 .append [(.var 3)])
 .skip) .skip)
 (.seq (.wipe [3, 4])
 .skip)))
def Zcp : MS := (.seq (.new 2 (.lst []))
 (.seq (.for_ (.tp [3, 4]) (.seq (.sub (.val (.var 0)) (.cst (.int 1)))) Zam)
 (.seq (.fz 2)
 (.seq (.ret (.blt .tuple [(.val (.frz (.blt .sorted [(.val (.var 2))])))]))
 .skip))))
def Za2 : Df := ⟨2, 5, Zcp⟩
def Zcq : MS := (.seq (.expr (.call "look_post" [(.var 0), (.var 1)]))
 (.seq (.ret (.call "friends_of" [(.var 0), (.var 1)]))
 .skip))
def Za3 : Df := ⟨2, 2, Zcq⟩
def Zb6 : MS := (.seq (.expr (.call "look_post" [(.var 0), (.var 1)]))
 (.seq (.expr (.call "look_post" [(.var 0), (.var 2)]))
 (.seq (.ret (.and (.cmp .NotEq (.val (.var 1)) (.val (.var 2))) (.cmp .In (.val (.call "tie_of" [(.var 1), (.var 2)])) (.val (.sub (.val (.var 0)) (.cst (.int 1)))))))
 .skip)))
def Za0 : Df := ⟨3, 3, Zb6⟩
def Zcy : MS := (.seq (.asg (.nm 4) (.bin .Add (.bin .Add (.bin .Mult (.cst (.int 2)) (.blt .abs [(.val (.var 1))])) (.blt .int [(.val (.cmp .Lt (.val (.var 1)) (.val (.cst (.int 0)))))])) (.cst (.int 1))))
 (.seq (.asg (.nm 3) (.bin .Mod (.blt .int [(.val (.bin .Add (.bin .Mult (.var 3) (.cst (.int 6364136223846793005))) (.var 4)))]) (.cst (.int 2305843009213693951))))
 (.seq (.ife (.cmp .GtE (.val (.blt .abs [(.val (.var 1))])) (.val (.bin .Pow (.cst (.int 10)) (.cst (.int 18))))) (.seq (.asg (.nm 2) (.bin .Add (.bin .Mult (.var 2) (.cst (.int 41))) (.blt .abs [(.val (.var 1))])))
 .skip) .skip)
 (.seq (.wipe [1, 4])
 .skip))))
def Zpj : MS := (.seq (.par [2, 3] [(.v (.cst (.int 0))), (.v (.bin .Add (.cst (.int 2926)) (.bin .Mult (.cst (.int 43)) (.blt .len [(.val (.var 0))]))))])
 (.seq (.for_ (.nm 1) (.seq (.slc (.var 0) none (some (.cst (.int 60))))) Zcy)
 (.seq (.ret (.sto (.lst [(.var 2), (.var 3), (.cst (.int 0))])))
 .skip)))
def Zcz : Df := ⟨1, 5, Zpj⟩
def Zjv : MS := (.seq (.ife (.cmp .Gt (.val (.sub (.val (.var 0)) (.cst (.int 0)))) (.val (.cst (.int 0)))) (.seq (.asg (.nm 3) (.bin .Mod (.blt .int [(.val (.sub (.val (.var 0)) (.cst (.int 0))))]) (.var 1)))
 (.seq (.setI (.var 0) (.cst (.int 0)) (.bin .FloorDiv (.sub (.val (.var 0)) (.cst (.int 0))) (.var 1)))
 (.seq (.ret (.var 3))
 .skip))) .skip)
 (.seq (.setI (.var 0) (.cst (.int 2)) (.bin .Add (.sub (.val (.var 0)) (.cst (.int 2))) (.cst (.int 1))))
 (.seq (.asg (.nm 2) (.bin .Mod (.blt .int [(.val (.bin .Add (.sub (.val (.var 0)) (.cst (.int 1))) (.bin .Mult (.cst (.int 11400714819323198485)) (.sub (.val (.var 0)) (.cst (.int 2))))))]) (.cst (.int 18446744073709551557))))
 (.seq (.asg (.nm 2) (.bin .Mod (.blt .int [(.val (.bin .Mult (.var 2) (.bin .Add (.bin .Mod (.var 2) (.cst (.int 4294967291))) (.cst (.int 9)))))]) (.cst (.int 2305843009213693951))))
 (.seq (.ret (.bin .Mod (.bin .FloorDiv (.bin .Mod (.blt .int [(.val (.bin .Mult (.var 2) (.var 2)))]) (.cst (.int 2305843009213693921))) (.cst (.int 2048))) (.var 1)))
 .skip)))))
def Zau : Df := ⟨2, 4, Zjv⟩
def Za4 : MS := (.seq (.mut 1 .extend [(.frz (.lc [3] (.nm 3) (.seq (.slc (.var 0) (some (.bin .Add (.var 2) (.cst (.int 1)))) none)) none (.call "_law_tie" [(.sub (.val (.var 0)) (.var 2)), (.var 3)])))])
 (.seq (.wipe [2])
 .skip))
def Zea : MS := (.seq (.new 1 (.lst []))
 (.seq (.for_ (.nm 2) (.rng1 (.blt .len [(.val (.var 0))])) Za4)
 (.seq (.fz 1)
 (.seq (.ret (.var 1))
 .skip))))
def Za9 : Df := ⟨1, 4, Zea⟩
def Zu4 : MS := (.seq (.par [3, 4] [(.v (.frz (.blt .sorted [(.val (.var 1))]))), (.v (.call "_law_draw" [(.var 0), (.cst (.int 5))]))])
 (.seq (.asg (.nm 2) (.frz (.lc [5] (.nm 5) (.seq (.call "_law_couples" [(.var 3)])) (some (.cmp .Lt (.val (.call "_law_draw" [(.var 0), (.cst (.int 4))])) (.val (.var 4)))) (.var 5))))
 (.seq (.ret (.tup [(.blt .tuple [(.val (.var 3))]), (.blt .tuple [(.val (.var 2))])]))
 .skip)))
def Zdd : Df := ⟨2, 6, Zu4⟩
def Zpk : MS := (.seq (.asg (.nm 1) (.cst (.str "abcdefghijklmnopqrstuvwxyz")))
 (.seq (.ret (.mth .join (.val (.cst (.str ""))) [(.frz (.lc [2] (.nm 2) (.rng1 (.bin .Add (.cst (.int 1)) (.call "_law_draw" [(.var 0), (.cst (.int 8))]))) none (.sub (.val (.var 1)) (.call "_law_draw" [(.var 0), (.cst (.int 26))]))))]))
 .skip))
def Zbp : Df := ⟨1, 3, Zpk⟩
def Zde : MS := (.seq (.asg (.nm 11) (.sub (.val (.var 3)) (.var 8)))
 (.seq (.asg (.nm 8) (.bin .Add (.var 8) (.cst (.int 1))))
 .skip))
def Zcc : MS := (.seq (.asg (.nm 10) (.ife (.cmp .Eq (.val (.var 5)) (.val (.cst (.int 3)))) (.call "_law_draw" [(.var 0), (.cst (.int 3))]) (.var 5)))
 (.seq (.ife (.cmp .Eq (.val (.var 10)) (.val (.cst (.int 0)))) (.seq (.asg (.nm 11) (.call "_law_name" [(.var 0)]))
 .skip) (.seq (.ife (.cmp .Eq (.val (.var 10)) (.val (.cst (.int 1)))) (.seq (.asg (.nm 11) (.bin .Add (.bin .Add (.slc (.var 6) none (some (.var 7))) (.sub (.val (.var 2)) (.call "_law_draw" [(.var 0), (.cst (.int 26))]))) (.slc (.var 6) (some (.bin .Add (.var 7) (.cst (.int 1)))) none)))
 .skip) (.seq (.asg (.nm 11) (.slc (.var 6) none (some (.bin .Add (.cst (.int 1)) (.call "_law_draw" [(.var 0), (.cst (.int 8))])))))
 .skip))
 .skip))
 (.seq (.whl 700 (.cmp .In (.val (.var 11)) (.own 9)) Zde)
 (.seq (.mut 9 .append [(.var 11)])
 (.seq (.wipe [10, 11])
 .skip)))))
def Zg9 : MS := (.seq (.asg (.nm 2) (.cst (.str "abcdefghijklmnopqrstuvwxyz")))
 (.seq (.asg (.nm 3) (.frz (.lc [4] (.nm 4) (.rng1 (.cst (.int 676))) none (.bin .Add (.sub (.val (.var 2)) (.bin .FloorDiv (.var 4) (.cst (.int 26)))) (.sub (.val (.var 2)) (.bin .Mod (.var 4) (.cst (.int 26))))))))
 (.seq (.par [5, 6] [(.v (.call "_law_draw" [(.var 0), (.cst (.int 4))])), (.v (.slc (.bin .Mult (.call "_law_name" [(.var 0)]) (.cst (.int 8))) none (some (.cst (.int 8)))))])
 (.seq (.par [7, 8, 9] [(.v (.call "_law_draw" [(.var 0), (.cst (.int 8))])), (.v (.cst (.int 0))), (.o (.lst []))])
 (.seq (.for_ (.nm 4) (.rng1 (.var 1)) Zcc)
 (.seq (.fz 9)
 (.seq (.ret (.var 9))
 .skip)))))))
def Zb7 : Df := ⟨2, 12, Zg9⟩
def Zjw : MS := (.seq (.ret (.sub (.val (.var 1)) (.call "_law_draw" [(.var 0), (.blt .len [(.val (.var 1))])])))
 .skip)
def Zbg : Df := ⟨2, 2, Zjw⟩
def Zu5 : MS := (.seq (.asg (.nm 2) (.frz (.lst [(.cst .non), (.cst (.bl true)), (.cst (.bl false)), (.cst (.int 0)), (.cst (.int 1)), (.neg (.cst (.int 1))), (.bin .Pow (.cst (.int 10)) (.cst (.int 30))), (.cst (.str "")), (.cst (.str "A")), (.cst (.str "a b")), (.cst (.str "a-b")), (.cst (.str "-")), (.cst (.str "abcdefghi")), (.cst (.str "a\n")), (.cst (.str " a")), (.cst (.str "`")), (.cst (.str "{"))])))
 (.seq (.asg (.nm 2) (.bin .Add (.var 2) (.frz (.lst [(.tup []), (.frz (.lst [])), (.frz (.dct [])), (.tup [(.var 1)]), (.frz (.lst [(.var 1)])), (.frz (.dct [(.var 1), (.var 1)])), (.tup [(.var 1), (.var 1)]), (.tup [(.var 1), (.var 1), (.var 1)]), (.bin .Add (.var 1) (.cst (.str "a"))), (.cst (.str "z"))]))))
 (.seq (.asg (.nm 2) (.bin .Add (.var 2) (.frz (.lst [(.tup [(.cst (.str "turn"))]), (.tup [(.cst (.str "turn")), (.var 1)]), (.tup [(.cst (.str "flip")), (.var 1), (.var 1)]), (.tup [(.cst (.str "here")), (.var 1)]), (.tup [(.var 1), (.frz (.lst []))]), (.tup [(.tup []), (.tup [])]), (.tup [(.cst (.str "a")), (.cst (.str "b"))])]))))
 (.seq (.ret (.call "_law_pick" [(.var 0), (.var 2)]))
 .skip))))
def Zdf : Df := ⟨2, 3, Zu5⟩
def Zpl : MS := (.seq (.ret (.frz (.blt .sorted [(.val (.frz (.lc [2] (.nm 2) (.seq (.sub (.val (.var 0)) (.cst (.int 1)))) (some (.cmp .In (.val (.var 1)) (.val (.var 2)))) (.sub (.val (.var 2)) (.bin .Sub (.cst (.int 1)) (.mth .indexT (.val (.var 2)) [(.var 1)]))))))])))
 .skip)
def Zcd : Df := ⟨2, 3, Zpl⟩
def Zjx : MS := (.seq (.cl [0])
 (.seq (.asg (.nm 3) (.frz (.lst [])))
 (.seq (.tr (.seq (.expr (.callc 0 ["law.l0", "law.l1"] [(.v (.var 1)), (.v (.var 2))]))
 .skip) [⟨"NoPost", ["NoPost"], some 4, 3, (.lst [(.fld "name")])⟩])
 (.seq (.ret (.var 3))
 .skip))))
def Zc0 : Df := ⟨3, 5, Zjx⟩
def Zc1 : MS := (.seq (.asg (.nm 12) (.frz (.lst [(.call "are_tied" [(.var 6), (.var 4), (.var 9)]), (.call "are_tied" [(.var 6), (.var 9), (.var 4)])])))
 (.seq (.ife (.cmp .NotEq (.val (.blt .repr [(.val (.var 12))])) (.val (.blt .repr [(.val (.frz (.lst [(.cmp .In (.val (.var 9)) (.val (.var 8))), (.cmp .In (.val (.var 9)) (.val (.var 8)))])))]))) (.seq (.ret (.cst (.bl false)))
 .skip) .skip)
 (.seq (.wipe [9, 12])
 .skip)))
def Zc2 : MS := (.seq (.asg (.nm 8) (.call "_law_near" [(.var 6), (.var 4)]))
 (.seq (.ife (.or (.cmp .NotEq (.val (.blt .repr [(.val (.call "neighbours" [(.var 6), (.var 4)]))])) (.val (.blt .repr [(.val (.blt .tuple [(.val (.var 8))]))]))) (.cmp .IsNot (.val (.call "are_tied" [(.var 6), (.var 4), (.var 4)])) (.val (.cst (.bl false))))) (.seq (.ret (.cst (.bl false)))
 .skip) .skip)
 (.seq (.for_ (.nm 9) (.seq (.slc (.sub (.val (.var 6)) (.cst (.int 0))) none (some (.cst (.int 20))))) Zc1)
 (.seq (.wipe [4, 8, 9, 12])
 .skip))))
def Ze0 : MS := (.seq (.asg (.nm 10) (.frz (.lc [13] (.nm 13) (.rng1 (.cst (.int 2))) none (.call "_law_pick" [(.var 1), (.frz (.lst [(.var 7), (.call "_law_odd" [(.var 1), (.var 7)]), (.call "_law_pick" [(.var 1), (.sub (.val (.var 6)) (.cst (.int 0)))])]))]))))
 (.seq (.asg (.nm 11) (.frz (.lc [14] (.nm 14) (.seq (.var 10)) (some (.or (.nt (.isi (.var 14) .str)) (.cmp .NotIn (.val (.var 14)) (.val (.sub (.val (.var 6)) (.cst (.int 0))))))) (.var 14))))
 (.seq (.ife (.cmp .NotEq (.val (.blt .repr [(.val (.callL "_law_lost" [(.l "law.l0" []), (.v (.var 6)), (.v (.var 10))]))])) (.val (.blt .repr [(.val (.slc (.var 11) none (some (.cst (.int 1)))))]))) (.seq (.ret (.cst (.bl false)))
 .skip) .skip)
 (.seq (.asg (.nm 11) (.frz (.lc [14] (.nm 14) (.seq (.slc (.var 10) none (some (.cst (.int 1))))) (some (.or (.nt (.isi (.var 14) .str)) (.cmp .NotIn (.val (.var 14)) (.val (.sub (.val (.var 6)) (.cst (.int 0))))))) (.var 14))))
 (.seq (.ife (.cmp .NotEq (.val (.blt .repr [(.val (.callL "_law_lost" [(.l "law.l1" []), (.v (.var 6)), (.v (.var 10))]))])) (.val (.blt .repr [(.val (.var 11))]))) (.seq (.ret (.cst (.bl false)))
 .skip) .skip)
 (.seq (.wipe [5, 10, 11])
 .skip))))))
def Z37 : MS := (.seq (.asg (.nm 1) (.call "_law_deck" [(.var 0)]))
 (.seq (.asg (.nm 2) (.sub (.val (.frz (.lst [(.bin .Add (.cst (.int 1)) (.call "_law_draw" [(.var 1), (.cst (.int 9))])), (.bin .Add (.cst (.int 1)) (.call "_law_draw" [(.var 1), (.cst (.int 25))])), (.cst (.int 60))]))) (.call "_law_draw" [(.var 1), (.cst (.int 3))])))
 (.seq (.asg (.nm 3) (.call "_law_names" [(.var 1), (.bin .Add (.var 2) (.cst (.int 1)))]))
 (.seq (.par [6, 7] [(.v (.call "_law_web" [(.var 1), (.slc (.var 3) none (some (.var 2)))])), (.v (.sub (.val (.var 3)) (.var 2)))])
 (.seq (.for_ (.nm 4) (.seq (.slc (.sub (.val (.var 6)) (.cst (.int 0))) none (some (.cst (.int 12))))) Zc2)
 (.seq (.for_ (.nm 5) (.rng1 (.cst (.int 6))) Ze0)
 (.seq (.ret (.cst (.bl true)))
 .skip)))))))
def Zio : Df := ⟨1, 15, Z37⟩
def Zha : MS := (.seq (.cl []) (.ret (.call "are_tied" [(.var 0), (.sub (.val (.var 1)) (.cst (.int 0))), (.sub (.val (.var 1)) (.cst (.int 1)))])))
def Zcr : Df := ⟨2, 2, Zha⟩
def Zhb : MS := (.seq (.cl []) (.ret (.call "neighbours" [(.var 0), (.sub (.val (.var 1)) (.cst (.int 0)))])))
def Zcs : Df := ⟨2, 2, Zhb⟩
def lmL : List (Str × LmI) := [("law.l0", ⟨Zcr, ["_law_web_here", "_law_some"], [], ["_law_web_here", "_law_some"]⟩), ("law.l1", ⟨Zcs, ["_law_web_here", "_law_some"], [], ["_law_web_here", "_law_some"]⟩)]
def cpL : List (Str × List Nat) := [("_law_lost", [0])]
instance cpI : CP := ⟨fun x => (cpL.lookup x).getD [], fun x => lmL.lookup x, [], [93]⟩
def Z6u : List (Str × Str × Str) := [("", "law", "law.<locals>.")]
theorem Ziq : DefT fs gs gd xs cs (Zbi 3) ["a", "b"] ["a", "b"] Zao := .at_
theorem Zel : DefT fs gs gd xs cs (Zbi 4) ["web", "name"] ["web", "name"] Zbb := .at_
theorem Zdx : DefT fs gs gd xs cs (Zbi 5) ["web", "post", "found", "one", "other"] ["web", "post"] Za2 := .at_
theorem Zdy : DefT fs gs gd xs cs (Zbi 6) ["web", "post"] ["web", "post"] Za3 := .at_
theorem Zfk : DefT fs gs gd xs cs (Zbi 7) ["web", "a", "b"] ["web", "a", "b"] Za0 := .at_
theorem Zlf : DefT fs gs gd xs cs (Zbi 9) ["_law_script", "_law_cell", "_law_great", "_law_mixed", "_law_more"] ["_law_script"] Zcz := .at_
theorem Zlg : DefT fs gs gd xs cs (Zbi 10) ["_law_deck_here", "_law_size", "_law_mixed", "_law_digit"] ["_law_deck_here", "_law_size"] Zau := .at_
theorem Zpm : DefT fs gs gd xs cs (Zbi 11) ["_law_a", "_law_b"] ["_law_a", "_law_b"] K02.Zao := .at_
theorem Zfl : DefT fs gs gd xs cs (Zbi 12) ["_law_posts", "_law_found", "_law_k", "_law_other"] ["_law_posts"] Za9 := .at_
theorem Zpn : DefT fs gs gd xs cs (Zbi 13) ["_law_deck_here", "_law_names_here", "_law_ties", "_law_posts", "_law_much", "_law_tie_here"] ["_law_deck_here", "_law_names_here"] Zdd := .at_
theorem Zlh : DefT fs gs gd xs cs (Zbi 14) ["_law_deck_here", "_law_letters", "_law_k"] ["_law_deck_here"] Zbp := .at_
theorem Zir : DefT fs gs gd xs cs (Zbi 15) ["_law_deck_here", "_law_size", "_law_letters", "_law_spare", "_law_k", "_law_way", "_law_base", "_law_place", "_law_at", "_law_names_here", "_law_kind", "_law_name_here"] ["_law_deck_here", "_law_size"] Zb7 := .at_
theorem Zli : DefT fs gs gd xs cs (Zbi 16) ["_law_deck_here", "_law_some"] ["_law_deck_here", "_law_some"] Zbg := .at_
theorem Zpo : DefT fs gs gd xs cs (Zbi 17) ["_law_deck_here", "_law_name_here", "_law_some"] ["_law_deck_here", "_law_name_here"] Zdf := .at_
theorem Zlj : DefT fs gs gd xs cs (Zbi 18) ["_law_web_here", "_law_post", "_law_tie_here"] ["_law_web_here", "_law_post"] Zcd := .at_
theorem Zlk : DefT fs gs gd xs cs (Zbi 19) ["_law_work", "_law_web_here", "_law_values", "_law_found", "error"] ["_law_work", "_law_web_here", "_law_values"] Zc0 := .at_
theorem Zpp : DefT fs gs gd xs cs (Zbi 20) ["_law_script", "_law_deck_here", "_law_size", "_law_names_here", "_law_post", "_law_turn", "_law_web_here", "_law_away", "_law_near_here", "_law_other", "_law_values", "_law_wrong", "_law_found", "_law_k", "_law_value"] ["_law_script"] Zio := .at_
def ΦT : List (Str × Df) := (("tie_of" : Str), Zao) :: (("look_post" : Str), Zbb) :: (("friends_of" : Str), Za2) :: (("neighbours" : Str), Za3) :: (("are_tied" : Str), Za0) :: (("_law_deck" : Str), Zcz) :: (("_law_draw" : Str), Zau) :: (("_law_tie" : Str), K02.Zao) :: (("_law_couples" : Str), Za9) :: (("_law_web" : Str), Zdd) :: (("_law_name" : Str), Zbp) :: (("_law_names" : Str), Zb7) :: (("_law_pick" : Str), Zbg) :: (("_law_odd" : Str), Zdf) :: (("_law_near" : Str), Zcd) :: (("_law_lost" : Str), Zc0) :: (("law" : Str), Zio) :: (("law.l0" : Str), Zcr) :: (("law.l1" : Str), Zcs) :: []
def Φ (x : Str) : Option Df := Zs0 ΦT x
theorem ΦN : (ΦT.map (·.1)).Nodup := by decide +kernel
theorem Zis : Φ "tie_of" = some Zao := Zan ΦN (i := 0) rfl
theorem Zct : Φ "look_post" = some Zbb := Zan ΦN (i := 1) rfl
theorem Zdz : Φ "friends_of" = some Za2 := Zan ΦN (i := 2) rfl
theorem Zce : Φ "neighbours" = some Za3 := Zan ΦN (i := 3) rfl
theorem Zdg : Φ "are_tied" = some Za0 := Zan ΦN (i := 4) rfl
theorem Zll : Φ "_law_deck" = some Zcz := Zan ΦN (i := 5) rfl
theorem Zlm : Φ "_law_draw" = some Zau := Zan ΦN (i := 6) rfl
theorem Zpq : Φ "_law_tie" = some K02.Zao := Zan ΦN (i := 7) rfl
theorem Zfm : Φ "_law_couples" = some Za9 := Zan ΦN (i := 8) rfl
theorem Zpr : Φ "_law_web" = some Zdd := Zan ΦN (i := 9) rfl
theorem Zln : Φ "_law_name" = some Zbp := Zan ΦN (i := 10) rfl
theorem Zit : Φ "_law_names" = some Zb7 := Zan ΦN (i := 11) rfl
theorem Zlo : Φ "_law_pick" = some Zbg := Zan ΦN (i := 12) rfl
theorem Zps : Φ "_law_odd" = some Zdf := Zan ΦN (i := 13) rfl
theorem Zlp : Φ "_law_near" = some Zcd := Zan ΦN (i := 14) rfl
theorem Zlq : Φ "_law_lost" = some Zc0 := Zan ΦN (i := 15) rfl
theorem Zu6 : Φ "law" = some Zio := Zan ΦN (i := 16) rfl
theorem Ziu : Φ "law.l0" = some Zcr := Zan ΦN (i := 17) rfl
theorem Ziv : Φ "law.l1" = some Zcs := Zan ΦN (i := 18) rfl
theorem Zpt : PhiX Φ "tie_of" Zao := ⟨Zis, by decide +kernel⟩
theorem Ziw : PhiX Φ "look_post" Zbb := ⟨Zct, by decide +kernel⟩
theorem Zhc : PhiX Φ "friends_of" Za2 := ⟨Zdz, by decide +kernel⟩
theorem Zhd : PhiX Φ "neighbours" Za3 := ⟨Zce, by decide +kernel⟩
theorem Zjy : PhiX Φ "are_tied" Za0 := ⟨Zdg, by decide +kernel⟩
theorem Zs1 : PhiX Φ "_law_deck" Zcz := ⟨Zll, by decide +kernel⟩
theorem Zs2 : PhiX Φ "_law_draw" Zau := ⟨Zlm, by decide +kernel⟩
theorem Zyw : PhiX Φ "_law_tie" K02.Zao := ⟨Zpq, by decide +kernel⟩
theorem Zjz : PhiX Φ "_law_couples" Za9 := ⟨Zfm, by decide +kernel⟩
theorem Zyx : PhiX Φ "_law_web" Zdd := ⟨Zpr, by decide +kernel⟩
theorem Zs3 : PhiX Φ "_law_name" Zbp := ⟨Zln, by decide +kernel⟩
theorem Zpu : PhiX Φ "_law_names" Zb7 := ⟨Zit, by decide +kernel⟩
theorem Zs4 : PhiX Φ "_law_pick" Zbg := ⟨Zlo, by decide +kernel⟩
theorem Zyy : PhiX Φ "_law_odd" Zdf := ⟨Zps, by decide +kernel⟩
theorem Zs5 : PhiX Φ "_law_near" Zcd := ⟨Zlp, by decide +kernel⟩
theorem Zs6 : PhiX Φ "_law_lost" Zc0 := ⟨Zlq, by decide +kernel⟩
theorem Zu7 : PhiX Φ "law" Zio := ⟨Zu6, by decide +kernel⟩
theorem lmΦ : ∀ x m, CP.lm x = some m -> Φ x = some m.df := by
 intro x m h
 have h : lmL.lookup x = some m := h
 unfold lmL at h
 by_cases g0 : (x == ("law.l0" : Str)) = true
 ·rw [List.lookup_cons, g0] at h
  rw [<- Option.some.inj h, eq_of_beq g0]
  exact Ziu
 rw [List.lookup_cons, Bool.eq_false_iff.mpr g0] at h
 by_cases g1 : (x == ("law.l1" : Str)) = true
 ·rw [List.lookup_cons, g1] at h
  rw [<- Option.some.inj h, eq_of_beq g1]
  exact Ziv
 rw [List.lookup_cons, Bool.eq_false_iff.mpr g1] at h
 exact absurd h (by simp)
def caF (C0 : Addr) : CA := fun c => if c = "NoPost" then some C0 else none
theorem Zyz (C0 : Addr) : caF C0 "NoPost" = some C0 := by
 unfold caF
 rw [Qan rfl]
theorem Z38 {C0 : Addr} {c : Str} {B : Addr} (h : caF C0 c = some B) : ∃ x ∈ xs, x.c = c := by
 unfold caF at h
 by_cases e0 : c = "NoPost"
 ·exact ⟨_, by unfold xs; exact .head _, e0.symm⟩
 rw [Qat e0] at h
 cases h
def Zb8 : Stmt := match Zbi 1 with
 | .ClassDef (body := b) .. => b.getD 0 (.Pass ⟨0, 0, 0, 0⟩)
 | _ => .Pass ⟨0, 0, 0, 0⟩
theorem Zj0 : InitT Zb8 ["name"] ["self", "name"] := ⟨⟨rfl, rfl, rfl, by decide +kernel, rfl, by decide +kernel, by decide +kernel⟩, rfl, by decide +kernel⟩
section
variable [TC] {w : World} {K : PySem.W.Frag} {mg : Str -> Option Value}
theorem Z39 (tu : ∀ q ∈ TC.T, ∀ r ∈ TC.T, q.2.1 = r.2.1 -> q.2.2 = r.2.2) (tl : ∀ x li, TC.lam x li ↔ LmE ⟨[], fs, gs, gd, xs, cs⟩ li x) (F0 : FnA K mg "tie_of" (Zbi 3) ["a", "b"])
  (F1 : FnA K mg "look_post" (Zbi 4) ["web", "name"])
  (F2 : FnA K mg "friends_of" (Zbi 5) ["web", "post"])
  (F3 : FnA K mg "neighbours" (Zbi 6) ["web", "post"])
  (F4 : FnA K mg "are_tied" (Zbi 7) ["web", "a", "b"])
  (F5 : FnA K mg "_law_deck" (Zbi 9) ["_law_script"])
  (F6 : FnA K mg "_law_draw" (Zbi 10) ["_law_deck_here", "_law_size"])
  (F7 : FnA K mg "_law_tie" (Zbi 11) ["_law_a", "_law_b"])
  (F8 : FnA K mg "_law_couples" (Zbi 12) ["_law_posts"])
  (F9 : FnA K mg "_law_web" (Zbi 13) ["_law_deck_here", "_law_names_here"])
  (F10 : FnA K mg "_law_name" (Zbi 14) ["_law_deck_here"])
  (F11 : FnA K mg "_law_names" (Zbi 15) ["_law_deck_here", "_law_size"])
  (F12 : FnA K mg "_law_pick" (Zbi 16) ["_law_deck_here", "_law_some"])
  (F13 : FnA K mg "_law_odd" (Zbi 17) ["_law_deck_here", "_law_name_here"])
  (F14 : FnA K mg "_law_near" (Zbi 18) ["_law_web_here", "_law_post"])
  (F15 : FnA K mg "_law_lost" (Zbi 19) ["_law_work", "_law_web_here", "_law_values"])
  (F16 : FnA K mg "law" (Zbi 20) ["_law_script"]) (bl : ∀ f, mg (bfN f) = none) (ob : ∀ f, mg (ofN f) = none) (ty : ∀ t, mg (tyS t) = none) (ii : mg "isinstance" = none) (rg : mg "range" = none) (en : mg "enumerate" = none) (zp : mg "zip" = none) (se : mg "set" = none) {ca : CA} (ex : ∀ x ∈ xs, ∃ B, ca x.c = some B /\ XCls K mg x B) (sub : ∀ x ∈ xs, ∀ y ∈ xs, ∀ B B', ca x.c = some B -> ca y.c = some B' -> PySem.W.exmOne K (.ref B) (.ref B') = some (x.up.contains y.c)) (cax : ∀ c B, ca c = some B -> ∃ x ∈ xs, x.c = c) : Top w K mg fs gs gd Φ xs cs ca := by
 refine ⟨tu, tl, lmΦ, fun x hx => ?_, fun x h => ?_, fun x d h => ?_, fun x d h => ?_, bl, ob, ty, ii, rg, en, zp, se, ex, sub, cax⟩
 ·unfold cs at hx
  exact absurd hx Qbb
 ·have h := Qaz.mp h
  unfold fs at h
  rcases Qaf.mp h with e | h
  ·rw [e]; exact F0.hd Zpt Ziq
  rcases Qaf.mp h with e | h
  ·rw [e]; exact F1.hd Ziw Zel
  rcases Qaf.mp h with e | h
  ·rw [e]; exact F2.hd Zhc Zdx
  rcases Qaf.mp h with e | h
  ·rw [e]; exact F3.hd Zhd Zdy
  rcases Qaf.mp h with e | h
  ·rw [e]; exact F4.hd Zjy Zfk
  rcases Qaf.mp h with e | h
  ·rw [e]; exact F5.hd Zs1 Zlf
  rcases Qaf.mp h with e | h
  ·rw [e]; exact F6.hd Zs2 Zlg
  rcases Qaf.mp h with e | h
  ·rw [e]; exact F7.hd Zyw Zpm
  rcases Qaf.mp h with e | h
  ·rw [e]; exact F8.hd Zjz Zfl
  rcases Qaf.mp h with e | h
  ·rw [e]; exact F9.hd Zyx Zpn
  rcases Qaf.mp h with e | h
  ·rw [e]; exact F10.hd Zs3 Zlh
  rcases Qaf.mp h with e | h
  ·rw [e]; exact F11.hd Zpu Zir
  rcases Qaf.mp h with e | h
  ·rw [e]; exact F12.hd Zs4 Zli
  rcases Qaf.mp h with e | h
  ·rw [e]; exact F13.hd Zyy Zpo
  rcases Qaf.mp h with e | h
  ·rw [e]; exact F14.hd Zs5 Zlj
  rcases Qaf.mp h with e | h
  ·rw [e]; exact F15.hd Zs6 Zlk
  rcases Qaf.mp h with e | h
  ·rw [e]; exact F16.hd Zu7 Zpp
  exact absurd h Qbb
 ·unfold gs at h
  exact absurd h (by simp)
 ·unfold gd at h
  exact absurd h (by simp)
end
end K02
namespace My
open PySem (Str PyData NestedKey sizeLine)
instance (priority := low) noCPi : CP := ⟨fun _ => [], fun _ => none, [], []⟩
instance (priority := low) noTCi [CP] : TC := ⟨[], fun _ _ => False⟩
abbrev no {ε : Type} : ε -> Store -> Prop := fun _ _ => False
section
variable {ε ε' α β : Type} {S : Store}
theorem R.out {r : R ε α} {Q : α -> Store -> Prop} (h : r.wp Q fun _ _ => False) : ∃ a S, r = .ok a S /\ Q a S := by
 cases r with
 | ok a S => exact ⟨a, S, rfl, h⟩
 | exc e S => exact h.elim
 | bad => exact h.elim
theorem R.to {r : R ε α} {Q : α -> Store -> Prop} {E : ε -> Store -> Prop} {a : α} {S : Store} (h : r = .ok a S) (q : Q a S) : r.wp Q E := by rw [h]; exact q
@[simp] theorem Z6v {c : Prop} [Decidable c] (a b : R ε α) (f : α -> Store -> R ε β) : (if c then a else b).bind f = if c then a.bind f else b.bind f := by by_cases h : c <;> simp [h]
@[simp] theorem Z6w {c : Prop} [Decidable c] (a b : R ε α) (f : ε -> ε') : (if c then a else b).mapE f = if c then a.mapE f else b.mapE f := by by_cases h : c <;> simp [h]
@[simp] theorem Z6x {c : Prop} [Decidable c] (a b : R ε α) : ((if c then a else b).calm : R ε' α) = if c then a.calm else b.calm := by by_cases h : c <;> simp [h]
@[simp] theorem Z6y (f : ε -> ε') : (R.bad : R ε α).mapE f = .bad := rfl
@[simp] theorem Z6z : (R.ofO S (none : Option α) : R ε α) = .bad := rfl
@[simp] theorem Z98 {c : Prop} [Decidable c] (a b : Option α) : (R.ofO S (if c then a else b) : R ε α) = if c then R.ofO S a else R.ofO S b := by by_cases h : c <;> simp [h]
end
noncomputable def Zpv : RS -> RD
 | .ok (.rt d) S' => .ok d S'
 | .ok (.nx _) S' => .ok .non S'
 | .ok _ _ => .bad
 | .exc x S' => .exc x.1 S'
 | .bad => .bad
@[simp] theorem Zy0 (d : D) (S : Store) : Zpv (.ok (.rt d) S) = .ok d S := rfl
@[simp] theorem Z99 (ρ : Ev) (S : Store) : Zpv (.ok (.nx ρ) S) = .ok .non S := rfl
@[simp] theorem Z60 (x : Xn × Ev) (S : Store) : Zpv (.exc x S) = .exc x.1 S := rfl
@[simp] theorem Z61 : Zpv .bad = .bad := rfl
@[simp] theorem Z62 {c : Prop} [Decidable c] (a b : RS) : Zpv (if c then a else b) = if c then Zpv a else Zpv b := by by_cases h : c <;> simp [h]
theorem Zap {Φ : Str -> Option Df} {k : Nat} {x : Str} {df : Df} {ds : List D} {S : Store} (h : Φ x = some df) (hl : ds.length = df.np) : call Φ (k + 1) x ds S = Zpv (Zae (call Φ k) df.body (ds.map .v ++ List.replicate (df.n - ds.length) .no) S) := by
 rw [Zg7 h, Qan hl]
 rfl
def ovR : Option Sl -> Store -> RD
 | some (.v d), S => .ok d S
 | _, _ => .bad
def owR : Option Sl -> Store -> RD
 | some (.o ob), S => .ok ob.rd S
 | _, _ => .bad
@[simp] theorem Zs7 (d : D) (S : Store) : ovR (some (.v d)) S = .ok d S := rfl
@[simp] theorem Yge (o : O) (S : Store) : owR (some (.o o)) S = .ok o.rd S := rfl
@[simp] theorem Zu8 (xs : List D) : (O.lst xs).rd = .wl xs := rfl
@[simp] theorem Ygf (xs : List (L2.Key × D)) : (O.dK xs).rd = .wd xs := rfl
@[simp] theorem Ygg (xs : List (PySem.NestedKey × D)) : (O.dT xs).rd = .wT xs := rfl
section
variable {C : Cl} {ρ : Ev} {S : Store}
noncomputable def Zy1 (op : PySem.Operator) (x : D) : D -> Store -> RD := fun y S => R.ofO S (Zht op (rdS S x) (rdS S y))
noncomputable def Yc6 (C : Cl) (op : PySem.Operator) (b : ME) (ρ : Ev) : D -> Store -> RD := fun x S => (ev C b ρ S).bind (Zy1 op x)
noncomputable def Yc7  : D -> Store -> RD := fun x S => match x with
 | .int i => .ok (.int (-i)) S
 | _ => .bad
noncomputable def Zy2 (op : PySem.CmpOp) (x : D) : D -> Store -> RD := fun y S => R.ofO S ((Zhv op (rdS S x) (rdS S y)).map .bl)
noncomputable def Yc8 (C : Cl) (op : PySem.CmpOp) (b : MR) (ρ : Ev) : D -> Store -> RD := fun x S => (evr C b ρ S).bind (Zy2 op x)
noncomputable def kNt  : D -> Store -> RD := fun x S => match x with
 | .bl b => .ok (.bl (!b)) S
 | _ => .bad
noncomputable def Yc9 (C : Cl) (b : ME) (ρ : Ev) : D -> Store -> RD := fun x S => match x with
 | .bl true => ev C b ρ S
 | .bl false => .ok (.bl false) S
 | _ => .bad
noncomputable def kOr (C : Cl) (b : ME) (ρ : Ev) : D -> Store -> RD := fun x S => match x with
 | .bl true => .ok (.bl true) S
 | .bl false => ev C b ρ S
 | _ => .bad
noncomputable def Yda (C : Cl) (a b : ME) (ρ : Ev) : D -> Store -> RD := fun x S => match x with
 | .bl true => ev C a ρ S
 | .bl false => ev C b ρ S
 | _ => .bad
noncomputable def Zy3  : List D -> Store -> RD := fun xs S => if xs.length <= sizeLine then .ok (.tup xs) S else .bad
noncomputable def Zy4 (x : D) : D -> Store -> RD := fun y S => R.ofO S (Zf0 (rdS S x) (rdS S y))
noncomputable def Ydb (C : Cl) (i : ME) (ρ : Ev) : D -> Store -> RD := fun x S => (ev C i ρ S).bind (Zy4 x)
noncomputable def Zy5 (x : D) (l : Option Int) : Option Int -> Store -> RD := fun h S => R.ofO S (Zdj (rdS S x) l h)
noncomputable def Zy6 (C : Cl) (x : D) (hi : Option ME) (ρ : Ev) : Option Int -> Store -> RD := fun l S => (evo C hi ρ S).bind (Zy5 x l)
noncomputable def Ydc (C : Cl) (lo hi : Option ME) (ρ : Ev) : D -> Store -> RD := fun x S => (evo C lo ρ S).bind (Zy6 C x hi ρ)
noncomputable def Yaa  : D -> Store -> RD := fun x S => match x with
 | .tup xs => .ok (.tup xs.reverse) S
 | .wl xs => .ok (.wl xs.reverse) S
 | _ => .bad
noncomputable def Ydd (f : Bf) : List D -> Store -> RD := fun xs S => R.ofO S (Zft f (xs.map (rdS S)))
noncomputable def Zy7 (f : Mf) (x : D) : List D -> Store -> RD := fun xs S => R.ofO S (Zqr f (rdS S x) (xs.map (rdS S)))
noncomputable def Yde (C : Cl) (f : Mf) (es : List ME) (ρ : Ev) : D -> Store -> RD := fun x S => if Zeq f (rdS S x) then (evs C es ρ S).bind (Zy7 f x) else .bad
noncomputable def Yab (x y : D) : D -> Store -> RD := fun z S => match rdS S x with
 | .wd kvs => R.ofO S ((Zcj y).map fun k => (Ze4 kvs k).getD z)
 | _ => .bad
noncomputable def Yac (C : Cl) (x : D) (d : ME) (ρ : Ev) : D -> Store -> RD := fun y S => (ev C d ρ S).bind (Yab x y)
noncomputable def kDg (C : Cl) (k d : ME) (ρ : Ev) : D -> Store -> RD := fun x S => match rdS S x with
 | .wd _ => (ev C k ρ S).bind (Yac C x d ρ)
 | _ => .bad
noncomputable def Ydf (t : Ty) : D -> Store -> RD := fun x S => if Zbj x then .ok (.bl (Zni x t)) S else .bad
noncomputable def Ydg  : O -> Store -> RD := fun ob S => .ok ob.rd S
noncomputable def Ydh  : O -> Store -> RD := fun ob S => .ok (.ref S.nx) (S.new ob)
noncomputable def Zj1 (x : D) : List D -> Store -> R Xn (List D) := fun xs S => .ok (x :: xs) S
noncomputable def Ydi (C : Cl) (es : List ME) (ρ : Ev) : D -> Store -> R Xn (List D) := fun x S => (evs C es ρ S).bind (Zj1 x)
noncomputable def Z4a (C : Cl) (es : List MR) (ρ : Ev) : D -> Store -> R Xn (List D) := fun x S => (Zi4 C es ρ S).bind (Zj1 x)
noncomputable def Ydj  : D -> Store -> R Xn (Option Int) := fun x S => match x with
 | .int i => .ok (some i) S
 | _ => .bad
noncomputable def kIt (f : D -> Option (List D)) : D -> Store -> R Xn (List D) := fun x S => R.ofO S (f x)
noncomputable def Z4b  : D -> Store -> R Xn (List D) := fun x S => match x with
 | .int j => R.ofO S (Zc5 0 j)
 | _ => .bad
noncomputable def Zy8 (x : D) : D -> Store -> R Xn (List D) := fun y S => match x, y with
 | .int i, .int j => R.ofO S (Zc5 i j)
 | _, _ => .bad
noncomputable def Z4c (C : Cl) (b : ME) (ρ : Ev) : D -> Store -> R Xn (List D) := fun x S => (ev C b ρ S).bind (Zy8 x)
noncomputable def Ydk  : List D -> Store -> R Xn O := fun xs S => if xs.length <= sizeLine then .ok (.lst xs) S else .bad
noncomputable def Ydl  : List D -> Store -> R Xn O := fun xs S => R.ofO S (Zf1 xs)
noncomputable def Ydm (f : Of) : List D -> Store -> R Xn O := fun xs S => R.ofO S (Zqq f (xs.map (rdS S)))
noncomputable def kLo  : List D -> Store -> R Xn O := fun xs S => .ok (.lst xs) S
noncomputable def kLc (C : Cl) (vs : List Nat) (t : MT) (c : Option ME) (e : ME) (ρ : Ev) : List D -> Store -> R Xn O := fun ds S => (lcL (lcF C ρ vs t c e) ds [] S).bind kLo
noncomputable def Zy9  : D -> Store -> R Xn (Option D) := fun y S => .ok (some y) S
noncomputable def Z4d (C : Cl) (e : ME) (ρ : Ev) : Bool -> Store -> R Xn (Option D) := fun b S => if b then (ev C e ρ S).bind Zy9 else .ok none S
noncomputable def Zix (x : Sl) : List Sl -> Store -> R Xn (List Sl) := fun xs S => .ok (x :: xs) S
noncomputable def Z4e (C : Cl) (es : List MP) (ρ : Ev) : D -> Store -> R Xn (List Sl) := fun x S => (evp C es ρ S).bind (Zix (.v x))
noncomputable def Z4f (C : Cl) (es : List MP) (ρ : Ev) : O -> Store -> R Xn (List Sl) := fun x S => (evp C es ρ S).bind (Zix (.o x))
@[simp] theorem Zlr (d : D) : ev C (.cst d) ρ S = .ok d S := by simp only [ev]
@[simp] theorem Zls (i : Nat) : ev C (.var i) ρ S = ovR ρ[i]? S := by
 simp only [ev]
 cases ρ[i]? with
 | none => rfl
 | some o => cases o <;> rfl
@[simp] theorem Yad (i : Nat) : evr C (.own i) ρ S = owR ρ[i]? S := by
 simp only [evr]
 cases ρ[i]? with
 | none => rfl
 | some o => cases o <;> rfl
@[simp] theorem Zza (e : ME) : evr C (.val e) ρ S = ev C e ρ S := by simp only [evr]
@[simp] theorem Ydn (x : Str) (d : D) : ev C (.glb x d) ρ S = .ok d S := by simp only [ev]
@[simp] theorem Zlt (op : PySem.Operator) (a b : ME) : ev C (.bin op a b) ρ S = (ev C a ρ S).bind (Yc6 C op b ρ) := by simp only [ev]; rfl
@[simp] theorem Zhe (op : PySem.Operator) (b : ME) (x : D) : Yc6 C op b ρ x S = (ev C b ρ S).bind (Zy1 op x) := rfl
@[simp] theorem Zhf (op : PySem.Operator) (x y : D) : Zy1 op x y S = R.ofO S (Zht op (rdS S x) (rdS S y)) := rfl
@[simp] theorem Ydo (a : ME) : ev C (.neg a) ρ S = (ev C a ρ S).bind Yc7 := by simp only [ev]; rfl
@[simp] theorem Yae (i : Int) : Yc7 (.int i) S = .ok (.int (-i)) S := rfl
@[simp] theorem Ydp (op : PySem.CmpOp) (a b : MR) : ev C (.cmp op a b) ρ S = (evr C a ρ S).bind (Yc8 C op b ρ) := by simp only [ev]; rfl
@[simp] theorem Yaf (op : PySem.CmpOp) (b : MR) (x : D) : Yc8 C op b ρ x S = (evr C b ρ S).bind (Zy2 op x) := rfl
@[simp] theorem Z63 (op : PySem.CmpOp) (x y : D) : Zy2 op x y S = R.ofO S ((Zhv op (rdS S x) (rdS S y)).map .bl) := rfl
@[simp] theorem Ygh (a : ME) : ev C (.nt a) ρ S = (ev C a ρ S).bind kNt := by simp only [ev]; rfl
@[simp] theorem Ydq (i : Bool) : kNt (.bl i) S = .ok (.bl (!i)) S := rfl
@[simp] theorem Ydr (a b : ME) : ev C (.and a b) ρ S = (ev C a ρ S).bind (Yc9 C b ρ) := by simp only [ev]; rfl
@[simp] theorem Yag (m : ME) (b : Bool) : Yc9 C m ρ (.bl b) S = if b = true then ev C m ρ S else .ok (.bl false) S := by cases b <;> rfl
@[simp] theorem Ygi (a b : ME) : ev C (.or a b) ρ S = (ev C a ρ S).bind (kOr C b ρ) := by simp only [ev]; rfl
@[simp] theorem Yds (m : ME) (b : Bool) : kOr C m ρ (.bl b) S = if b = true then .ok (.bl true) S else ev C m ρ S := by cases b <;> rfl
@[simp] theorem Ydt (c a b : ME) : ev C (.ife c a b) ρ S = (ev C c ρ S).bind (Yda C a b ρ) := by simp only [ev]; rfl
@[simp] theorem Yah (m m' : ME) (b : Bool) : Yda C m m' ρ (.bl b) S = if b = true then ev C m ρ S else ev C m' ρ S := by cases b <;> rfl
@[simp] theorem Ydu (es : List ME) : ev C (.tup es) ρ S = (evs C es ρ S).bind Zy3 := by simp only [ev]; rfl
theorem Zfn (xs : List D) (h : xs.length <= sizeLine) : Zy3 xs S = .ok (.tup xs) S := Qan h
theorem sz {n : Nat} (h : n <= 100000) : n <= sizeLine := Nat.le_of_lt (Nat.lt_of_le_of_lt h (by decide))
@[simp] theorem Ydv  : Zy3 [] S = .ok (.tup []) S := Zfn _ (sz (by simp))
@[simp] theorem Ydw (a : D)  : Zy3 [a] S = .ok (.tup [a]) S := Zfn _ (sz (by simp))
@[simp] theorem Ydx (a : D) (b : D)  : Zy3 [a, b] S = .ok (.tup [a, b]) S := Zfn _ (sz (by simp))
@[simp] theorem Ydy (a : D) (b : D) (c : D)  : Zy3 [a, b, c] S = .ok (.tup [a, b, c]) S := Zfn _ (sz (by simp))
@[simp] theorem Ydz (a : D) (b : D) (c : D) (d : D)  : Zy3 [a, b, c, d] S = .ok (.tup [a, b, c, d]) S := Zfn _ (sz (by simp))
@[simp] theorem Z4g (a : MR) (i : ME) : ev C (.sub a i) ρ S = (evr C a ρ S).bind (Ydb C i ρ) := by simp only [ev]; rfl
@[simp] theorem Zzb (i : ME) (x : D) : Ydb C i ρ x S = (ev C i ρ S).bind (Zy4 x) := rfl
@[simp] theorem Z64 (x y : D) : Zy4 x y S = R.ofO S (Zf0 (rdS S x) (rdS S y)) := rfl
@[simp] theorem Z4h (a : ME) (lo hi : Option ME) : ev C (.slc a lo hi) ρ S = (ev C a ρ S).bind (Ydc C lo hi ρ) := by simp only [ev]; rfl
@[simp] theorem Zzc (lo hi : Option ME) (x : D) : Ydc C lo hi ρ x S = (evo C lo ρ S).bind (Zy6 C x hi ρ) := rfl
@[simp] theorem Zs8 (hi : Option ME) (x : D) (l : Option Int) : Zy6 C x hi ρ l S = (evo C hi ρ S).bind (Zy5 x l) := rfl
@[simp] theorem Zs9 (x : D) (l h : Option Int) : Zy5 x l h S = R.ofO S (Zdj (rdS S x) l h) := rfl
@[simp] theorem Yd0 (a : ME) : ev C (.rev a) ρ S = (ev C a ρ S).bind Yaa := by simp only [ev]; rfl
@[simp] theorem Yai (xs : List D) : Yaa (.tup xs) S = .ok (.tup xs.reverse) S := rfl
@[simp] theorem Yaj (xs : List D) : Yaa (.wl xs) S = .ok (.wl xs.reverse) S := rfl
@[simp] theorem Zzd (f : Str) (es : List ME) : ev C (.call f es) ρ S = (evs C es ρ S).bind (C f) := by simp only [ev]
@[simp] theorem Yd1 (f : Bf) (es : List MR) : ev C (.blt f es) ρ S = (Zi4 C es ρ S).bind (Ydd f) := by simp only [ev]; rfl
@[simp] theorem Yak (f : Bf) (xs : List D) : Ydd f xs S = R.ofO S (Zft f (xs.map (rdS S))) := rfl
@[simp] theorem Yd2 (f : Mf) (o : MR) (es : List ME) : ev C (.mth f o es) ρ S = (evr C o ρ S).bind (Yde C f es ρ) := by simp only [ev]; rfl
@[simp] theorem Yal (f : Mf) (es : List ME) (x : D) : Yde C f es ρ x S = if Zeq f (rdS S x) = true then (evs C es ρ S).bind (Zy7 f x) else .bad := rfl
@[simp] theorem Z65 (f : Mf) (x : D) (xs : List D) : Zy7 f x xs S = R.ofO S (Zqr f (rdS S x) (xs.map (rdS S))) := rfl
@[simp] theorem Yam (o : MR) (k d : ME) : ev C (.dget o k d) ρ S = (evr C o ρ S).bind (kDg C k d ρ) := by
 simp only [ev]
 congr 1
@[simp] theorem Yan (d : ME) (x y : D) : Yac C x d ρ y S = (ev C d ρ S).bind (Yab x y) := rfl
@[simp] theorem Yd3 (kvs : List (L2.Key × D)) (k d : ME) : kDg C k d ρ (.wd kvs) S = (ev C k ρ S).bind (Yac C (.wd kvs) d ρ) := rfl
@[simp] theorem Yao (kvs : List (L2.Key × D)) (y z : D) : Yab (.wd kvs) y z S = R.ofO S ((Zcj y).map fun k => (Ze4 kvs k).getD z) := rfl
@[simp] theorem Yd4 (a : ME) (t : Ty) : ev C (.isi a t) ρ S = (ev C a ρ S).bind (Ydf t) := by simp only [ev]; rfl
@[simp] theorem Yap (t : Ty) (x : D) : Ydf t x S = if Zbj x = true then .ok (.bl (Zni x t)) S else .bad := rfl
@[simp] theorem Zu9 (o : MO) : ev C (.frz o) ρ S = (evO C o ρ S).bind Ydg := by simp only [ev]; rfl
@[simp] theorem Zpw (o : O) : Ydg o S = .ok o.rd S := rfl
@[simp] theorem Yd5 (o : MO) : ev C (.sto o) ρ S = (evO C o ρ S).bind Ydh := by simp only [ev]; rfl
@[simp] theorem Yaq (o : O) : Ydh o S = .ok (.ref S.nx) (S.new o) := rfl
@[simp] theorem Zpx  : evs C [] ρ S = .ok [] S := by simp only [evs]
@[simp] theorem Zlu (e : ME) (es : List ME) : evs C (e :: es) ρ S = (ev C e ρ S).bind (Ydi C es ρ) := by simp only [evs]; rfl
@[simp] theorem Zpy (es : List ME) (x : D) : Ydi C es ρ x S = (evs C es ρ S).bind (Zj1 x) := rfl
@[simp] theorem Zlv (x : D) (xs : List D) : Zj1 x xs S = .ok (x :: xs) S := rfl
@[simp] theorem Z66  : Zi4 C [] ρ S = .ok [] S := by simp only [Zi4]
@[simp] theorem Z4i (e : MR) (es : List MR) : Zi4 C (e :: es) ρ S = (evr C e ρ S).bind (Z4a C es ρ) := by simp only [Zi4]; rfl
@[simp] theorem Z67 (es : List MR) (x : D) : Z4a C es ρ x S = (Zi4 C es ρ S).bind (Zj1 x) := rfl
@[simp] theorem Yar  : evp C [] ρ S = .ok [] S := by simp only [evp]
@[simp] theorem Ygj (e : ME) (es : List MP) : evp C (.v e :: es) ρ S = (ev C e ρ S).bind (Z4e C es ρ) := by simp only [evp]; rfl
@[simp] theorem Ygk (e : MO) (es : List MP) : evp C (.o e :: es) ρ S = (evO C e ρ S).bind (Z4f C es ρ) := by simp only [evp]; rfl
@[simp] theorem Z68 (es : List MP) (x : D) : Z4e C es ρ x S = (evp C es ρ S).bind (Zix (.v x)) := rfl
@[simp] theorem Z69 (es : List MP) (x : O) : Z4f C es ρ x S = (evp C es ρ S).bind (Zix (.o x)) := rfl
@[simp] theorem Z4j (x : Sl) (xs : List Sl) : Zix x xs S = .ok (x :: xs) S := rfl
@[simp] theorem Zta  : evo C none ρ S = .ok none S := by simp only [evo]
@[simp] theorem Ztb (e : ME) : evo C (some e) ρ S = (ev C e ρ S).bind Ydj := by simp only [evo]; rfl
@[simp] theorem Zze (i : Int) : Ydj (.int i) S = .ok (some i) S := rfl
@[simp] theorem Ztc  : evc C none ρ S = .ok true S := by simp only [evc]
@[simp] theorem Z7a (e : ME) : evc C (some e) ρ S = (ev C e ρ S).bind blR := by simp only [evc]
@[simp] theorem Yd6 (b : Bool) : blR (.bl b) S = .ok b S := rfl
@[simp] theorem Zzf (e : ME) : evi C (.seq e) ρ S = (ev C e ρ S).bind (kIt Zja) := by simp only [evi]; rfl
@[simp] theorem Yas (e : ME) : evi C (.str e) ρ S = (ev C e ρ S).bind (kIt Zvv) := by simp only [evi]; rfl
@[simp] theorem Z7b (e : ME) : evi C (.keys e) ρ S = (ev C e ρ S).bind (kIt Znj) := by simp only [evi]; rfl
@[simp] theorem Z7c (e : ME) : evi C (.enum e) ρ S = (ev C e ρ S).bind (kIt Zhx) := by simp only [evi]; rfl
@[simp] theorem Z4k (f : D -> Option (List D)) (x : D) : kIt f x S = R.ofO S (f x) := rfl
@[simp] theorem Ztd (e : ME) : evi C (.rng1 e) ρ S = (ev C e ρ S).bind Z4b := by simp only [evi]; rfl
@[simp] theorem Zte (i : Int) : Z4b (.int i) S = R.ofO S (Zc5 0 i) := rfl
@[simp] theorem Z7d (a b : ME) : evi C (.rng2 a b) ρ S = (ev C a ρ S).bind (Z4c C b ρ) := by simp only [evi]; rfl
@[simp] theorem Z7e (b : ME) (x : D) : Z4c C b ρ x S = (ev C b ρ S).bind (Zy8 x) := rfl
@[simp] theorem Z7f (i j : Int) : Zy8 (.int i) (.int j) S = R.ofO S (Zc5 i j) := rfl
@[simp] theorem Yat (es : List ME) : evO C (.lst es) ρ S = (evs C es ρ S).bind Ydk := by simp only [evO]; rfl
@[simp] theorem Yau (xs : List D) : Ydk xs S = if xs.length <= sizeLine then .ok (.lst xs) S else .bad := rfl
@[simp] theorem Yav (es : List ME) : evO C (.dct es) ρ S = (evs C es ρ S).bind Ydl := by simp only [evO]; rfl
@[simp] theorem Z7g  : evO C .dctT ρ S = .ok (.dT []) S := by simp only [evO]
@[simp] theorem Yaw (xs : List D) : Ydl xs S = R.ofO S (Zf1 xs) := rfl
@[simp] theorem Yax (f : Of) (es : List MR) : evO C (.blt f es) ρ S = (Zi4 C es ρ S).bind (Ydm f) := by simp only [evO]; rfl
@[simp] theorem Yay (f : Of) (xs : List D) : Ydm f xs S = R.ofO S (Zqq f (xs.map (rdS S))) := rfl
@[simp] theorem Zva (vs : List Nat) (t : MT) (it : MI) (c : Option ME) (e : ME) : evO C (.lc vs t it c e) ρ S = (evi C it ρ S).bind (kLc C vs t c e ρ) := by rw [Z19]; rfl
theorem Zgl (vs : List Nat) (t : MT) (c : Option ME) (e : ME) (q : List D) : kLc C vs t c e ρ q S = (lcL (lcF C ρ vs t c e) q [] S).bind kLo := rfl
@[simp] theorem Zvb (xs : List D) : kLo xs S = .ok (.lst xs) S := rfl
theorem Zpz {vs : List Nat} {t : MT} {c : Option ME} {e : ME} {d : D} {ρ' : Ev} (h : putT t d (Zaw ρ vs) = some ρ') : lcF C ρ vs t c e d S = (evc C c ρ' S).bind (Z4d C e ρ') := by
 unfold lcF; rw [h]; rfl
@[simp] theorem Z4l {vs : List Nat} {i : Nat} {c : Option ME} {e : ME} {d : D} : lcF C ρ vs (.nm i) c e d S = (evc C c ((Zaw ρ vs).set i (.v d)) S).bind (Z4d C e ((Zaw ρ vs).set i (.v d))) := Zpz rfl
@[simp] theorem Yaz {vs : List Nat} {i j : Nat} {c : Option ME} {e : ME} {x y : D} : lcF C ρ vs (.tp [i, j]) c e (.tup [x, y]) S = (evc C c (((Zaw ρ vs).set i (.v x)).set j (.v y)) S).bind (Z4d C e (((Zaw ρ vs).set i (.v x)).set j (.v y))) := Zpz rfl
@[simp] theorem Z7h {vs : List Nat} {i j : Nat} {c : Option ME} {e : ME} {x y : D} : lcF C ρ vs (.tp [i, j]) c e (.kt [x, y]) S = (evc C c (((Zaw ρ vs).set i (.v x)).set j (.v y)) S).bind (Z4d C e (((Zaw ρ vs).set i (.v x)).set j (.v y))) := Zpz rfl
@[simp] theorem Zlw : Zaw ρ [] = ρ := rfl
@[simp] theorem Ziy (v : Nat) (vs : List Nat) : Zaw ρ (v :: vs) = (Zaw ρ vs).set v .no := rfl
@[simp] theorem Zzg (e : ME) (b : Bool) : Z4d C e ρ b S = if b = true then (ev C e ρ S).bind Zy9 else .ok none S := rfl
@[simp] theorem Z7i (y : D) : Zy9 y S = .ok (some y) S := rfl
noncomputable def Z4m (C : Cl) (b : MS) : Fl -> Store -> RS := fun fl S => match fl with
 | .nx ρ' => Zae C b ρ' S
 | fl => .ok fl S
noncomputable def Zzh (t : MT) (ρ : Ev) : D -> Store -> RS := fun d S => match putT t d ρ with
 | some ρ' => .ok (.nx ρ') S
 | none => .bad
noncomputable def Yd7 (i : Nat) (ρ : Ev) : O -> Store -> RS := fun ob S => .ok (.nx (ρ.set i (.o ob))) S
noncomputable def Z7j (is : List Nat) (ρ : Ev) : List Sl -> Store -> RS := fun ds S => if ds.length = is.length then .ok (.nx (setAll is ds ρ)) S else .bad
noncomputable def Z4n (ρ : Ev) : D -> Store -> RS := fun _ S => .ok (.nx ρ) S
noncomputable def Yd8  : D -> Store -> RS := fun d S => .ok (.rt d) S
noncomputable def Yd9 (C : Cl) (a b : MS) (ρ : Ev) : D -> Store -> RS := fun d S => match d with
 | .bl true => Zae C a ρ S
 | .bl false => Zae C b ρ S
 | _ => .bad
noncomputable def Yea (C : Cl) (t : MT) (b : MS) (ρ : Ev) : List D -> Store -> RS := fun q S => Zet (Zg5 C t b) q ρ S
def bx (ρ : Ev) : Xn -> Xn × Ev := fun x => (x, ρ)
noncomputable def Ztf (v x : D) (ρ : Ev) : D -> Store -> RS := fun y S => match x with
 | .ref r => match (S.get r).bind fun ob => setO ob y v with
  | some ob => .ok (.nx ρ) (S.put r ob)
  | none => .bad
 | _ => .bad
noncomputable def Zzi (C : Cl) (v : D) (i : ME) (ρ : Ev) : D -> Store -> RS := fun x S => ((ev C i ρ S).mapE (bx ρ)).bind (Ztf v x ρ)
noncomputable def Yeb (C : Cl) (o i : ME) (ρ : Ev) : D -> Store -> RS := fun v S => ((ev C o ρ S).mapE (bx ρ)).bind (Zzi C v i ρ)
noncomputable def Z4o (j : Nat) (ob : O) (v : D) (ρ : Ev) : D -> Store -> RS := fun y S => match setO ob y v with
 | some ob => .ok (.nx (ρ.set j (.o ob))) S
 | none => .bad
noncomputable def Ya0 (C : Cl) (j : Nat) (i : ME) (ρ : Ev) : D -> Store -> RS := fun v S => match ρ[j]? with
 | some (.o ob) => ((ev C i ρ S).mapE (bx ρ)).bind (Z4o j ob v ρ)
 | _ => .bad
noncomputable def Z4p (r : Nat) (f : Uf) (ρ : Ev) : List D -> Store -> RS := fun xs S => match (S.get r).bind fun ob => Zj9 f ob (Znb f S xs) with
 | some ob => .ok (.nx ρ) (S.put r ob)
 | none => .bad
noncomputable def Ya1 (C : Cl) (f : Uf) (es : List ME) (ρ : Ev) : D -> Store -> RS := fun x S => match x with
 | .ref r => match S.get r with
  | some ob => if Zi9 f ob then ((evs C es ρ S).mapE (bx ρ)).bind (Z4p r f ρ) else .bad
  | none => .bad
 | _ => .bad
noncomputable def Zlx (j : Nat) (f : Uf) (ob : O) (ρ : Ev) : List D -> Store -> RS := fun xs S => match Zj9 f ob (Znb f S xs) with
 | some ob => .ok (.nx (ρ.set j (.o ob))) S
 | none => .bad
noncomputable def whC (C : Cl) (c : ME) : Ev -> Store -> R (Xn × Ev) D := fun ρ S => (ev C c ρ S).mapE fun x => (x, ρ)
@[simp] theorem Zzj  : Zae C .skip ρ S = .ok (.nx ρ) S := by simp only [Zae]
@[simp] theorem Yec  : Zae C .brk ρ S = .ok (.bk ρ) S := by simp only [Zae]
@[simp] theorem Yed  : Zae C .ctn ρ S = .ok (.ct ρ) S := by simp only [Zae]
@[simp] theorem Zbn (a b : MS) : Zae C (.seq a b) ρ S = (Zae C a ρ S).bind (Z4m C b) := by simp only [Zae]; rfl
@[simp] theorem Zbl (b : MS) (ρ' : Ev) : Z4m C b (.nx ρ') S = Zae C b ρ' S := rfl
@[simp] theorem Zzk (b : MS) (d : D) : Z4m C b (.rt d) S = .ok (.rt d) S := rfl
@[simp] theorem Ya2 (b : MS) (ρ' : Ev) : Z4m C b (.bk ρ') S = .ok (.bk ρ') S := rfl
@[simp] theorem Ya3 (b : MS) (ρ' : Ev) : Z4m C b (.ct ρ') S = .ok (.ct ρ') S := rfl
@[simp] theorem Zgm (t : MT) (e : ME) : Zae C (.asg t e) ρ S = ((ev C e ρ S).mapE (bx ρ)).bind (Zzh t ρ) := by simp only [Zae]; rfl
@[simp] theorem Zhg (i : Nat) (d : D) : Zzh (.nm i) ρ d S = .ok (.nx (ρ.set i (.v d))) S := rfl
@[simp] theorem Z7k (i j : Nat) (a b : D) : Zzh (.tp [i, j]) ρ (.tup [a, b]) S = .ok (.nx ((ρ.set i (.v a)).set j (.v b))) S := rfl
@[simp] theorem Z4q (i j : Nat) (a b : D) : Zzh (.tp [i, j]) ρ (.wl [a, b]) S = .ok (.nx ((ρ.set i (.v a)).set j (.v b))) S := rfl
@[simp] theorem Z4r (i j : Nat) (a b : D) : Zzh (.tp [i, j]) ρ (.kt [a, b]) S = .ok (.nx ((ρ.set i (.v a)).set j (.v b))) S := rfl
@[simp] theorem Z7l (i j l : Nat) (a b c : D) : Zzh (.tp [i, j, l]) ρ (.tup [a, b, c]) S = .ok (.nx (((ρ.set i (.v a)).set j (.v b)).set l (.v c))) S := rfl
@[simp] theorem Z4s (i j l : Nat) (a b c : D) : Zzh (.tp [i, j, l]) ρ (.kt [a, b, c]) S = .ok (.nx (((ρ.set i (.v a)).set j (.v b)).set l (.v c))) S := rfl
@[simp] theorem Yee (i : Nat) (m : MO) : Zae C (.new i m) ρ S = ((evO C m ρ S).mapE (bx ρ)).bind (Yd7 i ρ) := by simp only [Zae]; rfl
@[simp] theorem Ya4 (i : Nat) (o : O) : Yd7 i ρ o S = .ok (.nx (ρ.set i (.o o))) S := rfl
@[simp] theorem Yef (is : List Nat) (es : List MP) : Zae C (.par is es) ρ S = ((evp C es ρ S).mapE (bx ρ)).bind (Z7j is ρ) := by simp only [Zae]; rfl
@[simp] theorem Ygl (i j : Nat) (a b : Sl) : Z7j [i, j] ρ [a, b] S = .ok (.nx ((ρ.set i a).set j b)) S := rfl
@[simp] theorem Ygm (i j l : Nat) (a b c : Sl) : Z7j [i, j, l] ρ [a, b, c] S = .ok (.nx (((ρ.set i a).set j b).set l c)) S := rfl
@[simp] theorem Ygn (i j l m : Nat) (a b c d : Sl) : Z7j [i, j, l, m] ρ [a, b, c, d] S = .ok (.nx ((((ρ.set i a).set j b).set l c).set m d)) S := rfl
@[simp] theorem Ya5 (e : ME) : Zae C (.expr e) ρ S = ((ev C e ρ S).mapE (bx ρ)).bind (Z4n ρ) := by simp only [Zae]; rfl
@[simp] theorem Z7m (d : D) : Z4n ρ d S = .ok (.nx ρ) S := rfl
@[simp] theorem Z4t (e : ME) : Zae C (.ret e) ρ S = ((ev C e ρ S).mapE (bx ρ)).bind Yd8 := by simp only [Zae]; rfl
@[simp] theorem Zzl (d : D) : Yd8 d S = .ok (.rt d) S := rfl
@[simp] theorem Yeg (c : ME) (a b : MS) : Zae C (.ife c a b) ρ S = ((ev C c ρ S).mapE (bx ρ)).bind (Yd9 C a b ρ) := by simp only [Zae]; rfl
@[simp] theorem Ya6 (a b : MS) (t : Bool) : Yd9 C a b ρ (.bl t) S = if t = true then Zae C a ρ S else Zae C b ρ S := by cases t <;> rfl
@[simp] theorem Zvc (t : MT) (it : MI) (b : MS) : Zae C (.for_ t it b) ρ S = ((evi C it ρ S).mapE (bx ρ)).bind (Yea C t b ρ) := by rw [Zk5]; rfl
theorem Zeb (t : MT) (b : MS) (q : List D) : Yea C t b ρ q S = Zet (Zg5 C t b) q ρ S := rfl
@[simp] theorem Zzm (i : Nat) (b : MS) (d : D) : Zg5 C (.nm i) b d ρ S = Zae C b (ρ.set i (.v d)) S := rfl
@[simp] theorem Ztg (i j : Nat) (b : MS) (x y : D) : Zg5 C (.tp [i, j]) b (.tup [x, y]) ρ S = Zae C b ((ρ.set i (.v x)).set j (.v y)) S := rfl
@[simp] theorem Z4u (i j : Nat) (b : MS) (x y : D) : Zg5 C (.tp [i, j]) b (.kt [x, y]) ρ S = Zae C b ((ρ.set i (.v x)).set j (.v y)) S := rfl
@[simp] theorem Z4v (n : Nat) (c : ME) (b : MS) : Zae C (.whl n c b) ρ S = Zt4 (whC C c) (Zae C b) n ρ S := by simp only [Zae]; rfl
@[simp] theorem Yeh (c : ME) : whC C c ρ S = (ev C c ρ S).mapE (bx ρ) := rfl
@[simp] theorem Ya7 (o i e : ME) : Zae C (.setI o i e) ρ S = ((ev C e ρ S).mapE (bx ρ)).bind (Yeb C o i ρ) := by simp only [Zae]; rfl
@[simp] theorem Ya8 (o i : ME) (v : D) : Yeb C o i ρ v S = ((ev C o ρ S).mapE (bx ρ)).bind (Zzi C v i ρ) := rfl
@[simp] theorem Z7n (i : ME) (v x : D) : Zzi C v i ρ x S = ((ev C i ρ S).mapE (bx ρ)).bind (Ztf v x ρ) := rfl
@[simp] theorem Ya9 (j : Nat) (i e : ME) : Zae C (.setN j i e) ρ S = ((ev C e ρ S).mapE (bx ρ)).bind (Ya0 C j i ρ) := by
 simp only [Zae]
 rfl
@[simp] theorem Yba (o : ME) (f : Uf) (es : List ME) : Zae C (.mutS o f es) ρ S = ((ev C o ρ S).mapE (bx ρ)).bind (Ya1 C f es ρ) := by
 simp only [Zae]; rfl
theorem Zly {j : Nat} {ob : O} {f : Uf} (h : ρ[j]? = some (.o ob)) (ht : Zi9 f ob = true) (es : List ME) : Zae C (.mut j f es) ρ S = ((evs C es ρ S).mapE (bx ρ)).bind (Zlx j f ob ρ) := by
 simp only [Zae, h, ht, if_true]
 rfl
theorem Zzn {j : Nat} {ob ob' : O} {f : Uf} {xs : List D} (h : Zj9 f ob (Znb f S xs) = some ob') : Zlx j f ob ρ xs S = .ok (.nx (ρ.set j (.o ob'))) S := by simp only [Zlx, h]
theorem Zzo {j : Nat} {ob : O} (h : ρ[j]? = some (.o ob)) : Zae C (.fz j) ρ S = .ok (.nx (ρ.set j (.v ob.rd))) S := by simp only [Zae, h]
@[simp] theorem Zzp (vs : List Nat) : Zae C (.wipe vs) ρ S = .ok (.nx (Zaw ρ vs)) S := by simp only [Zae]
@[simp] theorem Zcf {ε ε' α : Type} (g : ε -> ε') (a : α) : (R.ok a S : R ε α).mapE g = .ok a S := rfl
end
section
variable {S : Store}
@[simp] theorem Ybb  : rdS S .non = .non := rfl
@[simp] theorem Yei (x : Bool) : rdS S (.bl x) = .bl x := rfl
@[simp] theorem Zp0 (x : Int) : rdS S (.int x) = .int x := rfl
@[simp] theorem Ybc (x : Str) : rdS S (.str x) = .str x := rfl
@[simp] theorem Zzq (x : List D) : rdS S (.tup x) = .tup x := rfl
@[simp] theorem Yej (x : List D) : rdS S (.kt x) = .kt x := rfl
@[simp] theorem Yek (x : List D) : rdS S (.wt x) = .wt x := rfl
@[simp] theorem Yel (x : List D) : rdS S (.ks x) = .ks x := rfl
@[simp] theorem Zp1 (x : List D) : rdS S (.wl x) = .wl x := rfl
@[simp] theorem Yem (x : List (L2.Key × D)) : rdS S (.wd x) = .wd x := rfl
@[simp] theorem Yen (x : List (PySem.NestedKey × D)) : rdS S (.wT x) = .wT x := rfl
theorem Zd0 {α : Type} (xs : List α) {j : Int} (h : 0 <= j) : Zfs xs none (some j) = xs.take j.toNat := by
 obtain ⟨n, rfl⟩ := Int.eq_ofNat_of_zero_le h
 unfold Zfs
 rw [HT.sIx_none, HT.sIx_nat, List.drop_zero]
 simp [List.take_eq_take_iff]
theorem Zlz {α : Type} (xs : List α) {j : Int} (h : 0 <= j) : Zfs xs (some j) none = xs.drop j.toNat := by
 obtain ⟨n, rfl⟩ := Int.eq_ofNat_of_zero_le h
 unfold Zfs
 rw [HT.sIx_none, HT.sIx_nat]
 by_cases q : n <= xs.length
 ·rw [Nat.min_eq_left q]
  exact List.take_of_length_le (by simp)
 ·rw [Nat.min_eq_right (by omega)]
  simp [List.drop_eq_nil_of_le (show xs.length <= n by omega)]
theorem Zzr (s z : Str) : eqF (.str s) (.str z) = decide (s = z) := by
 show (s == z) = _
 by_cases e : s = z
 ·subst e; simp
 ·simp [e]
theorem Zb9 (z : Str) (ss : List Str) : Zhu (.str z) (ss.map .str) = some (decide (z ∈ ss)) := by
 unfold Zhu
 have h : (ss.map D.str).all Zdi = true := by simp [Zdi]
 rw [h]
 simp only [Zdi, Bool.and_self, if_true]
 congr 1
 induction ss with
 | nil => rfl
 | cons s ss ih =>
  rw [Qaj, List.any_cons, ih (by simp [Zdi]), Zzr]
  by_cases e : z = s
  ·subst e; simp
  ·simp [e, Ne.symm e]
theorem Zhh : ∀ ss : List Str, Zci (ss.map .str) = some ss
 | [] => rfl
 | s :: ss => by
  have := Zhh ss
  unfold Zci at *
  simp only [Qaj, Zbv, strOf, this]
theorem Zj2 : ∀ ss : List Bool, Zi7 (ss.map .bl) = some ss
 | [] => rfl
 | s :: ss => by
  have := Zj2 ss
  unfold Zi7 at *
  simp only [Qaj, Zbv, Ycz, this]
theorem Zhi {α : Type} {xs : List α} {i : Int} (h0 : 0 <= i) : L2.atI xs i = xs[i.toNat]? := by
 unfold L2.atI L2.ixN
 rw [Qan h0]
 by_cases h : i < xs.length
 ·rw [Qan h]; rfl
 ·rw [Qat h]
  exact (Qba (by omega)).symm
@[simp] theorem Ygo {α : Type} (xs : List α) : L2.atI xs 0 = xs[0]? := Zhi (by omega)
@[simp] theorem Ygp {α : Type} (xs : List α) : L2.atI xs 1 = xs[1]? := Zhi (by omega)
@[simp] theorem Ygq {α : Type} (xs : List α) : L2.atI xs 2 = xs[2]? := Zhi (by omega)
theorem Zc3 {lo hi : Int} (h : -(2 ^ 62) <= lo /\ lo < 2 ^ 62 /\ -(2 ^ 62) <= hi /\ hi < 2 ^ 62) : Zc5 lo hi = some (Zbk lo (hi - lo).toNat) := by
 unfold Zc5; exact Qan h
@[simp] theorem Zzs (i j : Int) : Zht .Add (.int i) (.int j) = some (.int (i + j)) := rfl
@[simp] theorem Ybd (i j : Int) : Zht .Sub (.int i) (.int j) = some (.int (i - j)) := rfl
@[simp] theorem Ybe (i j : Int) : Zht .Mult (.int i) (.int j) = if (-(2 ^ 64) < i /\ i < 2 ^ 64) \/ (-(2 ^ 64) < j /\ j < 2 ^ 64) then some (.int (i * j)) else none := rfl
@[simp] theorem Zth (i j : Int) : Zht .FloorDiv (.int i) (.int j) = if j ≠ 0 /\ j.natAbs < 1073741824 then some (.int (i.fdiv j)) else none := rfl
@[simp] theorem Zzt (i j : Int) : Zht .Mod (.int i) (.int j) = if j ≠ 0 then some (.int (i.fmod j)) else none := rfl
@[simp] theorem Z7o (i j : Bool) : Zht .BitXor (.bl i) (.bl j) = some (.bl (i != j)) := rfl
@[simp] theorem Ybf (i j : Int) : Zht .Pow (.int i) (.int j) = if 0 <= j /\ j <= 1000000 /\ i.natAbs < 2 ^ 64 then some (.int (i ^ j.toNat)) else none := rfl
@[simp] theorem Z7p (i j : Str) : Zht .Add (.str i) (.str j) = if i.length + j.length <= sizeLine then some (.str (i ++ j)) else none := rfl
@[simp] theorem Z7q (z : Str) (n : Int) : Zht .Mult (.str z) (.int n) = if 2 <= n /\ n <= 64 /\ 0 < z.length /\ z.length <= 1000 then some (.str (Zbh z n.toNat)) else none := rfl
@[simp] theorem Z7r (xs ys : List D) : Zht .Add (.tup xs) (.tup ys) = if xs.length + ys.length <= sizeLine then some (.tup (xs ++ ys)) else none := rfl
@[simp] theorem Zti (xs ys : List D) : Zht .Add (.wl xs) (.wl ys) = if xs.length + ys.length <= sizeLine then some (.wl (xs ++ ys)) else none := rfl
@[simp] theorem Yeo (x y : D) : Zhv .Eq x y = eqD x y := rfl
@[simp] theorem Yep (x y : D) : Zhv .NotEq x y = (eqD x y).map fun b => !b := rfl
@[simp] theorem Yeq (i j : Int) : Zhv .Lt (.int i) (.int j) = some (decide (i < j)) := rfl
@[simp] theorem Ybg (i j : Int) : Zhv .LtE (.int i) (.int j) = some (decide (i <= j)) := rfl
@[simp] theorem Yer (i j : Int) : Zhv .Gt (.int i) (.int j) = some (decide (j < i)) := rfl
@[simp] theorem Ybh (i j : Int) : Zhv .GtE (.int i) (.int j) = some (decide (j <= i)) := rfl
@[simp] theorem Ybi (i j : Str) : Zhv .Lt (.str i) (.str j) = some (Zai i j) := rfl
@[simp] theorem Ybj (x : D) : Zhv .Is x .non = some (isNon x) := by cases x <;> rfl
@[simp] theorem Z7s (x : D) : Zhv .IsNot x .non = some (!isNon x) := by cases x <;> rfl
@[simp] theorem Yes (x y : D) : Zhv .In x y = inD x y := rfl
@[simp] theorem Ybk (x y : D) : Zhv .NotIn x y = (inD x y).map fun b => !b := rfl
@[simp] theorem Ybl (i j : Int) : eqD (.int i) (.int j) = some (decide (i = j)) := rfl
@[simp] theorem Ybm (i j : Str) : eqD (.str i) (.str j) = some (decide (i = j)) := rfl
@[simp] theorem Yet (i j : Bool) : eqD (.bl i) (.bl j) = some (decide (i = j)) := rfl
@[simp] theorem Z7t (xs : List D) : eqD (.tup xs) (.tup []) = some xs.isEmpty := rfl
@[simp] theorem Ybn (xs : List D) : eqD (.wl xs) (.wl []) = some xs.isEmpty := rfl
@[simp] theorem Z4w  : isNon .non = true := rfl
@[simp] theorem Z7u (x : Bool) : isNon (.bl x) = false := rfl
@[simp] theorem Z4x (x : Int) : isNon (.int x) = false := rfl
@[simp] theorem Z4y (x : Str) : isNon (.str x) = false := rfl
@[simp] theorem Z4z (x : List D) : isNon (.tup x) = false := rfl
@[simp] theorem Z7v (x : List D) : isNon (.kt x) = false := rfl
@[simp] theorem Z7w (x : List D) : isNon (.wl x) = false := rfl
@[simp] theorem Z7x (x : List (L2.Key × D)) : isNon (.wd x) = false := rfl
@[simp] theorem Z7y (x : List (PySem.NestedKey × D)) : isNon (.wT x) = false := rfl
@[simp] theorem Ybo (xs : List D) (i : Int) : Zf0 (.tup xs) (.int i) = L2.atI xs i := rfl
@[simp] theorem Yeu (xs : List D) (i : Int) : Zf0 (.kt xs) (.int i) = L2.atI xs i := rfl
@[simp] theorem Yev (xs : List D) (i : Int) : Zf0 (.wt xs) (.int i) = L2.atI xs i := rfl
@[simp] theorem Yew (xs : List D) (i : Int) : Zf0 (.ks xs) (.int i) = L2.atI xs i := rfl
@[simp] theorem Yex (xs : List D) (i : Int) : Zf0 (.wl xs) (.int i) = L2.atI xs i := rfl
@[simp] theorem Yey (kvs : List (PySem.NestedKey × D)) (i : D) : Zf0 (.wT kvs) i = (Zb1 i).bind (Zhw kvs) := rfl
@[simp] theorem Yez (kvs : List (L2.Key × D)) (i : D) : Zf0 (.wd kvs) i = (Zcj i).bind (Ze4 kvs) := rfl
@[simp] theorem Zhj (z : Str) (i : Int) : Zf0 (.str z) (.int i) = if z.length <= sizeLine then (L2.atI z.cps.toList i).map fun c => .str ⟨#[c]⟩ else none := rfl
@[simp] theorem Ye0 (x : D) (ys : List D) : inD x (.tup ys) = Zhu x ys := by cases x <;> rfl
@[simp] theorem Ygr (x : D) (ys : List D) : inD x (.kt ys) = Zhu x ys := by cases x <;> rfl
@[simp] theorem Ygs (x : D) (ys : List D) : inD x (.wt ys) = Zhu x ys := by cases x <;> rfl
@[simp] theorem Ygt (x : D) (ys : List D) : inD x (.wl ys) = Zhu x ys := by cases x <;> rfl
@[simp] theorem Ygu (x : D) (kvs : List (PySem.NestedKey × D)) : inD x (.wT kvs) = (Zb1 x).map fun k => (Zhw kvs k).isSome := by cases x <;> rfl
@[simp] theorem Ygv (x : D) (kvs : List (L2.Key × D)) : inD x (.wd kvs) = (Zcj x).map fun k => (Ze4 kvs k).isSome := by cases x <;> rfl
@[simp] theorem Z40 (i : Int) : Zcj (.int i) = some (.inl i) := rfl
@[simp] theorem Z41 (i : Str) : Zcj (.str i) = some (.inr i) := rfl
@[simp] theorem Ybp (i : Int) : Zft .abs [.int i] = some (.int (if i < 0 then -i else i)) := rfl
@[simp] theorem Ybq (i : Int) : Zft .int [.int i] = some (.int i) := rfl
@[simp] theorem Z7z (b : Bool) : Zft .int [.bl b] = some (.int (if b then 1 else 0)) := rfl
@[simp] theorem Zzu (xs : List D) : Zft .len [.tup xs] = some (.int xs.length) := rfl
@[simp] theorem Z0s (xs : List D) : Zft .len [.wt xs] = some (.int xs.length) := rfl
@[simp] theorem Z0t (xs : List D) : Zft .len [.kt xs] = some (.int xs.length) := rfl
@[simp] theorem Z0u (xs : List D) : Zft .len [.ks xs] = some (.int xs.length) := rfl
@[simp] theorem Z0v (xs : List D) : Zft .len [.wl xs] = some (.int xs.length) := rfl
@[simp] theorem Z70 (z : Str) : Zft .len [.str z] = if z.length <= sizeLine then some (.int z.length) else none := rfl
@[simp] theorem Z71 (xs : List D) : Zft .tuple [.tup xs] = some (.tup xs) := rfl
@[simp] theorem Z72 (xs : List D) : Zft .tuple [.wl xs] = some (.tup xs) := rfl
@[simp] theorem Z73 (x : D) : Zft .repr [x] = (Zgs x).map .str := rfl
@[simp] theorem Ybr (bs : List Bool) : Zft .all [.wl (bs.map .bl)] = some (.bl (bs.all id)) := by show (Zi7 _).map _ = _; rw [Zj2]; rfl
@[simp] theorem Ybs (bs : List Bool) : Zft .any [.wl (bs.map .bl)] = some (.bl (bs.any id)) := by show (Zi7 _).map _ = _; rw [Zj2]; rfl
@[simp] theorem Zvd (xs : List D) : Zqq .list [.tup xs] = some (.lst xs) := rfl
@[simp] theorem Zzv (xs : List D) : Zqq .list [.wt xs] = some (.lst xs) := rfl
@[simp] theorem Zzw (xs : List D) : Zqq .list [.ks xs] = some (.lst xs) := rfl
@[simp] theorem Zzx (xs : List D) : Zqq .list [.wl xs] = some (.lst xs) := rfl
theorem Zm1 (ss : List Str) : Zl7 (ss.map .str) = some ((Zaj ss).map .str) := by unfold Zl7; rw [Zhh]
theorem Zdh (ss : List Str) : Zqq .sorted [.wl (ss.map .str)] = some (.lst ((Zaj ss).map .str)) := by show (Zl7 _).map _ = _; rw [Zm1]; rfl
@[simp] theorem Ybt (z : Str) : Zeq .join (.str z) = true := rfl
@[simp] theorem Z74 (z : Str) : Zeq .upper (.str z) = true := rfl
theorem Ztj (a : Str) (ss : List Str) (hl : (ss.map (·.length)).sum + ss.length * a.length <= 16777216) : Zqr .join (.str a) [.wl (ss.map .str)] = some (.str (PySem.Txt.join a ss)) := by show (((some (ss.map D.str) : Option (List D)).bind Zci).bind _) = _; rw [Option.bind_some, Zhh]; exact Qan hl
@[simp] theorem Z42 (a : Str) : Zqr .upper (.str a) [] = if a.length <= 5592405 then some (.str (PySem.Txt.upper a)) else none := rfl
@[simp] theorem Zzy (xs : List D) (lo hi : Option Int) : Zdj (.tup xs) lo hi = some (.tup (Zfs xs lo hi)) := rfl
@[simp] theorem Z43 (xs : List D) (lo hi : Option Int) : Zdj (.wl xs) lo hi = some (.wl (Zfs xs lo hi)) := rfl
@[simp] theorem Ye1 (xs : List D) (lo hi : Option Int) : Zdj (.ks xs) lo hi = some (.wl (Zfs xs lo hi)) := rfl
@[simp] theorem Ybu (z : Str) (lo hi : Option Int) : Zdj (.str z) lo hi = if z.length <= sizeLine then some (.str ⟨(Zfs z.cps.toList lo hi).toArray⟩) else none := rfl
@[simp] theorem Zp2 (xs : List D) : Zja (.tup xs) = some xs := rfl
@[simp] theorem Z75 (xs : List D) : Zja (.kt xs) = some xs := rfl
@[simp] theorem Z76 (xs : List D) : Zja (.wt xs) = some xs := rfl
@[simp] theorem Z77 (xs : List D) : Zja (.ks xs) = some xs := rfl
@[simp] theorem Ztk (xs : List D) : Zja (.wl xs) = some xs := rfl
@[simp] theorem Z78 (z : Str) : Zvv (.str z) = some (Zl8 z) := rfl
@[simp] theorem Z44 (kvs : List (L2.Key × D)) : Znj (.wd kvs) = some (kvs.map fun p => ofKey p.1) := rfl
@[simp] theorem Z0w (xs : List D) : Zhx (.tup xs) = some (Zfv xs) := rfl
@[simp] theorem Z45 (xs : List D) : Zhx (.wt xs) = some (Zfv xs) := rfl
@[simp] theorem Z46 (xs : List D) : Zhx (.wl xs) = some (Zfv xs) := rfl
@[simp] theorem Z47 (xs : List D) : Zi9 .append (.lst xs) = true := rfl
@[simp] theorem Z48 (xs : List D) : Zi9 .extend (.lst xs) = true := rfl
@[simp] theorem Ybv (xs : List (L2.Key × D)) : Zi9 .pop (.dK xs) = true := rfl
@[simp] theorem Ybw (xs : List (PySem.NestedKey × D)) : Zi9 .pop (.dT xs) = true := rfl
@[simp] theorem Ybx (xs : List D) : Znb .pop S xs = xs := rfl
@[simp] theorem Z49 (xs : List (L2.Key × D)) : Zi9 .update (.dK xs) = true := rfl
@[simp] theorem Zm2 (xs : List D) : Znb .append S xs = xs := rfl
@[simp] theorem Z0x (xs : List D) : Znb .update S xs = xs := rfl
@[simp] theorem Zgn (xs : List D) : Znb .extend S xs = xs.map (rdS S) := rfl
@[simp] theorem Zm3 (ys : List D) (x : D) : Zj9 .append (.lst ys) [x] = if ys.length < sizeLine then some (.lst (ys ++ [x])) else none := rfl
@[simp] theorem Zm4 (ys zs : List D) : Zj9 .extend (.lst ys) [.wl zs] = if ys.length + zs.length <= sizeLine then some (.lst (ys ++ zs)) else none := rfl
@[simp] theorem Z0y (kvs ps : List (L2.Key × D)) : Zj9 .update (.dK kvs) [.wd ps] = if kvs.length + ps.length <= sizeLine then some (.dK (putAll kvs ps)) else none := rfl
end
theorem Zfo {f : D -> Ev -> Store -> RS} {Q : Fl -> Store -> Prop} {E : Xn × Ev -> Store -> Prop} (I : List D -> Ev -> Store -> Prop) : ∀ (ds : List D) (ρ : Ev) (S : Store), I ds ρ S ->
  (∀ d r ρ S, I (d :: r) ρ S -> (f d ρ S).wp (fun fl S' => match fl with
   | .nx ρ' => I r ρ' S'
   | .ct ρ' => I r ρ' S'
   | .bk ρ' => Q (.nx ρ') S'
   | .rt d => Q (.rt d) S') E) -> (∀ ρ S, I [] ρ S -> Q (.nx ρ) S) -> (Zet f ds ρ S).wp Q E
 | [], ρ, S, h, step, fin => by
  rw [Zet]
  exact fin ρ S h
 | d :: ds, ρ, S, h, step, fin => by
  rw [Zet, R.wp_bind]
  refine R.wp_mono (step d ds ρ S h) (fun fl S' q => ?_) fun _ _ z => z
  match fl, q with
  | .nx ρ', q => exact Zfo I ds ρ' S' q step fin
  | .ct ρ', q => exact Zfo I ds ρ' S' q step fin
  | .bk ρ', q => exact q
  | .rt d, q => exact q
theorem Ziz {f : D -> Store -> R Xn (Option D)} {Q : List D -> Store -> Prop} {E : Xn -> Store -> Prop} (I : List D -> List D -> Store -> Prop) : ∀ (ds acc : List D) (S : Store), I ds acc S ->
  (∀ d r a S, I (d :: r) a S -> (f d S).wp (fun o S' => match o with
   | none => I r a S'
   | some y => a.length < sizeLine /\ I r (a ++ [y]) S') no) -> (∀ a S, I [] a S -> Q a S) -> (lcL f ds acc S).wp Q E
 | [], acc, S, h, step, fin => by
  rw [lcL]
  exact fin acc S h
 | d :: ds, acc, S, h, step, fin => by
  rw [lcL, R.wp_bind, R.wp_calm]
  refine R.wp_mono (step d ds acc S h) (fun o S' q => ?_) fun _ _ z => z
  match o, q with
  | none, q => exact Ziz I ds acc S' q step fin
  | some y, q =>
   show (if acc.length < sizeLine then _ else _ : R Xn (List D)).wp Q E
   rw [Qan q.1]
   exact Ziz I ds (acc ++ [y]) S' q.2 step fin
theorem Zhk {f : D -> Store -> R Xn (Option D)} {S : Store} (g : D -> Option D) : ∀ (ds acc : List D), (∀ d ∈ ds, f d S = .ok (g d) S) -> acc.length + ds.length <= sizeLine -> lcL f ds acc S = .ok (acc ++ ds.filterMap g) S
 | [], acc, h, hl => by rw [lcL]; simp
 | d :: ds, acc, h, hl => by
  rw [lcL, h d Qag, List.filterMap_cons]
  simp only [Qai] at hl
  cases e : g d with
  | none =>
   show lcL f ds acc S = _
   exact Zhk g ds acc (fun d hd => h d (Qae _ hd)) (by omega)
  | some y =>
   show (if acc.length < sizeLine then lcL f ds (acc ++ [y]) S else .bad) = _
   rw [Qan (by omega), Zhk g ds (acc ++ [y]) (fun d hd => h d (Qae _ hd)) (by simp; omega)]
   simp
theorem Zp3 {f : D -> Store -> R Xn (Option D)} {S : Store} (g : D -> D) (ds : List D) (h : ∀ d ∈ ds, f d S = .ok (some (g d)) S) (hl : ds.length <= sizeLine) : lcL f ds [] S = .ok (ds.map g) S := by
 rw [Zhk (fun d => some (g d)) ds [] h (by simpa using hl)]
 simp
theorem Zj3 {c : Ev -> Store -> R (Xn × Ev) D} {f : Ev -> Store -> RS} {Q : Fl -> Store -> Prop} {E : Xn × Ev -> Store -> Prop} (I : Nat -> Ev -> Store -> Prop) : ∀ (n m : Nat) (ρ : Ev) (S : Store), m < n -> I m ρ S ->
  (∀ m ρ S, I m ρ S -> (c ρ S).wp (fun x S' => match x with
   | .bl true => (f ρ S').wp (fun fl S' => match fl with
    | .nx ρ' => ∃ m', m' < m /\ I m' ρ' S'
    | .ct ρ' => ∃ m', m' < m /\ I m' ρ' S'
    | .bk ρ' => Q (.nx ρ') S'
    | .rt d => Q (.rt d) S') E
   | .bl false => Q (.nx ρ) S'
   | _ => False) E) -> (Zt4 c f n ρ S).wp Q E
 | 0, m, ρ, S, hm, h, step => absurd hm (Nat.not_lt_zero _)
 | n + 1, m, ρ, S, hm, h, step => by
  rw [Zt4, R.wp_bind]
  refine R.wp_mono (step m ρ S h) (fun x S' q => ?_) fun _ _ z => z
  match x, q with
  | .bl false, q => exact q
  | .bl true, q =>
   show ((f ρ S').bind _).wp Q E
   rw [R.wp_bind]
   refine R.wp_mono q (fun fl S2 q => ?_) fun _ _ z => z
   match fl, q with
   | .nx ρ', ⟨m', h1, h2⟩ => exact Zj3 I n m' ρ' S2 (by omega) h2 step
   | .ct ρ', ⟨m', h1, h2⟩ => exact Zj3 I n m' ρ' S2 (by omega) h2 step
   | .bk ρ', q => exact q
   | .rt d, q => exact q
@[simp] theorem Ygw (n : Nat) : L2.ixN (n + 1) 0 = some 0 := by
 unfold L2.ixN; rw [Qan (by omega), Qan (by omega)]; rfl
@[simp] theorem Ygx (n : Nat) : L2.ixN (n + 2) 1 = some 1 := by
 unfold L2.ixN; rw [Qan (by omega), Qan (by omega)]; rfl
@[simp] theorem Ygy (n : Nat) : L2.ixN (n + 3) 2 = some 2 := by
 unfold L2.ixN; rw [Qan (by omega), Qan (by omega)]; rfl
structure Tk where
 a : Int
 b : Int
 c : Int
def SD (t : Tk) (l : List O) : Store := ⟨.lst [.int t.a, .int t.b, .int t.c] :: l⟩
@[simp] theorem Ye2 (t : Tk) (l : List O) : (SD t l).get 0 = some (.lst [.int t.a, .int t.b, .int t.c]) := rfl
@[simp] theorem Ygz (t : Tk) (l : List O) : rdS (SD t l) (.ref 0) = .wl [.int t.a, .int t.b, .int t.c] := rfl
@[simp] theorem Ye3 (t : Tk) (l : List O) (a b c : Int) : (SD t l).put 0 (.lst [.int a, .int b, .int c]) = SD ⟨a, b, c⟩ l := rfl
theorem Zhl (a : Int) {n : Int} (h : 0 < n) : 0 <= a.fmod n := by
 rw [Int.fmod_eq_emod_of_nonneg a (by omega)]; exact Int.emod_nonneg _ (by omega)
theorem Zhm (a : Int) {n : Int} (h : 0 < n) : a.fmod n < n := by
 rw [Int.fmod_eq_emod_of_nonneg a (by omega)]; exact Int.emod_lt_of_pos _ h
@[simp] theorem Z79 (x y z v : D) : setO (.lst [x, y, z]) (.int 0) v = some (.lst [v, y, z]) := rfl
@[simp] theorem Z8a (x y z v : D) : setO (.lst [x, y, z]) (.int 2) v = some (.lst [x, y, v]) := rfl
section
variable {Φ : Str -> Option Df} (hD : Φ "_law_draw" = some K02.Zau)
include hD
theorem Zbe (t : Tk) (l : List O) {k : Nat} {n : Int} (h1 : 0 < n) (h2 : n <= 100000) : ∃ i t', call Φ (k + 1) "_law_draw" [.ref 0, .int n] (SD t l) = .ok (.int i) (SD t' l) /\ 0 <= i /\ i < n := by
 rw [Zap hD rfl]
 have hn : n ≠ 0 := by omega
 have hn2 : n.natAbs < 1073741824 := by omega
 by_cases ha : 0 < t.a
 ·refine ⟨t.a.fmod n, ⟨t.a.fdiv n, t.b, t.c⟩, ?_, Zhl _ h1, Zhm _ h1⟩
  simp [K02.Zau, K02.Zjv, ha, hn, hn2, Ztf]
 ·have l1 := Zhl (t.b + 11400714819323198485 * (t.c + 1)) (n := 18446744073709551557) (by omega)
  have l2 := Zhm (t.b + 11400714819323198485 * (t.c + 1)) (n := 18446744073709551557) (by omega)
  obtain ⟨m, hm⟩ : ∃ m, m = (t.b + 11400714819323198485 * (t.c + 1)).fmod 18446744073709551557 := ⟨_, rfl⟩
  rw [<- hm] at l1 l2
  have g1 : (-18446744073709551616 < m /\ m < 18446744073709551616) := by omega
  have l3 := Zhl (m * (m.fmod 4294967291 + 9)) (n := 2305843009213693951) (by omega)
  have l4 := Zhm (m * (m.fmod 4294967291 + 9)) (n := 2305843009213693951) (by omega)
  obtain ⟨m2, hm2⟩ : ∃ m2, m2 = (m * (m.fmod 4294967291 + 9)).fmod 2305843009213693951 := ⟨_, rfl⟩
  rw [<- hm2] at l3 l4
  have g2 : (-18446744073709551616 < m2 /\ m2 < 18446744073709551616) := by omega
  refine ⟨(((m2 * m2).fmod 2305843009213693921).fdiv 2048).fmod n, ⟨t.a, t.b, t.c + 1⟩, ?_, Zhl _ h1, Zhm _ h1⟩
  simp [K02.Zau, K02.Zjv, ha, hn, hn2, Ztf, <- hm, g1, <- hm2, g2]
end
def abc : Str := "abcdefghijklmnopqrstuvwxyz"
def Lt (c : Nat) : Prop := 97 <= c /\ c <= 122
def Sgs (z : Str) : Prop := ∀ c ∈ z.cps.toList, Lt c
def Nm (z : Str) : Prop := 1 <= z.length /\ z.length <= 8 /\ Sgs z
theorem Zzz : abc.cps.toList = (List.range 26).map (· + 97) := by decide +kernel
theorem Z5a {i : Int} (h0 : 0 <= i) (h1 : i < 26) : L2.atI abc.cps.toList i = some (97 + i.toNat) := by
 rw [Zhi h0, Zzz, Qar, List.getElem?_range (by omega)]
 show some (i.toNat + 97) = _
 rw [Nat.add_comm]
theorem Zz0 : abc.length <= sizeLine := sz (by decide +kernel)
theorem Zhn {i : Int} (h0 : 0 <= i) (h1 : i < 26) : Zf0 (.str abc) (.int i) = some (.str ⟨#[97 + i.toNat]⟩) := by
 rw [Zhj, Qan Zz0, Z5a h0 h1]; rfl
theorem Zl0 : ∀ (ss : List Str) (acc : Array Nat), (ss.foldl (fun acc p => acc ++ (PySem.Str.ofString "").cps ++ p.cps) acc).toList = acc.toList ++ (ss.map (·.cps.toList)).flatten
 | [], acc => by simp
 | s :: ss, acc => by
  rw [List.foldl_cons, Zl0 ss]
  have : (PySem.Str.ofString "").cps = #[] := by decide
  simp [this]
theorem Zho (ss : List Str) : (PySem.Txt.join "" ss).cps.toList = (ss.map (·.cps.toList)).flatten := by
 unfold PySem.Txt.join PySem.Builtin.Str.glued
 cases ss with
 | nil => decide
 | cons s ss =>
  show (List.foldl _ s.cps ss).toList = _
  rw [Zl0 ss]
  simp
theorem Zj4 (a b : Str) : (a ++ b).cps.toList = a.cps.toList ++ b.cps.toList := by
 show (a.cps ++ b.cps).toList = _
 simp
theorem Zcg (a : Str) : a.length = a.cps.toList.length := by simp [PySem.Str.length]
theorem Zi0 (lo : Int) (n : Nat) : (Zbk lo n).length = n := by simp [Zbk]
theorem Zec (a b : Str) : (a ++ b).length = a.length + b.length := by
 rw [Zcg, Zj4, Qbd, <- Zcg, <- Zcg]
theorem Sgs.app {a b : Str} (h1 : Sgs a) (h2 : Sgs b) : Sgs (a ++ b) := fun c hc => by
 rw [Zj4, Qbh] at hc
 exact hc.elim (h1 c) (h2 c)
theorem Sgs.sub {a : Str} {l : List Nat} (h : Sgs a) (hl : ∀ c ∈ l, c ∈ a.cps.toList) : Sgs ⟨l.toArray⟩ := fun c hc => h c (hl c (by simpa using hc))
theorem Zgo (l : List Nat) : (⟨l.toArray⟩ : Str).length = l.length := by simp [PySem.Str.length]
def Zca : List Str := (List.range 676).map fun k => ⟨#[97 + k / 26, 97 + k % 26]⟩
theorem Zp4 : Zca.length = 676 := by simp [Zca]
theorem Zl1 : Zca.Nodup := by
 unfold Zca List.Nodup
 rw [List.pairwise_map]
 refine List.Pairwise.imp (fun {a b} h e => h ?_) (List.nodup_range (n := 676))
 have e2 := congrArg (fun z : Str => z.cps.toList) e
 simp at e2
 omega
theorem Ztl {i : Nat} (h : i < 676) : Zca[i]? = some ⟨#[97 + i / 26, 97 + i % 26]⟩ := by
 unfold Zca
 rw [Qar, List.getElem?_range h]; rfl
theorem Ztm {z : Str} (h : z ∈ Zca) : Nm z := by
 unfold Zca at h
 obtain ⟨k, hk, rfl⟩ := Qa2.mp h
 rw [List.mem_range] at hk
 refine ⟨by simp [PySem.Str.length], by simp [PySem.Str.length], fun c hc => ?_⟩
 simp at hc
 unfold Lt
 rcases hc with rfl | rfl <;> omega
def cnt (ss : List Str) (i : Nat) : Nat := (ss.filter fun z => decide (z ∈ Zca.drop i)).length
theorem Zp5 {α : Type} {P P' : α -> Bool} (h : ∀ y, P' y = true -> P y = true) : ∀ {l : List α} {x : α}, x ∈ l -> P x = true -> P' x = false -> (l.filter P').length < (l.filter P).length := by
 have le : ∀ l : List α, (l.filter P').length <= (l.filter P).length := fun l => by
  induction l with
  | nil => simp
  | cons a l ih =>
   rw [List.filter_cons, List.filter_cons]
   by_cases c : P' a = true
   ·rw [Qan c, Qan (h a c)]; simpa using ih
   ·rw [Qat c]
    split
    ·simp; omega
    ·exact ih
 intro l x hx h1 h2
 induction l with
 | nil => simp at hx
 | cons a l ih =>
  rw [List.filter_cons, List.filter_cons]
  rcases Qaf.mp hx with rfl | hx
  ·rw [Qan h1, h2]
   simp
   have := le l
   omega
  ·have ih := ih hx
   by_cases c : P' a = true
   ·rw [Qan c, Qan (h a c)]; simpa using ih
   ·rw [Qat c]
    split
    ·simp; omega
    ·exact ih
theorem Z5b (ss : List Str) (i : Nat) : cnt ss i <= ss.length := List.length_filter_le ..
theorem Z5c {ss : List Str} {i : Nat} {z : Str} (h : Zca[i]? = some z) (hz : z ∈ ss) : cnt ss (i + 1) < cnt ss i := by
 have hi : i < Zca.length := (Qay.mp h).1
 have e : Zca.drop i = z :: Zca.drop (i + 1) := by
  rw [Qbk hi]
  rw [Qa8 hi] at h
  rw [Option.some.inj h]
 have nd : (Zca.drop i).Nodup := List.Nodup.sublist (List.drop_sublist _ _) Zl1
 rw [e, List.nodup_cons] at nd
 refine Zp5 (fun y hy => ?_) hz ?_ ?_
 ·simp only [Qab] at hy ⊢
  rw [e]; exact Qae _ hy
 ·simp only [Qab]; rw [e]; exact Qag ..
 ·simp only [decide_eq_false_iff_not]; exact nd.1
def mu (ss : List Str) (z : Str) (i : Nat) : Nat := if z ∈ ss then cnt ss i + 1 else 0
section
variable {Φ : Str -> Option Df} (hD : Φ "_law_draw" = some K02.Zau)
include hD
theorem Zp6 (hP : Φ "_law_pick" = some K02.Zbg) (t : Tk) (l : List O) {k : Nat} {xs : List D} (h0 : xs ≠ []) (hl : xs.length <= 100000) :
  ∃ d t', call Φ (k + 2) "_law_pick" [.ref 0, .wl xs] (SD t l) = .ok d (SD t' l) /\ d ∈ xs := by
 have l0 : 0 < xs.length := List.length_pos_iff.mpr h0
 obtain ⟨i, t', e, i0, i1⟩ := Zbe hD t l (k := k) (n := (xs.length : Int)) (by omega) (by omega)
 have hi : i.toNat < xs.length := by omega
 refine ⟨xs[i.toNat], t', ?_, List.getElem_mem hi⟩
 rw [Zap hP rfl]
 simp [K02.Zbg, K02.Zjw, e, Zhi i0, hi]
theorem Zp7 (hN : Φ "_law_name" = some K02.Zbp) (t : Tk) (l : List O) {k : Nat} : ∃ z t', call Φ (k + 2) "_law_name" [.ref 0] (SD t l) = .ok (.str z) (SD t' l) /\ Nm z := by
 obtain ⟨i, t1, e1, i0, i1⟩ := Zbe hD t l (k := k) (n := 8) (by omega) (by omega)
 have hrg : Zc5 0 (1 + i) = some (Zbk 0 (1 + i).toNat) := by
  rw [Zc3 (by omega)]; simp
 have w : (lcL (lcF (call Φ (k + 1)) [.v (.ref 0), .v (.str abc), .no] [2] (.nm 2) none (.sub (.val (.var 1)) (.call "_law_draw" [(.var 0), (.cst (.int 26))]))) (Zbk 0 (1 + i).toNat) [] (SD t1 l)).wp
   (fun acc S' => ∃ (ss : List Str) (t' : Tk), acc = ss.map .str /\ S' = SD t' l /\ ss.length = (1 + i).toNat /\ (∀ s ∈ ss, s.length = 1 /\ Sgs s)) no := by
  refine Ziz (fun rest acc S' => ∃ (ss : List Str) (t' : Tk), acc = ss.map .str /\ S' = SD t' l /\ ss.length + rest.length = (1 + i).toNat /\ (∀ s ∈ ss, s.length = 1 /\ Sgs s)) _ _ _ ⟨[], t1, rfl, rfl, by simp [Zi0], by simp⟩ ?_ ?_
  ·rintro d rest acc S2 ⟨ss, t2, rfl, rfl, hl, hs⟩
   obtain ⟨j, t3, e3, j0, j1⟩ := Zbe hD t2 l (k := k) (n := 26) (by omega) (by omega)
   refine R.to (a := some (.str ⟨#[97 + j.toNat]⟩)) (S := SD t3 l) (by simp -implicitDefEqProofs [e3, Zhn j0 j1, -Zhj]) ?_
   refine ⟨Qa4 (by simp at hl ⊢; omega) (sz (n := 9) (by omega)), ss ++ [⟨#[97 + j.toNat]⟩], t3, by simp, rfl, by simp at hl ⊢; omega, fun s hs' => ?_⟩
   rcases Qbh.mp hs' with z | z
   ·exact hs s z
   ·rw [Qbe.mp z]
    exact ⟨rfl, fun c hc => by simp at hc; subst hc; unfold Lt; omega⟩
  ·rintro acc S2 ⟨ss, t2, rfl, rfl, hl, hs⟩
   exact ⟨ss, t2, rfl, rfl, by simpa using hl, hs⟩
 obtain ⟨_, _, e2, ss, t2, rfl, rfl, hl, hs⟩ := R.out w
 have z0 : (PySem.Str.ofString "").length = 0 := by decide
 have sum1 : ∀ ss : List Str, (∀ s ∈ ss, s.length = 1 /\ Sgs s) -> (ss.map (·.length)).sum = ss.length /\ ((ss.map (·.cps.toList)).flatten).length = ss.length /\ ∀ c ∈ (ss.map (·.cps.toList)).flatten, Lt c := by
  intro ss
  induction ss with
  | nil => intro _; simp
  | cons s ss ih =>
   intro h
   obtain ⟨a, b, c⟩ := ih fun s hs => h s (Qae _ hs)
   obtain ⟨l1, g1⟩ := h s Qag
   refine ⟨by simp only [Qaj, List.sum_cons, Qai]; omega, ?_, ?_⟩
   ·rw [Qaj, List.flatten_cons, Qbd, b, <- Zcg, l1, Qai]; omega
   ·intro d hd
    rw [Qaj, List.flatten_cons, Qbh] at hd
    exact hd.elim (g1 d) (c d)
 obtain ⟨s1, s2, s3⟩ := sum1 ss hs
 have ej := Ztj "" ss (by rw [s1, z0]; omega)
 refine ⟨PySem.Txt.join "" ss, t2, ?_, ?_, ?_, ?_⟩
 ·rw [Zap hN rfl]
  simp -implicitDefEqProofs [K02.Zbp, K02.Zpk, e1, hrg, Zgl]
  unfold abc at e2
  rw [e2]
  simp [ej]
 ·rw [Zcg, Zho, s2]; omega
 ·rw [Zcg, Zho, s2]; omega
 ·intro c hc
  rw [Zho] at hc
  exact s3 c hc
end
def Bs (z : Str) : Prop := z.length = 8 /\ Sgs z
def rho (n : Int) (x4 : Sl) (way : Int) (base : Str) (place : Int) (i : Nat) (ss : List Str) (x10 x11 : Sl) : Ev :=
 [.v (.ref 0), .v (.int n), .v (.str abc), .v (.wl (Zca.map .str)), x4, .v (.int way), .v (.str base), .v (.int place), .v (.int (i : Nat)), .o (.lst (ss.map .str)), x10, x11]
theorem Ztn {C : Cl} {n : Int} {S : Store} : ev C (.frz (.lc [4] (.nm 4) (.rng1 (.cst (.int 676))) none (.bin .Add (.sub (.val (.var 2)) (.bin .FloorDiv (.var 4) (.cst (.int 26)))) (.sub (.val (.var 2)) (.bin .Mod (.var 4) (.cst (.int 26)))))))
  [.v (.ref 0), .v (.int n), .v (.str abc), .no, .no, .no, .no, .no, .no, .no, .no, .no] S = .ok (.wl (Zca.map .str)) S := by
 have hrg : Zc5 0 676 = some (Zbk 0 676) := Zc3 (by omega)
 have g := Zp3 (S := S) (f := lcF C [.v (.ref 0), .v (.int n), .v (.str abc), .no, .no, .no, .no, .no, .no, .no, .no, .no] [4] (.nm 4) none (.bin .Add (.sub (.val (.var 2)) (.bin .FloorDiv (.var 4) (.cst (.int 26)))) (.sub (.val (.var 2)) (.bin .Mod (.var 4) (.cst (.int 26))))))
  (fun d => match d with
   | .int j => .str ⟨#[97 + (j.fdiv 26).toNat, 97 + (j.fmod 26).toNat]⟩
   | d => d) (Zbk 0 676) ?_ (sz (by simp [Zbk]))
 ·have e : (Zbk 0 676).map (fun d => match d with
   | .int j => D.str ⟨#[97 + (j.fdiv 26).toNat, 97 + (j.fmod 26).toNat]⟩
   | d => d) = Zca.map .str := by
   simp only [Zbk, Qbm, Zca]
   apply List.map_congr_left
   intro j hj
   have e1 : ((0 : Int) + (j : Int)).fdiv 26 = ((j / 26 : Nat) : Int) := by
    rw [Int.zero_add, Int.fdiv_eq_ediv_of_nonneg _ (by omega)]; rfl
   have e2 : ((0 : Int) + (j : Int)).fmod 26 = ((j % 26 : Nat) : Int) := by
    rw [Int.zero_add, Int.fmod_eq_emod_of_nonneg _ (by omega)]; rfl
   simp only [Function.comp_apply, e1, e2, Int.toNat_natCast]
  simp only [Zu9, Zva, Ztd, Zlr, R.bind_ok, Zte, hrg, R.ofO_some, Zgl, g, Zvb, Zpw, Zu8, e]
 ·intro d hd
  simp only [Zbk, Qa2, List.mem_range] at hd
  obtain ⟨j, hj, rfl⟩ := hd
  have e1 : ((0 : Int) + (j : Int)).fdiv 26 = ((j / 26 : Nat) : Int) := by
   rw [Int.zero_add, Int.fdiv_eq_ediv_of_nonneg _ (by omega)]; rfl
  have e2 : ((0 : Int) + (j : Int)).fmod 26 = ((j % 26 : Nat) : Int) := by
   rw [Int.zero_add, Int.fmod_eq_emod_of_nonneg _ (by omega)]; rfl
  obtain ⟨a, ha⟩ : ∃ a, a = j / 26 := ⟨_, rfl⟩
  obtain ⟨b, hb⟩ : ∃ b, b = j % 26 := ⟨_, rfl⟩
  rw [<- ha] at e1
  rw [<- hb] at e2
  have s1 := Zhn (i := (a : Int)) (by omega) (by omega)
  have s2 := Zhn (i := (b : Int)) (by omega) (by omega)
  have hz : (⟨#[97 + a]⟩ : Str).length + (⟨#[97 + b]⟩ : Str).length <= sizeLine := sz (by simp [PySem.Str.length])
  simp -implicitDefEqProofs only [Z4l, Ziy, Zlw, List.set_cons_succ, List.set_cons_zero, Ztc, R.bind_ok, Zzg, if_true, Zlt, Z4g, Zza, Zls, List.getElem?_cons_succ, List.getElem?_cons_zero, Zs7, Zzb, Zlr, Zhe, Zhf, Zp0, Zth, Zzt, e1, e2]
  rw [Int.zero_add] at e1 e2
  simp -implicitDefEqProofs [s1, s2, hz, e1, e2, -Zhj]
  rfl
theorem Zgp (z : Str) (n : Nat) : (Zbh z n).cps.toList.length = n * z.length := by
 simp [Zbh, PySem.Str.length]
theorem Zm5 {z : Str} (h : Sgs z) (n : Nat) : Sgs (Zbh z n) := by
 intro c hc
 simp [Zbh] at hc
 obtain ⟨_, ⟨_, rfl⟩, hc⟩ := hc
 exact h c (by simpa using hc)
theorem Zz1 {Φ : Str -> Option Df} (hK : Φ "_law_deck" = some K02.Zcz) (ns : List Int) {k : Nat} : ∃ t, call Φ (k + 1) "_law_deck" [.ks (ns.map .int)] S0 = .ok (.ref 0) (SD t []) := by
 have w : (Zet (Zg5 (call Φ k) (.nm 1) K02.Zcy) ((ns.map D.int).take 60) [.v (.ks (ns.map .int)), .no, .v (.int 0), .v (.int (2926 + 43 * (ns.length : Int))), .no] S0).wp
   (fun fl S' => S' = S0 /\ ∃ a b, fl = .nx [.v (.ks (ns.map .int)), .no, .v (.int a), .v (.int b), .no]) no := by
  refine Zfo (fun rest ρ S' => (∀ d ∈ rest, ∃ i, d = .int i) /\ S' = S0 /\ ∃ a b, ρ = [.v (.ks (ns.map .int)), .no, .v (.int a), .v (.int b), .no]) _ _ _ ⟨fun d hd => ?_, rfl, 0, _, rfl⟩ ?_ ?_
  ·obtain ⟨i, _, rfl⟩ := Qa2.mp (Qbj hd)
   exact ⟨i, rfl⟩
  ·rintro d rest ρ S' ⟨hr, rfl, a, b, rfl⟩
   obtain ⟨i, rfl⟩ := hr d Qag
   have hr2 := fun d hd => hr d (Qae _ hd)
   obtain ⟨v, hv⟩ : ∃ v : Int, v = if i < 0 then -i else i := ⟨_, rfl⟩
   by_cases c : (10 : Int) ^ 18 <= v
   ·refine R.to (a := .nx [.v (.ks (ns.map .int)), .no, .v (.int (a * 41 + v)), .v (.int ((b * 6364136223846793005 + (2 * v + (if i < 0 then 1 else 0) + 1)).fmod 2305843009213693951)), .no]) (S := S0) ?_ ⟨hr2, rfl, _, _, rfl⟩
    simp -implicitDefEqProofs [K02.Zcy, <- hv]
    intro c2
    omega
   ·refine R.to (a := .nx [.v (.ks (ns.map .int)), .no, .v (.int a), .v (.int ((b * 6364136223846793005 + (2 * v + (if i < 0 then 1 else 0) + 1)).fmod 2305843009213693951)), .no]) (S := S0) ?_ ⟨hr2, rfl, _, _, rfl⟩
    simp -implicitDefEqProofs [K02.Zcy, <- hv]
    intro c2
    omega
  ·rintro ρ S' ⟨_, rfl, a, b, rfl⟩
   exact ⟨rfl, a, b, rfl⟩
 obtain ⟨_, _, e, rfl, a, b, rfl⟩ := R.out w
 refine ⟨⟨a, b, 0⟩, ?_⟩
 rw [Zap hK rfl]
 simp -implicitDefEqProofs [K02.Zcz, K02.Zpj, Zd0, Zeb]
 rw [e]
 simp [Nat.le_of_lt, show (3 : Nat) <= sizeLine from sz (by omega)]
 exact ⟨rfl, rfl⟩
def Tx (n : Nat) (z : Str) : Prop := z.length <= n /\ ∀ c ∈ z.cps.toList, c < 128
def Yby (n : Nat) : L2.Key -> Prop
 | .inl i => (PyData.shown (.int i)).length <= 40 /\ PyData.showable (.int i) = true
 | .inr z => Tx n z
theorem Tx.mono {n m : Nat} {z : Str} (h : Tx n z) (hm : n <= m) : Tx m z := ⟨Qaw h.1 hm, h.2⟩
theorem Tx.app {n m : Nat} {a b : Str} (h : Tx n a) (h2 : Tx m b) : Tx (n + m) (a ++ b) := ⟨by rw [Zec]; have := h.1; have := h2.1; omega, fun c hc => by
 rw [Zj4, Qbh] at hc
 exact hc.elim (h.2 c) (h2.2 c)⟩
theorem Tx.sub {n : Nat} {a : Str} {l : List Nat} (h : Tx n a) (hl : l.Sublist a.cps.toList) : Tx n ⟨l.toArray⟩ := ⟨by
 rw [Zgo]
 have := hl.length_le
 rw [<- Zcg] at this
 exact Qaw this h.1, fun c hc => h.2 c (hl.subset (by simpa using hc))⟩
def txB (n : Nat) (z : Str) : Bool := decide (z.length <= n) && z.cps.toList.all fun c => decide (c < 128)
theorem Zfp {n : Nat} {z : Str} (h : txB n z = true) : Tx n z := by
 simp only [txB, Qaa, Qab, Qap] at h
 exact h
def Vc (s : Nat) : List Nat -> D -> Prop
 | _, .non => True
 | _, .bl _ => True
 | _, .int i => (PyData.shown (.int i)).length <= 40 /\ PyData.showable (.int i) = true
 | _, .str z => Tx s z
 | [], _ => False
 | n :: ns, .tup xs => xs.length <= n /\ ∀ x ∈ xs, Vc s ns x
 | n :: ns, .wl xs => xs.length <= n /\ ∀ x ∈ xs, Vc s ns x
 | n :: ns, .wd kvs => kvs.length <= n /\ ∀ p ∈ kvs, Yby s p.1 /\ Vc s ns p.2
 | _, _ => False
def Wc (s : Nat) : List Nat -> Nat
 | [] => s
 | n :: ns => s + n * (Wc s ns + s + 2)
theorem Ybz (s : Nat) : ∀ ns, s <= Wc s ns
 | [] => Qao _
 | _ :: _ => Nat.le_add_right ..
structure Sc (s : Nat) (ns : List Nat) (p : PyData) : Prop where
 a : p.showable = true
 b : p.leavesShort 40 = true
 c : p.bulk <= Wc s ns
 d : p.depth <= ns.length
theorem Zp8 {s : Nat} {ns : List Nat} {f : D -> Option PyData} : ∀ {xs : List D}, (∀ x ∈ xs, ∃ p, f x = some p /\ Sc s ns p) -> ∃ ps, Zbv f xs = some ps /\ PyData.showableAll ps = true /\ PyData.leavesShortAll 40 ps = true /\ PyData.bulkAll ps <= xs.length * (Wc s ns + 1) /\ PyData.depthAll ps <= ns.length
 | [], _ => ⟨[], rfl, rfl, rfl, Qax _, Qax _⟩
 | x :: xs, h => by
  obtain ⟨p, e, q⟩ := h x Qag
  obtain ⟨ps, e2, q1, q2, q3, q4⟩ := Zp8 fun x hx => h x (Qae _ hx)
  refine ⟨p :: ps, by simp [Zbv, e, e2], by simp [PyData.showableAll, q.a, q1], by simp [PyData.leavesShortAll, q.b, q2], ?_, ?_⟩
  ·have := q.c
   simp only [PyData.bulkAll, Qai, Nat.add_mul]
   omega
  ·have := q.d
   simp only [PyData.depthAll]
   omega
theorem Zp9 {s : Nat} {ns : List Nat} {k : L2.Key} (h : Yby s k) : Sc s ns (Zfu k) := by
 have wl := Ybz s ns
 cases k with
 | inl i => exact ⟨h.2, by simpa [Zfu, PyData.leavesShort] using h.1, by simp [Zfu, PyData.bulk], by simp [Zfu, PyData.depth]⟩
 | inr z => exact ⟨by simp [Zfu, PyData.showable], by
  simp only [Zfu, PyData.leavesShort, Qap, Qab]
  intro c hc
  exact Nat.lt_trans (h.2 c hc) (by decide), Qaw h.1 wl, by simp [Zfu, PyData.depth]⟩
theorem Zqa {s : Nat} {ns : List Nat} {f : D -> Option PyData} : ∀ {kvs : List (L2.Key × D)}, (∀ p ∈ kvs, Yby s p.1 /\ ∃ q, f p.2 = some q /\ Sc s ns q) -> ∃ ps, Zqz f kvs = some ps /\
  PyData.showableKv (ps.map fun p => (Zfu p.1, p.2)) = true /\ PyData.leavesShortKv 40 (ps.map fun p => (Zfu p.1, p.2)) = true /\ PyData.bulkKv (ps.map fun p => (Zfu p.1, p.2)) <= kvs.length * (Wc s ns + s + 2) /\ PyData.depthKv (ps.map fun p => (Zfu p.1, p.2)) <= ns.length
 | [], _ => ⟨[], rfl, rfl, rfl, Qax _, Qax _⟩
 | (k, x) :: kvs, h => by
  obtain ⟨hk, p, e, q⟩ := h (k, x) Qag
  obtain ⟨ps, e2, q1, q2, q3, q4⟩ := Zqa fun x hx => h x (Qae _ hx)
  have kd := Zp9 (ns := []) hk
  have kc := kd.c
  have kb : (Zfu k).depth = 0 := by cases k <;> simp [Zfu, PyData.depth]
  simp only [Wc] at kc
  refine ⟨(k, p) :: ps, by simp only [Zqz]; rw [e, e2], by simp [PyData.showableKv, kd.a, q.a, q1], by simp [PyData.leavesShortKv, kd.b, q.b, q2], ?_, ?_⟩
  ·have := q.c
   simp only [Qaj, PyData.bulkKv, Qai, Nat.add_mul]
   omega
  ·have := q.d
   simp only [Qaj, PyData.depthKv]
   omega
theorem Zhp {s : Nat} : ∀ (ns : List Nat) {k : Nat} {x : D}, Vc s ns x -> ns.length <= k -> ∃ p, deep k x = some p /\ Sc s ns p
 | d, k, .non, h, hk => ⟨.none, by cases k <;> rfl, rfl, rfl, Qax _, Qax _⟩
 | d, k, .bl b, h, hk => ⟨.bool b, by cases k <;> rfl, rfl, rfl, Qax _, Qax _⟩
 | d, k, .int i, h, hk => ⟨.int i, by cases k <;> rfl, Zp9 (k := .inl i) (by cases d <;> exact h)⟩
 | d, k, .str z, h, hk => ⟨.str z, by cases k <;> rfl, Zp9 (k := .inr z) (by cases d <;> exact h)⟩
 | [], k, .tup xs, h, hk => h.elim
 | [], k, .wl xs, h, hk => h.elim
 | [], k, .wd xs, h, hk => h.elim
 | [], k, .wt xs, h, hk => h.elim
 | [], k, .ks xs, h, hk => h.elim
 | [], k, .ref xs, h, hk => h.elim
 | [], k, .wT xs, h, hk => h.elim
 | [], k, .fn xs, h, hk => h.elim
 | [], k, .exn _ _ _, h, hk => h.elim
 | [], k, .clo _ _, h, hk => h.elim
 | [], k, .kt xs, h, hk => h.elim
 | n :: d, k, .wt xs, h, hk => h.elim
 | n :: d, k, .ks xs, h, hk => h.elim
 | n :: d, k, .ref xs, h, hk => h.elim
 | n :: d, k, .wT xs, h, hk => h.elim
 | n :: d, k, .fn xs, h, hk => h.elim
 | n :: d, k, .exn _ _ _, h, hk => h.elim
 | n :: d, k, .clo _ _, h, hk => h.elim
 | n :: d, k, .kt xs, h, hk => h.elim
 | n :: d, 0, .tup xs, h, hk => absurd hk (by simp)
 | n :: d, 0, .wl xs, h, hk => absurd hk (by simp)
 | n :: d, 0, .wd xs, h, hk => absurd hk (by simp)
 | n :: d, k + 1, .tup xs, h, hk => by
  obtain ⟨ps, e, q1, q2, q3, q4⟩ := Zp8 (s := s) (ns := d) (f := deep k) (xs := xs) fun x hx => Zhp d (h.2 x hx) (by simp at hk; omega)
  refine ⟨.tuple ps, by simp [deep, e], by simpa [PyData.showable] using q1, by simpa [PyData.leavesShort] using q2, ?_, by simp only [PyData.depth, Qai]; omega⟩
  have := Nat.mul_le_mul_right (Wc s d + 1) h.1
  have g : n * (Wc s d + 1) <= n * (Wc s d + s + 2) := Nat.mul_le_mul_left _ (by omega)
  simp only [PyData.bulk, Wc]
  omega
 | n :: d, k + 1, .wl xs, h, hk => by
  obtain ⟨ps, e, q1, q2, q3, q4⟩ := Zp8 (s := s) (ns := d) (f := deep k) (xs := xs) fun x hx => Zhp d (h.2 x hx) (by simp at hk; omega)
  refine ⟨.list ps, by simp [deep, e], by simpa [PyData.showable] using q1, by simpa [PyData.leavesShort] using q2, ?_, by simp only [PyData.depth, Qai]; omega⟩
  have := Nat.mul_le_mul_right (Wc s d + 1) h.1
  have g : n * (Wc s d + 1) <= n * (Wc s d + s + 2) := Nat.mul_le_mul_left _ (by omega)
  simp only [PyData.bulk, Wc]
  omega
 | n :: d, k + 1, .wd xs, h, hk => by
  obtain ⟨ps, e, q1, q2, q3, q4⟩ := Zqa (s := s) (ns := d) (f := deep k) (kvs := xs) fun x hx => ⟨(h.2 x hx).1, Zhp d (h.2 x hx).2 (by simp at hk; omega)⟩
  refine ⟨.dict (ps.map fun p => (Zfu p.1, p.2)), by simp [deep, e], by simpa [PyData.showable] using q1, by simpa [PyData.leavesShort] using q2, ?_, by simp only [PyData.depth, Qai]; omega⟩
  have := Nat.mul_le_mul_right (Wc s d + s + 2) h.1
  simp only [PyData.bulk, Wc]
  omega
theorem Zqb {s : Nat} {ns : List Nat} {x : D} (h : Vc s ns x) (hd : ns.length <= 12) (hw : Wc s ns <= 390000) : ∃ z, Zgs x = some z := by
 obtain ⟨p, e, q⟩ := Zhp ns h hd
 refine ⟨p.shown, ?_⟩
 have l := PyData.shown_le_bulk 40 (by omega) p q.b
 have c := q.c
 have c2 := q.d
 unfold Zgs
 rw [show Zep = 12 from rfl, e]
 show (if p.showable = true /\ p.shown.length <= sizeLine /\ p.depth <= 60 then some p.shown else none) = _
 rw [Qan ⟨q.a, by rw [PySem.sizeLine_eq]; omega, by omega⟩]
def leL : List Nat -> List Nat -> Prop
 | [], _ => True
 | n :: ns, m :: ms => n <= m /\ leL ns ms
 | _ :: _, [] => False
theorem leL.refl : ∀ ns, leL ns ns
 | [] => trivial
 | _ :: ns => ⟨Qao _, leL.refl ns⟩
theorem Vc.mono {n m : Nat} (hm : n <= m) : ∀ (d : List Nat) {e : List Nat} {x : D}, Vc n d x -> leL d e -> Vc m e x
 | d, e, .non, h, hk => by cases e <;> exact trivial
 | d, e, .bl b, h, hk => by cases e <;> exact trivial
 | d, e, .int i, h, hk => by cases e <;> cases d <;> exact h
 | d, e, .str z, h, hk => by cases e <;> cases d <;> exact Tx.mono h hm
 | [], k, .tup xs, h, hk => h.elim
 | [], k, .wl xs, h, hk => h.elim
 | [], k, .wd xs, h, hk => h.elim
 | [], k, .wt xs, h, hk => h.elim
 | [], k, .ks xs, h, hk => h.elim
 | [], k, .ref xs, h, hk => h.elim
 | [], k, .wT xs, h, hk => h.elim
 | [], k, .fn xs, h, hk => h.elim
 | [], k, .exn _ _ _, h, hk => h.elim
 | [], k, .clo _ _, h, hk => h.elim
 | [], k, .kt xs, h, hk => h.elim
 | _ :: d, k, .wt xs, h, hk => h.elim
 | _ :: d, k, .ks xs, h, hk => h.elim
 | _ :: d, k, .ref xs, h, hk => h.elim
 | _ :: d, k, .wT xs, h, hk => h.elim
 | _ :: d, k, .fn xs, h, hk => h.elim
 | _ :: d, k, .exn _ _ _, h, hk => h.elim
 | _ :: d, k, .clo _ _, h, hk => h.elim
 | _ :: d, k, .kt xs, h, hk => h.elim
 | _ :: d, [], .tup xs, h, hk => hk.elim
 | _ :: d, [], .wl xs, h, hk => hk.elim
 | _ :: d, [], .wd xs, h, hk => hk.elim
 | _ :: d, _ :: k, .tup xs, h, hk => ⟨Qaw h.1 hk.1, fun x hx => Vc.mono hm d (h.2 x hx) hk.2⟩
 | _ :: d, _ :: k, .wl xs, h, hk => ⟨Qaw h.1 hk.1, fun x hx => Vc.mono hm d (h.2 x hx) hk.2⟩
 | _ :: d, _ :: k, .wd xs, h, hk => ⟨Qaw h.1 hk.1, fun x hx => ⟨by
  have := (h.2 x hx).1
  cases e : x.1 with
  | inl i => rw [e] at this; exact this
  | inr z => rw [e] at this; exact Tx.mono this hm, Vc.mono hm d (h.2 x hx).2 hk.2⟩⟩
theorem Zem {s : Nat} {ns : List Nat} {z : Str} : Vc s ns (.str z) = Tx s z := by cases ns <;> rfl
theorem Zve {s : Nat} {ns : List Nat} {x : D} (h : Vc s ns x) : Zbj x = true := by
 cases x with
 | ref i => cases ns <;> exact h.elim
 | fn i => cases ns <;> exact h.elim
 | exn c fs xs => cases ns <;> exact h.elim
 | clo c fs => cases ns <;> exact h.elim
 | kt i => cases ns <;> exact h.elim
 | ks i => cases ns <;> exact h.elim
 | wT i => cases ns <;> exact h.elim
 | _ => rfl
def Zqy : List D := [.non, .bl true, .bl false, .int 0, .int 1, .int (-1), .int (10 ^ 30), .str "", .str "A", .str "a b", .str "a-b", .str "-", .str "abcdefghi", .str "a\n", .str " a", .str "`", .str "{"]
def Zto (z : Str) : List D := [.tup [], .wl [], .wd [], .tup [.str z], .wl [.str z], .wd [(.inr z, .str z)], .tup [.str z, .str z], .tup [.str z, .str z, .str z], .str (z ++ "a"), .str "z"]
def Zz2 (z : Str) : List D := [.tup [.str "turn"], .tup [.str "turn", .str z], .tup [.str "flip", .str z, .str z], .tup [.str "here", .str z], .tup [.str z, .wl []], .tup [.tup [], .tup []], .tup [.str "a", .str "b"]]
def Z0z (z : Str) : List D := (Zqy ++ Zto z) ++ Zz2 z
theorem Zz3 {z : Str} (h : Tx 8 z) : ∀ x ∈ Z0z z, Vc 9 [3, 0] x := by
 have h9 := h.mono (show 8 <= 9 by omega)
 have ha : Tx 9 (z ++ "a") := h.app (m := 1) (Zfp (by decide +kernel))
 have i1 : Vc 9 [3, 0] (.int 0) := ⟨by decide +kernel, by decide +kernel⟩
 have i2 : Vc 9 [3, 0] (.int 1) := ⟨by decide +kernel, by decide +kernel⟩
 have i3 : Vc 9 [3, 0] (.int (-1)) := ⟨by decide +kernel, by decide +kernel⟩
 have i4 : Vc 9 [3, 0] (.int (10 ^ 30)) := ⟨by decide +kernel, by decide +kernel⟩
 have t1 : ∀ d, Vc 9 d (.str "turn") := fun d => by rw [Zem]; exact Zfp (by decide +kernel)
 have t2 : ∀ d, Vc 9 d (.str "flip") := fun d => by rw [Zem]; exact Zfp (by decide +kernel)
 have t3 : ∀ d, Vc 9 d (.str "here") := fun d => by rw [Zem]; exact Zfp (by decide +kernel)
 have t4 : ∀ d, Vc 9 d (.str "a") := fun d => by rw [Zem]; exact Zfp (by decide +kernel)
 have t5 : ∀ d, Vc 9 d (.str "b") := fun d => by rw [Zem]; exact Zfp (by decide +kernel)
 have tz : ∀ d, Vc 9 d (.str z) := fun d => by rw [Zem]; exact h9
 have e1 : ∀ n d, Vc 9 (n :: d) (.tup []) := fun n d => ⟨by simp, by simp⟩
 have e2 : ∀ n d, Vc 9 (n :: d) (.wl []) := fun n d => ⟨by simp, by simp⟩
 have e3 : Vc 9 [3, 0] (.wd []) := ⟨by simp, by simp⟩
 have e4 : Vc 9 [3, 0] (.wd [(.inr z, .str z)]) := ⟨by simp, by simp only [Qbe, forall_eq]; exact ⟨h9, tz [0]⟩⟩
 have l1 : ∀ x, txB 9 x = true -> Vc 9 [3, 0] (.str x) := fun x hx => by rw [Zem]; exact Zfp hx
 have one : ∀ x, Vc 9 [0] x -> Vc 9 [3, 0] (.tup [x]) := fun x hx => ⟨by simp, by simp only [Qbe, forall_eq]; exact hx⟩
 have two : ∀ x y, Vc 9 [0] x -> Vc 9 [0] y -> Vc 9 [3, 0] (.tup [x, y]) := fun x y hx hy => ⟨by simp, by simp only [Qaf, Qbb, or_false, forall_eq_or_imp, forall_eq]; exact ⟨hx, hy⟩⟩
 have thr : ∀ x y w, Vc 9 [0] x -> Vc 9 [0] y -> Vc 9 [0] w -> Vc 9 [3, 0] (.tup [x, y, w]) := fun x y w hx hy hw => ⟨by simp, by simp only [Qaf, Qbb, or_false, forall_eq_or_imp, forall_eq]; exact ⟨hx, hy, hw⟩⟩
 unfold Z0z Zqy Zto Zz2
 simp only [List.cons_append, List.nil_append, Qaf, Qbb, or_false, forall_eq_or_imp, forall_eq]
 exact ⟨trivial, trivial, trivial, i1, i2, i3, i4, l1 _ (by decide +kernel), l1 _ (by decide +kernel), l1 _ (by decide +kernel), l1 _ (by decide +kernel), l1 _ (by decide +kernel), l1 _ (by decide +kernel), l1 _ (by decide +kernel), l1 _ (by decide +kernel), l1 _ (by decide +kernel), l1 _ (by decide +kernel),
  e1 3 [0], e2 3 [0], e3, one _ (tz [0]), ⟨by simp, by simp only [Qbe, forall_eq]; exact tz [0]⟩, e4, two _ _ (tz [0]) (tz [0]), thr _ _ _ (tz [0]) (tz [0]) (tz [0]), ha, l1 _ (by decide +kernel),
  one _ (t1 [0]), two _ _ (t1 [0]) (tz [0]), thr _ _ _ (t2 [0]) (tz [0]) (tz [0]), two _ _ (t3 [0]) (tz [0]), two _ _ (tz [0]) (e2 0 []), two _ _ (e1 0 []) (e1 0 []), two _ _ (t4 [0]) (t5 [0])⟩
section
variable {Φ : Str -> Option Df} (hD : Φ "_law_draw" = some K02.Zau) (hP : Φ "_law_pick" = some K02.Zbg) (hO : Φ "_law_odd" = some K02.Zdf)
include hD hP hO
theorem Z5d (t : Tk) (l : List O) {k : Nat} {z : Str} (h : Tx 8 z) : ∃ d t', call Φ (k + 3) "_law_odd" [.ref 0, .str z] (SD t l) = .ok d (SD t' l) /\ Vc 9 [3, 0] d := by
 obtain ⟨d, t', e, hd⟩ := Zp6 hD hP t l (k := k) (xs := Z0z z) (by simp [Z0z, Zqy]) (by simp [Z0z, Zqy, Zto, Zz2])
 refine ⟨d, t', ?_, Zz3 h d hd⟩
 have lz : z.length <= 8 := h.1
 have la : ("a" : Str).length = 1 := by decide +kernel
 have s1 : z.length + 1 <= sizeLine := sz (by omega)
 have dz : Zf1 [.str z, .str z] = some (.dK [(.inr z, .str z)]) := rfl
 have dn : Zf1 [] = some (.dK []) := rfl
 have sn : ∀ {n : Nat}, n <= 100 -> n <= sizeLine := fun h => sz (by omega)
 rw [Zap hO rfl]
 have o1 : ∀ S ρ C, ev C (.frz (.lst [(.cst .non), (.cst (.bl true)), (.cst (.bl false)), (.cst (.int 0)), (.cst (.int 1)), (.neg (.cst (.int 1))), (.bin .Pow (.cst (.int 10)) (.cst (.int 30))), (.cst (.str "")), (.cst (.str "A")), (.cst (.str "a b")), (.cst (.str "a-b")), (.cst (.str "-")), (.cst (.str "abcdefghi")), (.cst (.str "a\n")), (.cst (.str " a")), (.cst (.str "`")), (.cst (.str "{"))])) ρ S = .ok (.wl Zqy) S := by
  intro S ρ C
  simp [Zqy, sn]
 have o2 : ∀ S w C, ev C (.frz (.lst [(.tup []), (.frz (.lst [])), (.frz (.dct [])), (.tup [(.var 1)]), (.frz (.lst [(.var 1)])), (.frz (.dct [(.var 1), (.var 1)])), (.tup [(.var 1), (.var 1)]), (.tup [(.var 1), (.var 1), (.var 1)]), (.bin .Add (.var 1) (.cst (.str "a"))), (.cst (.str "z"))])) [.v (.ref 0), .v (.str z), w] S = .ok (.wl (Zto z)) S := by
  intro S w C
  simp [Zto, sn, dz, dn, la, s1]
 have o3 : ∀ S w C, ev C (.frz (.lst [(.tup [(.cst (.str "turn"))]), (.tup [(.cst (.str "turn")), (.var 1)]), (.tup [(.cst (.str "flip")), (.var 1), (.var 1)]), (.tup [(.cst (.str "here")), (.var 1)]), (.tup [(.var 1), (.frz (.lst []))]), (.tup [(.tup []), (.tup [])]), (.tup [(.cst (.str "a")), (.cst (.str "b"))])])) [.v (.ref 0), .v (.str z), w] S = .ok (.wl (Zz2 z)) S := by
  intro S w C
  simp [Zz2, sn]
 have c1 : Zqy.length + (Zto z).length <= sizeLine := sz (by simp [Zqy, Zto])
 have c2 : (Zqy ++ Zto z).length + (Zz2 z).length <= sizeLine := sz (by simp [Zqy, Zto, Zz2])
 unfold Z0z at e
 rw [K02.Zdf, K02.Zu5, Zbn, Zgm, o1]
 simp only [Zbn, Zgm, Zcf, R.bind_ok, Zhg, Zbl, Qaj, List.map_nil, Qai, List.length_nil, List.cons_append, List.nil_append, List.replicate, List.set_cons_zero, List.set_cons_succ, Zlt, Zls, List.getElem?_cons_zero, List.getElem?_cons_succ, Zs7, Zhe]
 simp only [o2, o3, R.bind_ok, Zhf, Zp1, Zti, Qan c1, Qan c2, R.ofO_some, Zcf, Zhg, Zbl, Zbn, Zgm, Zlt, Zls, List.getElem?_cons_zero, List.getElem?_cons_succ, Zs7, Zhe, List.set_cons_zero, List.set_cons_succ, Z4t, Zzd, Zlu, Zpx, Zpy, Zlv, e, Zzl, Zzk, Zy0]
end
theorem Ze1 {a b : Str} (h : Zai a b = true) : a ≠ b := by
 rintro rfl
 rw [Zba] at h; cases h
theorem Zj5 (a : Str × Str) : Zch a a = false := by
 unfold Zch
 rw [Qan rfl, Zba]
theorem Zz4 {a b : Str × Str} (h : Zch a b = true) : a ≠ b := by
 rintro rfl
 rw [Zj5] at h; cases h
abbrev UpS (l : List Str) : Prop := l.Pairwise fun x y => Zai x y = true
abbrev UpP (l : List (Str × Str)) : Prop := l.Pairwise fun x y => Zch x y = true
theorem UpS.nodup {l : List Str} (h : UpS l) : l.Nodup := h.imp Ze1
theorem UpP.nodup {l : List (Str × Str)} (h : UpP l) : l.Nodup := h.imp Zz4
theorem UpS.le {l : List Str} (h : UpS l) : l.Pairwise Zeu := h.imp fun h => Za7 h
theorem UpP.le {l : List (Str × Str)} (h : UpP l) : SrtO.Srtd Zch l := h.imp fun h => Zdm.asym _ _ h
theorem Z5e {α : Type} {lt : α -> α -> Bool} (tot : ∀ {a b : α}, lt a b = false -> lt b a = false -> a = b) : ∀ {l : List α}, l.Pairwise (fun x y => lt y x = false) -> l.Nodup -> l.Pairwise fun x y => lt x y = true
 | [], _, _ => .nil
 | x :: l, h, n => by
  rw [Qa9] at h ⊢
  rw [List.nodup_cons] at n
  refine ⟨fun y hy => ?_, Z5e tot h.2 n.2⟩
  cases e : lt x y with
  | true => rfl
  | false => exact absurd (tot e (h.1 y hy)) fun z => n.1 (by rw [z]; exact hy)
theorem Zgq {l : List Str} (n : l.Nodup) : UpS (Zaj l) := Z5e (fun h h' => Zay h h') (Zbw l) ((Zaz l).nodup_iff.mpr n)
theorem Zfq {l : List Str} {x : Str} : x ∈ Zaj l ↔ x ∈ l := (Zaz l).mem_iff
def tie (a b : Str) : Str × Str := if Zai a b = true then (a, b) else (b, a)
theorem Zl2 (a b : Str) : tie a b = tie b a := by
 unfold tie
 by_cases h : Zai a b = true
 ·rw [Qan h, Qat (by rw [Za7 h]; simp)]
 ·by_cases h' : Zai b a = true
  ·rw [Qat h, Qan h']
  ·have : a = b := Zay (by simpa using h) (by simpa using h')
   subst this; rfl
theorem Zl3 {a b : Str} (h : Zai a b = true) : tie a b = (a, b) := Qan h
theorem Z5f {a b c d : Str} (h : tie a b = tie c d) : (a = c /\ b = d) \/ (a = d /\ b = c) := by
 unfold tie at h
 split at h <;> split at h <;> simp only [Prod.mk.injEq] at h
 ·exact .inl h
 ·exact .inr h
 ·exact .inr ⟨h.2, h.1⟩
 ·exact .inl ⟨h.2, h.1⟩
def Ly (z : Str) : Prop := PyData.strOk z = true
def prP (p : Str × Str) : PyData := .tuple [.str p.1, .str p.2]
theorem Ztp (n : Nat) (z : Str) : deep n (.str z) = some (.str z) := by cases n <;> rfl
theorem Zqc (n : Nat) (p : Str × Str) : deep (n + 1) (Zbq p) = some (prP p) := by
 simp [deep, Zbq, Zbv, Ztp, prP]
theorem Zvf (n : Nat) : ∀ ps : List (Str × Str), Zbv (deep (n + 1)) (ps.map Zbq) = some (ps.map prP)
 | [] => rfl
 | p :: ps => by
  rw [Qaj, Zbv, Zqc, Zvf n ps]
  rfl
theorem Z5g (p q : Str × Str) : PyData.eqv (prP p) (prP q) = decide (p = q) := by
 simp only [prP, PyData.eqv, PyData.eqvAll, Bool.and_true]
 by_cases h1 : p.1 = q.1
 ·by_cases h2 : p.2 = q.2
  ·have : p = q := Prod.ext h1 h2
   simp [this]
  ·have : p ≠ q := fun z => h2 (by rw [z])
   simp [this, h2]
 ·have : p ≠ q := fun z => h1 (by rw [z])
  simp [this, h1]
theorem Zvg {p : Str × Str} (h1 : Ly p.1) (h2 : Ly p.2) : (prP p).canLay0 = true := by
 simp only [prP, PyData.canLay0, PyData.canLayAll0, Bool.and_true, Qaa]
 exact ⟨h1, h2⟩
theorem Zqd : ∀ {ps : List (Str × Str)}, (∀ p ∈ ps, Ly p.1 /\ Ly p.2) -> PyData.canLayAll0 (ps.map prP) = true
 | [], _ => rfl
 | p :: ps, h => by
  simp only [Qaj, PyData.canLayAll0, Qaa]
  exact ⟨Zvg (h p Qag).1 (h p Qag).2, Zqd fun q hq => h q (Qae _ hq)⟩
theorem Ztq {p : Str × Str} {ps : List (Str × Str)} (h1 : Ly p.1 /\ Ly p.2) (h2 : ∀ q ∈ ps, Ly q.1 /\ Ly q.2) : Zhu (Zbq p) (ps.map Zbq) = some (decide (p ∈ ps)) := by
 unfold Zhu
 rw [Qat (by simp [Zbq, Zdi])]
 unfold Zgt
 rw [show Zep = 11 + 1 from rfl, Zqc, Zvf]
 show (if (prP p).canLay0 = true /\ PyData.canLayAll0 (ps.map prP) = true /\ (prP p).depth <= 60 then some ((ps.map prP).any fun q => PyData.eqv q (prP p)) else none) = _
 rw [Qan ⟨Zvg h1.1 h1.2, Zqd h2, by simp [prP, PyData.depth, PyData.depthAll]⟩]
 congr 1
 rw [List.any_map]
 induction ps with
 | nil => rfl
 | cons q ps ih =>
  rw [List.any_cons, ih fun q hq => h2 q (Qae _ hq)]
  simp only [Function.comp_apply, Z5g, Qaf]
  by_cases e : q = p
  ·simp [e]
  ·have e' : p ≠ q := fun z => e z.symm
   simp [e, e']
structure Web where
 P : List Str
 T : List (Str × Str)
 deriving DecidableEq
def mkW (w : Web) : D := .tup [.tup (w.P.map .str), .tup (w.T.map Zbq)]
def LyW (w : Web) : Prop := (∀ z ∈ w.P, Ly z) /\ ∀ p ∈ w.T, Ly p.1 /\ Ly p.2
theorem Ztr {α : Type} (c : Int) (xs : List α) : Zbk c xs.length = xs.zipIdx.map fun p => .int (c + (p.2 : Nat)) := by
 unfold Zbk
 apply List.ext_getElem (by simp)
 intro i h1 h2
 simp
theorem Zfr {α β : Type} {f : D -> Ev -> Store -> RS} {S : Store} (env : α -> Ev) (mk : β -> D) (g : α -> β -> α) (ok : α -> Nat -> Prop) : ∀ (ps : List β) (a : α), ok a ps.length -> (∀ a p n, p ∈ ps -> ok a (n + 1) -> f (mk p) (env a) S = .ok (.nx (env (g a p))) S /\ ok (g a p) n) ->
  Zet f (ps.map mk) (env a) S = .ok (.nx (env (ps.foldl g a))) S /\ ok (ps.foldl g a) 0
 | [], a, h, _ => ⟨rfl, h⟩
 | p :: ps, a, h, st => by
  obtain ⟨e, h2⟩ := st a p ps.length Qag h
  rw [Qaj, Zet, e, R.bind_ok]
  exact Zfr env mk g ok ps (g a p) h2 fun a q n hq => st a q n (Qae _ hq)
theorem Z5h (S : Store) (p : Str × Str) : rdS S (Zbq p) = Zbq p := rfl
theorem Zz5 (p : Str × Str) : Zbq p = .tup [.str p.1, .str p.2] := rfl
theorem Z5i {Φ : Str -> Option Df} (h : Φ "tie_of" = some K02.Zao) {k : Nat} {a b : Str} {S : Store} : call Φ (k + 1) "tie_of" [.str a, .str b] S = .ok (Zbq (tie a b)) S := by
 rw [Zap h rfl]
 unfold tie
 cases e : Zai a b <;> simp [K02.Zao, K02.Zg8, e, Zbq]
def Zm6 (p : Str) (t : Str × Str) : List Str := (if t.1 = p then [t.2] else []) ++ (if t.2 = p then [t.1] else [])
def frL (p : Str) (T : List (Str × Str)) : List Str := T.flatMap (Zm6 p)
def Zj6 (T : List (Str × Str)) : Prop := ∀ t ∈ T, Zai t.1 t.2 = true
theorem Zhq {p x : Str} {t : Str × Str} (h : Zai t.1 t.2 = true) : x ∈ Zm6 p t ↔ tie p x = t := by
 unfold Zm6
 simp only [Qbh]
 constructor
 ·rintro (q | q)
  ·split at q
   ·rename_i e
    simp at q
    subst e q
    rw [Zl3 h]
   ·simp at q
  ·split at q
   ·rename_i e
    simp at q
    subst e q
    rw [Zl2, Zl3 h]
   ·simp at q
 ·intro e
  have e2 : tie p x = tie t.1 t.2 := by rw [Zl3 h]; exact e
  rcases Z5f e2 with ⟨h1, h2⟩ | ⟨h1, h2⟩
  ·left; rw [Qan h1.symm, h2]; simp
  ·right; rw [Qan h1.symm, h2]; simp
theorem Zqe {p x : Str} {T : List (Str × Str)} (h : Zj6 T) : x ∈ frL p T ↔ tie p x ∈ T := by
 unfold frL
 rw [List.mem_flatMap]
 constructor
 ·rintro ⟨t, ht, q⟩
  rw [(Zhq (h t ht)).mp q]; exact ht
 ·intro q
  exact ⟨_, q, (Zhq (h _ q)).mpr rfl⟩
theorem Zts (p : Str) (t : Str × Str) : (Zm6 p t).length <= 2 := by
 unfold Zm6
 split <;> split <;> simp
theorem Zm7 {p : Str} {t : Str × Str} (h : Zai t.1 t.2 = true) : (Zm6 p t).Nodup := by
 have ne := Ze1 h
 unfold Zm6
 by_cases h1 : t.1 = p
 ·have h2 : ¬ t.2 = p := fun z => ne (h1.trans z.symm)
  simp [h1, h2]
 ·by_cases h2 : t.2 = p <;> simp [h1, h2]
theorem Zi1 {p : Str} : ∀ {T : List (Str × Str)}, Zj6 T -> T.Nodup -> (frL p T).Nodup
 | [], _, _ => List.nodup_nil
 | t :: T, h, n => by
  rw [List.nodup_cons] at n
  have ht := h t Qag
  have h2 : Zj6 T := fun q hq => h q (Qae _ hq)
  show (Zm6 p t ++ frL p T).Nodup
  rw [List.nodup_append]
  refine ⟨Zm7 ht, Zi1 h2 n.2, fun a ha b hb => ?_⟩
  rintro rfl
  rw [Zhq ht] at ha
  rw [Zqe h2] at hb
  rw [ha] at hb
  exact n.1 hb
def Zav : List Str -> List (Str × Str)
 | [] => []
 | x :: r => r.map (fun y => (x, y)) ++ Zav r
theorem Zbs : ∀ {l : List Str} {a b : Str}, UpS l -> ((a, b) ∈ Zav l ↔ a ∈ l /\ b ∈ l /\ Zai a b = true)
 | [], a, b, _ => by simp [Zav]
 | x :: r, a, b, h => by
  rw [UpS, Qa9] at h
  rw [Zav, Qbh, Zbs h.2]
  constructor
  ·rintro (q | ⟨h1, h2, h3⟩)
   ·obtain ⟨y, hy, e⟩ := Qa2.mp q
    simp only [Prod.mk.injEq] at e
    obtain ⟨rfl, rfl⟩ := e
    exact ⟨Qag, Qae _ hy, h.1 y hy⟩
   ·exact ⟨Qae _ h1, Qae _ h2, h3⟩
  ·rintro ⟨h1, h2, h3⟩
   rcases Qaf.mp h1 with e1 | g1
   ·rcases Qaf.mp h2 with e2 | g2
    ·rw [e1, e2, Zba] at h3; cases h3
    ·exact .inl (Qa2.mpr ⟨b, g2, by rw [e1]⟩)
   ·rcases Qaf.mp h2 with e2 | g2
    ·have := Za7 (h.1 a g1)
     rw [e2, this] at h3; cases h3
    ·exact .inr ⟨g1, g2, h3⟩
theorem Zen : ∀ {l : List Str}, UpS l -> (Zav l).Nodup
 | [], _ => List.nodup_nil
 | x :: r, h => by
  have h0 := h
  rw [UpS, Qa9] at h
  rw [Zav, List.nodup_append]
  refine ⟨?_, Zen h.2, fun a ha b hb => ?_⟩
  ·refine List.Pairwise.map _ (fun a b hab => ?_) (UpS.nodup h.2)
   intro z
   simp only [Prod.mk.injEq] at z
   exact hab z.2
  ·obtain ⟨y, hy, rfl⟩ := Qa2.mp ha
   rintro rfl
   have := (Zbs h.2).mp hb
   exact (UpS.nodup h0 |> List.nodup_cons.mp).1 this.1
theorem Zc4 : ∀ l : List Str, (Zav l).length <= l.length * l.length
 | [] => Qao _
 | x :: r => by
  have := Zc4 r
  rw [Zav, Qbd, Qal, Qai]
  have e : (r.length + 1) * (r.length + 1) = r.length * r.length + 2 * r.length + 1 := by
   rw [Nat.add_mul, Nat.mul_add]; omega
  omega
theorem Yb0 {C : Cl} {S : Store} {wd : D} {p : Str} {l : List Str} {t : Str × Str} (hl : l.length < 99990) :
  Zg5 C (.tp [3, 4]) K02.Zam (Zbq t) [.v wd, .v (.str p), .o (.lst (l.map .str)), .no, .no] S = .ok (.nx [.v wd, .v (.str p), .o (.lst ((l ++ Zm6 p t).map .str)), .no, .no]) S := by
 have z1 : l.length < sizeLine := Qa4 hl (sz (by omega))
 have z2 : l.length + 1 < sizeLine := Qa4 (show l.length + 1 < 100000 by omega) (sz (by omega))
 have m1 : ∀ (x : D) (ρ3 ρ4 : Sl), Zae C (.mut 2 .append [(.var 4)]) [.v wd, .v (.str p), .o (.lst (l.map .str)), ρ3, .v x] S = .ok (.nx [.v wd, .v (.str p), .o (.lst (l.map .str ++ [x])), ρ3, .v x]) S := fun x ρ3 ρ4 => by
  rw [Zly (ob := .lst (l.map .str)) rfl rfl]
  simp [Zlx, z1]
 have m2 : ∀ (x : D) (xs : List D) (ρ4 : Sl), xs.length < sizeLine -> Zae C (.mut 2 .append [(.var 3)]) [.v wd, .v (.str p), .o (.lst xs), .v x, ρ4] S = .ok (.nx [.v wd, .v (.str p), .o (.lst (xs ++ [x])), .v x, ρ4]) S := fun x xs ρ4 h => by
  rw [Zly (ob := .lst xs) rfl rfl]
  simp [Zlx, h]
 unfold Zm6
 rw [Zz5, Ztg]
 by_cases h1 : t.1 = p
 ·by_cases h2 : t.2 = p
  ·simp -implicitDefEqProofs [K02.Zam, h1, h2, m1 _ _ .no, m2 _ _ _ (show ((l.map D.str) ++ [D.str p]).length < sizeLine by simpa using z2)]
  ·simp -implicitDefEqProofs [K02.Zam, h1, h2, m1 _ _ .no]
 ·by_cases h2 : t.2 = p
  ·simp -implicitDefEqProofs [K02.Zam, h1, h2, m2 _ _ _ (show (l.map D.str).length < sizeLine by simpa using z1)]
  ·simp -implicitDefEqProofs [K02.Zam, h1, h2]
section
variable {Φ : Str -> Option Df} (hF : Φ "friends_of" = some K02.Za2)
include hF
theorem Zm8 {k : Nat} {S : Store} {w : Web} {p : Str} (hl : w.T.length < 49000) : call Φ (k + 1) "friends_of" [mkW w, .str p] S = .ok (.tup ((Zaj (frL p w.T)).map .str)) S := by
 obtain ⟨e, _⟩ := Zfr (S := S) (f := Zg5 (call Φ k) (.tp [3, 4]) K02.Zam) (fun l : List Str => [.v (mkW w), .v (.str p), .o (.lst (l.map .str)), .no, .no]) Zbq (fun l t => l ++ Zm6 p t) (fun l n => l.length + 2 * n <= 2 * w.T.length) w.T [] (by simp) (fun l t n _ h => ⟨Yb0 (by omega), by
   have := Zts p t
   rw [Qbd]
   omega⟩)
 have ef : ∀ (T : List (Str × Str)) (l : List Str), T.foldl (fun l t => l ++ Zm6 p t) l = l ++ frL p T := by
  intro T
  induction T with
  | nil => intro l; simp [frL]
  | cons t T ih => intro l; rw [List.foldl_cons, ih]; simp [frL]
 rw [ef, List.nil_append, List.map_nil] at e
 have so := Zdh (frL p w.T)
 rw [Zap hF rfl]
 show Zpv (Zae (call Φ k) K02.Zcp [.v (mkW w), .v (.str p), .no, .no, .no] S) = _
 have n0 : 0 <= sizeLine := Qax _
 have s0 : Zae (call Φ k) (.new 2 (.lst [])) [.v (mkW w), .v (.str p), .no, .no, .no] S = .ok (.nx [.v (mkW w), .v (.str p), .o (.lst []), .no, .no]) S := by simp
 have s1 : Zae (call Φ k) (.for_ (.tp [3, 4]) (.seq (.sub (.val (.var 0)) (.cst (.int 1)))) K02.Zam) [.v (mkW w), .v (.str p), .o (.lst []), .no, .no] S = .ok (.nx [.v (mkW w), .v (.str p), .o (.lst ((frL p w.T).map .str)), .no, .no]) S := by
  rw [Zvc]
  have it : evi (call Φ k) (.seq (.sub (.val (.var 0)) (.cst (.int 1)))) [.v (mkW w), .v (.str p), .o (.lst []), .no, .no] S = .ok (w.T.map Zbq) S := by simp [mkW]
  rw [it, Zcf, R.bind_ok, Zeb, e]
 rw [K02.Zcp, Zbn, s0, R.bind_ok, Zbl, Zbn, s1, R.bind_ok, Zbl, Zbn, Zzo (ob := .lst ((frL p w.T).map .str)) rfl, R.bind_ok, Zbl]
 simp -implicitDefEqProofs [so]
end
structure Wf (w : Web) : Prop where
 p : UpS w.P
 t : UpP w.T
 lt : Zj6 w.T
 on : ∀ q ∈ w.T, q.1 ∈ w.P /\ q.2 ∈ w.P
def adj (w : Web) (x y : Str) : Bool := decide (tie x y ∈ w.T)
theorem Ztt (w : Web) (x y : Str) : adj w x y = adj w y x := by unfold adj; rw [Zl2]
theorem Wf.irr {w : Web} (h : Wf w) (x : Str) : adj w x x = false := by
 unfold adj
 rw [decide_eq_false_iff_not]
 intro q
 have := h.lt _ q
 unfold tie at this
 split at this
 ·rename_i c; rw [Zba] at c; cases c
 ·rw [Zba] at this; cases this
theorem Wf.ends {w : Web} (h : Wf w) {x y : Str} (q : adj w x y = true) : x ∈ w.P /\ y ∈ w.P := by
 unfold adj at q
 rw [Qab] at q
 have := h.on _ q
 unfold tie at this
 split at this
 ·exact this
 ·exact ⟨this.2, this.1⟩
theorem Wf.len {w : Web} (h : Wf w) : w.T.length <= w.P.length * w.P.length := by
 have p : w.T.Perm ((Zav w.P).filter fun q => decide (q ∈ w.T)) := (List.perm_ext_iff_of_nodup h.t.nodup ((Zen h.p).sublist (List.filter_sublist ..))).mpr fun q => by
  rw [List.mem_filter, Qab]
  constructor
  ·intro m
   exact ⟨(Zbs h.p (a := q.1) (b := q.2)).mpr ⟨(h.on q m).1, (h.on q m).2, h.lt q m⟩, m⟩
  ·exact fun m => m.2
 rw [p.length_eq]
 exact Qaw (List.length_filter_le ..) (Zc4 _)
def frS (w : Web) (p : Str) : List Str := Zaj (frL p w.T)
theorem Z5j {w : Web} (h : Wf w) (p : Str) : UpS (frS w p) := Zgq (Zi1 h.lt h.t.nodup)
theorem Zj7 {w : Web} (h : Wf w) {p x : Str} : x ∈ frS w p ↔ adj w p x = true := by
 unfold frS adj
 rw [Zfq, Zqe h.lt, Qab]
theorem Zz6 {w : Web} (h : Wf w) {p x : Str} (m : x ∈ frS w p) : x ∈ w.P := (h.ends ((Zj7 h).mp m)).2
theorem Zqf {l : List Str} (h : UpS l) : Zj6 (Zav l) := fun q hq => ((Zbs h (a := q.1) (b := q.2)).mp hq).2.2
theorem Zhr (S : Store) (w : Web) : rdS S (mkW w) = mkW w := rfl
theorem Zhs (w : Web) : Zf0 (mkW w) (.int 0) = some (.tup (w.P.map .str)) := rfl
theorem Ztu (w : Web) : Zf0 (mkW w) (.int 1) = some (.tup (w.T.map Zbq)) := rfl
theorem Zz7 {w : Web} (h : Wf w) (p : Str) : (frS w p).length <= w.P.length := by
 have q : (frS w p).Perm (w.P.filter fun x => adj w p x) := (List.perm_ext_iff_of_nodup (Z5j h p).nodup (h.p.nodup.sublist (List.filter_sublist ..))).mpr fun x => by
  rw [List.mem_filter, Zj7 h]
  exact ⟨fun m => ⟨(h.ends m).2, m⟩, fun m => m.2⟩
 rw [q.length_eq]
 exact List.length_filter_le ..
structure Sm (w : Web) : Prop extends Wf w where
 sm : w.P.length <= 150
theorem Sm.tl {w : Web} (h : Sm w) : w.T.length <= 22500 := Qaw h.toWf.len (Nat.mul_le_mul h.sm h.sm)
def Z8b (p : Str) (ss : List Str) : List Str := ss.filter fun z => decide (z ≠ p)
def sw (a b x : Str) : Str := if x = a then b else if x = b then a else x
theorem Zz8 {Φ : Str -> Option Df} (h : Φ "_law_tie" = some K02.Zao) {k : Nat} {a b : Str} {S : Store} : call Φ (k + 1) "_law_tie" [.str a, .str b] S = .ok (Zbq (tie a b)) S := by
 rw [Zap h rfl]
 unfold tie
 cases e : Zai a b <;> simp [K02.Zao, K02.Zg8, e, Zbq]
theorem Ztv {Φ : Str -> Option Df} (hD : Φ "_law_draw" = some K02.Zau) (hP : Φ "_law_pick" = some K02.Zbg) (t : Tk) (l : List O) {k : Nat} {xs : List D} (h0 : xs ≠ []) (hl : xs.length <= 100000) :
  ∃ d t', call Φ (k + 2) "_law_pick" [.ref 0, .tup xs] (SD t l) = .ok d (SD t' l) /\ d ∈ xs := by
 have l0 : 0 < xs.length := List.length_pos_iff.mpr h0
 obtain ⟨i, t', e, i0, i1⟩ := Zbe hD t l (k := k) (n := (xs.length : Int)) (by omega) (by omega)
 have hi : i.toNat < xs.length := by omega
 refine ⟨xs[i.toNat], t', ?_, List.getElem_mem hi⟩
 rw [Zap hP rfl]
 simp [K02.Zbg, K02.Zjw, e, Zhi i0, hi]
theorem Zeo {C : Cl} {S : Store} {posts : List Str} {d0 : D} (hd0 : d0 = .tup (posts.map .str) \/ d0 = .wl (posts.map .str)) (hC : ∀ x y, C "_law_tie" [.str x, .str y] S = .ok (Zbq (tie x y)) S) (up : UpS posts) (hp : posts.length <= 1000) : ∀ (suf : List Str) (i : Nat) (l : List (Str × Str)), posts.drop i = suf -> l.length + (Zav suf).length < 100000 ->
  Zet (Zg5 C (.nm 2) K02.Za4) ((suf.zipIdx i).map fun p => .int ((0 : Int) + (p.2 : Nat))) [.v d0, .o (.lst (l.map Zbq)), .no, .no] S = .ok (.nx [.v d0, .o (.lst ((l ++ Zav suf).map Zbq)), .no, .no]) S
 | [], i, l, _, _ => by simp [Zav, Zet]
 | x :: r, i, l, hd, hl => by
  have hr : posts.drop (i + 1) = r := by
   rw [<- List.drop_drop, hd]; rfl
  have hx : posts[i]? = some x := by
   have := List.getElem?_drop (xs := posts) (i := i) (j := 0)
   rw [hd] at this
   simpa using this.symm
  have hsub : (x :: r).Sublist posts := by rw [<- hd]; exact List.drop_sublist _ _
  have upr := Qa9.mp (List.Pairwise.sublist hsub up)
  rw [Zav, Qbd, Qal] at hl
  have ih := Zeo hd0 hC up hp r (i + 1) (l ++ r.map fun y => (x, y)) hr (by rw [Qbd, Qal]; omega)
  have lr : r.length <= 1000 := by rw [<- hr, List.length_drop]; omega
  have cf : Zfs (posts.map D.str) (some (((i : Nat) : Int) + 1)) none = r.map .str := by
   rw [Zlz _ (by omega), show (((i : Nat) : Int) + 1).toNat = i + 1 by omega, <- List.map_drop, hr]
  have hat : L2.atI (posts.map D.str) ((i : Nat) : Int) = some (.str x) := by
   rw [Zhi (by omega), Int.toNat_natCast, Qar, hx]; rfl
  have z1 : l.length + r.length <= sizeLine := sz (by omega)
  have g := Zp3 (S := S) (f := lcF C [.v d0, .o (.lst (l.map Zbq)), .v (.int (i : Nat)), .no] [3] (.nm 3) none (.call "_law_tie" [(.sub (.val (.var 0)) (.var 2)), (.var 3)])) (fun d => match d with
    | .str y => Zbq (x, y)
    | d => d) (r.map .str) (fun d hd => by
     obtain ⟨y, hy, rfl⟩ := Qa2.mp hd
     have e := hC x y
     rw [Zl3 (upr.1 y hy)] at e
     rcases hd0 with rfl | rfl <;> simp -implicitDefEqProofs [hat, e]) (sz (by rw [Qal]; omega))
  rw [Qbm] at g
  have fc : ((fun d => match d with
    | D.str y => Zbq (x, y)
    | d => d) ∘ D.str) = Zbq ∘ fun y => (x, y) := rfl
  rw [fc, <- Qbm] at g
  obtain ⟨xs, hxs⟩ : ∃ xs, xs = r.map fun y => (x, y) := ⟨_, rfl⟩
  rw [<- hxs] at g ih
  have lx : xs.length = r.length := by rw [hxs, Qal]
  have mu : Zj9 .extend (.lst (l.map Zbq)) (Znb .extend S [.wl (xs.map Zbq)]) = some (.lst ((l ++ xs).map Zbq)) := by
   simp only [Zgn, Qaj, List.map_nil, Zp1, Zm4, Qal, lx, Qan z1, List.map_append]
  rw [List.zipIdx_cons, Qaj, Zet]
  have st : Zg5 C (.nm 2) K02.Za4 (.int ((0 : Int) + (i : Nat))) [.v d0, .o (.lst (l.map Zbq)), .no, .no] S = .ok (.nx [.v d0, .o (.lst ((l ++ xs).map Zbq)), .no, .no]) S := by
   rw [Int.zero_add]
   show Zae C K02.Za4 [.v d0, .o (.lst (l.map Zbq)), .v (.int (i : Nat)), .no] S = _
   rw [K02.Za4, Zbn, Zly (ob := .lst (l.map Zbq)) rfl rfl]
   rcases hd0 with rfl | rfl <;>
   simp -implicitDefEqProofs only [Zlu, Zpx, Zu9, Zva, Zzf, Z4h, Zls, List.getElem?_cons_zero, List.getElem?_cons_succ, Zs7, R.bind_ok, Zzc, Ztb, Zlt, Zhe, Zlr, Zhf, Zp0, Zzs, R.ofO_some, Zze, Zs8, Zta, Zs9, Zzq, Zp1, Zzy, Z43, cf, Z4k, Zp2, Ztk, Zgl, g, Zvb, Zpw, Zu8, Zpy, Zlv, Zcf, Zzn mu, Zbl, List.set_cons_zero, List.set_cons_succ, Zbn, Zzp, Zzj, Ziy, Zlw]
  rw [st, R.bind_ok]
  show Zet _ _ [.v d0, .o (.lst ((l ++ xs).map Zbq)), .no, .no] S = _
  rw [ih, hxs, Zav, List.append_assoc]
theorem Zm9 {Φ : Str -> Option Df} (hT : Φ "_law_tie" = some K02.Zao) (hC : Φ "_law_couples" = some K02.Za9) {k : Nat} {S : Store} {posts : List Str} {d0 : D} (hd0 : d0 = .tup (posts.map .str) \/ d0 = .wl (posts.map .str)) (up : UpS posts) (hp : posts.length <= 300) : call Φ (k + 2) "_law_couples" [d0] S = .ok (.wl ((Zav posts).map Zbq)) S := by
 have hl := Zc4 posts
 have h9 : posts.length * posts.length <= 300 * 300 := Nat.mul_le_mul hp hp
 have e := Zeo (C := call Φ (k + 1)) (S := S) (posts := posts) hd0 (fun x y => Zz8 hT (k := k)) up (by omega) posts 0 [] rfl (by simp only [List.length_nil]; omega)
 rw [List.map_nil, List.nil_append, <- Ztr] at e
 have hrg : Zc5 0 (posts.length : Int) = some (Zbk 0 posts.length) := by
  rw [Zc3 (by omega)]; simp
 rw [Zap hC rfl]
 show Zpv (Zae (call Φ (k + 1)) K02.Zea [.v d0, .no, .no, .no] S) = _
 have s0 : Zae (call Φ (k + 1)) (.new 1 (.lst [])) [.v d0, .no, .no, .no] S = .ok (.nx [.v d0, .o (.lst []), .no, .no]) S := by simp
 have s1 : Zae (call Φ (k + 1)) (.for_ (.nm 2) (.rng1 (.blt .len [(.val (.var 0))])) K02.Za4) [.v d0, .o (.lst []), .no, .no] S = .ok (.nx [.v d0, .o (.lst ((Zav posts).map Zbq)), .no, .no]) S := by
  rw [Zvc]
  have it : evi (call Φ (k + 1)) (.rng1 (.blt .len [(.val (.var 0))])) [.v d0, .o (.lst []), .no, .no] S = .ok (Zbk 0 posts.length) S := by
   rcases hd0 with rfl | rfl <;> simp -implicitDefEqProofs [hrg]
  rw [it, Zcf, R.bind_ok, Zeb, e]
 rw [K02.Zea, Zbn, s0, R.bind_ok, Zbl, Zbn, s1, R.bind_ok, Zbl, Zbn, Zzo (ob := .lst ((Zav posts).map Zbq)) rfl, R.bind_ok, Zbl]
 simp -implicitDefEqProofs
theorem Zi2 : ∀ {l : List Str}, UpS l -> UpP (Zav l)
 | [], _ => List.Pairwise.nil
 | x :: r, h => by
  have h0 := Qa9.mp h
  rw [Zav]
  refine List.pairwise_append.mpr ⟨?_, Zi2 h0.2, fun a ha b hb => ?_⟩
  ·refine List.Pairwise.map _ (fun a b hab => ?_) h0.2
   unfold Zch
   rw [Qan rfl]
   exact hab
  ·obtain ⟨y, hy, rfl⟩ := Qa2.mp ha
   have m := (Zbs h0.2 (a := b.1) (b := b.2)).mp hb
   have lt := h0.1 b.1 m.1
   unfold Zch
   rw [Qat (Ze1 lt)]
   exact lt
section
variable {Φ : Str -> Option Df} (hD : Φ "_law_draw" = some K02.Zau) (hT : Φ "_law_tie" = some K02.Zao) (hC : Φ "_law_couples" = some K02.Za9) (hW : Φ "_law_web" = some K02.Zdd)
include hD hT hC hW
theorem Zz9 (t : Tk) (l : List O) {k : Nat} {ss : List Str} (nd : ss.Nodup) (hl : ss.length <= 150) : ∃ w t', call Φ (k + 3) "_law_web" [.ref 0, .wl (ss.map .str)] (SD t l) = .ok (mkW w) (SD t' l) /\ w.P = Zaj ss /\ Wf w := by
 obtain ⟨m, t1, e1, m0, m1⟩ := Zbe hD t l (k := k + 1) (n := 5) (by omega) (by omega)
 have up := Zgq nd
 have ln : (Zaj ss).length <= 150 := by rw [(Zaz ss).length_eq]; exact hl
 have e2 := Zm9 hT hC (k := k) (S := SD t1 l) (posts := Zaj ss) (.inr rfl) up (by omega)
 have pl := Zc4 (Zaj ss)
 have pl2 : (Zaj ss).length * (Zaj ss).length <= 150 * 150 := Nat.mul_le_mul ln ln
 have w : (lcL (lcF (call Φ (k + 2)) [.v (.ref 0), .v (.wl (ss.map .str)), .no, .v (.wl ((Zaj ss).map .str)), .v (.int m), .no] [5] (.nm 5) (some (.cmp .Lt (.val (.call "_law_draw" [(.var 0), (.cst (.int 4))])) (.val (.var 4)))) (.var 5)) ((Zav (Zaj ss)).map Zbq) [] (SD t1 l)).wp
   (fun acc S' => ∃ (T : List (Str × Str)) (t' : Tk), acc = T.map Zbq /\ S' = SD t' l /\ T.Sublist (Zav (Zaj ss))) no := by
  refine Ziz (fun rest acc S' => ∃ (A B R : List (Str × Str)) (t' : Tk), rest = R.map Zbq /\ acc = A.map Zbq /\ S' = SD t' l /\ A.Sublist B /\ B ++ R = Zav (Zaj ss)) _ _ _ ⟨[], [], _, t1, rfl, rfl, rfl, .slnil, rfl⟩ ?_ ?_
  ·rintro d rest acc S' ⟨A, B, R, t2, er, rfl, rfl, sb, eb⟩
   cases R with
   | nil => simp at er
   | cons r R =>
    simp only [Qaj, List.cons.injEq] at er
    obtain ⟨rfl, rfl⟩ := er
    obtain ⟨j, t3, e3, _, _⟩ := Zbe hD t2 l (k := k + 1) (n := 4) (by omega) (by omega)
    have lB : B.length <= (Zav (Zaj ss)).length := by rw [<- eb]; simp
    have lA := sb.length_le
    by_cases c : j < m
    ·refine My.R.to (a := some (Zbq r)) (S := SD t3 l) (by simp [e3, c]) ⟨?_, A ++ [r], B ++ [r], R, t3, rfl, by simp, rfl, sb.append (List.Sublist.refl _), by simp [eb]⟩
     rw [Qal]
     exact Qa4 (show A.length < 100000 by omega) (sz (by omega))
    ·exact My.R.to (a := none) (S := SD t3 l) (by simp [e3, c]) ⟨A, B ++ [r], R, t3, rfl, rfl, rfl, sb.trans (List.sublist_append_left _ _), by simp [eb]⟩
  ·rintro acc S' ⟨A, B, R, t2, er, rfl, rfl, sb, eb⟩
   cases R with
   | cons r R => simp at er
   | nil => exact ⟨A, t2, rfl, rfl, by rw [<- eb]; simpa using sb⟩
 obtain ⟨_, _, e4, T, t4, rfl, rfl, sb⟩ := R.out w
 refine ⟨⟨Zaj ss, T⟩, t4, ?_, rfl, up, (Zi2 up).sublist sb, fun q hq => Zqf up q (sb.subset hq), fun q hq => ?_⟩
 ·rw [Zap hW rfl]
  have so := Zdh ss
  simp -implicitDefEqProofs [K02.Zdd, K02.Zu4, so, e1, e2, Zgl, e4]
  rfl
 ·have := (Zbs up (a := q.1) (b := q.2)).mp (sb.subset hq)
  exact ⟨this.1, this.2.1⟩
end
def SpI (ss : List Str) (i : Nat) : Prop := ∀ j z, j < i -> Zca[j]? = some z -> z ∈ ss
theorem Z5k {α : Type} [DecidableEq α] : ∀ {l m : List α}, l.Nodup -> (∀ x ∈ l, x ∈ m) -> l.length <= m.length
 | [], _, _, _ => Qax _
 | a :: l, m, n, h => by
  have n1 := List.nodup_cons.mp n
  have ha := h a Qag
  have ih := Z5k (l := l) (m := m.erase a) n1.2 fun x hx => (List.mem_erase_of_ne (fun e => n1.1 (by rw [<- e]; exact hx))).mpr (h x (Qae _ hx))
  have := List.length_erase_of_mem ha
  have : 0 < m.length := List.length_pos_of_mem ha
  rw [Qai]
  omega
theorem SpI.le {ss : List Str} {i : Nat} (h : SpI ss i) (hl : ss.length < 676) : i <= ss.length := by
 have t : (Zca.take i).length <= ss.length := Z5k (List.Nodup.sublist (List.take_sublist ..) Zl1) fun x hx => by
  obtain ⟨j, hj, e⟩ := List.mem_iff_getElem.mp hx
  rw [List.length_take] at hj
  refine h j x (by omega) ?_
  rw [<- e, List.getElem_take]
  exact Qa8 (by omega)
 rw [List.length_take, Zp4] at t
 omega
section
variable {C : Cl} {ss : List Str} {n : Int} {x4 x10 : Sl} {way place : Int} {base : Str}
theorem Zna {i : Nat} {z : Str} {S : Store} (hz : Nm z) (hi : SpI ss i) (hl : ss.length <= 100) :
  (Zae C (.whl 700 (.cmp .In (.val (.var 11)) (.own 9)) K02.Zde) (rho n x4 way base place i ss x10 (.v (.str z))) S).wp
   (fun fl S' => S' = S /\ ∃ i' z', fl = .nx (rho n x4 way base place i' ss x10 (.v (.str z'))) /\ Nm z' /\ z' ∉ ss /\ SpI (ss ++ [z']) i') no := by
 rw [Z4v]
 refine Zj3 (fun m ρ S' => S' = S /\ ∃ i' z', ρ = rho n x4 way base place i' ss x10 (.v (.str z')) /\ Nm z' /\ m = mu ss z' i' /\ SpI (ss ++ [z']) i') 700 (mu ss z i) _ _ ?_ ⟨rfl, i, z, rfl, hz, rfl, fun j y h e => Qa7 _ (hi j y h e)⟩ ?_
 ·unfold mu
  have := Z5b ss i
  split <;> omega
 ·rintro m _ S' ⟨rfl, i', z', rfl, hz', rfl, hb⟩
  refine R.to (a := .bl (decide (z' ∈ ss))) (S := S') (by simp [rho, Zb9]) ?_
  by_cases c : z' ∈ ss
  ·simp only [c, decide_true]
   have hm : mu ss z' i' = cnt ss i' + 1 := Qan c
   have hs : SpI ss i' := fun j y h e => by
    rcases Qbh.mp (hb j y h e) with q | q
    ·exact q
    ·rw [Qbe.mp q]; exact c
   have le := hs.le (by omega)
   have li : i' < 676 := by omega
   have sa := Ztl li
   refine R.to (a := .nx (rho n x4 way base place (i' + 1) ss x10 (.v (.str ⟨#[97 + i' / 26, 97 + i' % 26]⟩)))) (S := S') ?_ ?_
   ·simp -implicitDefEqProofs [K02.Zde, rho, Zhi (show (0 : Int) <= (i' : Int) by omega), sa]
   ·have lt : mu ss ⟨#[97 + i' / 26, 97 + i' % 26]⟩ (i' + 1) < mu ss z' i' := by
     rw [hm]
     unfold mu
     split
     ·rename_i c2
      have := Z5c sa c2
      omega
     ·omega
    refine ⟨mu ss ⟨#[97 + i' / 26, 97 + i' % 26]⟩ (i' + 1), lt, rfl, i' + 1, _, rfl, Ztm (Qbi sa), rfl, fun j y h e => ?_⟩
    by_cases ej : j = i'
    ·subst ej
     rw [sa] at e
     rw [<- Option.some.inj e]
     exact Qbf _ (Qbe.mpr rfl)
    ·exact Qa7 _ (hs j y (by omega) e)
  ·simp only [c, decide_false]
   exact ⟨trivial, i', z', rfl, hz', c, hb⟩
end
section
variable {Φ : Str -> Option Df} (hD : Φ "_law_draw" = some K02.Zau) (hN : Φ "_law_name" = some K02.Zbp) {k : Nat} {ss : List Str} {n : Int} {x4 x10 x11 : Sl} {way place : Int} {base : Str} {i : Nat}
include hD hN
theorem Ztw (t : Tk) (l : List O) (hb : Bs base) (hp : 0 <= place /\ place < 8) (hi : SpI ss i) (hl : ss.length <= 100) :
  (Zae (call Φ (k + 2)) K02.Zcc (rho n x4 way base place i ss x10 x11) (SD t l)).wp (fun fl S' => ∃ i' z t', fl = .nx (rho n x4 way base place i' (ss ++ [z]) .no .no) /\ S' = SD t' l /\ Nm z /\ z ∉ ss /\ SpI (ss ++ [z]) i') no := by
 have hbl : base.length <= sizeLine := sz (by have := hb.1; omega)
 have hbc : base.cps.toList.length = 8 := by rw [<- Zcg]; exact hb.1
 obtain ⟨kd, t1, e1⟩ : ∃ kd t1, ev (call Φ (k + 2)) (.ife (.cmp .Eq (.val (.var 5)) (.val (.cst (.int 3)))) (.call "_law_draw" [(.var 0), (.cst (.int 3))]) (.var 5)) (rho n x4 way base place i ss x10 x11) (SD t l) = .ok (.int kd) (SD t1 l) := by
  by_cases c : way = 3
  ·obtain ⟨j, t1, e1, j0, j1⟩ := Zbe hD t l (k := k + 1) (n := 3) (by omega) (by omega)
   exact ⟨j, t1, by simp [rho, c, e1]⟩
  ·exact ⟨way, t, by simp [rho, c]⟩
 obtain ⟨z, t2, hz, e2⟩ : ∃ z t2, Nm z /\ ∀ b, Zae (call Φ (k + 2)) (.seq (.ife (.cmp .Eq (.val (.var 10)) (.val (.cst (.int 0)))) (.seq (.asg (.nm 11) (.call "_law_name" [(.var 0)]))
   .skip) (.seq (.ife (.cmp .Eq (.val (.var 10)) (.val (.cst (.int 1)))) (.seq (.asg (.nm 11) (.bin .Add (.bin .Add (.slc (.var 6) none (some (.var 7))) (.sub (.val (.var 2)) (.call "_law_draw" [(.var 0), (.cst (.int 26))]))) (.slc (.var 6) (some (.bin .Add (.var 7) (.cst (.int 1)))) none)))
   .skip) (.seq (.asg (.nm 11) (.slc (.var 6) none (some (.bin .Add (.cst (.int 1)) (.call "_law_draw" [(.var 0), (.cst (.int 8))])))))
   .skip))
   .skip)) b) (rho n x4 way base place i ss (.v (.int kd)) x11) (SD t1 l) = Zae (call Φ (k + 2)) b (rho n x4 way base place i ss (.v (.int kd)) (.v (.str z))) (SD t2 l) := by
  by_cases h0 : kd = 0
  ·obtain ⟨z, t2, e2, hz⟩ := Zp7 hD hN t1 l (k := k)
   exact ⟨z, t2, hz, fun b => by simp [rho, h0, e2]⟩
  ·by_cases h1 : kd = 1
   ·obtain ⟨j, t2, e2, j0, j1⟩ := Zbe hD t1 l (k := k + 1) (n := 26) (by omega) (by omega)
    have l1 : (⟨(base.cps.toList.take place.toNat).toArray⟩ : Str).length = place.toNat := by rw [Zgo, List.length_take]; omega
    have l2 : (⟨#[97 + j.toNat]⟩ : Str).length = 1 := rfl
    have l3 : (⟨(base.cps.toList.drop (place + 1).toNat).toArray⟩ : Str).length = 8 - (place + 1).toNat := by rw [Zgo, List.length_drop, hbc]
    refine ⟨(⟨(base.cps.toList.take place.toNat).toArray⟩ ++ ⟨#[97 + j.toNat]⟩) ++ ⟨(base.cps.toList.drop (place + 1).toNat).toArray⟩, t2, ⟨by rw [Zec, Zec, l1, l2, l3]; omega, by rw [Zec, Zec, l1, l2, l3]; omega, ?_⟩, fun b => ?_⟩
    ·refine ((hb.2.sub fun c hc => Qbj hc).app fun c hc => ?_).app (hb.2.sub fun c hc => List.mem_of_mem_drop hc)
     simp at hc; subst hc; unfold Lt; omega
    ·have c1 : place.toNat + 1 <= sizeLine := sz (by omega)
     have c2 : place.toNat + 1 + (8 - (place + 1).toNat) <= sizeLine := sz (by omega)
     simp only [rho]
     simp [h1, hbl, Zd0 _ hp.1, e2, Zhn j0 j1, Zlz _ (show 0 <= place + 1 by omega), l1, l2, l3, c1, c2, Zec, -Zhj]
   ·obtain ⟨j, t2, e2, j0, j1⟩ := Zbe hD t1 l (k := k + 1) (n := 8) (by omega) (by omega)
    refine ⟨⟨(base.cps.toList.take (1 + j).toNat).toArray⟩, t2, ⟨by rw [Zgo, List.length_take]; omega, by rw [Zgo, List.length_take]; omega, hb.2.sub fun c hc => Qbj hc⟩, fun b => ?_⟩
    simp [rho, h0, h1, hbl, e2, Zd0 _ (show 0 <= 1 + j by omega)]
 obtain ⟨_, _, e3, rfl, i', z', rfl, hz', nz, hi'⟩ := R.out (Zna (C := call Φ (k + 2)) (ss := ss) (n := n) (x4 := x4) (x10 := .v (.int kd)) (way := way) (place := place) (base := base) (i := i) (S := SD t2 l) hz hi hl)
 have ls : (ss.map D.str).length < sizeLine := by rw [Qal]; exact Qa4 (by omega) (sz (n := 101) (by omega))
 refine R.to (a := .nx (rho n x4 way base place i' (ss ++ [z']) .no .no)) (S := SD t2 l) ?_ ⟨i', z', t2, rfl, rfl, hz', nz, hi'⟩
 rw [K02.Zcc, Zbn, Zgm, e1, Zcf, R.bind_ok, Zhg, R.bind_ok, Zbl]
 have e2' : List.set (rho n x4 way base place i ss x10 x11) 10 (.v (D.int kd)) = rho n x4 way base place i ss (.v (.int kd)) x11 := rfl
 rw [e2', e2, Zbn, e3, R.bind_ok, Zbl, Zbn, Zly (ob := .lst (ss.map .str)) rfl rfl]
 simp only [Qal] at ls
 simp [rho, Zlx, ls]
end
section
variable {Φ : Str -> Option Df} (hD : Φ "_law_draw" = some K02.Zau) (hN : Φ "_law_name" = some K02.Zbp) (hNs : Φ "_law_names" = some K02.Zb7)
include hD hN hNs
theorem Zqg (t : Tk) (l : List O) {k : Nat} {n : Int} (h0 : 0 <= n) (h1 : n <= 100) : ∃ (ss : List Str) (t' : Tk), call Φ (k + 3) "_law_names" [.ref 0, .int n] (SD t l) = .ok (.wl (ss.map .str)) (SD t' l) /\ ss.length = n.toNat /\ ss.Nodup /\ ∀ s ∈ ss, Nm s := by
 obtain ⟨way, t1, e1, w0, w1⟩ := Zbe hD t l (k := k + 1) (n := 4) (by omega) (by omega)
 obtain ⟨z, t2, e2, hz⟩ := Zp7 hD hN t1 l (k := k)
 obtain ⟨place, t3, e3, p0, p1⟩ := Zbe hD t2 l (k := k + 1) (n := 8) (by omega) (by omega)
 have hzl := hz.1
 have hzl2 := hz.2.1
 have lm : (Zbh z 8).length <= sizeLine := by
  refine sz ?_
  rw [Zcg, Zgp]; omega
 have hb : Bs ⟨((Zbh z 8).cps.toList.take 8).toArray⟩ := by
  refine ⟨by rw [Zgo, List.length_take, Zgp]; omega, fun c hc => Zm5 hz.2.2 8 c (Qbj (by simpa using hc))⟩
 have hrg : Zc5 0 n = some (Zbk 0 n.toNat) := by
  rw [Zc3 (by omega)]; simp
 have st := Ztn (C := call Φ (k + 2)) (n := n) (S := SD t l)
 have w : (Zet (Zg5 (call Φ (k + 2)) (.nm 4) K02.Zcc) (Zbk 0 n.toNat) (rho n .no way ⟨((Zbh z 8).cps.toList.take 8).toArray⟩ place 0 [] .no .no) (SD t3 l)).wp
   (fun fl S' => ∃ i x4 ss t', fl = .nx (rho n x4 way ⟨((Zbh z 8).cps.toList.take 8).toArray⟩ place i ss .no .no) /\ S' = SD t' l /\ ss.Nodup /\ (∀ s ∈ ss, Nm s) /\ ss.length = n.toNat) no := by
  refine Zfo (fun rest ρ S' => ∃ i x4 ss t', ρ = rho n x4 way ⟨((Zbh z 8).cps.toList.take 8).toArray⟩ place i ss .no .no /\ S' = SD t' l /\ ss.Nodup /\ (∀ s ∈ ss, Nm s) /\ ss.length + rest.length = n.toNat /\ SpI ss i) _ _ _
   ⟨0, .no, [], t3, rfl, rfl, List.nodup_nil, by simp, by simp [Zi0], fun j z h => absurd h (Nat.not_lt_zero j)⟩ ?_ ?_
  ·rintro d rest ρ S' ⟨i, x4, ss, t4, rfl, rfl, nd, hs, hl, hi⟩
   rw [Zzm]
   rw [show List.set (rho n x4 way ⟨((Zbh z 8).cps.toList.take 8).toArray⟩ place i ss .no .no) 4 (.v d) = rho n (.v d) way ⟨((Zbh z 8).cps.toList.take 8).toArray⟩ place i ss .no .no from rfl]
   simp only [Qai] at hl
   refine R.wp_mono (Ztw hD hN (k := k) t4 l hb ⟨p0, p1⟩ hi (by omega)) ?_ (fun _ _ z => z)
   rintro fl S4 ⟨i', z', t5, rfl, rfl, hz', nz, hi'⟩
   refine ⟨i', .v d, ss ++ [z'], t5, rfl, rfl, ?_, ?_, ?_, ?_⟩
   ·rw [List.nodup_append]
    exact ⟨nd, by simp, fun a ha b hb => by simp at hb; subst hb; rintro rfl; exact nz ha⟩
   ·intro s hs'
    rcases Qbh.mp hs' with c | c
    ·exact hs s c
    ·rw [Qbe.mp c]; exact hz'
   ·simp; omega
   ·exact hi'
  ·rintro ρ S' ⟨i, x4, ss, t4, rfl, rfl, nd, hs, hl, hi⟩
   exact ⟨i, x4, ss, t4, rfl, rfl, nd, hs, by simpa using hl⟩
 obtain ⟨_, _, e4, i, x4, ss, t4, rfl, rfl, nd, hs, hl⟩ := R.out w
 refine ⟨ss, t4, ?_, hl, nd, hs⟩
 rw [Zap hNs rfl]
 show Zpv (Zae (call Φ (k + 2)) K02.Zg9 [.v (.ref 0), .v (.int n), .no, .no, .no, .no, .no, .no, .no, .no, .no, .no] (SD t l)) = _
 rw [K02.Zg9, Zbn, Zgm, Zlr, Zcf, R.bind_ok, Zhg, R.bind_ok, Zbl, Zbn, Zgm]
 rw [show (List.set [Sl.v (D.ref 0), .v (.int n), .no, .no, .no, .no, .no, .no, .no, .no, .no, .no] 2 (.v (.str "abcdefghijklmnopqrstuvwxyz")) : Ev) = [.v (.ref 0), .v (.int n), .v (.str abc), .no, .no, .no, .no, .no, .no, .no, .no, .no] from rfl, st]
 simp only [rho, List.map_nil, show ((0 : Nat) : Int) = 0 from rfl] at e4
 have q1 : (2 : Int) <= 8 /\ (8 : Int) <= 64 /\ 0 < z.length /\ z.length <= 1000 := ⟨by omega, by omega, by omega, by omega⟩
 simp -implicitDefEqProofs [e1, e2, e3, q1, lm, Zd0, hrg, Zeb, e4, Zzo]
end
theorem Wf.ly {w : Web} (h : Wf w) (l : ∀ z ∈ w.P, Ly z) : LyW w := ⟨l, fun p hp => ⟨l _ (h.on p hp).1, l _ (h.on p hp).2⟩⟩
structure Gw (w : Web) : Prop extends Sm w where
 ly : ∀ z ∈ w.P, Ly z
theorem Gw.lyw {w : Web} (h : Gw w) : LyW w := h.toWf.ly h.ly
end My
namespace My
section
variable {C : Cl} {ρ : Ev} {S : Store}
noncomputable def Yb1 (C : Cl) (j : Nat) (f : Uf) (es : List ME) (ρ : Ev) (S : Store) : Option Sl -> RS
 | some (.o ob) => if Zi9 f ob = true then ((evs C es ρ S).mapE (bx ρ)).bind (Zlx j f ob ρ) else .bad
 | _ => .bad
@[simp] theorem Yb2 (j : Nat) (f : Uf) (es : List ME) : Zae C (.mut j f es) ρ S = Yb1 C j f es ρ S ρ[j]? := by
 simp only [Zae]
 unfold Yb1
 cases ρ[j]? with
 | none => rfl
 | some x => cases x <;> rfl
@[simp] theorem Ye4 (j : Nat) (f : Uf) (es : List ME) (ob : O) : Yb1 C j f es ρ S (some (.o ob)) = if Zi9 f ob = true then ((evs C es ρ S).mapE (bx ρ)).bind (Zlx j f ob ρ) else .bad := rfl
@[simp] theorem Z8c (j : Nat) (ys : List D) (x : D) : Zlx j .append (.lst ys) ρ [x] S = if ys.length < PySem.sizeLine then .ok (.nx (ρ.set j (.o (.lst (ys ++ [x]))))) S else .bad := by
 unfold Zlx
 rw [Zm2, Zm3]
 by_cases h : ys.length < PySem.sizeLine <;> simp [h]
@[simp] theorem Z8d (j : Nat) (ys : List D) (x : D) : Zlx j .extend (.lst ys) ρ [x] S = match rdS S x with
  | .wl zs => if ys.length + zs.length <= PySem.sizeLine then .ok (.nx (ρ.set j (.o (.lst (ys ++ zs))))) S else .bad
  | _ => .bad := by
 unfold Zlx
 rw [Zgn]
 simp only [Qaj, List.map_nil]
 cases rdS S x <;> simp only [Zj9]
 split <;> simp_all
noncomputable def aFz (j : Nat) (ρ : Ev) (S : Store) : Option Sl -> RS
 | some (.o ob) => .ok (.nx (ρ.set j (.v ob.rd))) S
 | _ => .bad
@[simp] theorem Ye5 (j : Nat) : Zae C (.fz j) ρ S = aFz j ρ S ρ[j]? := by
 simp only [Zae]
 unfold aFz
 cases ρ[j]? with
 | none => rfl
 | some x => cases x <;> rfl
@[simp] theorem Yg0 (j : Nat) (ob : O) : aFz j ρ S (some (.o ob)) = .ok (.nx (ρ.set j (.v ob.rd))) S := rfl
@[simp] theorem Z8e (j : Nat) (ys : List D) (i : Int) (x : D) : Zlx j .insert (.lst ys) ρ [.int i, x] S = if ys.length < PySem.sizeLine /\ 0 <= i /\ i < 2 ^ 63 then .ok (.nx (ρ.set j (.o (.lst (ys.take i.toNat ++ [x] ++ ys.drop i.toNat))))) S else .bad := by
 have e : Znb .insert S [.int i, x] = [.int i, x] := rfl
 unfold Zlx
 rw [e]
 simp only [Zj9]
 split <;> simp_all
@[simp] theorem Z5l (xs : List D) : Zi9 .insert (.lst xs) = true := rfl
noncomputable def Z5m (c : PySem.Str) (fs : List PySem.Str) (ρ : Ev) : List D -> Store -> RS := fun xs S => if xs.length = fs.length then .exc (⟨c, (fs.zip xs).reverse⟩, ρ) S else .bad
@[simp] theorem Yb3 (c : PySem.Str) (fs : List PySem.Str) (es : List ME) : Zae C (.rais c fs es) ρ S = ((evs C es ρ S).mapE (bx ρ)).bind (Z5m c fs ρ) := by
 simp only [Zae]; rfl
theorem Ztx (c : PySem.Str) {fs : List PySem.Str} {xs : List D} (h : xs.length = fs.length) : Z5m c fs ρ xs S = .exc (⟨c, (fs.zip xs).reverse⟩, ρ) S := Qan h
noncomputable def trR (hs : List Hd) : RS -> RS
 | .ok fl S => .ok fl S
 | .bad => .bad
 | .exc x S => match Znk x.1.c hs with
  | none => .exc x S
  | some h => match (evh x.1.fs h.e).bind fun d => (Zhz h x.2 d) with
   | some ρ' => .ok (.nx ρ') S
   | none => .bad
@[simp] theorem Yg1 (b : MS) (hs : List Hd) : Zae C (.tr b hs) ρ S = trR hs (Zae C b ρ S) := by
 simp only [Zae]
 unfold trR
 cases Zae C b ρ S <;> rfl
@[simp] theorem Ye6 (hs : List Hd) (fl : Fl) : trR hs (.ok fl S) = .ok fl S := rfl
theorem Z0a {hs : List Hd} {x : Xn × Ev} {h : Hd} {d : D} {ρ' : Ev} (h1 : Znk x.1.c hs = some h) (h2 : evh x.1.fs h.e = some d) (h3 : Zhz h x.2 d = some ρ') : trR hs (.exc x S) = .ok (.nx ρ') S := by
 simp only [trR, h1, h2, Option.bind_some, h3]
noncomputable def kDo : List (L2.Key × D) -> Store -> R Xn O := fun kvs S => .ok (.dK kvs) S
noncomputable def kDc (C : Cl) (ρ : Ev) (vs : List Nat) (t : MT) (c : Option ME) (k m : ME) : List D -> Store -> R Xn O := fun ds S => (dcL (dcF C ρ vs t c k m) ds [] S).bind kDo
@[simp] theorem Ye7 (vs : List Nat) (t : MT) (it : MI) (c : Option ME) (k m : ME) : evO C (.dc vs t it c k m) ρ S = (evi C it ρ S).bind (kDc C ρ vs t c k m) := by
 rw [Z2c]; rfl
@[simp] theorem Ye8 (kvs : List (L2.Key × D)) : kDo kvs S = .ok (.dK kvs) S := rfl
noncomputable def Ye9 : List (PySem.NestedKey × D) -> Store -> R Xn O := fun kvs S => .ok (.dT kvs) S
noncomputable def Yg2 (C : Cl) (ρ : Ev) (vs : List Nat) (t : MT) (c : Option ME) (k m : ME) : List D -> Store -> R Xn O := fun ds S => (Zkb (dcF C ρ vs t c k m) ds [] S).bind Ye9
@[simp] theorem Yb4 (vs : List Nat) (t : MT) (it : MI) (c : Option ME) (k m : ME) : evO C (.dcT vs t it c k m) ρ S = (evi C it ρ S).bind (Yg2 C ρ vs t c k m) := by
 rw [Zuu]; rfl
@[simp] theorem Yb5 (kvs : List (PySem.NestedKey × D)) : Ye9 kvs S = .ok (.dT kvs) S := rfl
noncomputable def Yg3 (C : Cl) (vs : List Nat) (t : MT) (c : Option ME) (vs1 : List Nat) (t1 : MT) (it1 : MI) (c1 : Option ME) (e : ME) (ρ : Ev) : List D -> Store -> R Xn O := fun ds S => (lcA (Z2x C ρ vs t c vs1 t1 it1 c1 e) ds [] S).bind kLo
@[simp] theorem Yb6 (vs vs1 : List Nat) (t t1 : MT) (it it1 : MI) (c c1 : Option ME) (m : ME) : evO C (.lc2 vs t it c vs1 t1 it1 c1 m) ρ S = (evi C it ρ S).bind (Yg3 C vs t c vs1 t1 it1 c1 m ρ) := by
 rw [Zut]; rfl
noncomputable def Zvh : D -> Store -> R Xn O := fun x S => R.ofO S (Zka (rdS S x))
@[simp] theorem Z5n (a : MR) : evO C (.lkeys a) ρ S = (evr C a ρ S).bind Zvh := by
 simp only [evO]; rfl
@[simp] theorem Z5o (x : D) : Zvh x S = R.ofO S (Zka (rdS S x)) := rfl
@[simp] theorem Z8f (kvs : List (PySem.NestedKey × D)) : Zka (.wT kvs) = some (.lst (kvs.map fun p => Zq0 p.1)) := rfl
end
end My
namespace My
open PySem (Str PyData NestedKey sizeLine)
theorem Zl4 {α β : Type} {f : D -> Store -> R Xn (Option D)} {S : Store} (mk : α -> D) (mk2 : β -> D) (g : α -> Option β) : ∀ (xs : List α) (acc : List β), (∀ x ∈ xs, f (mk x) S = .ok ((g x).map mk2) S) -> acc.length + xs.length <= sizeLine -> lcL f (xs.map mk) (acc.map mk2) S = .ok ((acc ++ xs.filterMap g).map mk2) S
 | [], acc, _, _ => by rw [List.map_nil, lcL]; simp
 | x :: xs, acc, h, hl => by
  have hx := h x Qag
  simp only [Qai] at hl
  rw [Qaj, lcL, hx, List.filterMap_cons]
  cases e : g x with
  | none =>
   show lcL f (xs.map mk) (acc.map mk2) S = _
   exact Zl4 mk mk2 g xs acc (fun y hy => h y (Qae _ hy)) (by omega)
  | some y =>
   show (if (acc.map mk2).length < sizeLine then lcL f (xs.map mk) (acc.map mk2 ++ [mk2 y]) S else .bad) = _
   rw [Qan (by rw [Qal]; omega)]
   have := Zl4 mk mk2 g xs (acc ++ [y]) (fun z hz => h z (Qae _ hz)) (by rw [Qbd]; simp; omega)
   rw [List.map_append, List.map_singleton] at this
   rw [this]
   simp
theorem Z5p {α : Type} {f : D -> Store -> R Xn (Option D)} {S : Store} (mk : α -> D) (c : α -> Bool) (xs : List α) (h : ∀ x ∈ xs, f (mk x) S = .ok (if c x = true then some (mk x) else none) S) (hl : xs.length <= sizeLine) : lcL f (xs.map mk) [] S = .ok ((xs.filter c).map mk) S := by
 have := Zl4 (f := f) (S := S) mk mk (fun x => if c x = true then some x else none) xs [] (fun x hx => by
  rw [h x hx]
  cases c x <;> rfl) (by simpa using hl)
 rw [List.map_nil, List.nil_append] at this
 rw [this]
 congr 2
 clear this h hl
 induction xs with
 | nil => rfl
 | cons x xs ih =>
  rw [List.filterMap_cons, List.filter_cons]
  cases c x with
  | true => simp [ih]
  | false => simp [ih]
def Yfa (p : Str) (T : List (Str × Str)) : List Str := T.filterMap fun t => if t.1 = p then some t.2 else if t.2 = p then some t.1 else none
theorem Zqh {p : Str} : ∀ {T : List (Str × Str)}, Zj6 T -> Yfa p T = frL p T
 | [], _ => rfl
 | t :: T, h => by
  have ih := Zqh (p := p) (T := T) fun q hq => h q (Qae _ hq)
  have lt := Ze1 (h t Qag)
  unfold Yfa frL at *
  rw [List.filterMap_cons, List.flatMap_cons, ih]
  unfold Zm6
  by_cases c : t.1 = p
  ·rw [Qan c, Qan c, Qat (fun e => lt (c.trans e.symm))]; rfl
  ·by_cases c2 : t.2 = p
   ·rw [Qat c, Qan c2, Qat c, Qan c2]; rfl
   ·rw [Qat c, Qat c2, Qat c, Qat c2]; rfl
theorem Z5q (p a b : Str) : Zhu (.str p) [.str a, .str b] = some (decide (p = a \/ p = b)) := by
 have := Zb9 p [a, b]
 rw [show ([a, b] : List Str).map D.str = [.str a, .str b] from rfl] at this
 rw [this]
 congr 1
 simp
theorem Z5r {p a b : Str} (h : p = a \/ p = b) : Zqr .indexT (.tup [.str a, .str b]) [.str p] = some (.int (if a = p then 0 else 1)) := by
 have e : Zqr .indexT (.tup [.str a, .str b]) [.str p] = if [a, b].findIdx (fun y => decide (y = p)) < [a, b].length then some (.int ([a, b].findIdx (fun y => decide (y = p)) : Nat)) else none := rfl
 rw [e]
 by_cases c : a = p
 ·simp [List.findIdx_cons, c]
 ·have c2 : b = p := (h.resolve_left fun z => c z.symm).symm
  simp [List.findIdx_cons, c, c2]
theorem Z0b {Φ : Str -> Option Df} (hN : Φ "_law_near" = some K02.Zcd) {k : Nat} {S : Store} {w : Web} (h : Zj6 w.T) (hl : w.T.length <= 100000) (p : Str) : call Φ (k + 1) "_law_near" [mkW w, .str p] S = .ok (.wl ((Zaj (frL p w.T)).map .str)) S := by
 have lc := Zl4 (f := lcF (call Φ k) [.v (mkW w), .v (.str p), .no] [2] (.nm 2) (some (.cmp .In (.val (.var 1)) (.val (.var 2)))) (.sub (.val (.var 2)) (.bin .Sub (.cst (.int 1)) (.mth .indexT (.val (.var 2)) [(.var 1)])))) (S := S) Zbq D.str (fun t => if t.1 = p then some t.2 else if t.2 = p then some t.1 else none) w.T [] (fun t ht => by
  obtain ⟨a, b⟩ := t
  have m := Z5q p a b
  show lcF _ _ _ _ _ _ (.tup [.str a, .str b]) S = .ok ((if a = p then some b else if b = p then some a else none : Option Str).map D.str) S
  by_cases c : a = p
  ·subst c
   have ix := Z5r (p := a) (a := a) (b := b) (.inl rfl)
   have at_ : L2.atI [D.str a, .str b] 1 = some (.str b) := rfl
   simp -implicitDefEqProofs [m, ix, at_, Zeq]
  ·by_cases c2 : b = p
   ·subst c2
    have ix := Z5r (p := b) (a := a) (b := b) (.inr rfl)
    have at_ : L2.atI [D.str a, .str b] 0 = some (.str a) := rfl
    simp -implicitDefEqProofs [m, ix, at_, c, Zeq]
   ·have c' : ¬ (p = a \/ p = b) := fun z => z.elim (fun e => c e.symm) (fun e => c2 e.symm)
    simp -implicitDefEqProofs [m, c, c2, c']) (by simpa using sz hl)
 rw [List.map_nil, List.nil_append] at lc
 have e : w.T.filterMap (fun t => if t.1 = p then some t.2 else if t.2 = p then some t.1 else none) = frL p w.T := Zqh h
 rw [e] at lc
 rw [Zap hN rfl]
 have so := Zdh (frL p w.T)
 have s1 : Zf0 (mkW w) (.int 1) = some (.tup (w.T.map Zbq)) := rfl
 have rd : ∀ S, rdS S (mkW w) = mkW w := fun _ => rfl
 generalize mkW w = d at lc s1 rd
 generalize w.T.map Zbq = q at lc s1
 generalize (frL p w.T).map D.str = q2 at lc so
 simp -implicitDefEqProofs [K02.Zcd, K02.Zpl, rd, s1, Zgl, O.rd, lc, so]
structure Gn (n : Nat) (w : Web) : Prop extends Wf w where
 sm : w.P.length <= n
 ly : ∀ z ∈ w.P, Ly z
theorem Gn.mono {n m : Nat} {w : Web} (h : Gn n w) (hn : n <= m) : Gn m w := ⟨h.toWf, Qaw h.sm hn, h.ly⟩
theorem Gw.gn {w : Web} (h : Gw w) : Gn 150 w := ⟨h.toWf, h.sm, h.ly⟩
mutual
def gD : D -> Prop
 | .non => True
 | .bl _ => True
 | .int i => (PyData.shown (.int i)).length <= 40 /\ PyData.showable (.int i) = true
 | .str z => ∀ c ∈ z.cps.toList, c < 128
 | .tup xs => gL xs
 | .wl xs => gL xs
 | .wd kvs => kvs = [] \/ kvs = [(.inr "a", .str "b")]
 | _ => False
def gL : List D -> Prop
 | [] => True
 | x :: xs => gD x /\ gL xs
end
mutual
def wD : D -> Nat
 | .str z => z.length
 | .tup xs => wL xs
 | .wl xs => wL xs
 | .wd kvs => 8 * kvs.length
 | _ => 0
def wL : List D -> Nat
 | [] => 0
 | x :: xs => wD x + 1 + wL xs
end
mutual
def dD : D -> Nat
 | .tup xs => dL xs + 1
 | .wl xs => dL xs + 1
 | .wd _ => 1
 | _ => 0
def dL : List D -> Nat
 | [] => 0
 | x :: xs => max (dD x) (dL xs)
end
theorem Zl5 : ∀ {xs : List D}, gL xs ↔ ∀ x ∈ xs, gD x
 | [] => by simp [gL]
 | x :: xs => by simp [gL, Zl5 (xs := xs)]
theorem Zty {n : Nat} : ∀ {xs : List D}, dL xs <= n ↔ ∀ x ∈ xs, dD x <= n
 | [] => by simp [dL]
 | x :: xs => by simp [dL, Zty (xs := xs), Nat.max_le]
structure Sg (x : D) (p : PyData) : Prop where
 a : p.showable = true
 b : p.leavesShort 40 = true
 c : p.bulk <= wD x
 d : p.depth <= dD x
theorem Zqi {f : D -> Option PyData} : ∀ {xs : List D}, (∀ x ∈ xs, ∃ p, f x = some p /\ Sg x p) -> ∃ ps, Zbv f xs = some ps /\ PyData.showableAll ps = true /\ PyData.leavesShortAll 40 ps = true /\ PyData.bulkAll ps <= wL xs /\ PyData.depthAll ps <= dL xs
 | [], _ => ⟨[], rfl, rfl, rfl, Qax _, Qax _⟩
 | x :: xs, h => by
  obtain ⟨p, e, q⟩ := h x Qag
  obtain ⟨ps, e2, q1, q2, q3, q4⟩ := Zqi fun x hx => h x (Qae _ hx)
  refine ⟨p :: ps, by simp [Zbv, e, e2], by simp [PyData.showableAll, q.a, q1], by simp [PyData.leavesShortAll, q.b, q2], ?_, ?_⟩
  ·have := q.c
   simp only [PyData.bulkAll, wL]
   omega
  ·have := q.d
   simp only [PyData.depthAll, dL]
   omega
theorem Z5s : ∀ (k : Nat) (x : D), gD x -> dD x <= k -> ∃ p, deep k x = some p /\ Sg x p := by
 intro k
 induction k with
 | zero =>
  intro x h hk
  cases x with
  | non => exact ⟨.none, rfl, rfl, rfl, Qax _, Qax _⟩
  | bl b => exact ⟨.bool b, rfl, rfl, rfl, Qax _, Qax _⟩
  | int i =>
   simp only [gD] at h
   exact ⟨.int i, rfl, h.2, by simpa [PyData.leavesShort] using h.1, by simp [PyData.bulk], by simp [PyData.depth]⟩
  | str z =>
   simp only [gD] at h
   exact ⟨.str z, rfl, by simp [PyData.showable], by
    simp only [PyData.leavesShort, Qap, Qab]
    intro c hc
    exact Nat.lt_trans (h c hc) (by decide), by simp [PyData.bulk, wD, PySem.Str.length], by simp [PyData.depth]⟩
  | tup xs => simp [dD] at hk
  | wl xs => simp [dD] at hk
  | wd xs => simp [dD] at hk
  | _ => simp [gD] at h
 | succ k ih =>
  intro x h hk
  cases x with
  | non => exact ⟨.none, rfl, rfl, rfl, Qax _, Qax _⟩
  | bl b => exact ⟨.bool b, rfl, rfl, rfl, Qax _, Qax _⟩
  | int i =>
   simp only [gD] at h
   exact ⟨.int i, rfl, h.2, by simpa [PyData.leavesShort] using h.1, by simp [PyData.bulk], by simp [PyData.depth]⟩
  | str z =>
   simp only [gD] at h
   exact ⟨.str z, rfl, by simp [PyData.showable], by
    simp only [PyData.leavesShort, Qap, Qab]
    intro c hc
    exact Nat.lt_trans (h c hc) (by decide), by simp [PyData.bulk, wD, PySem.Str.length], by simp [PyData.depth]⟩
  | tup xs =>
   simp only [gD, Zl5] at h
   simp only [dD] at hk
   have hk' := Zty.mp (show dL xs <= k by omega)
   obtain ⟨ps, e, q1, q2, q3, q4⟩ := Zqi (f := deep k) (xs := xs) fun x hx => ih x (h x hx) (hk' x hx)
   exact ⟨.tuple ps, by simp [deep, e], by simpa [PyData.showable] using q1, by simpa [PyData.leavesShort] using q2, by simpa only [PyData.bulk, wD] using q3, by simp only [PyData.depth, dD]; omega⟩
  | wl xs =>
   simp only [gD, Zl5] at h
   simp only [dD] at hk
   have hk' := Zty.mp (show dL xs <= k by omega)
   obtain ⟨ps, e, q1, q2, q3, q4⟩ := Zqi (f := deep k) (xs := xs) fun x hx => ih x (h x hx) (hk' x hx)
   exact ⟨.list ps, by simp [deep, e], by simpa [PyData.showable] using q1, by simpa [PyData.leavesShort] using q2, by simpa only [PyData.bulk, wD] using q3, by simp only [PyData.depth, dD]; omega⟩
  | wd kvs =>
   simp only [gD] at h
   rcases h with h | h
   ·subst h
    exact ⟨.dict [], rfl, rfl, rfl, Qax _, by simp [PyData.depth, PyData.depthKv, dD]⟩
   ·subst h
    refine ⟨.dict [(.str "a", .str "b")], by cases k <;> rfl, ⟨by decide +kernel, by decide +kernel, ?_, ?_⟩⟩
    ·show _ <= 8 * 1
     decide +kernel
    ·show _ <= 1
     decide +kernel
  | _ => simp [gD] at h
theorem Z5t {x : D} (h : gD x) (hd : dD x <= 12) (hw : wD x <= 390000) : ∃ z, Zgs x = some z := by
 obtain ⟨p, e, q⟩ := Z5s 12 x h hd
 refine ⟨p.shown, ?_⟩
 have l := PyData.shown_le_bulk 40 (by omega) p q.b
 have c := q.c
 have c2 := q.d
 unfold Zgs
 rw [show Zep = 12 from rfl, e]
 show (if p.showable = true /\ p.shown.length <= sizeLine /\ p.depth <= 60 then some p.shown else none) = _
 rw [Qan ⟨q.a, by rw [PySem.sizeLine_eq]; omega, by omega⟩]
theorem gD.isi {x : D} (h : gD x) : Zbj x = true := by
 cases x <;> first | rfl | simp [gD] at h
theorem gD.rd {x : D} {S : Store} (h : gD x) : rdS S x = x := by
 cases x <;> first | rfl | simp [gD] at h
@[simp] theorem Z8g (i j : Int) : Zft .max [.int i, .int j] = some (.int (if j > i then j else i)) := rfl
@[simp] theorem Z8h (i j : Int) : Zft .min [.int i, .int j] = some (.int (if j < i then j else i)) := rfl
@[simp] theorem Z8i (kvs : List (L2.Key × D)) : Zft .len [.wd kvs] = some (.int kvs.length) := rfl
@[simp] theorem Z8j (xs : List D) (n : Int) : Zht .Mult (.tup xs) (.int n) = if 0 <= n /\ n <= 1000 /\ xs.length <= 1000 then some (.tup (List.replicate n.toNat xs).flatten) else none := rfl
@[simp] theorem Z8k (xs : List D) (n : Int) : Zht .Mult (.wl xs) (.int n) = if 0 <= n /\ n <= 1000 /\ xs.length <= 1000 then some (.wl (List.replicate n.toNat xs).flatten) else none := rfl
@[simp] theorem Z5u (a b : Str) : Zqr .strip (.str a) [.str b] = if a.length <= sizeLine then some (.str (PySem.Txt.stripChars a b)) else none := rfl
@[simp] theorem Z5v (a : Str) : Zeq .strip (.str a) = true := rfl
@[simp] theorem Z8l (a : Str) : Zeq .partition (.str a) = true := rfl
@[simp] theorem Z5w (xs : List D) : Zeq .index (.wl xs) = true := rfl
end My
namespace My
open PySem (Str PyData NestedKey sizeLine)
def nmB (z : Str) : Bool := decide (1 <= z.length) && decide (z.length <= 8) && z.cps.toList.all fun c => decide (97 <= c) && decide (c <= 122)
def Z5x (r : List Str) : Prop := r.length = 10 /\ (∀ f < 10, (((r ++ r).drop f).take 10).Nodup) /\ ∀ z ∈ r, nmB z = true
instance (r : List Str) : Decidable (Z5x r) := by unfold Z5x; infer_instance
inductive Wish where
 | s1 (w a : Str) | s2 (w a b : Str) | nt (x : Wish) | an (x y : Wish) | orr (x y : Wish)
 deriving DecidableEq
namespace Wish
def deep : Wish -> Nat
 | s1 _ _ => 1
 | s2 _ _ _ => 1
 | nt x => x.deep + 1
 | an x y => max x.deep y.deep + 1
 | orr x y => max x.deep y.deep + 1
def cnt : Wish -> Nat
 | s1 _ _ => 1
 | s2 _ _ _ => 1
 | nt x => x.cnt
 | an x y => x.cnt + y.cnt
 | orr x y => x.cnt + y.cnt
def W1 : List Str := ["here", "odd", "lone"]
def W2 : List Str := ["tied", "like", "among"]
def ok (ns : List Str) : Wish -> Prop
 | s1 w a => w ∈ W1 /\ a ∈ ns
 | s2 w a b => w ∈ W2 /\ a ∈ ns /\ b ∈ ns
 | nt x => x.ok ns
 | an x y => x.ok ns /\ y.ok ns
 | orr x y => x.ok ns /\ y.ok ns
end Wish
theorem Nm.asc {z : Str} (h : Nm z) : ∀ c ∈ z.cps.toList, c < 128 := fun c hc => by
 have := h.2.2 c hc
 unfold Lt at this
 omega
def Gd (x : D) (w d : Nat) : Prop := gD x /\ wD x <= w /\ dD x <= d
theorem Gd.mono {x : D} {w d w' d' : Nat} (h : Gd x w d) (hw : w <= w') (hd : d <= d') : Gd x w' d' := ⟨h.1, Qaw h.2.1 hw, Qaw h.2.2 hd⟩
theorem Yb7 {z : Str} (h : Nm z) (d : Nat) : Gd (.str z) 8 d := ⟨by simpa [gD] using h.asc, by simpa [wD] using h.2.1, by simp [dD]⟩
noncomputable def Yb8 (x : D) : D -> Store -> R Xn (Option (D × D)) := fun y S => .ok (some (x, y)) S
noncomputable def Yb9 (C : Cl) (e : ME) (ρ : Ev) : D -> Store -> R Xn (Option (D × D)) := fun x S => (ev C e ρ S).bind (Yb8 x)
noncomputable def Yfb (C : Cl) (k e : ME) (ρ : Ev) : Bool -> Store -> R Xn (Option (D × D)) := fun b S => if b = true then (ev C k ρ S).bind (Yb9 C e ρ) else .ok none S
section
variable {C : Cl} {ρ : Ev} {S : Store}
@[simp] theorem Yfc {vs : List Nat} {i : Nat} {c : Option ME} {k e : ME} {d : D} : dcF C ρ vs (.nm i) c k e d S = (evc C c ((Zaw ρ vs).set i (.v d)) S).bind (Yfb C k e ((Zaw ρ vs).set i (.v d))) := rfl
@[simp] theorem Yca (k e : ME) (b : Bool) : Yfb C k e ρ b S = if b = true then (ev C k ρ S).bind (Yb9 C e ρ) else .ok none S := rfl
@[simp] theorem Ycb (e : ME) (x : D) : Yb9 C e ρ x S = (ev C e ρ S).bind (Yb8 x) := rfl
@[simp] theorem Ycc (x y : D) : Yb8 x y S = .ok (some (x, y)) S := rfl
end
theorem Zvi {n : Nat} : ∀ {xs : List D}, (∀ x ∈ xs, wD x <= n) -> wL xs <= xs.length * (n + 1)
 | [], _ => by simp [wL]
 | x :: xs, h => by
  have := Zvi fun x hx => h x (Qae _ hx)
  have := h x Qag
  rw [Qai, Nat.succ_mul]
  simp only [wL]
  omega
theorem gdT {xs : List D} {n d m : Nat} (h : ∀ x ∈ xs, Gd x n d) (hm : xs.length * (n + 1) <= m) : Gd (.tup xs) m (d + 1) := by
 refine ⟨?_, ?_, ?_⟩
 ·simp only [gD]; exact Zl5.mpr fun x hx => (h x hx).1
 ·simp only [wD]; exact Qaw (Zvi fun x hx => (h x hx).2.1) hm
 ·simp only [dD]
  have := Zty.mpr fun x hx => (h x hx).2.2
  omega
theorem Yg4 {z : Str} (h : Nm z) : Ly z := by
 unfold Ly PySem.PyData.strOk
 rw [Array.all_eq_true']
 intro c hc
 have := h.2.2 c (by simpa using hc)
 unfold Lt at this
 simp
 omega
theorem Z5y {ss : List Str} (hn : ∀ z ∈ ss, Nm z) {m : Nat} (hm : ss.length * 9 <= m) : Gd (.tup (ss.map D.str)) m 1 := gdT (n := 8) (d := 0) (fun x hx => by
 obtain ⟨p, hp, rfl⟩ := Qa2.mp hx
 exact Yb7 (hn p hp) 0) (by rw [Qal]; exact hm)
section
variable {C : Cl} {ρ : Ev} {S : Store}
noncomputable def Yfd (c f : Str) : D -> Store -> RD := fun x S => R.ofO S (Z05 S c f x)
@[simp] theorem Yfe (c : Str) (o : ME) (f : Str) : ev C (.fld c o f) ρ S = (ev C o ρ S).bind (Yfd c f) := by simp only [ev]; rfl
@[simp] theorem Ycd (c f : Str) (x : D) : Yfd c f x S = R.ofO S (Z05 S c f x) := rfl
noncomputable def Zi3 (C : Cl) (d : Str) (x : D) : List D -> Store -> RD := fun xs S => C d (x :: xs) S
noncomputable def Z5z (C : Cl) (c m d : Str) (es : List ME) (ρ : Ev) : D -> Store -> RD := fun x S => if Zes S c m x = true then (evs C es ρ S).bind (Zi3 C d x) else .bad
@[simp] theorem Yce (c : Str) (o : ME) (m d : Str) (es : List ME) : ev C (.meth c o m d es) ρ S = (ev C o ρ S).bind (Z5z C c m d es ρ) := by simp only [ev]; rfl
@[simp] theorem Z8m (c m d : Str) (es : List ME) (x : D) : Z5z C c m d es ρ x S = if Zes S c m x = true then (evs C es ρ S).bind (Zi3 C d x) else .bad := rfl
@[simp] theorem Z50 (d : Str) (x : D) (xs : List D) : Zi3 C d x xs S = C d (x :: xs) S := rfl
noncomputable def Zqj (C : Cl) (c m d : Str) (x : D) : List D -> Store -> RD := fun xs S => if Zes S c m x = true then C d (x :: xs) S else .bad
noncomputable def Z51 (C : Cl) (c m d : Str) (es : List ME) (ρ : Ev) : D -> Store -> RD := fun x S => match x with
 | .ref r => (evs C es ρ S).bind (Zqj C c m d (.ref r))
 | _ => .bad
@[simp] theorem Ycf (c : Str) (o : ME) (m d : Str) (es : List ME) : ev C (.metC c o m d es) ρ S = (ev C o ρ S).bind (Z51 C c m d es ρ) := by simp only [ev]; rfl
@[simp] theorem Z8n (c m d : Str) (es : List ME) (r : Nat) : Z51 C c m d es ρ (.ref r) S = (evs C es ρ S).bind (Zqj C c m d (.ref r)) := rfl
@[simp] theorem Z52 (c m d : Str) (x : D) (xs : List D) : Zqj C c m d x xs S = if Zes S c m x = true then C d (x :: xs) S else .bad := rfl
noncomputable def Z53 (C : Cl) (c : Str) (op : PySem.Operator) (d : Str) (x : D) : D -> Store -> RD := fun y S => if (Zes S c (opN op) x && (Zbj y || Zq3 S c y)) = true then C d [x, y] S else .bad
noncomputable def Yff (C : Cl) (c : Str) (op : PySem.Operator) (d : Str) (e : ME) (ρ : Ev) : D -> Store -> RD := fun x S => (ev C e ρ S).bind (Z53 C c op d x)
@[simp] theorem Yfg (c : Str) (op : PySem.Operator) (o : ME) (d : Str) (e : ME) : ev C (.opI c op o d e) ρ S = (ev C o ρ S).bind (Yff C c op d e ρ) := by simp only [ev]; rfl
@[simp] theorem Ycg (c : Str) (op : PySem.Operator) (d : Str) (e : ME) (x : D) : Yff C c op d e ρ x S = (ev C e ρ S).bind (Z53 C c op d x) := rfl
noncomputable def Yg5 (c : Str) : D -> Store -> RD := fun x S => if Zq3 S c x = true then .ok (.bl true) S else if Zbj x = true then .ok (.bl false) S else .bad
@[simp] theorem Yfh (c : Str) (e : ME) : ev C (.isC c e) ρ S = (ev C e ρ S).bind (Yg5 c) := by simp only [ev]; rfl
noncomputable def Yg6 (c : Str) (t : Ty) : D -> Store -> RD := fun x S => if Zq3 S c x = true then .ok (.bl false) S else if Zbj x = true then .ok (.bl (Zni x t)) S else .bad
@[simp] theorem Ych (c : Str) (e : ME) (t : Ty) : ev C (.isiI c e t) ρ S = (ev C e ρ S).bind (Yg6 c t) := by simp only [ev]; rfl
noncomputable def Yfi (C : Cl) (c m d : Str) : D -> Store -> RD := fun x S => if Zes S c m x = true then (C d [x] S).calm else .bad
@[simp] theorem Yfj (c : Str) (o : ME) (m d : Str) : ev C (.prp c o m d) ρ S = (ev C o ρ S).bind (Yfi C c m d) := by simp only [ev]; rfl
@[simp] theorem Yci (c m d : Str) (x : D) : Yfi C c m d x S = if Zes S c m x = true then (C d [x] S).calm else .bad := rfl
noncomputable def Zvj : D -> Store -> RD := fun y S => match y with
 | .int i => if 0 <= i /\ i < 2 ^ 62 then .ok (.int i) S else .bad
 | _ => .bad
noncomputable def Z54 (C : Cl) (c d : Str) : D -> Store -> RD := fun x S => if Zes S c "__len__" x = true then (C d [x] S).bind Zvj else .bad
@[simp] theorem Ycj (c : Str) (o : ME) (d : Str) : ev C (.lenM c o d) ρ S = (ev C o ρ S).bind (Z54 C c d) := by simp only [ev]; rfl
@[simp] theorem Z8o (c d : Str) (x : D) : Z54 C c d x S = if Zes S c "__len__" x = true then (C d [x] S).bind Zvj else .bad := rfl
noncomputable def Zqk (n : Nat) : D -> Store -> RD := fun d S => match d with
 | .non => .ok (.ref n) S
 | _ => .bad
noncomputable def Z55 (C : Cl) (c ini : Str) : List D -> Store -> RD := fun xs S => (C ini (.ref S.nx :: xs) (S.new (.ins c []))).bind (Zqk S.nx)
@[simp] theorem Yck (c ini : Str) (es : List ME) : ev C (.make c ini es) ρ S = (evs C es ρ S).bind (Z55 C c ini) := by simp only [ev]; rfl
@[simp] theorem Z8p (c ini : Str) (xs : List D) : Z55 C c ini xs S = (C ini (.ref S.nx :: xs) (S.new (.ins c []))).bind (Zqk S.nx) := rfl
@[simp] theorem Z56 (n : Nat) : Zqk n .non S = .ok (.ref n) S := rfl
noncomputable def Zvk (c f : Str) (v : D) (ρ : Ev) : D -> Store -> RS := fun x S => match Zq2 S c f v x with
 | some S' => .ok (.nx ρ) S'
 | none => .bad
noncomputable def Z57 (C : Cl) (c : Str) (o : ME) (f : Str) (ρ : Ev) : D -> Store -> RS := fun v S => ((ev C o ρ S).mapE (bx ρ)).bind (Zvk c f v ρ)
@[simp] theorem Ycl (c : Str) (o : ME) (f : Str) (e : ME) : Zae C (.setF c o f e) ρ S = ((ev C e ρ S).mapE (bx ρ)).bind (Z57 C c o f ρ) := by simp only [Zae]; rfl
@[simp] theorem Z8q (c : Str) (o : ME) (f : Str) (v : D) : Z57 C c o f ρ v S = ((ev C o ρ S).mapE (bx ρ)).bind (Zvk c f v ρ) := rfl
end
section
variable {C : Cl} {ρ : Ev} {S : Store}
noncomputable def Z58 (c : Str) (fs : List Str) : List D -> Store -> RD := fun xs S => if xs.length = fs.length then .ok (.exn c fs xs) S else .bad
@[simp] theorem Yfk (c : Str) (fs : List Str) (es : List ME) : ev C (.mkx c fs es) ρ S = (evs C es ρ S).bind (Z58 c fs) := by simp only [ev]; rfl
@[simp] theorem Yfl (c : Str) : Z58 c [] [] S = .ok (.exn c [] []) S := rfl
@[simp] theorem Yfm (c f : Str) (x : D) : Z58 c [f] [x] S = .ok (.exn c [f] [x]) S := rfl
@[simp] theorem Yfn (c f g : Str) (x y : D) : Z58 c [f, g] [x, y] S = .ok (.exn c [f, g] [x, y]) S := rfl
@[simp] theorem Yfo (c f g h : Str) (x y z : D) : Z58 c [f, g, h] [x, y, z] S = .ok (.exn c [f, g, h] [x, y, z]) S := rfl
noncomputable def Z0c (c : Str) (fs : List Str) (f : Str) : D -> Store -> RD := fun x S => R.ofO S (xfD c fs f x)
@[simp] theorem Ycm (c : Str) (fs : List Str) (o : ME) (f : Str) : ev C (.fldX c fs o f) ρ S = (ev C o ρ S).bind (Z0c c fs f) := by simp only [ev]; rfl
theorem Ztz {c : Str} {fs : List Str} {f : Str} {xs : List D} {d : D} (h : (fs.zip xs).reverse.lookup f = some d) : Z0c c fs f (.exn c fs xs) S = .ok d S := by
 show R.ofO S (if c = c /\ fs = fs then (fs.zip xs).reverse.lookup f else none) = _
 rw [Qan ⟨rfl, rfl⟩, h]; rfl
@[simp] theorem Ycn (c f : Str) (x : D) : Z0c c [f] f (.exn c [f] [x]) S = .ok x S := Ztz (by simp)
noncomputable def Yfp (al subs : List Str) : D -> Store -> RD := fun x S => R.ofO S (Z0g al subs x)
@[simp] theorem Yco (c : Str) (al subs : List Str) (e : ME) : ev C (.isXo c al subs e) ρ S = (ev C e ρ S).bind (Yfp al subs) := by simp only [ev]; rfl
@[simp] theorem Ycp (ts : List Str) (b : Bool) (al subs : List Str) (e : ME) : ev C (.isXt ts b al subs e) ρ S = (ev C e ρ S).bind (Yfp al subs) := by simp only [ev]; rfl
end
section
variable {C : Cl} {ρ : Ev} {S : Store}
@[simp] theorem Z0d (n : Nat) (d : D) : Zb2 ρ n (.v d) = some d := by cases n <;> rfl
@[simp] theorem Z0e (n : Nat) (x : Str) (cs : List D) : Zb2 ρ n (.c x cs) = some (.clo x cs) := by cases n <;> rfl
noncomputable def Z59 (ρ : Ev) (n : Nat) : Option Sl -> Option D
 | some s => Zb2 ρ n s
 | none => none
@[simp] theorem Yfq (n : Nat) (d : D) : Z59 ρ n (some (.v d)) = some d := Z0d n d
@[simp] theorem Yfr (n : Nat) (x : Str) (cs : List D) : Z59 ρ n (some (.c x cs)) = some (.clo x cs) := Z0e n x cs
@[simp] theorem Z6a : Zgv ρ [] = some [] := rfl
noncomputable def Z6b (ρ : Ev) (is : List Nat) : Option D -> Option (List D)
 | some d => (Zgv ρ is).map (d :: ·)
 | none => none
@[simp] theorem Z6c (is : List Nat) (d : D) : Z6b ρ is (some d) = (Zgv ρ is).map (d :: ·) := rfl
@[simp] theorem Z00 (i : Nat) (is : List Nat) : Zgv ρ (i :: is) = Z6b ρ is (Z59 ρ 4 ρ[i]?) := by
 have q : Zbv (fun i => (ρ[i]?).bind (Zb2 ρ 4)) is = Zgv ρ is := rfl
 show Zbv (fun i => (ρ[i]?).bind (Zb2 ρ 4)) (i :: is) = _
 rw [Zbv, q]
 cases ρ[i]? with
 | none => simp [Z59, Z6b]
 | some s =>
  simp only [Z59, Option.bind_some]
  cases Zb2 ρ 4 s with
  | none => simp [Z6b]
  | some d =>
   simp only [Z6b]
   cases Zgv ρ is <;> rfl
@[simp] theorem Z8r : Zf2 C [] ρ S = .ok [] S := by simp only [Zf2]
noncomputable def Z6d (C : Cl) (es : List MA) (ρ : Ev) : D -> Store -> R Xn (List D) := fun x S => (Zf2 C es ρ S).bind (Zj1 x)
@[simp] theorem Z6e (e : MA) (es : List MA) : Zf2 C (e :: es) ρ S = (eva C e ρ S).bind (Z6d C es ρ) := by simp only [Zf2]; rfl
@[simp] theorem Z8s (es : List MA) (x : D) : Z6d C es ρ x S = (Zf2 C es ρ S).bind (Zj1 x) := rfl
@[simp] theorem Yg7 (e : ME) : eva C (.v e) ρ S = ev C e ρ S := by simp only [eva]
noncomputable def Yfs (ρ : Ev) (S : Store) : Option Sl -> RD
 | some (.c x cs) => .ok (.clo x cs) S
 | some (.df x is) => R.ofO S (Zb2 ρ 4 (.df x is))
 | _ => .bad
@[simp] theorem Yg8 (i : Nat) : eva C (.p i) ρ S = Yfs ρ S ρ[i]? := by
 simp only [eva]
 cases ρ[i]? with
 | none => rfl
 | some s => cases s <;> rfl
@[simp] theorem Yft (x : Str) (cs : List D) : Yfs ρ S (some (.c x cs)) = .ok (.clo x cs) S := rfl
@[simp] theorem Yg9 (x : Str) (is : List Nat) : eva C (.l x is) ρ S = R.ofO S ((Zgv ρ is).map (.clo x)) := by simp only [eva]
@[simp] theorem Z8t (f : Str) (as : List MA) : ev C (.callL f as) ρ S = (Zf2 C as ρ S).bind (C f) := by simp only [ev]
noncomputable def Zvl (C : Cl) (c m d : Str) (as : List MA) (ρ : Ev) : D -> Store -> RD := fun x S => if Zes S c m x = true then (Zf2 C as ρ S).bind (Zi3 C d x) else .bad
@[simp] theorem Z8u (c : Str) (o : ME) (m d : Str) (as : List MA) : ev C (.methL c o m d as) ρ S = (ev C o ρ S).bind (Zvl C c m d as ρ) := by simp only [ev]; rfl
@[simp] theorem Z6f (c m d : Str) (as : List MA) (x : D) : Zvl C c m d as ρ x S = if Zes S c m x = true then (Zf2 C as ρ S).bind (Zi3 C d x) else .bad := rfl
noncomputable def Ycq (C : Cl) (x : Str) (cs : List D) : List D -> Store -> RD := fun xs S => C x (xs ++ cs) S
@[simp] theorem Ycr (x : Str) (cs xs : List D) : Ycq C x cs xs S = C x (xs ++ cs) S := rfl
noncomputable def Zvm (C : Cl) (fs : List Str) (as : List MA) (ρ : Ev) (S : Store) : Option Sl -> RD
 | some (.c x cs) => if fs.contains x = true then (Zf2 C as ρ S).bind (Ycq C x cs) else .bad
 | _ => .bad
@[simp] theorem Z8v (i : Nat) (fs : List Str) (as : List MA) : ev C (.callc i fs as) ρ S = Zvm C fs as ρ S ρ[i]? := by
 simp only [ev]
 cases ρ[i]? with
 | none => rfl
 | some s => cases s <;> rfl
@[simp] theorem Z8w (fs : List Str) (as : List MA) (x : Str) (cs : List D) : Zvm C fs as ρ S (some (.c x cs)) = if fs.contains x = true then (Zf2 C as ρ S).bind (Ycq C x cs) else .bad := rfl
@[simp] theorem Yfu (i : Nat) (c : Str) (a b : ME) : ev C (.byc i c a b) ρ S = if Z06 S ρ i = some c then ev C a ρ S else ev C b ρ S := by simp only [ev]
@[simp] theorem Yfv (i : Nat) (c : Str) (a b : MS) : Zae C (.byc i c a b) ρ S = if Z06 S ρ i = some c then Zae C a ρ S else Zae C b ρ S := by simp only [Zae]
noncomputable def clR (S : Store) : Option Ev -> RS
 | some ρ => .ok (.nx ρ) S
 | none => .bad
@[simp] theorem Z8x : clR S (some ρ) = .ok (.nx ρ) S := rfl
@[simp] theorem Yha (is : List Nat) : Zae C (.cl is) ρ S = clR S (Zc9 is ρ) := by
 simp only [Zae]
 cases Zc9 is ρ <;> rfl
@[simp] theorem Z6g : Zc9 [] ρ = some ρ := rfl
noncomputable def Yfw (i : Nat) (is : List Nat) (ρ : Ev) : Option Sl -> Option Ev
 | some (.v (.clo x cs)) => Zc9 is (ρ.set i (.c x cs))
 | _ => none
@[simp] theorem Ycs (i : Nat) (is : List Nat) (x : Str) (cs : List D) : Yfw i is ρ (some (.v (.clo x cs))) = Zc9 is (ρ.set i (.c x cs)) := rfl
@[simp] theorem Z01 (i : Nat) (is : List Nat) : Zc9 (i :: is) ρ = Yfw i is ρ ρ[i]? := by
 show (match ρ[i]? with | some (.v (.clo x cs)) => Zc9 is (ρ.set i (.c x cs)) | _ => none) = _
 cases ρ[i]? with
 | none => rfl
 | some s => cases s with
  | v d => cases d <;> rfl
  | _ => rfl
noncomputable def Zql (neg : Bool) : D -> Store -> RD := fun z S => match z with
 | .bl b => .ok (.bl (neg != b)) S
 | _ => .bad
noncomputable def Zqm (C : Cl) (c : Str) (neg : Bool) (d : Str) (y : D) : D -> Store -> RD := fun x S => if Zes S c "__contains__" x = true then (C d [x, y] S).bind (Zql neg) else .bad
noncomputable def Z6h (C : Cl) (c : Str) (neg : Bool) (o : ME) (d : Str) (ρ : Ev) : D -> Store -> RD := fun y S => (ev C o ρ S).bind (Zqm C c neg d y)
@[simp] theorem Yct (c : Str) (neg : Bool) (e o : ME) (d : Str) : ev C (.conI c neg e o d) ρ S = (ev C e ρ S).bind (Z6h C c neg o d ρ) := by simp only [ev]; rfl
@[simp] theorem Z8y (c : Str) (neg : Bool) (o : ME) (d : Str) (y : D) : Z6h C c neg o d ρ y S = (ev C o ρ S).bind (Zqm C c neg d y) := rfl
@[simp] theorem Z6i (c : Str) (neg : Bool) (d : Str) (y x : D) : Zqm C c neg d y x S = if Zes S c "__contains__" x = true then (C d [x, y] S).bind (Zql neg) else .bad := rfl
@[simp] theorem Z6j (neg b : Bool) : Zql neg (.bl b) S = .ok (.bl (neg != b)) S := rfl
end
end My
namespace K02
open PySem (Str PyData NestedKey sizeLine)
open My
theorem hD : Φ "_law_draw" = some K02.Zau := Zlm
theorem hN : Φ "_law_name" = some K02.Zbp := Zln
theorem hNs : Φ "_law_names" = some K02.Zb7 := Zit
theorem hT : Φ "_law_tie" = some K02.Zao := Zpq
theorem hC : Φ "_law_couples" = some K02.Za9 := Zfm
theorem hW : Φ "_law_web" = some K02.Zdd := Zpr
theorem hP : Φ "_law_pick" = some K02.Zbg := Zlo
theorem hOd : Φ "_law_odd" = some K02.Zdf := Zps
theorem hNe : Φ "_law_near" = some K02.Zcd := Zlp
theorem hTi : Φ "tie_of" = some K02.Zao := Zis
theorem hFr : Φ "friends_of" = some K02.Za2 := Zdz
theorem Z02 (ρ : Ev) (x : Xn) : (bx ρ x).1 = x := rfl
def Za5 (w : Web) : D -> Bool
 | .str z => decide (z ∈ w.P)
 | _ => false
theorem Ze2 {w : Web} : ∀ {d : D}, Za5 w d = true -> ∃ z, d = .str z /\ z ∈ w.P
 | .str z, h => ⟨z, rfl, Qau h⟩
def noP (d : D) : Xn := ⟨"NoPost", [("name", d)]⟩
theorem Ze3 {k : Nat} {S : Store} {w : Web} {d : D} (h : Za5 w d = true) : call Φ (k + 1) "look_post" [mkW w, d] S = .ok .non S := by
 obtain ⟨z, rfl, hz⟩ := Ze2 h
 have m := Zb9 z w.P
 rw [decide_eq_true hz] at m
 rw [Zap Zct rfl]
 simp -implicitDefEqProofs [Zbb, Zdc, Zhr, Zhs, m, Zbj, Zni]
theorem Zj8 {k : Nat} {S : Store} {w : Web} {d : D} (ok : Zbj d = true) (h : Za5 w d = false) : call Φ (k + 1) "look_post" [mkW w, d] S = .exc (noP d) S := by
 have m : ∀ z : Str, d = .str z -> Zhu (.str z) (w.P.map .str) = some false := fun z e => by
  subst e
  rw [Zb9]
  exact congrArg some h
 rw [Zap Zct rfl]
 cases d <;> simp -implicitDefEqProofs [Zbb, Zdc, Zhr, Zhs, m, ok, Zni, Ztx, noP, Z02]
theorem Z6k {k : Nat} {S : Store} {w : Web} (hw : Sm w) {p : Str} (h : p ∈ w.P) : call Φ (k + 2) "neighbours" [mkW w, .str p] S = .ok (.tup ((frS w p).map .str)) S := by
 have tl := hw.tl
 have e0 := Ze3 (k := k) (S := S) (w := w) (d := .str p) (decide_eq_true h)
 have e1 := Zm8 hFr (k := k) (S := S) (w := w) (p := p) (by omega)
 rw [show Zaj (frL p w.T) = frS w p from rfl] at e1
 rw [Zap Zce rfl]
 simp -implicitDefEqProofs [Za3, Zcq, e0, e1]
theorem Zt0 {k : Nat} {S : Store} {w : Web} {d : D} (ok : Zbj d = true) (h : Za5 w d = false) : call Φ (k + 2) "neighbours" [mkW w, d] S = .exc (noP d) S := by
 have e0 := Zj8 (k := k) (S := S) ok h
 rw [Zap Zce rfl]
 generalize mkW w = dw at *
 simp -implicitDefEqProofs [Za3, Zcq, e0, Z02]
theorem Z8z {k : Nat} {S : Store} {w : Web} (hw : Gw w) {a b : Str} (ha : a ∈ w.P) (hb : b ∈ w.P) : call Φ (k + 2) "are_tied" [mkW w, .str a, .str b] S = .ok (.bl (adj w a b)) S := by
 have e0 := Ze3 (k := k) (S := S) (w := w) (d := .str a) (decide_eq_true ha)
 have e1 := Ze3 (k := k) (S := S) (w := w) (d := .str b) (decide_eq_true hb)
 have e2 := Z5i hTi (k := k) (a := a) (b := b) (S := S)
 have lt : Ly (tie a b).1 /\ Ly (tie a b).2 := by
  unfold tie
  split
  ·exact ⟨hw.ly a ha, hw.ly b hb⟩
  ·exact ⟨hw.ly b hb, hw.ly a ha⟩
 have mt := Ztq lt hw.lyw.2
 rw [show decide (tie a b ∈ w.T) = adj w a b from rfl] at mt
 rw [Zap Zdg rfl]
 by_cases ab : a = b
 ·subst ab
  rw [hw.toWf.irr]
  simp -implicitDefEqProofs [Za0, Zb6, e0, e1]
 ·simp -implicitDefEqProofs [Za0, Zb6, e0, e1, ab, e2, Z5h, Zhr, Ztu, mt]
def Zgr (w : Web) (xs : List D) : List D := (xs.filter fun x => !Za5 w x).take 1
theorem Z0f {k : Nat} {S : Store} {w : Web} {a b x : D} {r : List D} (oa : Zbj a = true) (ob : Zbj b = true) (h : Zgr w [a, b] = x :: r) : call Φ (k + 2) "are_tied" [mkW w, a, b] S = .exc (noP x) S := by
 unfold Zgr at h
 rw [Zap Zdg rfl]
 by_cases ca : Za5 w a = true
 ·have cb : Za5 w b = false := by
   cases c : Za5 w b with
   | false => rfl
   | true => simp [ca, c] at h
  have : x = b := by simp [ca, cb] at h; exact h.1.symm
  subst this
  have e0 := Ze3 (k := k) (S := S) ca
  have e1 := Zj8 (k := k) (S := S) ob cb
  generalize mkW w = dw at *
  simp -implicitDefEqProofs [Za0, Zb6, e0, e1, Z02]
 ·have ca : Za5 w a = false := by simpa using ca
  have : x = a := by simp [ca] at h; exact h.1.symm
  subst this
  have e0 := Zj8 (k := k) (S := S) oa ca
  generalize mkW w = dw at *
  simp -implicitDefEqProofs [Za0, Zb6, e0, Z02]
theorem Zqn {k : Nat} {S : Store} {dw v : D} {f : Str} {xs : List D} (hf : f = "law.l0" \/ f = "law.l1") (hx : xs.length <= 1) (h : (xs = [] /\ ∃ d, call Φ k f [dw, v] S = .ok d S) \/ ∃ x, xs = [x] /\ call Φ k f [dw, v] S = .exc (noP x) S) :
  call Φ (k + 1) "_law_lost" [.clo f [], dw, v] S = .ok (.wl xs) S := by
 have hc : (["law.l0", "law.l1"] : List Str).contains f = true := by rcases hf with rfl | rfl <;> decide +kernel
 have z1 : 1 <= sizeLine := sz (by omega)
 have z0 : 0 <= sizeLine := Qax _
 rw [Zap Zlq rfl]
 rcases h with ⟨rfl, d, e⟩ | ⟨x, rfl, e⟩
 ·simp -implicitDefEqProofs [Zc0, Zjx, hf, e]
 ·have tr := Z0a (S := S) (hs := [⟨"NoPost", ["NoPost"], some 4, 3, (.lst [(.fld "name")])⟩]) (x := bx [.c f [], .v dw, .v v, .v (.wl []), .no] (noP x)) (d := .wl [x]) (ρ' := [.c f [], .v dw, .v v, .v (.wl [x]), .no]) rfl rfl rfl
  simp -implicitDefEqProofs [Zc0, Zjx, hf, e, tr]
theorem Ycu {k : Nat} {S : Store} {w : Web} (hw : Gw w) {a b : D} (oa : Zbj a = true) (ob : Zbj b = true) :
  (Zgr w [a, b] = [] /\ ∃ d, call Φ (k + 3) "law.l0" [mkW w, .wl [a, b]] S = .ok d S) \/ ∃ x, Zgr w [a, b] = [x] /\ call Φ (k + 3) "law.l0" [mkW w, .wl [a, b]] S = .exc (noP x) S := by
 have q0 : L2.atI [a, b] 0 = some a := rfl
 have q1 : L2.atI [a, b] 1 = some b := rfl
 rw [Zap Ziu rfl]
 cases c : Zgr w [a, b] with
 | nil =>
  have ca : Za5 w a = true := by
   cases ca : Za5 w a with
   | true => rfl
   | false => simp [Zgr, ca] at c
  have cb : Za5 w b = true := by
   cases cb : Za5 w b with
   | true => rfl
   | false => simp [Zgr, ca, cb] at c
  obtain ⟨za, rfl, ha⟩ := Ze2 ca
  obtain ⟨zb, rfl, hb⟩ := Ze2 cb
  have e := Z8z (k := k) (S := S) hw ha hb
  refine .inl ⟨rfl, .bl (adj w za zb), ?_⟩
  generalize mkW w = dw at *
  simp -implicitDefEqProofs [Zcr, Zha, q0, q1, e]
 | cons x r =>
  have e := Z0f (k := k) (S := S) oa ob c
  have : r = [] := by
   have l : (Zgr w [a, b]).length <= 1 := List.length_take_le ..
   rw [c] at l
   cases r with
   | nil => rfl
   | cons _ _ => simp at l
  subst this
  refine .inr ⟨x, rfl, ?_⟩
  generalize mkW w = dw at *
  simp -implicitDefEqProofs [Zcr, Zha, q0, q1, e, Z02]
theorem Ycv {k : Nat} {S : Store} {w : Web} (hw : Sm w) {a b : D} (oa : Zbj a = true) :
  (Zgr w [a] = [] /\ ∃ d, call Φ (k + 3) "law.l1" [mkW w, .wl [a, b]] S = .ok d S) \/ ∃ x, Zgr w [a] = [x] /\ call Φ (k + 3) "law.l1" [mkW w, .wl [a, b]] S = .exc (noP x) S := by
 have q0 : L2.atI [a, b] 0 = some a := rfl
 rw [Zap Ziv rfl]
 cases ca : Za5 w a with
 | true =>
  obtain ⟨za, rfl, ha⟩ := Ze2 ca
  have e := Z6k (k := k) (S := S) hw ha
  refine .inl ⟨by simp [Zgr, ca], .tup ((frS w za).map .str), ?_⟩
  generalize mkW w = dw at *
  generalize (frS w za).map D.str = q at *
  simp -implicitDefEqProofs [Zcs, Zhb, q0, e]
 | false =>
  have e := Zt0 (k := k) (S := S) oa ca
  refine .inr ⟨a, by simp [Zgr, ca], ?_⟩
  generalize mkW w = dw at *
  simp -implicitDefEqProofs [Zcs, Zhb, q0, e, Z02]
theorem Zt1 {w : Web} (wf : Wf w) {p o : Str} : Zhu (.str o) ((frS w p).map .str) = some (adj w p o) := by
 rw [Zb9]
 congr 1
 rw [Bool.eq_iff_iff, Qab, Zj7 wf]
theorem Ycw {S : Store} {w : Web} (hw : Gw w) {p o : Str} (hp : p ∈ w.P) (ho : o ∈ w.P) {x0 x1 x2 x3 x5 x7 x9 x10 x11 x12 x13 x14 : Sl} :
  Zae (call Φ 11) Zc1 [x0, x1, x2, x3, .v (.str p), x5, .v (mkW w), x7, .v (.wl ((frS w p).map .str)), .v (.str o), x10, x11, x12, x13, x14] S =
   .ok (.nx [x0, x1, x2, x3, .v (.str p), x5, .v (mkW w), x7, .v (.wl ((frS w p).map .str)), .no, x10, x11, .no, x13, x14]) S := by
 have e1 := Z8z (k := 9) (S := S) hw hp ho
 have e2 := Z8z (k := 9) (S := S) hw ho hp
 rw [Ztt] at e2
 have m := Zt1 hw.toWf (p := p) (o := o)
 obtain ⟨z, hz⟩ := Zqb (s := 0) (ns := [2]) (x := .wl [.bl (adj w p o), .bl (adj w p o)]) ⟨Qao _, fun x hx => by
  simp only [Qaf, Qbb, or_false] at hx
  rcases hx with rfl | rfl <;> trivial⟩ (by decide) (by decide)
 have z2 : 2 <= sizeLine := sz (by omega)
 generalize mkW w = dw at *
 generalize (frS w p).map D.str = q at *
 generalize adj w p o = b at *
 simp -implicitDefEqProofs [Zc1, e1, e2, m, hz, z2]
theorem Zqo {S : Store} {w : Web} (hw : Gw w) {p : Str} (hp : p ∈ w.P) {x0 x1 x2 x3 x5 x7 x10 x11 x13 x14 : Sl} : ∀ (ss : List Str) (x9 x12 : Sl), (∀ o ∈ ss, o ∈ w.P) ->
  ∃ y9 y12, Zet (Zg5 (call Φ 11) (.nm 9) Zc1) (ss.map .str) [x0, x1, x2, x3, .v (.str p), x5, .v (mkW w), x7, .v (.wl ((frS w p).map .str)), x9, x10, x11, x12, x13, x14] S =
   .ok (.nx [x0, x1, x2, x3, .v (.str p), x5, .v (mkW w), x7, .v (.wl ((frS w p).map .str)), y9, x10, x11, y12, x13, x14]) S
 | [], x9, x12, _ => ⟨x9, x12, rfl⟩
 | o :: ss, x9, x12, h => by
  obtain ⟨y9, y12, ih⟩ := Zqo (S := S) hw hp (x0 := x0) (x1 := x1) (x2 := x2) (x3 := x3) (x5 := x5) (x7 := x7) (x10 := x10) (x11 := x11) (x13 := x13) (x14 := x14) ss .no .no fun y hy => h y (Qae _ hy)
  refine ⟨y9, y12, ?_⟩
  have e := Ycw (S := S) hw hp (h o Qag) (x0 := x0) (x1 := x1) (x2 := x2) (x3 := x3) (x5 := x5) (x7 := x7) (x9 := x9) (x10 := x10) (x11 := x11) (x12 := x12) (x13 := x13) (x14 := x14)
  rw [Qaj, Zet]
  have st : Zg5 (call Φ 11) (.nm 9) Zc1 (.str o) [x0, x1, x2, x3, .v (.str p), x5, .v (mkW w), x7, .v (.wl ((frS w p).map .str)), x9, x10, x11, x12, x13, x14] S = Zae (call Φ 11) Zc1 [x0, x1, x2, x3, .v (.str p), x5, .v (mkW w), x7, .v (.wl ((frS w p).map .str)), .v (.str o), x10, x11, x12, x13, x14] S := rfl
  rw [st, e, R.bind_ok]
  exact ih
theorem Ycx {S : Store} {w : Web} (hw : Gw w) (wn : ∀ z ∈ w.P, Nm z) (wl : w.P.length <= 60) {p : Str} (hp : p ∈ w.P) {x0 x1 x2 x3 x5 x7 x8 x9 x10 x11 x12 x13 x14 : Sl} :
  Zae (call Φ 11) Zc2 [x0, x1, x2, x3, .v (.str p), x5, .v (mkW w), x7, x8, x9, x10, x11, x12, x13, x14] S =
   .ok (.nx [x0, x1, x2, x3, .no, x5, .v (mkW w), x7, .no, .no, x10, x11, .no, x13, x14]) S := by
 have tl := hw.toSm.tl
 have e1 := Z0b hNe (k := 10) (S := S) (w := w) hw.toWf.lt (by omega) p
 rw [show Zaj (frL p w.T) = frS w p from rfl] at e1
 have e2 := Z6k (k := 9) (S := S) hw.toSm hp
 have e3 := Z8z (k := 9) (S := S) hw hp hp
 rw [hw.toWf.irr] at e3
 have fl := Zz7 hw.toWf p
 have g := Z5y (ss := frS w p) (m := 540) (fun z hz => wn z (Zz6 hw.toWf hz)) (by omega)
 obtain ⟨z, hz⟩ := Z5t g.1 (Qaw g.2.2 (by omega)) (Qaw g.2.1 (by omega))
 have c : Zfs (w.P.map D.str) none (some 20) = (w.P.take 20).map .str := by rw [Zd0 _ (by omega), List.map_take]; rfl
 obtain ⟨y9, y12, l⟩ := Zqo (S := S) hw hp (x0 := x0) (x1 := x1) (x2 := x2) (x3 := x3) (x5 := x5) (x7 := x7) (x10 := x10) (x11 := x11) (x13 := x13) (x14 := x14) (w.P.take 20) x9 x12 fun o ho => Qbj ho
 have rdw : ∀ S, rdS S (mkW w) = mkW w := fun _ => rfl
 have s0 : Zf0 (mkW w) (.int 0) = some (.tup (w.P.map .str)) := rfl
 have qn : Zhv .IsNot (.bl false) (.bl false) = some false := rfl
 generalize mkW w = dw at *
 generalize (w.P.take 20).map D.str = q1 at *
 generalize w.P.map D.str = q2 at *
 generalize (frS w p).map D.str = q3 at *
 simp -implicitDefEqProofs [Zc2, qn, e1, e2, e3, hz, rdw, s0, c, Zeb, l, O.rd]
theorem Zqp {S : Store} {w : Web} (hw : Gw w) (wn : ∀ z ∈ w.P, Nm z) (wl : w.P.length <= 60) {x0 x1 x2 x3 x5 x7 x10 x11 x13 x14 : Sl} : ∀ (ss : List Str) (x4 x8 x9 x12 : Sl), (∀ o ∈ ss, o ∈ w.P) ->
  ∃ y4 y8 y9 y12, Zet (Zg5 (call Φ 11) (.nm 4) Zc2) (ss.map .str) [x0, x1, x2, x3, x4, x5, .v (mkW w), x7, x8, x9, x10, x11, x12, x13, x14] S =
   .ok (.nx [x0, x1, x2, x3, y4, x5, .v (mkW w), x7, y8, y9, x10, x11, y12, x13, x14]) S
 | [], x4, x8, x9, x12, _ => ⟨x4, x8, x9, x12, rfl⟩
 | o :: ss, x4, x8, x9, x12, h => by
  obtain ⟨y4, y8, y9, y12, ih⟩ := Zqp (S := S) hw wn wl (x0 := x0) (x1 := x1) (x2 := x2) (x3 := x3) (x5 := x5) (x7 := x7) (x10 := x10) (x11 := x11) (x13 := x13) (x14 := x14) ss .no .no .no .no fun y hy => h y (Qae _ hy)
  refine ⟨y4, y8, y9, y12, ?_⟩
  have e := Ycx (S := S) hw wn wl (h o Qag) (x0 := x0) (x1 := x1) (x2 := x2) (x3 := x3) (x5 := x5) (x7 := x7) (x8 := x8) (x9 := x9) (x10 := x10) (x11 := x11) (x12 := x12) (x13 := x13) (x14 := x14)
  rw [Qaj, Zet]
  have st : Zg5 (call Φ 11) (.nm 4) Zc2 (.str o) [x0, x1, x2, x3, x4, x5, .v (mkW w), x7, x8, x9, x10, x11, x12, x13, x14] S = Zae (call Φ 11) Zc2 [x0, x1, x2, x3, .v (.str o), x5, .v (mkW w), x7, x8, x9, x10, x11, x12, x13, x14] S := rfl
  rw [st, e, R.bind_ok]
  exact ih
theorem Zvn {C : Cl} {S : Store} {w : Web} {xs : List D} (ok : ∀ x ∈ xs, Zbj x = true) (hl : xs.length <= 2) {x0 x1 x2 x3 x4 x5 x7 x8 x9 x10 x11 x12 x13 x14 : Sl} :
  lcL (lcF C [x0, x1, x2, x3, x4, x5, .v (mkW w), x7, x8, x9, x10, x11, x12, x13, x14] [14] (.nm 14) (some (.or (.nt (.isi (.var 14) .str)) (.cmp .NotIn (.val (.var 14)) (.val (.sub (.val (.var 6)) (.cst (.int 0))))))) (.var 14)) xs [] S = .ok (xs.filter fun x => !Za5 w x) S := by
 have := Z5p (f := lcF C [x0, x1, x2, x3, x4, x5, .v (mkW w), x7, x8, x9, x10, x11, x12, x13, x14] [14] (.nm 14) (some (.or (.nt (.isi (.var 14) .str)) (.cmp .NotIn (.val (.var 14)) (.val (.sub (.val (.var 6)) (.cst (.int 0))))))) (.var 14)) (S := S) (fun x : D => x) (fun x => !Za5 w x) xs (fun x hx => by
  have o := ok x hx
  have m : ∀ z : Str, Zhu (.str z) (w.P.map .str) = some (decide (z ∈ w.P)) := fun z => Zb9 z w.P
  cases x <;> simp -implicitDefEqProofs [o, Zni, Za5, Zhr, Zhs, m]
  rename_i z
  by_cases c : z ∈ w.P <;> simp [c]) (sz (by omega))
 simpa using this
def OkV (x : D) : Prop := Vc 9 [3, 0] x
theorem Zvo {z : Str} (h : Nm z) : Tx 8 z := ⟨h.2.1, fun c hc => by have := (h.2.2 c hc).2; omega⟩
theorem Zvp {z : Str} (h : Nm z) : OkV (.str z) := by
 show Vc 9 [3, 0] (.str z)
 rw [Zem]
 exact (Zvo h).mono (by omega)
theorem Zvq (t : Tk) (l : List O) {w : Web} (w0 : w.P ≠ []) (wl : w.P.length <= 60) (wn : ∀ z ∈ w.P, Nm z) {a : Str} (ha : Nm a) {x0 x2 x3 x4 x5 x8 x9 x10 x11 x12 x14 : Sl} {d : D} :
  ∃ v t', lcF (call Φ 11) [x0, .v (.ref 0), x2, x3, x4, x5, .v (mkW w), .v (.str a), x8, x9, x10, x11, x12, .no, x14] [13] (.nm 13) none (.call "_law_pick" [(.var 1), (.frz (.lst [(.var 7), (.call "_law_odd" [(.var 1), (.var 7)]), (.call "_law_pick" [(.var 1), (.sub (.val (.var 6)) (.cst (.int 0)))])]))]) d (SD t l) = .ok (some v) (SD t' l) /\ OkV v := by
 obtain ⟨y, t1, e1, hy⟩ := Z5d hD hP hOd t l (k := 8) (z := a) (Zvo ha)
 obtain ⟨p, t2, e2, hp⟩ := Ztv hD hP t1 l (k := 9) (xs := w.P.map .str) (by simpa using w0) (by rw [Qal]; omega)
 obtain ⟨z, hz, rfl⟩ := Qa2.mp hp
 obtain ⟨v, t3, e3, hv⟩ := Zp6 hD hP t2 l (k := 9) (xs := [.str a, y, .str z]) (by simp) (by simp)
 have s0 : Zf0 (mkW w) (.int 0) = some (.tup (w.P.map .str)) := rfl
 have rdw : ∀ S, rdS S (mkW w) = mkW w := fun _ => rfl
 have z3 : 3 <= sizeLine := sz (by omega)
 refine ⟨v, t3, ?_, ?_⟩
 ·generalize mkW w = dw at *
  generalize w.P.map D.str = q at *
  simp -implicitDefEqProofs [e1, e2, e3, s0, rdw, z3]
 ·simp only [Qaf, Qbb, or_false] at hv
  rcases hv with rfl | rfl | rfl
  ·exact Zvp ha
  ·exact hy
  ·exact Zvp (wn z hz)
theorem Zl6 {w : Web} {xs : List D} (h : ∀ x ∈ xs, OkV x) : ∃ z, Zgs (.wl (Zgr w xs)) = some z := by
 refine Zqb (s := 9) (ns := [1, 3, 0]) ⟨List.length_take_le .., fun x hx => h x (List.mem_filter.mp (Qbj hx)).1⟩ (by decide) (by decide)
theorem Ycy (t : Tk) (l : List O) {w : Web} (hw : Gw w) (w0 : w.P ≠ []) (wl : w.P.length <= 60) (wn : ∀ z ∈ w.P, Nm z) {a : Str} (ha : Nm a) {x0 x2 x3 x4 x5 x8 x9 x10 x11 x12 : Sl} :
  ∃ t', Zae (call Φ 11) Ze0 [x0, .v (.ref 0), x2, x3, x4, x5, .v (mkW w), .v (.str a), x8, x9, x10, x11, x12, .no, .no] (SD t l) =
   .ok (.nx [x0, .v (.ref 0), x2, x3, x4, .no, .v (mkW w), .v (.str a), x8, x9, .no, .no, x12, .no, .no]) (SD t' l) := by
 obtain ⟨u, t1, e1, hu⟩ := Zvq t l w0 wl wn ha (x0 := x0) (x2 := x2) (x3 := x3) (x4 := x4) (x5 := x5) (x8 := x8) (x9 := x9) (x10 := x10) (x11 := x11) (x12 := x12) (x14 := .no) (d := .int 0)
 obtain ⟨v, t2, e2, hv⟩ := Zvq t1 l w0 wl wn ha (x0 := x0) (x2 := x2) (x3 := x3) (x4 := x4) (x5 := x5) (x8 := x8) (x9 := x9) (x10 := x10) (x11 := x11) (x12 := x12) (x14 := .no) (d := .int 1)
 have hr : Zc5 0 2 = some [.int 0, .int 1] := by
  rw [Zc3 (by omega)]; rfl
 have z1 : 1 <= sizeLine := sz (by omega)
 have z0 : 0 < sizeLine := sz (by omega)
 have lv : lcL (lcF (call Φ 11) [x0, .v (.ref 0), x2, x3, x4, x5, .v (mkW w), .v (.str a), x8, x9, x10, x11, x12, .no, .no] [13] (.nm 13) none (.call "_law_pick" [(.var 1), (.frz (.lst [(.var 7), (.call "_law_odd" [(.var 1), (.var 7)]), (.call "_law_pick" [(.var 1), (.sub (.val (.var 6)) (.cst (.int 0)))])]))])) [.int 0, .int 1] [] (SD t l) = .ok [u, v] (SD t2 l) := by
  have w := Ziz (f := lcF (call Φ 11) [x0, .v (.ref 0), x2, x3, x4, x5, .v (mkW w), .v (.str a), x8, x9, x10, x11, x12, .no, .no] [13] (.nm 13) none (.call "_law_pick" [(.var 1), (.frz (.lst [(.var 7), (.call "_law_odd" [(.var 1), (.var 7)]), (.call "_law_pick" [(.var 1), (.sub (.val (.var 6)) (.cst (.int 0)))])]))])) (Q := fun acc S' => acc = [u, v] /\ S' = SD t2 l) (E := no) (fun rest acc S' => (rest = [.int 0, .int 1] /\ acc = [] /\ S' = SD t l) \/ (rest = [.int 1] /\ acc = [u] /\ S' = SD t1 l) \/ (rest = [] /\ acc = [u, v] /\ S' = SD t2 l)) [.int 0, .int 1] [] (SD t l) (.inl ⟨rfl, rfl, rfl⟩) (by
   rintro d rest acc S2 (⟨h, rfl, rfl⟩ | ⟨h, rfl, rfl⟩ | ⟨h, _⟩)
   ·obtain ⟨rfl, rfl⟩ := List.cons.inj h
    exact R.to e1 ⟨z0, .inr (.inl ⟨rfl, rfl, rfl⟩)⟩
   ·obtain ⟨rfl, rfl⟩ := List.cons.inj h
    exact R.to e2 ⟨Qa4 (show 1 < 2 by omega) (sz (n := 2) (by omega)), .inr (.inr ⟨rfl, rfl, rfl⟩)⟩
   ·cases h) (by
   rintro acc S2 (⟨h, _⟩ | ⟨h, _⟩ | ⟨_, rfl, rfl⟩)
   ·cases h
   ·cases h
   ·exact ⟨rfl, rfl⟩)
  obtain ⟨_, _, e, rfl, rfl⟩ := R.out w
  exact e
 have ou := Zve hu
 have ov := Zve hv
 have b2 := Zvn (C := call Φ 11) (S := SD t2 l) (w := w) (xs := [u, v]) (fun x hx => by
  simp only [Qaf, Qbb, or_false] at hx
  rcases hx with rfl | rfl
  ·exact ou
  ·exact ov) (by simp) (x0 := x0) (x1 := .v (.ref 0)) (x2 := x2) (x3 := x3) (x4 := x4) (x5 := x5) (x7 := .v (.str a)) (x8 := x8) (x9 := x9) (x10 := .v (.wl [u, v])) (x11 := x11) (x12 := x12) (x13 := .no) (x14 := .no)
 have b1 := Zvn (C := call Φ 11) (S := SD t2 l) (w := w) (xs := [u]) (fun x hx => by rw [Qbe.mp hx]; exact ou) (by simp) (x0 := x0) (x1 := .v (.ref 0)) (x2 := x2) (x3 := x3) (x4 := x4) (x5 := x5) (x7 := .v (.str a)) (x8 := x8) (x9 := x9) (x10 := .v (.wl [u, v])) (x11 := .v (.wl ([u, v].filter fun x => !Za5 w x))) (x12 := x12) (x13 := .no) (x14 := .no)
 have l0 := Zqn (k := 10) (S := SD t2 l) (dw := mkW w) (v := .wl [u, v]) (f := "law.l0") (xs := Zgr w [u, v]) (.inl rfl) (List.length_take_le ..) ((Ycu (k := 7) (S := SD t2 l) hw ou ov).imp id id)
 have l1 := Zqn (k := 10) (S := SD t2 l) (dw := mkW w) (v := .wl [u, v]) (f := "law.l1") (xs := Zgr w [u]) (.inr rfl) (List.length_take_le ..) ((Ycv (k := 7) (S := SD t2 l) hw.toSm ou).imp id id)
 have f1 : [u].filter (fun x => !Za5 w x) = Zgr w [u] := by
  unfold Zgr
  cases c : Za5 w u <;> simp [c]
 rw [f1] at b1
 obtain ⟨r1, hr1⟩ := Zl6 (w := w) (xs := [u, v]) fun x hx => by
  simp only [Qaf, Qbb, or_false] at hx
  rcases hx with rfl | rfl
  ·exact hu
  ·exact hv
 obtain ⟨r2, hr2⟩ := Zl6 (w := w) (xs := [u]) fun x hx => by rw [Qbe.mp hx]; exact hu
 have c1 : Zfs [u, v] none (some 1) = [u] := by rw [Zd0 _ (by omega)]; rfl
 have c2 : Zfs ([u, v].filter fun x => !Za5 w x) none (some 1) = Zgr w [u, v] := by rw [Zd0 _ (by omega)]; rfl
 refine ⟨t2, ?_⟩
 generalize mkW w = dw at *
 generalize ([u, v].filter fun x => !Za5 w x) = q2 at *
 generalize Zgr w [u, v] = q3 at *
 generalize Zgr w [u] = q4 at *
 simp -implicitDefEqProofs [Ze0, hr, Zgl, lv, O.rd, b2, l0, c2, hr1, c1, b1, l1, hr2]
theorem law_is : Zsy Φ 12 63 := by
 intro ns _
 obtain ⟨t0, e0⟩ := Zz1 Zll ns (k := 10)
 obtain ⟨i, t1, e1, i0, i1⟩ := Zbe hD t0 [] (k := 10) (n := 9) (by omega) (by omega)
 obtain ⟨j, t2, e2, j0, j1⟩ := Zbe hD t1 [] (k := 10) (n := 25) (by omega) (by omega)
 obtain ⟨c, t3, e3, c0, c1⟩ := Zbe hD t2 [] (k := 10) (n := 3) (by omega) (by omega)
 obtain ⟨n, hn, n1, n2⟩ : ∃ n : Int, L2.atI [D.int (1 + i), D.int (1 + j), D.int 60] c = some (D.int n) /\ 1 <= n /\ n <= 60 := by
  have : c = 0 \/ c = 1 \/ c = 2 := by omega
  rcases this with rfl | rfl | rfl
  ·exact ⟨1 + i, rfl, by omega, by omega⟩
  ·exact ⟨1 + j, rfl, by omega, by omega⟩
  ·exact ⟨60, rfl, by omega, by omega⟩
 obtain ⟨ss, t4, e4, sl, nd, nm⟩ := Zqg hD hN hNs t3 [] (k := 8) (n := n + 1) (by omega) (by omega)
 obtain ⟨a, ha, an⟩ : ∃ a, L2.atI (ss.map D.str) n = some (.str a) /\ Nm a := by
  have h : n.toNat < ss.length := by omega
  refine ⟨ss[n.toNat], ?_, nm _ (List.getElem_mem h)⟩
  rw [Zhi (by omega)]
  simp [h]
 obtain ⟨cs, hcs⟩ : ∃ cs, cs = ss.take n.toNat := ⟨_, rfl⟩
 have cl : cs.length = n.toNat := by rw [hcs, List.length_take]; omega
 have cn : ∀ z ∈ cs, Nm z := fun z hz => nm z (Qbj (hcs ▸ hz))
 have cd : cs.Nodup := by rw [hcs]; exact nd.sublist (List.take_sublist ..)
 have ct : Zfs (ss.map D.str) none (some n) = cs.map .str := by rw [Zd0 _ (by omega), hcs, List.map_take]
 obtain ⟨w, t5, e5, wp, wf⟩ := Zz9 hD hT hC hW t4 [] (k := 8) cd (by omega)
 have wl' : w.P.length = n.toNat := by rw [wp, (Zaz cs).length_eq, cl]
 have wl : w.P.length <= 60 := by omega
 have w0 : w.P ≠ [] := fun c => by
  have : w.P.length = 0 := by rw [c]; rfl
  omega
 have wn : ∀ z ∈ w.P, Nm z := fun z hz => cn z (Zfq.mp (wp ▸ hz))
 have hw : Gw w := ⟨⟨wf, by omega⟩, fun z hz => Yg4 (wn z hz)⟩
 have c12 : Zfs (w.P.map D.str) none (some 12) = (w.P.take 12).map .str := by rw [Zd0 _ (by omega), List.map_take]; rfl
 obtain ⟨y4, y8, y9, y12, lp⟩ := Zqp (S := SD t5 []) hw wn wl (x0 := .v (.ks (ns.map .int))) (x1 := .v (.ref 0)) (x2 := .v (.int n)) (x3 := .v (.wl (ss.map .str))) (x5 := .no) (x7 := .v (.str a)) (x10 := .no) (x11 := .no) (x13 := .no) (x14 := .no) (w.P.take 12) .no .no .no .no fun o ho => Qbj ho
 have hr6 : Zc5 0 6 = some (Zbk 0 6) := by
  rw [Zc3 (by omega)]; rfl
 have wlp : (Zet (Zg5 (call Φ 11) (.nm 5) Ze0) (Zbk 0 6) [.v (.ks (ns.map .int)), .v (.ref 0), .v (.int n), .v (.wl (ss.map .str)), y4, .no, .v (mkW w), .v (.str a), y8, y9, .no, .no, y12, .no, .no] (SD t5 [])).wp
   (fun fl S' => ∃ t', fl = .nx [.v (.ks (ns.map .int)), .v (.ref 0), .v (.int n), .v (.wl (ss.map .str)), y4, .no, .v (mkW w), .v (.str a), y8, y9, .no, .no, y12, .no, .no] /\ S' = SD t' []) no := by
  refine Zfo (fun rest ρ S' => ∃ t', ρ = [.v (.ks (ns.map .int)), .v (.ref 0), .v (.int n), .v (.wl (ss.map .str)), y4, .no, .v (mkW w), .v (.str a), y8, y9, .no, .no, y12, .no, .no] /\ S' = SD t' []) _ _ _ ⟨t5, rfl, rfl⟩ ?_ ?_
  ·rintro d rest ρ S' ⟨t', rfl, rfl⟩
   obtain ⟨t6, e⟩ := Ycy t' [] hw w0 wl wn an (x0 := .v (.ks (ns.map .int))) (x2 := .v (.int n)) (x3 := .v (.wl (ss.map .str))) (x4 := y4) (x5 := .v d) (x8 := y8) (x9 := y9) (x10 := .no) (x11 := .no) (x12 := y12)
   exact R.to e ⟨t6, rfl, rfl⟩
  ·rintro ρ S' ⟨t', rfl, rfl⟩
   exact ⟨t', rfl, rfl⟩
 obtain ⟨_, _, e6, t', rfl, rfl⟩ := R.out wlp
 have s0 : Zf0 (mkW w) (.int 0) = some (.tup (w.P.map .str)) := rfl
 have rdw : ∀ S, rdS S (mkW w) = mkW w := fun _ => rfl
 have z3 : 3 <= sizeLine := sz (by omega)
 refine R.to (a := .bl true) (S := SD t' []) ?_ rfl
 rw [Zap Zu6 rfl]
 generalize mkW w = dw at *
 generalize cs.map D.str = q1 at *
 generalize ss.map D.str = q at *
 generalize (w.P.take 12).map D.str = q2 at *
 generalize w.P.map D.str = q3 at *
 simp -implicitDefEqProofs [Zio, Z37, e0, e1, e2, e3, hn, e4, ha, ct, e5, s0, rdw, c12, Zeb, lp, hr6, e6, z3]
end K02
namespace K02
open PySem PySem.Spec PyProof.Rows L2 My
theorem Z6l {P : Program} {w : World} {K : PySem.W.Frag} {h : Heap} {mg : Str -> Option Value} {fa : Addr} {k : Nat} {ts : List Addr} (X : K.In h) (G : h.Ns mainGlobals mg) (hfa : mg "law" = some (.ref fa)) (hT : ∀ P ∈ ts, h.get? P = some { cls := .none, data := .fields #[] }) (tok : Zpi K ts Z6u = true)
  (F0 : AtT K "tie_of" (Zbi 3))
  (F1 : AtT K "look_post" (Zbi 4))
  (F2 : AtT K "friends_of" (Zbi 5))
  (F3 : AtT K "neighbours" (Zbi 6))
  (F4 : AtT K "are_tied" (Zbi 7))
  (F5 : AtT K "_law_deck" (Zbi 9))
  (F6 : AtT K "_law_draw" (Zbi 10))
  (F7 : AtT K "_law_tie" (Zbi 11))
  (F8 : AtT K "_law_couples" (Zbi 12))
  (F9 : AtT K "_law_web" (Zbi 13))
  (F10 : AtT K "_law_name" (Zbi 14))
  (F11 : AtT K "_law_names" (Zbi 15))
  (F12 : AtT K "_law_pick" (Zbi 16))
  (F13 : AtT K "_law_odd" (Zbi 17))
  (F14 : AtT K "_law_near" (Zbi 18))
  (F15 : AtT K "_law_lost" (Zbi 19))
  (F16 : AtT K "law" (Zbi 20))
  (z_len : PySem.W.nsIn K mainGlobals "len" = some none)
  (z_abs : PySem.W.nsIn K mainGlobals "abs" = some none)
  (z_int : PySem.W.nsIn K mainGlobals "int" = some none)
  (z_tuple : PySem.W.nsIn K mainGlobals "tuple" = some none)
  (z_repr : PySem.W.nsIn K mainGlobals "repr" = some none)
  (z_all : PySem.W.nsIn K mainGlobals "all" = some none)
  (z_any : PySem.W.nsIn K mainGlobals "any" = some none)
  (z_max : PySem.W.nsIn K mainGlobals "max" = some none)
  (z_min : PySem.W.nsIn K mainGlobals "min" = some none)
  (z_str : PySem.W.nsIn K mainGlobals "str" = some none)
  (z_list : PySem.W.nsIn K mainGlobals "list" = some none)
  (z_sorted : PySem.W.nsIn K mainGlobals "sorted" = some none)
  (z_dict : PySem.W.nsIn K mainGlobals "dict" = some none)
  (z_bool : PySem.W.nsIn K mainGlobals "bool" = some none)
  (z_isinstance : PySem.W.nsIn K mainGlobals "isinstance" = some none)
  (z_range : PySem.W.nsIn K mainGlobals "range" = some none)
  (z_enumerate : PySem.W.nsIn K mainGlobals "enumerate" = some none)
  (z_zip : PySem.W.nsIn K mainGlobals "zip" = some none)
  (z_set : PySem.W.nsIn K mainGlobals "set" = some none)
  {C0 : Addr} (xa0 : PySem.W.nsIn K mainGlobals "NoPost" = some (some (.ref C0))) (xk0 : PySem.W.keepIn K (.ref C0) = true) (xx0 : xfB K C0 = true) (xb0 : PySem.W.subIn K (.ref C0) (.type "BaseException") = some true) (xt0 : PySem.W.typeIn K (.ref C0) = some (.type "type"))
  (xn0_0 : PySem.W.findIn K (.ref C0) "name" = some none)
  {xm0 xq0 : Str} {xN0 : Addr} {xB0 : List Value} {xS0 : List Str} {xU0 : List Value} {xA0 : Bool} {xd0 : Option Addr} {xC0 : Option Bool} {x0_0 x1_0 x2_0 x3_0 x5_0 : Option Value}
  (xl0 : K.lookup C0 = some (excClassObj xm0 xq0 C0 xN0 xB0 [.type "LookupError", .type "Exception", .type "BaseException", .type "object"] true xS0 xU0 xA0 xC0 xd0 x0_0 x1_0 x2_0 x3_0 x5_0 "LookupError.__new__")) (xw0 : PySem.W.findIn K (.ref C0) "__setattr__" = some (some (.builtin "object.__setattr__")))
  {y0 : Addr} {yod0 yan0 : Option Addr} {ysl0 : Array (Option Value)} {yoc0 ykV0 ydc0 ypm0 ycd0 yct0 : Value}
  (yi0 : PySem.W.findIn K (.ref C0) "__init__" = some (some (.ref y0))) (yt0 : PySem.W.typeIn K (.ref y0) = some (.type "function")) (yl0 : K.lookup y0 = some ⟨yoc0, yod0, .func (PySem.W.fnOf "__init__" "NoPost.__init__" (defArgs Zb8) (defBody Zb8) (defScope Zb8) .none ykV0 ydc0 ypm0 yan0 ycd0 yct0), ysl0⟩) (yc0 : PySem.W.codeIn K ycd0 "NoPost.__init__" = true) (yk0 : PySem.W.keepIn K (.ref y0) = true)
  (xz0_0 : PySem.W.exmOne K (.ref C0) (.ref C0) = some true) :
  ∃ fd : FuncData, (∀ (s : Shared) (v : Value), BindsTo s fd ⟨[v], []⟩ [("_law_script", v)]) /\ ∃ tc : TC, @Z97 _ tc P w K mg Φ k h fa fd "_law_script" := by
 obtain ⟨t1, t2⟩ := Zyu tok X hT
 letI tc : TC := ⟨Z6u.map (Zld K), fun x li => LmE ⟨[], fs, gs, gd, xs, cs⟩ li x⟩
 have ex : ∀ x ∈ xs, ∃ B, caF C0 x.c = some B /\ XCls K mg x B := by
  intro x hx
  unfold xs at hx
  rcases Qaf.mp hx with e | hx
  ·subst e
   exact ⟨C0, Zyz _, ⟨PySem.W.mg_of X G xa0, xk0, xfB_ok xx0, (fun f hf => by rw [Qbe.mp hf]; exact xn0_0), xb0, xt0, by decide +kernel, by decide, fun h => absurd h (by decide +kernel), fun h => absurd h (by decide +kernel), .inr ⟨by simp, ⟨⟨_, _, _, _, _, _, _, _, _, _, _, _, _, _, _, _, _, xl0, rfl, My.Zfx⟩, xw0, xb0, xt0, xk0⟩, y0, _, Zb8, _, "NoPost.__init__", yi0, yt0, fun_mk yl0 yc0 yk0, Zj0, (fun_mk yl0 yc0 yk0).binds (fun _ _ _ _ _ _ us hl => match us, hl with | [_, _], _ => rfl)⟩⟩⟩
  exact absurd hx Qbb
 have sub : ∀ x ∈ xs, ∀ y ∈ xs, ∀ B B', caF C0 x.c = some B -> caF C0 y.c = some B' -> PySem.W.exmOne K (.ref B) (.ref B') = some (x.up.contains y.c) := by
  intro x hx y hy B B' h1 h2
  unfold xs at hx hy
  rcases Qaf.mp hx with e | hx
  ·subst e
   cases (Zyz _).symm.trans h1
   rcases Qaf.mp hy with e | hy
   ·subst e
    cases (Zyz _).symm.trans h2
    exact xz0_0.trans (congrArg some (by decide +kernel))
   exact absurd hy Qbb
  exact absurd hx Qbb
 have T : Top w K mg fs gs gd Φ xs cs (caF C0) := Z39 t2 (fun _ _ => Iff.rfl) (F0.fn X G Ziq) (F1.fn X G Zel) (F2.fn X G Zdx) (F3.fn X G Zdy) (F4.fn X G Zfk) (F5.fn X G Zlf) (F6.fn X G Zlg) (F7.fn X G Zpm) (F8.fn X G Zfl) (F9.fn X G Zpn) (F10.fn X G Zlh) (F11.fn X G Zir) (F12.fn X G Zli) (F13.fn X G Zpo) (F14.fn X G Zlj) (F15.fn X G Zlk) (F16.fn X G Zpp (fun _ => Zu3 (by decide +kernel : (_, _, _) ∈ Z6u)))    (fun f => by cases f <;> first | exact PySem.W.mg_none_of X G z_len | exact PySem.W.mg_none_of X G z_abs | exact PySem.W.mg_none_of X G z_int | exact PySem.W.mg_none_of X G z_tuple | exact PySem.W.mg_none_of X G z_repr | exact PySem.W.mg_none_of X G z_all | exact PySem.W.mg_none_of X G z_any | exact PySem.W.mg_none_of X G z_max | exact PySem.W.mg_none_of X G z_min | exact PySem.W.mg_none_of X G z_str) (fun f => by cases f <;> first | exact PySem.W.mg_none_of X G z_list | exact PySem.W.mg_none_of X G z_sorted | exact PySem.W.mg_none_of X G z_dict) (fun f => by cases f <;> first | exact PySem.W.mg_none_of X G z_str | exact PySem.W.mg_none_of X G z_tuple | exact PySem.W.mg_none_of X G z_list | exact PySem.W.mg_none_of X G z_dict | exact PySem.W.mg_none_of X G z_int | exact PySem.W.mg_none_of X G z_bool) (PySem.W.mg_none_of X G z_isinstance) (PySem.W.mg_none_of X G z_range) (PySem.W.mg_none_of X G z_enumerate) (PySem.W.mg_none_of X G z_zip) (PySem.W.mg_none_of X G z_set) ex sub (fun c B h => Z38 h)
 obtain ⟨f, a, od, an, sl, oc, kV, dc, pm, cd, ct, l, c, k⟩ := F16
 have e := hfa.symm.trans (PySem.W.mg_of X G a)
 cases e
 exact ⟨_, fun s v => .of_eq rfl, tc, t1, _, fun base tb => T.fn_law tb (fun_mk l c k) Zpp (MkP.t (q' := "law") (fun _ => Zu3 (by decide +kernel : (_, _, _) ∈ Z6u)) (Zle a) l c) Zu7⟩
end K02
open PySem PySem.W PyProof.Rows
set_option maxHeartbeats 0 in
theorem PySem.Challenge.cw_webscripts_k02_neighbours_holds : PySem.Challenge.rw_webscripts_k02_neighbours.Holds := by
 w_on; o_law; k_head; (case hw => w_witness2)
 k_fill
 refine My.Zyt (l := PySem.Challenge.rw_webscripts_k02_neighbours) (n := 63) (k := 12) (x := "_law_script") (Φ := K02.Φ) rfl (by decide) rfl ⟨rfl, by decide, by decide⟩ (fun w h Y => PySem.W.km_in_of Y) K02.law_is (by decide +kernel) ?F
 case F =>
  intro w mg fa h Y KX G hmg
  refine' K02.Z6l (ts := _) KX G hmg (PySem.W.km_tabs_of Y) ?tok ?F0 ?F1 ?F2 ?F3 ?F4 ?F5 ?F6 ?F7 ?F8 ?F9 ?F10 ?F11 ?F12 ?F13 ?F14 ?F15 ?F16 ?z_len ?z_abs ?z_int ?z_tuple ?z_repr ?z_all ?z_any ?z_max ?z_min ?z_str ?z_list ?z_sorted ?z_dict ?z_bool ?z_isinstance ?z_range ?z_enumerate ?z_zip ?z_set ?xa0 ?xk0 ?xx0 ?xb0 ?xt0 ?xn0_0 ?xl0 ?xw0 ?yi0 ?yt0 ?yl0 ?yc0 ?yk0 ?xz0_0
  (case tok => first | kernel_rfl | k_is)
  (all_goals try (apply My.AtT.mk; (case a => k_is); (case l => k_is); (case c => k_is); (case k => k_is)))
  (case z_len => k_is)
  (case z_abs => k_is)
  (case z_int => k_is)
  (case z_tuple => k_is)
  (case z_repr => k_is)
  (case z_all => k_is)
  (case z_any => k_is)
  (case z_max => k_is)
  (case z_min => k_is)
  (case z_str => k_is)
  (case z_list => k_is)
  (case z_sorted => k_is)
  (case z_dict => k_is)
  (case z_bool => k_is)
  (case z_isinstance => k_is)
  (case z_range => k_is)
  (case z_enumerate => k_is)
  (case z_zip => k_is)
  (case z_set => k_is)
  (case xa0 => k_is)
  (case xk0 => k_is)
  (case xx0 => first | k_is | rfl | decide +kernel)
  (case xb0 => k_is)
  (case xt0 => k_is)
  (case xn0_0 => k_is)
  (case xl0 => k_is)
  (case xw0 => k_is)
  (case yi0 => k_is)
  (case yt0 => k_is)
  (case yl0 => k_is)
  (case yc0 => k_is)
  (case yk0 => k_is)
  (case xz0_0 => first | k_is | rfl | decide +kernel)
