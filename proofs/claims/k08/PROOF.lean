import PyProof.Rows.All
import Wide.All
import OpenK.AllK
import Wide.FinOn
import KE.KStateDown
import HandS.Head0
import HandS.Head1
import HandS.Head2
import PySem.Syntax
import HandS.Base
import HandS.Call
import HandS.List
import HandS.Words
import HandS.Exc
import HandS.ExcCtx
import HandS.TupAny
import HandS.Wide
import HandS.Text
import HandS.Codes
import HandS.Deep
import HandS.RaiseMore
import HandS.IsInst
import HandS.Dict
import HandS.WordsDict
import HandS.TupLen
import HandS.Iter
import HandS.More
import HandS.Conv
import HandS.Comp
import HandS.Walk
import HandS.ExcOwn
import HandS.CallSlots
import HandS.Style
import HandS.Property
import HandS.Defaults
import HandS.MakeKwOnly
import HandS.HeadWalk
import HandS.Small
import PyProof.Rows.SortShellAny
import PyProof.StrOps2
import HandS.MakeKw
import HandS.FStr
import HandS.Zip
import HandS.HeadHook2
import HandS.HeadEnd
import HandS.EndBits
import HandS.Nested
import HandS.ExcInit
import KE.KExcSuper
import HandS.HotCalls
import HandS.ExcField
import KE.KExcIs
import HandS.SlotsOwn
import PyProof.InstEq
import KE.GoesEnum
import KE.GoesMore
import KE.GoesZip
import PySem.Challenge.RW_lastchair_k08_clashing_kinds
section
/-! The pure layer: values as trees, results, the operations of the language as plain functions. No heap here. -/
namespace Lc
abbrev Tx := List Nat
/-- an atom of a key; a key -/
inductive Ka where
  | i (n : Int) | s (t : Tx)
  deriving DecidableEq
inductive Ky where
  | a (k : Ka) | t (ks : List Ka)
  deriving DecidableEq
/-- what a node is: tuple, list, dict by its keys, object by its class and fields; the Bool: owned by one place alone -/
inductive Kd where
  | tup | lst (o : Bool) | dic (o : Bool) (ks : List Ky) | obj (o : Bool) (c : String) (ns : List String)
  /-- the law's own argument -/
  | scr
  /-- the exception that a suite holds: its class, its fields -/
  | xob (c : String) (ns : List String)
  deriving DecidableEq
inductive D where
  | non | bl (b : Bool) | int (i : Int) | str (t : Tx) | nd (k : Kd) (ds : List D)
def Kd.own : Kd → Bool
  | .tup => false | .lst o => o | .dic o _ => o | .obj o _ _ => o | .scr => false | .xob _ _ => false
def Kd.frz : Kd → Kd
  | .tup => .tup | .lst _ => .lst false | .dic _ ks => .dic false ks | .obj _ c ns => .obj false c ns | .scr => .scr | .xob c ns => .xob c ns
abbrev D.tup (ds : List D) : D := .nd .tup ds
abbrev D.lst (o : Bool) (ds : List D) : D := .nd (.lst o) ds
abbrev D.dic (o : Bool) (ks : List Ky) (vs : List D) : D := .nd (.dic o ks) vs
abbrev D.obj (o : Bool) (c : String) (ns : List String) (vs : List D) : D := .nd (.obj o c ns) vs
/-- frozen at the root -/
def D.fz : D → Bool
  | .nd k _ => !k.own
  | _ => true
/-! no owned node -/
mutual
def D.frz : D → D
  | .nd k ds => if k.own then .nd k.frz (D.frzs ds) else .nd k ds
  | .non => .non
  | .bl b => .bl b
  | .int i => .int i
  | .str t => .str t
def D.frzs : List D → List D
  | [] => []
  | d :: ds => D.frz d :: D.frzs ds
end
theorem D.frzs_eq : ∀ ds : List D, D.frzs ds = ds.map D.frz
  | [] => by rw [D.frzs]; rfl
  | d :: ds => by rw [D.frzs, List.map_cons, D.frzs_eq ds]
@[simp] theorem D.frz_non : D.frz .non = .non := by rw [D.frz]
@[simp] theorem D.frz_bl (b) : D.frz (.bl b) = .bl b := by rw [D.frz]
@[simp] theorem D.frz_int (b) : D.frz (.int b) = .int b := by rw [D.frz]
@[simp] theorem D.frz_str (b) : D.frz (.str b) = .str b := by rw [D.frz]
theorem D.frz_fz : ∀ {d : D}, d.fz = true → d.frz = d
  | .non, _ => by simp
  | .bl _, _ => by simp
  | .int _, _ => by simp
  | .str _, _ => by simp
  | .nd k ds, h => by
    have h' : (!k.own) = true := h
    rw [D.frz]
    cases e : k.own with
    | true => rw [e] at h'; cases h'
    | false => simp
@[simp] theorem D.frz_tup (ds) : D.frz (.tup ds) = .tup ds := D.frz_fz rfl
@[simp] theorem D.frz_lstT (ds) : D.frz (.lst true ds) = .lst false (ds.map D.frz) := by
  show D.frz (.nd _ _) = _
  rw [D.frz, ← D.frzs_eq]; rfl
@[simp] theorem D.frz_lstF (ds) : D.frz (.lst false ds) = .lst false ds := D.frz_fz rfl
@[simp] theorem D.frz_dicT (ks ds) : D.frz (.dic true ks ds) = .dic false ks (ds.map D.frz) := by
  show D.frz (.nd _ _) = _
  rw [D.frz, ← D.frzs_eq]; rfl
@[simp] theorem D.frz_dicF (ks ds) : D.frz (.dic false ks ds) = .dic false ks ds := D.frz_fz rfl
@[simp] theorem D.frz_objT (c ns ds) : D.frz (.obj true c ns ds) = .obj false c ns (ds.map D.frz) := by
  show D.frz (.nd _ _) = _
  rw [D.frz, ← D.frzs_eq]; rfl
@[simp] theorem D.frz_objF (c ns ds) : D.frz (.obj false c ns ds) = .obj false c ns ds := D.frz_fz rfl
@[simp] theorem D.fz_non : D.fz .non = true := rfl
@[simp] theorem D.fz_bl (b) : D.fz (.bl b) = true := rfl
@[simp] theorem D.fz_int (b) : D.fz (.int b) = true := rfl
@[simp] theorem D.fz_str (b) : D.fz (.str b) = true := rfl
@[simp] theorem D.fz_tup (b) : D.fz (.tup b) = true := rfl
@[simp] theorem D.fz_lst (o b) : D.fz (.lst o b) = !o := rfl
@[simp] theorem D.fz_dic (o b c) : D.fz (.dic o b c) = !o := rfl
@[simp] theorem D.fz_obj (o b c d) : D.fz (.obj o b c d) = !o := rfl
/-! what kinds of owned things are within; nothing frozen of such a kind is reached -/
structure Tg where
  l : Bool
  d : Bool
  o : Bool
def Tg.none : Tg := ⟨false, false, false⟩
def Tg.or (a b : Tg) : Tg := ⟨a.l || b.l, a.d || b.d, a.o || b.o⟩
def Kd.tg : Kd → Tg
  | .lst _ => ⟨true, false, false⟩
  | .dic _ _ => ⟨false, true, false⟩
  | .obj _ _ _ => ⟨false, false, true⟩
  | _ => Tg.none
mutual
def D.tg : D → Tg
  | .nd k ds => if k.own then Tg.or k.tg (D.tgs ds) else Tg.none
  | .non => Tg.none
  | .bl _ => Tg.none
  | .int _ => Tg.none
  | .str _ => Tg.none
def D.tgs : List D → Tg
  | [] => Tg.none
  | d :: ds => Tg.or (D.tg d) (D.tgs ds)
end
mutual
def D.clr (t : Tg) : D → Bool
  | .nd k ds => (match k with | .tup => true | .lst o => o || !t.l | .dic o _ => o || !t.d | .obj o _ _ => o || !t.o | .scr => true | .xob _ _ => true) && D.clrs t ds
  | .non => true
  | .bl _ => true
  | .int _ => true
  | .str _ => true
def D.clrs (t : Tg) : List D → Bool
  | [] => true
  | d :: ds => D.clr t d && D.clrs t ds
end
/-! no exception in it -/
def xNames : List String := ["!a", "!c", "!d"]
mutual
def D.nox : D → Bool
  | .nd k ds => (match k with | .xob _ _ => false | .obj _ c _ => !xNames.contains c | _ => true) && D.noxs ds
  | .non => true
  | .bl _ => true
  | .int _ => true
  | .str _ => true
def D.noxs : List D → Bool
  | [] => true
  | d :: ds => D.nox d && D.noxs ds
end
/-! ### results -/
inductive Res (α : Type) where
  | val (a : α) | exc (c : String) (ns : List String) (vs : List D) | bad
def Res.bind {α β : Type} (r : Res α) (f : α → Res β) : Res β := match r with
  | .val a => f a
  | .exc c ns vs => .exc c ns vs
  | .bad => .bad
@[simp] theorem Res.bind_val {α β : Type} (a : α) (f : α → Res β) : (Res.val a).bind f = f a := rfl
@[simp] theorem Res.bind_exc {α β : Type} (c ns vs) (f : α → Res β) : (Res.exc c ns vs).bind f = .exc c ns vs := rfl
@[simp] theorem Res.bind_bad {α β : Type} (f : α → Res β) : (Res.bad).bind f = .bad := rfl
def Res.ofO {α : Type} : Option α → Res α
  | some a => .val a
  | none => .bad
@[simp] theorem Res.ofO_some {α : Type} (a : α) : Res.ofO (some a) = .val a := rfl
@[simp] theorem Res.ofO_none {α : Type} : Res.ofO (none : Option α) = .bad := rfl
abbrev Env := List (Option D)
/-- an expression: what it gives at the slots' values -/
abbrev XP := Env → Res D
/-- the longest list or text -/
def LINE : Nat := 16777216
/-! ### keys, fields, places -/
def D.toKa : D → Option Ka
  | .int i => some (.i i)
  | .str t => some (.s t)
  | _ => none
def toKas : List D → Option (List Ka)
  | [] => some []
  | d :: ds => (match d.toKa with
    | some k => (match toKas ds with
      | some ks => some (k :: ks)
      | none => none)
    | none => none)
def D.toKy : D → Option Ky
  | .int i => some (.a (.i i))
  | .str t => some (.a (.s t))
  | .nd .tup ds => (toKas ds).map .t
  | _ => none
def Ka.d : Ka → D
  | .i n => .int n
  | .s t => .str t
def Ky.d : Ky → D
  | .a k => k.d
  | .t ks => .tup (ks.map Ka.d)
def kget {α : Type} : List Ky → List α → Ky → Option α
  | k' :: ks, v :: vs, k => if k' = k then some v else kget ks vs k
  | _, _, _ => none
def Ky.isA : Ky → Bool
  | .a _ => true
  | .t _ => false
/-- the keys are of the kind of k -/
def kOk (ks : List Ky) (k : Ky) : Bool := ks.all fun k' => k'.isA == k.isA
def kputK : List Ky → Ky → List Ky
  | k' :: ks, k => if k' = k then k' :: ks else k' :: kputK ks k
  | [], k => [k]
def kputV {α : Type} : List Ky → List α → Ky → α → List α
  | k' :: ks, v' :: vs, k, v => if k' = k then v :: vs else v' :: kputV ks vs k v
  | _, _, _, v => [v]
def fget {α : Type} : List String → List α → String → Option α
  | n' :: ns, v :: vs, n => if n' = n then some v else fget ns vs n
  | _, _, _ => none
def fputK : List String → String → List String
  | k' :: ks, k => if k' = k then k' :: ks else k' :: fputK ks k
  | [], k => [k]
def fputV {α : Type} : List String → List α → String → α → List α
  | k' :: ks, v' :: vs, k, v => if k' = k then v :: vs else v' :: fputV ks vs k v
  | _, _, _, v => [v]
def ixN (n : Nat) (i : Int) : Option Nat := if 0 ≤ i then (if i < n then some i.toNat else none) else if -(n : Int) ≤ i then some (i + n).toNat else none
def atI {α : Type} (xs : List α) (i : Int) : Option α := (ixN xs.length i).bind fun j => xs[j]?
/-- o[i] (a view: the item may be an owned node) -/
def D.idx : D → D → Option D
  | .nd .tup ds, .int i => atI ds i
  | .nd (.lst _) ds, .int i => atI ds i
  | .nd .scr ds, .int i => atI ds i
  | .str t, .int i => (match atI t i with | some c => some (.str [c]) | none => none)
  | .nd (.dic _ ks) vs, k => (match k.toKy with | some k => if kOk ks k then kget ks vs k else none | none => none)
  | _, _ => none
def D.fld (n : String) : D → Option D
  | .nd (.obj _ _ ns) vs => fget ns vs n
  | _ => none
/-- a field of the exception that a suite holds -/
def D.xat (all : List String) (n : String) : D → Option D
  | .nd (.xob c ns) vs => if all.contains c then fget ns vs n else none
  | _ => none
/-- isinstance of it: all the classes that are known, those below the one asked -/
def D.isX (all subs : List String) : D → Option Bool
  | .nd (.xob c _) _ => if all.contains c then some (subs.contains c) else none
  | _ => none
/-- a value that may go anywhere -/
def leak (d : D) : Res D := if d.fz then .val d else .bad
theorem leak_fz {d : D} (h : d.fz = true) : leak d = .val d := by unfold leak; rw [if_pos h]
@[simp] theorem leak_non : leak .non = .val .non := rfl
@[simp] theorem leak_bl (b) : leak (.bl b) = .val (.bl b) := rfl
@[simp] theorem leak_int (b) : leak (.int b) = .val (.int b) := rfl
@[simp] theorem leak_str (b) : leak (.str b) = .val (.str b) := rfl
@[simp] theorem leak_tup (b) : leak (.tup b) = .val (.tup b) := rfl
@[simp] theorem leak_lst (b) : leak (.lst false b) = .val (.lst false b) := rfl
@[simp] theorem leak_dic (b c) : leak (.dic false b c) = .val (.dic false b c) := rfl
@[simp] theorem leak_obj (b c d) : leak (.obj false b c d) = .val (.obj false b c d) := rfl
/-! ### == of data -/
/-- data: no dict, no object, of a depth below n -/
def D.dat : Nat → D → Bool
  | n + 1, .nd k ds => (match k with | .tup => true | .lst _ => true | _ => false) && ds.all (D.dat n)
  | 0, .nd _ _ => false
  | _, _ => true
def b2i (b : Bool) : Int := if b then 1 else 0
mutual
def D.eqb : D → D → Bool
  | .non, e => (match e with | .non => true | _ => false)
  | .bl b, e => (match e with | .bl c => b == c | .int j => b2i b == j | _ => false)
  | .int i, e => (match e with | .int j => i == j | .bl c => i == b2i c | _ => false)
  | .str s, e => (match e with | .str t => s == t | _ => false)
  | .nd k xs, e => (match e with | .nd k' ys => (match k, k' with | .tup, .tup => true | .lst _, .lst _ => true | _, _ => false) && D.eqbs xs ys | _ => false)
def D.eqbs : List D → List D → Bool
  | [], ys => (match ys with | [] => true | _ :: _ => false)
  | x :: xs, ys => (match ys with
    | [] => false
    | y :: ys => D.eqb x y && D.eqbs xs ys)
end
def D.eq (d e : D) : Option Bool := if D.dat 9 d && D.dat 9 e then some (D.eqb d e) else none
def D.ne (d e : D) : Option Bool := (D.eq d e).map (!·)
def D.isIn (x e : D) : Option Bool := match e with
  | .str t => (match x with | .str [c] => some (t.contains c) | _ => none)
  | .nd .tup ds => if D.dat 9 x && D.dat 9 (.tup ds) then some (ds.any fun y => D.eqb y x) else none
  | .nd (.lst o) ds => if D.dat 9 x && D.dat 9 (.lst o ds) then some (ds.any fun y => D.eqb y x) else none
  | .nd (.dic _ ks) vs => (match x.toKy with | some k => if kOk ks k then some (kget ks vs k).isSome else none | none => none)
  | _ => none
def D.notIn (d e : D) : Option Bool := (D.isIn d e).map (!·)
/-! ### the operators -/
def D.add : D → D → Option D
  | .int i, .int j => some (.int (i + j))
  | .str s, .str t => if s.length + t.length ≤ LINE then some (.str (s ++ t)) else none
  | .nd (.lst _) xs, .nd (.lst _) ys => if xs.length + ys.length ≤ LINE ∧ xs.all D.fz ∧ ys.all D.fz then some (.lst true (xs ++ ys)) else none
  | .nd .tup xs, .nd .tup ys => if xs.length + ys.length ≤ LINE then some (.tup (xs ++ ys)) else none
  | _, _ => none
def D.sub : D → D → Option D
  | .int i, .int j => some (.int (i - j))
  | _, _ => none
def MulOk (i j : Int) : Prop := i.natAbs.log2 + j.natAbs.log2 < 100000000
instance (i j : Int) : Decidable (MulOk i j) := by unfold MulOk; infer_instance
def D.mul : D → D → Option D
  | .int i, .int j => if MulOk i j then some (.int (i * j)) else none
  | .str s, .int j => if j < 2 ^ 62 ∧ -(2 ^ 62) < j ∧ s.length * j.toNat ≤ LINE then some (.str (List.replicate j.toNat s).flatten) else none
  | .nd (.lst _) xs, .int j => if j < 2 ^ 62 ∧ -(2 ^ 62) < j ∧ xs.length * j.toNat ≤ LINE ∧ xs.all D.fz then some (.lst true (List.replicate j.toNat xs).flatten) else none
  | _, _ => none
def D.fdiv : D → D → Option D
  | .int i, .int j => if 0 < j ∧ j < 2 ^ 30 then some (.int (i / j)) else none
  | _, _ => none
def D.mod : D → D → Option D
  | .int i, .int j => if 0 < j then some (.int (i % j)) else none
  | _, _ => none
def D.pow : D → D → Option D
  | .int i, .int j => if 0 ≤ j ∧ j ≤ 1000000 ∧ i.natAbs < 2 ^ 64 then some (.int (i ^ j.toNat)) else none
  | _, _ => none
def D.neg : D → Option D
  | .int i => some (.int (-i))
  | _ => none
def tlt : List Nat → List Nat → Bool := fun s t => decide (s < t)
def D.lt : D → D → Option Bool
  | .int i, .int j => some (decide (i < j))
  | .str s, .str t => some (tlt s t)
  | _, _ => none
def D.le : D → D → Option Bool
  | .int i, .int j => some (decide (i ≤ j))
  | _, _ => none
def D.gt : D → D → Option Bool
  | .int i, .int j => some (decide (j < i))
  | _, _ => none
def D.ge : D → D → Option Bool
  | .int i, .int j => some (decide (j ≤ i))
  | _, _ => none
def D.isN : D → Bool
  | .non => true
  | _ => false
def D.truth : D → Option Bool
  | .non => some false
  | .bl b => some b
  | .int i => some (i != 0)
  | .str t => some (!t.isEmpty)
  | .nd .tup ds => some (!ds.isEmpty)
  | .nd (.lst _) ds => some (!ds.isEmpty)
  | _ => none
/-! ### built-in functions -/
def D.len : D → Option D
  | .str t => some (.int t.length)
  | .nd .tup ds => some (.int ds.length)
  | .nd (.lst _) ds => some (.int ds.length)
  | .nd .scr ds => some (.int ds.length)
  | .nd (.dic _ ks) _ => if ks.all Ky.isA then some (.int ks.length) else none
  | _ => none
def D.toInt : D → Option D
  | .int i => some (.int i)
  | .bl b => some (.int (if b then 1 else 0))
  | _ => none
/-- the digits of a whole number -/
def itx (i : Int) : Tx := (PySem.Str.ofString (toString i)).cps.toList
instance (t : Tx) : Decidable (∀ c ∈ t, c < 1114112) := List.decidableBAll _ _
def ItOk (i : Int) : Prop := i.natAbs.log2 < 1920 ∧ (itx i).length ≤ 1000 ∧ ∀ c ∈ itx i, c < 1114112
instance (i : Int) : Decidable (ItOk i) := by unfold ItOk; infer_instance
/-- str(x) of a text -/
def D.toStr : D → Option D
  | .str t => some (.str t)
  | .int i => if ItOk i then some (.str (itx i)) else none
  | _ => none
def D.toList : D → Option D
  | .nd .tup ds => some (.lst true ds)
  | .nd (.lst _) ds => if ds.all D.fz then some (.lst true ds) else none
  | .nd (.dic _ ks) _ => some (.lst true (ks.map Ky.d))
  | _ => none
def D.toTup : D → Option D
  | .nd .tup ds => some (.tup ds)
  | .nd (.lst _) ds => if ds.all D.fz then some (.tup ds) else none
  | _ => none
def intsD : List D → Option (List Int)
  | [] => some []
  | .int i :: ds => (intsD ds).map (i :: ·)
  | _ => none
def strsD : List D → Option (List Tx)
  | [] => some []
  | .str t :: ds => (strsD ds).map (t :: ·)
  | _ => none
def boolsD : List D → Option (List Bool)
  | [] => some []
  | .bl t :: ds => (boolsD ds).map (t :: ·)
  | _ => none
/-- the items of a list or tuple -/
def D.items : D → Option (List D)
  | .nd .tup ds => some ds
  | .nd (.lst _) ds => some ds
  | _ => none
def D.sum : D → Option D
  | .nd (.lst _) ds => (intsD ds).map fun ns => .int ns.sum
  | _ => none
def maxI : Int → List Int → Int
  | m, [] => m
  | m, n :: ns => maxI (if n > m then n else m) ns
def minI : Int → List Int → Int
  | m, [] => m
  | m, n :: ns => minI (if n < m then n else m) ns
def D.max1 : D → Option D
  | .nd (.lst _) ds => (match intsD ds with | some (n :: ns) => some (.int (maxI n ns)) | _ => none)
  | _ => none
def D.min1 : D → Option D
  | .nd (.lst _) ds => (match intsD ds with | some (n :: ns) => some (.int (minI n ns)) | _ => none)
  | _ => none
def D.max2 : D → D → Option D
  | .int i, .int j => some (.int (if j > i then j else i))
  | _, _ => none
def D.any : D → Option D
  | .nd (.lst _) ds => (boolsD ds).map fun bs => .bl (bs.any id)
  | _ => none
def D.abs : D → Option D
  | .int i => some (.int (if i < 0 then -i else i))
  | _ => none
def joinT (sep : Tx) : List Tx → Tx
  | [] => []
  | [t] => t
  | t :: u :: ts => t ++ (sep ++ joinT sep (u :: ts))
def D.join : D → D → Option D
  | .str s, .nd (.lst _) ds => (match strsD ds with | some ts => if (ts.map (·.length)).sum + ts.length * s.length ≤ LINE then some (.str (joinT s ts)) else none | none => none)
  | _, _ => none
def insT (t : Tx) : List Tx → List Tx
  | [] => [t]
  | u :: us => if tlt u t || u == t then u :: insT t us else t :: u :: us
def sortT : List Tx → List Tx
  | [] => []
  | t :: ts => insT t (sortT ts)
/-- sorted of texts -/
def D.sorted : D → Option D
  | .nd (.lst _) ds => (strsD ds).map fun ts => .lst true ((sortT ts).map D.str)
  | _ => none
def D.dget : D → D → D → Option D
  | .nd (.dic _ ks) vs, k, d => (match k.toKy with | some k => if kOk ks k then some ((kget ks vs k).getD d) else none | none => none)
  | _, _, _ => none
def sIx (n d : Nat) : Option Int → Nat
  | none => d
  | some v => if v < 0 then (v + (n : Int)).toNat else min v.toNat n
def cutL {α : Type} (xs : List α) (lo hi : Option Int) : List α := (xs.drop (sIx xs.length 0 lo)).take (sIx xs.length xs.length hi - sIx xs.length 0 lo)
def D.cut : D → Option Int → Option Int → Option D
  | .str t, lo, hi => some (.str (cutL t lo hi))
  | .nd (.lst _) ds, lo, hi => if ds.all D.fz then some (.lst true (cutL ds lo hi)) else none
  | .nd .tup ds, lo, hi => some (.tup (cutL ds lo hi))
  | _, _, _ => none
/-- o[::-1] -/
def D.rev : D → Option D
  | .nd (.lst _) ds => if ds.all D.fz then some (.lst true ds.reverse) else none
  | _ => none
/-- isinstance with a built-in class -/
def D.isTy : D → String → Option Bool
  | .int _, T => some (T == "int")
  | .bl _, T => some (T == "bool" || T == "int")
  | .str _, T => some (T == "str")
  | .nd .tup _, T => some (T == "tuple")
  | .nd (.lst _) _, T => some (T == "list")
  | .non, _ => some false
  | _, _ => none
def D.isObj : D → String → Bool
  | .nd (.obj _ c _) _, T => c == T
  | _, _ => false
/-! ### expressions -/
def cst (d : D) : XP := fun _ => .val d
def getE (ρ : Env) (i : Nat) : Option D := match ρ[i]? with
  | some (some d) => some d
  | _ => none
def bvar (i : Nat) : XP := fun ρ => .ofO (getE ρ i)
def lk (a : XP) : XP := fun ρ => (a ρ).bind leak
def un (g : D → Option D) (a : XP) : XP := fun ρ => (a ρ).bind fun d => .ofO (g d)
def bn (g : D → D → Option D) (a b : XP) : XP := fun ρ => (a ρ).bind fun d => (b ρ).bind fun e => .ofO (g d e)
def tr3 (g : D → D → D → Option D) (a b c : XP) : XP := fun ρ => (a ρ).bind fun d => (b ρ).bind fun e => (c ρ).bind fun f => .ofO (g d e f)
abbrev XB := Env → Res Bool
def tbn (g : D → D → Option Bool) (a b : XP) : XB := fun ρ => (a ρ).bind fun d => (b ρ).bind fun e => .ofO (g d e)
def tun (g : D → Option Bool) (a : XP) : XB := fun ρ => (a ρ).bind fun d => .ofO (g d)
def ofB (t : XB) : XP := fun ρ => (t ρ).bind fun b => .val (.bl b)
def tnd (t u : XB) : XB := fun ρ => (t ρ).bind fun b => if b then u ρ else .val false
def tor (t u : XB) : XB := fun ρ => (t ρ).bind fun b => if b then .val true else u ρ
def tnt (t : XB) : XB := fun ρ => (t ρ).bind fun b => .val (!b)
/-- a and b, a or b as values: all but the last a bool -/
def vand (a b : XP) : XP := fun ρ => (a ρ).bind fun d => (match d with | .bl true => b ρ | .bl false => .val (.bl false) | _ => .bad)
def vor (a b : XP) : XP := fun ρ => (a ρ).bind fun d => (match d with | .bl true => .val (.bl true) | .bl false => b ρ | _ => .bad)
def vnot (d : D) : Option D := (match d with | .bl b => some (.bl (!b)) | _ => none)
def iff (t : XB) (a b : XP) : XP := fun ρ => (t ρ).bind fun c => if c then a ρ else b ρ
abbrev XL := Env → Res (List D)
def lnil : XL := fun _ => .val []
def lcons (a : XP) (l : XL) : XL := fun ρ => (a ρ).bind fun d => (l ρ).bind fun ds => .val (d :: ds)
/-- a part of a slice -/
def pno : Env → Res (Option Int) := fun _ => .val none
def pso (a : XP) : Env → Res (Option Int) := fun ρ => (a ρ).bind fun d => (match d with | .int i => .val (some i) | _ => .bad)
def sli (a : XP) (l h : Env → Res (Option Int)) : XP := fun ρ => (a ρ).bind fun d => (l ρ).bind fun i => (h ρ).bind fun j => .ofO (D.cut d i j)
def mtup (l : XL) : XP := fun ρ => (l ρ).bind fun ds => if ds.length ≤ LINE then .val (.tup (ds.map D.frz)) else .bad
def mlst (l : XL) : XP := fun ρ => (l ρ).bind fun ds => if ds.length ≤ LINE then .val (.lst true ds) else .bad
def mdic : XP := fun _ => .val (.dic true [] [])
/-- what a callee may bring back that was lent things of the kinds t -/
def clear (t : Tg) (r : Res D) : Res D := match r with
  | .val d => if D.clr t d then .val d else .bad
  | .exc c ns vs => if D.clrs t vs then .exc c ns vs else .bad
  | .bad => .bad
def lends (ds : List D) (r : Res D) : Res D := if ds.all D.fz then r else clear (D.tgs ds) r
theorem lends_fz {ds : List D} {r : Res D} (h : ds.all D.fz = true) : lends ds r = r := by unfold lends; rw [if_pos h]
/-- a def called, with positional and keyword values -/
def call (φ : List D → Res D) (l lk : XL) : XP := fun ρ => (l ρ).bind fun ds => (lk ρ).bind fun ks => lends (ds ++ ks) (φ ((ds ++ ks).map D.frz))
/-- an own method of an object of the class c that has no field m -/
def D.isObjM (c m : String) : D → Bool
  | .nd (.obj _ c' ns) _ => c' == c && ns.all (· != m)
  | _ => false
def meth (c m : String) (φ : List D → Res D) (o : XP) (l lk : XL) : XP := fun ρ => (o ρ).bind fun d => if d.isObjM c m then (l ρ).bind fun ds => (lk ρ).bind fun ks => lends (d :: (ds ++ ks)) (φ (d.frz :: (ds ++ ks).map D.frz)) else .bad
/-- no exception leaves -/
def Res.nx : Res D → Res D
  | .val d => .val d
  | _ => .bad
@[simp] theorem Res.nx_val (d : D) : (Res.val d).nx = .val d := rfl
/-- the attributes: class, name, a field (none) or a property by its getter -/
abbrev Props := List (String × String × Option (List D → Res D))
def Props.get : Props → String → String → Option (Option (List D → Res D))
  | [], _, _ => none
  | (c, n, φ) :: r, c', n' => if c = c' ∧ n = n' then some φ else Props.get r c' n'
/-- o.name: a property, else a field -/
def attr (ps : Props) (n : String) (o : XP) : XP := fun ρ => (o ρ).bind fun d => (match d with
  | .nd (.obj _ c ns) vs => (match ps.get c n with
    | some (some φ) => (lends [d] (φ [d.frz])).nx
    | some none => .ofO (fget ns vs n)
    | none => .bad)
  | _ => .bad)
end Lc
end
section
/-! The pure layer: statements, loops, comprehensions. -/
namespace Lc
inductive SO where
  | nx (ρ : Env) | rt (d : D) | bk (ρ : Env) | ct (ρ : Env) | exc (ρ : Env) (c : String) (ns : List String) (vs : List D) | bad
abbrev XS := Env → SO
def Res.so {α : Type} (r : Res α) (ρ : Env) (k : α → SO) : SO := match r with
  | .val a => k a
  | .exc c ns vs => .exc ρ c ns vs
  | .bad => .bad
@[simp] theorem Res.so_val {α : Type} (a : α) (ρ : Env) (k : α → SO) : (Res.val a).so ρ k = k a := rfl
@[simp] theorem Res.so_exc {α : Type} (c ns vs) (ρ : Env) (k : α → SO) : (Res.exc c ns vs : Res α).so ρ k = .exc ρ c ns vs := rfl
@[simp] theorem Res.so_bad {α : Type} (ρ : Env) (k : α → SO) : (Res.bad : Res α).so ρ k = .bad := rfl
def SO.seq (r : SO) (k : Env → SO) : SO := match r with
  | .nx ρ => k ρ
  | .rt d => .rt d
  | .bk ρ => .bk ρ
  | .ct ρ => .ct ρ
  | .exc ρ c ns vs => .exc ρ c ns vs
  | .bad => .bad
@[simp] theorem SO.seq_nx (ρ k) : (SO.nx ρ).seq k = k ρ := rfl
@[simp] theorem SO.seq_rt (ρ k) : (SO.rt ρ).seq k = .rt ρ := rfl
@[simp] theorem SO.seq_bk (ρ k) : (SO.bk ρ).seq k = .bk ρ := rfl
@[simp] theorem SO.seq_ct (ρ k) : (SO.ct ρ).seq k = .ct ρ := rfl
@[simp] theorem SO.seq_exc (ρ c ns vs k) : (SO.exc ρ c ns vs).seq k = .exc ρ c ns vs := rfl
@[simp] theorem SO.seq_bad (k) : (SO.bad).seq k = .bad := rfl
/-- behind one turn of a loop -/
def SO.turn (r : SO) (k : Env → SO) : SO := match r with
  | .nx ρ => k ρ
  | .ct ρ => k ρ
  | .bk ρ => .nx ρ
  | .rt d => .rt d
  | .exc ρ c ns vs => .exc ρ c ns vs
  | .bad => .bad
@[simp] theorem SO.turn_nx (ρ k) : (SO.nx ρ).turn k = k ρ := rfl
@[simp] theorem SO.turn_rt (ρ k) : (SO.rt ρ).turn k = .rt ρ := rfl
@[simp] theorem SO.turn_bk (ρ k) : (SO.bk ρ).turn k = .nx ρ := rfl
@[simp] theorem SO.turn_ct (ρ k) : (SO.ct ρ).turn k = k ρ := rfl
@[simp] theorem SO.turn_exc (ρ c ns vs k) : (SO.exc ρ c ns vs).turn k = .exc ρ c ns vs := rfl
@[simp] theorem SO.turn_bad (k) : (SO.bad).turn k = .bad := rfl
def sNx : XS := fun ρ => .nx ρ
def sBk : XS := fun ρ => .bk ρ
def sCt : XS := fun ρ => .ct ρ
def sNever : XS := fun _ => .bad
def sSeq (f g : XS) : XS := fun ρ => (f ρ).seq g
def sRetN : XS := fun _ => .rt .non
def sRet (a : XP) : XS := fun ρ => (a ρ).so ρ .rt
def sIf (t : XB) (f g : XS) : XS := fun ρ => (t ρ).so ρ fun b => if b then f ρ else g ρ
def setE (ρ : Env) (i : Nat) (d : D) : Env := ρ.set i (some d)
def sSet (i : Nat) (a : XP) : XS := fun ρ => (a ρ).so ρ fun d => .nx (setE ρ i d)
def sDrop (a : XP) : XS := fun ρ => (a ρ).so ρ fun _ => .nx ρ
/-- what stands in the slot i is read only from here on -/
def frzE (ρ : Env) (i : Nat) : Env := match getE ρ i with
  | some d => setE ρ i d.frz
  | none => ρ
def sFrz (i : Nat) (f : XS) : XS := fun ρ => f (frzE ρ i)
/-- name op= e -/
def sAug (g : D → D → Option D) (i : Nat) (a : XP) : XS := fun ρ => match getE ρ i with
  | some d => (a ρ).so ρ fun e => (Res.ofO (g d e)).so ρ fun r => .nx (setE ρ i r)
  | none => .bad
/-- C(e, ..) raised: the fields are the arguments, the last one first -/
def sRaise (c : String) (ns : List String) (l : XL) : XS := fun ρ => (l ρ).so ρ fun ds => if ds.all D.fz && ds.length == ns.length then .exc ρ c ns ds.reverse else .bad
def noxE (ρ : Env) : Bool := ρ.all fun o => match o with | none => true | some d => d.nox
/-- behind a suite: the name is gone, the exception is nowhere -/
def SO.unX (i : Nat) : SO → SO
  | .nx ρ => if noxE (ρ.set i none) then .nx (ρ.set i none) else .bad
  | .bk ρ => if noxE (ρ.set i none) then .bk (ρ.set i none) else .bad
  | .ct ρ => if noxE (ρ.set i none) then .ct (ρ.set i none) else .bad
  | .rt d => if d.nox then .rt d else .bad
  | _ => .bad
/-- try: f, except T as slot i: h; T's classes: subs -/
def sTry (all subs : List String) (i : Nat) (f h : XS) : XS := fun ρ => match f ρ with
  | .exc ρ' c ns ds => if all.contains c then (if subs.contains c then (h (setE ρ' i (.nd (.xob c ns) ds))).unX i else .exc ρ' c ns ds) else .bad
  | r => r
/-! ### targets -/
abbrev XG := D → Env → Option Env
def gSet (i : Nat) : XG := fun d ρ => some (setE ρ i d)
def gAll : List XG → List D → Env → Option Env
  | [], [], ρ => some ρ
  | g :: gs, d :: ds, ρ => (match g d ρ with | some ρ' => gAll gs ds ρ' | none => none)
  | _, _, _ => none
def gTup (gs : List XG) : XG := fun d ρ => match d with
  | .nd .tup ds => gAll gs ds ρ
  | _ => none
/-- a target, from a kept value -/
def sAsg (g : XG) (a : XP) : XS := fun ρ => (a ρ).so ρ fun d => match g d ρ with
  | some ρ' => .nx ρ'
  | none => .bad
/-! ### loops -/
def forL (g : XG) (b : XS) : List D → XS
  | [], ρ => .nx ρ
  | d :: ds, ρ => (match g d ρ with
    | some ρ' => (b ρ').turn (forL g b ds)
    | none => .bad)
abbrev XI2 := Env → Res (List D)
def sFor (it : XI2) (g : XG) (b : XS) : XS := fun ρ => (it ρ).so ρ fun ds => forL g b ds ρ
/-- over the list in slot i as it stands at each turn -/
def forN (i : Nat) (g : XG) (b : XS) : Nat → Nat → XS
  | 0, _, _ => .bad
  | n + 1, k, ρ => (match getE ρ i with
    | some (.nd (.lst _) ds) => (match ds[k]? with
      | some d => if d.fz then (match g d ρ with
        | some ρ' => (b ρ').turn (forN i g b n (k + 1))
        | none => .bad) else .bad
      | none => .nx ρ)
    | _ => .bad)
def whN (t : XB) (b : XS) : Nat → XS
  | 0, _ => .bad
  | n + 1, ρ => (t ρ).so ρ fun c => if c then (b ρ).turn (whN t b n) else .nx ρ
/-- the outcome of enough turns -/
noncomputable def lim (f : Nat → XS) : XS := fun ρ => open Classical in if h : ∃ n, f n ρ ≠ .bad then f (Classical.choose h) ρ else .bad
noncomputable def sWhile (t : XB) (b : XS) : XS := lim (whN t b)
noncomputable def sForN (i : Nat) (g : XG) (b : XS) : XS := lim fun n => forN i g b n 0
/-- the items of what is walked -/
def D.its : D → Option (List D)
  | .nd .tup ds => some ds
  | .nd (.lst _) ds => if ds.all D.fz then some ds else none
  | .str t => some (t.map fun c => .str [c])
  | .nd (.dic _ ks) _ => some (ks.map Ky.d)
  | _ => none
def rngD (lo : Int) (n : Nat) : List D := (List.range n).map fun (i : Nat) => D.int (lo + (i : Int))
def iVal (a : XP) : XI2 := fun ρ => (a ρ).bind fun d => .ofO (D.its d)
def RgOk (i : Int) : Prop := -(2 ^ 62) ≤ i ∧ i < 2 ^ 62
instance (i : Int) : Decidable (RgOk i) := by unfold RgOk; infer_instance
def iRg1 (a : XP) : XI2 := fun ρ => (a ρ).bind fun d => match d with
  | .int j => if RgOk j then .val (Lc.rngD 0 j.toNat) else .bad
  | _ => .bad
def iRg2 (a b : XP) : XI2 := fun ρ => (a ρ).bind fun d => (b ρ).bind fun e => match d, e with
  | .int i, .int j => if RgOk i ∧ RgOk j then .val (Lc.rngD i (j - i).toNat) else .bad
  | _, _ => .bad
def enumL : Nat → List D → List D
  | _, [] => []
  | k, d :: ds => .tup [.int k, d] :: enumL (k + 1) ds
def zipL : List D → List D → List D
  | d :: ds, e :: es => .tup [d, e] :: zipL ds es
  | _, _ => []
/-- enumerate, zip of lists; range(i, j, -1) -/
def iEn (a : XP) : XI2 := fun ρ => (a ρ).bind fun d => match d with
  | .nd (.lst _) ds => if ds.all D.fz then .val (enumL 0 ds) else .bad
  | .nd .tup ds => .val (enumL 0 ds)
  | _ => .bad
def iZp (a b : XP) : XI2 := fun ρ => (a ρ).bind fun d => (b ρ).bind fun e => match d, e with
  | .nd (.lst _) ds, .nd (.lst _) es => if ds.all D.fz ∧ es.all D.fz then .val (zipL ds es) else .bad
  | .nd .tup ds, .nd (.lst _) es => if es.all D.fz then .val (zipL ds es) else .bad
  | _, _ => .bad
def rngDn (hi : Int) (n : Nat) : List D := (List.range n).map fun (i : Nat) => D.int (hi + (i : Int) * (-1))
def iRgD (a b : XP) : XI2 := fun ρ => (a ρ).bind fun d => (b ρ).bind fun e => match d, e with
  | .int i, .int j => if RgOk i ∧ RgOk j then .val (rngDn i (i - j).toNat) else .bad
  | _, _ => .bad
/-! ### comprehensions -/
/-- an expression that no exception leaves -/
def Res.noX {α : Type} : Res α → Res α
  | .val a => .val a
  | _ => .bad
@[simp] theorem Res.noX_val {α : Type} (a : α) : (Res.val a).noX = .val a := rfl
@[simp] theorem Res.noX_bad {α : Type} : (Res.bad : Res α).noX = .bad := rfl
@[simp] theorem Res.noX_exc {α : Type} (c ns vs) : (Res.exc c ns vs : Res α).noX = .bad := rfl
def wipeE (ρ : Env) : List Nat → Env
  | [] => ρ
  | v :: vs => (wipeE ρ vs).set v none
def compL (g : XG) (t : XB) (e : XP) (ρ : Env) : List D → Res (List D)
  | [] => .val []
  | d :: ds => (match g d ρ with
    | some ρ' => (t ρ').noX.bind fun c => if c then (e ρ').noX.bind fun x => (compL g t e ρ ds).bind fun xs => .val (x :: xs) else compL g t e ρ ds
    | none => .bad)
def comp (it : XI2) (g : XG) (t : XB) (e : XP) (vs : List Nat) : XP := fun ρ => (it ρ).bind fun ds => (compL g t e (wipeE ρ vs) ds).noX.bind fun xs => if ds.length ≤ LINE then .val (.lst true xs) else .bad
def tYes : XB := fun _ => .val true
/-! ### the limit -/
theorem lim_of {f : Nat → XS} (mono : ∀ n ρ, f n ρ ≠ .bad → f (n + 1) ρ = f n ρ) {n : Nat} {ρ : Env} (h : f n ρ ≠ .bad) : lim f ρ = f n ρ := by
  have up : ∀ m k, f m ρ ≠ .bad → f (m + k) ρ = f m ρ := by
    intro m k hm
    induction k with
    | zero => rfl
    | succ k ih => rw [← Nat.add_assoc, mono _ _ (by rw [ih]; exact hm), ih]
  unfold lim
  have ex : ∃ n, f n ρ ≠ .bad := ⟨n, h⟩
  rw [dif_pos ex]
  have hc := Classical.choose_spec ex
  generalize Classical.choose ex = m at hc
  rcases Nat.le_total n m with l | l
  · obtain ⟨k, rfl⟩ := Nat.le.dest l
    exact up n k h
  · obtain ⟨k, rfl⟩ := Nat.le.dest l
    exact (up m k hc).symm
theorem turn_mono {r : SO} {k k' : Env → SO} (h : ∀ ρ, k ρ ≠ .bad → k' ρ = k ρ) (n : r.turn k ≠ .bad) : r.turn k' = r.turn k := by
  cases r <;> first | rfl | exact h _ n
theorem whN_mono (t : XB) (b : XS) : ∀ n ρ, whN t b n ρ ≠ .bad → whN t b (n + 1) ρ = whN t b n ρ
  | 0, _, h => absurd rfl h
  | n + 1, ρ, h => by
    unfold whN at h ⊢
    cases e : t ρ with
    | bad => rfl
    | exc => rfl
    | val c =>
      rw [e] at h
      cases c with
      | false => rfl
      | true => exact turn_mono (whN_mono t b n) h
theorem sWhile_of {t : XB} {b : XS} {n : Nat} {ρ : Env} {r : SO} (h : whN t b n ρ = r) (hr : r ≠ .bad) : sWhile t b ρ = r := by
  unfold sWhile
  rw [lim_of (whN_mono t b) (n := n) (by rw [h]; exact hr), h]
theorem lim_bad {f : Nat → XS} {ρ : Env} (h : ∀ n, f n ρ = .bad) : lim f ρ = .bad := by
  unfold lim
  rw [dif_neg (fun ⟨n, hn⟩ => hn (h n))]
theorem lim_ex {f : Nat → XS} {ρ : Env} (h : lim f ρ ≠ .bad) : ∃ n, f n ρ ≠ .bad ∧ lim f ρ = f n ρ := by
  unfold lim at h ⊢
  by_cases ex : ∃ n, f n ρ ≠ .bad
  · rw [dif_pos ex]
    exact ⟨_, Classical.choose_spec ex, rfl⟩
  · rw [dif_neg ex] at h
    exact absurd rfl h
/-- one turn of while -/
theorem sWhile_eq (t : XB) (b : XS) (ρ : Env) : sWhile t b ρ = (t ρ).so ρ fun c => if c then (b ρ).turn (sWhile t b) else .nx ρ := by
  by_cases h : sWhile t b ρ = .bad
  · rw [h]
    apply Eq.symm
    cases e : t ρ with
    | bad => rfl
    | exc c ns vs => exact absurd (h.symm.trans (sWhile_of (n := 1) (r := .exc ρ c ns vs) (by unfold whN; rw [e]; rfl) (fun z => nomatch z))) (fun z => nomatch z)
    | val c =>
      cases c with
      | false => exact absurd (h.symm.trans (sWhile_of (n := 1) (r := .nx ρ) (by unfold whN; rw [e]; rfl) (fun z => nomatch z))) (fun z => nomatch z)
      | true =>
        show (b ρ).turn (sWhile t b) = .bad
        have go : ∀ ρ', ((∀ n, (b ρ).turn (whN t b n) = whN t b n ρ') ∧ (b ρ).turn (sWhile t b) = sWhile t b ρ') → (b ρ).turn (sWhile t b) = .bad := fun ρ' ⟨h1, h2⟩ => by
          rw [h2]
          apply Classical.byContradiction
          intro hn
          obtain ⟨n, h3, h4⟩ := lim_ex hn
          refine absurd (h.symm.trans (sWhile_of (n := n + 1) (r := whN t b n ρ') ?_ h3)) (fun z => h3 z.symm)
          show (t ρ).so ρ (fun c => if c then (b ρ).turn (whN t b n) else .nx ρ) = _
          rw [e]
          exact h1 n
        cases eb : b ρ with
        | nx ρ' => exact eb ▸ go ρ' ⟨fun n => by rw [eb]; rfl, by rw [eb]; rfl⟩
        | ct ρ' => exact eb ▸ go ρ' ⟨fun n => by rw [eb]; rfl, by rw [eb]; rfl⟩
        | bk ρ' => exact absurd (h.symm.trans (sWhile_of (n := 1) (r := .nx ρ') (by unfold whN; rw [e]; show (b ρ).turn _ = _; rw [eb]; rfl) (fun z => nomatch z))) (fun z => nomatch z)
        | rt d => exact absurd (h.symm.trans (sWhile_of (n := 1) (r := .rt d) (by unfold whN; rw [e]; show (b ρ).turn _ = _; rw [eb]; rfl) (fun z => nomatch z))) (fun z => nomatch z)
        | exc ρ' c ns vs => exact absurd (h.symm.trans (sWhile_of (n := 1) (r := .exc ρ' c ns vs) (by unfold whN; rw [e]; show (b ρ).turn _ = _; rw [eb]; rfl) (fun z => nomatch z))) (fun z => nomatch z)
        | bad => rfl
  · obtain ⟨n, h3, h4⟩ := lim_ex h
    cases n with
    | zero => exact absurd rfl h3
    | succ n =>
      rw [show sWhile t b ρ = whN t b (n + 1) ρ from h4]
      unfold whN at h3 ⊢
      cases e : t ρ with
      | bad => rfl
      | exc => rfl
      | val c =>
        rw [e] at h3
        cases c with
        | false => rfl
        | true =>
          have h3' : (b ρ).turn (whN t b n) ≠ .bad := h3
          show (b ρ).turn (whN t b n) = (b ρ).turn (sWhile t b)
          exact (turn_mono (fun ρ' h => (sWhile_of (n := n) rfl h)) h3').symm
theorem forN_mono (i : Nat) (g : XG) (b : XS) : ∀ n k ρ, forN i g b n k ρ ≠ .bad → forN i g b (n + 1) k ρ = forN i g b n k ρ
  | 0, _, _, h => absurd rfl h
  | n + 1, k, ρ, h => by
    unfold forN at h ⊢
    cases e1 : getE ρ i with
    | none => rw [e1] at h; first | done | exact absurd rfl h
    | some x =>
      rw [e1] at h
      cases x with
      | nd kd ds =>
        cases kd with
        | lst o =>
          simp only at h ⊢
          cases e2 : ds[k]? with
          | none => rfl
          | some d =>
            rw [e2] at h
            simp only at h ⊢
            by_cases hd : d.fz = true
            · rw [if_pos hd] at h ⊢
              try rw [if_pos hd]
              cases e3 : g d ρ with
              | none => rfl
              | some ρ' =>
                rw [e3] at h
                exact turn_mono (forN_mono i g b n (k + 1)) h
            · rw [if_neg hd] at h; exact absurd rfl h
        | _ => exact absurd rfl h
      | _ => exact absurd rfl h
theorem sForN_of {i : Nat} {g : XG} {b : XS} {n : Nat} {ρ : Env} {r : SO} (h : forN i g b n 0 ρ = r) (hr : r ≠ .bad) : sForN i g b ρ = r := by
  unfold sForN
  rw [lim_of (fun n ρ => forN_mono i g b n 0 ρ) (n := n) (by rw [h]; exact hr), h]
end Lc
end
section
/-! The pure layer: what is written in an owned thing. -/
namespace Lc
/-- o[k] = v -/
def D.put (o k v : D) : Option D := match o with
  | .nd (.lst true) ds => (match k with
    | .int i => (match ixN ds.length i with | some j => some (.lst true (ds.set j v)) | none => none)
    | _ => none)
  | .nd (.dic true ks) vs => (match k.toKy with
    | some k => if kOk ks k ∧ ks.length < LINE then some (.dic true (kputK ks k) (kputV ks vs k v)) else none
    | none => none)
  | _ => none
def D.setF (cn n : String) (o v : D) : Option D := match o with
  | .nd (.obj true c ns) vs => if c = cn ∧ ns.length < 1000 then some (.obj true c (fputK ns n) (fputV ns vs n v)) else none
  | _ => none
def D.app (o v : D) : Option D := match o with
  | .nd (.lst true) ds => if ds.length < LINE then some (.lst true (ds ++ [v])) else none
  | _ => none
def D.extend (o v : D) : Option D := match o, v with
  | .nd (.lst true) ds, .nd (.lst _) es => if ds.length + es.length ≤ LINE ∧ es.all D.fz then some (.lst true (ds ++ es)) else none
  | _, _ => none
def D.insert (o k v : D) : Option D := match o, k with
  | .nd (.lst true) ds, .int i => if ds.length < LINE ∧ 0 ≤ i ∧ i < 2 ^ 62 then some (.lst true (ds.take i.toNat ++ [v] ++ ds.drop i.toNat)) else none
  | _, _ => none
def D.clear (o : D) : Option D := match o with
  | .nd (.lst true) _ => some (.lst true [])
  | _ => none
/-- the last one, and the rest -/
def D.pop (o : D) : Option (D × D) := match o with
  | .nd (.lst true) ds => (match ds[ds.length - 1]? with
    | some d => some (d, .lst true ds.dropLast)
    | none => none)
  | _ => none
/-- the owned list in slot i written by g and a value -/
def sLst1 (g : D → D → Option D) (i : Nat) (a : XP) : XS := fun ρ => match getE ρ i with
  | some (.nd (.lst true) ds) => (a ρ).so ρ fun v => (match g (.lst true ds) v with
    | some d' => .nx (setE ρ i d')
    | none => .bad)
  | _ => .bad
def sLst2 (g : D → D → D → Option D) (i : Nat) (k a : XP) : XS := fun ρ => match getE ρ i with
  | some (.nd (.lst true) ds) => (k ρ).so ρ fun k => (a ρ).so ρ fun v => (match g (.lst true ds) k v with
    | some d' => .nx (setE ρ i d')
    | none => .bad)
  | _ => .bad
def sLst0 (g : D → Option D) (i : Nat) : XS := fun ρ => match getE ρ i with
  | some (.nd (.lst true) ds) => (match g (.lst true ds) with
    | some d' => .nx (setE ρ i d')
    | none => .bad)
  | _ => .bad
/-- slot i [k] = a: the value first -/
def sPut (i : Nat) (k a : XP) : XS := fun ρ => (a ρ).so ρ fun v => match getE ρ i with
  | some d => (k ρ).so ρ fun k => (match D.put d k v with
    | some d' => .nx (setE ρ i d')
    | none => .bad)
  | none => .bad
/-- slot j = slot i .pop() -/
def sPop (j i : Nat) : XS := fun ρ => match getE ρ i with
  | some d => (match D.pop d with
    | some (e, d') => .nx (setE (setE ρ i d') j e)
    | none => .bad)
  | none => .bad
/-- slot i . n = a: the value first -/
def sFld (cn : String) (i : Nat) (n : String) (a : XP) : XS := fun ρ => (a ρ).so ρ fun v => match getE ρ i with
  | some d => (match D.setF cn n d v with
    | some d' => .nx (setE ρ i d')
    | none => .bad)
  | none => .bad
/-! within an owned list -/
/-- along a path through owned lists -/
def D.at : List Nat → D → Option D
  | [], d => some d
  | j :: js, .nd (.lst true) ds => (match ds[j]? with | some x => D.at js x | none => none)
  | _ :: _, _ => none
def D.setAt : List Nat → D → D → D
  | [], e, _ => e
  | j :: js, e, .nd (.lst true) ds => (match ds[j]? with | some x => .nd (.lst true) (ds.set j (D.setAt js e x)) | none => .nd (.lst true) ds)
  | _ :: _, _, d => d
def D.upP (js : List Nat) (g : D → Option D) (d : D) : Option D := match D.at js d with
  | some e => (match g e with
    | some e' => some (D.setAt js e' d)
    | none => none)
  | none => none
/-- the places that indexes name -/
def D.pth : List D → D → Option (List Nat)
  | [], _ => some []
  | .int i :: ks, .nd (.lst true) ds => (match ixN ds.length i with
    | some j => (match ds[j]? with
      | some e => (match D.pth ks e with
        | some js => some (j :: js)
        | none => none)
      | none => none)
    | none => none)
  | _ :: _, _ => none
def D.popAt (o k : D) : Option D := match o, k with
  | .nd (.lst true) ds, .int i => if -(2 ^ 63) ≤ i ∧ i < 2 ^ 63 then (match ixN ds.length i with
    | some j => some (.lst true (ds.eraseIdx j))
    | none => none) else none
  | _, _ => none
def lsnoc (l : XL) (a : XP) : XL := fun ρ => (l ρ).noX.bind fun ds => (a ρ).noX.bind fun d => .val (ds ++ [d])
/-- slot i [l..] . method(a) -/
def sP1 (g : D → D → Option D) (i : Nat) (l : XL) (a : XP) : XS := fun ρ => match getE ρ i with
  | some d => (l ρ).noX.so ρ fun ks => (match D.pth ks d with
    | some js => (match D.at js d with
      | some (.nd (.lst true) _) => (a ρ).so ρ fun v => (match D.upP js (fun e => g e v) d with
        | some d' => .nx (setE ρ i d')
        | none => .bad)
      | _ => .bad)
    | none => .bad)
  | none => .bad
/-- slot i [l..][k] = a: the value first -/
def sPutP (i : Nat) (l : XL) (k a : XP) : XS := fun ρ => (a ρ).so ρ fun v => match getE ρ i with
  | some d => (l ρ).noX.so ρ fun ks => (match D.pth ks d with
    | some js => (k ρ).so ρ fun k => (match D.upP js (fun e => D.put e k v) d with
      | some d' => .nx (setE ρ i d')
      | none => .bad)
    | none => .bad)
  | none => .bad
/-- what stands at a path is read only from here on -/
def frzPE (ρ : Env) (i : Nat) (js : List Nat) : Env := match getE ρ i with
  | some d => (match D.upP js (fun e => some e.frz) d with
    | some d' => setE ρ i d'
    | none => ρ)
  | none => ρ
def sFrzP (i : Nat) (js : List Nat) (f : XS) : XS := fun ρ => f (frzPE ρ i js)
def D.iadd : D → D → Option D
  | .int i, .int j => some (.int (i + j))
  | .str s, .str t => if s.length + t.length ≤ LINE then some (.str (s ++ t)) else none
  | _, _ => none
/-- small letters -/
def loA (c : Nat) : Nat := if 65 ≤ c ∧ c ≤ 90 then c + 32 else c
def D.lower : D → Option D
  | .str t => if t.all (· < 128) ∧ t.length ≤ 5592405 then some (.str (t.map loA)) else none
  | _ => none
/-- isinstance with an own class -/
def D.isOw (cn : String) : D → Option Bool
  | .nd (.obj _ c _) _ => if c = cn then some true else none
  | .nd .tup _ => some false
  | .nd (.lst _) _ => some false
  | .non => some false
  | .bl _ => some false
  | .int _ => some false
  | .str _ => some false
  | _ => none
/-- name, name = e, e -/
def sPar (i j : Nat) (l : XL) : XS := fun ρ => (l ρ).so ρ fun ds => (match ds with
  | [d, e] => .nx (setE (setE ρ i d) j e)
  | _ => .bad)
/-! more expressions -/
/-- a op b op c -/
def tchn (g h : D → D → Option Bool) (a b c : XP) : XB := fun ρ => (a ρ).bind fun d => (b ρ).bind fun e => (Res.ofO (g d e)).bind fun k => if k then (c ρ).bind fun f => .ofO (h e f) else .val false
/-- of a text and a value -/
def bnS (g : D → D → Option D) (a b : XP) : XP := fun ρ => (a ρ).bind fun d => match d with
  | .str _ => (b ρ).bind fun e => .ofO (g d e)
  | _ => .bad
def unS (g : D → Option D) (a : XP) : XP := fun ρ => (a ρ).bind fun d => match d with
  | .str _ => .ofO (g d)
  | _ => .bad
/-- d.get(k, x): what is got is frozen -/
def D.getd (d k x : D) : Option D := match d with
  | .nd (.dic _ ks) vs => (match k.toKy with
    | some k => if kOk ks k ∧ vs.all D.fz ∧ x.fz then some ((kget ks vs k).getD x) else none
    | none => none)
  | _ => none
def dgetX (a k x : XP) : XP := fun ρ => (a ρ).bind fun d => match d with
  | .nd (.dic _ _) _ => (k ρ).bind fun k => (x ρ).bind fun x => .ofO (D.getd d k x)
  | _ => .bad
/-- what is walked: a frozen dict's keys, or a sequence -/
def D.noDic : D → Bool
  | .nd (.dic _ _) _ => false
  | _ => true
def iSeq (a : XP) : XI2 := fun ρ => (a ρ).bind fun d => if D.noDic d then .ofO (D.its d) else .bad
/-- a fresh list, frozen with all in it -/
def iSeqF (a : XP) : XI2 := fun ρ => (a ρ).bind fun d => match d with
  | .nd (.lst true) ds => .val (ds.map D.frz)
  | _ => .bad
def iKv (f1 f2 : XP) : XI2 := fun ρ => match f1 ρ with
  | .val (.nd (.dic o ks) _) => if o = false ∧ ks.all Ky.isA then .val (ks.map Ky.d) else .bad
  | _ => iSeq f2 ρ
end Lc
end
section
/-! The pure layer: defs. -/
namespace Lc
/-- the slots at a def's entry -/
def startE (n : Nat) (ds : List D) : Env := ds.map some ++ List.replicate (n - ds.length) none
/-- what a def computes by its body; np: its parameters, n: its slots -/
def fnP (np n : Nat) (f : XS) (ds : List D) : Res D := if ds.length = np then (match f (startE n ds) with
  | .nx _ => .val .non
  | .rt d => .val d
  | .exc _ c ns vs => .exc c ns vs
  | _ => .bad) else .bad
/-- what a class makes by its __init__; fz: never written later -/
def mkP (fz : Bool) (c : String) (np n : Nat) (f : XS) (ds : List D) : Res D := if ds.length = np then (match f (startE n (.obj true c [] [] :: ds)) with
  | .nx ρ => (match getE ρ 0 with
    | some d => .val (if fz then d.frz else d)
    | none => .bad)
  | .exc _ c ns vs => .exc c ns vs
  | _ => .bad) else .bad
end Lc
end
section
/-! The pure layer: f-strings. -/
namespace Lc
open PySem
/-- the text of a value in an f-string -/
def D.fmt : D → Option Tx
  | .str t => some t
  | .int i => if ItOk i then some (itx i) else none
  | _ => none
/-- parts joined -/
def fsJ : List XP → Tx → XP
  | [], out => fun _ => .val (.str out)
  | f :: fs, out => fun ρ => (f ρ).bind fun d => match D.fmt d with
    | some t => if out.length + t.length ≤ LINE then fsJ fs (out ++ t) ρ else .bad
    | none => .bad
end Lc
end
section
set_option Elab.async false
set_option linter.all false
set_option maxRecDepth 100000
set_option maxHeartbeats 2000000
/-! The relation of trees to the abstract heap: F the frozen part, fp the owned addresses. -/
namespace Lc
open PySem PySem.Spec L2
theorem LINE_eq : LINE = sizeLine := by rw [sizeLine_eq]; rfl
/-- a text that the model can hold -/
def TxOk (t : Tx) : Prop := t.length ≤ LINE ∧ ∀ c ∈ t, c < 1114112
def stx (t : Tx) : Str := ⟨t.toArray⟩
theorem stx_len (t : Tx) : (stx t).length = t.length := by show t.toArray.size = _; simp
theorem stx_inj {s t : Tx} (h : stx s = stx t) : s = t := by
  have := congrArg (fun z : Str => z.cps.toList) h
  simpa [stx] using this
def kaK : Ka → Key
  | .i n => .inl n
  | .s t => .inr (stx t)
theorem kaK_inj {a b : Ka} (h : kaK a = kaK b) : a = b := by
  cases a <;> cases b
  · cases h; rfl
  · cases h
  · cases h
  · injection h with h; rw [stx_inj h]
abbrev CMap := String → Option Addr
def Ka.ok : Ka → Prop
  | .i _ => True
  | .s t => TxOk t
def Ky.ok : Ky → Prop
  | .a k => k.ok
  | .t ks => ∀ k ∈ ks, k.ok
/-- the object at p is a node of kind k with the children vs; R: how a dict is read -/
def KAt (CM : CMap) (G : Hp) (R : Addr → HO → Prop) (k : Kd) (p : Addr) (vs : List V) : Prop := match k with
  | .tup => G p = some (.tup vs) ∧ vs.length ≤ LINE
  | .lst _ => G p = some (.lst vs) ∧ vs.length ≤ LINE
  | .dic _ ks => vs.length = ks.length ∧ (vs.length ≤ LINE ∧ ∀ k ∈ ks, Ky.ok k) ∧ ((∃ as : List Ka, ks = as.map Ky.a ∧ R p (.dK ((as.map kaK).zip vs))) ∨ ∃ ts : List (List Ka), ks = ts.map Ky.t ∧ R p (.dT ((ts.map (·.map kaK)).zip vs)))
  | .obj _ c ns => vs.length = ns.length ∧ ∃ C dx, CM c = some C ∧ G p = some (.ins C dx ((ns.map Str.ofString).zip vs))
  | .scr => (∃ o, G p = some (.frz o (.lst vs))) ∧ vs.length ≤ LINE
  | .xob c ns => vs.length = ns.length ∧ CM "!a" = some p ∧ ∃ C dx, CM c = some C ∧ CM "!c" = some C ∧ CM "!d" = some dx ∧ G dx = some (.xd ((ns.map Str.ofString).zip vs))
theorem KAt.mono {CM : CMap} {G G' : Hp} {R R' : Addr → HO → Prop} {k : Kd} {p : Addr} {vs : List V} (h : KAt CM G R k p vs) (g : ∀ o, G p = some o → G' p = some o) (m : ∀ o, R p o → R' p o) (gx : ∀ c ns, k = .xob c ns → ∀ a o, G a = some o → G' a = some o) : KAt CM G' R' k p vs := by
  cases k with
  | tup => exact ⟨g _ h.1, h.2⟩
  | lst o => exact ⟨g _ h.1, h.2⟩
  | dic o ks =>
    obtain ⟨h1, h2, h3⟩ := h
    refine ⟨h1, h2, ?_⟩
    rcases h3 with ⟨as, e, r⟩ | ⟨ts, e, r⟩
    · exact .inl ⟨as, e, m _ r⟩
    · exact .inr ⟨ts, e, m _ r⟩
  | obj o c ns =>
    obtain ⟨h1, C, dx, h2, h3⟩ := h
    exact ⟨h1, C, dx, h2, g _ h3⟩
  | scr =>
    obtain ⟨⟨o, h1⟩, h2⟩ := h
    exact ⟨⟨o, g _ h1⟩, h2⟩
  | xob c ns =>
    obtain ⟨h1, h2, C, dx, h3, h4, h5, h6⟩ := h
    exact ⟨h1, h2, C, dx, h3, h4, h5, gx _ _ rfl _ _ h6⟩
/-- .. whatever the flag -/
theorem KAt.frz {CM : CMap} {G : Hp} {R : Addr → HO → Prop} {k : Kd} {p : Addr} {vs : List V} (h : KAt CM G R k p vs) : KAt CM G R k.frz p vs := by
  cases k <;> exact h
/-- a dict that is read: as it stands, or locked and not empty -/
def RdN (F : Hp) (a : Addr) (o : HO) : Prop := F a = some o ∨ ((o ≠ .dK [] ∧ o ≠ .dT []) ∧ ∃ u, F a = some (.frz u o))
theorem RdN.rd {F : Hp} {a : Addr} {o : HO} (h : RdN F a o) : Rd F a o := by
  rcases h with h | ⟨_, u, h⟩
  · exact .inl h
  · exact .inr ⟨u, h⟩
/-- read exactly -/
abbrev RdX (H : Hp) : Addr → HO → Prop := fun a o => H a = some o
mutual
/-- a frozen tree -/
def Rep (CM : CMap) (F : Hp) : D → V → Prop
  | .non, v => v = .non
  | .bl b, v => v = .bl b
  | .int i, v => v = .int i
  | .str t, v => v = .str (stx t) ∧ TxOk t
  | .nd k ds, v => k.own = false ∧ ∃ p vs, v = .ref p ∧ KAt CM F (RdN F) k p vs ∧ Reps CM F ds vs
def Reps (CM : CMap) (F : Hp) : List D → List V → Prop
  | [], vs => vs = []
  | d :: ds, vs => ∃ v r, vs = v :: r ∧ Rep CM F d v ∧ Reps CM F ds r
end
mutual
/-- a tree with owned nodes: fp their addresses -/
def RepO (CM : CMap) (F H : Hp) : D → V → List Addr → Prop
  | .nd k ds, v, fp => if k.own = true then ∃ p vs fps, v = .ref p ∧ KAt CM H (RdX H) k p vs ∧ RepOs CM F H ds vs fps ∧ fp = p :: fps else Rep CM F (.nd k ds) v ∧ fp = []
  | .non, v, fp => v = .non ∧ fp = []
  | .bl b, v, fp => v = .bl b ∧ fp = []
  | .int i, v, fp => v = .int i ∧ fp = []
  | .str t, v, fp => (v = .str (stx t) ∧ TxOk t) ∧ fp = []
def RepOs (CM : CMap) (F H : Hp) : List D → List V → List Addr → Prop
  | [], vs, fp => vs = [] ∧ fp = []
  | d :: ds, vs, fp => ∃ v r f g, vs = v :: r ∧ fp = f ++ g ∧ RepO CM F H d v f ∧ RepOs CM F H ds r g
end
section
variable {CM : CMap} {F F' H H' : Hp}
theorem rd_same (s : Same F F') {p : Addr} {o : HO} (h : RdN F p o) : RdN F' p o := by
  rcases h with h | ⟨n, u, h⟩
  · exact .inl (s _ _ h)
  · exact .inr ⟨n, u, s _ _ h⟩
mutual
theorem Rep.mono (s : Same F F') : ∀ (d : D) (v : V), Rep CM F d v → Rep CM F' d v
  | .non, v, h => h
  | .bl b, v, h => h
  | .int i, v, h => h
  | .str t, v, h => h
  | .nd k ds, v, h => by
    obtain ⟨h1, p, vs, h2, h3, h4⟩ := (show k.own = false ∧ ∃ p vs, v = .ref p ∧ KAt CM F (RdN F) k p vs ∧ Reps CM F ds vs from by unfold Rep at h; exact h)
    unfold Rep
    exact ⟨h1, p, vs, h2, h3.mono (fun _ e => s _ _ e) (fun _ => rd_same s) (fun _ _ _ => s), Reps.mono s ds vs h4⟩
theorem Reps.mono (s : Same F F') : ∀ (ds : List D) (vs : List V), Reps CM F ds vs → Reps CM F' ds vs
  | [], vs, h => h
  | d :: ds, vs, h => by
    unfold Reps at h ⊢
    obtain ⟨v, r, h1, h2, h3⟩ := h
    exact ⟨v, r, h1, Rep.mono s d v h2, Reps.mono s ds r h3⟩
end
theorem Rep.nd_iff {k : Kd} {ds : List D} {v : V} : Rep CM F (.nd k ds) v ↔ (k.own = false ∧ ∃ p vs, v = .ref p ∧ KAt CM F (RdN F) k p vs ∧ Reps CM F ds vs) := by rw [Rep]
theorem RepO.nd_iff {k : Kd} {ds : List D} {v : V} {fp : List Addr} : RepO CM F H (.nd k ds) v fp ↔ (if k.own = true then ∃ p vs fps, v = .ref p ∧ KAt CM H (RdX H) k p vs ∧ RepOs CM F H ds vs fps ∧ fp = p :: fps else Rep CM F (.nd k ds) v ∧ fp = []) := by rw [RepO]
theorem RepOs.cons_iff {d : D} {ds : List D} {vs : List V} {fp : List Addr} : RepOs CM F H (d :: ds) vs fp ↔ ∃ v r f g, vs = v :: r ∧ fp = f ++ g ∧ RepO CM F H d v f ∧ RepOs CM F H ds r g := by rw [RepOs]
theorem RepOs.nil_iff {vs : List V} {fp : List Addr} : RepOs CM F H [] vs fp ↔ vs = [] ∧ fp = [] := by rw [RepOs]
theorem Reps.cons_iff {d : D} {ds : List D} {vs : List V} : Reps CM F (d :: ds) vs ↔ ∃ v r, vs = v :: r ∧ Rep CM F d v ∧ Reps CM F ds r := by rw [Reps]
theorem Reps.nil_iff {vs : List V} : Reps CM F [] vs ↔ vs = [] := by rw [Reps]
mutual
theorem RepO.ext (s : Same F F') (t : Same H H') : ∀ (d : D) (v : V) (fp : List Addr), RepO CM F H d v fp → RepO CM F' H' d v fp
  | .non, v, fp, h => by unfold RepO at h ⊢; exact h
  | .bl b, v, fp, h => by unfold RepO at h ⊢; exact h
  | .int i, v, fp, h => by unfold RepO at h ⊢; exact h
  | .str x, v, fp, h => by unfold RepO at h ⊢; exact h
  | .nd k ds, v, fp, h => by
    rw [RepO.nd_iff] at h ⊢
    by_cases hk : k.own = true
    · rw [if_pos hk] at h ⊢
      obtain ⟨p, vs, fps, h1, h2, h3, h4⟩ := h
      exact ⟨p, vs, fps, h1, h2.mono (fun _ e => t _ _ e) (fun _ e => t _ _ e) (fun _ _ _ => t), RepOs.ext s t ds vs fps h3, h4⟩
    · rw [if_neg hk] at h ⊢
      exact ⟨Rep.mono s _ _ h.1, h.2⟩
theorem RepOs.ext (s : Same F F') (t : Same H H') : ∀ (ds : List D) (vs : List V) (fp : List Addr), RepOs CM F H ds vs fp → RepOs CM F' H' ds vs fp
  | [], vs, fp, h => by unfold RepOs at h ⊢; exact h
  | d :: ds, vs, fp, h => by
    unfold RepOs at h ⊢
    obtain ⟨v, r, f, g, h1, h2, h3, h4⟩ := h
    exact ⟨v, r, f, g, h1, h2, RepO.ext s t d v f h3, RepOs.ext s t ds r g h4⟩
end
/-- no tuple -/
def NT (o : HO) : Prop := ∀ vs, o ≠ .tup vs
theorem KAt.there {k : Kd} {p : Addr} {vs : List V} (hk : k.own = true) (h : KAt CM H (RdX H) k p vs) : ∃ o, H p = some o ∧ NT o := by
  cases k with
  | tup => cases hk
  | lst o => exact ⟨_, h.1, fun _ z => nomatch z⟩
  | dic o ks =>
    obtain ⟨_, _, ⟨_, _, r⟩ | ⟨_, _, r⟩⟩ := h
    · exact ⟨_, r, fun _ z => nomatch z⟩
    · exact ⟨_, r, fun _ z => nomatch z⟩
  | obj o c ns =>
    obtain ⟨_, C, dx, _, r⟩ := h
    exact ⟨_, r, fun _ z => nomatch z⟩
  | scr => cases hk
  | xob c ns => cases hk
mutual
theorem RepO.dom : ∀ (d : D) (v : V) (fp : List Addr), RepO CM F H d v fp → ∀ p ∈ fp, ∃ o, H p = some o ∧ NT o
  | .non, v, fp, h => by unfold RepO at h; rw [h.2]; intro p hp; cases hp
  | .bl b, v, fp, h => by unfold RepO at h; rw [h.2]; intro p hp; cases hp
  | .int i, v, fp, h => by unfold RepO at h; rw [h.2]; intro p hp; cases hp
  | .str x, v, fp, h => by unfold RepO at h; rw [h.2]; intro p hp; cases hp
  | .nd k ds, v, fp, h => by
    rw [RepO.nd_iff] at h
    by_cases hk : k.own = true
    · rw [if_pos hk] at h
      obtain ⟨p, vs, fps, h1, h2, h3, rfl⟩ := h
      intro q hq
      rcases List.mem_cons.mp hq with e | hq
      · rw [e]; exact h2.there hk
      · exact RepOs.dom ds vs fps h3 q hq
    · rw [if_neg hk] at h
      rw [h.2]; intro p hp; cases hp
theorem RepOs.dom : ∀ (ds : List D) (vs : List V) (fp : List Addr), RepOs CM F H ds vs fp → ∀ p ∈ fp, ∃ o, H p = some o ∧ NT o
  | [], vs, fp, h => by unfold RepOs at h; rw [h.2]; intro p hp; cases hp
  | d :: ds, vs, fp, h => by
    unfold RepOs at h
    obtain ⟨v, r, f, g, h1, rfl, h3, h4⟩ := h
    intro p hp
    rcases List.mem_append.mp hp with hp | hp
    · exact RepO.dom d v f h3 p hp
    · exact RepOs.dom ds r g h4 p hp
end
/-- a root that is frozen -/
theorem RepO.of_fz : ∀ {d : D} {v : V} {fp : List Addr}, d.fz = true → RepO CM F H d v fp → Rep CM F d v ∧ fp = []
  | .non, v, fp, _, h => by unfold RepO at h; unfold Rep; exact h
  | .bl b, v, fp, _, h => by unfold RepO at h; unfold Rep; exact h
  | .int i, v, fp, _, h => by unfold RepO at h; unfold Rep; exact h
  | .str x, v, fp, _, h => by unfold RepO at h; unfold Rep; exact h
  | .nd k ds, v, fp, hf, h => by
    have hk : ¬ k.own = true := by
      intro e
      have : (!k.own) = true := hf
      rw [e] at this; cases this
    rw [RepO.nd_iff, if_neg hk] at h
    exact h
theorem Rep.fz : ∀ {d : D} {v : V}, Rep CM F d v → d.fz = true
  | .non, _, _ => rfl
  | .bl _, _, _ => rfl
  | .int _, _, _ => rfl
  | .str _, _, _ => rfl
  | .nd k ds, v, h => by
    rw [Rep.nd_iff] at h
    show (!k.own) = true
    rw [h.1]; rfl
theorem Rep.o : ∀ {d : D} {v : V}, Rep CM F d v → RepO CM F H d v []
  | .non, _, h => by unfold Rep at h; unfold RepO; exact ⟨h, rfl⟩
  | .bl _, _, h => by unfold Rep at h; unfold RepO; exact ⟨h, rfl⟩
  | .int _, _, h => by unfold Rep at h; unfold RepO; exact ⟨h, rfl⟩
  | .str _, _, h => by unfold Rep at h; unfold RepO; exact ⟨h, rfl⟩
  | .nd k ds, v, h => by
    have hk : ¬ k.own = true := by rw [(Rep.nd_iff.mp h).1]; exact Bool.false_ne_true
    rw [RepO.nd_iff, if_neg hk]
    exact ⟨h, rfl⟩
theorem Reps.o : ∀ {ds : List D} {vs : List V}, Reps CM F ds vs → RepOs CM F H ds vs []
  | [], vs, h => by unfold Reps at h; unfold RepOs; exact ⟨h, rfl⟩
  | d :: ds, vs, h => by
    obtain ⟨v, r, h1, h2, h3⟩ := Reps.cons_iff.mp h
    rw [RepOs.cons_iff]
    exact ⟨v, r, [], [], h1, rfl, h2.o, Reps.o h3⟩
theorem Reps.length : ∀ {ds : List D} {vs : List V}, Reps CM F ds vs → ds.length = vs.length
  | [], vs, h => by rw [Reps.nil_iff.mp h]; rfl
  | d :: ds, vs, h => by
    obtain ⟨v, r, rfl, h2, h3⟩ := Reps.cons_iff.mp h
    rw [List.length_cons, List.length_cons, Reps.length h3]
theorem RepOs.length : ∀ {ds : List D} {vs : List V} {fp : List Addr}, RepOs CM F H ds vs fp → ds.length = vs.length
  | [], vs, fp, h => by rw [(RepOs.nil_iff.mp h).1]; rfl
  | d :: ds, vs, fp, h => by
    obtain ⟨v, r, f, g, rfl, _, h2, h3⟩ := RepOs.cons_iff.mp h
    rw [List.length_cons, List.length_cons, RepOs.length h3]
theorem Reps.append : ∀ {ds es : List D} {vs us : List V}, Reps CM F ds vs → Reps CM F es us → Reps CM F (ds ++ es) (vs ++ us)
  | [], es, vs, us, h, k => by rw [Reps.nil_iff.mp h]; exact k
  | d :: ds, es, vs, us, h, k => by
    obtain ⟨v, r, rfl, h2, h3⟩ := Reps.cons_iff.mp h
    rw [List.cons_append, List.cons_append, Reps.cons_iff]
    exact ⟨v, _, rfl, h2, Reps.append h3 k⟩
theorem RepOs.append : ∀ {ds es : List D} {vs us : List V} {f g : List Addr}, RepOs CM F H ds vs f → RepOs CM F H es us g → RepOs CM F H (ds ++ es) (vs ++ us) (f ++ g)
  | [], es, vs, us, f, g, h, k => by obtain ⟨rfl, rfl⟩ := RepOs.nil_iff.mp h; exact k
  | d :: ds, es, vs, us, f, g, h, k => by
    obtain ⟨v, r, f1, f2, rfl, rfl, h2, h3⟩ := RepOs.cons_iff.mp h
    rw [List.cons_append, List.cons_append, RepOs.cons_iff]
    exact ⟨v, _, f1, f2 ++ g, rfl, by rw [List.append_assoc], h2, RepOs.append h3 k⟩
theorem Reps.get : ∀ {ds : List D} {vs : List V} {i : Nat} {d : D}, Reps CM F ds vs → ds[i]? = some d → ∃ v, vs[i]? = some v ∧ Rep CM F d v
  | [], _, _, _, _, e => by simp at e
  | x :: ds, vs, 0, d, h, e => by
    obtain ⟨v, r, rfl, h2, h3⟩ := Reps.cons_iff.mp h
    simp at e; subst e
    exact ⟨v, rfl, h2⟩
  | x :: ds, vs, i + 1, d, h, e => by
    obtain ⟨v, r, rfl, h2, h3⟩ := Reps.cons_iff.mp h
    obtain ⟨u, e1, e2⟩ := Reps.get (i := i) h3 (by simpa using e)
    exact ⟨u, by simpa using e1, e2⟩
theorem RepOs.get : ∀ {ds : List D} {vs : List V} {i : Nat} {d : D} {fp : List Addr}, RepOs CM F H ds vs fp → ds[i]? = some d → ∃ v f, vs[i]? = some v ∧ RepO CM F H d v f
  | [], _, _, _, _, _, e => by simp at e
  | x :: ds, vs, 0, d, fp, h, e => by
    obtain ⟨v, r, f, g, rfl, _, h2, h3⟩ := RepOs.cons_iff.mp h
    simp at e; subst e
    exact ⟨v, f, rfl, h2⟩
  | x :: ds, vs, i + 1, d, fp, h, e => by
    obtain ⟨v, r, f, g, rfl, _, h2, h3⟩ := RepOs.cons_iff.mp h
    obtain ⟨u, f', e1, e2⟩ := RepOs.get (i := i) h3 (by simpa using e)
    exact ⟨u, f', by simpa using e1, e2⟩
/-- owned nodes adopted by the frozen part -/
def adopt (F H : Hp) (fp : List Addr) : Hp := fun a => if a ∈ fp then H a else F a
theorem adopt_in {fp : List Addr} {a : Addr} (h : a ∈ fp) : adopt F H fp a = H a := if_pos h
theorem adopt_out {fp : List Addr} {a : Addr} (h : a ∉ fp) : adopt F H fp a = F a := if_neg h
theorem adopt_ff {fp : List Addr} (n : ∀ p ∈ fp, F p = none) : Same F (adopt F H fp) := fun b o e => by
  rw [adopt_out fun h => by rw [n b h] at e; cases e]; exact e
theorem adopt_sub {fp : List Addr} (s : Same F H) : Same (adopt F H fp) H := fun b o e => by
  by_cases h : b ∈ fp
  · rw [adopt_in h] at e; exact e
  · rw [adopt_out h] at e; exact s _ _ e
mutual
theorem RepO.frz (s : Same F F') : ∀ (d : D) (v : V) (fp : List Addr), (∀ p ∈ fp, F' p = H p) → RepO CM F H d v fp → Rep CM F' d.frz v
  | .non, v, fp, _, h => by unfold RepO at h; rw [D.frz_non]; unfold Rep; exact h.1
  | .bl b, v, fp, _, h => by unfold RepO at h; rw [D.frz_bl]; unfold Rep; exact h.1
  | .int i, v, fp, _, h => by unfold RepO at h; rw [D.frz_int]; unfold Rep; exact h.1
  | .str x, v, fp, _, h => by unfold RepO at h; rw [D.frz_str]; unfold Rep; exact h.1
  | .nd k ds, v, fp, a, h => by
    rw [RepO.nd_iff] at h
    rw [D.frz]
    by_cases hk : k.own = true
    · rw [if_pos hk] at h ⊢
      obtain ⟨p, vs, fps, h1, h2, h3, rfl⟩ := h
      rw [Rep.nd_iff]
      have e : F' p = H p := a p List.mem_cons_self
      refine ⟨by cases k <;> rfl, p, vs, h1, (h2.mono (G' := F') (R' := RdN F') (fun o q => by rw [e]; exact q) (fun o q => .inl (by rw [e]; exact q)) (fun _ _ z => by rw [z] at hk; cases hk)).frz, RepOs.frz s ds vs fps (fun q hq => a q (List.mem_cons_of_mem _ hq)) h3⟩
    · rw [if_neg hk] at h ⊢
      exact Rep.mono s _ _ h.1
theorem RepOs.frz (s : Same F F') : ∀ (ds : List D) (vs : List V) (fp : List Addr), (∀ p ∈ fp, F' p = H p) → RepOs CM F H ds vs fp → Reps CM F' (D.frzs ds) vs
  | [], vs, fp, _, h => by rw [D.frzs, Reps.nil_iff]; exact (RepOs.nil_iff.mp h).1
  | d :: ds, vs, fp, a, h => by
    obtain ⟨v, r, f, g, rfl, rfl, h2, h3⟩ := RepOs.cons_iff.mp h
    rw [D.frzs, Reps.cons_iff]
    exact ⟨v, r, rfl, RepO.frz s d v f (fun p hp => a p (List.mem_append_left _ hp)) h2, RepOs.frz s ds r g (fun p hp => a p (List.mem_append_right _ hp)) h3⟩
end
end
/-! ### the slots -/
def SRep (CM : CMap) (F H : Hp) : Env → St → List Addr → Prop
  | [], σ, fp => σ = [] ∧ fp = []
  | o :: ρ, σ, fp => ∃ x σ' f g, σ = x :: σ' ∧ fp = f ++ g ∧ (match o with | none => f = [] | some d => ∃ v, x = some v ∧ RepO CM F H d v f) ∧ SRep CM F H ρ σ' g
structure Sl (CM : CMap) (F H : Hp) (ρ : Env) (σ : St) (fp : List Addr) : Prop where
  rep : SRep CM F H ρ σ fp
  nd : fp.Nodup
  nf : ∀ p ∈ fp, F p = none
  sub : Same F H
/-- the heap has grown, nothing is written -/
structure Ext (F H F' H' : Hp) : Prop where
  hh : Same H H'
  ff : Same F F'
  sub : Same F' H'
  new : ∀ a o, H a = some o → NT o → F a = none → F' a = none
section
variable {CM : CMap} {F F' F'' H H' H'' : Hp} {ρ : Env} {σ : St} {fp : List Addr}
theorem Ext.refl (s : Same F H) : Ext F H F H := ⟨Same.refl _, Same.refl _, s, fun _ _ _ _ n => n⟩
theorem Ext.trans (a : Ext F H F' H') (b : Ext F' H' F'' H'') : Ext F H F'' H'' :=
  ⟨a.hh.trans b.hh, a.ff.trans b.ff, b.sub, fun p o e t n => b.new p o (a.hh p o e) t (a.new p o e t n)⟩
theorem SRep.ext (s : Same F F') (t : Same H H') : ∀ {ρ : Env} {σ : St} {fp : List Addr}, SRep CM F H ρ σ fp → SRep CM F' H' ρ σ fp
  | [], _, _, h => h
  | o :: ρ, σ, fp, h => by
    obtain ⟨x, σ', f, g, h1, h2, h3, h4⟩ := h
    refine ⟨x, σ', f, g, h1, h2, ?_, SRep.ext s t h4⟩
    cases o with
    | none => exact h3
    | some d =>
      obtain ⟨v, e, r⟩ := h3
      exact ⟨v, e, RepO.ext s t d v f r⟩
theorem SRep.dom : ∀ {ρ : Env} {σ : St} {fp : List Addr}, SRep CM F H ρ σ fp → ∀ p ∈ fp, ∃ o, H p = some o ∧ NT o
  | [], _, _, h => by rw [h.2]; intro p hp; cases hp
  | o :: ρ, σ, fp, h => by
    obtain ⟨x, σ', f, g, h1, rfl, h3, h4⟩ := h
    intro p hp
    rcases List.mem_append.mp hp with hp | hp
    · cases o with
      | none => have h3' : f = [] := h3; rw [h3'] at hp; cases hp
      | some d =>
        obtain ⟨v, e, r⟩ := h3
        exact RepO.dom d v f r p hp
    · exact SRep.dom h4 p hp
theorem Sl.ext (s : Sl CM F H ρ σ fp) (e : Ext F H F' H') : Sl CM F' H' ρ σ fp :=
  ⟨s.rep.ext e.ff e.hh, s.nd, fun p hp => by
    obtain ⟨o, h, t⟩ := s.rep.dom p hp
    exact e.new p o h t (s.nf p hp), e.sub⟩
theorem SRep.get : ∀ {ρ : Env} {σ : St} {fp : List Addr} {i : Nat} {d : D}, SRep CM F H ρ σ fp → ρ[i]? = some (some d) → ∃ v f, σ[i]? = some (some v) ∧ RepO CM F H d v f
  | [], _, _, _, _, _, e => by simp at e
  | o :: ρ, σ, fp, 0, d, h, e => by
    obtain ⟨x, σ', f, g, rfl, _, h3, h4⟩ := h
    simp at e; subst e
    obtain ⟨v, rfl, r⟩ := h3
    exact ⟨v, f, rfl, r⟩
  | o :: ρ, σ, fp, i + 1, d, h, e => by
    obtain ⟨x, σ', f, g, rfl, _, h3, h4⟩ := h
    obtain ⟨v, f', e1, e2⟩ := SRep.get (i := i) h4 (by simpa using e)
    exact ⟨v, f', by simpa using e1, e2⟩
theorem SRep.length : ∀ {ρ : Env} {σ : St} {fp : List Addr}, SRep CM F H ρ σ fp → ρ.length = σ.length
  | [], _, _, h => by rw [h.1]; rfl
  | o :: ρ, σ, fp, h => by
    obtain ⟨x, σ', f, g, rfl, _, h3, h4⟩ := h
    rw [List.length_cons, List.length_cons, SRep.length h4]
end
/-! ### readings -/
/-- what is wanted of an exception -/
def RE (CM : CMap) (W : WX) (σ : St) (F H : Hp) (c : String) (ns : List String) (ds : List D) : Prop :=
  ∀ C dx F' H' vs, CM c = some C → Ext F H F' H' → F' dx = some (.xd ((ns.map Str.ofString).zip vs)) → ns.length = ds.length → Reps CM F' ds vs → W (.ref C) (some dx) σ H'
/-- .. of a value that may be kept -/
def RX (CM : CMap) (W : WX) (σ : St) (F H : Hp) (Q : VK) : Res D → Prop
  | .val d => ∀ v F' H' g, Ext F H F' H' → RepO CM F' H' d v g → g.Nodup → (∀ p ∈ g, H p = none ∧ F' p = none) → Q v H'
  | .exc c ns ds => RE CM W σ F H c ns ds
  | .bad => False
/-- .. of a value that is looked at -/
def RO (CM : CMap) (W : WX) (σ : St) (F H : Hp) (Q : VK) : Res D → Prop
  | .val d => ∀ v F' H' g, Ext F H F' H' → RepO CM F' H' d v g → Q v H'
  | .exc c ns ds => RE CM W σ F H c ns ds
  | .bad => False
/-- an expression that computes f: its value may be kept -/
def tX (CM : CMap) (W : WX) (f : XP) : TE := fun σ H Q => ∃ F ρ fp, Sl CM F H ρ σ fp ∧ RX CM W σ F H Q (f ρ)
/-- an expression that computes f: its value may be looked at -/
def tO (CM : CMap) (W : WX) (f : XP) : TE := fun σ H Q => ∃ F ρ fp, Sl CM F H ρ σ fp ∧ RO CM W σ F H Q (f ρ)
theorem _root_.L2.PE.weak {X : Cx} {e : Expr} {t t' : TE} (h : PE X e t) (w : ∀ σ H Q, t' σ H Q → t σ H Q) : PE X e t' :=
  ⟨fun pins s σ H Q I q => h.run pins s σ H Q I (w σ H Q q)⟩
section
variable {CM : CMap} {W : WX} {σ : St} {F H F' H' : Hp} {Q : VK} {X : Cx} {e : Expr} {f g : XP}
theorem RE.ext {c ns ds} (x : Ext F H F' H') (h : RE CM W σ F H c ns ds) : RE CM W σ F' H' c ns ds :=
  fun C dx F2 H2 vs h1 x2 h3 h4 h5 => h C dx F2 H2 vs h1 (x.trans x2) h3 h4 h5
theorem RO.rx {r : Res D} (h : RO CM W σ F H Q r) : RX CM W σ F H Q r := by
  cases r with
  | val d => exact fun v F' H' g x r _ _ => h v F' H' g x r
  | exc c ns ds => exact h
  | bad => exact h
theorem _root_.L2.PE.x_o (h : PE X e (tX CM W f)) : PE X e (tO CM W f) := h.weak fun σ H Q ⟨F, ρ, fp, s, q⟩ => ⟨F, ρ, fp, s, q.rx⟩
theorem RX.leak {r : Res D} (h : RX CM W σ F H Q (r.bind leak)) : RO CM W σ F H Q r := by
  cases r with
  | val d =>
    rw [Res.bind_val] at h
    unfold Lc.leak at h
    by_cases hf : d.fz = true
    · rw [if_pos hf] at h
      intro v F' H' g x r
      obtain ⟨r1, r2⟩ := RepO.of_fz hf r
      exact h v F' H' [] x r1.o List.nodup_nil (fun p hp => nomatch hp)
    · rw [if_neg hf] at h
      exact h.elim
  | exc c ns ds => exact h
  | bad => exact h
/-- a value that is frozen may be kept -/
theorem _root_.L2.PE.o_x (h : PE X e (tO CM W f)) : PE X e (tX CM W fun ρ => (f ρ).bind Lc.leak) := h.weak fun σ H Q ⟨F, ρ, fp, s, q⟩ => ⟨F, ρ, fp, s, RX.leak q⟩
theorem RX.ext {r : Res D} (x : Ext F H F' H') (h : RX CM W σ F H Q r) : RX CM W σ F' H' Q r := by
  cases r with
  | val d => exact fun v F2 H2 g x2 r n f => h v F2 H2 g (x.trans x2) r n fun p hp => ⟨x.hh.free (f p hp).1, (f p hp).2⟩
  | exc c ns ds => exact RE.ext x h
  | bad => exact h
/-- behind an operand that is looked at -/
theorem RO.then_ {r : Res D} {k : D → Res D} {Q' : VK} (h : RX CM W σ F H Q (r.bind k))
    (go : ∀ d v F' H' g, r = .val d → Ext F H F' H' → RepO CM F' H' d v g → RX CM W σ F' H' Q (k d) → Q' v H') : RO CM W σ F H Q' r := by
  cases r with
  | val d => exact fun v F' H' g x r => go d v F' H' g rfl x r (RX.ext x h)
  | exc c ns ds => exact h
  | bad => exact h
/-- what an operation wants -/
def RV (CM : CMap) (F H : Hp) (Q : VK) : Option D → Prop
  | some d => ∀ v F' H' g, Ext F H F' H' → RepO CM F' H' d v g → g.Nodup → (∀ p ∈ g, H p = none ∧ F' p = none) → Q v H'
  | none => False
theorem RX.v {o : Option D} (h : RX CM W σ F H Q (.ofO o)) : RV CM F H Q o := by
  cases o with
  | some d => exact h
  | none => exact h
/-- an operation of two values by its function -/
def rD (CM : CMap) (g : D → D → Option D) : R2 := fun x y H Q => ∃ F d e f1 f2, Same F H ∧ RepO CM F H d x f1 ∧ RepO CM F H e y f2 ∧ RV CM F H Q (g d e)
def rD1 (CM : CMap) (g : D → Option D) : V → Hp → VK → Prop := fun x H Q => ∃ F d f1, Same F H ∧ RepO CM F H d x f1 ∧ RV CM F H Q (g d)
/-- a new object laid: frozen -/
theorem Ext.lay {p : Addr} {o : HO} (s : Same F H) (n : H p = none) : Ext F H (upd F p o) (upd H p o) := by
  refine ⟨fun b u e => ?_, fun b u e => ?_, fun b u e => ?_, fun b u e _ k => ?_⟩
  · rw [upd_ne (ne_of_none e n)]; exact e
  · rw [upd_ne (ne_of_none (s _ _ e) n)]; exact e
  · by_cases h : b = p
    · subst h; rw [upd_same] at e ⊢; exact e
    · rw [upd_ne h] at e ⊢; exact s _ _ e
  · rw [upd_ne (ne_of_none e n)]; exact k
/-- .. owned -/
theorem Ext.own {p : Addr} {o : HO} (s : Same F H) (n : H p = none) : Ext F H F (upd H p o) := by
  refine ⟨fun b u e => ?_, Same.refl _, fun b u e => ?_, fun _ _ _ _ k => k⟩
  · rw [upd_ne (ne_of_none e n)]; exact e
  · rw [upd_ne (ne_of_none (s _ _ e) n)]; exact s _ _ e
/-- a value without new objects -/
theorem RV.here {d : D} {v : V} (h : RV CM F H Q (some d)) (s : Same F H) (r : Rep CM F d v) : Q v H :=
  h v F H [] (Ext.refl s) r.o List.nodup_nil (fun p hp => nomatch hp)
theorem rep_bl {b : Bool} : Rep CM F (.bl b) (.bl b) := by unfold Rep; rfl
theorem rep_int {i : Int} : Rep CM F (.int i) (.int i) := by unfold Rep; rfl
theorem rep_non : Rep CM F .non .non := by unfold Rep; rfl
theorem rep_str {t : Tx} (h : TxOk t) : Rep CM F (.str t) (.str (stx t)) := by unfold Rep; exact ⟨rfl, h⟩
end
/-! ### tests, lists of arguments -/
def RB (CM : CMap) (W : WX) (σ : St) (F H : Hp) (Q : Bool → Hp → Prop) : Res Bool → Prop
  | .val b => ∀ F' H', Ext F H F' H' → Q b H'
  | .exc c ns ds => RE CM W σ F H c ns ds
  | .bad => False
def tT (CM : CMap) (W : WX) (f : Env → Res Bool) : TT := fun σ H Q => ∃ F ρ fp, Sl CM F H ρ σ fp ∧ RB CM W σ F H Q (f ρ)
def RL (CM : CMap) (W : WX) (σ : St) (F H : Hp) (Q : List V → Hp → Prop) : Res (List D) → Prop
  | .val ds => ∀ vs F' H' g, Ext F H F' H' → RepOs CM F' H' ds vs g → g.Nodup → (∀ p ∈ g, H p = none ∧ F' p = none) → Q vs H'
  | .exc c ns ds => RE CM W σ F H c ns ds
  | .bad => False
def tL (CM : CMap) (W : WX) (f : Env → Res (List D)) : TA := fun σ H Q => ∃ F ρ fp, Sl CM F H ρ σ fp ∧ RL CM W σ F H Q (f ρ)
theorem _root_.L2.PT.weak {X : Cx} {e : Expr} {t t' : TT} (h : PT X e t) (w : ∀ σ H Q, t' σ H Q → t σ H Q) : PT X e t' :=
  ⟨fun pins s σ H Q I q => h.run pins s σ H Q I (w σ H Q q)⟩
theorem _root_.L2.PA.weak {X : Cx} {e : List Expr} {t t' : TA} (h : PA X e t) (w : ∀ σ H Q, t' σ H Q → t σ H Q) : PA X e t' :=
  ⟨fun pos pins s σ H Q I q => h.run pos pins s σ H Q I (w σ H Q q)⟩
theorem _root_.L2.PS.weak {X : Cx} {e : Stmt} {t t' : TS} (h : PS X e t) (w : ∀ D σ H, t' D σ H → t D σ H) : PS X e t' :=
  ⟨fun pins s σ H D I q => h.run pins s σ H D I (w D σ H q)⟩
theorem _root_.L2.PSs.weak {X : Cx} {e : List Stmt} {t t' : TS} (h : PSs X e t) (w : ∀ D σ H, t' D σ H → t D σ H) : PSs X e t' :=
  ⟨fun pins s σ H D I q => h.run pins s σ H D I (w D σ H q)⟩
end Lc
end
section
set_option Elab.async false
set_option linter.all false
set_option maxRecDepth 100000
set_option maxHeartbeats 2000000
/-! The operations of the language: each by its function on trees. -/
namespace Lc
open PySem PySem.Spec L2
section
variable {CM : CMap} {F F' H H' : Hp} {v : V} {fp : List Addr}
theorem ro_non (h : RepO CM F H .non v fp) : v = .non := by unfold RepO at h; exact h.1
theorem ro_bl {b : Bool} (h : RepO CM F H (.bl b) v fp) : v = .bl b := by unfold RepO at h; exact h.1
theorem ro_int {i : Int} (h : RepO CM F H (.int i) v fp) : v = .int i := by unfold RepO at h; exact h.1
theorem ro_str {t : Tx} (h : RepO CM F H (.str t) v fp) : v = .str (stx t) ∧ TxOk t := by unfold RepO at h; exact h.1
theorem ro_tup {ds : List D} (s : Same F H) (h : RepO CM F H (.tup ds) v fp) : ∃ p vs, v = .ref p ∧ H p = some (.tup vs) ∧ vs.length ≤ LINE ∧ Reps CM F ds vs ∧ F p = some (.tup vs) := by
  have h := (RepO.of_fz (d := .tup ds) rfl h).1
  rw [Rep.nd_iff] at h
  obtain ⟨_, p, vs, h1, h2, h3⟩ := h
  exact ⟨p, vs, h1, s _ _ h2.1, h2.2, h3, h2.1⟩
theorem ro_lst {o : Bool} {ds : List D} (s : Same F H) (h : RepO CM F H (.lst o ds) v fp) : ∃ p vs fps, v = .ref p ∧ H p = some (.lst vs) ∧ vs.length ≤ LINE ∧ RepOs CM F H ds vs fps := by
  cases o with
  | true =>
    rw [RepO.nd_iff, if_pos (show Kd.own (.lst true) = true from rfl)] at h
    obtain ⟨p, vs, fps, h1, h2, h3, _⟩ := h
    exact ⟨p, vs, fps, h1, h2.1, h2.2, h3⟩
  | false =>
    have h := (RepO.of_fz (d := .lst false ds) rfl h).1
    rw [Rep.nd_iff] at h
    obtain ⟨_, p, vs, h1, h2, h3⟩ := h
    exact ⟨p, vs, [], h1, s _ _ h2.1, h2.2, h3.o⟩
theorem ro_scr {ds : List D} (s : Same F H) (h : RepO CM F H (.nd .scr ds) v fp) : ∃ p vs o, v = .ref p ∧ H p = some (.frz o (.lst vs)) ∧ vs.length ≤ LINE ∧ Reps CM F ds vs := by
  have h := (RepO.of_fz (d := .nd .scr ds) rfl h).1
  rw [Rep.nd_iff] at h
  obtain ⟨_, p, vs, h1, ⟨⟨o, h2⟩, h2'⟩, h3⟩ := h
  exact ⟨p, vs, o, h1, s _ _ h2, h2', h3⟩
theorem ro_dic {o : Bool} {ks : List Ky} {ds : List D} (s : Same F H) (h : RepO CM F H (.dic o ks ds) v fp) : ∃ p vs fps, v = .ref p ∧ KAt CM H (RdN H) (.dic o ks) p vs ∧ RepOs CM F H ds vs fps := by
  cases o with
  | true =>
    rw [RepO.nd_iff, if_pos (show Kd.own (.dic true ks) = true from rfl)] at h
    obtain ⟨p, vs, fps, h1, h2, h3, _⟩ := h
    exact ⟨p, vs, fps, h1, h2.mono (fun _ e => e) (fun _ e => .inl e) (fun _ _ z => nomatch z), h3⟩
  | false =>
    have h := (RepO.of_fz (d := .dic false ks ds) rfl h).1
    rw [Rep.nd_iff] at h
    obtain ⟨_, p, vs, h1, h2, h3⟩ := h
    exact ⟨p, vs, [], h1, h2.mono (fun _ e => s _ _ e) (fun _ e => rd_same s e) (fun _ _ z => nomatch z), h3.o⟩
theorem ro_obj {o : Bool} {c : String} {ns : List String} {ds : List D} (s : Same F H) (h : RepO CM F H (.obj o c ns ds) v fp) :
    ∃ p vs fps C dx, v = .ref p ∧ vs.length = ns.length ∧ CM c = some C ∧ H p = some (.ins C dx ((ns.map Str.ofString).zip vs)) ∧ RepOs CM F H ds vs fps := by
  cases o with
  | true =>
    rw [RepO.nd_iff, if_pos (show Kd.own (.obj true c ns) = true from rfl)] at h
    obtain ⟨p, vs, fps, h1, ⟨h2, C, dx, h4, h5⟩, h3, _⟩ := h
    exact ⟨p, vs, fps, C, dx, h1, h2, h4, h5, h3⟩
  | false =>
    have h := (RepO.of_fz (d := .obj false c ns ds) rfl h).1
    rw [Rep.nd_iff] at h
    obtain ⟨_, p, vs, h1, ⟨h2, C, dx, h4, h5⟩, h3⟩ := h
    exact ⟨p, vs, [], C, dx, h1, h2, h4, s _ _ h5, h3.o⟩
theorem reps_fz : ∀ {ds : List D} {vs : List V} {fp : List Addr}, ds.all D.fz = true → RepOs CM F H ds vs fp → Reps CM F ds vs
  | [], vs, fp, _, h => by rw [Reps.nil_iff]; exact (RepOs.nil_iff.mp h).1
  | d :: ds, vs, fp, a, h => by
    obtain ⟨v, r, f, g, rfl, rfl, h2, h3⟩ := RepOs.cons_iff.mp h
    rw [List.all_cons, Bool.and_eq_true] at a
    rw [Reps.cons_iff]
    exact ⟨v, r, rfl, (RepO.of_fz a.1 h2).1, reps_fz a.2 h3⟩
theorem Reps.allFz : ∀ {ds : List D} {vs : List V}, Reps CM F ds vs → ds.all D.fz = true
  | [], _, _ => rfl
  | d :: ds, vs, h => by
    obtain ⟨v, r, rfl, h2, h3⟩ := Reps.cons_iff.mp h
    rw [List.all_cons, h2.fz, Reps.allFz h3]; rfl
theorem Reps.rep_append : ∀ {ds : List D} {vs : List V} (n : Nat), Reps CM F ds vs → Reps CM F (List.replicate n ds).flatten (List.replicate n vs).flatten
  | _, _, 0, _ => by rw [List.replicate_zero, List.replicate_zero]; exact Reps.nil_iff.mpr rfl
  | ds, vs, n + 1, h => by
    rw [List.replicate_succ, List.replicate_succ, List.flatten_cons, List.flatten_cons]
    exact h.append (Reps.rep_append n h)
theorem Reps.take : ∀ {ds : List D} {vs : List V} (n : Nat), Reps CM F ds vs → Reps CM F (ds.take n) (vs.take n)
  | ds, vs, 0, _ => by rw [List.take_zero, List.take_zero]; exact Reps.nil_iff.mpr rfl
  | [], vs, n + 1, h => by rw [Reps.nil_iff.mp h]; exact Reps.nil_iff.mpr rfl
  | d :: ds, vs, n + 1, h => by
    obtain ⟨v, r, rfl, h2, h3⟩ := Reps.cons_iff.mp h
    rw [List.take_succ_cons, List.take_succ_cons, Reps.cons_iff]
    exact ⟨v, _, rfl, h2, Reps.take n h3⟩
theorem Reps.drop : ∀ {ds : List D} {vs : List V} (n : Nat), Reps CM F ds vs → Reps CM F (ds.drop n) (vs.drop n)
  | ds, vs, 0, h => h
  | [], vs, n + 1, h => by rw [Reps.nil_iff.mp h]; exact Reps.nil_iff.mpr rfl
  | d :: ds, vs, n + 1, h => by
    obtain ⟨v, r, rfl, h2, h3⟩ := Reps.cons_iff.mp h
    rw [List.drop_succ_cons, List.drop_succ_cons]
    exact Reps.drop n h3
/-! ### new objects -/
variable {Q : VK}
theorem ro_newLst {ds : List D} {vs : List V} {p : Addr} {g : List Addr} (n : H p = none) (r : RepOs CM F H ds vs g) (l : vs.length ≤ LINE) : RepO CM F (upd H p (.lst vs)) (.lst true ds) (.ref p) (p :: g) := by
  rw [RepO.nd_iff, if_pos (show Kd.own (.lst true) = true from rfl)]
  exact ⟨p, vs, g, rfl, ⟨upd_same, l⟩, r.ext (Same.refl _) (fun b o e => by rw [upd_ne (ne_of_none e n)]; exact e), rfl⟩
theorem RV.lst {ds : List D} {vs : List V} (h : RV CM F H Q (some (.lst true ds))) (s : Same F H) (r : Reps CM F ds vs) (l : vs.length ≤ LINE) (p : Addr) (n : H p = none) : Q (.ref p) (upd H p (.lst vs)) :=
  h (.ref p) F _ [p] (Ext.own s n) (ro_newLst n r.o l) (by simp) (fun q hq => by
    have e : q = p := by simpa using hq
    subst e
    exact ⟨n, s.free n⟩)
theorem rep_newTup {ds : List D} {vs : List V} {p : Addr} (n : F p = none) (r : Reps CM F ds vs) (l : vs.length ≤ LINE) : Rep CM (upd F p (.tup vs)) (.tup ds) (.ref p) := by
  rw [Rep.nd_iff]
  exact ⟨rfl, p, vs, rfl, ⟨upd_same, l⟩, r.mono (fun b o e => by rw [upd_ne (ne_of_none e n)]; exact e)⟩
theorem RV.tup {ds : List D} {vs : List V} (h : RV CM F H Q (some (.tup ds))) (s : Same F H) (r : Reps CM F ds vs) (l : vs.length ≤ LINE) (p : Addr) (n : H p = none) : Q (.ref p) (upd H p (.tup vs)) :=
  h (.ref p) _ _ [] (Ext.lay s n) (rep_newTup (s.free n) r l).o List.nodup_nil (fun q hq => nomatch hq)
theorem RV.int {i : Int} (h : RV CM F H Q (some (.int i))) (s : Same F H) : Q (.int i) H := RV.here h s rep_int
theorem RV.bl {i : Bool} (h : RV CM F H Q (some (.bl i))) (s : Same F H) : Q (.bl i) H := RV.here h s rep_bl
theorem RV.str {t : Tx} (h : RV CM F H Q (some (.str t))) (s : Same F H) (l : TxOk t) : Q (.str (stx t)) H := RV.here h s (rep_str l)
theorem RV.bad {P : Prop} (h : RV CM F H Q none) : P := h.elim
end
theorem stx_app (s t : Tx) : stx (s ++ t) = stx s ++ stx t := by
  show (⟨(s ++ t).toArray⟩ : Str) = ⟨s.toArray ++ t.toArray⟩
  simp
theorem stx_cps (t : Tx) : (stx t).cps.toList = t := by simp [stx]
theorem TxOk.app {s t : Tx} (h : TxOk s) (k : TxOk t) (l : s.length + t.length ≤ LINE) : TxOk (s ++ t) :=
  ⟨by rw [List.length_append]; exact l, fun c hc => (List.mem_append.mp hc).elim (h.2 c) (k.2 c)⟩
theorem TxOk.one {c : Nat} (h : c < 1114112) : TxOk [c] := ⟨by show 1 ≤ LINE; decide, fun d hd => by
  have e : d = c := by simpa using hd
  rw [e]; exact h⟩
section
variable {X : Cx} {CM : CMap}
theorem op_mulB : OpR X (binaryOp .Mult) (rI MulOk fun i j => .int (i * j)) := opI fun i j _ _ _ _ _ hc q => PyProof.Rows.mul_int q (by
  have b : ∀ x : Int, Builtin.Int.intBits x ≤ x.natAbs.log2 + 1 := fun x => by
    unfold Builtin.Int.intBits
    split <;> omega
  have h1 := b i
  have h2 := b j
  have h3 : i.natAbs.log2 + j.natAbs.log2 < 100000000 := hc
  have e : bitsLine = 134217728 := by decide
  unfold IntMulOk
  intro z
  rw [Bool.and_eq_true] at z
  have z2 := z.2
  unfold Builtin.Int.intTooBig at z2
  have z3 := of_decide_eq_true z2
  rw [e] at z3
  omega)
theorem os_add : OpR X (binaryOp .Add) (rD CM D.add) := by
  intro pins s σ H x y v u Q I rx ry ⟨F, d, e, f1, f2, sF, rd, re, q⟩
  unfold D.add at q
  split at q
  · rw [ro_int rd] at rx; rw [ro_int re] at ry
    exact op_add pins s σ H _ _ v u Q I rx ry ⟨_, _, rfl, rfl, q.int sF⟩
  · split at q
    · rename_i hl
      rw [(ro_str rd).1] at rx; rw [(ro_str re).1] at ry
      refine op_add_str pins s σ H _ _ v u Q I rx ry ⟨_, _, rfl, rfl, ?_, ?_⟩
      · rw [stx_len, stx_len, ← LINE_eq]; exact hl
      · rw [← stx_app]; exact q.str sF ((ro_str rd).2.app (ro_str re).2 hl)
    · exact q.bad
  · split at q
    · rename_i hl
      obtain ⟨p, vs, f, rfl, hp, lp, r⟩ := ro_lst sF rd
      obtain ⟨p2, vs2, f2, rfl, hp2, lp2, r2⟩ := ro_lst sF re
      have l1 := r.length
      have l2 := r2.length
      have hz : vs.length + vs2.length ≤ LINE := by rw [← l1, ← l2]; exact hl.1
      refine op_cat pins s σ H _ _ v u Q I rx ry ⟨_, _, _, _, rfl, rfl, hp, hp2, ?_, fun p n => ?_⟩
      · rw [← LINE_eq]; exact hz
      · exact q.lst sF ((reps_fz hl.2.1 r).append (reps_fz hl.2.2 r2)) (by rw [List.length_append]; exact hz) p n
    · exact q.bad
  · split at q
    · rename_i xs ys hl
      obtain ⟨p, vs, rfl, hp, lp, r, _⟩ := ro_tup sF rd
      obtain ⟨p2, vs2, rfl, hp2, lp2, r2, _⟩ := ro_tup sF re
      have l1 := r.length
      have l2 := r2.length
      have hz : vs.length + vs2.length ≤ LINE := by rw [← l1, ← l2]; exact hl
      refine op_catA pins s σ H _ _ v u Q I rx ry ⟨_, _, _, _, rfl, rfl, SqT.of hp, SqT.of hp2, by rw [← LINE_eq]; exact hz, fun e0 => ?_, fun _ e0 => ?_, fun _ _ p n => ?_⟩
      · subst e0
        have : xs = [] := List.length_eq_zero_iff.mp l1
        rw [this, List.nil_append] at q
        exact q.here sF (RepO.of_fz (d := .tup ys) rfl re).1
      · subst e0
        have : ys = [] := List.length_eq_zero_iff.mp l2
        rw [this, List.append_nil] at q
        exact q.here sF (RepO.of_fz (d := .tup xs) rfl rd).1
      · exact q.tup sF (r.append r2) (by rw [List.length_append]; exact hz) p n
    · exact q.bad
  · exact q.bad
theorem os_sub : OpR X (binaryOp .Sub) (rD CM D.sub) := by
  intro pins s σ H x y v u Q I rx ry ⟨F, d, e, f1, f2, sF, rd, re, q⟩
  unfold D.sub at q
  split at q
  · rw [ro_int rd] at rx; rw [ro_int re] at ry
    exact op_sub pins s σ H _ _ v u Q I rx ry ⟨_, _, rfl, rfl, q.int sF⟩
  · exact q.bad
theorem os_fdiv : OpR X (binaryOp .FloorDiv) (rD CM D.fdiv) := by
  intro pins s σ H x y v u Q I rx ry ⟨F, d, e, f1, f2, sF, rd, re, q⟩
  unfold D.fdiv at q
  split at q
  · split at q
    · rename_i h
      rw [ro_int rd] at rx; rw [ro_int re] at ry
      exact op_fdiv pins s σ H _ _ v u Q I rx ry ⟨_, _, rfl, rfl, h, q.int sF⟩
    · exact q.bad
  · exact q.bad
theorem os_mod : OpR X (binaryOp .Mod) (rD CM D.mod) := by
  intro pins s σ H x y v u Q I rx ry ⟨F, d, e, f1, f2, sF, rd, re, q⟩
  unfold D.mod at q
  split at q
  · split at q
    · rename_i h
      rw [ro_int rd] at rx; rw [ro_int re] at ry
      exact op_mod pins s σ H _ _ v u Q I rx ry ⟨_, _, rfl, rfl, h, q.int sF⟩
    · exact q.bad
  · exact q.bad
theorem os_pow : OpR X (binaryOp .Pow) (rD CM D.pow) := by
  intro pins s σ H x y v u Q I rx ry ⟨F, d, e, f1, f2, sF, rd, re, q⟩
  unfold D.pow at q
  split at q
  · split at q
    · rename_i h
      rw [ro_int rd] at rx; rw [ro_int re] at ry
      exact op_pow pins s σ H _ _ v u Q I rx ry ⟨_, _, rfl, rfl, h, q.int sF⟩
    · exact q.bad
  · exact q.bad
theorem os_neg : UnR X (unaryOp .USub) (rD1 CM D.neg) := by
  intro pins s σ H x v Q I rx ⟨F, d, f1, sF, rd, q⟩
  unfold D.neg at q
  split at q
  · rw [ro_int rd] at rx
    exact un_neg pins s σ H _ v Q I rx ⟨_, rfl, q.int sF⟩
  · exact q.bad
/-! ### == of data -/
mutual
def D.toP : D → PyData
  | .non => .none
  | .bl b => .bool b
  | .int i => .int i
  | .str t => .str (stx t)
  | .nd k ds => (match k with | .tup => .tuple (D.toPs ds) | _ => .list (D.toPs ds))
def D.toPs : List D → List PyData
  | [] => []
  | d :: ds => D.toP d :: D.toPs ds
end
theorem toPs_map : ∀ ds : List D, D.toPs ds = ds.map D.toP
  | [] => by rw [D.toPs]; rfl
  | d :: ds => by rw [D.toPs, toPs_map ds]; rfl
theorem stx_beq (s t : Tx) : (stx s == stx t) = (s == t) := by
  rw [Bool.eq_iff_iff, beq_iff_eq, beq_iff_eq]
  exact ⟨stx_inj, fun e => by rw [e]⟩
theorem dat_nd {n : Nat} {k : Kd} {ds : List D} (h : D.dat (n + 1) (.nd k ds) = true) : (k = .tup ∨ ∃ o, k = .lst o) ∧ ∀ d ∈ ds, D.dat n d = true := by
  unfold D.dat at h
  rw [Bool.and_eq_true, List.all_eq_true] at h
  refine ⟨?_, h.2⟩
  cases k with
  | tup => exact .inl rfl
  | lst o => exact .inr ⟨o, rfl⟩
  | _ => exact absurd h.1 Bool.false_ne_true
theorem eqb_toP : ∀ (n : Nat) (d e : D), D.dat n d = true → D.dat n e = true → D.eqb d e = PyData.eqv d.toP e.toP := by
  intro n
  induction n with
  | zero =>
    intro d e hd he
    cases d <;> cases e <;> first
      | (exact absurd hd Bool.false_ne_true)
      | (exact absurd he Bool.false_ne_true)
      | (simp only [D.eqb, D.toP, PyData.eqv, stx_beq, b2i])
  | succ n ih =>
    have all : ∀ xs ys : List D, (∀ d ∈ xs, D.dat n d = true) → (∀ d ∈ ys, D.dat n d = true) → D.eqbs xs ys = PyData.eqvAll (D.toPs xs) (D.toPs ys) := by
      intro xs
      induction xs with
      | nil => intro ys _ _; cases ys <;> simp only [D.eqbs, D.toPs, PyData.eqvAll]
      | cons x xs ihx =>
        intro ys hx hy
        cases ys with
        | nil => simp only [D.eqbs, D.toPs, PyData.eqvAll]
        | cons y ys =>
          simp only [D.eqbs, D.toPs, PyData.eqvAll]
          rw [ih x y (hx x List.mem_cons_self) (hy y List.mem_cons_self), ihx ys (fun d h => hx d (List.mem_cons_of_mem _ h)) fun d h => hy d (List.mem_cons_of_mem _ h)]
    intro d e hd he
    cases d with
    | nd k ds =>
      obtain ⟨hk, ha⟩ := dat_nd hd
      cases e with
      | nd k' es =>
        obtain ⟨hk', ha'⟩ := dat_nd he
        rcases hk with rfl | ⟨o, rfl⟩ <;> rcases hk' with rfl | ⟨o', rfl⟩ <;> simp only [D.eqb, D.toP, PyData.eqv, all ds es ha ha', Bool.true_and, Bool.false_and]
      | _ => rcases hk with rfl | ⟨o, rfl⟩ <;> simp only [D.eqb, D.toP, PyData.eqv]
    | _ =>
      cases e with
      | nd k' es =>
        obtain ⟨hk', ha'⟩ := dat_nd he
        rcases hk' with rfl | ⟨o', rfl⟩ <;> simp only [D.eqb, D.toP, PyData.eqv]
      | _ => simp only [D.eqb, D.toP, PyData.eqv, stx_beq, b2i]
section
variable {K : PySem.W.Frag} {F H : Hp}
theorem dp_of (s : Same F H) : ∀ (n : Nat) (d : D) (v : V) (fp : List Addr), D.dat n d = true → RepO CM F H d v fp → Dp K H v d.toP ∧ d.toP.canLay0 = true ∧ d.toP.depth ≤ n := by
  intro n
  induction n with
  | zero =>
    intro d v fp hd h
    cases d with
    | nd k ds => exact absurd hd Bool.false_ne_true
    | non => rw [ro_non h]; unfold D.toP; exact ⟨.non, by simp [PyData.canLay0], by simp [PyData.depth]⟩
    | bl b => rw [ro_bl h]; unfold D.toP; exact ⟨.bl b, by simp [PyData.canLay0], by simp [PyData.depth]⟩
    | int i => rw [ro_int h]; unfold D.toP; exact ⟨.int i, by simp [PyData.canLay0], by simp [PyData.depth]⟩
    | str t =>
      obtain ⟨rfl, ok⟩ := ro_str h
      unfold D.toP
      refine ⟨.str _, ?_, by simp [PyData.depth]⟩
      simp only [PyData.canLay0, PyData.strOk, stx]
      rw [← Array.all_toList, List.all_eq_true]
      intro c hc
      exact decide_eq_true (ok.2 c (by simpa using hc))
  | succ n ih =>
    have all : ∀ (ds : List D) (vs : List V) (fp : List Addr), (∀ d ∈ ds, D.dat n d = true) → RepOs CM F H ds vs fp → DpAll K H vs (D.toPs ds) ∧ PyData.canLayAll0 (D.toPs ds) = true ∧ PyData.depthAll (D.toPs ds) ≤ n := by
      intro ds
      induction ds with
      | nil =>
        intro vs fp _ h
        obtain ⟨rfl, _⟩ := RepOs.nil_iff.mp h
        unfold D.toPs
        exact ⟨.nil, by simp [PyData.canLayAll0], by simp [PyData.depthAll]⟩
      | cons d ds ihd =>
        intro vs fp hd h
        obtain ⟨v, r, f, g, rfl, rfl, h2, h3⟩ := RepOs.cons_iff.mp h
        obtain ⟨a1, a2, a3⟩ := ih d v f (hd d List.mem_cons_self) h2
        obtain ⟨b1, b2, b3⟩ := ihd r g (fun d h => hd d (List.mem_cons_of_mem _ h)) h3
        unfold D.toPs
        refine ⟨.cons a1 b1, by simp [PyData.canLayAll0, a2, b2], ?_⟩
        simp only [PyData.depthAll]
        omega
    intro d v fp hd h
    cases d with
    | nd k ds =>
      obtain ⟨hk, ha⟩ := dat_nd hd
      rcases hk with rfl | ⟨o, rfl⟩
      · obtain ⟨p, vs, rfl, hp, lp, r, _⟩ := ro_tup s h
        obtain ⟨b1, b2, b3⟩ := all ds vs [] ha r.o
        simp only [D.toP]
        exact ⟨.tup (SqT.of hp) b1, by simp [PyData.canLay0, b2], by simp only [PyData.depth]; omega⟩
      · obtain ⟨p, vs, fps, rfl, hp, lp, r⟩ := ro_lst s h
        obtain ⟨b1, b2, b3⟩ := all ds vs fps ha r
        simp only [D.toP]
        exact ⟨.lst (SqL.of hp) b1, by simp [PyData.canLay0, b2], by simp only [PyData.depth]; omega⟩
    | non => rw [ro_non h]; unfold D.toP; exact ⟨.non, by simp [PyData.canLay0], by simp [PyData.depth]⟩
    | bl b => rw [ro_bl h]; unfold D.toP; exact ⟨.bl b, by simp [PyData.canLay0], by simp [PyData.depth]⟩
    | int i => rw [ro_int h]; unfold D.toP; exact ⟨.int i, by simp [PyData.canLay0], by simp [PyData.depth]⟩
    | str t =>
      obtain ⟨rfl, ok⟩ := ro_str h
      unfold D.toP
      refine ⟨.str _, ?_, by simp [PyData.depth]⟩
      simp only [PyData.canLay0, PyData.strOk, stx]
      rw [← Array.all_toList, List.all_eq_true]
      intro c hc
      exact decide_eq_true (ok.2 c (by simpa using hc))
theorem shaped_of {d : PyData} {n : Nat} (h : d.canLay0 = true) (k : d.depth ≤ n) (l : n ≤ 64) : PySem.SeqAt.shaped d = true := by
  unfold PySem.SeqAt.shaped
  rw [h, decide_eq_true (Nat.le_trans k l)]; rfl
end
/-- a comparison's answer as a value -/
def oB (g : D → D → Option Bool) : D → D → Option D := fun d e => (g d e).map .bl
theorem os_eq (hu : X.A.units + 64 < cLine) : OpR X (compareOp .Eq) (rD CM (oB D.eq)) := by
  intro pins s σ H x y v u Q I rx ry ⟨F, d, e, f1, f2, sF, rd, re, q⟩
  unfold oB D.eq at q
  split at q
  · rename_i h
    rw [Bool.and_eq_true] at h
    obtain ⟨a1, a2, a3⟩ := dp_of (K := X.K) sF 9 d x f1 h.1 rd
    obtain ⟨b1, b2, b3⟩ := dp_of (K := X.K) sF 9 e y f2 h.2 re
    rw [eqb_toP 9 d e h.1 h.2] at q
    exact op_eqD hu pins s σ H x y v u Q I rx ry ⟨_, _, a1, b1, shaped_of a2 a3 (by decide), shaped_of b2 b3 (by decide), q.bl sF⟩
  · exact q.bad
theorem os_ne (hu : X.A.units + 64 < cLine) : OpR X (compareOp .NotEq) (rD CM (oB D.ne)) := by
  intro pins s σ H x y v u Q I rx ry ⟨F, d, e, f1, f2, sF, rd, re, q⟩
  unfold oB D.ne D.eq at q
  split at q
  · rename_i h
    rw [Bool.and_eq_true] at h
    obtain ⟨a1, a2, a3⟩ := dp_of (K := X.K) sF 9 d x f1 h.1 rd
    obtain ⟨b1, b2, b3⟩ := dp_of (K := X.K) sF 9 e y f2 h.2 re
    rw [eqb_toP 9 d e h.1 h.2] at q
    exact op_neD hu pins s σ H x y v u Q I rx ry ⟨_, _, a1, b1, shaped_of a2 a3 (by decide), shaped_of b2 b3 (by decide), q.bl sF⟩
  · exact q.bad
theorem stx_lt (s t : Tx) : decide ((stx s).cps.toList < (stx t).cps.toList) = tlt s t := by
  unfold tlt
  rw [stx_cps, stx_cps]
theorem os_lt : OpR X (compareOp .Lt) (rD CM (oB D.lt)) := by
  intro pins s σ H x y v u Q I rx ry ⟨F, d, e, f1, f2, sF, rd, re, q⟩
  unfold oB D.lt at q
  split at q
  · rw [ro_int rd] at rx; rw [ro_int re] at ry
    exact op_lt pins s σ H _ _ v u Q I rx ry ⟨_, _, rfl, rfl, q.bl sF⟩
  · rw [(ro_str rd).1] at rx; rw [(ro_str re).1] at ry
    exact op_lt_str pins s σ H _ _ v u Q I rx ry ⟨_, _, rfl, rfl, by rw [stx_lt]; exact q.bl sF⟩
  · exact q.bad
theorem os_le : OpR X (compareOp .LtE) (rD CM (oB D.le)) := by
  intro pins s σ H x y v u Q I rx ry ⟨F, d, e, f1, f2, sF, rd, re, q⟩
  unfold oB D.le at q
  split at q
  · rw [ro_int rd] at rx; rw [ro_int re] at ry
    exact op_le pins s σ H _ _ v u Q I rx ry ⟨_, _, rfl, rfl, q.bl sF⟩
  · exact q.bad
theorem os_gt : OpR X (compareOp .Gt) (rD CM (oB D.gt)) := by
  intro pins s σ H x y v u Q I rx ry ⟨F, d, e, f1, f2, sF, rd, re, q⟩
  unfold oB D.gt at q
  split at q
  · rw [ro_int rd] at rx; rw [ro_int re] at ry
    exact op_gt pins s σ H _ _ v u Q I rx ry ⟨_, _, rfl, rfl, q.bl sF⟩
  · exact q.bad
theorem os_ge : OpR X (compareOp .GtE) (rD CM (oB D.ge)) := by
  intro pins s σ H x y v u Q I rx ry ⟨F, d, e, f1, f2, sF, rd, re, q⟩
  unfold oB D.ge at q
  split at q
  · rw [ro_int rd] at rx; rw [ro_int re] at ry
    exact op_ge pins s σ H _ _ v u Q I rx ry ⟨_, _, rfl, rfl, q.bl sF⟩
  · exact q.bad
end
end Lc
end
section
set_option Elab.async false
set_option linter.all false
set_option maxRecDepth 100000
set_option maxHeartbeats 2000000
/-! Dicts, membership, subscripts, the built-in functions. -/
namespace Lc
open PySem PySem.Spec L2
/-! ### an empty dict is of either kind -/
section
variable {X : Cx} {pins : List (Addr × Obj)} {σ : L2.St} {H : Hp} {s : Shared} {p : Addr}
theorem obj_kt {P : Program} {w : World} {H H' : Hp} {h : Heap} : ObjOk P w H h p (.dK []) → ObjOk P w H' h p (.dT []) := by
  rintro ⟨z, y, vs, r, o, es, ep, e, c, d, k, ps, n⟩
  cases r
  have he : es.toList = [] := by
    generalize es.toList = l at ps
    cases ps
    rfl
  exact ⟨z, y, [], .nil, o, es, ep, e, c, d, he, by simp⟩
theorem obj_tk {P : Program} {w : World} {H H' : Hp} {h : Heap} : ObjOk P w H h p (.dT []) → ObjOk P w H' h p (.dK []) := by
  rintro ⟨z, y, xs, r, o, es, ep, e, c, d, k, n⟩
  cases r
  have he : es.toList = [] := k
  refine ⟨z, y, [], .nil, o, es, ep, e, c, d, fun x hx => ?_, ?_, by simp⟩
  · have : x ∈ es.toList := Array.mem_toList_iff.mpr hx
    rw [he] at this; cases this
  · rw [he]; exact .nil
theorem Inv.recast {o o' : HO} (I : L2.Inv X pins σ H s) (h : H p = some o) (a : o = .dK [] ∨ o = .dT []) (b : o' = .dK [] ∨ o' = .dT []) : L2.Inv X pins σ (upd H p o') s := by
  have hne : ∀ q u, H q = some u → u ≠ .dK [] → u ≠ .dT [] → q ≠ p := fun q u e n1 n2 z => by
    subst z
    rw [h] at e
    cases e
    rcases a with a | a
    · exact n1 a
    · exact n2 a
  have hnn : ∀ q, H q = none → q ≠ p := fun q e z => by subst z; rw [h] at e; cases e
  have new : ObjOk X.prog X.w (upd H p o') s.heap p o' := by
    have x := I.hok p _ h
    rcases a with rfl | rfl <;> rcases b with rfl | rfl
    · obtain ⟨z, y, vs, r, q⟩ := x; exact ⟨z, y, vs, r, q⟩
    · exact obj_kt x
    · exact obj_tk x
    · obtain ⟨z, y, xs, r, q⟩ := x
      cases r
      exact ⟨z, y, [], .nil, q⟩
  refine ⟨I.ok, I.os, I.bare, ⟨I.base.keep, I.base.slot, fun q ob e n hx => ?_, I.base.there, fun q xs e => ?_, fun q ob u e => ?_, fun q ps e => ?_⟩, I.loc, I.cell, ?_, fun x c e => ?_, fun q hq => ?_, fun q u e => ?_, I.len⟩
  · rw [upd_ne (hnn q (I.base.free q ob e n hx))]; exact I.base.free q ob e n hx
  · have e2 := I.base.tups q xs e
    rw [upd_ne (hne q _ e2 (fun z => nomatch z) fun z => nomatch z)]; exact e2
  · have e2 := I.base.frzs q ob u e
    rw [upd_ne (hne q _ e2 (fun z => nomatch z) fun z => nomatch z)]; exact e2
  · obtain ⟨m, e2⟩ := I.base.tbls q ps e
    exact ⟨m, by rw [upd_ne (hne q _ e2 (fun z => nomatch z) fun z => nomatch z)]; exact e2⟩
  · rw [upd_ne (hnn _ I.free)]; exact I.free
  · rw [upd_ne (hnn _ (I.freeC x c e))]; exact I.freeC x c e
  · obtain ⟨e, n, r⟩ := I.pin q hq
    exact ⟨e, by rw [upd_ne (hnn _ n)]; exact n, r⟩
  · by_cases hqp : q = p
    · subst hqp; rw [upd_same] at e; cases e; exact new
    · rw [upd_ne hqp] at e
      refine (I.hok q u e).stay (fun c v _ z => z) (fun c z => ?_) fun c xs z => ?_
      · rw [upd_ne (hne c _ z (fun z => nomatch z) fun z => nomatch z)]; exact z
      · rw [upd_ne (hne c _ z (fun z => nomatch z) fun z => nomatch z)]; exact z
theorem upd_back {H : Hp} {p : Addr} {o o' : HO} (h : H p = some o) : upd (upd H p o') p o = H := by
  funext b
  by_cases e : b = p
  · subst e; rw [upd_same, h]
  · rw [upd_ne e, upd_ne e]
end
/-! ### what a dict holds -/
def kaV : Ka → V := fun k => kV (kaK k)
theorem valV_a : ∀ (as : List Ka) (vs : List V) (k : Ka), valV ((as.map kaK).zip vs) (kaK k) = kget (as.map Ky.a) vs (.a k)
  | [], _, _ => rfl
  | _ :: _, [], _ => rfl
  | a :: as, v :: vs, k => by
    show valV ((kaK a, v) :: (as.map kaK).zip vs) (kaK k) = if Ky.a a = Ky.a k then some v else kget (as.map Ky.a) vs (.a k)
    by_cases h : a = k
    · rw [valV_pos (by rw [h]), if_pos (by rw [h])]
    · rw [valV_neg (fun e => h (kaK_inj e)), if_neg (fun e => h (by cases e; rfl))]
      exact valV_a as vs k
theorem kaKs_inj : ∀ {a b : List Ka}, a.map kaK = b.map kaK → a = b
  | [], [], _ => rfl
  | [], _ :: _, h => by cases h
  | _ :: _, [], h => by cases h
  | a :: as, b :: bs, h => by
    injection h with h1 h2
    rw [kaK_inj h1, kaKs_inj h2]
theorem valV_t : ∀ (as : List (List Ka)) (vs : List V) (k : List Ka), valV ((as.map (·.map kaK)).zip vs) (k.map kaK) = kget (as.map Ky.t) vs (.t k)
  | [], _, _ => rfl
  | _ :: _, [], _ => rfl
  | a :: as, v :: vs, k => by
    show valV ((a.map kaK, v) :: (as.map (·.map kaK)).zip vs) (k.map kaK) = if Ky.t a = Ky.t k then some v else kget (as.map Ky.t) vs (.t k)
    by_cases h : a = k
    · rw [valV_pos (by rw [h]), if_pos (by rw [h])]
    · rw [valV_neg (fun e => h (kaKs_inj e)), if_neg (fun e => h (by cases e; rfl))]
      exact valV_t as vs k
section
variable {CM : CMap} {F F' H H' : Hp}
theorem toKa_v {d : D} {v : V} {fp : List Addr} {k : Ka} (e : d.toKa = some k) (r : RepO CM F H d v fp) : v = kaV k := by
  cases d with
  | int i => cases e; exact ro_int r
  | str t => cases e; exact (ro_str r).1
  | _ => cases e
theorem toKas_v : ∀ {ds : List D} {vs : List V} {ks : List Ka}, toKas ds = some ks → Reps CM F ds vs → vs = ks.map kaV
  | [], vs, ks, e, r => by cases e; exact Reps.nil_iff.mp r
  | d :: ds, vs, ks, e, r => by
    obtain ⟨v, w, rfl, r1, r2⟩ := Reps.cons_iff.mp r
    unfold toKas at e
    split at e
    · rename_i k hk
      split at e
      · rename_i ks' hks
        cases e
        rw [toKa_v (H := F) hk r1.o, toKas_v hks r2]; rfl
      · cases e
    · cases e
theorem kget_rep : ∀ {ks : List Ky} {ds : List D} {vs : List V} {fp : List Addr} {k : Ky} {d : D}, RepOs CM F H ds vs fp → kget ks ds k = some d → ∃ v f, kget ks vs k = some v ∧ RepO CM F H d v f
  | [], _, _, _, _, _, _, e => by unfold kget at e; cases e
  | _ :: _, [], _, _, _, _, _, e => by unfold kget at e; cases e
  | k' :: ks, d' :: ds, vs, fp, k, d, r, e => by
    obtain ⟨v, w, f, g, rfl, rfl, r1, r2⟩ := RepOs.cons_iff.mp r
    unfold kget at e ⊢
    by_cases h : k' = k
    · rw [if_pos h] at e ⊢
      cases e
      exact ⟨v, f, rfl, r1⟩
    · rw [if_neg h] at e ⊢
      exact kget_rep r2 e
theorem kget_none {α β : Type} : ∀ {ks : List Ky} {ds : List α} {vs : List β} {k : Ky}, ds.length = vs.length → kget ks ds k = none → kget ks vs k = none
  | [], _, _, _, _, _ => by unfold kget; rfl
  | _ :: _, [], [], _, _, _ => by unfold kget; rfl
  | _ :: _, [], _ :: _, _, h, _ => by cases h
  | _ :: _, _ :: _, [], _, h, _ => by cases h
  | k' :: ks, d :: ds, v :: vs, k, h, e => by
    unfold kget at e ⊢
    by_cases q : k' = k
    · rw [if_pos q] at e; cases e
    · rw [if_neg q] at e ⊢
      exact kget_none (by simpa using h) e
theorem kOk_a {as : List Ka} {k : Ky} (h : kOk (as.map Ky.a) k = true) : as = [] ∨ ∃ a, k = .a a := by
  cases as with
  | nil => exact .inl rfl
  | cons a as =>
    unfold kOk at h
    rw [List.map_cons, List.all_cons, Bool.and_eq_true] at h
    cases k with
    | a b => exact .inr ⟨b, rfl⟩
    | t b => exact absurd h.1 (by simp [Ky.isA])
theorem kOk_t {as : List (List Ka)} {k : Ky} (h : kOk (as.map Ky.t) k = true) : as = [] ∨ ∃ a, k = .t a := by
  cases as with
  | nil => exact .inl rfl
  | cons a as =>
    unfold kOk at h
    rw [List.map_cons, List.all_cons, Bool.and_eq_true] at h
    cases k with
    | t b => exact .inr ⟨b, rfl⟩
    | a b => exact absurd h.1 (by simp [Ky.isA])
/-- a key as a value -/
theorem key_v {d : D} {v : V} {fp : List Addr} {k : Ky} (s : Same F H) (e : d.toKy = some k) (r : RepO CM F H d v fp) : (∃ a, k = .a a ∧ v = kaV a) ∨ ∃ t q, k = .t t ∧ v = .ref q ∧ H q = some (.tup (t.map kaV)) := by
  unfold D.toKy at e
  split at e
  · cases e; exact .inl ⟨_, rfl, ro_int r⟩
  · cases e; exact .inl ⟨_, rfl, (ro_str r).1⟩
  · rename_i ds
    obtain ⟨p, vs, rfl, hp, _, r2, _⟩ := ro_tup s r
    cases h : toKas ds with
    | none => rw [h] at e; cases e
    | some ks =>
      rw [h] at e
      cases e
      exact .inr ⟨ks, p, rfl, rfl, by rw [hp, toKas_v h r2]⟩
  · cases e
theorem mapkv (t : List Ka) : (t.map kaK).map kV = t.map kaV := by rw [List.map_map]; rfl
end
section
variable {X : Cx} {CM : CMap} {pins : List (Addr × Obj)} {σ : L2.St} {F H : Hp} {s : Shared}
/-- the dict at p looked up at the key v: it may be taken for one of the other kind if it is empty -/
theorem look_run {o : Bool} {ks : List Ky} {vs : List V} {p : Addr} {d : D} {v : V} {fp : List Addr} {k : Ky} (I : L2.Inv X pins σ H s) (sF : Same F H) (hp : KAt CM H (RdN H) (.dic o ks) p vs) (e : d.toKy = some k) (r : RepO CM F H d v fp) (ok : kOk ks k = true) :
    ∃ H', L2.Inv X pins σ H' s ∧ (∀ s', L2.Inv X pins σ H' s' → L2.Inv X pins σ H s') ∧ DGet H' p v (kget ks vs k) := by
  obtain ⟨hl, _, hk⟩ := hp
  rcases hk with ⟨as, rfl, hr⟩ | ⟨as, rfl, hr⟩
  · rcases key_v sF e r with ⟨a, rfl, rfl⟩ | ⟨t, q, rfl, rfl, hq⟩
    · exact ⟨H, I, fun _ I' => I', .inl ⟨_, kaK a, hr.rd, rfl, by rw [valV_a]⟩⟩
    · rcases kOk_a ok with rfl | ⟨a, z⟩
      · have hr' : H p = some (.dK []) := by
          rcases hr with hr | ⟨n, _⟩
          · exact hr
          · exact absurd rfl n.1
        refine ⟨upd H p (.dT []), Inv.recast I hr' (.inl rfl) (.inr rfl), fun s' I' => ?_, .inr ⟨[], t.map kaK, q, .inl upd_same, rfl, ?_, ?_⟩⟩
        · have := Inv.recast I' upd_same (.inr rfl) (.inl rfl)
          rw [upd_back hr'] at this
          exact this
        · rw [upd_ne (ne_of hq hr' (fun z => nomatch z)), mapkv]; exact hq
        · unfold kget; rfl
      · cases z
  · rcases key_v sF e r with ⟨a, rfl, rfl⟩ | ⟨t, q, rfl, rfl, hq⟩
    · rcases kOk_t ok with rfl | ⟨a, z⟩
      · have hr' : H p = some (.dT []) := by
          rcases hr with hr | ⟨n, _⟩
          · exact hr
          · exact absurd rfl n.2
        refine ⟨upd H p (.dK []), Inv.recast I hr' (.inr rfl) (.inl rfl), fun s' I' => ?_, .inl ⟨[], kaK a, .inl upd_same, rfl, ?_⟩⟩
        · have := Inv.recast I' upd_same (.inl rfl) (.inr rfl)
          rw [upd_back hr'] at this
          exact this
        · unfold kget; rfl
      · cases z
    · exact ⟨H, I, fun _ I' => I', .inr ⟨_, t.map kaK, q, hr.rd, rfl, by rw [mapkv]; exact hq, by rw [valV_t]⟩⟩
end
/-! ### membership, subscripts -/
theorem reps_dp {CM : CMap} {K : PySem.W.Frag} {F H : Hp} (s : Same F H) {n : Nat} {k : Kd} {ds : List D} {v : V} {fp : List Addr} (h : D.dat n (.nd k ds) = true) (r : RepO CM F H (.nd k ds) v fp) (hk : k = .tup ∨ ∃ o, k = .lst o) :
    ∃ a, v = .ref a ∧ Dp K H v (.nd k ds : D).toP ∧ (D.nd k ds).toP.canLay0 = true ∧ (D.nd k ds).toP.depth ≤ n := by
  obtain ⟨h1, h2, h3⟩ := dp_of (K := K) s n _ v fp h r
  rcases hk with rfl | ⟨o, rfl⟩
  · obtain ⟨p, _, rfl, _⟩ := ro_tup s r; exact ⟨p, rfl, h1, h2, h3⟩
  · obtain ⟨p, _, _, rfl, _⟩ := ro_lst s r; exact ⟨p, rfl, h1, h2, h3⟩
theorem any_toP {x : D} {n : Nat} (hx : D.dat n x = true) : ∀ {ds : List D}, (∀ d ∈ ds, D.dat n d = true) → ((ds.map D.toP).any fun y => PyData.eqv y x.toP) = ds.any fun y => D.eqb y x
  | [], _ => rfl
  | d :: ds, h => by
    rw [List.map_cons, List.any_cons, List.any_cons, any_toP hx (fun e he => h e (List.mem_cons_of_mem _ he)), eqb_toP n d x (h d List.mem_cons_self) hx]
theorem dat_mono : ∀ (n : Nat) (d : D), D.dat n d = true → D.dat (n + 1) d = true := by
  intro n
  induction n with
  | zero => intro d h; cases d <;> first | rfl | exact absurd h Bool.false_ne_true
  | succ n ih =>
    intro d h
    cases d with
    | nd k ds =>
      unfold D.dat at h ⊢
      rw [Bool.and_eq_true, List.all_eq_true] at h ⊢
      exact ⟨h.1, fun d hd => ih d (h.2 d hd)⟩
    | _ => rfl
section
variable {X : Cx} {CM : CMap}
theorem one_stx (c : Nat) : stx [c] = ⟨#[c]⟩ := rfl
theorem in_seq {pins : List (Addr × Obj)} {s : Shared} {σ : L2.St} {F H : Hp} {x y : V} {v u : Value} {f1 f2 : List Addr} {d : D} {ds : List D} {k : Kd} (neg : Bool) (op : CmpOp) (hop : op = if neg then .NotIn else .In) (hu : X.A.units + 65 < cLine) (I : L2.Inv X pins σ H s) (rx : RelV x v) (ry : RelV y u)
    (sF : Same F H) (rd : RepO CM F H d x f1) (re : RepO CM F H (.nd k ds) y f2) (hk : k = .tup ∨ ∃ o, k = .lst o) (h1 : D.dat 9 d = true) (h2 : D.dat 9 (.nd k ds) = true) {Q : Value → Shared → Prop} {E : Value → Shared → Prop}
    (q : Q (.bool (if neg then !(ds.any fun y => D.eqb y d) else ds.any fun y => D.eqb y d)) s) : wpAny (model X.prog X.w) X.A (compareOp op v u) Q E s := by
  obtain ⟨a1, a2, a3⟩ := dp_of (K := X.K) sF 9 d x f1 h1 rd
  obtain ⟨a, rfl, b1, b2, b3⟩ := reps_dp (K := X.K) sF h2 re hk
  obtain ⟨as, r1⟩ := Dp.reads I _ _ v a1 rx
  obtain ⟨bs, r2⟩ := Dp.reads I _ _ u b1 ry
  have hd : ∀ z ∈ ds, D.dat 9 z = true := fun z hz => dat_mono 8 z ((dat_nd h2).2 z hz)
  have hm : min (PyData.depthAll (ds.map D.toP)) d.toP.depth ≤ 9 := Nat.le_trans (Nat.min_le_right _ _) a3
  have hm2 : X.A.units + 1 + min (PyData.depthAll (ds.map D.toP)) d.toP.depth < cLine := by omega
  rw [← any_toP h1 hd] at q
  rcases hk with rfl | ⟨o, rfl⟩
  · unfold D.toP at r2 b2 b3
    simp only at r2 b2 b3
    rw [toPs_map] at r2
    have hc : PyData.canLayAll0 (ds.map D.toP) = true := by rw [← toPs_map]; simpa [PyData.canLay0] using b2
    cases neg with
    | false => subst hop; exact PySem.SeqAt.in_tuple_reads r2 r1 hc a2 hm2 q
    | true => subst hop; exact PySem.SeqAt.notIn_tuple_reads r2 r1 hc a2 hm2 q
  · unfold D.toP at r2 b2 b3
    simp only at r2 b2 b3
    rw [toPs_map] at r2
    have hc : PyData.canLayAll0 (ds.map D.toP) = true := by rw [← toPs_map]; simpa [PyData.canLay0] using b2
    cases neg with
    | false => subst hop; exact PySem.SeqAt.in_list_reads r2 r1 hc a2 hm2 q
    | true => subst hop; exact PySem.SeqAt.notIn_list_reads r2 r1 hc a2 hm2 q
theorem isSome_rep {F H : Hp} {ks : List Ky} {ds : List D} {vs : List V} {fps : List Addr} {k : Ky} (rs : RepOs CM F H ds vs fps) : (kget ks vs k).isSome = (kget ks ds k).isSome := by
  cases e : kget ks ds k with
  | none => rw [kget_none rs.length e]; rfl
  | some d' => obtain ⟨v', f', e', _⟩ := kget_rep rs e; rw [e']; rfl
theorem os_in (hu : X.A.units + 65 < cLine) : OpR X (compareOp .In) (rD CM (oB D.isIn)) := by
  intro pins s σ H x y v u Q I rx ry ⟨F, d, e, f1, f2, sF, rd, re, q⟩
  unfold oB D.isIn at q
  split at q
  · split at q
    · rw [(ro_str rd).1] at rx; rw [(ro_str re).1] at ry
      refine op_in_sign pins s σ H _ _ v u Q I rx ry ⟨_, _, by rw [one_stx], rfl, ?_⟩
      rw [stx_cps, ← List.contains_eq_mem]
      exact q.bl sF
    · exact q.bad
  · split at q
    · rename_i hh
      rw [Bool.and_eq_true] at hh
      exact in_seq false .In rfl hu I rx ry sF rd re (.inl rfl) hh.1 hh.2 ⟨.bl _, H, I, rfl, q.bl sF⟩
    · exact q.bad
  · split at q
    · rename_i hh
      rw [Bool.and_eq_true] at hh
      exact in_seq false .In rfl hu I rx ry sF rd re (.inr ⟨_, rfl⟩) hh.1 hh.2 ⟨.bl _, H, I, rfl, q.bl sF⟩
    · exact q.bad
  · rename_i o ks ds
    cases hk : d.toKy with
    | none => rw [hk] at q; exact q.bad
    | some k =>
      rw [hk] at q
      simp only at q
      split at q
      · rename_i ok
        obtain ⟨p, vs, fps, rfl, hp, rs⟩ := ro_dic sF re
        obtain ⟨H', I', back, g⟩ := look_run I sF hp hk rd ok
        cases ry
        refine d_in (by omega) I' g rx fun s' I2 => ⟨.bl _, H, back s' I2, rfl, ?_⟩
        rw [isSome_rep rs]
        exact q.bl sF
      · exact q.bad
  · exact q.bad
theorem os_notIn (hu : X.A.units + 65 < cLine) : OpR X (compareOp .NotIn) (rD CM (oB D.notIn)) := by
  intro pins s σ H x y v u Q I rx ry ⟨F, d, e, f1, f2, sF, rd, re, q⟩
  unfold oB D.notIn D.isIn at q
  split at q
  · split at q
    · rw [(ro_str rd).1] at rx; rw [(ro_str re).1] at ry
      refine op_notIn_sign pins s σ H _ _ v u Q I rx ry ⟨_, _, by rw [one_stx], rfl, ?_⟩
      rw [stx_cps, ← List.contains_eq_mem]
      exact q.bl sF
    · exact q.bad
  · split at q
    · rename_i hh
      rw [Bool.and_eq_true] at hh
      exact in_seq true .NotIn rfl hu I rx ry sF rd re (.inl rfl) hh.1 hh.2 ⟨.bl _, H, I, rfl, q.bl sF⟩
    · exact q.bad
  · split at q
    · rename_i hh
      rw [Bool.and_eq_true] at hh
      exact in_seq true .NotIn rfl hu I rx ry sF rd re (.inr ⟨_, rfl⟩) hh.1 hh.2 ⟨.bl _, H, I, rfl, q.bl sF⟩
    · exact q.bad
  · rename_i o ks ds
    cases hk : d.toKy with
    | none => rw [hk] at q; exact q.bad
    | some k =>
      rw [hk] at q
      simp only at q
      split at q
      · rename_i ok
        obtain ⟨p, vs, fps, rfl, hp, rs⟩ := ro_dic sF re
        obtain ⟨H', I', back, g⟩ := look_run I sF hp hk rd ok
        cases ry
        refine d_notIn (by omega) I' g rx fun s' I2 => ⟨.bl _, H, back s' I2, rfl, ?_⟩
        rw [isSome_rep rs]
        exact q.bl sF
      · exact q.bad
  · exact q.bad
end
end Lc
end
section
set_option Elab.async false
set_option linter.all false
set_option maxRecDepth 100000
set_option maxHeartbeats 2000000
/-! Subscripts, slices, built-in functions, methods of built-in types. -/
namespace Lc
open PySem PySem.Spec L2
/-- a view's wish -/
def RVo (CM : CMap) (F H : Hp) (Q : VK) : Option D → Prop
  | some d => ∀ v F' H' g, Ext F H F' H' → RepO CM F' H' d v g → Q v H'
  | none => False
theorem RO.v {CM : CMap} {W : WX} {σ : L2.St} {F H : Hp} {Q : VK} {o : Option D} (h : RO CM W σ F H Q (.ofO o)) : RVo CM F H Q o := by
  cases o with
  | some d => exact h
  | none => exact h
theorem RVo.here {CM : CMap} {F H : Hp} {Q : VK} {d : D} {v : V} {g : List Addr} (h : RVo CM F H Q (some d)) (s : Same F H) (r : RepO CM F H d v g) : Q v H := h v F H g (Ext.refl s) r
def rDo (CM : CMap) (g : D → D → Option D) : R2 := fun x y H Q => ∃ F d e f1 f2, Same F H ∧ RepO CM F H d x f1 ∧ RepO CM F H e y f2 ∧ RVo CM F H Q (g d e)
section
variable {CM : CMap} {F H : Hp}
theorem ixN_eq (n : Nat) (i : Int) : L2.ixN n i = ixN n i := rfl
theorem atI_rep {ds : List D} {vs : List V} {fp : List Addr} {i : Int} {d : D} (r : RepOs CM F H ds vs fp) (e : atI ds i = some d) : ∃ v f, L2.atI vs i = some v ∧ RepO CM F H d v f := by
  unfold atI at e
  cases h : ixN ds.length i with
  | none => rw [h] at e; cases e
  | some j =>
    rw [h] at e
    obtain ⟨v, f, e1, e2⟩ := r.get (show ds[j]? = some d from e)
    refine ⟨v, f, ?_, e2⟩
    unfold L2.atI
    rw [← r.length, ixN_eq, h]
    exact e1
theorem atI_mem {α : Type} {xs : List α} {i : Int} {x : α} (e : atI xs i = some x) : x ∈ xs := by
  unfold atI at e
  cases h : ixN xs.length i with
  | none => rw [h] at e; cases e
  | some j => rw [h] at e; exact List.mem_of_getElem? e
end
section
variable {X : Cx} {CM : CMap}
/-- o[i] -/
theorem os_idx (hu : X.A.units + 1 < cLine) : IxR X (rDo CM D.idx) := by
  intro value slice pins s σ H x y v u Q I rx ry ⟨F, d, e, f1, f2, sF, rd, re, q⟩ hs
  unfold D.idx at q
  split at q
  · rename_i ds i
    rw [ro_int re] at ry
    obtain ⟨p, vs, rfl, hp, _, r, _⟩ := ro_tup sF rd
    cases h : atI ds i with
    | none => rw [h] at q; exact q.elim
    | some it =>
      rw [h] at q
      obtain ⟨w', f, e1, e2⟩ := atI_rep (r.o (H := H)) h
      exact ix_tup value slice pins s σ H _ _ v u Q I rx ry ⟨p, vs, i, w', rfl, rfl, SqT.of hp, e1, q.here sF e2⟩ hs
  · rename_i ds i
    rw [ro_int re] at ry
    obtain ⟨p, vs, fps, rfl, hp, _, r⟩ := ro_lst sF rd
    cases h : atI ds i with
    | none => rw [h] at q; exact q.elim
    | some it =>
      rw [h] at q
      obtain ⟨w', f, e1, e2⟩ := atI_rep r h
      exact ix_list value slice pins s σ H _ _ v u Q I rx ry ⟨p, vs, i, w', rfl, rfl, SqL.of hp, e1, q.here sF e2⟩ hs
  · rename_i ds i
    rw [ro_int re] at ry
    obtain ⟨p, vs, o, rfl, hp, _, r⟩ := ro_scr sF rd
    cases h : atI ds i with
    | none => rw [h] at q; exact q.elim
    | some it =>
      rw [h] at q
      obtain ⟨w', f, e1, e2⟩ := atI_rep (r.o (H := H)) h
      exact ix_list value slice pins s σ H _ _ v u Q I rx ry ⟨p, vs, i, w', rfl, rfl, .inl (.inr ⟨o, hp⟩), e1, q.here sF e2⟩ hs
  · rename_i t i
    rw [ro_int re] at ry
    obtain ⟨rfl, ok⟩ := ro_str rd
    split at q
    · rename_i c hc
      refine ix_str value slice pins s σ H _ _ v u Q I rx ry ⟨_, i, c, rfl, rfl, ?_, ?_, ?_⟩ hs
      · rw [stx_len, ← LINE_eq]; exact ok.1
      · rw [stx_cps]; exact hc
      · exact q.here sF (rep_str (TxOk.one (ok.2 c (atI_mem hc)))).o (d := .str [c])
    · exact q.elim
  · rename_i o ks ds
    cases hk : e.toKy with
    | none => rw [hk] at q; exact q.elim
    | some k =>
      rw [hk] at q
      simp only at q
      split at q
      · rename_i ok
        cases hg : kget ks ds k with
        | none => rw [hg] at q; exact q.elim
        | some it =>
          rw [hg] at q
          obtain ⟨p, vs, fps, rfl, hp, rs⟩ := ro_dic sF rd
          obtain ⟨w', f, e1, e2⟩ := kget_rep rs hg
          obtain ⟨H', I', back, g⟩ := look_run I sF hp hk re ok
          cases rx
          rw [e1] at g
          exact PyProof.Rows.tail_any (dict_typeIs I' g) PySem.F.slot_dict_getitem.lookup (d_getItem hu I' g ry fun z s3 I3 rw' => ⟨w', H, back s3 I3, rw', q.here sF e2⟩) hs
      · exact q.elim
  · exact q.elim
/-! ### slices -/
theorem sIx_eq (n d : Nat) (o : Option Int) : HT.sIx n d o = sIx n d o := by cases o <;> rfl
theorem cutV_eq (vs : List V) (lo hi : Option Int) : cutV vs lo hi = cutL vs lo hi := by unfold cutV cutL; rw [sIx_eq, sIx_eq]
theorem cutL_rep {F : Hp} {ds : List D} {vs : List V} (r : Reps CM F ds vs) (lo hi : Option Int) : Reps CM F (cutL ds lo hi) (cutL vs lo hi) := by
  unfold cutL
  rw [← r.length]
  exact (r.drop _).take _
theorem cutL_length {α : Type} (xs : List α) (lo hi : Option Int) : (cutL xs lo hi).length ≤ xs.length := by
  unfold cutL
  rw [List.length_take, List.length_drop]; omega
theorem cutL_mem {α : Type} {xs : List α} {lo hi : Option Int} {x : α} (h : x ∈ cutL xs lo hi) : x ∈ xs := by
  unfold cutL at h
  exact List.mem_of_mem_drop (List.mem_of_mem_take h)
theorem TxOk.cut {t : Tx} (h : TxOk t) (lo hi : Option Int) : TxOk (cutL t lo hi) := ⟨Nat.le_trans (cutL_length t lo hi) h.1, fun c hc => h.2 c (cutL_mem hc)⟩
/-- a slice by its function -/
theorem os_cut : SlR X (fun x lo hi H Q => ∃ F d f, Same F H ∧ RepO CM F H d x f ∧ RV CM F H Q (D.cut d lo hi)) := by
  intro pins s σ H x v vl vu lo hi sl Q I rx hs pl pu ⟨F, d, f, sF, rd, q⟩
  unfold D.cut at q
  split at q
  · rename_i t
    obtain ⟨rfl, ok⟩ := ro_str rd
    refine sl_str pins s σ H _ v vl vu lo hi sl Q I rx hs pl pu ⟨_, rfl, by rw [stx_len, ← LINE_eq]; exact ok.1, ?_⟩
    have e : cutS (stx t) lo hi = stx (cutL t lo hi) := by
      unfold cutS cutL
      rw [sIx_eq, sIx_eq, stx_cps, stx_len]; rfl
    rw [e]
    exact q.str sF (ok.cut lo hi)
  · split at q
    · rename_i hf
      obtain ⟨p, vs, fps, rfl, hp, lp, r⟩ := ro_lst sF rd
      refine sl_list pins s σ H _ v vl vu lo hi sl Q I rx hs pl pu ⟨p, vs, rfl, SqL.of hp, fun p2 n2 => ?_⟩
      rw [cutV_eq]
      exact q.lst sF (cutL_rep (reps_fz hf r) lo hi) (Nat.le_trans (cutL_length vs lo hi) lp) p2 n2
    · exact q.bad
  · rename_i ds
    obtain ⟨p, vs, rfl, hp, lp, rs, _⟩ := ro_tup sF rd
    refine sl_tupA pins s σ H _ v vl vu lo hi sl Q I rx hs pl pu ⟨p, vs, rfl, SqT.of hp, fun hw => ?_, fun _ p2 n2 => ?_⟩
    · have e : cutL ds lo hi = ds := by
        rw [sIx_eq, sIx_eq, ← rs.length] at hw
        unfold cutL
        rw [hw.1, hw.2, List.drop_zero, Nat.sub_zero, List.take_length]
      rw [e] at q
      exact q.here sF (RepO.of_fz (d := .tup ds) rfl rd).1
    · rw [cutV_eq]
      exact q.tup sF (cutL_rep rs lo hi) (Nat.le_trans (cutL_length vs lo hi) lp) p2 n2
  · exact q.bad
/-! ### calls of built-in functions by values -/
def rC1 (CM : CMap) (g : D → Option D) : List V → Hp → VK → Prop := fun vs H Q => ∃ F d v f, vs = [v] ∧ Same F H ∧ RepO CM F H d v f ∧ RV CM F H Q (g d)
def rC2 (CM : CMap) (g : D → D → Option D) : List V → Hp → VK → Prop := fun vs H Q => ∃ F d e v u f1 f2, vs = [v, u] ∧ Same F H ∧ RepO CM F H d v f1 ∧ RepO CM F H e u f2 ∧ RV CM F H Q (g d e)
theorem zip_fst_len {α β : Type} {as : List α} {vs : List β} (h : vs.length = as.length) : (as.zip vs).length = as.length := by rw [List.length_zip]; omega
theorem os_len : CallR X (.builtin "len") (rC1 CM D.len) := by
  intro pins s σ H xs us Q I r ⟨F, d, v, f, exs, sF, rd, q⟩
  subst exs
  unfold D.len at q
  split at q
  · obtain ⟨rfl, ok⟩ := ro_str rd
    refine call_len pins s σ H _ us Q I r ⟨_, _, rfl, ⟨by rw [stx_len, ← LINE_eq]; exact ok.1, rfl⟩, ?_⟩
    rw [stx_len]; exact q.int sF
  · obtain ⟨p, vs, rfl, hp, lp, rs, _⟩ := ro_tup sF rd
    refine call_len pins s σ H _ us Q I r ⟨_, _, rfl, .inr ⟨vs, SqT.of hp, rfl⟩, ?_⟩
    rw [← rs.length]; exact q.int sF
  · obtain ⟨p, vs, fps, rfl, hp, lp, rs⟩ := ro_lst sF rd
    refine call_len pins s σ H _ us Q I r ⟨_, _, rfl, .inl ⟨vs, SqL.of hp, rfl⟩, ?_⟩
    rw [← rs.length]; exact q.int sF
  · obtain ⟨p, vs, o, rfl, hp, lp, rs⟩ := ro_scr sF rd
    refine call_len pins s σ H _ us Q I r ⟨_, _, rfl, .inl ⟨vs, .inl (.inr ⟨o, hp⟩), rfl⟩, ?_⟩
    rw [← rs.length]; exact q.int sF
  · rename_i o ks ds
    split at q
    · rename_i ha
      obtain ⟨p, vs, fps, rfl, ⟨hl, _, hk⟩, rs⟩ := ro_dic sF rd
      obtain ⟨u, rfl, ru⟩ := vals1 r
      cases ru
      rcases hk with ⟨as, rfl, hr⟩ | ⟨ts, rfl, hr⟩
      · refine d_len I hr.rd fun t s' I' => ⟨.int _, H, I', ⟨t, rfl⟩, ?_⟩
        rw [zip_fst_len (by rw [hl, List.length_map, List.length_map]), List.length_map]
        rw [List.length_map] at q
        exact q.int sF
      · cases ts with
        | nil =>
          have hr' : H p = some (.dT []) := by
            rcases hr with hr | ⟨n, _⟩
            · exact hr
            · exact absurd rfl n.2
          refine d_len (Inv.recast I hr' (.inr rfl) (.inl rfl)) (.inl upd_same) fun t s' I' => ⟨.int _, H, ?_, ⟨t, rfl⟩, q.int sF⟩
          have := Inv.recast I' upd_same (.inl rfl) (.inr rfl)
          rw [upd_back hr'] at this
          exact this
        | cons t ts => exact absurd ha (by simp [Ky.isA])
    · exact q.bad
  · exact q.bad
theorem os_int : CallR X (.type "int") (rC1 CM D.toInt) := by
  intro pins s σ H xs us Q I r ⟨F, d, v, f, exs, sF, rd, q⟩
  subst exs
  unfold D.toInt at q
  split at q
  · rw [ro_int rd] at r
    exact call_int1 pins s σ H _ us Q I r (.inl ⟨_, rfl, q.int sF⟩)
  · rw [ro_bl rd] at r
    exact call_int1 pins s σ H _ us Q I r (.inr ⟨_, rfl, q.int sF⟩)
  · exact q.bad
theorem os_str : CallR X (.type "str") (rC1 CM D.toStr) := by
  intro pins s σ H xs us Q I r ⟨F, d, v, f, exs, sF, rd, q⟩
  subst exs
  unfold D.toStr at q
  split at q
  · obtain ⟨rfl, ok⟩ := ro_str rd
    exact SkE.call_str_str pins s σ H _ us Q I r ⟨_, rfl, q.str sF ok⟩
  · split at q
    · rename_i i hi
      have e := ro_int rd
      subst e
      exact L2.call_str_int pins s σ H _ us Q I r ⟨i, rfl, hi.1, q.str (t := itx i) sF ⟨Nat.le_trans hi.2.1 (by decide), hi.2.2⟩⟩
    · exact q.bad
  · exact q.bad
theorem zip_fst {α β : Type} : ∀ {as : List α} {bs : List β}, bs.length = as.length → (as.zip bs).map (·.1) = as
  | [], _, _ => by simp
  | a :: as, [], h => by simp at h
  | a :: as, b :: bs, h => by rw [List.zip_cons_cons, List.map_cons, zip_fst (by simpa using h)]
theorem kas_rep {F : Hp} : ∀ {as : List Ka}, (∀ k ∈ as, k.ok) → Reps CM F (as.map Ka.d) (as.map fun k => kV (kaK k))
  | [], _ => Reps.nil_iff.mpr rfl
  | a :: as, h => Reps.cons_iff.mpr ⟨_, _, rfl, (by
      cases a with
      | i n => exact rep_int
      | s t => exact rep_str (h (.s t) List.mem_cons_self)), kas_rep fun k hk => h k (List.mem_cons_of_mem _ hk)⟩
/-- the keys of a dict with tuple keys, as they stand -/
theorem keys_rep {F H : Hp} : ∀ {ts : List (List Ka)} {vs : List V} {bs : List Addr}, vs.length = ts.length → (∀ t ∈ ts, ∀ k ∈ t, k.ok) → IsKeys H ((ts.map (·.map kaK)).zip vs) bs → (∀ b xs, H b = some (.tup xs) → xs.length ≤ LINE) →
    Reps CM (adopt F H bs) (ts.map fun t => D.tup (t.map Ka.d)) (bs.map V.ref) ∧ ∀ b ∈ bs, ∃ xs, H b = some (.tup xs) := by
  intro ts vs bs hl hk h hz
  have key : ∀ {ts : List (List Ka)} {vs : List V} {cs : List Addr}, vs.length = ts.length → (∀ t ∈ ts, ∀ k ∈ t, k.ok) → IsKeys H ((ts.map (·.map kaK)).zip vs) cs → (∀ c ∈ cs, c ∈ bs) → Reps CM (adopt F H bs) (ts.map fun t => D.tup (t.map Ka.d)) (cs.map V.ref) ∧ ∀ b ∈ cs, ∃ xs, H b = some (.tup xs) := by
    intro ts
    induction ts with
    | nil =>
      intro vs cs hl hk h hi
      cases h
      exact ⟨Reps.nil_iff.mpr rfl, fun b hb => nomatch hb⟩
    | cons t ts ih =>
      intro vs cs hl hk h hi
      cases vs with
      | nil => simp at hl
      | cons v vs =>
        cases h with
        | @cons _ b _ bs' h1 h2 =>
          obtain ⟨i1, i2⟩ := ih (by simpa using hl) (fun t ht => hk t (List.mem_cons_of_mem _ ht)) h2 fun c hc => hi c (List.mem_cons_of_mem _ hc)
          have h1' : H b = some (.tup ((t.map kaK).map kV)) := h1
          refine ⟨Reps.cons_iff.mpr ⟨_, _, rfl, Rep.nd_iff.mpr ⟨rfl, b, _, rfl, ⟨(adopt_in (hi b List.mem_cons_self)).trans h1', hz _ _ h1'⟩, ?_⟩, i1⟩, fun c hc => ?_⟩
          · rw [List.map_map]
            exact kas_rep fun k hk' => hk t List.mem_cons_self k hk'
          · rcases List.mem_cons.mp hc with z | z
            · exact ⟨_, z ▸ h1'⟩
            · exact i2 c z
  exact key hl hk h fun c hc => hc
theorem os_list (hc : X.calm = true) : CallR X (.type "list") (rC1 CM D.toList) := by
  intro pins s σ H xs us Q I r ⟨F, d, v, f, exs, sF, rd, q⟩
  subst exs
  unfold D.toList at q
  split at q
  · obtain ⟨p, vs, rfl, hp, lp, rs, _⟩ := ro_tup sF rd
    exact call_list_of pins s σ H _ us Q I r ⟨p, vs, rfl, .inr (SqT.of hp), fun l n => q.lst sF rs lp l n⟩
  · split at q
    · rename_i hf
      obtain ⟨p, vs, fps, rfl, hp, lp, rs⟩ := ro_lst sF rd
      exact call_list_of pins s σ H _ us Q I r ⟨p, vs, rfl, .inl (SqL.of hp), fun l n => q.lst sF (reps_fz hf rs) lp l n⟩
    · exact q.bad
  · obtain ⟨p, vs, fps, rfl, hk, rs⟩ := ro_dic sF rd
    obtain ⟨l1, ⟨l2, kok⟩, hr⟩ := hk
    rcases hr with ⟨as, rfl, r1⟩ | ⟨ts, rfl, r1⟩
    · refine call_listD hc pins s σ H _ us Q I r ⟨p, _, rfl, r1.rd, fun l n => ?_⟩
      rw [List.length_map] at l1
      have e1 : (((as.map kaK).zip vs).map fun kv => kV kv.1) = as.map fun k => kV (kaK k) := by
        rw [show (fun kv : Key × V => kV kv.1) = kV ∘ (·.1) from rfl, ← List.map_map, zip_fst (by rw [List.length_map]; exact l1), List.map_map]; rfl
      rw [e1]
      have e2 : (as.map Ky.a).map Ky.d = as.map Ka.d := by rw [List.map_map]; rfl
      rw [e2] at q
      exact q.lst sF (kas_rep fun k hk => kok (.a k) (List.mem_map_of_mem hk)) (by rw [List.length_map, ← l1]; exact l2) l n
    · refine call_list_dT hc pins s σ H _ us Q I r ⟨p, _, rfl, r1.rd, fun l bs n ik => ?_⟩
      rw [List.length_map] at l1
      have e2 : (ts.map Ky.t).map Ky.d = ts.map fun t => D.tup (t.map Ka.d) := by rw [List.map_map]; rfl
      rw [e2] at q
      obtain ⟨k1, k2⟩ := keys_rep (CM := CM) (F := F) l1 (fun t ht k hk => kok (.t t) (List.mem_map_of_mem ht) k hk) ik fun b xs e => by
        have := (show ObjOk X.prog X.w H s.heap b (.tup xs) from I.hok b _ e).1
        rw [LINE_eq]; exact this
      have ff : Same F (adopt F H bs) := fun b o e => by
        by_cases hb : b ∈ bs
        · rw [adopt_in hb]; exact sF _ _ e
        · rw [adopt_out hb]; exact e
      have x : Ext F H (adopt F H bs) (upd H l (.lst (bs.map V.ref))) := ⟨fun b o e => by rw [upd_ne (ne_of_none e n)]; exact e, ff, fun b o e => by
          have e' := adopt_sub sF b o e
          rw [upd_ne (ne_of_none e' n)]; exact e', fun b o e t k => by
          by_cases hb : b ∈ bs
          · obtain ⟨xs, hx⟩ := k2 b hb
            rw [hx] at e; cases e
            exact absurd rfl (t xs)
          · rw [adopt_out hb]; exact k⟩
      have lb : (bs.map V.ref).length ≤ LINE := by
        have := k1.length
        rw [← this, List.length_map, ← l1]; exact l2
      refine q (.ref l) _ _ [l] x (ro_newLst n k1.o lb) (by simp) fun b hb => ?_
      have e : b = l := by simpa using hb
      subst e
      refine ⟨n, ?_⟩
      by_cases hb : b ∈ bs
      · obtain ⟨xs, hx⟩ := k2 b hb
        rw [hx] at n; cases n
      · rw [adopt_out hb]; exact sF.free n
  · exact q.bad
theorem os_tuple : CallR X (.type "tuple") (rC1 CM D.toTup) := by
  intro pins s σ H xs us Q I r ⟨F, d, v, f, exs, sF, rd, q⟩
  subst exs
  unfold D.toTup at q
  split at q
  · have rd' := rd
    obtain ⟨p, vs, rfl, hp, lp, rs, _⟩ := ro_tup sF rd
    exact call_tuple_of pins s σ H _ us Q I r ⟨p, vs, rfl, .inr ⟨SqT.of hp, q.here sF (RepO.of_fz rfl rd').1⟩⟩
  · split at q
    · rename_i hf
      obtain ⟨p, vs, fps, rfl, hp, lp, rs⟩ := ro_lst sF rd
      exact call_tuple_of pins s σ H _ us Q I r ⟨p, vs, rfl, .inl ⟨SqL.of hp, fun l n => q.tup sF (reps_fz hf rs) lp l n⟩⟩
    · exact q.bad
  · exact q.bad
theorem ints_v {F H : Hp} : ∀ {ds : List D} {vs : List V} {f : List Addr} {ns : List Int}, intsD ds = some ns → RepOs CM F H ds vs f → vs = ns.map V.int
  | [], vs, f, ns, e, r => by cases e; exact (RepOs.nil_iff.mp r).1
  | d :: ds, vs, f, ns, e, r => by
    obtain ⟨v, w, f1, f2, rfl, _, r1, r2⟩ := RepOs.cons_iff.mp r
    cases d with
    | int i =>
      unfold intsD at e
      cases h : intsD ds with
      | none => rw [h] at e; cases e
      | some ms =>
        rw [h] at e; cases e
        rw [ro_int r1, ints_v h r2]; rfl
    | _ => cases e
theorem strs_v {F H : Hp} : ∀ {ds : List D} {vs : List V} {f : List Addr} {ns : List Tx}, strsD ds = some ns → RepOs CM F H ds vs f → vs = (ns.map stx).map V.str ∧ ∀ t ∈ ns, TxOk t
  | [], vs, f, ns, e, r => by cases e; exact ⟨(RepOs.nil_iff.mp r).1, fun t h => nomatch h⟩
  | d :: ds, vs, f, ns, e, r => by
    obtain ⟨v, w, f1, f2, rfl, _, r1, r2⟩ := RepOs.cons_iff.mp r
    cases d with
    | str t =>
      unfold strsD at e
      cases h : strsD ds with
      | none => rw [h] at e; cases e
      | some ms =>
        rw [h] at e; cases e
        obtain ⟨e1, e2⟩ := strs_v h r2
        refine ⟨by rw [(ro_str r1).1, e1]; rfl, fun u hu => ?_⟩
        rcases List.mem_cons.mp hu with e | hu
        · rw [e]; exact (ro_str r1).2
        · exact e2 u hu
    | _ => cases e
theorem bools_v {F H : Hp} : ∀ {ds : List D} {vs : List V} {f : List Addr} {ns : List Bool}, boolsD ds = some ns → RepOs CM F H ds vs f → vs = ns.map V.bl
  | [], vs, f, ns, e, r => by cases e; exact (RepOs.nil_iff.mp r).1
  | d :: ds, vs, f, ns, e, r => by
    obtain ⟨v, w, f1, f2, rfl, _, r1, r2⟩ := RepOs.cons_iff.mp r
    cases d with
    | bl i =>
      unfold boolsD at e
      cases h : boolsD ds with
      | none => rw [h] at e; cases e
      | some ms =>
        rw [h] at e; cases e
        rw [ro_bl r1, bools_v h r2]; rfl
    | _ => cases e
theorem os_sum (hc : X.calm = true) : CallR X (.builtin "sum") (rC1 CM D.sum) := by
  intro pins s σ H xs us Q I r ⟨F, d, v, f, exs, sF, rd, q⟩
  subst exs
  unfold D.sum at q
  split at q
  · rename_i o ds
    obtain ⟨p, vs, fps, rfl, hp, lp, rs⟩ := ro_lst sF rd
    cases h : intsD ds with
    | none => rw [h] at q; exact q.bad
    | some ns =>
      rw [h] at q
      have e := ints_v h rs
      subst e
      exact cr_sum hc pins s σ H _ us Q I r ⟨p, ns, rfl, SqL.of hp, q.int sF⟩
  · exact q.bad
theorem maxI_mem : ∀ (ns : List Int) (m : Int), maxI m ns ∈ m :: ns ∧ ∀ y ∈ m :: ns, y ≤ maxI m ns
  | [], m => ⟨by simp [maxI], fun y hy => by simp at hy; rw [hy]; simp [maxI]⟩
  | n :: ns, m => by
    unfold maxI
    obtain ⟨h1, h2⟩ := maxI_mem ns (if n > m then n else m)
    refine ⟨?_, fun y hy => ?_⟩
    · rcases List.mem_cons.mp h1 with e | e
      · rw [e]; split <;> simp
      · exact List.mem_cons_of_mem _ (List.mem_cons_of_mem _ e)
    · have h3 := h2 (if n > m then n else m) List.mem_cons_self
      rcases List.mem_cons.mp hy with e | hy
      · subst e; split at h3 <;> (rename_i k; split <;> omega)
      · rcases List.mem_cons.mp hy with e | hy
        · subst e; split at h3 <;> (rename_i k; split <;> omega)
        · exact h2 y (List.mem_cons_of_mem _ hy)
theorem minI_mem : ∀ (ns : List Int) (m : Int), minI m ns ∈ m :: ns ∧ ∀ y ∈ m :: ns, minI m ns ≤ y
  | [], m => ⟨by simp [minI], fun y hy => by simp at hy; rw [hy]; simp [minI]⟩
  | n :: ns, m => by
    unfold minI
    obtain ⟨h1, h2⟩ := minI_mem ns (if n < m then n else m)
    refine ⟨?_, fun y hy => ?_⟩
    · rcases List.mem_cons.mp h1 with e | e
      · rw [e]; split <;> simp
      · exact List.mem_cons_of_mem _ (List.mem_cons_of_mem _ e)
    · have h3 := h2 (if n < m then n else m) List.mem_cons_self
      rcases List.mem_cons.mp hy with e | hy
      · subst e; split at h3 <;> (rename_i k; split <;> omega)
      · rcases List.mem_cons.mp hy with e | hy
        · subst e; split at h3 <;> (rename_i k; split <;> omega)
        · exact h2 y (List.mem_cons_of_mem _ hy)
theorem os_max (hc : X.calm = true) : CallR X (.builtin "max") (rC1 CM D.max1) := by
  intro pins s σ H xs us Q I r ⟨F, d, v, f, exs, sF, rd, q⟩
  subst exs
  unfold D.max1 at q
  split at q
  · rename_i o ds
    obtain ⟨p, vs, fps, rfl, hp, lp, rs⟩ := ro_lst sF rd
    split at q
    · rename_i n ns h
      have e := ints_v h rs
      subst e
      refine cr_max hc pins s σ H _ us Q I r ⟨p, n :: ns, rfl, SqL.of hp, by simp, fun m h1 h2 => ?_⟩
      obtain ⟨k1, k2⟩ := maxI_mem ns n
      have e : m = maxI n ns := Int.le_antisymm (k2 m h1) (h2 _ k1)
      rw [e]; exact q.int sF
    · exact q.bad
  · exact q.bad
theorem os_min (hc : X.calm = true) : CallR X (.builtin "min") (rC1 CM D.min1) := by
  intro pins s σ H xs us Q I r ⟨F, d, v, f, exs, sF, rd, q⟩
  subst exs
  unfold D.min1 at q
  split at q
  · rename_i o ds
    obtain ⟨p, vs, fps, rfl, hp, lp, rs⟩ := ro_lst sF rd
    split at q
    · rename_i n ns h
      have e := ints_v h rs
      subst e
      refine cr_min hc pins s σ H _ us Q I r ⟨p, n :: ns, rfl, SqL.of hp, by simp, fun m h1 h2 => ?_⟩
      obtain ⟨k1, k2⟩ := minI_mem ns n
      have e : m = minI n ns := Int.le_antisymm (h2 _ k1) (k2 m h1)
      rw [e]; exact q.int sF
    · exact q.bad
  · exact q.bad
theorem os_max2 (hc : X.calm = true) : CallR X (.builtin "max") (rC2 CM D.max2) := by
  intro pins s σ H xs us Q I r ⟨F, d, e, v, u, f1, f2, exs, sF, rd, re, q⟩
  subst exs
  unfold D.max2 at q
  split at q
  · rw [ro_int rd, ro_int re] at r
    exact call_max2 hc pins s σ H _ us Q I r ⟨_, _, rfl, q.int sF⟩
  · exact q.bad
theorem os_abs : CallR X (.builtin "abs") (rC1 CM D.abs) := by
  intro pins s σ H xs us Q I r ⟨F, d, v, f, exs, sF, rd, q⟩
  subst exs
  unfold D.abs at q
  split at q
  · rw [ro_int rd] at r
    exact call_abs pins s σ H _ us Q I r ⟨_, rfl, q.int sF⟩
  · exact q.bad
end
end Lc
end
section
set_option Elab.async false
set_option linter.all false
set_option maxRecDepth 100000
set_option maxHeartbeats 2000000
/-! Expressions by their functions: one lemma a construct. -/
namespace Lc
open PySem PySem.Spec L2
theorem isEmpty_len {α β : Type} : ∀ {ds : List α} {vs : List β}, ds.length = vs.length → ds.isEmpty = vs.isEmpty
  | [], [], _ => rfl
  | _ :: _, _ :: _, _ => rfl
  | [], _ :: _, h => by cases h
  | _ :: _, [], h => by cases h
theorem rx_v {CM : CMap} {W : WX} {σ : L2.St} {F H : Hp} {Q : VK} {d : D} (h : RX CM W σ F H Q (.val d)) : RV CM F H Q (some d) := h
section
variable {X : Cx} {CM : CMap} {W : WX} {a b e : Expr} {fa fb f : XP} {pos p : Pos}
theorem dx_int {i k} : PE X (.Constant (.int i) k pos) (tX CM W (cst (.int i))) := pe_int.weak fun σ H Q ⟨F, ρ, fp, s, q⟩ => (rx_v q).int s.sub
theorem dx_bl {i k} : PE X (.Constant (.bool i) k pos) (tX CM W (cst (.bl i))) := pe_bl.weak fun σ H Q ⟨F, ρ, fp, s, q⟩ => (rx_v q).bl s.sub
theorem dx_non {k} : PE X (.Constant .none k pos) (tX CM W (cst .non)) := pe_non.weak fun σ H Q ⟨F, ρ, fp, s, q⟩ => (rx_v q).here s.sub rep_non
theorem dx_str {x : Str} {k} {t : Tx} (h : x = stx t) (ok : TxOk t) : PE X (.Constant (.str x) k pos) (tX CM W (cst (.str t))) := by
  subst h
  exact pe_str.weak fun σ H Q ⟨F, ρ, fp, s, q⟩ => (rx_v q).str s.sub ok
/-- a module's constant -/
theorem dx_glob {x : Str} {u : Value} {v : V} {d : D} (hg : Gl X x) (hm : X.mg x = some u) (r : RelV v u) (hd : ∀ F, Rep CM F d v) (hdb : (x == ("__debug__" : Str)) = false) : PE X (.Name x pos) (tX CM W (cst d)) :=
  (pe_glob hg hm r hdb).weak fun σ H Q ⟨F, ρ, fp, s, q⟩ => (rx_v q).here s.sub (hd F)
theorem getE_some {ρ : Env} {i : Nat} {d : D} (h : getE ρ i = some d) : ρ[i]? = some (some d) := by
  unfold getE at h
  split at h
  · rename_i d' e; rw [e]; cases h; rfl
  · cases h
theorem dx_var {i : Nat} {x : Str} (hN : X.N[i]? = some x) (hv : Vis X.env.scope x) (hd : (x == ("__debug__" : Str)) = false) (hcd : (x == ("__classdict__" : Str)) = false) : PE X (.Name x pos) (tO CM W (bvar i)) :=
  (pe_var hN hv hd hcd).weak fun σ H Q ⟨F, ρ, fp, s, q⟩ => by
    unfold bvar at q
    cases h : getE ρ i with
    | none => rw [h] at q; exact q.elim
    | some d =>
      rw [h] at q
      obtain ⟨v, g, e, r⟩ := s.rep.get (getE_some h)
      exact ⟨v, e, q v F H g (Ext.refl s.sub) r⟩
/-! ### operators -/
theorem two {R2' : R2} {g : D → D → Option D} {σ : L2.St} {H : Hp} {Q : VK} (h : tX CM W (bn g fa fb) σ H Q)
    (go : ∀ x y H, rD CM g x y H Q → R2' x y H Q) : tO CM W fa σ H fun x H1 => tO CM W fb σ H1 fun y H2 => R2' x y H2 Q := by
  obtain ⟨F, ρ, fp, s, q⟩ := h
  refine ⟨F, ρ, fp, s, RO.then_ q fun d v F1 H1 g1 e1 x1 r1 q1 => ⟨F1, ρ, fp, s.ext x1, RO.then_ q1 fun e u F2 H2 g2 e2 x2 r2 q2 => go v u H2 ⟨F2, d, e, g1, g2, x2.sub, r1.ext x2.ff x2.hh, r2, q2.v⟩⟩⟩
theorem dx_bn {op : Operator} {g : D → D → Option D} (ho : OpR X (binaryOp op) (rD CM g)) (ha : PE X a (tO CM W fa)) (hb : PE X b (tO CM W fb)) : PE X (.BinOp a op b pos) (tX CM W (bn g fa fb)) :=
  (pe_op ho ha hb).weak fun σ H Q h => two h fun _ _ _ z => z
theorem dx_cmp {op : CmpOp} {g : D → D → Option Bool} (ho : OpR X (compareOp op) (rD CM (oB g))) (ha : PE X a (tO CM W fa)) (hb : PE X b (tO CM W fb)) (hm : behindInMarks op b = false) : PE X (.Compare a [op] [b] pos) (tX CM W (bn (oB g) fa fb)) :=
  (pe_cmpR ho ha hb hm).weak fun σ H Q h => two h fun _ _ _ z => z
theorem RB.ext {σ : L2.St} {F H F' H' : Hp} {Q : Bool → Hp → Prop} {r : Res Bool} (x : Ext F H F' H') (h : RB CM W σ F H Q r) : RB CM W σ F' H' Q r := by
  cases r with
  | val d => exact fun F2 H2 x2 => h F2 H2 (x.trans x2)
  | exc c ns ds => exact RE.ext x h
  | bad => exact h
theorem RO.thenB {σ : L2.St} {F H : Hp} {Q : Bool → Hp → Prop} {r : Res D} {k : D → Res Bool} {Q' : VK} (h : RB CM W σ F H Q (r.bind k))
    (go : ∀ d v F' H' g, r = .val d → Ext F H F' H' → RepO CM F' H' d v g → RB CM W σ F' H' Q (k d) → Q' v H') : RO CM W σ F H Q' r := by
  cases r with
  | val d => exact fun v F' H' g x r => go d v F' H' g rfl x r (RB.ext x h)
  | exc c ns ds => exact h
  | bad => exact h
theorem RB.v {σ : L2.St} {F H : Hp} {Q : Bool → Hp → Prop} {o : Option Bool} (h : RB CM W σ F H Q (.ofO o)) : RV CM F H (fun x H' => ∃ k, x = .bl k ∧ Q k H') (o.map .bl) := by
  cases o with
  | none => exact h
  | some b => exact fun v F' H' g x r _ _ => ⟨b, ro_bl r, h F' H' x⟩
theorem twoB {R2' : R2} {g : D → D → Option Bool} {σ : L2.St} {H : Hp} {Q : Bool → Hp → Prop} (h : tT CM W (tbn g fa fb) σ H Q)
    (go : ∀ x y H, rD CM (oB g) x y H (fun x H' => ∃ k, x = .bl k ∧ Q k H') → R2' x y H (fun x H' => ∃ k, x = .bl k ∧ Q k H')) : tO CM W fa σ H fun x H1 => tO CM W fb σ H1 fun y H2 => R2' x y H2 (fun x H' => ∃ k, x = .bl k ∧ Q k H') := by
  obtain ⟨F, ρ, fp, s, q⟩ := h
  refine ⟨F, ρ, fp, s, RO.thenB q fun d v F1 H1 g1 e1 x1 r1 q1 => ⟨F1, ρ, fp, s.ext x1, RO.thenB q1 fun e u F2 H2 g2 e2 x2 r2 q2 => go v u H2 ⟨F2, d, e, g1, g2, x2.sub, r1.ext x2.ff x2.hh, r2, q2.v⟩⟩⟩
theorem dt_cmp {op : CmpOp} {g : D → D → Option Bool} (ho : OpR X (compareOp op) (rD CM (oB g))) (ha : PE X a (tO CM W fa)) (hb : PE X b (tO CM W fb)) (hm : behindInMarks op b = false) : PT X (.Compare a [op] [b] pos) (tT CM W (tbn g fa fb)) :=
  (pt_cmpR ho ha hb hm).weak fun σ H Q h => twoB h fun _ _ _ z => z
theorem dx_neg (ha : PE X a (tO CM W fa)) : PE X (.UnaryOp .USub a pos) (tX CM W (un D.neg fa)) :=
  (pe_un (os_neg (CM := CM)) ha).weak fun σ H Q ⟨F, ρ, fp, s, q⟩ => ⟨F, ρ, fp, s, RO.then_ q fun d v F1 H1 g1 e1 x1 r1 q1 => ⟨F1, d, g1, x1.sub, r1, q1.v⟩⟩
/-! ### is None -/
def oN (d : D) : Option D := some (.bl d.isN)
theorem isN_v {F H : Hp} {d : D} {v : V} {g : List Addr} (s : Same F H) (r : RepO CM F H d v g) : decide (v = .non) = d.isN := by
  cases d with
  | non => rw [ro_non r]; rfl
  | bl b => rw [ro_bl r]; rfl
  | int i => rw [ro_int r]; rfl
  | str t => rw [(ro_str r).1]; rfl
  | nd k ds =>
    rw [RepO.nd_iff] at r
    split at r
    · obtain ⟨p, _, _, rfl, _⟩ := r; rfl
    · obtain ⟨_, p, _, rfl, _⟩ := Rep.nd_iff.mp r.1; rfl
theorem dx_isN {k p2} (ha : PE X a (tO CM W fa)) : PE X (.Compare a [.Is] [.Constant .none k p2] pos) (tX CM W (un (fun d => some (.bl d.isN)) fa)) :=
  (pe_cmp (pc_isN ha) rfl).weak fun σ H Q ⟨F, ρ, fp, s, q⟩ => ⟨F, ρ, fp, s, RO.then_ q fun d v F1 H1 g1 e1 x1 r1 q1 => by rw [isN_v x1.sub r1]; exact q1.v.bl x1.sub⟩
theorem dx_notN {k p2} (ha : PE X a (tO CM W fa)) : PE X (.Compare a [.IsNot] [.Constant .none k p2] pos) (tX CM W (un (fun d => some (.bl (!d.isN))) fa)) :=
  (pe_cmp (pc_notN ha) rfl).weak fun σ H Q ⟨F, ρ, fp, s, q⟩ => ⟨F, ρ, fp, s, RO.then_ q fun d v F1 H1 g1 e1 x1 r1 q1 => by rw [isN_v x1.sub r1]; exact q1.v.bl x1.sub⟩
theorem dt_isN {k p2} (ha : PE X a (tO CM W fa)) : PT X (.Compare a [.Is] [.Constant .none k p2] pos) (tT CM W (tun (fun d => some d.isN) fa)) :=
  (pt_cmp (pc_isN ha) rfl).weak fun σ H Q ⟨F, ρ, fp, s, q⟩ => ⟨F, ρ, fp, s, RO.thenB q fun d v F1 H1 g1 e1 x1 r1 q1 => ⟨_, rfl, by rw [isN_v x1.sub r1]; exact q1 F1 H1 (Ext.refl x1.sub)⟩⟩
theorem dt_notN {k p2} (ha : PE X a (tO CM W fa)) : PT X (.Compare a [.IsNot] [.Constant .none k p2] pos) (tT CM W (tun (fun d => some (!d.isN)) fa)) :=
  (pt_cmp (pc_notN ha) rfl).weak fun σ H Q ⟨F, ρ, fp, s, q⟩ => ⟨F, ρ, fp, s, RO.thenB q fun d v F1 H1 g1 e1 x1 r1 q1 => ⟨_, rfl, by rw [isN_v x1.sub r1]; exact q1 F1 H1 (Ext.refl x1.sub)⟩⟩
/-! ### truth -/
theorem dt_tru (ha : PE X a (tO CM W fa)) (he : ∀ whole, isTrue a X.env whole = (do let v ← whole; standAt a.pos; holding [v] (truthy v))) : PT X a (tT CM W (tun D.truth fa)) :=
  (pt_truth ha he).weak fun σ H Q ⟨F, ρ, fp, s, q⟩ => ⟨F, ρ, fp, s, RO.thenB q fun d v F1 H1 g1 e1 x1 r1 q1 => by
    cases h : d.truth with
    | none => rw [h] at q1; exact q1.elim
    | some k =>
      rw [h] at q1
      refine ⟨k, ?_, q1 F1 H1 (Ext.refl x1.sub)⟩
      unfold D.truth at h
      split at h <;> cases h
      · rw [ro_non r1]; rfl
      · rw [ro_bl r1]; rfl
      · rw [ro_int r1]; rfl
      · rename_i t
        obtain ⟨rfl, ok⟩ := ro_str r1
        refine ⟨by rw [stx_len, ← LINE_eq]; exact ok.1, ?_⟩
        rw [stx_len]
        cases t <;> rfl
      · obtain ⟨p, vs, rfl, hp, lp, rs, _⟩ := ro_tup x1.sub r1
        exact .inr (.inl ⟨vs, SqT.of hp, by rw [isEmpty_len rs.length]⟩)
      · obtain ⟨p, vs, fps, rfl, hp, lp, rs⟩ := ro_lst x1.sub r1
        exact .inl ⟨vs, SqL.of hp, by rw [isEmpty_len rs.length]⟩⟩
/-! ### and, or, not, if -/
theorem RB.then_ {σ : L2.St} {F H : Hp} {Q Q' : Bool → Hp → Prop} {r : Res Bool} {k : Bool → Res Bool} (h : RB CM W σ F H Q (r.bind k)) (go : ∀ b F' H', r = .val b → Ext F H F' H' → RB CM W σ F' H' Q (k b) → Q' b H') : RB CM W σ F H Q' r := by
  cases r with
  | val d => exact fun F' H' x => go d F' H' rfl x (RB.ext x h)
  | exc c ns ds => exact h
  | bad => exact h
theorem RB.thenX {σ : L2.St} {F H : Hp} {Q : VK} {Q' : Bool → Hp → Prop} {r : Res Bool} {k : Bool → Res D} (h : RX CM W σ F H Q (r.bind k)) (go : ∀ b F' H', r = .val b → Ext F H F' H' → RX CM W σ F' H' Q (k b) → Q' b H') : RB CM W σ F H Q' r := by
  cases r with
  | val d => exact fun F' H' x => go d F' H' rfl x (RX.ext x h)
  | exc c ns ds => exact h
  | bad => exact h
theorem RB.val {σ : L2.St} {F H : Hp} {Q : Bool → Hp → Prop} {b : Bool} (h : RB CM W σ F H Q (.val b)) (s : Same F H) : Q b H := h F H (Ext.refl s)
variable {ta tb : XB} {rest : List Expr}
theorem dw_and1 (ha : PT X a (tT CM W ta)) : PW X (.BoolOp .And [a] pos) (tT CM W ta) := pw_and1 ha
theorem dw_or1 (ha : PT X a (tT CM W ta)) : PW X (.BoolOp .Or [a] pos) (tT CM W ta) := pw_or1 ha
theorem _root_.L2.PW.weak {X : Cx} {e : Expr} {t t' : TT} (h : PW X e t) (w : ∀ σ H Q, t' σ H Q → t σ H Q) : PW X e t' :=
  ⟨fun wh pins s σ H Q I q => h.run wh pins s σ H Q I (w σ H Q q)⟩
theorem dw_and (ha : PT X a (tT CM W ta)) (hb : PW X (.BoolOp .And (b :: rest) pos) (tT CM W tb)) : PW X (.BoolOp .And (a :: b :: rest) pos) (tT CM W (tnd ta tb)) :=
  (pw_and ha hb).weak fun σ H Q ⟨F, ρ, fp, s, q⟩ => ⟨F, ρ, fp, s, RB.then_ q fun b F1 H1 _ x q1 => by
    cases b with
    | true => rw [if_pos rfl] at q1 ⊢; exact ⟨F1, ρ, fp, s.ext x, q1⟩
    | false => rw [if_neg Bool.false_ne_true] at q1 ⊢; exact q1.val x.sub⟩
theorem dw_or (ha : PT X a (tT CM W ta)) (hb : PW X (.BoolOp .Or (b :: rest) pos) (tT CM W tb)) : PW X (.BoolOp .Or (a :: b :: rest) pos) (tT CM W (tor ta tb)) :=
  (pw_or ha hb).weak fun σ H Q ⟨F, ρ, fp, s, q⟩ => ⟨F, ρ, fp, s, RB.then_ q fun b F1 H1 _ x q1 => by
    cases b with
    | false => rw [if_neg Bool.false_ne_true] at q1 ⊢; exact ⟨F1, ρ, fp, s.ext x, q1⟩
    | true => rw [if_pos rfl] at q1 ⊢; exact q1.val x.sub⟩
theorem dt_not (ha : PT X a (tT CM W ta)) : PT X (.UnaryOp .Not a pos) (tT CM W (tnt ta)) :=
  (pt_not ha).weak fun σ H Q ⟨F, ρ, fp, s, q⟩ => ⟨F, ρ, fp, s, RB.then_ q fun b F1 H1 _ x q1 => q1.val x.sub⟩
theorem RX.here {σ : L2.St} {F H : Hp} {Q : VK} {b : Bool} (h : RX CM W σ F H Q (.val (.bl b))) (s : Same F H) : Q (.bl b) H := (rx_v h).bl s
theorem dx_and (ha : PE X a (tO CM W fa)) (hb : PE X (.BoolOp .And (b :: rest) pos) (tX CM W fb)) : PE X (.BoolOp .And (a :: b :: rest) pos) (tX CM W (vand fa fb)) :=
  (pe_and ha hb).weak fun σ H Q ⟨F, ρ, fp, s, q⟩ => ⟨F, ρ, fp, s, RO.then_ q fun d v F1 H1 g1 e1 x r q1 => by
    split at q1
    · exact ⟨true, ro_bl r, by rw [if_pos rfl]; exact ⟨F1, ρ, fp, s.ext x, q1⟩⟩
    · exact ⟨false, ro_bl r, by rw [if_neg Bool.false_ne_true]; exact q1.here x.sub⟩
    · exact q1.elim⟩
theorem dx_or (ha : PE X a (tO CM W fa)) (hb : PE X (.BoolOp .Or (b :: rest) pos) (tX CM W fb)) : PE X (.BoolOp .Or (a :: b :: rest) pos) (tX CM W (vor fa fb)) :=
  (pe_or ha hb).weak fun σ H Q ⟨F, ρ, fp, s, q⟩ => ⟨F, ρ, fp, s, RO.then_ q fun d v F1 H1 g1 e1 x r q1 => by
    split at q1
    · exact ⟨true, ro_bl r, by rw [if_pos rfl]; exact q1.here x.sub⟩
    · exact ⟨false, ro_bl r, by rw [if_neg Bool.false_ne_true]; exact ⟨F1, ρ, fp, s.ext x, q1⟩⟩
    · exact q1.elim⟩
theorem dx_not (ha : PE X a (tO CM W fa)) : PE X (.UnaryOp .Not a pos) (tX CM W (un vnot fa)) :=
  (pe_not ha).weak fun σ H Q ⟨F, ρ, fp, s, q⟩ => ⟨F, ρ, fp, s, RO.then_ q fun d v F1 H1 g1 e1 x r q1 => by
    unfold vnot at q1
    split at q1
    · exact ⟨_, ro_bl r, q1.v.bl x.sub⟩
    · exact q1.elim⟩
theorem dx_if {t : Expr} (ht : PT X t (tT CM W ta)) (ha : PE X a (tX CM W fa)) (hb : PE X b (tX CM W fb)) : PE X (.IfExp t a b pos) (tX CM W (iff ta fa fb)) :=
  (pe_ifExp ht ha hb).weak fun σ H Q ⟨F, ρ, fp, s, q⟩ => ⟨F, ρ, fp, s, RB.thenX q fun b F1 H1 _ x q1 => by
    cases b with
    | true => rw [if_pos rfl] at q1 ⊢; exact ⟨F1, ρ, fp, s.ext x, q1⟩
    | false => rw [if_neg Bool.false_ne_true] at q1 ⊢; exact ⟨F1, ρ, fp, s.ext x, q1⟩⟩
/-! ### lists of expressions -/
variable {es : List Expr} {l : XL}
theorem RL.ext {σ : L2.St} {F H F' H' : Hp} {Q : List V → Hp → Prop} {r : Res (List D)} (x : Ext F H F' H') (h : RL CM W σ F H Q r) : RL CM W σ F' H' Q r := by
  cases r with
  | val d => exact fun v F2 H2 g x2 r n f => h v F2 H2 g (x.trans x2) r n fun p hp => ⟨x.hh.free (f p hp).1, (f p hp).2⟩
  | exc c ns ds => exact RE.ext x h
  | bad => exact h
theorem dl_nil : PA X [] (tL CM W lnil) := pa_nil.weak fun σ H Q ⟨F, ρ, fp, s, q⟩ => q [] F H [] (Ext.refl s.sub) (RepOs.nil_iff.mpr ⟨rfl, rfl⟩) List.nodup_nil (fun p hp => nomatch hp)
theorem RX.thenL {σ : L2.St} {F H : Hp} {Q : List V → Hp → Prop} {Q' : VK} {r : Res D} {k : D → Res (List D)} (h : RL CM W σ F H Q (r.bind k))
    (go : ∀ d v F' H' g, r = .val d → Ext F H F' H' → RepO CM F' H' d v g → g.Nodup → (∀ p ∈ g, H p = none ∧ F' p = none) → RL CM W σ F' H' Q (k d) → (∀ vs F2 H2 g2, Ext F H F2 H2 → ∀ ds, k d = .val ds → RepOs CM F2 H2 ds vs g2 → g2.Nodup → (∀ p ∈ g2, H p = none ∧ F2 p = none) → Q vs H2) → Q' v H') : RX CM W σ F H Q' r := by
  cases r with
  | val d =>
    intro v F' H' g x r n f
    refine go d v F' H' g rfl x r n f (RL.ext x h) fun vs F2 H2 g2 x2 ds e r2 n2 f2 => ?_
    have h' : RL CM W σ F H Q (k d) := h
    rw [e] at h'
    exact h' vs F2 H2 g2 x2 r2 n2 f2
  | exc c ns ds => exact h
  | bad => exact h
theorem dl_cons (ha : PE X a (tX CM W fa)) (hr : PA X es (tL CM W l)) (hs : starEach (a :: es) X.env = (false, eval a X.env) :: starEach es X.env) : PA X (a :: es) (tL CM W (lcons fa l)) :=
  (pa_cons ha hr hs).weak fun σ H Q ⟨F, ρ, fp, s, q⟩ => ⟨F, ρ, fp, s, RX.thenL q fun d v F1 H1 g1 e1 x1 r1 n1 f1 q1 fin => by
    refine ⟨F1, ρ, fp, s.ext x1, ?_⟩
    cases h : l ρ with
    | bad => rw [h] at q1; exact q1
    | exc c ns es => rw [h] at q1; exact q1
    | val ds =>
      intro vs F2 H2 g2 x2 r2 n2 f2
      refine fin (v :: vs) F2 H2 (g1 ++ g2) (x1.trans x2) (d :: ds) (by rw [h]; rfl) ?_ ?_ fun p hp => ?_
      · rw [RepOs.cons_iff]
        exact ⟨v, vs, g1, g2, rfl, rfl, r1.ext x2.ff x2.hh, r2⟩
      · refine List.nodup_append.mpr ⟨n1, n2, fun p hp q hq e => ?_⟩
        subst e
        obtain ⟨o, ho, ht⟩ := RepO.dom d v g1 r1 p hp
        rw [(f2 p hq).1] at ho; cases ho
      · rcases List.mem_append.mp hp with hp | hp
        · obtain ⟨o, ho, ht⟩ := RepO.dom d v g1 r1 p hp
          exact ⟨(f1 p hp).1, x2.new p o ho ht (f1 p hp).2⟩
        · exact ⟨x1.hh.free (f2 p hp).1, (f2 p hp).2⟩⟩
/-- behind a list of values -/
theorem RL.then_ {σ : L2.St} {F H : Hp} {Q : VK} {Q' : List V → Hp → Prop} {r : Res (List D)} {k : List D → Res D} (h : RX CM W σ F H Q (r.bind k))
    (go : ∀ ds vs F' H' g, r = .val ds → Ext F H F' H' → RepOs CM F' H' ds vs g → g.Nodup → (∀ p ∈ g, H p = none ∧ F' p = none) → RX CM W σ F H Q (k ds) → Q' vs H') : RL CM W σ F H Q' r := by
  cases r with
  | val d => exact fun v F' H' g x r n f => go d v F' H' g rfl x r n f h
  | exc c ns ds => exact h
  | bad => exact h
/-- the new ones frozen -/
theorem Ext.adopt {F H F1 H1 : Hp} {g : List Addr} (x : Ext F H F1 H1) (f : ∀ p ∈ g, H p = none ∧ F1 p = none) : Ext F H (adopt F1 H1 g) H1 :=
  ⟨x.hh, x.ff.trans (adopt_ff fun p hp => (f p hp).2), adopt_sub x.sub, fun a o e t n => by
    rw [adopt_out fun h => by rw [(f a h).1] at e; cases e]
    exact x.new a o e t n⟩
theorem reps_adopt {F H : Hp} {ds : List D} {vs : List V} {g : List Addr} (n : ∀ p ∈ g, F p = none) (r : RepOs CM F H ds vs g) : Reps CM (adopt F H g) (ds.map D.frz) vs := by
  rw [← D.frzs_eq]
  exact RepOs.frz (adopt_ff n) ds vs g (fun p hp => adopt_in hp) r
theorem dx_tup {k} (hl : PA X es (tL CM W l)) : PE X (.Tuple es k pos) (tX CM W (mtup l)) :=
  (pe_tup hl).weak fun σ H Q ⟨F, ρ, fp, s, q⟩ => ⟨F, ρ, fp, s, RL.then_ q fun ds vs F1 H1 g e x r n f q1 => by
    split at q1
    · rename_i hl
      have hv : vs.length ≤ LINE := by rw [← r.length]; exact hl
      refine ⟨by rw [← LINE_eq]; exact hv, fun p hp => ?_⟩
      have x2 := x.adopt f
      exact (rx_v (RX.ext x2 q1)).tup x2.sub (reps_adopt (fun p hp => (f p hp).2) r) hv p hp
    · exact q1.elim⟩
theorem dx_lst (hl : PA X es (tL CM W l)) : PE X (.List es pos) (tX CM W (mlst l)) :=
  (pe_lst hl).weak fun σ H Q ⟨F, ρ, fp, s, q⟩ => ⟨F, ρ, fp, s, RL.then_ q fun ds vs F1 H1 g e x r n f q1 => by
    split at q1
    · rename_i hl
      have hv : vs.length ≤ LINE := by rw [← r.length]; exact hl
      refine ⟨by rw [← LINE_eq]; exact hv, fun p hp => ?_⟩
      refine q1 (.ref p) F1 _ (p :: g) (x.trans (Ext.own x.sub hp)) (ro_newLst hp r hv) ?_ fun b hb => ?_
      · refine List.nodup_cons.mpr ⟨fun hm => ?_, n⟩
        obtain ⟨o, ho, ht⟩ := RepOs.dom ds vs g r p hm
        rw [hp] at ho; cases ho
      · rcases List.mem_cons.mp hb with e | hb
        · subst e; exact ⟨x.hh.free hp, x.sub.free hp⟩
        · exact f b hb
    · exact q1.elim⟩
theorem dx_dic : PE X (.Dict [] [] pos) (tX CM W mdic) :=
  pe_dnewK.weak fun σ H Q ⟨F, ρ, fp, s, q⟩ p hp => by
    refine q (.ref p) F _ [p] (Ext.own s.sub hp) ?_ (by simp) fun b hb => ?_
    · rw [RepO.nd_iff, if_pos (show Kd.own (.dic true []) = true from rfl)]
      exact ⟨p, [], [], rfl, ⟨rfl, ⟨Nat.zero_le _, by simp⟩, .inl ⟨[], rfl, upd_same⟩⟩, RepOs.nil_iff.mpr ⟨rfl, rfl⟩, rfl⟩
    · have e : b = p := by simpa using hb
      subst e
      exact ⟨hp, s.sub.free hp⟩
/-! ### subscripts, slices -/
theorem RO.ext {σ : L2.St} {F H F' H' : Hp} {Q : VK} {r : Res D} (x : Ext F H F' H') (h : RO CM W σ F H Q r) : RO CM W σ F' H' Q r := by
  cases r with
  | val d => exact fun v F2 H2 g x2 r => h v F2 H2 g (x.trans x2) r
  | exc c ns ds => exact RE.ext x h
  | bad => exact h
theorem RO.thenO {σ : L2.St} {F H : Hp} {Q Q' : VK} {r : Res D} {k : D → Res D} (h : RO CM W σ F H Q (r.bind k))
    (go : ∀ d v F' H' g, r = .val d → Ext F H F' H' → RepO CM F' H' d v g → RO CM W σ F' H' Q (k d) → Q' v H') : RO CM W σ F H Q' r := by
  cases r with
  | val d => exact fun v F' H' g x r => go d v F' H' g rfl x r (RO.ext x h)
  | exc c ns ds => exact h
  | bad => exact h
theorem do_idx (hu : X.A.units + 1 < cLine) (ha : PE X a (tO CM W fa)) (hb : PE X b (tO CM W fb)) (hs : PlainIx b) : PE X (.Subscript a b pos) (tO CM W (bn D.idx fa fb)) :=
  (pe_ix (os_idx (CM := CM) hu) ha hb hs).weak fun σ H Q ⟨F, ρ, fp, s, q⟩ =>
    ⟨F, ρ, fp, s, RO.thenO q fun d v F1 H1 g1 e1 x1 r1 q1 => ⟨F1, ρ, fp, s.ext x1, RO.thenO q1 fun e u F2 H2 g2 e2 x2 r2 q2 => ⟨F2, d, e, g1, g2, x2.sub, r1.ext x2.ff x2.hh, r2, q2.v⟩⟩⟩
abbrev XI := Env → Res (Option Int)
/-- a part of a slice -/
def tI (CM : CMap) (W : WX) (f : XI) : TO := fun σ H Q => ∃ F ρ fp, Sl CM F H ρ σ fp ∧ (match f ρ with
  | .val i => ∀ F' H', Ext F H F' H' → Q i H'
  | .exc c ns ds => RE CM W σ F H c ns ds
  | .bad => False)
theorem _root_.L2.PO.weak {X : Cx} {e : Option Expr} {t t' : TO} (h : PO X e t) (w : ∀ σ H Q, t' σ H Q → t σ H Q) : PO X e t' :=
  ⟨fun pins s σ H Q I q => h.run pins s σ H Q I (w σ H Q q)⟩
theorem di_no : PO X none (tI CM W pno) := po_none.weak fun σ H Q ⟨F, ρ, fp, s, q⟩ => q F H (Ext.refl s.sub)
theorem di_so (ha : PE X a (tO CM W fa)) : PO X (some a) (tI CM W (pso fa)) := (po_some ha).weak fun σ H Q ⟨F, ρ, fp, s, q⟩ => by
  refine ⟨F, ρ, fp, s, ?_⟩
  unfold pso at q
  cases h : fa ρ with
  | bad => rw [h] at q; exact q
  | exc c ns ds => rw [h] at q; exact q
  | val d =>
    rw [h] at q
    intro v F1 H1 g x r
    cases d with
    | int i => exact ⟨i, ro_int r, q F1 H1 x⟩
    | _ => exact q.elim
theorem dx_sli {lo hi : Option Expr} {p2 : Pos} {fl fh : XI} (ha : PE X a (tO CM W fa)) (hl : PO X lo (tI CM W fl)) (hh : PO X hi (tI CM W fh)) : PE X (.Subscript a (.Slice lo hi none p2) pos) (tX CM W (sli fa fl fh)) :=
  (pe_slice (os_cut (CM := CM)) ha hl hh).weak fun σ H Q ⟨F, ρ, fp, s, q⟩ => ⟨F, ρ, fp, s, RO.then_ q fun d v F1 H1 g1 e1 x1 r1 q1 => by
    refine ⟨F1, ρ, fp, s.ext x1, ?_⟩
    cases h : fl ρ with
    | bad => rw [h] at q1; exact q1
    | exc c ns ds => rw [h] at q1; exact q1
    | val i =>
      rw [h] at q1
      intro F2 H2 x2
      refine ⟨F2, ρ, fp, (s.ext x1).ext x2, ?_⟩
      have q2 := RX.ext x2 q1
      cases h2 : fh ρ with
      | bad => rw [h2] at q2; exact q2
      | exc c ns ds => rw [h2] at q2; exact q2
      | val j =>
        rw [h2] at q2
        intro F3 H3 x3
        exact ⟨F3, d, g1, x3.sub, (r1.ext x2.ff x2.hh).ext x3.ff x3.hh, (RX.ext x3 q2).v⟩⟩
/-! ### built-in functions, by name -/
variable {x : Str} {id T : String}
theorem one {g : D → Option D} {σ : L2.St} {H : Hp} {Q : VK} (h : tX CM W (un g fa) σ H Q) : tO CM W fa σ H fun v H1 => rC1 CM g [v] H1 Q := by
  obtain ⟨F, ρ, fp, s, q⟩ := h
  exact ⟨F, ρ, fp, s, RO.then_ q fun d v F1 H1 g1 e1 x1 r1 q1 => ⟨F1, d, v, g1, rfl, x1.sub, r1, q1.v⟩⟩
theorem dx_callB {g : D → Option D} (hc : CallR X (.builtin id) (rC1 CM g)) (hg : Gl X x) (hm : X.mg x = none) (hv : bootBuiltins x = some (.builtin id)) (ha : PE X a (tO CM W fa)) (hn : x ≠ "__name__") (hdb : (x == ("__debug__" : Str)) = false)
    (he : starEach [a] X.env = [(false, eval a X.env)]) : PE X (.Call (.Name x p) [a] [] pos) (tX CM W (un g fa)) :=
  (pe_callB hc hg hm hv (pa_cons ha pa_nil he) hn hdb he rfl).weak fun σ H Q h => one h
theorem dx_callTy {g : D → Option D} (hc : CallR X (.type T) (rC1 CM g)) (hg : Gl X x) (hm : X.mg x = none) (hv : bootBuiltins x = some (.type T)) (ha : PE X a (tO CM W fa)) (hn : x ≠ "__name__") (hdb : (x == ("__debug__" : Str)) = false)
    (he : starEach [a] X.env = [(false, eval a X.env)]) : PE X (.Call (.Name x p) [a] [] pos) (tX CM W (un g fa)) :=
  (pe_callTy hc hg hm hv (pa_cons ha pa_nil he) hn hdb he rfl).weak fun σ H Q h => one h
theorem dx_callB2 {g : D → D → Option D} (hc : CallR X (.builtin id) (rC2 CM g)) (hg : Gl X x) (hm : X.mg x = none) (hv : bootBuiltins x = some (.builtin id)) (ha : PE X a (tO CM W fa)) (hb : PE X b (tO CM W fb)) (hn : x ≠ "__name__") (hdb : (x == ("__debug__" : Str)) = false)
    (he : starEach [a, b] X.env = (false, eval a X.env) :: starEach [b] X.env) (he2 : starEach [b] X.env = [(false, eval b X.env)]) : PE X (.Call (.Name x p) [a, b] [] pos) (tX CM W (bn g fa fb)) :=
  (pe_callB hc hg hm hv (pa_cons ha (pa_cons hb pa_nil he2) he) hn hdb he (by rw [he2]; rfl)).weak fun σ H Q ⟨F, ρ, fp, s, q⟩ =>
    ⟨F, ρ, fp, s, RO.then_ q fun d v F1 H1 g1 e1 x1 r1 q1 => ⟨F1, ρ, fp, s.ext x1, RO.then_ q1 fun e u F2 H2 g2 e2 x2 r2 q2 => ⟨F2, d, e, v, u, g1, g2, rfl, x2.sub, r1.ext x2.ff x2.hh, r2, q2.v⟩⟩⟩
end
end Lc
end
section
set_option Elab.async false
set_option linter.all false
set_option maxRecDepth 100000
set_option maxHeartbeats 2000000
/-! Calls of own functions, methods, properties. -/
namespace Lc
open PySem PySem.Spec L2
/-! ### an owned value lent to a callee as if it were frozen -/
def hide (fp : List Addr) (F : Hp) : Hp := fun a => if a ∈ fp then none else F a
theorem hide_in {fp : List Addr} {F : Hp} {a : Addr} (h : a ∈ fp) : hide fp F a = none := if_pos h
theorem hide_out {fp : List Addr} {F : Hp} {a : Addr} (h : a ∉ fp) : hide fp F a = F a := if_neg h
/-- the object is of a kind in t -/
def HTg (t : Tg) : HO → Prop
  | .lst _ => t.l = true
  | .dK _ => t.d = true
  | .dT _ => t.d = true
  | .ins _ _ _ => t.o = true
  | _ => False
theorem HTg.left {t t' : Tg} {o : HO} (h : HTg t o) : HTg (t.or t') o := by
  cases o <;> first | exact h.elim | (show (_ || _) = true; rw [show _ = true from h]; rfl)
theorem HTg.right {t t' : Tg} {o : HO} (h : HTg t' o) : HTg (t.or t') o := by
  cases o <;> first | exact h.elim | (show (_ || _) = true; rw [show _ = true from h]; exact Bool.or_true _)
section
variable {CM : CMap} {F F' H H' : Hp}
mutual
theorem RepO.htg : ∀ (d : D) (v : V) (fp : List Addr), RepO CM F H d v fp → ∀ p ∈ fp, ∃ o, H p = some o ∧ HTg d.tg o
  | .non, v, fp, h => by unfold RepO at h; rw [h.2]; intro p hp; cases hp
  | .bl b, v, fp, h => by unfold RepO at h; rw [h.2]; intro p hp; cases hp
  | .int i, v, fp, h => by unfold RepO at h; rw [h.2]; intro p hp; cases hp
  | .str x, v, fp, h => by unfold RepO at h; rw [h.2]; intro p hp; cases hp
  | .nd k ds, v, fp, h => by
    rw [RepO.nd_iff] at h
    by_cases hk : k.own = true
    · rw [if_pos hk] at h
      obtain ⟨p, vs, fps, h1, h2, h3, rfl⟩ := h
      unfold D.tg
      rw [if_pos hk]
      intro q hq
      rcases List.mem_cons.mp hq with e | hq
      · rw [e]
        have : ∃ o, H p = some o ∧ HTg k.tg o := by
          cases k with
          | tup => exact absurd hk Bool.false_ne_true
          | lst o => exact ⟨_, h2.1, rfl⟩
          | dic o ks =>
            obtain ⟨_, _, ⟨_, _, r⟩ | ⟨_, _, r⟩⟩ := h2
            · exact ⟨_, r, rfl⟩
            · exact ⟨_, r, rfl⟩
          | obj o c ns =>
            obtain ⟨_, C, dx, _, r⟩ := h2
            exact ⟨_, r, rfl⟩
          | scr => exact absurd hk Bool.false_ne_true
          | xob c ns => exact absurd hk Bool.false_ne_true
        obtain ⟨o, e1, e2⟩ := this
        exact ⟨o, e1, e2.left⟩
      · obtain ⟨o, e1, e2⟩ := RepOs.htg ds vs fps h3 q hq
        exact ⟨o, e1, e2.right⟩
    · rw [if_neg hk] at h
      rw [h.2]; intro p hp; cases hp
theorem RepOs.htg : ∀ (ds : List D) (vs : List V) (fp : List Addr), RepOs CM F H ds vs fp → ∀ p ∈ fp, ∃ o, H p = some o ∧ HTg (D.tgs ds) o
  | [], vs, fp, h => by unfold RepOs at h; rw [h.2]; intro p hp; cases hp
  | d :: ds, vs, fp, h => by
    unfold RepOs at h
    obtain ⟨v, r, f, g, h1, rfl, h3, h4⟩ := h
    unfold D.tgs
    intro p hp
    rcases List.mem_append.mp hp with hp | hp
    · obtain ⟨o, e1, e2⟩ := RepO.htg d v f h3 p hp
      exact ⟨o, e1, e2.left⟩
    · obtain ⟨o, e1, e2⟩ := RepOs.htg ds r g h4 p hp
      exact ⟨o, e1, e2.right⟩
end
variable {fp : List Addr} {t : Tg}
mutual
theorem Rep.hide (n : ∀ p ∈ fp, ∃ o, F p = some o ∧ HTg t o) : ∀ (d : D) (v : V), D.clr t d = true → Rep CM F d v → Rep CM (hide fp F) d v
  | .non, v, _, h => h
  | .bl b, v, _, h => h
  | .int i, v, _, h => h
  | .str t, v, _, h => h
  | .nd k ds, v, hc, h => by
    rw [Rep.nd_iff] at h ⊢
    obtain ⟨h1, p, vs, h2, h3, h4⟩ := h
    unfold D.clr at hc
    rw [Bool.and_eq_true] at hc
    refine ⟨h1, p, vs, h2, ?_, Reps.hide n ds vs hc.2 h4⟩
    have out : ∀ o, F p = some o → ¬ HTg t o → Lc.hide fp F p = some o := fun o e nt => by
      rw [hide_out fun hp => ?_]
      · exact e
      · obtain ⟨o', e', h'⟩ := n p hp
        rw [e] at e'; cases e'
        exact nt h'
    cases k with
    | tup => exact ⟨out _ h3.1 id, h3.2⟩
    | lst o =>
      have ho : o = false := h1
      subst ho
      have ht : t.l = false := by simpa using hc.1
      exact ⟨out _ h3.1 (fun z => by rw [show t.l = true from z] at ht; cases ht), h3.2⟩
    | dic o ks =>
      have ho : o = false := h1
      subst ho
      have ht : t.d = false := by simpa using hc.1
      obtain ⟨a1, a2, a3⟩ := h3
      refine ⟨a1, a2, ?_⟩
      have rd : ∀ o, (HTg t o → t.d = true) → RdN F p o → RdN (Lc.hide fp F) p o := fun o hz r => by
        rcases r with r | ⟨m, u, r⟩
        · exact .inl (out _ r fun z => by rw [hz z] at ht; cases ht)
        · exact .inr ⟨m, u, out _ r id⟩
      rcases a3 with ⟨as, e1, r⟩ | ⟨ts, e1, r⟩
      · exact .inl ⟨as, e1, rd _ id r⟩
      · exact .inr ⟨ts, e1, rd _ id r⟩
    | obj o c ns =>
      have ho : o = false := h1
      subst ho
      have ht : t.o = false := by simpa using hc.1
      obtain ⟨a1, C, dx, a2, a3⟩ := h3
      exact ⟨a1, C, dx, a2, out _ a3 fun z => by rw [show t.o = true from z] at ht; cases ht⟩
    | scr =>
      obtain ⟨⟨o, a1⟩, a2⟩ := h3
      exact ⟨⟨o, out _ a1 id⟩, a2⟩
    | xob c ns =>
      obtain ⟨a1, a2, C, dx, a3, a4, a5, a6⟩ := h3
      refine ⟨a1, a2, C, dx, a3, a4, a5, ?_⟩
      rw [hide_out fun hp => ?_]
      · exact a6
      · obtain ⟨o', e', h'⟩ := n dx hp
        rw [a6] at e'; cases e'
        exact h'.elim
theorem Reps.hide (n : ∀ p ∈ fp, ∃ o, F p = some o ∧ HTg t o) : ∀ (ds : List D) (vs : List V), D.clrs t ds = true → Reps CM F ds vs → Reps CM (hide fp F) ds vs
  | [], vs, _, h => h
  | d :: ds, vs, hc, h => by
    rw [Reps.cons_iff] at h ⊢
    unfold D.clrs at hc
    rw [Bool.and_eq_true] at hc
    obtain ⟨v, r, h1, h2, h3⟩ := h
    exact ⟨v, r, h1, Rep.hide n d v hc.1 h2, Reps.hide n ds r hc.2 h3⟩
end
mutual
theorem RepO.hide (n : ∀ p ∈ fp, ∃ o, F p = some o ∧ HTg t o) : ∀ (d : D) (v : V) (g : List Addr), D.clr t d = true → RepO CM F H d v g → RepO CM (hide fp F) H d v g
  | .non, v, g, _, h => by unfold RepO at h ⊢; exact h
  | .bl b, v, g, _, h => by unfold RepO at h ⊢; exact h
  | .int i, v, g, _, h => by unfold RepO at h ⊢; exact h
  | .str t, v, g, _, h => by unfold RepO at h ⊢; exact h
  | .nd k ds, v, g, hc, h => by
    rw [RepO.nd_iff] at h ⊢
    have hc' := hc
    unfold D.clr at hc'
    rw [Bool.and_eq_true] at hc'
    by_cases hk : k.own = true
    · rw [if_pos hk] at h ⊢
      obtain ⟨p, vs, fps, h1, h2, h3, h4⟩ := h
      exact ⟨p, vs, fps, h1, h2, RepOs.hide n ds vs fps hc'.2 h3, h4⟩
    · rw [if_neg hk] at h ⊢
      exact ⟨Rep.hide n _ _ hc h.1, h.2⟩
theorem RepOs.hide (n : ∀ p ∈ fp, ∃ o, F p = some o ∧ HTg t o) : ∀ (ds : List D) (vs : List V) (g : List Addr), D.clrs t ds = true → RepOs CM F H ds vs g → RepOs CM (hide fp F) H ds vs g
  | [], vs, g, _, h => by unfold RepOs at h ⊢; exact h
  | d :: ds, vs, g, hc, h => by
    rw [RepOs.cons_iff] at h ⊢
    unfold D.clrs at hc
    rw [Bool.and_eq_true] at hc
    obtain ⟨v, r, f, g2, h1, h2, h3, h4⟩ := h
    exact ⟨v, r, f, g2, h1, h2, RepO.hide n d v f hc.1 h3, RepOs.hide n ds r g2 hc.2 h4⟩
end
theorem reposFz : ∀ {ds : List D} {vs : List V} {g : List Addr}, ds.all D.fz = true → RepOs CM F H ds vs g → g = []
  | [], vs, g, _, h => (RepOs.nil_iff.mp h).2
  | d :: ds, vs, g, hz, h => by
    obtain ⟨v, r, f1, f2, rfl, rfl, h2, h3⟩ := RepOs.cons_iff.mp h
    rw [List.all_cons, Bool.and_eq_true] at hz
    rw [(RepO.of_fz hz.1 h2).2, reposFz hz.2 h3]; rfl
/-- behind the callee: what was lent is owned again -/
theorem Ext.unlend {F1 H1 : Hp} (x : Ext (Lc.adopt F H fp) H F1 H1) (n : ∀ p ∈ fp, F p = none) : Ext F H (hide fp F1) H1 :=
  ⟨x.hh, fun b o e => by
    have hb : b ∉ fp := fun h => by rw [n b h] at e; cases e
    rw [hide_out hb]
    exact x.ff b o (by rw [adopt_out hb]; exact e),
   fun b o e => by
    by_cases hb : b ∈ fp
    · rw [hide_in hb] at e; cases e
    · rw [hide_out hb] at e; exact x.sub b o e,
   fun a o e t k => by
    by_cases hb : a ∈ fp
    · exact hide_in hb
    · rw [hide_out hb]
      exact x.new a o e t (by rw [adopt_out hb]; exact k)⟩
end
theorem ofString_inj {n n' : String} (z : Str.ofString n = Str.ofString n') : n = n' := by
  rw [Str.ofString_eq_toList, Str.ofString_eq_toList] at z
  injection z with z
  have z2 : n.toList.map Char.toNat = n'.toList.map Char.toNat := by simpa using z
  have inj : ∀ (a b : List Char), a.map Char.toNat = b.map Char.toNat → a = b := by
    intro a
    induction a with
    | nil => intro b h; cases b with
      | nil => rfl
      | cons _ _ => cases h
    | cons x a ih => intro b h; cases b with
      | nil => cases h
      | cons y b =>
        injection h with h1 h2
        rw [ih b h2, show x = y from Char.ext (UInt32.toNat_inj.mp h1)]
  exact String.toList_inj.mp (inj _ _ z2)
/-! ### what can be called -/
/-- fv called with npos positional values and the keywords ks computes φ -/
def RunOk (P : Program) (w : World) (K : PySem.W.Frag) (mg : Str → Option Value) (base : Heap) (k : Nat) (CM : CMap) (fv : Value) (npos : Nat) (ks : List Str) (φ : List D → Res D) : Prop :=
  ∀ (X : Cx), X.prog = P → X.w = w → X.K = K → X.mg = mg → X.base = base → ∀ (pins : List (Addr × Obj)) (s : Shared) (σ : L2.St) (F H : Hp) (us ws : List Value) (vs zs : List V) (ds : List D) (Q : VK) (W : WX),
    L2.Inv X pins σ H s → L2N.Takes X W → Room k X.A → Vals vs us → Vals zs ws → vs.length = npos → zs.length = ks.length → Same F H → Reps CM F ds (vs ++ zs) → RX CM W σ F H Q (φ ds) →
    wpAny (model X.prog X.w) X.A (PySem.call fv us (ks.zip ws)) (EP X pins σ Q) X.xe s
theorem noStar_map {env : PySem.Env} : ∀ {es : List Expr}, (∀ e ∈ es, ∀ v p, e ≠ .Starred v p) → starEach es env = es.map fun e => (false, eval e env)
  | [], _ => rfl
  | e :: es, h => by
    have ih := noStar_map (env := env) (es := es) fun e' he => h e' (List.mem_cons_of_mem _ he)
    rw [List.map_cons, ← ih]
    cases e with
    | Starred v p => exact absurd rfl (h _ List.mem_cons_self v p)
    | _ => rfl
theorem backTo_any {pos : Pos} {l : List (Bool × Sem Value)} : (backTo pos l).any (·.1) = l.any (·.1) := by
  unfold backTo
  rw [List.any_map]
  rfl
theorem noStar_any {env : PySem.Env} {pos : Pos} {es : List Expr} (h : ∀ e ∈ es, ∀ v p, e ≠ .Starred v p) : (backTo pos (starEach es env)).any (·.1) = false := by
  rw [backTo_any, noStar_map h, List.any_map]
  exact List.any_eq_false.mpr fun x _ => by simp
/-- all keywords are named -/
def KwOk (kws : List Keyword) (ks : List Str) : Prop := kws.map (·.arg) = ks.map some
theorem kw_names {env : PySem.Env} {pos : Pos} : ∀ {kws : List Keyword}, (backToKw pos (keywordEach kws env)).map (·.1) = kws.map (·.arg)
  | [] => rfl
  | ⟨n, v, p⟩ :: r => by
    show n :: (backToKw pos (keywordEach r env)).map (·.1) = n :: r.map (·.arg)
    rw [kw_names]
theorem kw_all {env : PySem.Env} {pos : Pos} {kws : List Keyword} {ks : List Str} (h : KwOk kws ks) : (backToKw pos (keywordEach kws env)).all (·.1.isSome) = true ∧ (backToKw pos (keywordEach kws env)).filterMap (·.1) = ks ∧ (backToKw pos (keywordEach kws env)).any (·.1.isNone) = false := by
  have e := (kw_names (env := env) (pos := pos) (kws := kws)).trans h
  generalize backToKw pos (keywordEach kws env) = l at e
  clear h
  induction l generalizing ks with
  | nil => cases ks with
    | nil => exact ⟨rfl, rfl, rfl⟩
    | cons a b => cases e
  | cons x l ih =>
    cases ks with
    | nil => cases e
    | cons a b =>
      injection e with e1 e2
      have e1 : x.1 = some a := e1
      obtain ⟨i1, i2, i3⟩ := ih e2
      refine ⟨?_, ?_, ?_⟩
      · rw [List.all_cons, e1, i1]; rfl
      · rw [List.filterMap_cons, e1]
        show a :: l.filterMap (·.1) = a :: b
        rw [i2]
      · rw [List.any_cons, e1, i3]; rfl
section
variable {X : Cx} {CM : CMap} {W : WX} {es : List Expr} {kws : List Keyword} {l lk : XL} {ks : List Str} {pos p apos : Pos} {φ : List D → Res D}
/-- what stands of a receiver: its footprint is not in the frozen part -/
def tOw (CM : CMap) (W : WX) (f : XP) : TE := fun σ H Q => ∃ F ρ fp, Sl CM F H ρ σ fp ∧ (match f ρ with
  | .val d => ∀ v F' H' g, Ext F H F' H' → RepO CM F' H' d v g → (∀ p ∈ g, F' p = none) → Q v H'
  | .exc c ns ds => RE CM W σ F H c ns ds
  | .bad => False)
theorem _root_.Lc.SRep.get_sub {F H : Hp} : ∀ {ρ : Env} {σ : L2.St} {fp : List Addr} {i : Nat} {d : D}, SRep CM F H ρ σ fp → ρ[i]? = some (some d) → ∃ v f, σ[i]? = some (some v) ∧ RepO CM F H d v f ∧ ∀ p ∈ f, p ∈ fp
  | [], _, _, _, _, _, e => by simp at e
  | o :: ρ, σ, fp, 0, d, h, e => by
    obtain ⟨x, σ', f, g, rfl, rfl, h3, h4⟩ := h
    simp at e; subst e
    obtain ⟨v, rfl, r⟩ := h3
    exact ⟨v, f, rfl, r, fun p hp => List.mem_append_left _ hp⟩
  | o :: ρ, σ, fp, i + 1, d, h, e => by
    obtain ⟨x, σ', f, g, rfl, rfl, h3, h4⟩ := h
    obtain ⟨v, f', e1, e2, e3⟩ := SRep.get_sub (i := i) h4 (by simpa using e)
    exact ⟨v, f', by simpa using e1, e2, fun p hp => List.mem_append_right _ (e3 p hp)⟩
theorem dow_var {i : Nat} {x : Str} (hN : X.N[i]? = some x) (hv : Vis X.env.scope x) (hd : (x == ("__debug__" : Str)) = false) (hcd : (x == ("__classdict__" : Str)) = false) : PE X (.Name x pos) (tOw CM W (bvar i)) :=
  (pe_var hN hv hd hcd).weak fun σ H Q ⟨F, ρ, fp, s, q⟩ => by
    unfold bvar at q
    cases h : getE ρ i with
    | none => rw [h] at q; exact q.elim
    | some d =>
      rw [h] at q
      obtain ⟨v, g, e, r, sb⟩ := s.rep.get_sub (getE_some h)
      exact ⟨v, e, q v F H g (Ext.refl s.sub) r fun p hp => s.nf p (sb p hp)⟩
theorem _root_.L2.PE.x_ow {e : Expr} {f : XP} (h : PE X e (tX CM W f)) : PE X e (tOw CM W f) := h.weak fun σ H Q ⟨F, ρ, fp, s, q⟩ => ⟨F, ρ, fp, s, by
  cases e : f ρ with
  | val d => rw [e] at q; exact fun v F' H' g x r _ n => q v F' H' g x r fun p hp => (n p hp).2
  | exc c ns ds => rw [e] at q; exact q
  | bad => rw [e] at q; exact q⟩
/-- arguments that a callee may look at -/
def tLw (CM : CMap) (W : WX) (f : XL) : TA := fun σ H Q => ∃ F ρ fp, Sl CM F H ρ σ fp ∧ (match f ρ with
  | .val ds => ∀ vs F' H' g, Ext F H F' H' → RepOs CM F' H' ds vs g → (∀ p ∈ g, F' p = none) → Q vs H'
  | .exc c ns ds => RE CM W σ F H c ns ds
  | .bad => False)
theorem lw_cons_go {fa : XP} {σ : L2.St} {H : Hp} {Q : List V → Hp → Prop} (h : tLw CM W (lcons fa l) σ H Q) : tOw CM W fa σ H fun x H1 => tLw CM W l σ H1 fun xs H2 => Q (x :: xs) H2 := by
  obtain ⟨F, ρ, fp, s', q⟩ := h
  refine ⟨F, ρ, fp, s', ?_⟩
  unfold lcons at q
  cases e1 : fa ρ with
  | bad => rw [e1] at q; exact q
  | exc c ns es => rw [e1] at q; exact q
  | val d =>
    rw [e1] at q
    simp only [Res.bind_val] at q
    intro v F1 H1 g1 x1 r1 n1
    refine ⟨F1, ρ, fp, s'.ext x1, ?_⟩
    cases e2 : l ρ with
    | bad => rw [e2] at q; exact q
    | exc c ns es => rw [e2] at q; exact RE.ext x1 q
    | val ds =>
      rw [e2] at q
      intro vs F2 H2 g2 x2 r2 n2
      refine q (v :: vs) F2 H2 (g1 ++ g2) (x1.trans x2) (RepOs.cons_iff.mpr ⟨v, vs, g1, g2, rfl, rfl, r1.ext x2.ff x2.hh, r2⟩) fun p hp => ?_
      rcases List.mem_append.mp hp with hp | hp
      · obtain ⟨o, ho, ht⟩ := RepO.dom d v g1 r1 p hp
        exact x2.new p o ho ht (n1 p hp)
      · exact n2 p hp
theorem lw_nil_go {σ : L2.St} {H : Hp} {Q : List V → Hp → Prop} (h : tLw CM W lnil σ H Q) : Q [] H := by
  obtain ⟨F, ρ, fp, s, q⟩ := h
  exact q [] F H [] (Ext.refl s.sub) (RepOs.nil_iff.mpr ⟨rfl, rfl⟩) (fun p hp => nomatch hp)
theorem dw_nil : PA X [] (tLw CM W lnil) := pa_nil.weak fun σ H Q q => lw_nil_go q
theorem dw_cons {a : Expr} {fa : XP} (ha : PE X a (tOw CM W fa)) (hr : PA X es (tLw CM W l)) (hs : starEach (a :: es) X.env = (false, eval a X.env) :: starEach es X.env) : PA X (a :: es) (tLw CM W (lcons fa l)) :=
  (pa_cons ha hr hs).weak fun σ H Q q => lw_cons_go q
theorem dk_nil : PK X [] (tLw CM W lnil) := ⟨fun pos pins s σ H Q I q => pk_nil.run pos pins s σ H Q I (lw_nil_go q)⟩
theorem dk_cons {a : Expr} {fa : XP} {nm : Option Str} {kpos : Pos} (ha : PE X a (tOw CM W fa)) (hr : PK X kws (tLw CM W l)) : PK X (⟨nm, a, kpos⟩ :: kws) (tLw CM W (lcons fa l)) :=
  ⟨fun pos pins s σ H Q I h => (pk_cons (nm := nm) (kpos := kpos) ha hr).run pos pins s σ H Q I (lw_cons_go h)⟩
/-- the value of a callee that was lent owned values -/
theorem RX.unlend {σ : L2.St} {F H : Hp} {Q : VK} {ds : List D} {vs : List V} {g : List Addr} {r : Res D} (s : Same F H) (rd : RepOs CM F H ds vs g) (n : ∀ p ∈ g, F p = none) (h : RX CM W σ F H Q (lends ds r)) : RX CM W σ (Lc.adopt F H g) H Q r := by
  unfold lends at h
  by_cases hf : ds.all D.fz = true
  · have e : g = [] := reposFz hf rd
    subst e
    have ea : Lc.adopt F H [] = F := by funext a; exact adopt_out (by simp)
    rw [ea]
    rw [if_pos hf] at h
    exact h
  · rw [if_neg hf] at h
    have nt : ∀ {F2 H2 : Hp}, Ext (Lc.adopt F H g) H F2 H2 → ∀ p ∈ g, ∃ o, F2 p = some o ∧ HTg (D.tgs ds) o := fun x2 p hp => by
      obtain ⟨o, e, no⟩ := RepOs.htg ds vs g rd p hp
      exact ⟨o, x2.ff p o (by rw [adopt_in hp]; exact e), no⟩
    cases r with
    | val r =>
      unfold clear at h
      simp only at h
      by_cases hc : D.clr (D.tgs ds) r = true
      · rw [if_pos hc] at h
        intro v2 F2 H2 g2 x2 r2 n2 f2
        refine h v2 (hide g F2) H2 g2 (Ext.unlend x2 n) (RepO.hide (nt x2) r v2 g2 hc r2) n2 fun p hp => ⟨(f2 p hp).1, ?_⟩
        by_cases hb : p ∈ g
        · exact hide_in hb
        · rw [hide_out hb]; exact (f2 p hp).2
      · rw [if_neg hc] at h; exact h.elim
    | exc c ns es =>
      unfold clear at h
      simp only at h
      by_cases hc : D.clrs (D.tgs ds) es = true
      · rw [if_pos hc] at h
        exact fun C dx F2 H2 us h1 x2 h3 h4 h5 => h C dx (hide g F2) H2 us h1 (Ext.unlend x2 n) (by
          rw [hide_out fun hp => ?_]
          · exact h3
          · obtain ⟨o, e, no⟩ := nt x2 dx hp
            rw [h3] at e; cases e
            exact no.elim) h4 (Reps.hide (nt x2) es us hc h5)
      · rw [if_neg hc] at h; exact h.elim
    | bad => exact h.elim
/-- positional values, then the keywords', then the call -/
theorem callWith_run {pins : List (Addr × Obj)} {s : Shared} {σ : L2.St} {F H : Hp} {ρ : Env} {fp : List Addr} {Q : VK} {f : Addr} {first : List Value} {k : List D → Res D} (I : L2.Inv X pins σ H s) (s' : Sl CM F H ρ σ fp) (hk : PySem.W.keepIn X.K (.ref f) = true)
    (ha : PA X es (tLw CM W l)) (hkw : PK X kws (tLw CM W lk)) (ns : ∀ e ∈ es, ∀ v p, e ≠ .Starred v p) (hnil : es = [] → l = lnil) (kok : KwOk kws ks) (q : RX CM W σ F H Q ((l ρ).bind fun ds => (lk ρ).bind fun es => k (ds ++ es)))
    (go : ∀ ds F' H' g us ws vs zs s2, Ext F H F' H' → RepOs CM F' H' ds (vs ++ zs) g → (∀ p ∈ g, F' p = none) → RX CM W σ F H Q (k ds) → L2.Inv X pins σ H' s2 → Vals vs us → Vals zs ws → (∃ a b, l ρ = .val a ∧ lk ρ = .val b ∧ ds = a ++ b ∧ a.length = vs.length ∧ b.length = zs.length) →
      wpAny (model X.prog X.w) X.A (PySem.call (.ref f) (first ++ us) (ks.zip ws)) (EP X pins σ Q) X.xe s2) :
    wpAny (model X.prog X.w) X.A (callWith pos (.ref f) first (backTo pos (starEach es X.env)) (backToKw pos (keywordEach kws X.env))) (EP X pins σ Q) X.xe s := by
  obtain ⟨k1, k2, k3⟩ := kw_all (env := X.env) (pos := pos) kok
  -- behind the positional ones
  have fin : ∀ a vs us F1 H1 g1 s1, l ρ = .val a → Ext F H F1 H1 → RepOs CM F1 H1 a vs g1 → (∀ p ∈ g1, F1 p = none) → L2.Inv X pins σ H1 s1 → Vals vs us → RX CM W σ F H Q ((lk ρ).bind fun es => k (a ++ es)) →
      wpAny (model X.prog X.w) X.A (evalAll ((backToKw pos (keywordEach kws X.env)).map (·.2))) (fun ws s2 => X.K.In s2.heap ∧ wpAny (model X.prog X.w) X.A (PySem.call (.ref f) (first ++ us) (ks.zip ws)) (EP X pins σ Q) X.xe s2) X.xe s1 := by
    intro a vs us F1 H1 g1 s1 ea x1 r1 f1 I1 rv q1
    refine thn (hkw.run pos pins s1 σ H1 (fun zs H2 => ∀ s2 ws, L2.Inv X pins σ H2 s2 → Vals zs ws → wpAny (model X.prog X.w) X.A (PySem.call (.ref f) (first ++ us) (ks.zip ws)) (EP X pins σ Q) X.xe s2) I1 ⟨F1, ρ, fp, s'.ext x1, ?_⟩) fun ws s2 ⟨zs, H2, I2, rz, h2⟩ => ⟨I2.kIn, h2 s2 ws I2 rz⟩
    cases h : lk ρ with
    | bad => rw [h] at q1; exact q1.elim
    | exc c ns es => rw [h] at q1; exact RE.ext x1 q1
    | val b =>
      rw [h] at q1
      intro zs F2 H2 g2 x2 r2 f2 s2 ws I2 rz
      refine go (a ++ b) F2 H2 (g1 ++ g2) us ws vs zs s2 (x1.trans x2) ((RepOs.ext x2.ff x2.hh a vs g1 r1).append r2) (fun p hp => ?_) q1 I2 rv rz ⟨a, b, ea, h, rfl, r1.length, r2.length⟩
      rcases List.mem_append.mp hp with hp | hp
      · obtain ⟨o, ho, ht⟩ := RepOs.dom a vs g1 r1 p hp
        exact x2.new p o ho ht (f1 p hp)
      · exact f2 p hp
  cases es with
  | nil =>
    refine PySem.W.callWith_KW0 (h₀ := X.base) I.ok.mod.kin hk k1 ?_ (by rw [k3]; rfl)
    rw [k2]
    have e := hnil rfl
    subst e
    exact fin [] [] [] F H [] s rfl (Ext.refl s'.sub) (RepOs.nil_iff.mpr ⟨rfl, rfl⟩) (fun p hp => nomatch hp) I .nil q
  | cons e es =>
    refine PySem.W.callWith_KW (h₀ := X.base) I.ok.mod.kin hk k1 ?_ (by rw [k3, Bool.or_false]; exact noStar_any ns) (by rw [noStar_map ns, noStar_map fun e he => ns e (List.mem_cons_of_mem _ he)]; rfl)
    rw [k2]
    have ha' : tLw CM W l σ H fun vs H1 => ∃ a F1 g1, l ρ = .val a ∧ Ext F H F1 H1 ∧ RepOs CM F1 H1 a vs g1 ∧ (∀ p ∈ g1, F1 p = none) ∧ RX CM W σ F H Q ((lk ρ).bind fun es => k (a ++ es)) := by
      refine ⟨F, ρ, fp, s', ?_⟩
      cases h : l ρ with
      | bad => rw [h] at q; exact q
      | exc c ns es => rw [h] at q; exact q
      | val a => rw [h] at q; exact fun vs F1 H1 g1 x1 r1 f1 => ⟨a, F1, g1, rfl, x1, r1, f1, q⟩
    refine thn (ha.run pos pins s σ H _ I ha') fun us s1 ⟨vs, H1, I1, rv, a, F1, g1, ea, x1, r1, f1, q1⟩ => fin a vs us F1 H1 g1 s1 ea x1 r1 f1 I1 rv q1
/-- x(e, .., k = v, ..): an own def, an own class -/
theorem dx_call {x : Str} {f : Addr} {kk npos : Nat} (hg : Gl X x) (hm : X.mg x = some (.ref f)) (hk : PySem.W.keepIn X.K (.ref f) = true) (R : RunOk X.prog X.w X.K X.mg X.base kk CM (.ref f) npos ks φ) (hr : Room kk X.A) (tk : L2N.Takes X W)
    (ha : PA X es (tLw CM W l)) (hkw : PK X kws (tLw CM W lk)) (ns : ∀ e ∈ es, ∀ v p, e ≠ .Starred v p) (hnil : es = [] → l = lnil) (kok : KwOk kws ks) (hn : ∀ ρ a, l ρ = .val a → a.length = npos) (hn2 : ∀ ρ a, lk ρ = .val a → a.length = ks.length) (hdb : (x == ("__debug__" : Str)) = false) :
    PE X (.Call (.Name x p) es kws pos) (tX CM W (Lc.call φ l lk)) := by
  refine ⟨fun pins s σ H Q I ⟨F, ρ, fp, s', q⟩ => ?_⟩
  refine wpAny_Call_Name_kw (ld_glob I hg hm ?_ hdb)
  refine callWith_run (first := []) (k := fun ds => lends ds (φ (ds.map D.frz))) I s' hk ha hkw ns hnil kok q fun ds F1 H1 g us ws vs zs s2 x1 r1 f1 q1 I1 rv rz ⟨a, b, ea, eb, eab, la, lb⟩ => ?_
  have q2 := RX.unlend x1.sub r1 f1 (RX.ext x1 q1)
  exact R X rfl rfl rfl rfl rfl pins s2 σ _ H1 us ws vs zs _ Q W I1 tk hr rv rz (la.symm.trans (hn ρ a ea)) (lb.symm.trans (hn2 ρ b eb)) (adopt_sub x1.sub) (reps_adopt f1 r1) q2
theorem isObj_v {F H : Hp} {d : D} {v : V} {g : List Addr} {c m : String} (s : Same F H) (h : d.isObjM c m = true) (r : RepO CM F H d v g) : ∃ p C dx fs, v = .ref p ∧ CM c = some C ∧ H p = some (.ins C dx fs) ∧ ∃ o ns ds vs fps, d = .obj o c ns ds ∧ fs = (ns.map Str.ofString).zip vs ∧ vs.length = ns.length ∧ RepOs CM F H ds vs fps ∧ ∀ n ∈ ns, n ≠ m := by
  unfold D.isObjM at h
  split at h
  · rename_i o c' ns ds
    rw [Bool.and_eq_true] at h
    have e : c' = c := by simpa using h.1
    subst e
    obtain ⟨p, vs, fps, C, dx, h1, h2, h3, h4, h5⟩ := ro_obj s r
    exact ⟨p, C, dx, _, h1, h3, h4, o, ns, ds, vs, fps, rfl, rfl, h2, h5, by simpa using h.2⟩
  · cases h
theorem lookup_zip : ∀ {ns : List String} {vs : List V} {m : Str}, (∀ n ∈ ns, Str.ofString n ≠ m) → ((ns.map Str.ofString).zip vs).lookup m = none
  | [], _, _, _ => rfl
  | _ :: _, [], _, _ => rfl
  | n :: ns, v :: vs, m, h => by
    show List.lookup m ((Str.ofString n, v) :: (ns.map Str.ofString).zip vs) = none
    have hb : (m == Str.ofString n) = false := beq_eq_false_iff_ne.mpr fun e => h n List.mem_cons_self e.symm
    simp only [List.lookup, hb]
    exact lookup_zip fun n' hn => h n' (List.mem_cons_of_mem _ hn)
/-- not super() -/
def notSuper : Expr → Bool
  | .Call (.Name _ _) [] [] _ => false
  | _ => true
theorem base_of {o : Expr} {m : Str} {env : PySem.Env} {w : Sem Value} (h : notSuper o = true) : attributeBase o m env w = w := by
  unfold attributeBase
  split
  · rw [notSuper] at h; cases h
  · rfl
theorem few_of {env : PySem.Env} {pos : Pos} {es : List Expr} {kws : List Keyword} {ks : List Str} {n : Nat} (ns : ∀ e ∈ es, ∀ v p, e ≠ .Starred v p) (kok : KwOk kws ks) (hn : n < 29) : methodCallForm n (backTo pos (starEach es env)) (backToKw pos (keywordEach kws env)) = true := by
  unfold methodCallForm
  obtain ⟨k1, _, _⟩ := kw_all (env := env) (pos := pos) kok
  have e1 : (backTo pos (starEach es env)).all (fun x => !x.1) = true := by
    have h := noStar_any (env := env) (pos := pos) ns
    rw [List.any_eq_false] at h
    rw [List.all_eq_true]
    intro x hx
    have := h x hx
    simpa using this
  rw [e1, k1]
  simp only [Bool.true_and, decide_eq_true_eq]
  split <;> omega
/-- o.m(e, .., k = v, ..), an own method -/
theorem dx_meth {o : Expr} {fo : XP} {m : Str} {cn mn : String} {C g : Addr} {kk npos : Nat} (ho : PE X o (tOw CM W fo)) (hmn : m = Str.ofString mn) (hC : CM cn = some C) (cl : Cls X.K C) (hm : Meth X.K C m g)
    (R : RunOk X.prog X.w X.K X.mg X.base kk CM (.ref g) (npos + 1) ks φ) (hr : Room kk X.A) (tk : L2N.Takes X W)
    (ha : PA X es (tLw CM W l)) (hkw : PK X kws (tLw CM W lk)) (ns : ∀ e ∈ es, ∀ v p, e ≠ .Starred v p) (hnil : es = [] → l = lnil) (kok : KwOk kws ks) (hn : ∀ ρ a, l ρ = .val a → a.length = npos) (hn2 : ∀ ρ a, lk ρ = .val a → a.length = ks.length)
    (nsup : notSuper o = true) (hfew : es.length + kws.length < 29) (hline : (apos.endLine == pos.line) = true) :
    PE X (.Call (.Attribute o m apos) es kws pos) (tX CM W (Lc.meth cn mn φ fo l lk)) := by
  refine ⟨fun pins s σ H Q I ⟨F, ρ, fp, s', q⟩ => ?_⟩
  refine PySem.W.methodCall_KW (pl := plainOf o X.env) ?_ (by rw [arm_eval_Call, base_of nsup]; exact congrArg (fun k => eval o X.env >>= k) (funext fun ov => congrArg (fun k => standAt apos.atName >>= fun _ => k) (mcall_line (few_of ns kok hfew) hline)))
  have ho' : tOw CM W fo σ H fun x H1 => ∃ d F1 g1, fo ρ = .val d ∧ Ext F H F1 H1 ∧ RepO CM F1 H1 d x g1 ∧ (∀ p ∈ g1, F1 p = none) := by
    refine ⟨F, ρ, fp, s', ?_⟩
    unfold Lc.meth at q
    cases e : fo ρ with
    | val d => exact fun v F1 H1 g1 x1 r1 n1 => ⟨d, F1, g1, rfl, x1, r1, n1⟩
    | exc c ns es => rw [e] at q; exact q
    | bad => rw [e] at q; exact q
  refine thn (ho.run pins s σ H _ I ho') fun ov s1 ⟨x, H1, I1, rx, d, F1, g1, ed, x1, r1, n1⟩ => ?_
  unfold Lc.meth at q
  rw [ed, Res.bind_val] at q
  by_cases hd : d.isObjM cn mn = true
  · rw [if_pos hd] at q
    obtain ⟨p, C', dx, fs, ev, hC', hp, _, fns, _, _, _, _, efs, _, _, hno⟩ := isObj_v x1.sub hd r1
    rw [hC] at hC'; cases hC'
    subst ev
    cases rx
    subst hmn
    refine getmeth_ok I1 hp cl hm (by rw [efs]; exact lookup_zip fun n hn z => hno n hn (ofString_inj z)) ?_
    refine callWith_run (first := [.ref p]) (k := fun ds => lends (d :: ds) (φ (d.frz :: ds.map D.frz))) I1 (s'.ext x1) hm.kp ha hkw ns hnil kok (RX.ext x1 q) fun ds F2 H2 g2 us ws vs zs s2 x2 r2 f2 q2 I2 rv rz ⟨a, b, ea, eb, eab, la, lb⟩ => ?_
    have rr : RepOs CM F2 H2 (d :: ds) (V.ref p :: (vs ++ zs)) (g1 ++ g2) := RepOs.cons_iff.mpr ⟨_, _, g1, g2, rfl, rfl, r1.ext x2.ff x2.hh, r2⟩
    have nn : ∀ p ∈ g1 ++ g2, F2 p = none := fun p hp => by
      rcases List.mem_append.mp hp with hp | hp
      · obtain ⟨o, ho, ht⟩ := RepO.dom d _ g1 r1 p hp
        exact x2.new p o ho ht (n1 p hp)
      · exact f2 p hp
    have q3 := RX.unlend x2.sub rr nn (RX.ext x2 q2)
    exact R X rfl rfl rfl rfl rfl pins s2 σ _ H2 (.ref p :: us) ws (.ref p :: vs) zs _ Q W I2 tk hr (.cons rfl rv) rz (by rw [List.length_cons, ← la, hn ρ a ea]) (lb.symm.trans (hn2 ρ b eb)) (adopt_sub x2.sub) (reps_adopt nn rr) q3
  · rw [if_neg hd] at q
    exact q.elim
/-- the promise of a def that computes φ of n arguments -/
def spF (CM : CMap) (n : Nat) (φ : List D → Res D) : Sp := fun vs H Q E => vs.length = n ∧ ∃ F ds, Same F H ∧ Reps CM F ds vs ∧ RX CM (fun c d _ H' => E c d H') [] F H Q (φ ds)
theorem fget_rep {F H : Hp} : ∀ {ns : List String} {ds : List D} {vs : List V} {fp : List Addr} {n : String} {d : D}, RepOs CM F H ds vs fp → fget ns ds n = some d → ∃ v f, ((ns.map Str.ofString).zip vs).lookup (Str.ofString n) = some v ∧ RepO CM F H d v f
  | [], _, _, _, _, _, _, e => by unfold fget at e; cases e
  | _ :: _, [], _, _, _, _, _, e => by unfold fget at e; cases e
  | n' :: ns, d' :: ds, vs, fp, n, d, r, e => by
    obtain ⟨v, w, f, g, rfl, rfl, r1, r2⟩ := RepOs.cons_iff.mp r
    unfold fget at e
    show ∃ v' f', List.lookup (Str.ofString n) ((Str.ofString n', v) :: (ns.map Str.ofString).zip w) = some v' ∧ _
    by_cases h : n' = n
    · rw [if_pos h] at e
      cases e
      subst h
      exact ⟨v, f, by simp [List.lookup], r1⟩
    · rw [if_neg h] at e
      have hb : (Str.ofString n == Str.ofString n') = false := beq_eq_false_iff_ne.mpr fun z => h (by
        rw [Str.ofString_eq_toList, Str.ofString_eq_toList] at z
        injection z with z
        have z2 : n.toList.map Char.toNat = n'.toList.map Char.toNat := by simpa using z
        have inj : ∀ (a b : List Char), a.map Char.toNat = b.map Char.toNat → a = b := by
          intro a
          induction a with
          | nil => intro b h; cases b with
            | nil => rfl
            | cons _ _ => cases h
          | cons x a ih => intro b h; cases b with
            | nil => cases h
            | cons y b =>
              injection h with h1 h2
              rw [ih b h2, show x = y from Char.ext (UInt32.toNat_inj.mp h1)]
        have z3 := inj _ _ z2
        exact (String.toList_inj.mp z3).symm)
      simp only [List.lookup, hb]
      exact fget_rep r2 e
/-- the table of attributes holds -/
def AttrOk (P : Program) (w : World) (K : PySem.W.Frag) (mg : Str → Option Value) (base : Heap) (k : Nat) (CM : CMap) (ps : Props) : Prop :=
  ∀ c n o, ps.get c n = some o → ∀ C, CM c = some C → Cls K C ∧ (match o with
    | none => NoAttr K C (Str.ofString n)
    | some φ => ∃ p g fd x, PropOf K C (Str.ofString n) p g ∧ FnOk P w K mg base (L2N.CX P w) k g fd [x] (spF CM 1 φ) ∧ Binds K fd [x] [])
theorem cx_false {P : Program} {w : World} {outer : List PySem.Env} {H : Hp} {s : Shared} {u : Value} {s' : Shared} (h : L2N.CX P w outer H s (fun _ _ _ => False) u s') : False := by
  obtain ⟨_, _, _, _, _, _, _, _, _, _, _, _, e⟩ := h
  exact e
theorem do_attr {o : Expr} {fo : XP} {n : String} {m : Str} {kk : Nat} {ps : Props} (ho : PE X o (tOw CM W fo)) (hm : m = Str.ofString n) (A : AttrOk X.prog X.w X.K X.mg X.base kk CM ps) (hr : Room (kk + 1) X.A) (nsup : notSuper o = true) :
    PE X (.Attribute o m pos) (tO CM W (attr ps n fo)) := by
  subst hm
  refine ⟨fun pins s σ H Q I ⟨F, ρ, fp, s', q⟩ => ?_⟩
  unfold attr at q
  have ho' : tOw CM W fo σ H fun x H1 => ∃ d F1 g1, fo ρ = .val d ∧ Ext F H F1 H1 ∧ RepO CM F1 H1 d x g1 ∧ (∀ p ∈ g1, F1 p = none) := by
    refine ⟨F, ρ, fp, s', ?_⟩
    cases e : fo ρ with
    | val d => exact fun v F1 H1 g1 x1 r1 n1 => ⟨d, F1, g1, rfl, x1, r1, n1⟩
    | exc c ns es => rw [e] at q; exact q
    | bad => rw [e] at q; exact q
  refine attr_of (base_of nsup) (thn (ho.run pins s σ H _ I ho') fun ov s1 ⟨x, H1, I1, rx, d, F1, g1, ed, x1, r1, n1⟩ => ?_)
  rw [ed, Res.bind_val] at q
  split at q
  · rename_i o' c ns ds
    obtain ⟨p, vs, fps, C, dx, rfl, hl, hC, hp, rs⟩ := ro_obj x1.sub r1
    cases rx
    split at q
    · rename_i φ hg
      obtain ⟨cl, pp, g, fd, xn, hpr, FO, hb⟩ := A c n _ hg C hC
      have q1 : RX CM (fun _ _ _ _ => False) [] F1 H1 Q (lends [.obj o' c ns ds] (φ [(D.obj o' c ns ds).frz])) := by
        have q2 := RX.ext x1 q.rx
        cases e : lends [.obj o' c ns ds] (φ [(D.obj o' c ns ds).frz]) with
        | val z => rw [e] at q2; exact q2
        | exc _ _ _ => rw [e] at q2; exact q2.elim
        | bad => rw [e] at q2; exact q2.elim
      have rr1 : RepOs CM F1 H1 [.obj o' c ns ds] [.ref p] (g1 ++ []) := RepOs.cons_iff.mpr ⟨_, _, g1, [], rfl, rfl, r1, RepOs.nil_iff.mpr ⟨rfl, rfl⟩⟩
      rw [List.append_nil] at rr1
      have q2 := RX.unlend x1.sub rr1 n1 q1
      refine getprop_ok (ds := []) (dvs := []) (E := fun _ _ _ => False) I1 hp cl hpr FO hr hb .nil (fun pins σ H s e s' _ z => (cx_false z).elim) ?_
      refine ⟨rfl, Lc.adopt F1 H1 g1, [(D.obj o' c ns ds).frz], adopt_sub x1.sub, ?_, q2⟩
      rw [Reps.cons_iff]
      exact ⟨_, _, rfl, RepO.frz (adopt_ff n1) _ _ g1 (fun p hp => adopt_in hp) r1, Reps.nil_iff.mpr rfl⟩
    · rename_i hg
      obtain ⟨cl, na⟩ := A c n _ hg C hC
      cases hf : fget ns ds n with
      | none => rw [hf] at q; exact q.elim
      | some z =>
        rw [hf] at q
        obtain ⟨v, f, e1, e2⟩ := fget_rep rs hf
        exact getattr_ok I1 hp cl na e1 fun u s2 I2 ru => ⟨v, H1, I2, ru, q v F1 H1 f x1 e2⟩
    · exact q.elim
  · exact q.elim
end
end Lc
end
section
set_option Elab.async false
set_option linter.all false
set_option maxRecDepth 100000
set_option maxHeartbeats 2000000
/-! Statements. -/
namespace Lc
open PySem PySem.Spec L2
/-- from the entry (owned: fp) to here (owned: fp') -/
structure Gr (F H : Hp) (fp : List Addr) (F' H' : Hp) (fp' : List Addr) : Prop where
  hh : ∀ a o, H a = some o → a ∉ fp → H' a = some o
  ff : Same F F'
  new : ∀ a o, H a = some o → NT o → a ∉ fp → F a = none → F' a = none
  fr : ∀ p ∈ fp', p ∈ fp ∨ H p = none
def Eqs (rb : List Nat) (σ σ' : L2.St) : Prop := ∀ i, i ∉ rb → σ'[i]? = σ[i]?
theorem Eqs.refl {rb : List Nat} {σ : L2.St} : Eqs rb σ σ := fun _ _ => rfl
theorem Eqs.trans {rb : List Nat} {σ σ' σ'' : L2.St} (a : Eqs rb σ σ') (b : Eqs rb σ' σ'') : Eqs rb σ σ'' := fun i h => (b i h).trans (a i h)
theorem Eqs.set {rb : List Nat} {σ : L2.St} {i : Nat} {x : Option V} (h : i ∈ rb) : Eqs rb σ (σ.set i x) := fun j hj => List.getElem?_set_ne fun e => by subst e; exact hj h
section
variable {F F' F'' H H' H'' : Hp} {fp fp' fp'' : List Addr}
theorem Gr.refl : Gr F H fp F H fp := ⟨fun _ _ e _ => e, Same.refl _, fun _ _ _ _ _ n => n, fun _ h => .inl h⟩
theorem Gr.of_ext (x : Ext F H F' H') : Gr F H fp F' H' fp := ⟨fun a o e _ => x.hh a o e, x.ff, fun a o e t _ n => x.new a o e t n, fun _ h => .inl h⟩
theorem Gr.trans (a : Gr F H fp F' H' fp') (b : Gr F' H' fp' F'' H'' fp'') : Gr F H fp F'' H'' fp'' := by
  have nfp : ∀ p o, H p = some o → p ∉ fp → p ∉ fp' := fun p o e n h => (a.fr p h).elim n fun z => by rw [e] at z; cases z
  refine ⟨fun p o e n => b.hh p o (a.hh p o e n) (nfp p o e n), a.ff.trans b.ff, fun p o e t n k => b.new p o (a.hh p o e n) t (nfp p o e n) (a.new p o e t n k), fun p hp => ?_⟩
  rcases b.fr p hp with h | h
  · exact a.fr p h
  · by_cases hf : p ∈ fp
    · exact .inl hf
    · refine .inr ?_
      cases e : H p with
      | none => rfl
      | some o => rw [a.hh p o e hf] at h; cases h
/-- owned things written or made -/
theorem Gr.sub (s : ∀ p ∈ fp', p ∈ fp ∨ H p = none) : Gr F H fp F H fp' := ⟨fun _ _ e _ => e, Same.refl _, fun _ _ _ _ _ n => n, s⟩
theorem Gr.ext (h : Gr F H [] F' H' fp') (s : Same F' H') : Ext F H F' H' := ⟨fun a o e => h.hh a o e (by simp), h.ff, s, fun a o e t n => h.new a o e t (by simp) n⟩
end
/-- what is wanted behind a statement, by its outcome -/
def RS (CM : CMap) (W : WX) (rb : List Nat) (E : Ends) (σ : L2.St) (F H : Hp) (fp : List Addr) : SO → Prop
  | .nx ρ => ∀ σ' F' H' fp', Gr F H fp F' H' fp' → Sl CM F' H' ρ σ' fp' → Eqs rb σ σ' → E.nx σ' H'
  | .bk ρ => ∀ σ' F' H' fp', Gr F H fp F' H' fp' → Sl CM F' H' ρ σ' fp' → Eqs rb σ σ' → E.bk σ' H'
  | .ct ρ => ∀ σ' F' H' fp', Gr F H fp F' H' fp' → Sl CM F' H' ρ σ' fp' → Eqs rb σ σ' → E.ct σ' H'
  | .rt d => ∀ v F' H' g, Gr F H fp F' H' g → Same F' H' → RepO CM F' H' d v g → g.Nodup → (∀ p ∈ g, F' p = none) → E.rt v H'
  | .exc ρ c ns ds => ∀ σ' F' H' fp' C dx vs, Gr F H fp F' H' fp' → Sl CM F' H' ρ σ' fp' → Eqs rb σ σ' → CM c = some C → F' dx = some (.xd ((ns.map Str.ofString).zip vs)) → ns.length = ds.length → Reps CM F' ds vs → W (.ref C) (some dx) σ' H'
  | .bad => False
def tS (CM : CMap) (W : WX) (rb : List Nat) (f : XS) : TS := fun E σ H => ∃ F ρ fp, Sl CM F H ρ σ fp ∧ RS CM W rb E σ F H fp (f ρ)
section
variable {CM : CMap} {W : WX} {rb : List Nat} {E E' : Ends} {σ σ' : L2.St} {F H F' H' : Hp} {fp fp' : List Addr} {ρ : Env}
theorem RS.gr {r : SO} (g : Gr F H fp F' H' fp') (e : Eqs rb σ σ') (h : RS CM W rb E σ F H fp r) : RS CM W rb E σ' F' H' fp' r := by
  cases r with
  | nx ρ => exact fun σ2 F2 H2 fp2 g2 s2 e2 => h σ2 F2 H2 fp2 (g.trans g2) s2 (e.trans e2)
  | bk ρ => exact fun σ2 F2 H2 fp2 g2 s2 e2 => h σ2 F2 H2 fp2 (g.trans g2) s2 (e.trans e2)
  | ct ρ => exact fun σ2 F2 H2 fp2 g2 s2 e2 => h σ2 F2 H2 fp2 (g.trans g2) s2 (e.trans e2)
  | rt d => exact fun v F2 H2 g2 gg s2 r n f => h v F2 H2 g2 (g.trans gg) s2 r n f
  | exc ρ c ns ds => exact fun σ2 F2 H2 fp2 C dx vs g2 s2 e2 => h σ2 F2 H2 fp2 C dx vs (g.trans g2) s2 (e.trans e2)
  | bad => exact h
theorem RS.re {ρ : Env} {c ns ds} (s : Sl CM F H ρ σ fp) (h : RS CM W rb E σ F H fp (.exc ρ c ns ds)) : RE CM W σ F H c ns ds :=
  fun C dx F' H' vs hC x hd hl r => h σ F' H' fp C dx vs (Gr.of_ext x) (s.ext x) Eqs.refl hC hd hl r
theorem RS.x {a : Res D} {k : D → SO} {Q : VK} (s : Sl CM F H ρ σ fp) (h : RS CM W rb E σ F H fp (a.so ρ k))
    (go : ∀ d v F' H' g, a = .val d → Ext F H F' H' → RepO CM F' H' d v g → g.Nodup → (∀ p ∈ g, H p = none ∧ F' p = none) → RS CM W rb E σ F' H' fp (k d) → Q v H') : RX CM W σ F H Q a := by
  cases a with
  | val d => exact fun v F' H' g x r n f => go d v F' H' g rfl x r n f (RS.gr (Gr.of_ext x) Eqs.refl h)
  | exc c ns ds => exact RS.re s h
  | bad => exact h
theorem RS.o {a : Res D} {k : D → SO} {Q : VK} (s : Sl CM F H ρ σ fp) (h : RS CM W rb E σ F H fp (a.so ρ k))
    (go : ∀ d v F' H' g, a = .val d → Ext F H F' H' → RepO CM F' H' d v g → RS CM W rb E σ F' H' fp (k d) → Q v H') : RO CM W σ F H Q a := by
  cases a with
  | val d => exact fun v F' H' g x r => go d v F' H' g rfl x r (RS.gr (Gr.of_ext x) Eqs.refl h)
  | exc c ns ds => exact RS.re s h
  | bad => exact h
theorem RS.b {a : Res Bool} {k : Bool → SO} {Q : Bool → Hp → Prop} (s : Sl CM F H ρ σ fp) (h : RS CM W rb E σ F H fp (a.so ρ k))
    (go : ∀ d F' H', a = .val d → Ext F H F' H' → RS CM W rb E σ F' H' fp (k d) → Q d H') : RB CM W σ F H Q a := by
  cases a with
  | val d => exact fun F' H' x => go d F' H' rfl x (RS.gr (Gr.of_ext x) Eqs.refl h)
  | exc c ns ds => exact RS.re s h
  | bad => exact h
theorem RS.l {a : Res (List D)} {k : List D → SO} {Q : List V → Hp → Prop} (s : Sl CM F H ρ σ fp) (h : RS CM W rb E σ F H fp (a.so ρ k))
    (go : ∀ d v F' H' g, a = .val d → Ext F H F' H' → RepOs CM F' H' d v g → g.Nodup → (∀ p ∈ g, H p = none ∧ F' p = none) → RS CM W rb E σ F' H' fp (k d) → Q v H') : RL CM W σ F H Q a := by
  cases a with
  | val d => exact fun v F' H' g x r n f => go d v F' H' g rfl x r n f (RS.gr (Gr.of_ext x) Eqs.refl h)
  | exc c ns ds => exact RS.re s h
  | bad => exact h
theorem RS.seq {r : SO} {k : Env → SO} {N : L2.St → Hp → Prop} (h : RS CM W rb E σ F H fp (r.seq k))
    (go : ∀ ρ σ' F' H' fp', Gr F H fp F' H' fp' → Sl CM F' H' ρ σ' fp' → Eqs rb σ σ' → RS CM W rb E σ' F' H' fp' (k ρ) → N σ' H') : RS CM W rb { E with nx := N } σ F H fp r := by
  cases r with
  | nx ρ => exact fun σ' F' H' fp' g s e => go ρ σ' F' H' fp' g s e (RS.gr g e h)
  | bk ρ => exact h
  | ct ρ => exact h
  | rt d => exact h
  | exc ρ c ns ds => exact h
  | bad => exact h
theorem RS.turn {r : SO} {k : Env → SO} {N : L2.St → Hp → Prop} (h : RS CM W rb E σ F H fp (r.turn k))
    (go : ∀ ρ σ' F' H' fp', Gr F H fp F' H' fp' → Sl CM F' H' ρ σ' fp' → Eqs rb σ σ' → RS CM W rb E σ' F' H' fp' (k ρ) → N σ' H') : RS CM W rb { E with nx := N, ct := N, bk := E.nx } σ F H fp r := by
  cases r with
  | nx ρ => exact fun σ' F' H' fp' g s e => go ρ σ' F' H' fp' g s e (RS.gr g e h)
  | ct ρ => exact fun σ' F' H' fp' g s e => go ρ σ' F' H' fp' g s e (RS.gr g e h)
  | bk ρ => exact h
  | rt d => exact h
  | exc ρ c ns ds => exact h
  | bad => exact h
theorem RS.wk {rb' : List Nat} {r : SO} (hs : ∀ i ∈ rb, i ∈ rb') (h : RS CM W rb' E σ F H fp r) : RS CM W rb E σ F H fp r := by
  have w : ∀ {σ'}, Eqs rb σ σ' → Eqs rb' σ σ' := fun e i hi => e i fun z => hi (hs i z)
  cases r with
  | nx ρ => exact fun σ2 F2 H2 fp2 g2 s2 e2 => h σ2 F2 H2 fp2 g2 s2 (w e2)
  | bk ρ => exact fun σ2 F2 H2 fp2 g2 s2 e2 => h σ2 F2 H2 fp2 g2 s2 (w e2)
  | ct ρ => exact fun σ2 F2 H2 fp2 g2 s2 e2 => h σ2 F2 H2 fp2 g2 s2 (w e2)
  | rt d => exact h
  | exc ρ c ns ds => exact fun σ2 F2 H2 fp2 C dx vs g2 s2 e2 => h σ2 F2 H2 fp2 C dx vs g2 s2 (w e2)
  | bad => exact h
/-! ### slots written -/
theorem SRep.set {d : D} {v : V} {g : List Addr} (r : RepO CM F H d v g) : ∀ {ρ : Env} {σ : L2.St} {fp : List Addr} (i : Nat), SRep CM F H ρ σ fp → ∃ fp', SRep CM F H (ρ.set i (some d)) (σ.set i (some v)) fp' ∧ (∀ p ∈ fp', p ∈ fp ∨ p ∈ g) ∧ (fp.Nodup → g.Nodup → (∀ p ∈ g, p ∉ fp) → fp'.Nodup)
  | [], _, fp, i, h => by
    obtain ⟨rfl, rfl⟩ := h
    exact ⟨[], ⟨by simp, rfl⟩, (fun p hp => nomatch hp), fun _ _ _ => List.nodup_nil⟩
  | o :: ρ, σ, fp, 0, h => by
    obtain ⟨x, σ', f, g', rfl, rfl, h3, h4⟩ := h
    refine ⟨g ++ g', ⟨some v, σ', g, g', rfl, rfl, ⟨v, rfl, r⟩, h4⟩, fun p hp => ?_, fun n1 n2 n3 => ?_⟩
    · rcases List.mem_append.mp hp with hp | hp
      · exact .inr hp
      · exact .inl (List.mem_append_right _ hp)
    · obtain ⟨a1, a2, a3⟩ := List.nodup_append.mp n1
      exact List.nodup_append.mpr ⟨n2, a2, fun p hp q hq e => n3 p hp (List.mem_append_right _ (e ▸ hq))⟩
  | o :: ρ, σ, fp, i + 1, h => by
    obtain ⟨x, σ', f, g', rfl, rfl, h3, h4⟩ := h
    obtain ⟨fp', k1, k2, k3⟩ := SRep.set r i h4
    refine ⟨f ++ fp', ⟨x, σ'.set i (some v), f, fp', rfl, rfl, h3, k1⟩, fun p hp => ?_, fun n1 n2 n3 => ?_⟩
    · rcases List.mem_append.mp hp with hp | hp
      · exact .inl (List.mem_append_left _ hp)
      · rcases k2 p hp with z | z
        · exact .inl (List.mem_append_right _ z)
        · exact .inr z
    · obtain ⟨a1, a2, a3⟩ := List.nodup_append.mp n1
      refine List.nodup_append.mpr ⟨a1, k3 a2 n2 fun p hp z => n3 p hp (List.mem_append_right _ z), fun p hp q hq e => ?_⟩
      subst e
      rcases k2 p hq with z | z
      · exact a3 p hp p z rfl
      · exact n3 p z (List.mem_append_left _ hp)
theorem Sl.set {d : D} {v : V} {g : List Addr} (s : Sl CM F H ρ σ fp) (i : Nat) (r : RepO CM F H d v g) (n : g.Nodup) (f : ∀ p ∈ g, p ∉ fp ∧ F p = none) : ∃ fp', Sl CM F H (setE ρ i d) (σ.set i (some v)) fp' ∧ ∀ p ∈ fp', p ∈ fp ∨ p ∈ g := by
  obtain ⟨fp', k1, k2, k3⟩ := SRep.set r i s.rep
  exact ⟨fp', ⟨k1, k3 s.nd n fun p hp => (f p hp).1, fun p hp => (k2 p hp).elim (s.nf p) fun z => (f p z).2, s.sub⟩, k2⟩
/-- the footprint of one slot -/
theorem SRep.at {d : D} : ∀ {ρ : Env} {σ : L2.St} {fp : List Addr} {i : Nat}, SRep CM F H ρ σ fp → ρ[i]? = some (some d) → ∃ v f, σ[i]? = some (some v) ∧ RepO CM F H d v f ∧ (∀ p ∈ f, p ∈ fp) ∧ (fp.Nodup → f.Nodup) ∧
    (∀ {F' H' : Hp} {d' : D} {f' : List Addr}, RepO CM F' H' d' v f' → (∀ {ρ σ g}, (∀ p ∈ g, p ∈ fp) → (fp.Nodup → ∀ p ∈ g, p ∉ f) → SRep CM F H ρ σ g → SRep CM F' H' ρ σ g) →
      ∃ fp', SRep CM F' H' (ρ.set i (some d')) σ fp' ∧ (∀ p ∈ fp', (p ∈ fp ∧ (fp.Nodup → p ∉ f)) ∨ p ∈ f') ∧ (fp.Nodup → f'.Nodup → (∀ p ∈ f', p ∈ fp → p ∈ f) → fp'.Nodup))
  | [], _, _, _, _, e => by simp at e
  | o :: ρ, σ, fp, 0, h, e => by
    obtain ⟨x, σ', f, g, rfl, rfl, h3, h4⟩ := h
    simp at e; subst e
    obtain ⟨v, rfl, r⟩ := h3
    refine ⟨v, f, rfl, r, fun p hp => List.mem_append_left _ hp, fun n => (List.nodup_append.mp n).1, fun {F' H' d' f'} r' up => ?_⟩
    have gi : ∀ p ∈ g, p ∈ f ++ g := fun p hp => List.mem_append_right _ hp
    have gn : (f ++ g).Nodup → ∀ p ∈ g, p ∉ f := fun n p hp z => (List.nodup_append.mp n).2.2 p z p hp rfl
    refine ⟨f' ++ g, ⟨some v, σ', f', g, rfl, rfl, ⟨v, rfl, r'⟩, up gi gn h4⟩, fun p hp => ?_, fun n1 n2 n3 => ?_⟩
    · rcases List.mem_append.mp hp with hp | hp
      · exact .inr hp
      · exact .inl ⟨gi p hp, fun n => gn n p hp⟩
    · refine List.nodup_append.mpr ⟨n2, (List.nodup_append.mp n1).2.1, fun p hp q hq e => ?_⟩
      subst e
      exact gn n1 p hq (n3 p hp (gi p hq))
  | o :: ρ, σ, fp, i + 1, h, e => by
    obtain ⟨x, σ', f0, g, rfl, rfl, h3, h4⟩ := h
    obtain ⟨v, f, k1, k2, k3, k4, k5⟩ := SRep.at (i := i) h4 (by simpa using e)
    refine ⟨v, f, by simpa using k1, k2, fun p hp => List.mem_append_right _ (k3 p hp), fun n => k4 (List.nodup_append.mp n).2.1, fun {F' H' d' f'} r' up => ?_⟩
    have nd : (f0 ++ g).Nodup → ∀ p ∈ f0, p ∉ f := fun n p hp z => (List.nodup_append.mp n).2.2 p hp p (k3 p z) rfl
    obtain ⟨fp', a1, a2, a3⟩ := k5 r' fun {ρ σ g'} hi hn => up (fun p hp => List.mem_append_right _ (hi p hp)) fun n => hn (List.nodup_append.mp n).2.1
    have h0 : SRep CM F' H' [o] [x] f0 := up (fun p hp => List.mem_append_left _ hp) nd ⟨x, [], f0, [], rfl, by simp, h3, rfl, rfl⟩
    obtain ⟨x', σ1, f1, g1, e1, e2, h5, e3, e4⟩ := h0
    cases e1
    subst e4
    rw [List.append_nil] at e2
    subst e2
    refine ⟨f0 ++ fp', ⟨x, σ', f0, fp', rfl, rfl, h5, a1⟩, fun p hp => ?_, fun n1 n2 n3 => ?_⟩
    · rcases List.mem_append.mp hp with hp | hp
      · exact .inl ⟨List.mem_append_left _ hp, fun n => nd n p hp⟩
      · rcases a2 p hp with ⟨z1, z2⟩ | z
        · exact .inl ⟨List.mem_append_right _ z1, fun n => z2 (List.nodup_append.mp n).2.1⟩
        · exact .inr z
    · obtain ⟨b1, b2, b3⟩ := List.nodup_append.mp n1
      refine List.nodup_append.mpr ⟨b1, a3 b2 n2 fun p hp z => n3 p hp (List.mem_append_right _ z), fun p hp q hq e => ?_⟩
      subst e
      rcases a2 p hq with ⟨z1, z2⟩ | z
      · exact b3 p hp p z1 rfl
      · exact nd n1 p hp (n3 p z (List.mem_append_left _ hp))
theorem Sl.frz (s : Sl CM F H ρ σ fp) (i : Nat) : ∃ F' fp', Sl CM F' H (frzE ρ i) σ fp' ∧ Gr F H fp F' H fp' := by
  unfold frzE
  cases e : getE ρ i with
  | none => exact ⟨F, fp, s, Gr.refl⟩
  | some d =>
    obtain ⟨v, f, k1, k2, k3, k4, k5⟩ := s.rep.at (getE_some e)
    have nf : ∀ p ∈ f, F p = none := fun p hp => s.nf p (k3 p hp)
    obtain ⟨fp', a1, a2, a3⟩ := k5 (F' := adopt F H f) (H' := H) (d' := d.frz) (f' := []) (RepO.frz (adopt_ff nf) d v f (fun p hp => adopt_in hp) k2).o fun _ _ => SRep.ext (adopt_ff nf) (Same.refl _)
    have io : ∀ p ∈ fp', p ∈ fp ∧ p ∉ f := fun p hp => (a2 p hp).elim (fun z => ⟨z.1, z.2 s.nd⟩) fun z => nomatch z
    refine ⟨adopt F H f, fp', ⟨a1, a3 s.nd List.nodup_nil (fun p hp => nomatch hp), fun p hp => ?_, adopt_sub s.sub⟩, ⟨fun _ _ e _ => e, adopt_ff nf, fun a o e _ n k => ?_, fun p hp => .inl (io p hp).1⟩⟩
    · rw [adopt_out (io p hp).2]; exact s.nf p (io p hp).1
    · rw [adopt_out fun z => n (k3 a z)]; exact k
end
section
variable {X : Cx} {CM : CMap} {W : WX} {rb : List Nat} {f g : XS} {a : XP} {e : Expr} {st : Stmt} {sts rest : List Stmt} {pos : Pos}
theorem ds_nil : PSs X [] (tS CM W rb sNx) := pss_nil.weak fun E σ H ⟨F, ρ, fp, s, q⟩ => q σ F H fp Gr.refl s Eqs.refl
theorem ds_cons (h1 : PS X st (tS CM W rb f)) (h2 : PSs X rest (tS CM W rb g)) : PSs X (st :: rest) (tS CM W rb (sSeq f g)) :=
  (pss_cons h1 h2).weak fun E σ H ⟨F, ρ, fp, s, q⟩ => ⟨F, ρ, fp, s, RS.seq q fun ρ' σ' F' H' fp' g' s' e' q' => ⟨F', ρ', fp', s', q'⟩⟩
theorem ds_one (h1 : PS X st (tS CM W rb f)) : PSs X [st] (tS CM W rb f) := pss_one h1
theorem ds_pass : PS X (.Pass pos) (tS CM W rb sNx) := ps_pass.weak fun E σ H ⟨F, ρ, fp, s, q⟩ => q σ F H fp Gr.refl s Eqs.refl
theorem ds_break : PS X (.Break pos) (tS CM W rb sBk) := ps_break.weak fun E σ H ⟨F, ρ, fp, s, q⟩ => q σ F H fp Gr.refl s Eqs.refl
theorem ds_continue : PS X (.Continue pos) (tS CM W rb sCt) := ps_continue.weak fun E σ H ⟨F, ρ, fp, s, q⟩ => q σ F H fp Gr.refl s Eqs.refl
theorem ds_doc {x j p p'} : PS X (.Expr (.Constant (.str x) j p) p') (tS CM W rb sNx) := ps_doc.weak fun E σ H ⟨F, ρ, fp, s, q⟩ => q σ F H fp Gr.refl s Eqs.refl
theorem ds_never : PS X st (tS CM W rb sNever) := ps_never.weak fun E σ H ⟨F, ρ, fp, s, q⟩ => q.elim
theorem dss_never : PSs X sts (tS CM W rb sNever) := pss_never.weak fun E σ H ⟨F, ρ, fp, s, q⟩ => q.elim
theorem ds_frz {i : Nat} (h : PS X st (tS CM W rb f)) : PS X st (tS CM W rb (sFrz i f)) := h.weak fun E σ H ⟨F, ρ, fp, s, q⟩ => by
  obtain ⟨F', fp', s', g'⟩ := s.frz i
  exact ⟨F', _, fp', s', RS.gr g' Eqs.refl q⟩
theorem dss_frz {i : Nat} (h : PSs X sts (tS CM W rb f)) : PSs X sts (tS CM W rb (sFrz i f)) := h.weak fun E σ H ⟨F, ρ, fp, s, q⟩ => by
  obtain ⟨F', fp', s', g'⟩ := s.frz i
  exact ⟨F', _, fp', s', RS.gr g' Eqs.refl q⟩
theorem ds_expr (he : PE X e (tO CM W a)) (hs : swapsWith e none pos.line X.env = pure false) : PS X (.Expr e pos) (tS CM W rb (sDrop a)) :=
  (ps_expr he hs).weak fun E σ H ⟨F, ρ, fp, s, q⟩ => ⟨F, ρ, fp, s, RS.o s q fun d v F' H' g ed x r q' => q' σ F' H' fp Gr.refl (s.ext x) Eqs.refl⟩
theorem ds_if {c : Expr} {as bs : List Stmt} {t : XB} (hc : PT X c (tT CM W t)) (ha : PSs X as (tS CM W rb f)) (hb : PSs X bs (tS CM W rb g)) : PS X (.If c as bs pos) (tS CM W rb (sIf t f g)) :=
  (L2.ps_if hc ha hb).weak fun E σ H ⟨F, ρ, fp, s, q⟩ => ⟨F, ρ, fp, s, RS.b s q fun b F' H' eb x q' => by
    cases b with
    | true => exact ⟨F', ρ, fp, s.ext x, q'⟩
    | false => exact ⟨F', ρ, fp, s.ext x, q'⟩⟩
/-- a fresh value's footprint is not in the slots' -/
theorem fresh_sl {F H F' : Hp} {ρ : Env} {σ : L2.St} {fp g : List Addr} (s : Sl CM F H ρ σ fp) (f : ∀ p ∈ g, H p = none ∧ F' p = none) : ∀ p ∈ g, p ∉ fp ∧ F' p = none := fun p hp => ⟨(fun z => by
  obtain ⟨o, ho, _⟩ := s.rep.dom p z
  rw [(f p hp).1] at ho; cases ho), (f p hp).2⟩
theorem set_gr {F H : Hp} {fp fp' g : List Addr} {H0 F0 : Hp} (x : Ext F0 H0 F H) (f : ∀ p ∈ g, H0 p = none) (k : ∀ p ∈ fp', p ∈ fp ∨ p ∈ g) : Gr F0 H0 fp F H fp' :=
  ⟨fun a o e _ => x.hh a o e, x.ff, fun a o e t _ n => x.new a o e t n, fun p hp => (k p hp).imp id (f p)⟩
/-- .. for a reading behind that state -/
theorem RS.back {F0 H0 F H : Hp} {fp : List Addr} {E : Ends} {σ : L2.St} {ρ' : Env} {σ' : L2.St} {fp' : List Addr} (q : RS CM W rb E σ F0 H0 fp (.nx ρ')) (g : Gr F0 H0 fp F H fp') (s : Sl CM F H ρ' σ' fp') (e : Eqs rb σ σ') : E.nx σ' H := q σ' F H fp' g s e
theorem ds_set {i : Nat} {x : Str} {p' : Pos} (hN : X.N.Nodup) (hi : X.N[i]? = some x) (hx : Loc X.env.scope x) (hr : i ∈ rb) (he : PE X e (tX CM W a)) (hs : swapsWith e (some (.Name x p')) pos.line X.env = pure false) (hf : X.fn x = true ∨ X.env.scope.names.lookup x = some .local) :
    PS X (.Assign [.Name x p'] e pos) (tS CM W rb (sSet i a)) :=
  (ps_set hN hi hx he hs hf).weak fun E σ H ⟨F, ρ, fp, s, q⟩ => by
    refine ⟨F, ρ, fp, s, ?_⟩
    unfold sSet at q
    cases e : a ρ with
    | bad => rw [e] at q; exact q
    | exc c ns ds => rw [e] at q; exact RS.re s q
    | val d =>
      rw [e] at q
      intro v F' H' g x r n f
      obtain ⟨fp', s', k⟩ := (s.ext x).set i r n (fresh_sl s f)
      exact q _ F' H' fp' (set_gr x (fun p hp => (f p hp).1) k) s' (Eqs.set hr)
/-- return: the value may be a slot's -/
def tM (CM : CMap) (W : WX) (f : XP) : TE := fun σ H Q => ∃ F ρ fp, Sl CM F H ρ σ fp ∧ (match f ρ with
  | .val d => ∀ v F' H' g, Gr F H fp F' H' g → Same F' H' → RepO CM F' H' d v g → g.Nodup → (∀ p ∈ g, F' p = none) → Q v H'
  | .exc c ns ds => RE CM W σ F H c ns ds
  | .bad => False)
theorem _root_.L2.PE.x_m (h : PE X e (tX CM W a)) : PE X e (tM CM W a) := h.weak fun σ H Q ⟨F, ρ, fp, s, q⟩ => ⟨F, ρ, fp, s, by
  cases e : a ρ with
  | val d => rw [e] at q; exact fun v F' H' g x r n f => q v F' H' g (set_gr (fp := fp) (fp' := g) (g := g) x (fun p hp => (f p hp).1) fun p hp => .inr hp) x.sub r n fun p hp => (f p hp).2
  | exc c ns ds => rw [e] at q; exact q
  | bad => rw [e] at q; exact q⟩
theorem dm_var {i : Nat} {x : Str} (hN : X.N[i]? = some x) (hv : Vis X.env.scope x) (hd : (x == ("__debug__" : Str)) = false) (hcd : (x == ("__classdict__" : Str)) = false) : PE X (.Name x pos) (tM CM W (bvar i)) :=
  (pe_var hN hv hd hcd).weak fun σ H Q ⟨F, ρ, fp, s, q⟩ => by
    unfold bvar at q
    cases h : getE ρ i with
    | none => rw [h] at q; exact q.elim
    | some d =>
      rw [h] at q
      obtain ⟨v, g, e, r, sb, nd, _⟩ := s.rep.at (getE_some h)
      exact ⟨v, e, q v F H g (Gr.sub fun p hp => .inl (sb p hp)) s.sub r (nd s.nd) fun p hp => s.nf p (sb p hp)⟩
theorem ds_ret (he : PE X e (tM CM W a)) : PS X (.Return (some e) pos) (tS CM W rb (sRet a)) :=
  (ps_ret he).weak fun E σ H ⟨F, ρ, fp, s, q⟩ => ⟨F, ρ, fp, s, by
    unfold sRet at q
    cases e : a ρ with
    | bad => rw [e] at q; exact q
    | exc c ns ds => rw [e] at q; exact RS.re s q
    | val d => rw [e] at q; exact q⟩
theorem ds_retN : PS X (.Return none pos) (tS CM W rb sRetN) := ps_retN.weak fun E σ H ⟨F, ρ, fp, s, q⟩ => q .non F H [] (Gr.sub fun p hp => nomatch hp) s.sub (by unfold RepO; exact ⟨rfl, rfl⟩) List.nodup_nil (fun p hp => nomatch hp)
/-! ### targets -/
def dG (CM : CMap) (rb : List Nat) (g : XG) : TG := fun v σ H Q => ∃ F ρ fp d f, Sl CM F H ρ σ fp ∧ RepO CM F H d v f ∧ f.Nodup ∧ (∀ p ∈ f, p ∉ fp ∧ F p = none) ∧ (match g d ρ with
  | some ρ' => ∀ σ' fp', Sl CM F H ρ' σ' fp' → (∀ p ∈ fp', p ∈ fp ∨ p ∈ f) → Eqs rb σ σ' → Q σ' H
  | none => False)
def dGs (CM : CMap) (rb : List Nat) (gs : List XG) : TGs := fun vs σ H Q => ∃ F ρ fp ds, Sl CM F H ρ σ fp ∧ Reps CM F ds vs ∧ (match gAll gs ds ρ with
  | some ρ' => ∀ σ' fp', Sl CM F H ρ' σ' fp' → (∀ p ∈ fp', p ∈ fp) → Eqs rb σ σ' → Q σ' H
  | none => False)
theorem _root_.L2.PG.weak {X : Cx} {e : Expr} {t t' : TG} (h : PG X e t) (w : ∀ v σ H Q, t' v σ H Q → t v σ H Q) : PG X e t' := ⟨fun pins s σ H v u Q I r q => h.run pins s σ H v u Q I r (w v σ H Q q)⟩
theorem _root_.L2.PGs.weak {X : Cx} {e : List Expr} {t t' : TGs} (h : PGs X e t) (w : ∀ v σ H Q, t' v σ H Q → t v σ H Q) : PGs X e t' := ⟨fun pins s σ H v u Q I r q => h.run pins s σ H v u Q I r (w v σ H Q q)⟩
theorem dg_name {i : Nat} {x : Str} (hN : X.N.Nodup) (hi : X.N[i]? = some x) (hx : Loc X.env.scope x) (hr : i ∈ rb) (hf : X.fn x = true ∨ X.env.scope.names.lookup x = some .local) : PG X (.Name x pos) (dG CM rb (gSet i)) :=
  (pg_name hN hi hx hf).weak fun v σ H Q ⟨F, ρ, fp, d, f, s, r, n, nf, q⟩ => by
    obtain ⟨fp', s', k⟩ := s.set i r n nf
    exact q _ fp' s' k (Eqs.set hr)
theorem dgs_nil : PGs X [] (dGs CM rb []) := pgs_nil.weak fun vs σ H Q ⟨F, ρ, fp, ds, s, r, q⟩ => by
  cases ds with
  | nil => exact ⟨Reps.nil_iff.mp r, q σ fp s (fun _ h => h) Eqs.refl⟩
  | cons d ds => exact q.elim
theorem dgs_cons {es : List Expr} {g : XG} {gs : List XG} (h1 : PG X e (dG CM rb g)) (h2 : PGs X es (dGs CM rb gs)) (hs : (assignEach (e :: es) X.env).map (·.2) = assign e X.env :: (assignEach es X.env).map (·.2)) : PGs X (e :: es) (dGs CM rb (g :: gs)) :=
  (pgs_cons h1 h2 hs).weak fun vs σ H Q ⟨F, ρ, fp, ds, s, r, q⟩ => by
    cases ds with
    | nil => exact q.elim
    | cons d ds =>
      obtain ⟨v, vr, rfl, r1, r2⟩ := Reps.cons_iff.mp r
      refine ⟨v, vr, rfl, F, ρ, fp, d, [], s, r1.o, List.nodup_nil, (fun p hp => nomatch hp), ?_⟩
      unfold gAll at q
      cases e1 : g d ρ with
      | none => rw [e1] at q; exact q
      | some ρ1 =>
        rw [e1] at q
        intro σ1 fp1 s1 k1 e1
        refine ⟨F, ρ1, fp1, ds, s1, r2, ?_⟩
        simp only at q
        cases e2 : gAll gs ds ρ1 with
        | none => rw [e2] at q; exact q
        | some ρ2 =>
          rw [e2] at q
          exact fun σ2 fp2 s2 k2 e2 => q σ2 fp2 s2 (fun p hp => (k1 p (k2 p hp)).elim id fun z => nomatch z) (e1.trans e2)
theorem dg_tup {es : List Expr} {k : Nat} {gs : List XG} (hc : X.calm = true) (h : PGs X es (dGs CM rb gs)) (hn : (assignEach es X.env).length = gs.length) (hst : (assignEach es X.env).findIdx? (·.1) = none) : PG X (.Tuple es k pos) (dG CM rb (gTup gs)) :=
  (pg_tup hc h hn hst).weak fun v σ H Q ⟨F, ρ, fp, d, f, s, r, n, nf, q⟩ => by
    unfold Lc.gTup at q
    split at q
    · rename_i ρ' e
      split at e
      · rename_i ds
        obtain ⟨a, vs, rfl, h1, h2, h3, h4⟩ := ro_tup s.sub r
        have el : ∀ {gs : List XG} {ds : List D} {ρ ρ' : Env}, gAll gs ds ρ = some ρ' → ds.length = gs.length := by
          intro gs
          induction gs with
          | nil => intro ds ρ ρ' e; cases ds with
            | nil => rfl
            | cons => cases e
          | cons g gs ih => intro ds ρ ρ' e; cases ds with
            | nil => cases e
            | cons d ds =>
              unfold gAll at e
              cases e1 : g d ρ with
              | none => rw [e1] at e; cases e
              | some ρ1 => rw [e1] at e; rw [List.length_cons, List.length_cons, ih e]
        refine ⟨a, vs, rfl, .inl (.inl h1), by rw [← h3.length, el e], F, ρ, fp, ds, s, h3, ?_⟩
        rw [e]
        exact fun σ' fp' s' k e' => q σ' fp' s' (fun p hp => .inl (k p hp)) e'
      · cases e
    · exact q.elim
theorem ds_asg {tg : Expr} {g : XG} (he : PE X e (tX CM W a)) (hg : PG X tg (dG CM rb g)) (hs : swapsWithSole [tg] e pos.line X.env = pure false) (hw : swappedStores [tg] e X.env = pure none) (h1 : (assignEach [tg] X.env).map (·.2) = [assign tg X.env]) : PS X (.Assign [tg] e pos) (tS CM W rb (sAsg g a)) :=
  (ps_asg he hg hs hw h1).weak fun E σ H ⟨F, ρ, fp, s, q⟩ => by
    refine ⟨F, ρ, fp, s, ?_⟩
    unfold sAsg at q
    cases e : a ρ with
    | bad => rw [e] at q; exact q
    | exc c ns ds => rw [e] at q; exact RS.re s q
    | val d =>
      rw [e] at q
      intro v F' H' gf x r n f
      refine ⟨F', ρ, fp, d, gf, s.ext x, r, n, fresh_sl s f, ?_⟩
      simp only [Res.so_val] at q
      cases e1 : g d ρ with
      | none => rw [e1] at q; exact q
      | some ρ' => rw [e1] at q; exact fun σ' fp' s' k e' => q σ' F' H' fp' (set_gr x (fun p hp => (f p hp).1) k) s' e'
end
end Lc
end
section
set_option Elab.async false
set_option linter.all false
set_option maxRecDepth 100000
set_option maxHeartbeats 2000000
/-! Loops. -/
namespace Lc
open PySem PySem.Spec L2
/-- J walks the items ds as long as B stands; F1: where the items are told -/
structure WalkD (CM : CMap) (B F1 : Hp) (J : It) (ds : List D) : Prop where
  goes : ∀ i H, i < ds.length → Same B H → J.go i H
  stops : ∀ H, Same B H → J.stop ds.length H
  yields : ∀ i H x H' F, i < ds.length → Same B H → Same F1 F → Same F H → J.yld i H x H' → ∃ F' d, Ext F H F' H' ∧ ds[i]? = some d ∧ Rep CM F' d x
def tIt (CM : CMap) (W : WX) (it : XI2) : TI := fun σ H R => ∃ F ρ fp, Sl CM F H ρ σ fp ∧ (match it ρ with
  | .val ds => ∀ J F' H', Ext F H F' H' → WalkD CM F' F' J ds → R J H'
  | .exc c ns ds => RE CM W σ F H c ns ds
  | .bad => False)
/-- .. where nothing is written meanwhile -/
def tIc (CM : CMap) (W : WX) (it : XI2) : TI := fun σ H R => ∃ F ρ fp, Sl CM F H ρ σ fp ∧ (match it ρ with
  | .val ds => ∀ J F' H', Ext F H F' H' → WalkD CM H' F' J ds → R J H'
  | .exc c ns ds => RE CM W σ F H c ns ds
  | .bad => False)
theorem _root_.L2.PI.weak {X : Cx} {tg e : Expr} {t t' : TI} (h : PI X tg e t) (w : ∀ σ H R, t' σ H R → t σ H R) : PI X tg e t' := ⟨fun pins s σ H R I q => h.run pins s σ H R I (w σ H R q)⟩
section
variable {CM : CMap} {B F F1 H H' : Hp} {ds : List D} {vs : List V} {a : Addr} {K : PySem.W.Frag}
theorem WalkD.up {J : It} (w : WalkD CM B F1 J ds) {B' : Hp} (s : Same B B') : WalkD CM B' F1 J ds :=
  ⟨fun i H h k => w.goes i H h (s.trans k), fun H k => w.stops H (s.trans k), fun i H x H' F h k => w.yields i H x H' F h (s.trans k)⟩
theorem _root_.L2.PI.t_c {X : Cx} {W : WX} {tg e : Expr} {it : XI2} (h : PI X tg e (tIt CM W it)) : PI X tg e (tIc CM W it) := h.weak fun σ H R ⟨F, ρ, fp, s, q⟩ => ⟨F, ρ, fp, s, by
  cases e : it ρ with
  | val ds => rw [e] at q; exact fun J F' H' x w => q J F' H' x (w.up x.sub)
  | exc c ns ds => rw [e] at q; exact q
  | bad => rw [e] at q; exact q⟩
theorem walkD_list (h : B a = some (.lst vs)) (r : Reps CM F1 ds vs) : WalkD CM B F1 (Itl K a) ds := by
  have el := r.length
  refine ⟨fun i H hi k => ?_, fun H k => ⟨vs, .inl (.inl (k _ _ h)), by rw [el]; exact Nat.le_refl _⟩, fun i H x H' F hi k s sh y => ?_⟩
  · exact ⟨vs, vs[i]'(by omega), .inl (.inl (k _ _ h)), by simp⟩
  · obtain ⟨rfl, y⟩ := y
    have y := y vs (.inl (.inl (k _ _ h)))
    obtain ⟨u, e1, e2⟩ := r.get (d := ds[i]) (i := i) (by simp [hi])
    rw [y] at e1; cases e1
    exact ⟨F, ds[i], Ext.refl sh, by simp [hi], Rep.mono s _ _ e2⟩
theorem walkD_tup (h : B a = some (.tup vs)) (r : Reps CM F1 ds vs) : WalkD CM B F1 (Itt K a) ds := by
  have el := r.length
  refine ⟨fun i H hi k => ?_, fun H k => ⟨vs, .inl (.inl (k _ _ h)), by rw [el]; exact Nat.le_refl _⟩, fun i H x H' F hi k s sh y => ?_⟩
  · exact ⟨vs, vs[i]'(by omega), .inl (.inl (k _ _ h)), by simp⟩
  · obtain ⟨rfl, y⟩ := y
    have y := y vs (.inl (.inl (k _ _ h)))
    obtain ⟨u, e1, e2⟩ := r.get (d := ds[i]) (i := i) (by simp [hi])
    rw [y] at e1; cases e1
    exact ⟨F, ds[i], Ext.refl sh, by simp [hi], Rep.mono s _ _ e2⟩
theorem walkD_str {t : Tx} (ok : TxOk t) : WalkD CM B F1 (Its (stx t)) (t.map fun c => .str [c]) := by
  have el : (stx t).cps.size = t.length := by show t.toArray.size = _; simp
  refine ⟨fun i H hi k => ?_, fun H k => ?_, fun i H x H' F hi k s sh y => ?_⟩
  · show i < (stx t).cps.size
    rw [el]; simpa using hi
  · show (stx t).cps.size ≤ _
    rw [el]; simp
  · obtain ⟨rfl, c, hc, rfl⟩ := y
    have hc' : t[i]? = some c := by
      have : (stx t).cps[i]? = t[i]? := by show t.toArray[i]? = _; simp
      rw [← this]; exact hc
    refine ⟨F, .str [c], Ext.refl sh, by simp [hc'], ?_⟩
    exact rep_str (TxOk.one (ok.2 c (List.mem_of_getElem? hc')))
theorem walkD_range {lo : Int} {n : Nat} : WalkD CM B F1 (Itr lo n) (Lc.rngD lo n) := by
  have el : (Lc.rngD lo n).length = n := by simp [Lc.rngD]
  refine ⟨fun i H hi k => by rw [el] at hi; exact hi, fun H k => by rw [el]; exact Nat.le_refl _, fun i H x H' F hi k s sh y => ?_⟩
  obtain ⟨rfl, rfl⟩ := y
  rw [el] at hi
  exact ⟨F, .int (lo + i), Ext.refl sh, by simp [Lc.rngD, hi], rep_int⟩
end
section
variable {X : Cx} {CM : CMap} {W : WX} {rb : List Nat} {f g b : XS} {a fa fb : XP} {e l tg : Expr} {st : Stmt} {sts rest : List Stmt} {pos : Pos}
/-- a list, a tuple, a text -/
def iAny (K : PySem.W.Frag) (te : TE) : TI := fun σ H R => te σ H fun x H1 => (∃ a, x = .ref a ∧ (∃ xs, SqL K H1 a xs) ∧ R (Itl K a) H1) ∨ (∃ a, x = .ref a ∧ (∃ xs, SqT K H1 a xs) ∧ R (Itt K a) H1) ∨ ∃ z, x = .str z ∧ R (Its z) H1
theorem pi_any {tl : TE} (hl : PE X l tl) : PI X tg l (iAny X.K tl) := by
  refine ⟨fun pins s σ H R I h => ?_⟩
  refine thn (hl.run pins s σ H _ I h) fun v s1 ⟨x, H1, I1, r1, q1⟩ => ?_
  rcases q1 with ⟨a, e, ⟨xs, hq⟩, q⟩ | ⟨a, e, ⟨xs, hq⟩, q⟩ | ⟨z, e, q⟩
  · subst e
    cases r1
    obtain ⟨its, rv, p, hz⟩ := I1.list hq
    refine wpAny_pyIter_list p.isList ?_
    refine ⟨s1.heap.objs.size, [s1.heap.objs.size], _, _, H1, rfl, I1.kept (t' := s1.toks) fun b o e => Heap.get?_push_of_some _ e, turn_list a _, ⟨_, Heap.get?_push_size _ rfl, rfl, rfl⟩, fun b hb => ?_, q⟩
    have e : b = s1.heap.objs.size := by simpa using hb
    subst e
    exact I1.fpOk (Nat.le_refl _) (I1.hok.fresh (Nat.le_refl _))
  · subst e
    cases r1
    obtain ⟨its, rv, p, hz⟩ := I1.tuple hq
    refine wpAny_pyIter_tuple (show s1.heap.IsTuple a its.toArray from p) ?_
    refine ⟨s1.heap.objs.size, [s1.heap.objs.size], _, _, H1, rfl, I1.kept (t' := s1.toks) fun b o e => Heap.get?_push_of_some _ e, turn_tuple a _, ⟨_, Heap.get?_push_size _ rfl, rfl, rfl⟩, fun b hb => ?_, q⟩
    have e : b = s1.heap.objs.size := by simpa using hb
    subst e
    exact I1.fpOk (Nat.le_refl _) (I1.hok.fresh (Nat.le_refl _))
  · subst e
    obtain ⟨t, rfl⟩ := r1
    cases ha : z.cps.all (· < 128)
    · exact wpAny_pyIter_wide ha (pi_one (tk := s1.toks) I1 _ (turn_str _ z t "str_iterator" (.inr rfl)) ⟨_, Heap.get?_push_size _ rfl, rfl, rfl⟩ q)
    · exact wpAny_pyIter_ascii ha (pi_one (tk := s1.toks) I1 _ (turn_str _ z t "str_ascii_iterator" (.inl rfl)) ⟨_, Heap.get?_push_size _ rfl, rfl, rfl⟩ q)
theorem di_seq (hl : PE X l (tX CM W a)) : PI X tg l (tIt CM W (iSeq a)) := (pi_any hl).weak fun σ H R ⟨F, ρ, fp, s, q⟩ => by
  refine ⟨F, ρ, fp, s, ?_⟩
  unfold iSeq at q
  cases e : a ρ with
  | bad => rw [e] at q; exact q
  | exc c ns ds => rw [e] at q; exact q
  | val d =>
    rw [e] at q
    intro v F' H' g x r n f
    have x' := x.adopt f
    have rz : Rep CM (adopt F' H' g) d.frz v := RepO.frz (adopt_ff fun p hp => (f p hp).2) d v g (fun p hp => adopt_in hp) r
    simp only [Res.bind_val] at q
    cases d with
    | str t =>
      obtain ⟨rfl, ok⟩ := ro_str r
      exact .inr (.inr ⟨_, rfl, q _ _ _ x' (walkD_str ok)⟩)
    | nd k ds =>
      cases k with
      | tup =>
        obtain ⟨p, vs, rfl, h1, h2, h3, h4⟩ := ro_tup x.sub r
        exact .inr (.inl ⟨p, rfl, ⟨vs, .inl (.inl h1)⟩, q _ _ _ x' (walkD_tup ((adopt_ff fun p hp => (f p hp).2) _ _ h4) (h3.mono (adopt_ff fun p hp => (f p hp).2)))⟩)
      | lst o =>
        obtain ⟨p, vs, fps, rfl, h1, h2, h3⟩ := ro_lst x.sub r
        refine .inl ⟨p, rfl, ⟨vs, .inl (.inl h1)⟩, ?_⟩
        simp only [D.noDic, D.its, if_true] at q
        by_cases hz : ds.all D.fz = true
        · rw [if_pos hz] at q
          have hp : adopt F' H' g p = some (.lst vs) := by
            rw [RepO.nd_iff] at r
            by_cases ho : (Kd.lst o).own = true
            · rw [if_pos ho] at r
              obtain ⟨p', vs', fps', e1, h5, h6, h7⟩ := r
              cases e1
              rw [adopt_in (by rw [h7]; exact List.mem_cons_self)]
              exact h1
            · rw [if_neg ho] at r
              obtain ⟨_, p', vs', e1, h5, h6⟩ := Rep.nd_iff.mp r.1
              cases e1
              have h5' : F' p = some (.lst vs') := h5.1
              have := x.sub _ _ h5'
              rw [h1] at this; cases this
              exact (adopt_ff fun p hp => (f p hp).2) _ _ h5'
          exact q _ _ _ x' (walkD_list hp ((reps_fz hz h3).mono (adopt_ff fun p hp => (f p hp).2)))
        · rw [if_neg hz] at q; exact q.elim
      | dic o ks => exact q.elim
      | obj o c ns => exact q.elim
      | scr => exact q.elim
      | xob c ns => exact q.elim
    | non => exact q.elim
    | bl b => exact q.elim
    | int i => exact q.elim
theorem di_seqF (hl : PE X l (tX CM W a)) : PI X tg l (tIt CM W (iSeqF a)) := (pi_any hl).weak fun σ H R ⟨F, ρ, fp, s, q⟩ => by
  refine ⟨F, ρ, fp, s, ?_⟩
  unfold iSeqF at q
  cases e : a ρ with
  | bad => rw [e] at q; exact q
  | exc c ns ds => rw [e] at q; exact q
  | val d =>
    rw [e] at q
    intro v F' H' g x r n f
    have x' := x.adopt f
    have rz : Rep CM (adopt F' H' g) d.frz v := RepO.frz (adopt_ff fun p hp => (f p hp).2) d v g (fun p hp => adopt_in hp) r
    simp only [Res.bind_val] at q
    cases d with
    | nd k ds =>
      cases k with
      | lst o =>
        cases o with
        | true =>
          rw [show (D.nd (.lst true) ds).frz = D.lst false (ds.map D.frz) from D.frz_lstT ds] at rz
          obtain ⟨_, p', vs', e1, h5, h6⟩ := Rep.nd_iff.mp rz
          subst e1
          exact .inl ⟨p', rfl, ⟨vs', .inl (.inl (x'.sub _ _ h5.1))⟩, q _ _ _ x' (walkD_list h5.1 h6)⟩
        | false => exact q.elim
      | tup => exact q.elim
      | dic o ks => exact q.elim
      | obj o c ns => exact q.elim
      | scr => exact q.elim
      | xob c ns => exact q.elim
    | str t => exact q.elim
    | non => exact q.elim
    | bl b => exact q.elim
    | int i => exact q.elim
/-- .. in a comprehension: a view is enough -/
theorem dic_seq (hl : PE X l (tO CM W a)) : PI X tg l (tIc CM W (iSeq a)) := (pi_any hl).weak fun σ H R ⟨F, ρ, fp, s, q⟩ => by
  refine ⟨F, ρ, fp, s, ?_⟩
  unfold iSeq at q
  cases e : a ρ with
  | bad => rw [e] at q; exact q
  | exc c ns ds => rw [e] at q; exact q
  | val d =>
    rw [e] at q
    intro v F' H' g x r
    simp only [Res.bind_val] at q
    cases d with
    | str t =>
      obtain ⟨rfl, ok⟩ := ro_str r
      exact .inr (.inr ⟨_, rfl, q _ _ _ x (walkD_str ok)⟩)
    | nd k ds =>
      cases k with
      | tup =>
        obtain ⟨p, vs, rfl, h1, h2, h3, h4⟩ := ro_tup x.sub r
        exact .inr (.inl ⟨p, rfl, ⟨vs, .inl (.inl h1)⟩, q _ _ _ x (walkD_tup h1 h3)⟩)
      | lst o =>
        obtain ⟨p, vs, fps, rfl, h1, h2, h3⟩ := ro_lst x.sub r
        refine .inl ⟨p, rfl, ⟨vs, .inl (.inl h1)⟩, ?_⟩
        simp only [D.noDic, D.its, if_true] at q
        by_cases hz : ds.all D.fz = true
        · rw [if_pos hz] at q
          exact q _ _ _ x (walkD_list h1 (reps_fz hz h3))
        · rw [if_neg hz] at q; exact q.elim
      | dic o ks => exact q.elim
      | obj o c ns => exact q.elim
      | scr => exact q.elim
      | xob c ns => exact q.elim
    | non => exact q.elim
    | bl b => exact q.elim
    | int i => exact q.elim
theorem di_rg1 {p : Pos} (hg : Gl X "range") (hm : X.mg "range" = none) (ha : PE X e (tO CM W fa)) (hs : starEach [e] X.env = [(false, eval e X.env)]) : PI X tg (.Call (.Name "range" p) [e] [] pos) (tIt CM W (iRg1 fa)) :=
  (pi_range1 hg hm (pa_cons ha pa_nil hs) hs).weak fun σ H R ⟨F, ρ, fp, s, q⟩ => by
    refine ⟨F, ρ, fp, s, ?_⟩
    unfold iRg1 at q
    cases e : fa ρ with
    | bad => rw [e] at q; exact q
    | exc c ns ds => rw [e] at q; exact q
    | val d =>
      rw [e] at q
      intro v F' H' g x r
      simp only [Res.bind_val] at q
      cases d with
      | int j =>
        simp only at q
        obtain rfl := ro_int r
        by_cases hj : RgOk j
        · rw [if_pos hj] at q
          exact ⟨j, rfl, hj.1, hj.2, q _ _ _ x walkD_range⟩
        · rw [if_neg hj] at q; exact q.elim
      | _ => exact q.elim
theorem di_rg2 {e2 : Expr} {p : Pos} (hg : Gl X "range") (hm : X.mg "range" = none) (ha : PE X e (tO CM W fa)) (hb : PE X e2 (tO CM W fb)) (hs : starEach [e, e2] X.env = [(false, eval e X.env), (false, eval e2 X.env)]) (hs2 : starEach [e2] X.env = [(false, eval e2 X.env)]) : PI X tg (.Call (.Name "range" p) [e, e2] [] pos) (tIt CM W (iRg2 fa fb)) :=
  (pi_range2 hg hm (pa_cons ha (pa_cons hb pa_nil hs2) (by rw [hs, hs2])) hs hs2).weak fun σ H R ⟨F, ρ, fp, s, q⟩ => by
    refine ⟨F, ρ, fp, s, ?_⟩
    unfold iRg2 at q
    cases e : fa ρ with
    | bad => rw [e] at q; exact q
    | exc c ns ds => rw [e] at q; exact q
    | val d =>
      rw [e] at q
      intro v F' H' g x r
      simp only [Res.bind_val] at q
      refine ⟨F', ρ, fp, s.ext x, ?_⟩
      cases e2 : fb ρ with
      | bad => rw [e2] at q; exact q
      | exc c ns ds => rw [e2] at q; exact RE.ext x q
      | val d2 =>
        rw [e2] at q
        intro v2 F2 H2 g2 x2 r2
        simp only [Res.bind_val] at q
        cases d with
        | int i =>
          cases d2 with
          | int j =>
            simp only at q
            obtain rfl := ro_int r
            obtain rfl := ro_int r2
            by_cases hj : RgOk i ∧ RgOk j
            · rw [if_pos hj] at q
              exact ⟨i, j, rfl, ⟨hj.1.1, hj.1.2, hj.2.1, hj.2.2⟩, q _ _ _ (x.trans x2) walkD_range⟩
            · rw [if_neg hj] at q; exact q.elim
          | _ => exact q.elim
        | _ => exact q.elim
/-! ### for -/
theorem forL_run {CM : CMap} {W : WX} {rb : List Nat} {E : Ends} {σ1 : L2.St} {F1 H1 : Hp} {fp1 : List Addr} {g : XG} {b : XS} {J : It} {ds : List D} {ρ1 : Env} (s1 : Sl CM F1 H1 ρ1 σ1 fp1) (w : WalkD CM F1 F1 J ds) (q : RS CM W rb E σ1 F1 H1 fp1 (forL g b ds ρ1)) :
    ∃ Wv : Nat → Nat → L2.St → Hp → Prop, (∃ m, Wv 0 m σ1 H1) ∧ ∀ i m σ H, Wv i m σ H →
      (J.stop i H ∧ E.nx σ H) ∨ (J.go i H ∧ ∃ N : L2.St → Hp → Prop, (∀ σ' H', N σ' H' → ∃ m', m' < m ∧ Wv (i + 1) m' σ' H') ∧ ∀ x H', J.yld i H x H' → dG CM rb g x σ H' fun σ2 H2 => tS CM W rb b { E with nx := N, ct := N, bk := E.nx } σ2 H2) := by
  refine ⟨fun i m σ H => m = ds.length - i ∧ i ≤ ds.length ∧ ∃ F ρ fp, Same F1 F ∧ Sl CM F H ρ σ fp ∧ RS CM W rb E σ F H fp (forL g b (ds.drop i) ρ), ⟨_, rfl, Nat.zero_le _, F1, ρ1, fp1, Same.refl _, s1, q⟩, ?_⟩
  rintro i m σ H ⟨rfl, hi, F, ρ, fp, sF, s, q⟩
  have sH : Same F1 H := sF.trans s.sub
  by_cases hlt : i < ds.length
  · refine .inr ⟨w.goes i H hlt sH, fun σ' H' => ∃ F' ρ' fp', Same F1 F' ∧ Sl CM F' H' ρ' σ' fp' ∧ RS CM W rb E σ' F' H' fp' (forL g b (ds.drop (i + 1)) ρ'), fun σ' H' n => ⟨_, by omega, rfl, hlt, n⟩, fun x H' y => ?_⟩
    obtain ⟨F', d, x', ed, rd⟩ := w.yields i H x H' F hlt sH sF s.sub y
    have e1 : ds.drop i = d :: ds.drop (i + 1) := by
      rw [List.drop_eq_getElem_cons hlt]
      rw [List.getElem?_eq_getElem hlt] at ed
      injection ed with ed
      rw [ed]
    rw [e1] at q
    unfold forL at q
    refine ⟨F', ρ, fp, d, [], s.ext x', rd.o, List.nodup_nil, (fun p hp => nomatch hp), ?_⟩
    cases eg : g d ρ with
    | none => rw [eg] at q; exact q
    | some ρ' =>
      rw [eg] at q
      intro σ2 fp2 s2 k2 e2
      have g2 : Gr F H fp F' H' fp2 := set_gr (g := []) x' (fun p hp => nomatch hp) k2
      refine ⟨F', ρ', fp2, s2, RS.turn (RS.gr g2 e2 q) fun ρ3 σ3 F3 H3 fp3 g3 s3 e3 q3 => ⟨F3, ρ3, fp3, (sF.trans x'.ff).trans g3.ff, s3, q3⟩⟩
  · have e : i = ds.length := by omega
    subst e
    rw [List.drop_length] at q
    exact .inl ⟨w.stops H sH, q σ F H fp Gr.refl s Eqs.refl⟩
theorem ds_for {it : XI2} {g : XG} {b : XS} {iter : Expr} {body : List Stmt} (hp : PassesOwn (model X.prog X.w) X.A X.env X.xe) (hc : X.calm = true) (hi : PI X tg iter (tIt CM W it)) (hg : PG X tg (dG CM rb g)) (hb : PSs X body (tS CM W rb b)) (hs : ∀ x, foldedSetIterable iter X.env x = pure x) :
    PS X (.For tg iter body [] pos) (tS CM W rb (sFor it g b)) :=
  (ps_for hp hc hi hg hb hs).weak fun E σ H ⟨F, ρ, fp, s, q⟩ => by
    refine ⟨F, ρ, fp, s, ?_⟩
    unfold sFor at q
    cases e : it ρ with
    | bad => rw [e] at q; exact q
    | exc c ns ds => rw [e] at q; exact RS.re s q
    | val ds =>
      rw [e] at q
      intro J F' H' x w
      exact forL_run (s.ext x) w (RS.gr (Gr.of_ext x) Eqs.refl q)
theorem ds_while {c : Expr} {body : List Stmt} {t : XB} {b : XS} (hp : PassesOwn (model X.prog X.w) X.A X.env X.xe) (hc : PT X c (tT CM W t)) (hb : PSs X body (tS CM W rb b)) : PS X (.While c body [] pos) (tS CM W rb (sWhile t b)) :=
  (ps_while hp hc hb).weak fun E σ1 H1 ⟨F1, ρ1, fp1, s1, q⟩ => by
    obtain ⟨n, hn, en⟩ : ∃ n, whN t b n ρ1 ≠ .bad ∧ sWhile t b ρ1 = whN t b n ρ1 := lim_ex (fun e => by
      have q' := q
      unfold sWhile at q'
      rw [e] at q'
      exact q')
    rw [en] at q
    refine ⟨fun m σ H => ∃ F ρ fp, Sl CM F H ρ σ fp ∧ RS CM W rb E σ F H fp (whN t b m ρ), ⟨n, F1, ρ1, fp1, s1, q⟩, ?_⟩
    rintro m σ H ⟨F, ρ, fp, s, q⟩
    cases m with
    | zero => exact q.elim
    | succ m =>
      unfold whN at q
      refine ⟨F, ρ, fp, s, RS.b s q fun c F' H' ec x q' => ?_⟩
      cases c with
      | false => exact q' σ F' H' fp Gr.refl (s.ext x) Eqs.refl
      | true => exact ⟨_, fun σ' H' n => ⟨m, Nat.lt_succ_self _, n⟩, F', ρ, fp, s.ext x, RS.turn q' fun ρ3 σ3 F3 H3 fp3 g3 s3 e3 q3 => ⟨F3, ρ3, fp3, s3, q3⟩⟩
/-- over the list in a slot, as it stands at each turn -/
theorem ds_forN {i : Nat} {x : Str} {p : Pos} {g : XG} {b : XS} {body : List Stmt} {rb' : List Nat} (hp : PassesOwn (model X.prog X.w) X.A X.env X.xe) (hc : X.calm = true) (hN : X.N[i]? = some x) (hv : Vis X.env.scope x) (hd : (x == ("__debug__" : Str)) = false) (hcd : (x == ("__classdict__" : Str)) = false)
    (hg : PG X tg (dG CM rb' g)) (hb : PSs X body (tS CM W rb' b)) (hr : ∀ j ∈ rb', j ∈ rb) (hi : i ∉ rb') (hs : ∀ y, foldedSetIterable (.Name x p) X.env y = pure y) : PS X (.For tg (.Name x p) body [] pos) (tS CM W rb (sForN i g b)) :=
  (ps_for hp hc (pi_list (pe_var hN hv hd hcd)) hg hb hs).weak fun E σ1 H1 ⟨F1, ρ1, fp1, s1, q⟩ => by
    obtain ⟨n, hn, en⟩ : ∃ n, forN i g b n 0 ρ1 ≠ .bad ∧ sForN i g b ρ1 = forN i g b n 0 ρ1 := lim_ex (fun e => by
      have q' := q
      unfold sForN at q'
      rw [e] at q'
      exact q')
    rw [en] at q
    have at_ : ∀ {F H ρ σ fp n k}, Sl CM F H ρ σ fp → RS CM W rb E σ F H fp (forN i g b n k ρ) → ∃ o ds a vs f, getE ρ i = some (.lst o ds) ∧ σ[i]? = some (some (.ref a)) ∧ H a = some (.lst vs) ∧ RepOs CM F H ds vs f := by
      intro F H ρ σ fp n k s q
      cases n with
      | zero => exact q.elim
      | succ n =>
        unfold forN at q
        cases e : getE ρ i with
        | none => rw [e] at q; exact q.elim
        | some d =>
          rw [e] at q
          cases d with
          | nd kd ds =>
            cases kd with
            | lst o =>
              obtain ⟨v, f, k1, k2⟩ := s.rep.get (getE_some e)
              obtain ⟨a, vs, fps, rfl, h1, h2, h3⟩ := ro_lst s.sub k2
              exact ⟨o, ds, a, vs, fps, rfl, k1, h1, h3⟩
            | _ => exact q.elim
          | _ => exact q.elim
    obtain ⟨o, ds, a, vs, f, k1, k2, k3, k4⟩ := at_ s1 q
    refine ⟨.ref a, k2, a, rfl, ⟨vs, .inl (.inl k3)⟩, ?_⟩
    refine ⟨fun k m σ H => ∃ F ρ fp, Sl CM F H ρ σ fp ∧ σ[i]? = some (some (.ref a)) ∧ RS CM W rb E σ F H fp (forN i g b m k ρ), ⟨n, F1, ρ1, fp1, s1, k2, q⟩, ?_⟩
    rintro k m σ H ⟨F, ρ, fp, s, ha, q⟩
    obtain ⟨o, ds, a', vs, f, j1, j2, j3, j4⟩ := at_ s q
    rw [ha] at j2; cases j2
    cases m with
    | zero => exact q.elim
    | succ m =>
      unfold forN at q
      rw [j1] at q
      simp only at q
      have el := j4.length
      cases ed : ds[k]? with
      | none =>
        rw [ed] at q
        refine .inl ⟨⟨vs, .inl (.inl j3), ?_⟩, q σ F H fp Gr.refl s Eqs.refl⟩
        rw [← el]
        exact List.getElem?_eq_none_iff.mp ed
      | some d =>
        rw [ed] at q
        simp only at q
        obtain ⟨v, f2, e1, e2⟩ := j4.get ed
        by_cases hz : d.fz = true
        · rw [if_pos hz] at q
          refine .inr ⟨⟨vs, v, .inl (.inl j3), e1⟩, fun σ' H' => ∃ F' ρ' fp', Sl CM F' H' ρ' σ' fp' ∧ σ'[i]? = some (some (.ref a)) ∧ RS CM W rb E σ' F' H' fp' (forN i g b m (k + 1) ρ'), fun σ' H' n => ⟨m, Nat.lt_succ_self _, n⟩, fun x H' y => ?_⟩
          obtain ⟨rfl, y⟩ := y
          have y := y vs (.inl (.inl j3))
          rw [e1] at y; cases y
          refine ⟨F, ρ, fp, d, [], s, (RepO.of_fz hz e2).1.o, List.nodup_nil, (fun p hp => nomatch hp), ?_⟩
          cases eg : g d ρ with
          | none => rw [eg] at q; exact q
          | some ρ' =>
            rw [eg] at q
            intro σ2 fp2 s2 k2 e2
            have g2 : Gr F H' fp F H' fp2 := Gr.sub fun p hp => (k2 p hp).elim .inl fun z => nomatch z
            have e2' : Eqs rb σ σ2 := fun j hj => e2 j fun z => hj (hr j z)
            have q2 : RS CM W rb E σ2 F H' fp2 ((b ρ').turn (forN i g b m (k + 1))) := RS.gr g2 e2' q
            have q3 : RS CM W rb' { E with nx := fun σ' H' => ∃ F' ρ' fp', Sl CM F' H' ρ' σ' fp' ∧ σ'[i]? = some (some (.ref a)) ∧ RS CM W rb E σ' F' H' fp' (forN i g b m (k + 1) ρ'), ct := fun σ' H' => ∃ F' ρ' fp', Sl CM F' H' ρ' σ' fp' ∧ σ'[i]? = some (some (.ref a)) ∧ RS CM W rb E σ' F' H' fp' (forN i g b m (k + 1) ρ'), bk := E.nx } σ2 F H' fp2 (b ρ') := by
              have ha2 : σ2[i]? = some (some (.ref a)) := (e2 i hi).trans ha
              have wk : ∀ {σ'}, Eqs rb' σ2 σ' → Eqs rb σ2 σ' := fun e j hj => e j fun z => hj (hr j z)
              cases eb : b ρ' with
              | nx ρ3 => rw [eb] at q2; exact fun σ3 F3 H3 fp3 g3 s3 e3 => ⟨F3, ρ3, fp3, s3, (e3 i hi).trans ha2, RS.gr g3 (wk e3) q2⟩
              | ct ρ3 => rw [eb] at q2; exact fun σ3 F3 H3 fp3 g3 s3 e3 => ⟨F3, ρ3, fp3, s3, (e3 i hi).trans ha2, RS.gr g3 (wk e3) q2⟩
              | bk ρ3 => rw [eb] at q2; exact fun σ3 F3 H3 fp3 g3 s3 e3 => q2 σ3 F3 H3 fp3 g3 s3 (wk e3)
              | rt d => rw [eb] at q2; exact q2
              | exc ρ3 c ns es => rw [eb] at q2; exact fun σ3 F3 H3 fp3 C dx vs g3 s3 e3 => q2 σ3 F3 H3 fp3 C dx vs g3 s3 (wk e3)
              | bad => rw [eb] at q2; exact q2
            exact ⟨F, ρ', fp2, s2, q3⟩
        · rw [if_neg hz] at q; exact q.elim
end
end Lc
end
section
set_option Elab.async false
set_option linter.all false
set_option maxRecDepth 100000
set_option maxHeartbeats 2000000
/-! Owned things in slots are written. -/
namespace Lc
open PySem PySem.Spec L2
section
variable {CM : CMap} {F H H' : Hp}
theorem KAt.loc {k : Kd} {p : Addr} {vs : List V} (hk : k.own = true) (e : H' p = H p) (h : KAt CM H (RdX H) k p vs) : KAt CM H' (RdX H') k p vs := by
  cases k with
  | tup => exact ⟨e.trans h.1, h.2⟩
  | lst o => exact ⟨e.trans h.1, h.2⟩
  | dic o ks =>
    obtain ⟨h1, h2, h3⟩ := h
    refine ⟨h1, h2, ?_⟩
    rcases h3 with ⟨as, e1, r⟩ | ⟨ts, e1, r⟩
    · exact .inl ⟨as, e1, e.trans r⟩
    · exact .inr ⟨ts, e1, e.trans r⟩
  | obj o c ns =>
    obtain ⟨h1, C, dx, h2, h3⟩ := h
    exact ⟨h1, C, dx, h2, e.trans h3⟩
  | scr =>
    obtain ⟨⟨o, h1⟩, h2⟩ := h
    exact ⟨⟨o, e.trans h1⟩, h2⟩
  | xob c ns => cases hk
mutual
theorem RepO.loc : ∀ (d : D) (v : V) (fp : List Addr), (∀ p ∈ fp, H' p = H p) → RepO CM F H d v fp → RepO CM F H' d v fp
  | .non, v, fp, _, h => by unfold RepO at h ⊢; exact h
  | .bl b, v, fp, _, h => by unfold RepO at h ⊢; exact h
  | .int i, v, fp, _, h => by unfold RepO at h ⊢; exact h
  | .str x, v, fp, _, h => by unfold RepO at h ⊢; exact h
  | .nd k ds, v, fp, a, h => by
    rw [RepO.nd_iff] at h ⊢
    by_cases hk : k.own = true
    · rw [if_pos hk] at h ⊢
      obtain ⟨p, vs, fps, h1, h2, h3, rfl⟩ := h
      exact ⟨p, vs, fps, h1, h2.loc hk (a p List.mem_cons_self), RepOs.loc ds vs fps (fun q hq => a q (List.mem_cons_of_mem _ hq)) h3, rfl⟩
    · rw [if_neg hk] at h ⊢
      exact h
theorem RepOs.loc : ∀ (ds : List D) (vs : List V) (fp : List Addr), (∀ p ∈ fp, H' p = H p) → RepOs CM F H ds vs fp → RepOs CM F H' ds vs fp
  | [], vs, fp, _, h => by unfold RepOs at h ⊢; exact h
  | d :: ds, vs, fp, a, h => by
    rw [RepOs.cons_iff] at h ⊢
    obtain ⟨v, r, f, g, h1, rfl, h2, h3⟩ := h
    exact ⟨v, r, f, g, h1, rfl, RepO.loc d v f (fun p hp => a p (List.mem_append_left _ hp)) h2, RepOs.loc ds r g (fun p hp => a p (List.mem_append_right _ hp)) h3⟩
end
theorem SRep.loc : ∀ {ρ : Env} {σ : L2.St} {fp : List Addr}, (∀ p ∈ fp, H' p = H p) → SRep CM F H ρ σ fp → SRep CM F H' ρ σ fp
  | [], _, _, _, h => h
  | o :: ρ, σ, fp, a, h => by
    obtain ⟨x, σ', f, g, h1, rfl, h3, h4⟩ := h
    refine ⟨x, σ', f, g, h1, rfl, ?_, SRep.loc (fun p hp => a p (List.mem_append_right _ hp)) h4⟩
    cases o with
    | none => exact h3
    | some d =>
      obtain ⟨v, e, r⟩ := h3
      exact ⟨v, e, RepO.loc d v f (fun p hp => a p (List.mem_append_left _ hp)) r⟩
/-- a part of a footprint -/
def Sub (g f : List Addr) : Prop := (∀ p ∈ g, p ∈ f) ∧ (f.Nodup → g.Nodup)
theorem RepOs.set {d : D} {v : V} {g : List Addr} (r : RepO CM F H d v g) : ∀ {ds : List D} {vs : List V} {f : List Addr} (j : Nat), RepOs CM F H ds vs f → ∃ f', RepOs CM F H (ds.set j d) (vs.set j v) f' ∧ Sub f' (f ++ g)
  | [], vs, f, j, h => by
    obtain ⟨rfl, rfl⟩ := RepOs.nil_iff.mp h
    exact ⟨[], RepOs.nil_iff.mpr ⟨by simp, rfl⟩, (fun p hp => nomatch hp), fun _ => List.nodup_nil⟩
  | x :: ds, vs, f, 0, h => by
    obtain ⟨u, r', f1, f2, rfl, rfl, h2, h3⟩ := RepOs.cons_iff.mp h
    refine ⟨g ++ f2, RepOs.cons_iff.mpr ⟨v, r', g, f2, rfl, rfl, r, h3⟩, fun p hp => ?_, fun n => ?_⟩
    · rcases List.mem_append.mp hp with hp | hp
      · exact List.mem_append_right _ hp
      · exact List.mem_append_left _ (List.mem_append_right _ hp)
    · obtain ⟨n1, n2, n3⟩ := List.nodup_append.mp n
      refine List.nodup_append.mpr ⟨n2, (List.nodup_append.mp n1).2.1, fun p hp q hq e => n3 q (List.mem_append_right _ hq) p hp e.symm⟩
  | x :: ds, vs, f, j + 1, h => by
    obtain ⟨u, r', f1, f2, rfl, rfl, h2, h3⟩ := RepOs.cons_iff.mp h
    obtain ⟨f', k1, k2, k3⟩ := RepOs.set r j h3
    refine ⟨f1 ++ f', RepOs.cons_iff.mpr ⟨u, _, f1, f', rfl, rfl, h2, k1⟩, fun p hp => ?_, fun n => ?_⟩
    · rcases List.mem_append.mp hp with hp | hp
      · exact List.mem_append_left _ (List.mem_append_left _ hp)
      · rcases List.mem_append.mp (k2 p hp) with z | z
        · exact List.mem_append_left _ (List.mem_append_right _ z)
        · exact List.mem_append_right _ z
    · rw [List.append_assoc] at n
      obtain ⟨n1, n2, n3⟩ := List.nodup_append.mp n
      exact List.nodup_append.mpr ⟨n1, k3 n2, fun p hp q hq e => n3 p hp q (k2 q hq) e⟩
theorem RepOs.kput {d : D} {v : V} {g : List Addr} {k : Ky} (r : RepO CM F H d v g) : ∀ {ks : List Ky} {ds : List D} {vs : List V} {f : List Addr}, ds.length = ks.length → RepOs CM F H ds vs f → ∃ f', RepOs CM F H (kputV ks ds k d) (kputV ks vs k v) f' ∧ Sub f' (f ++ g)
  | [], ds, vs, f, l, h => by
    cases ds with
    | cons _ _ => simp at l
    | nil =>
      obtain ⟨rfl, rfl⟩ := RepOs.nil_iff.mp h
      exact ⟨g ++ [], RepOs.cons_iff.mpr ⟨v, [], g, [], rfl, rfl, r, RepOs.nil_iff.mpr ⟨rfl, rfl⟩⟩, by simp [Sub]⟩
  | k' :: ks, ds, vs, f, l, h => by
    cases ds with
    | nil => simp at l
    | cons x ds =>
      obtain ⟨u, r', f1, f2, rfl, rfl, h2, h3⟩ := RepOs.cons_iff.mp h
      unfold kputV
      by_cases e : k' = k
      · rw [if_pos e, if_pos e]
        refine ⟨g ++ f2, RepOs.cons_iff.mpr ⟨v, r', g, f2, rfl, rfl, r, h3⟩, fun p hp => ?_, fun n => ?_⟩
        · rcases List.mem_append.mp hp with hp | hp
          · exact List.mem_append_right _ hp
          · exact List.mem_append_left _ (List.mem_append_right _ hp)
        · obtain ⟨n1, n2, n3⟩ := List.nodup_append.mp n
          refine List.nodup_append.mpr ⟨n2, (List.nodup_append.mp n1).2.1, fun p hp q hq e => n3 q (List.mem_append_right _ hq) p hp e.symm⟩
      · rw [if_neg e, if_neg e]
        obtain ⟨f', k1, k2, k3⟩ := RepOs.kput r (k := k) (ks := ks) (by simpa using l) h3
        refine ⟨f1 ++ f', RepOs.cons_iff.mpr ⟨u, _, f1, f', rfl, rfl, h2, k1⟩, fun p hp => ?_, fun n => ?_⟩
        · rcases List.mem_append.mp hp with hp | hp
          · exact List.mem_append_left _ (List.mem_append_left _ hp)
          · rcases List.mem_append.mp (k2 p hp) with z | z
            · exact List.mem_append_left _ (List.mem_append_right _ z)
            · exact List.mem_append_right _ z
        · rw [List.append_assoc] at n
          obtain ⟨n1, n2, n3⟩ := List.nodup_append.mp n
          exact List.nodup_append.mpr ⟨n1, k3 n2, fun p hp q hq e => n3 p hp q (k2 q hq) e⟩
theorem RepOs.fput {d : D} {v : V} {g : List Addr} {k : String} (r : RepO CM F H d v g) : ∀ {ks : List String} {ds : List D} {vs : List V} {f : List Addr}, ds.length = ks.length → RepOs CM F H ds vs f → ∃ f', RepOs CM F H (fputV ks ds k d) (fputV ks vs k v) f' ∧ Sub f' (f ++ g)
  | [], ds, vs, f, l, h => by
    cases ds with
    | cons _ _ => simp at l
    | nil =>
      obtain ⟨rfl, rfl⟩ := RepOs.nil_iff.mp h
      exact ⟨g ++ [], RepOs.cons_iff.mpr ⟨v, [], g, [], rfl, rfl, r, RepOs.nil_iff.mpr ⟨rfl, rfl⟩⟩, by simp [Sub]⟩
  | k' :: ks, ds, vs, f, l, h => by
    cases ds with
    | nil => simp at l
    | cons x ds =>
      obtain ⟨u, r', f1, f2, rfl, rfl, h2, h3⟩ := RepOs.cons_iff.mp h
      unfold fputV
      by_cases e : k' = k
      · rw [if_pos e, if_pos e]
        refine ⟨g ++ f2, RepOs.cons_iff.mpr ⟨v, r', g, f2, rfl, rfl, r, h3⟩, fun p hp => ?_, fun n => ?_⟩
        · rcases List.mem_append.mp hp with hp | hp
          · exact List.mem_append_right _ hp
          · exact List.mem_append_left _ (List.mem_append_right _ hp)
        · obtain ⟨n1, n2, n3⟩ := List.nodup_append.mp n
          refine List.nodup_append.mpr ⟨n2, (List.nodup_append.mp n1).2.1, fun p hp q hq e => n3 q (List.mem_append_right _ hq) p hp e.symm⟩
      · rw [if_neg e, if_neg e]
        obtain ⟨f', k1, k2, k3⟩ := RepOs.fput r (k := k) (ks := ks) (by simpa using l) h3
        refine ⟨f1 ++ f', RepOs.cons_iff.mpr ⟨u, _, f1, f', rfl, rfl, h2, k1⟩, fun p hp => ?_, fun n => ?_⟩
        · rcases List.mem_append.mp hp with hp | hp
          · exact List.mem_append_left _ (List.mem_append_left _ hp)
          · rcases List.mem_append.mp (k2 p hp) with z | z
            · exact List.mem_append_left _ (List.mem_append_right _ z)
            · exact List.mem_append_right _ z
        · rw [List.append_assoc] at n
          obtain ⟨n1, n2, n3⟩ := List.nodup_append.mp n
          exact List.nodup_append.mpr ⟨n1, k3 n2, fun p hp q hq e => n3 p hp q (k2 q hq) e⟩
theorem kputV_len {α : Type} {k : Ky} {v : α} : ∀ {ks : List Ky} {vs : List α}, vs.length = ks.length → (kputV ks vs k v).length = (kputK ks k).length
  | [], [], _ => rfl
  | [], _ :: _, h => by simp at h
  | _ :: _, [], h => by simp at h
  | k' :: ks, x :: vs, h => by
    unfold kputV kputK
    by_cases e : k' = k
    · rw [if_pos e, if_pos e]; simpa using h
    · rw [if_neg e, if_neg e, List.length_cons, List.length_cons, kputV_len (by simpa using h)]
theorem fputV_len {α : Type} {k : String} {v : α} : ∀ {ks : List String} {vs : List α}, vs.length = ks.length → (fputV ks vs k v).length = (fputK ks k).length
  | [], [], _ => rfl
  | [], _ :: _, h => by simp at h
  | _ :: _, [], h => by simp at h
  | k' :: ks, x :: vs, h => by
    unfold fputV fputK
    by_cases e : k' = k
    · rw [if_pos e, if_pos e]; simpa using h
    · rw [if_neg e, if_neg e, List.length_cons, List.length_cons, fputV_len (by simpa using h)]
theorem kputK_len {k : Ky} : ∀ {ks : List Ky}, (kputK ks k).length ≤ ks.length + 1
  | [] => by simp [kputK]
  | k' :: ks => by
    unfold kputK
    split
    · simp
    · have := kputK_len (k := k) (ks := ks)
      simp only [List.length_cons]; omega
/-- putK of the two lists -/
theorem put_gen {α κ : Type} [DecidableEq κ] (f : α → κ) (g : α → Ky) (fi : ∀ a b, f a = f b → a = b) (gi : ∀ a b, g a = g b → a = b) (k : α) (v : V) : ∀ (as : List α) (vs : List V), vs.length = as.length → (as.map f).Nodup →
    ∃ bs : List α, kputK (as.map g) (g k) = bs.map g ∧ putK ((as.map f).zip vs) (f k) v = (bs.map f).zip (kputV (as.map g) vs (g k) v)
  | [], vs, h, _ => by
    cases vs with
    | nil => exact ⟨[k], rfl, rfl⟩
    | cons _ _ => simp at h
  | a :: as, vs, h, n => by
    cases vs with
    | nil => simp at h
    | cons v0 vs =>
      rw [List.map_cons, List.nodup_cons] at n
      simp only [List.map_cons]
      unfold kputK kputV
      by_cases e : g a = g k
      · have ek := gi _ _ e
        subst ek
        rw [if_pos rfl, if_pos rfl]
        refine ⟨a :: as, rfl, ?_⟩
        unfold putK
        have hany : ((f a :: as.map f).zip (v0 :: vs)).any (fun kv => decide (kv.1 = f a)) = true := by simp
        rw [if_pos hany]
        rw [List.zip_cons_cons, List.map_cons, if_pos rfl, List.map_cons, List.zip_cons_cons]
        refine congrArg ((f a, v) :: ·) ?_
        have : ∀ x ∈ (as.map f).zip vs, (if x.1 = f a then (x.1, v) else x) = x := fun x hx => by
          rw [if_neg]
          intro z
          have := (List.of_mem_zip hx).1
          rw [z] at this
          exact n.1 this
        rw [List.map_congr_left this, List.map_id']
      · rw [if_neg e, if_neg e]
        obtain ⟨bs, h1, h2⟩ := put_gen f g fi gi k v as vs (by simpa using h) n.2
        refine ⟨a :: bs, by rw [h1]; rfl, ?_⟩
        have ef : ¬ f a = f k := fun z => e (by rw [fi _ _ z])
        rw [List.map_cons, List.zip_cons_cons, List.zip_cons_cons, ← h2]
        unfold putK
        rw [List.any_cons]
        have : decide ((f a, v0).1 = f k) = false := by simp [ef]
        rw [this, Bool.false_or]
        by_cases hh : (((as.map f).zip vs).any fun kv => decide (kv.1 = f k)) = true
        · rw [if_pos hh, if_pos hh, List.map_cons, if_neg ef]
        · rw [if_neg hh, if_neg hh, List.cons_append]
end
section
variable {X : Cx} {CM : CMap} {W : WX} {rb : List Nat} {f g : XS} {a fk fv : XP} {e : Expr} {st : Stmt} {pos : Pos}
theorem paired_keys {α β γ : Type} {R : α × β → α × γ → Prop} : ∀ {l : List (α × β)} {l' : List (α × γ)}, Paired R l l' → (∀ a b, R a b → a.1 = b.1) → l.map (·.1) = l'.map (·.1)
  | _, _, .nil, _ => rfl
  | _, _, .cons r t, h => by rw [List.map_cons, List.map_cons, paired_keys t h, h _ _ r]
theorem dK_nodup {pins : List (Addr × Obj)} {s : Shared} {σ : L2.St} {H : Hp} {p : Addr} {kvs : List (Key × V)} (I : L2.Inv X pins σ H s) (h : H p = some (.dK kvs)) : (kvs.map (·.1)).Nodup := by
  obtain ⟨_, _, vs, kv, o, es, ep, _, _, _, _, _, n⟩ := I.hok p _ h
  rw [paired_keys kv fun a b r => r.1]; exact n
theorem dT_nodup {pins : List (Addr × Obj)} {s : Shared} {σ : L2.St} {H : Hp} {p : Addr} {kvs : List (List Key × V)} (I : L2.Inv X pins σ H s) (h : H p = some (.dT kvs)) : (kvs.map (·.1)).Nodup := by
  obtain ⟨_, _, vs, kv, o, es, ep, _, _, _, _, n⟩ := I.hok p _ h
  rw [paired_keys kv fun a b r => r.1]; exact n
theorem ka_ok {F H : Hp} {d : D} {v : V} {fp : List Addr} {k : Ka} (e : d.toKa = some k) (r : RepO CM F H d v fp) : k.ok := by
  cases d with
  | int i => cases e; trivial
  | str t => cases e; exact (ro_str r).2
  | _ => cases e
theorem kas_ok {F : Hp} : ∀ {ds : List D} {vs : List V} {ks : List Ka}, toKas ds = some ks → Reps CM F ds vs → ∀ k ∈ ks, k.ok
  | [], vs, ks, e, r => by cases e; intro k hk; cases hk
  | d :: ds, vs, ks, e, r => by
    obtain ⟨v, w, rfl, r1, r2⟩ := Reps.cons_iff.mp r
    unfold toKas at e
    cases e1 : d.toKa with
    | none => rw [e1] at e; cases e
    | some k =>
      rw [e1] at e
      cases e2 : toKas ds with
      | none => rw [e2] at e; cases e
      | some kks =>
        rw [e2] at e
        cases e
        intro k' hk
        rcases List.mem_cons.mp hk with z | z
        · subst z; exact ka_ok e1 (r1.o (H := F))
        · exact kas_ok e2 r2 k' z
theorem ky_ok {F H : Hp} {d : D} {v : V} {fp : List Addr} {k : Ky} (s : Same F H) (e : d.toKy = some k) (r : RepO CM F H d v fp) : k.ok := by
  cases d with
  | int i => cases e; trivial
  | str t => cases e; exact (ro_str r).2
  | nd kd ds =>
    cases kd with
    | tup =>
      obtain ⟨_, vs, _, _, _, rs, _⟩ := ro_tup s r
      replace e : (toKas ds).map Ky.t = some k := e
      cases e2 : toKas ds with
      | none => rw [e2] at e; cases e
      | some kks =>
        rw [e2] at e
        cases e
        exact kas_ok e2 rs
    | _ => cases e
  | _ => cases e
theorem kputK_ok {k : Ky} : ∀ {ks : List Ky}, (∀ k ∈ ks, k.ok) → k.ok → ∀ j ∈ kputK ks k, j.ok
  | [], _, h, j, hj => by rw [List.mem_singleton.mp hj]; exact h
  | k' :: ks, h1, h, j, hj => by
    unfold kputK at hj
    split at hj
    · exact h1 j hj
    · rcases List.mem_cons.mp hj with z | z
      · rw [z]; exact h1 k' List.mem_cons_self
      · exact kputK_ok (fun k hk => h1 k (List.mem_cons_of_mem _ hk)) h j z
/-- o[i] = v: a list, a dict -/
def rPut (CM : CMap) : TSet := fun o i v H Q => ∃ a F di fi, o = .ref a ∧ Same F H ∧ RepO CM F H di i fi ∧
  ((∃ xs k j, di = .int k ∧ H a = some (.lst xs) ∧ ixN xs.length k = some j ∧ Q (upd H a (.lst (xs.set j v)))) ∨
   ∃ b ks vs k, di.toKy = some k ∧ KAt CM H (RdX H) (.dic b ks) a vs ∧ kOk ks k = true ∧ ks.length < LINE ∧ ∀ o', KAt CM (upd H a o') (RdX (upd H a o')) (.dic b (kputK ks k)) a (kputV ks vs k v) → Q (upd H a o'))
theorem put_any (hu : X.A.units + 1 < cLine) : PSet X (rPut CM) := by
  intro pins s σ H o i v ov iv u Q I ro ri rv h
  obtain ⟨a, F, di, fi, rfl, sF, rd, h⟩ := h
  rcases h with ⟨xs, k, j, rfl, h1, h2, q⟩ | ⟨b, ks, vs, k, h1, h2, h3, h4, q⟩
  · obtain rfl := ro_int rd
    exact set_list pins s σ H _ _ v ov iv u Q I ro ri rv ⟨a, xs, k, j, rfl, rfl, h1, h2, q⟩
  · cases (show ov = Value.ref a from ro)
    obtain ⟨l1, l2, h2⟩ := h2
    have lput : (kputV ks vs k v).length = (kputK ks k).length := kputV_len l1
    have lput2 : (kputV ks vs k v).length ≤ LINE ∧ ∀ j ∈ kputK ks k, j.ok := ⟨by rw [lput]; exact Nat.le_trans kputK_len h4, kputK_ok l2.2 (ky_ok sF h1 rd)⟩
    rcases key_v sF h1 rd with ⟨ka, rfl, rfl⟩ | ⟨kt, qa, rfl, rfl, hq⟩
    · -- a single key
      have go : ∀ (as : List Ka) (H1 : Hp) (s1 : Shared), ks = as.map Ky.a → L2.Inv X pins σ H1 s1 → H1 a = some (.dK ((as.map kaK).zip vs)) → (∀ o', upd H1 a o' = upd H a o') →
          wpAny (model X.prog X.w) X.A (setItem (.ref a) iv u) (fun _ s' => ∃ H', L2.Inv X pins σ H' s' ∧ Q H') X.xe s1 := by
        intro as H1 s1 eks I1 e1 eu
        subst eks
        have ll : vs.length = as.length := by rw [l1, List.length_map]
        have nd := dK_nodup I1 e1
        have nd' : (as.map kaK).Nodup := by
          have : ((as.map kaK).zip vs).map (·.1) = as.map kaK := by
            rw [List.map_fst_zip]; rw [List.length_map, ll]; exact Nat.le_refl _
          rw [← this]; exact nd
        obtain ⟨bs, b1, b2⟩ := put_gen kaK Ky.a (fun _ _ => kaK_inj) (fun _ _ e => by injection e) ka v as vs ll nd'
        refine d_setItem hu I1 (DPut.k (k := kaK ka) e1 ?_) (show RelV (kV (kaK ka)) iv from ri) rv fun s' I' => ⟨_, I', ?_⟩
        · rw [List.length_zip, List.length_map, ll, Nat.min_self, ← LINE_eq]
          rw [List.length_map] at h4; exact h4
        · rw [eu]
          refine q _ ⟨lput, lput2, .inl ⟨bs, b1, ?_⟩⟩
          show upd H a _ a = _
          rw [upd_same, b2]
      rcases h2 with ⟨as, eks, e1⟩ | ⟨ts, eks, e1⟩
      · exact go as H s eks I e1 fun _ => rfl
      · have hts : ts = [] := by
          rw [eks] at h3
          rcases kOk_t h3 with z | ⟨t, z⟩
          · exact z
          · cases z
        subst hts
        subst eks
        have e1' : H a = some (.dT []) := e1
        exact go [] (upd H a (.dK [])) s rfl (Inv.recast I e1' (.inr rfl) (.inl rfl)) (by rw [upd_same]; rfl) fun o' => upd_upd
    · have go : ∀ (ts : List (List Ka)) (H1 : Hp) (s1 : Shared), ks = ts.map Ky.t → L2.Inv X pins σ H1 s1 → H1 a = some (.dT ((ts.map (·.map kaK)).zip vs)) → H1 qa = some (.tup (kt.map kaV)) → (∀ o', upd H1 a o' = upd H a o') →
          wpAny (model X.prog X.w) X.A (setItem (.ref a) iv u) (fun _ s' => ∃ H', L2.Inv X pins σ H' s' ∧ Q H') X.xe s1 := by
        intro as H1 s1 eks I1 e1 eq1 eu
        subst eks
        have ll : vs.length = as.length := by rw [l1, List.length_map]
        have nd := dT_nodup I1 e1
        have nd' : (as.map (·.map kaK)).Nodup := by
          have : ((as.map (·.map kaK)).zip vs).map (·.1) = as.map (·.map kaK) := by
            rw [List.map_fst_zip]; rw [List.length_map, ll]; exact Nat.le_refl _
          rw [← this]; exact nd
        obtain ⟨bs, b1, b2⟩ := put_gen (fun t : List Ka => t.map kaK) Ky.t (fun _ _ => kaKs_inj) (fun _ _ e => by injection e) kt v as vs ll nd'
        refine d_setItem hu I1 (DPut.t (k := kt.map kaK) e1 (by rw [mapkv]; exact eq1) ?_) ri rv fun s' I' => ⟨_, I', ?_⟩
        · rw [List.length_zip, List.length_map, ll, Nat.min_self, ← LINE_eq]
          rw [List.length_map] at h4; exact h4
        · rw [eu]
          refine q _ ⟨lput, lput2, .inr ⟨bs, b1, ?_⟩⟩
          show upd H a _ a = _
          rw [upd_same, b2]
      rcases h2 with ⟨as, eks, e1⟩ | ⟨ts, eks, e1⟩
      · have hts : as = [] := by
          rw [eks] at h3
          rcases kOk_a h3 with z | ⟨t, z⟩
          · exact z
          · cases z
        subst hts
        subst eks
        have e1' : H a = some (.dK []) := e1
        exact go [] (upd H a (.dT [])) s rfl (Inv.recast I e1' (.inl rfl) (.inr rfl)) (by rw [upd_same]; rfl) (by rw [upd_ne (by intro z; rw [z, e1'] at hq; cases hq)]; exact hq) fun o' => upd_upd
      · exact go ts H s eks I e1 hq fun _ => rfl
/-- an owned slot is written -/
theorem Sl.own {CM : CMap} {F H : Hp} {ρ : Env} {σ : L2.St} {fp : List Addr} {i : Nat} {d : D} (s : Sl CM F H ρ σ fp) (hi : getE ρ i = some d) (ho : d.fz = false) :
    ∃ p k ds vs fps, d = .nd k ds ∧ k.own = true ∧ σ[i]? = some (some (.ref p)) ∧ KAt CM H (RdX H) k p vs ∧ RepOs CM F H ds vs fps ∧ (p :: fps).Nodup ∧ (∀ q ∈ p :: fps, q ∈ fp) ∧
      ∀ {o' : HO} {d' : D} {f' : List Addr}, RepO CM F (upd H p o') d' (.ref p) f' → f'.Nodup → (∀ q ∈ f', q ∈ p :: fps ∨ (q ∉ fp ∧ F q = none)) → ∃ fp', Sl CM F (upd H p o') (setE ρ i d') σ fp' ∧ ∀ q ∈ fp', (q ∈ fp ∧ q ∉ p :: fps) ∨ q ∈ f' := by
  obtain ⟨v, f, k1, k2, k3, k4, k5⟩ := s.rep.at (getE_some hi)
  cases d with
  | nd k ds =>
    have hk : k.own = true := by
      have : (!k.own) = false := ho
      simpa using this
    rw [RepO.nd_iff, if_pos hk] at k2
    obtain ⟨p, vs, fps, rfl, h2, h3, rfl⟩ := k2
    refine ⟨p, k, ds, vs, fps, rfl, hk, k1, h2, h3, k4 s.nd, k3, fun {o' d' f'} r nd hf => ?_⟩
    have hpF : F p = none := s.nf p (k3 p List.mem_cons_self)
    obtain ⟨fp', a1, a2, a3⟩ := k5 r fun {ρ σ g} hi hn => SRep.loc fun q hq => upd_ne fun z => hn s.nd q hq (z ▸ List.mem_cons_self)
    refine ⟨fp', ⟨a1, a3 s.nd nd fun q hq hq2 => (hf q hq).elim id fun z => absurd hq2 z.1, fun q hq => ?_, fun b o e => ?_⟩, fun q hq => (a2 q hq).imp (fun z => ⟨z.1, z.2 s.nd⟩) id⟩
    · rcases a2 q hq with ⟨z, _⟩ | z
      · exact s.nf q z
      · rcases hf q z with z | z
        · exact s.nf q (k3 q z)
        · exact z.2
    · rw [upd_ne (fun z => by rw [z, hpF] at e; cases e)]
      exact s.sub b o e
  | _ => cases ho
theorem wr_gr {F0 H0 F H : Hp} {fp fp' g : List Addr} {p : Addr} {o' : HO} (x : Ext F0 H0 F H) (hp : p ∈ fp) (f : ∀ q ∈ g, q ∈ fp ∨ H0 q = none) (k : ∀ q ∈ fp', q ∈ fp ∨ q ∈ g) : Gr F0 H0 fp F (upd H p o') fp' :=
  ⟨fun a o e n => by rw [upd_ne (fun z => by subst z; exact n hp)]; exact x.hh a o e, x.ff, fun a o e t _ n => x.new a o e t n, fun q hq => (k q hq).elim .inl (f q)⟩
end
end Lc
end
section
set_option Elab.async false
set_option linter.all false
set_option maxRecDepth 100000
set_option maxHeartbeats 2000000
/-! Statements that write. -/
namespace Lc
open PySem PySem.Spec L2
/-- a starred argument -/
def isSt : Expr → Bool
  | .Starred _ _ => true
  | _ => false
theorem se1 {e : Expr} {es : List Expr} {env : PySem.Env} (h : isSt e = false) : starEach (e :: es) env = (false, eval e env) :: starEach es env := by
  cases e <;> first | rfl | cases h
theorem notSt {e : Expr} (h : isSt e = false) : ∀ v p, e ≠ .Starred v p := fun v p z => by subst z; cases h
theorem few1 {e : Expr} {env : PySem.Env} {pos : Pos} (h : isSt e = false) : ((backTo pos (starEach [e] env)).all (fun x => !x.1) && (backToKw pos (keywordEach [] env)).all (fun x => x.1.isSome)
      && decide ([e].length + ([] : List Keyword).length + (if ([] : List Keyword).isEmpty then 0 else 1) < 30)) = true := by
  rw [se1 h]; rfl
theorem few2 {e f : Expr} {env : PySem.Env} {pos : Pos} (h : isSt e = false) (h2 : isSt f = false) : ((backTo pos (starEach [e, f] env)).all (fun x => !x.1) && (backToKw pos (keywordEach [] env)).all (fun x => x.1.isSome)
      && decide ([e, f].length + ([] : List Keyword).length + (if ([] : List Keyword).isEmpty then 0 else 1) < 30)) = true := by
  rw [se1 h, se1 h2]; rfl
theorem plain0 {env : PySem.Env} {pos : Pos} : (backTo pos (starEach [] env)).any (·.1) = false := rfl
theorem plain1 {e : Expr} {env : PySem.Env} {pos : Pos} (h : isSt e = false) : (backTo pos (starEach [e] env)).any (·.1) = false := by rw [se1 h]; rfl
section
variable {X : Cx} {CM : CMap} {W : WX} {rb : List Nat} {f g : XS} {a fa fk fv : XP} {e e2 : Expr} {st : Stmt} {pos p ap cp : Pos}
theorem _root_.Lc.RS.x0 {E : Ends} {σ : L2.St} {F H : Hp} {fp : List Addr} {ρ : Env} {a : Res D} {k : D → SO} {Q : VK} (s : Sl CM F H ρ σ fp) (h : RS CM W rb E σ F H fp (a.so ρ k))
    (go : ∀ d v F' H' g, a = .val d → Ext F H F' H' → RepO CM F' H' d v g → g.Nodup → (∀ p ∈ g, H p = none ∧ F' p = none) → RS CM W rb E σ F H fp (k d) → Q v H') : RX CM W σ F H Q a := by
  cases a with
  | val d => exact fun v F' H' g x r n f => go d v F' H' g rfl x r n f h
  | exc c ns ds => exact RS.re s h
  | bad => exact h
theorem _root_.Lc.RS.o0 {E : Ends} {σ : L2.St} {F H : Hp} {fp : List Addr} {ρ : Env} {a : Res D} {k : D → SO} {Q : VK} (s : Sl CM F H ρ σ fp) (h : RS CM W rb E σ F H fp (a.so ρ k))
    (go : ∀ d v F' H' g, a = .val d → Ext F H F' H' → RepO CM F' H' d v g → RS CM W rb E σ F H fp (k d) → Q v H') : RO CM W σ F H Q a := by
  cases a with
  | val d => exact fun v F' H' g x r => go d v F' H' g rfl x r h
  | exc c ns ds => exact RS.re s h
  | bad => exact h
theorem fin_lst {F H : Hp} {ρ : Env} {σ : L2.St} {fp : List Addr} {i : Nat} {ds ds' : List D} {vs' : List V} {gf : List Addr} (s : Sl CM F H ρ σ fp) (hi : getE ρ i = some (.lst true ds)) {a : Addr} (ha : σ[i]? = some (some (.ref a))) (hg : gf.Nodup) (fg : ∀ q ∈ gf, q ∉ fp ∧ F q = none)
    (h : ∀ vs fps, H a = some (.lst vs) → vs.length ≤ LINE → RepOs CM F H ds vs fps → ∃ f', RepOs CM F H ds' vs' f' ∧ Sub f' (fps ++ gf) ∧ vs'.length ≤ LINE) :
    ∃ fp', Sl CM F (upd H a (.lst vs')) (setE ρ i (.lst true ds')) σ fp' ∧ (∀ q ∈ fp', q ∈ fp ∨ q ∈ gf) ∧ a ∈ fp := by
  obtain ⟨p, k, ds1, vs, fps, e1, _, e2, hk, hr, nd, hin, go⟩ := s.own hi rfl
  cases e1
  rw [ha] at e2; cases e2
  obtain ⟨f', k1, k2, k3⟩ := h vs fps hk.1 hk.2 hr
  have ap : a ∈ fp := hin a List.mem_cons_self
  obtain ⟨n1, n2⟩ := List.nodup_cons.mp nd
  have na : ∀ q ∈ f', q ≠ a := fun q hq z => by
    subst z
    rcases List.mem_append.mp (k2.1 q hq) with z | z
    · exact n1 z
    · exact (fg q z).1 ap
  have nda : (fps ++ gf).Nodup := List.nodup_append.mpr ⟨n2, hg, fun x hx y hy e => (fg y hy).1 (e ▸ hin x (List.mem_cons_of_mem _ hx))⟩
  obtain ⟨fp', s', k'⟩ := go (o' := .lst vs') (d' := .lst true ds') (f' := a :: f') (by
      rw [RepO.nd_iff, if_pos (show (Kd.lst true).own = true from rfl)]
      exact ⟨a, vs', f', rfl, ⟨upd_same, k3⟩, RepOs.loc ds' vs' f' (fun q hq => upd_ne (na q hq)) k1, rfl⟩)
    (List.nodup_cons.mpr ⟨fun z => na a z rfl, k2.2 nda⟩) (fun q hq => by
      rcases List.mem_cons.mp hq with z | z
      · exact .inl (z ▸ List.mem_cons_self)
      · rcases List.mem_append.mp (k2.1 q z) with z | z
        · exact .inl (List.mem_cons_of_mem _ z)
        · exact .inr (fg q z))
  refine ⟨fp', s', fun q hq => ?_, ap⟩
  rcases k' q hq with z | z
  · exact .inl z.1
  · rcases List.mem_cons.mp z with z | z
    · exact .inl (z ▸ ap)
    · rcases List.mem_append.mp (k2.1 q z) with z | z
      · exact .inl (hin q (List.mem_cons_of_mem _ z))
      · exact .inr z
theorem slot_lst {F H : Hp} {ρ : Env} {σ : L2.St} {fp : List Addr} {i : Nat} {o : Bool} {ds : List D} (s : Sl CM F H ρ σ fp) (hi : getE ρ i = some (.lst o ds)) : ∃ a vs fps, σ[i]? = some (some (.ref a)) ∧ H a = some (.lst vs) ∧ vs.length ≤ LINE ∧ RepOs CM F H ds vs fps := by
  obtain ⟨v, f, e1, e2⟩ := s.rep.get (getE_some hi)
  obtain ⟨a, vs, fps, rfl, h1, h2, h3⟩ := ro_lst s.sub e2
  exact ⟨a, vs, fps, e1, h1, h2, h3⟩
theorem lst_at {F H F' H' : Hp} {ρ : Env} {σ : L2.St} {fp : List Addr} {a : Addr} {vs : List V} (s : Sl CM F H ρ σ fp) (x : Ext F H F' H') (h : H a = some (.lst vs)) : H' a = some (.lst vs) := x.hh _ _ h
theorem mem_take_drop {ds : List D} {vs : List V} {F H : Hp} {f : List Addr} (n : Nat) : ∀ {ds : List D} {vs : List V} {f : List Addr} (n : Nat), RepOs CM F H ds vs f → ∃ f1 f2, RepOs CM F H (ds.take n) (vs.take n) f1 ∧ RepOs CM F H (ds.drop n) (vs.drop n) f2 ∧ f = f1 ++ f2
  | ds, vs, f, 0, h => ⟨[], f, RepOs.nil_iff.mpr ⟨rfl, rfl⟩, by simpa using h, rfl⟩
  | [], vs, f, n + 1, h => by
    obtain ⟨rfl, rfl⟩ := RepOs.nil_iff.mp h
    exact ⟨[], [], RepOs.nil_iff.mpr ⟨rfl, rfl⟩, RepOs.nil_iff.mpr ⟨rfl, rfl⟩, rfl⟩
  | d :: ds, vs, f, n + 1, h => by
    obtain ⟨u, r, f1, f2, rfl, rfl, h2, h3⟩ := RepOs.cons_iff.mp h
    obtain ⟨g1, g2, k1, k2, rfl⟩ := mem_take_drop (ds := ds) (vs := r) (F := F) (H := H) (f := f2) n n h3
    exact ⟨f1 ++ g1, g2, RepOs.cons_iff.mpr ⟨u, _, f1, g1, rfl, rfl, h2, k1⟩, k2, by rw [List.append_assoc]⟩
theorem ds_append {i : Nat} {x : Str} (hc : X.calm = true) (hN : X.N[i]? = some x) (hv : Vis X.env.scope x) (hd : (x == ("__debug__" : Str)) = false) (hcd : (x == ("__classdict__" : Str)) = false) (he : PE X e (tX CM W a)) (hst : isSt e = false) (hl : (ap.endLine == cp.line) = true) :
    PS X (.Expr (.Call (.Attribute (.Name x p) "append" ap) [e] [] cp) pos) (tS CM W rb (sLst1 D.app i a)) := by
  refine (ps_expr (pe_bm F.plainAttrs_list F.slot_list_append F.type_list_append mt_append (pe_var hN hv hd hcd) (pa_cons he pa_nil (se1 hst)) (base_of rfl) (few1 hst) hl (se1 hst) plain0) rfl).weak fun E σ H ⟨F, ρ, fp, s, q⟩ => ?_
  unfold sLst1 at q
  split at q
  · rename_i ds hi
    obtain ⟨l, vs, fps, e1, h1, h2, h3⟩ := slot_lst s hi
    refine ⟨.ref l, e1, .inl ⟨rfl, vs, .inl (.inl h1)⟩, F, ρ, fp, s, ?_⟩
    refine RS.x0 s q fun d v F' H' g ed x1 r n f q' => ?_
    have s' := s.ext x1
    refine ⟨l, vs, v, rfl, rfl, x1.hh _ _ h1, ?_⟩
    have hlen := h3.length
    unfold D.app at q'
    split at q'
    · rename_i d' hd'
      simp only at hd'
      by_cases hz : ds.length < LINE
      · rw [if_pos hz] at hd'
        cases hd'
        refine ⟨by rw [← LINE_eq, ← hlen]; exact hz, ?_⟩
        have f2 := fresh_sl s f
        obtain ⟨fp', s2, k2, lp⟩ := fin_lst (vs' := vs ++ [v]) (ds' := ds ++ [d]) s' hi e1 n f2 fun vs' fps' hh hl hr => by
          rw [x1.hh _ _ h1] at hh; cases hh
          exact ⟨fps' ++ (g ++ []), hr.append (RepOs.cons_iff.mpr ⟨v, [], g, [], rfl, rfl, r, RepOs.nil_iff.mpr ⟨rfl, rfl⟩⟩), by simp [Sub], by rw [List.length_append, List.length_singleton]; omega⟩
        exact q' σ F' _ fp' (wr_gr x1 lp (fun q hq => .inr (f q hq).1) k2) s2 Eqs.refl
      · rw [if_neg hz] at hd'; cases hd'
    · exact q'.elim
  · exact q.elim
theorem ds_extend {i : Nat} {x : Str} (hc : X.calm = true) (hN : X.N[i]? = some x) (hv : Vis X.env.scope x) (hd : (x == ("__debug__" : Str)) = false) (hcd : (x == ("__classdict__" : Str)) = false) (he : PE X e (tO CM W a)) (hst : isSt e = false) (hl : (ap.endLine == cp.line) = true) :
    PS X (.Expr (.Call (.Attribute (.Name x p) "extend" ap) [e] [] cp) pos) (tS CM W rb (sLst1 D.extend i a)) := by
  refine (ps_expr (pe_bm F.plainAttrs_list F.slot_list_extend F.type_list_extend mt_extend (pe_var hN hv hd hcd) (pa_cons he pa_nil (se1 hst)) (base_of rfl) (few1 hst) hl (se1 hst) plain0) rfl).weak fun E σ H ⟨F, ρ, fp, s, q⟩ => ?_
  unfold sLst1 at q
  split at q
  · rename_i ds hi
    obtain ⟨l, vs, fps, e1, h1, h2, h3⟩ := slot_lst s hi
    refine ⟨.ref l, e1, .inl ⟨rfl, vs, .inl (.inl h1)⟩, F, ρ, fp, s, ?_⟩
    refine RS.o0 s q fun d v F' H' g ed x1 r q' => ?_
    have s' := s.ext x1
    have hlen := h3.length
    unfold D.extend at q'
    split at q'
    · rename_i d' hd'
      split at hd'
      · rename_i ds' o es heq
        cases heq
        obtain ⟨b, us, fps2, rfl, b1, b2, b3⟩ := ro_lst x1.sub r
        have hlen2 := b3.length
        by_cases hz : ds.length + es.length ≤ LINE ∧ es.all D.fz = true
        · rw [if_pos hz] at hd'
          cases hd'
          refine ⟨l, b, vs, us, rfl, rfl, x1.hh _ _ h1, b1, by rw [← LINE_eq, ← hlen, ← hlen2]; exact hz.1, ?_⟩
          obtain ⟨fp', s2, k2, lp⟩ := fin_lst (vs' := vs ++ us) (ds' := ds ++ es) (gf := []) s' hi e1 List.nodup_nil (fun q hq => nomatch hq) fun vs' fps' hh hl hr => by
            rw [x1.hh _ _ h1] at hh; cases hh
            exact ⟨fps' ++ [], hr.append (reps_fz hz.2 b3).o, by simp [Sub], by rw [List.length_append]; omega⟩
          exact q' σ F' _ fp' (wr_gr (g := []) x1 lp (fun q hq => nomatch hq) k2) s2 Eqs.refl
        · rw [if_neg hz] at hd'; cases hd'
      · cases hd'
    · exact q'.elim
  · exact q.elim
theorem ds_insert {i : Nat} {x : Str} (hc : X.calm = true) (hN : X.N[i]? = some x) (hv : Vis X.env.scope x) (hd : (x == ("__debug__" : Str)) = false) (hcd : (x == ("__classdict__" : Str)) = false) (hk : PE X e (tO CM W fk)) (he : PE X e2 (tX CM W a)) (hst : isSt e = false) (hst2 : isSt e2 = false) (hl : (ap.endLine == cp.line) = true) :
    PS X (.Expr (.Call (.Attribute (.Name x p) "insert" ap) [e, e2] [] cp) pos) (tS CM W rb (sLst2 D.insert i fk a)) := by
  refine (ps_expr (pe_bm F.plainAttrs_list F.slot_list_insert F.type_list_insert mt_insert (pe_var hN hv hd hcd) (pa_cons hk (pa_cons he pa_nil (se1 hst2)) (se1 hst)) (base_of rfl) (few2 hst hst2) hl (se1 hst) (plain1 hst2)) rfl).weak fun E σ H ⟨F, ρ, fp, s, q⟩ => ?_
  unfold sLst2 at q
  split at q
  · rename_i ds hi
    obtain ⟨l, vs, fps, e1, h1, h2, h3⟩ := slot_lst s hi
    refine ⟨.ref l, e1, .inl ⟨rfl, vs, .inl (.inl h1)⟩, F, ρ, fp, s, ?_⟩
    refine RS.o0 s q fun d1 v1 F1 H1 g1 ed1 x1 r1 q1 => ?_
    refine ⟨F1, ρ, fp, s.ext x1, ?_⟩
    refine RS.x0 (s.ext x1) (RS.gr (Gr.of_ext x1) Eqs.refl q1) fun d v F' H' g ed x2 r n f q' => ?_
    have x3 := x1.trans x2
    have s' := s.ext x3
    have hlen := h3.length
    unfold D.insert at q'
    split at q'
    · rename_i d' hd'
      split at hd'
      · rename_i ds' k heq
        cases heq
        obtain rfl := ro_int r1
        by_cases hz : ds.length < LINE ∧ 0 ≤ k ∧ k < 2 ^ 62
        · rw [if_pos hz] at hd'
          cases hd'
          refine ⟨l, vs, k, v, rfl, rfl, x3.hh _ _ h1, by rw [← LINE_eq, ← hlen]; exact hz.1, hz.2.1, by have := hz.2.2; omega, ?_⟩
          have f2 := fresh_sl (s.ext x1) f
          obtain ⟨fp', s2, k2, lp⟩ := fin_lst (vs' := vs.take k.toNat ++ [v] ++ vs.drop k.toNat) (ds' := ds.take k.toNat ++ [d] ++ ds.drop k.toNat) s' hi e1 n f2 fun vs' fps' hh hl hr => by
            rw [x3.hh _ _ h1] at hh; cases hh
            obtain ⟨f1, f3, a1, a2, rfl⟩ := mem_take_drop (f := fps') (F := F') (H := H') (ds := ds) (vs := vs) k.toNat k.toNat hr
            refine ⟨(f1 ++ (g ++ [])) ++ f3, (a1.append (RepOs.cons_iff.mpr ⟨v, [], g, [], rfl, rfl, r, RepOs.nil_iff.mpr ⟨rfl, rfl⟩⟩)).append a2, ⟨fun q hq => by simp at hq ⊢; rcases hq with z | z | z <;> simp [z], fun nd => ?_⟩, ?_⟩
            · have : ((f1 ++ (g ++ [])) ++ f3).Perm ((f1 ++ f3) ++ g) := by
                rw [List.append_nil, List.append_assoc, List.append_assoc]
                exact List.Perm.append_left _ List.perm_append_comm
              exact this.nodup_iff.mpr nd
            · rw [List.length_append, List.length_append, List.length_take, List.length_drop, List.length_singleton]; omega
          exact q' σ F' _ fp' (wr_gr x2 lp (fun q hq => .inr (f q hq).1) k2) s2 Eqs.refl
        · rw [if_neg hz] at hd'; cases hd'
      · cases hd'
    · exact q'.elim
  · exact q.elim
theorem ds_clear {i : Nat} {x : Str} (hc : X.calm = true) (hN : X.N[i]? = some x) (hv : Vis X.env.scope x) (hd : (x == ("__debug__" : Str)) = false) (hcd : (x == ("__classdict__" : Str)) = false) (hl : (ap.endLine == cp.line) = true) :
    PS X (.Expr (.Call (.Attribute (.Name x p) "clear" ap) [] [] cp) pos) (tS CM W rb (sLst0 D.clear i)) := by
  refine (ps_expr (pe_bm0 F.plainAttrs_list F.slot_list_clear F.type_list_clear mt_clear (pe_var hN hv hd hcd) (base_of rfl) hl) rfl).weak fun E σ H ⟨F, ρ, fp, s, q⟩ => ?_
  unfold sLst0 at q
  split at q
  · rename_i ds hi
    obtain ⟨l, vs, fps, e1, h1, h2, h3⟩ := slot_lst s hi
    refine ⟨.ref l, e1, .inl ⟨rfl, vs, .inl (.inl h1)⟩, l, vs, rfl, rfl, h1, ?_⟩
    obtain ⟨fp', s2, k2, lp⟩ := fin_lst (vs' := []) (ds' := []) (gf := []) s hi e1 List.nodup_nil (fun q hq => nomatch hq) fun vs' fps' hh hl hr => ⟨[], RepOs.nil_iff.mpr ⟨rfl, rfl⟩, by simp [Sub], Nat.zero_le _⟩
    exact q σ F _ fp' (wr_gr (g := []) (Ext.refl s.sub) lp (fun q hq => nomatch hq) k2) s2 Eqs.refl
  · exact q.elim
theorem last_rep {F H : Hp} : ∀ {ds : List D} {vs : List V} {f : List Addr} {d : D}, RepOs CM F H ds vs f → ds[ds.length - 1]? = some d → ∃ v f1 f2, vs[vs.length - 1]? = some v ∧ RepO CM F H d v f2 ∧ RepOs CM F H ds.dropLast vs.dropLast f1 ∧ f = f1 ++ f2
  | [], _, _, _, _, e => by simp at e
  | [x], vs, f, d, h, e => by
    obtain ⟨v, r, g1, g2, rfl, rfl, h1, h2⟩ := RepOs.cons_iff.mp h
    obtain ⟨rfl, rfl⟩ := RepOs.nil_iff.mp h2
    simp at e; subst e
    exact ⟨v, [], g1, rfl, h1, RepOs.nil_iff.mpr ⟨rfl, rfl⟩, by simp⟩
  | x :: y :: ds, vs, f, d, h, e => by
    obtain ⟨v, r, g1, g2, rfl, rfl, h1, h2⟩ := RepOs.cons_iff.mp h
    have hl := h2.length
    obtain ⟨u, f1, f2, k1, k2, k3, rfl⟩ := last_rep (ds := y :: ds) h2 (by simpa using e)
    obtain ⟨u0, r0, _, _, rfl, _, _, _⟩ := RepOs.cons_iff.mp h2
    refine ⟨u, g1 ++ f1, f2, by simpa using k1, k2, ?_, by rw [List.append_assoc]⟩
    show RepOs CM F H (x :: (y :: ds).dropLast) (v :: (u0 :: r0).dropLast) _
    exact RepOs.cons_iff.mpr ⟨v, _, g1, f1, rfl, rfl, h1, k3⟩
theorem ds_pop {i j : Nat} {x y : Str} {p' : Pos} (hc : X.calm = true) (hN : X.N[i]? = some x) (hv : Vis X.env.scope x) (hd : (x == ("__debug__" : Str)) = false) (hcd : (x == ("__classdict__" : Str)) = false) (hl : (ap.endLine == cp.line) = true)
    (hNd : X.N.Nodup) (hj : X.N[j]? = some y) (hy : Loc X.env.scope y) (hr : j ∈ rb) (hf : X.fn y = true ∨ X.env.scope.names.lookup y = some .local) :
    PS X (.Assign [.Name y p'] (.Call (.Attribute (.Name x p) "pop" ap) [] [] cp) pos) (tS CM W rb (sPop j i)) := by
  refine (ps_set hNd hj hy (pe_bm0 F.plainAttrs_list F.slot_list_pop F.type_list_pop mt_pop (pe_var hN hv hd hcd) (base_of rfl) hl) rfl hf).weak fun E σ H ⟨F, ρ, fp, s, q⟩ => ?_
  unfold sPop at q
  split at q
  · rename_i d0 hi
    unfold D.pop at q
    split at q
    · rename_i e d' hd'
      split at hd'
      · rename_i ds
        cases hlast : ds[ds.length - 1]? with
        | none => rw [hlast] at hd'; cases hd'
        | some d =>
          rw [hlast] at hd'
          cases hd'
          obtain ⟨a, k, ds1, vs, fps, e1, _, e2, hk, hr', nd, hin, go⟩ := s.own hi rfl
          cases e1
          obtain ⟨v, f1, f2, k1, k2, k3, rfl⟩ := last_rep hr' hlast
          obtain ⟨n1, n2⟩ := List.nodup_cons.mp nd
          obtain ⟨m1, m2, m3⟩ := List.nodup_append.mp n2
          have na : ∀ q ∈ f1 ++ f2, q ≠ a := fun q hq z => n1 (z ▸ hq)
          have k3' : RepOs CM F (upd H a (.lst vs.dropLast)) ds.dropLast vs.dropLast f1 := RepOs.loc _ _ _ (fun q hq => upd_ne (na q (List.mem_append_left _ hq))) k3
          have k2' : RepO CM F (upd H a (.lst vs.dropLast)) e v f2 := RepO.loc _ _ _ (fun q hq => upd_ne (na q (List.mem_append_right _ hq))) k2
          refine ⟨.ref a, e2, .inl ⟨rfl, vs, .inl (.inl hk.1)⟩, a, vs, v, rfl, rfl, hk.1, k1, ?_⟩
          obtain ⟨fp1, s1, kk1⟩ := go (o' := .lst vs.dropLast) (d' := .lst true ds.dropLast) (f' := a :: f1) (by
              rw [RepO.nd_iff, if_pos (show (Kd.lst true).own = true from rfl)]
              exact ⟨a, vs.dropLast, f1, rfl, ⟨upd_same, by have := hk.2; rw [List.length_dropLast]; omega⟩, k3', rfl⟩)
            (List.nodup_cons.mpr ⟨fun z => n1 (List.mem_append_left _ z), m1⟩) (fun q hq => .inl (by
              rcases List.mem_cons.mp hq with z | z
              · exact z ▸ List.mem_cons_self
              · exact List.mem_cons_of_mem _ (List.mem_append_left _ z)))
          -- the footprint of the last one is free now
          have free : ∀ q ∈ f2, q ∉ fp1 ∧ F q = none := fun q hq => ⟨fun z => ?_, s.nf q (hin q (List.mem_cons_of_mem _ (List.mem_append_right _ hq)))⟩
          · obtain ⟨fp2, s2, kk2⟩ := s1.set j k2' m2 free
            exact q _ F _ fp2 (wr_gr (g := f2) (Ext.refl s.sub) (hin a List.mem_cons_self) (fun q hq => .inl (hin q (List.mem_cons_of_mem _ (List.mem_append_right _ hq)))) fun q hq => by
              rcases kk2 q hq with z | z
              · rcases kk1 q z with z | z
                · exact .inl z.1
                · rcases List.mem_cons.mp z with z | z
                  · exact .inl (z ▸ hin a List.mem_cons_self)
                  · exact .inl (hin q (List.mem_cons_of_mem _ (List.mem_append_left _ z)))
              · exact .inr z) s2 (Eqs.set hr)
          · rcases kk1 q z with z | z
            · exact z.2 (List.mem_cons_of_mem _ (List.mem_append_right _ hq))
            · rcases List.mem_cons.mp z with z | z
              · exact na q (List.mem_append_right _ hq) z
              · exact m3 q z q hq rfl
      · cases hd'
    · exact q.elim
  · exact q.elim
end
end Lc
end
section
set_option Elab.async false
set_option linter.all false
set_option maxRecDepth 100000
set_option maxHeartbeats 2000000
/-! Comprehensions. -/
namespace Lc
open PySem PySem.Spec L2
def W0 : WX := fun _ _ _ _ => False
section
variable {X : Cx} {CM : CMap} {W : WX} {rb : List Nat} {a fa fk fv : XP} {e e2 : Expr} {st : Stmt} {pos p ap cp : Pos}
theorem SRep.wipe1 {F H : Hp} : ∀ {ρ : Env} {σ : L2.St} {fp : List Addr} (v : Nat), SRep CM F H ρ σ fp → ∃ fp', SRep CM F H (ρ.set v none) (σ.set v none) fp' ∧ Sub fp' fp
  | [], _, fp, i, h => by
    obtain ⟨rfl, rfl⟩ := h
    exact ⟨[], ⟨by simp, rfl⟩, (fun p hp => nomatch hp), fun _ => List.nodup_nil⟩
  | o :: ρ, σ, fp, 0, h => by
    obtain ⟨x, σ', f, g', rfl, rfl, h3, h4⟩ := h
    exact ⟨g', ⟨none, σ', [], g', rfl, rfl, rfl, h4⟩, fun p hp => List.mem_append_right _ hp, fun n => (List.nodup_append.mp n).2.1⟩
  | o :: ρ, σ, fp, i + 1, h => by
    obtain ⟨x, σ', f, g', rfl, rfl, h3, h4⟩ := h
    obtain ⟨fp', k1, k2, k3⟩ := SRep.wipe1 i h4
    refine ⟨f ++ fp', ⟨x, _, f, fp', rfl, rfl, h3, k1⟩, fun p hp => ?_, fun n => ?_⟩
    · rcases List.mem_append.mp hp with hp | hp
      · exact List.mem_append_left _ hp
      · exact List.mem_append_right _ (k2 p hp)
    · obtain ⟨n1, n2, n3⟩ := List.nodup_append.mp n
      exact List.nodup_append.mpr ⟨n1, k3 n2, fun p hp q hq e => n3 p hp q (k2 q hq) e⟩
theorem SRep.wipe {F H : Hp} {ρ : Env} {σ : L2.St} {fp : List Addr} (h : SRep CM F H ρ σ fp) : ∀ vs : List Nat, ∃ fp', SRep CM F H (wipeE ρ vs) (wipe σ vs) fp' ∧ Sub fp' fp
  | [] => ⟨fp, h, fun _ h => h, fun h => h⟩
  | v :: vs => by
    obtain ⟨fp1, k1, k2, k3⟩ := SRep.wipe h vs
    obtain ⟨fp2, j1, j2, j3⟩ := k1.wipe1 v
    exact ⟨fp2, j1, fun p hp => k2 p (j2 p hp), fun n => j3 (k3 n)⟩
theorem Sl.wipe {F H : Hp} {ρ : Env} {σ : L2.St} {fp : List Addr} (s : Sl CM F H ρ σ fp) (vs : List Nat) : ∃ fp', Sl CM F H (wipeE ρ vs) (L2.wipe σ vs) fp' ∧ ∀ p ∈ fp', p ∈ fp := by
  obtain ⟨fp', k1, k2, k3⟩ := s.rep.wipe vs
  exact ⟨fp', ⟨k1, k3 s.nd, fun p hp => s.nf p (k2 p hp), s.sub⟩, k2⟩
theorem wipe_get {σ : L2.St} {i : Nat} : ∀ {vs : List Nat}, i ∈ vs → i < σ.length → (L2.wipe σ vs)[i]? = some none
  | v :: vs, h, l => by
    show ((L2.wipe σ vs).set v none)[i]? = _
    by_cases e : v = i
    · subst e
      rw [List.getElem?_set_self (by rw [L2.wipe_length]; exact l)]
    · rw [List.getElem?_set_ne e]
      rcases List.mem_cons.mp h with z | z
      · exact absurd z.symm e
      · exact wipe_get z l
theorem wipe_eqs {vs : List Nat} {σ σ' : L2.St} (e : Eqs vs (L2.wipe σ vs) σ') (hl : σ'.length = σ.length) : L2.wipe σ' vs = L2.wipe σ vs := by
  refine List.ext_getElem? fun i => ?_
  by_cases hi : i ∈ vs
  · by_cases l : i < σ.length
    · rw [wipe_get hi (by rw [hl]; exact l), wipe_get hi l]
    · rw [List.getElem?_eq_none (by rw [L2.wipe_length, hl]; omega), List.getElem?_eq_none (by rw [L2.wipe_length]; omega)]
  · rw [wipe_out hi]
    exact e i hi
theorem Sl.len {F H : Hp} {ρ : Env} {σ : L2.St} {fp : List Addr} (s : Sl CM F H ρ σ fp) : ρ.length = σ.length := s.rep.length
def gLen (g : XG) : Prop := ∀ d ρ ρ', g d ρ = some ρ' → ρ'.length = ρ.length
theorem gLen_set (i : Nat) : gLen (gSet i) := fun d ρ ρ' e => by
  cases e
  unfold setE
  rw [List.length_set]
theorem gLen_all : ∀ {gs : List XG}, (∀ g ∈ gs, gLen g) → ∀ ds ρ ρ', gAll gs ds ρ = some ρ' → ρ'.length = ρ.length
  | [], _, [], ρ, ρ', e => by cases e; rfl
  | [], _, _ :: _, ρ, ρ', e => by cases e
  | g :: gs, h, [], ρ, ρ', e => by cases e
  | g :: gs, h, d :: ds, ρ, ρ', e => by
    unfold gAll at e
    cases e1 : g d ρ with
    | none => rw [e1] at e; cases e
    | some ρ1 =>
      rw [e1] at e
      exact (gLen_all (fun g hg => h g (List.mem_cons_of_mem _ hg)) ds ρ1 ρ' e).trans (h g List.mem_cons_self d ρ ρ1 e1)
theorem gLen_tup {gs : List XG} (h : ∀ g ∈ gs, gLen g) : gLen (Lc.gTup gs) := fun d ρ ρ' e => by
  unfold Lc.gTup at e
  split at e
  · exact gLen_all h _ _ _ e
  · cases e
/-- what stands of a comprehension at turn i -/
structure CompSt (CM : CMap) (F1 H1 : Hp) (D0 : Addr) (g : XG) (t : XB) (e : XP) (ρw : Env) (ds xs : List D) (i : Nat) (H : Hp) : Prop where
  ex : ∃ F acc accD fa rest, Ext F1 H1 F H ∧ H D0 = some (.lst acc) ∧ F D0 = none ∧ RepOs CM F H accD acc fa ∧ D0 ∉ fa ∧ fa.Nodup ∧ (∀ p ∈ fa, H1 p = none ∧ F p = none) ∧ compL g t e ρw (ds.drop i) = .val rest ∧ accD ++ rest = xs ∧ acc.length ≤ i
theorem comp_turn {F1 H1 : Hp} {D0 : Addr} {g : XG} {t : XB} {f : XP} {ρw : Env} {σw : L2.St} {fpw : List Addr} {ds xs : List D} {vs : List Nat} {J : It} {i : Nat} {H : Hp} {σ : L2.St} (sw : Sl CM F1 H1 ρw σw fpw) (hD : H1 D0 = none) (w : WalkD CM H1 F1 J ds) (hz : ds.length ≤ LINE) (hi : i < ds.length)
    (hσ : σw = L2.wipe σ vs) (gl : gLen g) (c : CompSt CM F1 H1 D0 g t f ρw ds xs i H) :
    J.go i H ∧ ∀ x H', J.yld i H x H' → dG CM vs g x σw H' fun σ2 H2 => L2.wipe σ2 vs = L2.wipe σ vs ∧ tT CM W0 t σ2 H2 fun b H3 =>
      if b = true then tX CM W0 f σ2 H3 fun y H4 => ∃ acc, H4 D0 = some (.lst acc) ∧ acc.length < sizeLine ∧ CompSt CM F1 H1 D0 g t f ρw ds xs (i + 1) (upd H4 D0 (.lst (acc ++ [y]))) else CompSt CM F1 H1 D0 g t f ρw ds xs (i + 1) H3 := by
  obtain ⟨F, acc, accD, fa, rest, x1, hD1, hF1, ra, na, nda, fra, er, ex, hl⟩ := c
  refine ⟨w.goes i H hi x1.hh, fun x H' y => ?_⟩
  obtain ⟨F', d, x2, ed, rd⟩ := w.yields i H x H' F hi x1.hh x1.ff x1.sub y
  have e1 : ds.drop i = d :: ds.drop (i + 1) := by
    rw [List.drop_eq_getElem_cons hi]
    rw [List.getElem?_eq_getElem hi] at ed
    injection ed with ed
    rw [ed]
  rw [e1] at er
  unfold compL at er
  have s1 := sw.ext (x1.trans x2)
  refine ⟨F', ρw, fpw, d, [], s1, rd.o, List.nodup_nil, (fun p hp => nomatch hp), ?_⟩
  cases eg : g d ρw with
  | none => rw [eg] at er; cases er
  | some ρ2 =>
    rw [eg] at er
    simp only at er
    intro σ2 fp2 s2 k2 e2
    have ll : σ2.length = σ.length := by
      rw [← s2.len, gl d ρw ρ2 eg, sw.len, hσ, L2.wipe_length]
    rw [hσ] at e2
    refine ⟨wipe_eqs e2 ll, F', ρ2, fp2, s2, ?_⟩
    cases et : t ρ2 with
    | bad => rw [et] at er; cases er
    | exc c ns es => rw [et] at er; cases er
    | val b =>
      rw [et] at er
      simp only [Res.noX_val, Res.bind_val] at er
      intro F3 H3 x3
      cases b with
      | false =>
        rw [if_neg Bool.false_ne_true] at er ⊢
        have xx := x2.trans x3
        exact ⟨F3, acc, accD, fa, rest, x1.trans xx, xx.hh _ _ hD1, xx.new _ _ hD1 (fun _ z => nomatch z) hF1, RepOs.ext xx.ff xx.hh _ _ _ ra, na, nda, fun p hp => ⟨(fra p hp).1, by
          obtain ⟨o, ho, ht⟩ := RepOs.dom _ _ _ ra p hp
          exact xx.new p o ho ht (fra p hp).2⟩, er, ex, Nat.le_succ_of_le hl⟩
      | true =>
        rw [if_pos rfl] at er ⊢
        refine ⟨F3, ρ2, fp2, s2.ext x3, ?_⟩
        cases ef : f ρ2 with
        | bad => rw [ef] at er; cases er
        | exc c ns es => rw [ef] at er; cases er
        | val y =>
          rw [ef] at er
          simp only [Res.noX_val, Res.bind_val] at er
          cases ec : compL g t f ρw (ds.drop (i + 1)) with
          | bad => rw [ec] at er; cases er
          | exc c ns es => rw [ec] at er; cases er
          | val rest' =>
            rw [ec] at er
            simp only [Res.bind_val] at er
            injection er with er
            subst er
            intro v F4 H4 gy x4 r4 n4 f4
            have xx := (x2.trans x3).trans x4
            have hD4 : H4 D0 = some (.lst acc) := xx.hh _ _ hD1
            have hF4 : F4 D0 = none := xx.new _ _ hD1 (fun _ z => nomatch z) hF1
            have x14 := x1.trans xx
            have nD : ∀ p ∈ gy, p ≠ D0 := fun p hp z => by
              subst z
              have := (f4 p hp).1
              rw [(x2.trans x3).hh _ _ hD1] at this; cases this
            refine ⟨acc, hD4, by rw [← LINE_eq]; omega, F4, acc ++ [v], accD ++ [y], fa ++ (gy ++ []), rest', ⟨fun b o e => ?_, x14.ff, fun b o e => ?_, x14.new⟩, upd_same, hF4, ?_, ?_, ?_, fun p hp => ?_, ec, by rw [← ex, List.append_assoc]; rfl, by rw [List.length_append, List.length_singleton]; omega⟩
            · rw [upd_ne (ne_of_none e hD)]; exact x14.hh b o e
            · rw [upd_ne (ne_of_none e hF4)]; exact x14.sub b o e
            · refine RepOs.append (RepOs.loc _ _ _ (fun p hp => upd_ne fun z => na (z ▸ hp)) (RepOs.ext xx.ff xx.hh _ _ _ ra)) (RepOs.cons_iff.mpr ⟨v, [], gy, [], rfl, rfl, RepO.loc _ _ _ (fun p hp => upd_ne (nD p hp)) r4, RepOs.nil_iff.mpr ⟨rfl, rfl⟩⟩)
            · intro hp
              rw [List.append_nil] at hp
              rcases List.mem_append.mp hp with z | z
              · exact na z
              · exact nD _ z rfl
            · rw [List.append_nil]
              refine List.nodup_append.mpr ⟨nda, n4, fun p hp q hq e => ?_⟩
              subst e
              obtain ⟨o, ho, ht⟩ := RepOs.dom _ _ _ ra p hp
              have := (f4 p hq).1
              rw [(x2.trans x3).hh _ _ ho] at this; cases this
            · rw [List.append_nil] at hp
              rcases List.mem_append.mp hp with z | z
              · obtain ⟨o, ho, ht⟩ := RepOs.dom _ _ _ ra p z
                exact ⟨(fra p z).1, xx.new p o ho ht (fra p z).2⟩
              · exact ⟨x1.hh.free ((x2.trans x3).hh.free (f4 p z).1), (f4 p z).2⟩
theorem comp_run {F H : Hp} {Q : VK} {g : XG} {t : XB} {f : XP} {ρ : Env} {σ : L2.St} {fp : List Addr} {ds : List D} {vs : List Nat} {J : It} {F1 H1 : Hp} (s : Sl CM F H ρ σ fp) (x : Ext F H F1 H1) (w : WalkD CM H1 F1 J ds) (gl : gLen g)
    (q : RX CM W σ F H Q ((compL g t f (wipeE ρ vs) ds).noX.bind fun xs => if ds.length ≤ LINE then .val (.lst true xs) else .bad)) : ∀ D0, H1 D0 = none → ∃ Wv : Nat → Nat → Hp → Prop, (∃ m, Wv 0 m (upd H1 D0 (.lst []))) ∧ ∀ i m H, Wv i m H →
      (J.stop i H ∧ Q (.ref D0) H) ∨ (J.go i H ∧ ∃ Nx : Hp → Prop, (∀ H', Nx H' → ∃ m', m' < m ∧ Wv (i + 1) m' H') ∧ ∀ x H', J.yld i H x H' → dG CM vs g x (L2.wipe σ vs) H' fun σ2 H2 => L2.wipe σ2 vs = L2.wipe σ vs ∧ tT CM W0 t σ2 H2 fun b H3 =>
        if b = true then tX CM W0 f σ2 H3 fun y H4 => ∃ acc, H4 D0 = some (.lst acc) ∧ acc.length < sizeLine ∧ Nx (upd H4 D0 (.lst (acc ++ [y]))) else Nx H3) := by
  intro D0 hD
  cases ec : compL g t f (wipeE ρ vs) ds with
  | bad => rw [ec] at q; exact q.elim
  | exc c ns es => rw [ec] at q; exact q.elim
  | val xs =>
    rw [ec] at q
    simp only [Res.noX_val, Res.bind_val] at q
    by_cases hz : ds.length ≤ LINE
    · rw [if_pos hz] at q
      obtain ⟨fpw, sw, kw⟩ := (s.ext x).wipe vs
      have hF : F1 D0 = none := by
        cases e : F1 D0 with
        | none => rfl
        | some o => have := x.sub _ _ e; rw [hD] at this; cases this
      refine ⟨fun i m H => m = ds.length - i ∧ i ≤ ds.length ∧ CompSt CM F1 H1 D0 g t f (wipeE ρ vs) ds xs i H, ⟨_, rfl, Nat.zero_le _, F1, [], [], [], xs, ⟨fun b o e => ?_, Same.refl _, fun b o e => ?_, fun _ _ _ _ n => n⟩, upd_same, hF, RepOs.nil_iff.mpr ⟨rfl, rfl⟩, by simp, List.nodup_nil, (fun p hp => nomatch hp), ec, rfl, Nat.le_refl _⟩, ?_⟩
      · rw [upd_ne (ne_of_none e hD)]; exact e
      · rw [upd_ne (ne_of_none e hF)]; exact x.sub b o e
      · rintro i m H' ⟨rfl, hi, c⟩
        by_cases hlt : i < ds.length
        · obtain ⟨c1, c2⟩ := comp_turn (vs := vs) sw hD w hz hlt rfl gl c
          exact .inr ⟨c1, CompSt CM F1 H1 D0 g t f (wipeE ρ vs) ds xs (i + 1), fun H' n => ⟨_, by omega, rfl, hlt, n⟩, c2⟩
        · have e : i = ds.length := by omega
          subst e
          obtain ⟨F2, acc, accD, fa, rest, x1, hD1, hF1, ra, na, nda, fra, er, ex, hl⟩ := c
          rw [List.drop_length] at er
          cases er
          rw [List.append_nil] at ex
          subst ex
          refine .inl ⟨w.stops H' x1.hh, q _ F2 H' (D0 :: fa) (x.trans x1) ?_ (List.nodup_cons.mpr ⟨na, nda⟩) fun p hp => ?_⟩
          · rw [RepO.nd_iff, if_pos (show (Kd.lst true).own = true from rfl)]
            exact ⟨D0, acc, fa, rfl, ⟨hD1, by omega⟩, ra, rfl⟩
          · rcases List.mem_cons.mp hp with z | z
            · subst z; exact ⟨x.hh.free hD, hF1⟩
            · exact ⟨x.hh.free (fra p z).1, (fra p z).2⟩
    · rw [if_neg hz] at q; exact q.elim
theorem dx_comp {it : XI2} {g : XG} {t : XB} {f : XP} {elt tg iter : Expr} {ifs : List Expr} {scope : Scope} {own : List (Str × Nat)} (hc : X.calm = true) (hN : X.N.Nodup) (hi : PI X tg iter (tIc CM W it)) (ok : BlkOk X.N X.env.scope scope own) (gl : gLen g)
    (hg : ∀ (s : Shared) (H : Hp) (C : Addr) (cl : List (Str × Addr)) (fp : List Addr), PG (X.blk s H scope (compEnvC scope cl C X.env) fp) tg (dG CM (own.map (·.2)) g)) (ht : ∀ (s : Shared) (H : Hp) (C : Addr) (cl : List (Str × Addr)) (fp : List Addr), PTs (X.blk s H scope (compEnvC scope cl C X.env) fp) ifs (tT CM W0 t))
    (he : ∀ (s : Shared) (H : Hp) (C : Addr) (cl : List (Str × Addr)) (fp : List Addr), PE (X.blk s H scope (compEnvC scope cl C X.env) fp) elt (tX CM W0 f)) (hs : ∀ x, foldedSetIterable iter X.env x = pure x) :
    PE X (.ListComp elt [⟨tg, iter, ifs, 0⟩] scope pos) (tX CM W (comp it g t f (own.map (·.2)))) :=
  (pe_lc hc hN hi ok hg ht he hs).weak fun σ H Q ⟨F, ρ, fp, s, q⟩ => by
    refine ⟨F, ρ, fp, s, ?_⟩
    unfold comp at q
    cases ei : it ρ with
    | bad => rw [ei] at q; exact q
    | exc c ns es => rw [ei] at q; exact q
    | val ds =>
      rw [ei] at q
      intro J F1 H1 x w
      exact comp_run s x w gl q
/-- name = [..] -/
theorem ds_setComp {i : Nat} {y : Str} {py : Pos} {it : XI2} {g : XG} {t : XB} {f : XP} {elt tg iter : Expr} {ifs : List Expr} {scope : Scope} {own : List (Str × Nat)} {spos : Pos} (hc : X.calm = true) (hN : X.N.Nodup) (hy : X.N[i]? = some y) (hyl : X.env.scope.names.lookup y = some .local) (hr : i ∈ rb)
    (hsw : swapsWith (.ListComp elt [⟨tg, iter, ifs, 0⟩] scope pos) (some (.Name y py)) spos.line X.env = pure true) (hi : PI X tg iter (tIc CM W it)) (ok : BlkOk X.N X.env.scope scope own) (gl : gLen g)
    (hg : ∀ (s : Shared) (H : Hp) (C : Addr) (cl : List (Str × Addr)) (fp : List Addr), PG (X.blk s H scope (compEnvC scope cl C X.env) fp) tg (dG CM (own.map (·.2)) g)) (ht : ∀ (s : Shared) (H : Hp) (C : Addr) (cl : List (Str × Addr)) (fp : List Addr), PTs (X.blk s H scope (compEnvC scope cl C X.env) fp) ifs (tT CM W0 t))
    (he : ∀ (s : Shared) (H : Hp) (C : Addr) (cl : List (Str × Addr)) (fp : List Addr), PE (X.blk s H scope (compEnvC scope cl C X.env) fp) elt (tX CM W0 f)) (hs : ∀ x, foldedSetIterable iter X.env x = pure x) :
    PS X (.Assign [.Name y py] (.ListComp elt [⟨tg, iter, ifs, 0⟩] scope pos) spos) (tS CM W rb (sSet i (comp it g t f (own.map (·.2))))) :=
  (ps_setLc hc hN hy hyl hsw hi ok hg ht he hs).weak fun E σ H ⟨F, ρ, fp, s, q⟩ => by
    refine ⟨F, ρ, fp, s, ?_⟩
    unfold sSet comp at q
    cases ei : it ρ with
    | bad => rw [ei] at q; exact q
    | exc c ns es => rw [ei] at q; exact RS.re s q
    | val ds =>
      rw [ei] at q
      intro J F1 H1 x w
      refine comp_run (W := W) (Q := fun x H1 => gName i x σ H1 E.nx) (t := t) (f := f) (vs := own.map (·.2)) s x w gl ?_
      exact RS.x0 (ρ := ρ) s q fun d v F' H' g ed x r n f q' => by
        obtain ⟨fp', s', k⟩ := (s.ext x).set i r n (fresh_sl s f)
        exact q' _ F' H' fp' (set_gr x (fun p hp => (f p hp).1) k) s' (Eqs.set hr)
end
end Lc
end
section
set_option Elab.async false
set_option linter.all false
set_option maxRecDepth 100000
set_option maxHeartbeats 2000000
/-! More rules. -/
namespace Lc
open PySem PySem.Spec L2
def isSl : Expr → Bool
  | .Slice _ _ _ _ => true
  | _ => false
section
variable {X : Cx} {CM : CMap} {W : WX} {rb : List Nat} {f g : XS} {a fa fb fc fk fv : XP} {e e2 b c : Expr} {st : Stmt} {pos p ap cp : Pos}
/-! ### text * int, list * int -/
theorem foldl_rep' (t : Tx) : ∀ (n : Nat) (acc : Array Nat), (List.replicate n t.toArray).foldl (· ++ ·) acc = acc ++ ((List.replicate n t).flatten).toArray
  | 0, acc => by simp
  | n + 1, acc => by
    rw [List.replicate_succ, List.foldl_cons, foldl_rep' t n, List.replicate_succ, List.flatten_cons]
    simp
theorem rep_len (t : Tx) (n : Nat) : (List.replicate n t).flatten.length = n * t.length := by simp
theorem TxOk.rep {t : Tx} (h : TxOk t) (n : Nat) (l : t.length * n ≤ LINE) : TxOk (List.replicate n t).flatten := ⟨by rw [rep_len, Nat.mul_comm]; exact l, fun c hc => by
  obtain ⟨l, hl, hc⟩ := List.mem_flatten.mp hc
  rw [List.eq_of_mem_replicate hl] at hc
  exact h.2 c hc⟩
theorem os_mul : OpR X (binaryOp .Mult) (rD CM D.mul) := by
  intro pins s σ H x y v u Q I rx ry ⟨F, d, e, f1, f2, sF, rd, re, q⟩
  unfold D.mul at q
  split at q
  · rename_i i j
    rw [ro_int rd] at rx
    rw [ro_int re] at ry
    split at q
    · rename_i hm
      exact op_mulB pins s σ H _ _ v u Q I rx ry ⟨i, j, rfl, rfl, hm, q.int sF⟩
    · exact q.bad
  · rename_i t n
    obtain ⟨rfl, ok⟩ := ro_str rd
    rw [ro_int re] at ry
    split at q
    · rename_i hm
      obtain ⟨h1, h2, h3⟩ := hm
      obtain ⟨tk, rfl⟩ := rx
      obtain ⟨tk2, rfl⟩ := ry
      have okr := ok.rep n.toNat h3
      have hL : (LINE : Nat) = 16777216 := rfl
      have hsl : sizeLine = LINE := LINE_eq.symm
      refine PySem.P.mul_str ?_ ?_ ?_ ?_
      · rw [Bool.or_eq_false_iff]; exact ⟨decide_eq_false (by omega), decide_eq_false (by omega)⟩
      · intro g1 g2
        rw [stx_len]
        have : (t.length : Int) * n ≤ 16777216 := by
          have e1 : ((t.length * n.toNat : Nat) : Int) ≤ (16777216 : Nat) := by exact_mod_cast hL ▸ h3
          have e2 : ((n.toNat : Nat) : Int) = n := Int.toNat_of_nonneg (by omega)
          rw [Int.natCast_mul, e2] at e1
          exact e1
        intro hc
        have hn : 0 < n := by omega
        have e3 : (t.length : Int) ≤ (2 ^ 63 - 1) / n := by
          rw [Int.le_ediv_iff_mul_le hn]
          omega
        omega
      · intro g1 g2
        rw [stx_len]
        unfold Builtin.Str.tooLong
        exact decide_eq_false (by rw [hsl]; omega)
      · by_cases c1 : n < 1
        · rw [if_pos c1]
          have e0 : n.toNat = 0 := by omega
          rw [e0] at q
          refine ⟨Nat.zero_le _, .str (stx []), H, I.tok _, ⟨_, rfl⟩, ?_⟩
          exact RV.str (t := []) q sF (by rw [e0] at okr; exact okr)
        · rw [if_neg c1]
          by_cases c2 : (n == 1 || (stx t).length == 0) = true
          · rw [if_pos c2]
            refine ⟨.str (stx t), H, I, ⟨_, rfl⟩, ?_⟩
            have et : (List.replicate n.toNat t).flatten = t := by
              rw [Bool.or_eq_true] at c2
              rcases c2 with z | z
              · have : n = 1 := by simpa using z
                subst this
                simp
              · have : t.length = 0 := by rw [stx_len] at z; simpa using z
                have : t = [] := List.length_eq_zero_iff.mp this
                subst this
                simp
            rw [et] at q
            exact RV.str q sF ok
          · rw [if_neg c2]
            have e4 : (⟨(List.replicate n.toNat (stx t).cps).foldl (· ++ ·) #[]⟩ : Str) = stx (List.replicate n.toNat t).flatten := by
              show (⟨(List.replicate n.toNat t.toArray).foldl (· ++ ·) #[]⟩ : Str) = _
              rw [foldl_rep']
              simp [stx]
            rw [e4]
            refine ⟨by rw [stx_len, hsl]; exact okr.1, .str _, H, I.tok _, ⟨_, rfl⟩, RV.str q sF okr⟩
    · exact q.bad
  · rename_i o ds n
    rw [ro_int re] at ry
    obtain ⟨pp, vs, fps, rfl, hp, lp, rs⟩ := ro_lst sF rd
    split at q
    · rename_i hm
      obtain ⟨h1, h2, h3, h4⟩ := hm
      have hl := rs.length
      refine op_rep pins s σ H _ _ v u Q I rx ry ⟨pp, n, vs, rfl, rfl, hp, by omega, by omega, by rw [← LINE_eq, ← hl]; exact h3, fun p hn => ?_⟩
      exact RV.lst q sF (Reps.rep_append n.toNat (reps_fz h4 rs)) (by rw [List.length_flatten]; simp; rw [Nat.mul_comm, ← hl]; exact h3) p hn
    · exact q.bad
  · exact q.bad
/-! ### comparison chains -/
theorem chain_go {r1 r2 : R2} {g h : D → D → Option Bool} {ta tb tc : TE} {σ : L2.St} {H : Hp} {Q : Bool → Hp → Prop} (e1 : r1 = rD CM (oB g)) (e2 : r2 = rD CM (oB h)) (ea : ta = tO CM W fa) (eb : tb = tO CM W fb) (ec : tc = tO CM W fc) (q : tT CM W (tchn g h fa fb fc) σ H Q) :
    tChain r1 r2 ta tb tc σ H (fun x H1 => ∃ c, x = .bl c ∧ Q c H1) := by
  subst e1 e2 ea eb ec
  obtain ⟨F, ρ, fp, s, q⟩ := q
  unfold tchn at q
  refine ⟨F, ρ, fp, s, RO.thenB q fun d x F1 H1 g1 ed x1 r1 q1 => ?_⟩
  refine ⟨F1, ρ, fp, s.ext x1, RO.thenB q1 fun d2 y F2 H2 g2 ed2 x2 r2 q2 => ?_⟩
  refine ⟨F2, d, d2, g1, g2, x2.sub, r1.ext x2.ff x2.hh, r2, ?_⟩
  unfold oB
  cases hg : g d d2 with
  | none => rw [hg] at q2; exact q2
  | some k =>
    rw [hg] at q2
    intro v F3 H3 g3 x3 r3 _ _
    obtain rfl := ro_bl r3
    refine ⟨k, rfl, ?_⟩
    have q3 := RB.ext x3 q2
    cases k with
    | false => exact ⟨false, rfl, RB.val q3 x3.sub⟩
    | true =>
      refine ⟨F3, ρ, fp, (s.ext x1).ext (x2.trans x3), RO.thenB q3 fun d3 z F4 H4 g4 ed4 x4 r4 q4 => ?_⟩
      refine ⟨F4, d2, d3, g2, g4, x4.sub, (r2.ext x3.ff x3.hh).ext x4.ff x4.hh, r4, ?_⟩
      exact RB.v q4
theorem dt_chain {op op' : CmpOp} {g h : D → D → Option Bool} (ho : OpR X (compareOp op) (rD CM (oB g))) (ho' : OpR X (compareOp op') (rD CM (oB h))) (ha : PE X e (tO CM W fa)) (hb : PE X b (tO CM W fb)) (hc : PE X c (tO CM W fc)) (hm : lastMarks [op, op'] [b, c] = false) :
    PT X (.Compare e [op, op'] [b, c] pos) (tT CM W (tchn g h fa fb fc)) :=
  (pt_chain ho ho' ha hb hc hm).weak fun σ H Q q => chain_go rfl rfl rfl rfl rfl q
/-! ### texts' methods -/
theorem bnS_go {g : D → D → Option D} {r : V → List V → Hp → VK → Prop} {σ : L2.St} {H : Hp} {Q : VK} (q : tX CM W (bnS g fa fb) σ H Q)
    (go : ∀ t F H d y f, Same F H → TxOk t → RepO CM F H d y f → RV CM F H Q (g (.str t) d) → r (.str (stx t)) [y] H Q) : tM1 r (tO CM W fa) (tO CM W fb) σ H Q := by
  obtain ⟨F, ρ, fp, s, q⟩ := q
  unfold bnS at q
  refine ⟨F, ρ, fp, s, RO.then_ q fun d x F1 H1 g1 ed x1 r1 q1 => ?_⟩
  split at q1
  · rename_i t
    obtain ⟨rfl, ok⟩ := ro_str r1
    refine ⟨⟨_, rfl⟩, F1, ρ, fp, s.ext x1, RO.then_ q1 fun d2 y F2 H2 g2 ed2 x2 r2 q2 => ?_⟩
    exact go t F2 H2 d2 y g2 x2.sub ok r2 q2.v
  · exact q1.elim
theorem unS_go {g : D → Option D} {r : V → List V → Hp → VK → Prop} {σ : L2.St} {H : Hp} {Q : VK} (q : tX CM W (unS g fa) σ H Q)
    (go : ∀ t F H, Same F H → TxOk t → RV CM F H Q (g (.str t)) → r (.str (stx t)) [] H Q) : tM0 r (tO CM W fa) σ H Q := by
  obtain ⟨F, ρ, fp, s, q⟩ := q
  unfold unS at q
  refine ⟨F, ρ, fp, s, RO.then_ q fun d x F1 H1 g1 ed x1 r1 q1 => ?_⟩
  split at q1
  · rename_i t
    obtain ⟨rfl, ok⟩ := ro_str r1
    exact ⟨⟨_, rfl⟩, go t F1 H1 x1.sub ok q1.v⟩
  · exact q1.elim
theorem join_stx (s : Tx) : ∀ ts : List Tx, Txt.join (stx s) (ts.map stx) = stx (joinT s ts) := by
  have gl : ∀ (us : List Tx) (acc : Tx), ((us.map stx).foldl (fun acc p => acc ++ (stx s).cps ++ p.cps) acc.toArray) = (us.foldl (fun acc p => acc ++ s ++ p) acc).toArray := by
    intro us
    induction us with
    | nil => intro acc; rfl
    | cons u us ih =>
      intro acc
      rw [List.map_cons, List.foldl_cons, List.foldl_cons, ← ih]
      congr 1
      simp [stx]
  have jl : ∀ (us : List Tx) (acc : Tx), us.foldl (fun acc p => acc ++ s ++ p) acc = joinT s (acc :: us) := by
    intro us
    induction us with
    | nil => intro acc; rfl
    | cons u us ih =>
      intro acc
      rw [List.foldl_cons, ih]
      cases us with
      | nil => simp [joinT]
      | cons w us => simp [joinT]
  intro ts
  cases ts with
  | nil => rfl
  | cons t ts =>
    show Builtin.Str.glued _ _ = _
    unfold Builtin.Str.glued
    rw [← jl]
    show (⟨(ts.map stx).foldl _ (stx t).cps⟩ : Str) = _
    show (⟨(ts.map stx).foldl _ t.toArray⟩ : Str) = _
    rw [gl]
    rfl
theorem joinT_len (s : Tx) : ∀ ts : List Tx, (joinT s ts).length ≤ (ts.map (·.length)).sum + ts.length * s.length
  | [] => Nat.zero_le _
  | [t] => by simp [joinT]
  | t :: u :: ts => by
    have := joinT_len s (u :: ts)
    simp only [joinT, List.length_append, List.map_cons, List.sum_cons, List.length_cons] at this ⊢
    have e : (ts.length + 1 + 1) * s.length = (ts.length + 1) * s.length + s.length := by rw [Nat.add_mul, Nat.one_mul]
    omega
theorem joinT_mem (s : Tx) {c : Nat} : ∀ {ts : List Tx}, c ∈ joinT s ts → c ∈ s ∨ ∃ t ∈ ts, c ∈ t
  | [], h => by simp [joinT] at h
  | [t], h => .inr ⟨t, by simp, h⟩
  | t :: u :: ts, h => by
    simp only [joinT, List.mem_append] at h
    rcases h with h | h | h
    · exact .inr ⟨t, by simp, h⟩
    · exact .inl h
    · rcases joinT_mem s h with z | ⟨x, hx, z⟩
      · exact .inl z
      · exact .inr ⟨x, List.mem_cons_of_mem _ hx, z⟩
theorem dx_join (ha : PE X e (tO CM W fa)) (hb : PE X b (tO CM W fb)) (hst : isSt b = false) (nsup : notSuper e = true) (hl : (ap.endLine == pos.line) = true) : PE X (.Call (.Attribute e "join" ap) [b] [] pos) (tX CM W (bnS D.join fa fb)) :=
  (pe_join ha hb (se1 hst) (base_of nsup) hl).weak fun σ H Q q => bnS_go q fun t F H d y f sF ok r qv => by
    unfold D.join at qv
    split at qv
    · rename_i t' o ds heq
      cases heq
      obtain ⟨pp, vs, fps, rfl, hp, lp, rs⟩ := ro_lst sF r
      split at qv
      · rename_i ts hts
        split at qv
        · rename_i hz
          obtain ⟨e1, ok2⟩ := strs_v hts rs
          subst e1
          refine ⟨stx t, pp, ts.map stx, rfl, rfl, .inl (.inl (.inl hp)), ?_, ?_⟩
          · rw [List.map_map, List.length_map]
            have : (ts.map ((fun x => x.length) ∘ stx)) = ts.map (·.length) := List.map_congr_left fun x _ => stx_len x
            rw [this, stx_len]
            exact hz
          · rw [join_stx]
            refine qv.str sF ⟨Nat.le_trans (joinT_len t ts) hz, fun c hc => ?_⟩
            rcases joinT_mem t hc with z | ⟨x, hx, z⟩
            · exact ok.2 c z
            · exact (ok2 x hx).2 c z
        · exact qv.bad
      · exact qv.bad
    · exact qv.bad
/-! ### d.get(k, x) -/
theorem dx_dget (hu : X.A.units + 1 < cLine) (ha : PE X e (tO CM W fa)) (hk : PE X b (tO CM W fk)) (hv : PE X c (tO CM W fv)) (h1 : isSt b = false) (h2 : isSt c = false) (nsup : notSuper e = true) (hl : (ap.endLine == pos.line) = true) :
    PE X (.Call (.Attribute e "get" ap) [b, c] [] pos) (tX CM W (dgetX fa fk fv)) := by
  refine ⟨fun pins s σ H Q I ⟨F, ρ, fp, s', q⟩ => ?_⟩
  refine wpAny_Call_method (base_of nsup) (few2 h1 h2) hl PySem.F.plainAttrs_dict PySem.F.slot_dict_get PySem.F.type_dict_get ?_
  unfold dgetX at q
  refine thn (ha.run pins s σ H (fun x H1 => ∃ a ks ds F1, x = .ref a ∧ (∃ vs f, KAt CM H1 (RdN H1) (.dic true ks) a vs ∧ RepOs CM F1 H1 ds vs f) ∧ Ext F H F1 H1 ∧ RX CM W σ F1 H1 Q ((fk ρ).bind fun k => (fv ρ).bind fun x => .ofO (D.getd (.dic true ks ds) k x))) I ⟨F, ρ, fp, s', RO.then_ q fun d x F1 H1 g1 ed x1 r1 q1 => ?_⟩) fun u s1 ⟨x, H1, I1, rx, a, ks, ds, F1, ex, hd, x1, q1⟩ => ?_
  · split at q1
    · rename_i o ks ds
      obtain ⟨pp, vs, fps, rfl, hk, rs⟩ := ro_dic x1.sub r1
      exact ⟨pp, ks, ds, F1, rfl, ⟨vs, fps, hk, rs⟩, x1, q1⟩
    · exact q1.elim
  · subst ex
    obtain rfl : u = Value.ref a := rx
    obtain ⟨vs, f0, hk0, rs0⟩ := hd
    have isd : IsD H1 a := by
      obtain ⟨_, _, ⟨_, _, r⟩ | ⟨_, _, r⟩⟩ := hk0
      · exact .inl ⟨_, r.rd⟩
      · exact .inr ⟨_, r.rd⟩
    obtain ⟨t1, t2, _⟩ := isD_at I1 isd
    refine ⟨t1, t2, ?_⟩
    rw [se1 h1, se1 h2]
    have hk' : tO CM W fk σ H1 fun y H2 => ∃ F2 dk g2, Ext F1 H1 F2 H2 ∧ RepO CM F2 H2 dk y g2 ∧ RX CM W σ F2 H2 Q ((fv ρ).bind fun x => .ofO (D.getd (.dic true ks ds) dk x)) :=
      ⟨F1, ρ, fp, s'.ext x1, RO.then_ q1 fun d x F2 H2 g2 ed x2 r2 q2 => ⟨F2, d, g2, x2, r2, q2⟩⟩
    refine Calls.callWith_builtin rfl (Calls.evalArgs_plain (Calls.spliced_cons (thn (hk.run pins s1 σ H1 _ I1 hk') fun iv s2 ⟨y, H2, I2, ry, F2, dk, g2, x2, r2, q2⟩ => ?_)))
    have hv' : tO CM W fv σ H2 fun z H3 => ∃ F3 dv g3, Ext F2 H2 F3 H3 ∧ RepO CM F3 H3 dv z g3 ∧ RV CM F3 H3 Q (D.getd (.dic true ks ds) dk dv) :=
      ⟨F2, ρ, fp, (s'.ext x1).ext x2, RO.then_ q2 fun d x F3 H3 g3 ed x3 r3 q3 => ⟨F3, d, g3, x3, r3, q3.v⟩⟩
    refine Calls.spliced_cons (thn (hv.run pins s2 σ H2 _ I2 hv') fun fv' s3 ⟨z, H3, I3, rz, F3, dv, g3, x3, r3, q3⟩ => Calls.spliced_nil ?_)
    replace q3 : RV CM F3 H3 Q (match dk.toKy with | some k => if kOk ks k = true ∧ ds.all D.fz = true ∧ dv.fz = true then some ((kget ks ds k).getD dv) else none | none => none) := q3
    cases hky : dk.toKy with
    | none => rw [hky] at q3; exact q3.bad
    | some k =>
      rw [hky] at q3
      simp only at q3
      split at q3
      · rename_i hh
        obtain ⟨h3, h4, h5⟩ := hh
        have x23 := x2.trans x3
        have hk3 : KAt CM H3 (RdN H3) (.dic true ks) a vs := hk0.mono (fun o e => x23.hh _ _ e) (fun o e => rd_same x23.hh e) (fun _ _ z => nomatch z)
        have rs3 := RepOs.ext x23.ff x23.hh _ _ _ rs0
        obtain ⟨H', I', back, dg⟩ := look_run I3 x3.sub hk3 hky (r2.ext x3.ff x3.hh) h3
        refine d_get2 hu I' dg ry rz fun w' s4 I4 rw' => ⟨_, H3, back _ I4, rw', ?_⟩
        cases hg : kget ks ds k with
        | none =>
          rw [hg] at q3
          rw [kget_none rs3.length hg]
          exact RV.here q3 x3.sub (RepO.of_fz h5 r3).1
        | some d =>
          rw [hg] at q3
          obtain ⟨v, f, e1, e2⟩ := kget_rep rs3 hg
          rw [e1]
          refine RV.here q3 x3.sub (RepO.of_fz ?_ e2).1
          have : d ∈ ds := by
            have km : ∀ {ks : List Ky} {ds : List D}, kget ks ds k = some d → d ∈ ds := by
              intro ks
              induction ks with
              | nil => intro ds h; cases ds <;> simp [kget] at h
              | cons k' ks ih =>
                intro ds h
                cases ds with
                | nil => simp [kget] at h
                | cons d' ds =>
                  unfold kget at h
                  split at h
                  · cases h; exact List.mem_cons_self
                  · exact List.mem_cons_of_mem _ (ih h)
            exact km hg
          exact List.all_eq_true.mp h4 d this
      · exact q3.bad
end
end Lc
end
section
set_option Elab.async false
set_option linter.all false
set_option maxRecDepth 100000
set_option maxHeartbeats 2000000
/-! Stores into slots' things; any, sorted, reversed, isinstance. -/
namespace Lc
open PySem PySem.Spec L2
theorem putF_zip (n : String) (v : V) : ∀ (ns : List String) (vs : List V), vs.length = ns.length → putF (Str.ofString n) v ((ns.map Str.ofString).zip vs) = ((fputK ns n).map Str.ofString).zip (fputV ns vs n v)
  | [], [], _ => rfl
  | [], _ :: _, h => by simp at h
  | _ :: _, [], h => by simp at h
  | n' :: ns, x :: vs, h => by
    rw [List.map_cons, List.zip_cons_cons]
    unfold putF fputK fputV
    by_cases e : n' = n
    · subst e
      rw [if_pos rfl, if_pos rfl, if_pos rfl, List.map_cons, List.zip_cons_cons]
    · rw [if_neg (fun z => e (ofString_inj z)), if_neg e, if_neg e, putF_zip n v ns vs (by simpa using h), List.map_cons, List.zip_cons_cons]
section
variable {X : Cx} {CM : CMap} {W : WX} {rb : List Nat} {f g : XS} {a fa fb fc fk fv : XP} {e e2 b c k : Expr} {st : Stmt} {pos p ap cp sp : Pos}
theorem asg_sub {o i : Expr} {pos : Pos} {env : PySem.Env} (h : isSl i = false) : ∀ v, assign (.Subscript o i pos) env v = (do
      let ov ← holding [v] (eval o env)
      let iv ← holding [v, ov] (eval i env)
      standAt pos
      holding [v, ov, iv] (setItem ov iv v)
      release [v, ov, iv] []) := by
  intro v
  cases i <;> first | rfl | cases h
/-- name[k] = e -/
theorem ds_put {i : Nat} {x : Str} (hu : X.A.units + 1 < cLine) (hN : X.N[i]? = some x) (hv : Vis X.env.scope x) (hd : (x == ("__debug__" : Str)) = false) (hcd : (x == ("__classdict__" : Str)) = false) (hk : PE X k (tO CM W fk)) (he : PE X e (tX CM W a)) (hsl : isSl k = false)
    (hs : swapsWithSole [.Subscript (.Name x p) k sp] e pos.line X.env = pure false) (hw : swappedStores [.Subscript (.Name x p) k sp] e X.env = pure none) :
    PS X (.Assign [.Subscript (.Name x p) k sp] e pos) (tS CM W rb (sPut i fk a)) := by
  refine (ps_asg he (pg_sub (pe_var hN hv hd hcd) hk (put_any (CM := CM) hu) (asg_sub hsl)) hs hw rfl).weak fun E σ H ⟨F, ρ, fp, s, q⟩ => ?_
  unfold sPut at q
  refine ⟨F, ρ, fp, s, RS.x0 s q fun d v F' H' g ed x1 r n f q1 => ?_⟩
  have s1 := s.ext x1
  have f1 := fresh_sl s f
  cases hi : getE ρ i with
  | none => rw [hi] at q1; exact q1.elim
  | some d0 =>
    rw [hi] at q1
    simp only at q1
    obtain ⟨v0, f0, e0, r0⟩ := s1.rep.get (getE_some hi)
    refine ⟨v0, e0, F', ρ, fp, s1, RS.o0 s1 (RS.gr (Gr.of_ext x1) Eqs.refl q1) fun dk kv F2 H2 g2 edk x2 r2 q2 => ?_⟩
    have s2 := s1.ext x2
    have x12 := x1.trans x2
    have r3 := r.ext x2.ff x2.hh
    have f3 : ∀ p ∈ g, p ∉ fp ∧ F2 p = none := fun p hp => ⟨(f1 p hp).1, by
      obtain ⟨o, ho, ht⟩ := RepO.dom _ _ _ r p hp
      exact x2.new p o ho ht (f1 p hp).2⟩
    have r0' := r0.ext x2.ff x2.hh
    have q3 : RS CM W rb E σ F H fp (match D.put d0 dk d with | some d' => .nx (setE ρ i d') | none => .bad) := by
      rw [edk] at q1
      exact q1
    cases hp : D.put d0 dk d with
    | none => rw [hp] at q3; exact q3.elim
    | some d' =>
      rw [hp] at q3
      unfold D.put at hp
      split at hp
      · rename_i ds
        split at hp
        · rename_i k
          split at hp
          · rename_i j hj
            cases hp
            obtain ⟨l, vs, fps, rfl, h1, h2, h3⟩ := ro_lst s2.sub r0'
            refine ⟨l, F2, .int k, g2, rfl, x2.sub, r2, .inl ⟨vs, k, j, rfl, h1, by rw [← h3.length]; exact hj, ?_⟩⟩
            obtain ⟨fp', s4, k4, lp⟩ := fin_lst (vs' := vs.set j v) (ds' := ds.set j d) s2 hi e0 n f3 fun vs' fps' hh hl hr => by
              rw [h1] at hh; cases hh
              obtain ⟨f', a1, a2⟩ := RepOs.set r3 j hr
              exact ⟨f', a1, a2, by rw [List.length_set]; exact hl⟩
            exact q3 σ F2 _ fp' (wr_gr x12 lp (fun q hq => .inr (f q hq).1) k4) s4 Eqs.refl
          · cases hp
        · cases hp
      · rename_i ks ds
        split at hp
        · rename_i key hkey
          split at hp
          · rename_i hz
            cases hp
            obtain ⟨pp, kd, ds1, vs, fps, e1, _, e2, hk, hr, nd, hin, go⟩ := s2.own hi rfl
            cases e1
            rw [e0] at e2; cases e2
            refine ⟨pp, F2, dk, g2, rfl, x2.sub, r2, .inr ⟨true, ks, vs, key, hkey, hk, hz.1, hz.2, fun o' hk' => ?_⟩⟩
            obtain ⟨f', a1, a2, a3⟩ := RepOs.kput r3 (k := key) (by rw [hr.length, hk.1]) hr
            have ap : pp ∈ fp := hin pp List.mem_cons_self
            obtain ⟨n1, n2⟩ := List.nodup_cons.mp nd
            have na : ∀ q ∈ f', q ≠ pp := fun q hq z => by
              subst z
              rcases List.mem_append.mp (a2 q hq) with z | z
              · exact n1 z
              · exact (f3 q z).1 ap
            have nda : (fps ++ g).Nodup := List.nodup_append.mpr ⟨n2, n, fun x hx y hy e => (f3 y hy).1 (e ▸ hin x (List.mem_cons_of_mem _ hx))⟩
            obtain ⟨fp', s', k'⟩ := go (o' := o') (d' := .dic true (kputK ks key) (kputV ks ds key d)) (f' := pp :: f') (by
                rw [RepO.nd_iff, if_pos (show (Kd.dic true (kputK ks key)).own = true from rfl)]
                exact ⟨pp, _, f', rfl, hk', RepOs.loc _ _ f' (fun q hq => upd_ne (na q hq)) a1, rfl⟩)
              (List.nodup_cons.mpr ⟨fun z => na pp z rfl, a3 nda⟩) (fun q hq => by
                rcases List.mem_cons.mp hq with z | z
                · exact .inl (z ▸ List.mem_cons_self)
                · rcases List.mem_append.mp (a2 q z) with z | z
                  · exact .inl (List.mem_cons_of_mem _ z)
                  · exact .inr (f3 q z))
            refine q3 σ F2 _ fp' (wr_gr (g := g) x12 ap (fun q hq => .inr (f q hq).1) fun q hq => ?_) s' Eqs.refl
            rcases k' q hq with z | z
            · exact .inl z.1
            · rcases List.mem_cons.mp z with z | z
              · exact .inl (z ▸ ap)
              · rcases List.mem_append.mp (a2 q z) with z | z
                · exact .inl (hin q (List.mem_cons_of_mem _ z))
                · exact .inr z
          · cases hp
        · cases hp
      · cases hp
/-- name.f = e -/
theorem ds_fld {i : Nat} {x m : Str} {n cn : String} {C : Addr} (hN : X.N[i]? = some x) (hv : Vis X.env.scope x) (hd : (x == ("__debug__" : Str)) = false) (hcd : (x == ("__classdict__" : Str)) = false) (hm : m = Str.ofString n) (hC : CM cn = some C) (cl : Cls X.K C) (na : NoAttr X.K C m) (he : PE X e (tX CM W a))
    (hs : swapsWith e (some (.Attribute (.Name x p) m sp)) pos.line X.env = pure false) :
    PS X (.Assign [.Attribute (.Name x p) m sp] e pos) (tS CM W rb (sFld cn i n a)) := by
  subst hm
  refine (ps_fld (pe_var hN hv hd hcd) he hs).weak fun E σ H ⟨F, ρ, fp, s, q⟩ => ?_
  unfold Lc.sFld at q
  refine ⟨F, ρ, fp, s, RS.x0 s q fun d v F' H' g ed x1 r nd f q1 => ?_⟩
  have s1 := s.ext x1
  have f1 := fresh_sl s f
  cases hi : getE ρ i with
  | none => rw [hi] at q1; exact q1.elim
  | some d0 =>
    rw [hi] at q1
    simp only at q1
    cases hp : D.setF cn n d0 d with
    | none => rw [hp] at q1; exact q1.elim
    | some d' =>
      rw [hp] at q1
      unfold D.setF at hp
      split at hp
      · rename_i c ns ds
        split at hp
        · rename_i hz
          cases hp
          obtain ⟨rfl, hz⟩ := hz
          obtain ⟨pp, kd, ds1, vs, fps, e1, _, e2, hk, hr, nd', hin, go⟩ := s1.own hi rfl
          cases e1
          obtain ⟨hl, C', dx, hC', ha⟩ := hk
          rw [hC] at hC'; cases hC'
          refine ⟨_, e2, pp, C, dx, _, rfl, ha, cl, na, ?_, ?_⟩
          · rw [List.length_zip, List.length_map, hl, Nat.min_self]; exact hz
          · rw [putF_zip n v ns vs hl]
            obtain ⟨f', a1, a2, a3⟩ := RepOs.fput r (k := n) (by rw [hr.length, hl]) hr
            have ap : pp ∈ fp := hin pp List.mem_cons_self
            obtain ⟨n1, n2⟩ := List.nodup_cons.mp nd'
            have na : ∀ q ∈ f', q ≠ pp := fun q hq z => by
              subst z
              rcases List.mem_append.mp (a2 q hq) with z | z
              · exact n1 z
              · exact (f1 q z).1 ap
            have nda : (fps ++ g).Nodup := List.nodup_append.mpr ⟨n2, nd, fun x hx y hy e => (f1 y hy).1 (e ▸ hin x (List.mem_cons_of_mem _ hx))⟩
            obtain ⟨fp', s', k'⟩ := go (o' := .ins C dx (((fputK ns n).map Str.ofString).zip (fputV ns vs n v))) (d' := .obj true c (fputK ns n) (fputV ns ds n d)) (f' := pp :: f') (by
                rw [RepO.nd_iff, if_pos (show (Kd.obj true c (fputK ns n)).own = true from rfl)]
                exact ⟨pp, fputV ns vs n v, f', rfl, ⟨fputV_len hl, C, dx, hC, upd_same⟩, RepOs.loc _ _ f' (fun q hq => upd_ne (na q hq)) a1, rfl⟩)
              (List.nodup_cons.mpr ⟨fun z => na pp z rfl, a3 nda⟩) (fun q hq => by
                rcases List.mem_cons.mp hq with z | z
                · exact .inl (z ▸ List.mem_cons_self)
                · rcases List.mem_append.mp (a2 q z) with z | z
                  · exact .inl (List.mem_cons_of_mem _ z)
                  · exact .inr (f1 q z))
            refine q1 σ F' _ fp' (wr_gr (g := g) x1 ap (fun q hq => .inr (f q hq).1) fun q hq => ?_) s' Eqs.refl
            rcases k' q hq with z | z
            · exact .inl z.1
            · rcases List.mem_cons.mp z with z | z
              · exact .inl (z ▸ ap)
              · rcases List.mem_append.mp (a2 q z) with z | z
                · exact .inl (hin q (List.mem_cons_of_mem _ z))
                · exact .inr z
        · cases hp
      · cases hp
/-- name += e -/
theorem os_iadd : PIp X .Add (rD CM D.iadd) := by
  intro pins s σ H x y v u Q I rx ry ⟨F, d, e, f1, f2, sF, rd, re, q⟩
  unfold D.iadd at q
  split at q
  · rename_i i j
    rw [ro_int rd] at rx
    rw [ro_int re] at ry
    exact ip_add pins s σ H _ _ v u Q I rx ry ⟨i, j, rfl, rfl, q.int sF⟩
  · rename_i s1 t1
    obtain ⟨rfl, ok1⟩ := ro_str rd
    obtain ⟨rfl, ok2⟩ := ro_str re
    split at q
    · rename_i hz
      refine iop_add_str pins s σ H _ _ v u Q I rx ry ⟨_, _, rfl, rfl, by rw [stx_len, stx_len, ← LINE_eq]; exact hz, ?_⟩
      rw [← stx_app]
      exact q.str sF (ok1.app ok2 hz)
    · exact q.bad
  · exact q.bad
theorem ds_aug {i : Nat} {x : Str} (hN : X.N.Nodup) (hi : X.N[i]? = some x) (hx : Loc X.env.scope x) (hr : i ∈ rb) (he : PE X e (tO CM W a)) (hf : X.fn x = true ∨ X.env.scope.names.lookup x = some .local) :
    PS X (.AugAssign (.Name x p) .Add e pos) (tS CM W rb (sAug D.iadd i a)) :=
  (ps_aug hN hi hx he (os_iadd (CM := CM)) hf).weak fun E σ H ⟨F, ρ, fp, s, q⟩ => by
    unfold sAug at q
    cases h0 : getE ρ i with
    | none => rw [h0] at q; exact q.elim
    | some d0 =>
      rw [h0] at q
      simp only at q
      obtain ⟨v0, f0, e0, r0⟩ := s.rep.get (getE_some h0)
      refine ⟨v0, e0, F, ρ, fp, s, RS.o s q fun d v F' H' g ed x1 r q1 => ?_⟩
      refine ⟨F', d0, d, f0, g, x1.sub, r0.ext x1.ff x1.hh, r, ?_⟩
      cases hg : D.iadd d0 d with
      | none => rw [hg] at q1; exact q1
      | some z =>
        rw [hg] at q1
        intro v2 F2 H2 g2 x2 r2 n2 f2
        have s1 := s.ext x1
        obtain ⟨fp', s', k⟩ := (s1.ext x2).set i r2 n2 (fresh_sl s1 f2)
        exact q1 _ F2 H2 fp' (set_gr x2 (fun p hp => (f2 p hp).1) k) s' (Eqs.set hr)
/-! ### any, sorted, reversed -/
theorem os_any (hc : X.calm = true) : CallR X (.builtin "any") (rC1 CM D.any) := by
  intro pins s σ H xs us Q I r ⟨F, d, v, f, exs, sF, rd, q⟩
  subst exs
  unfold D.any at q
  split at q
  · rename_i o ds
    obtain ⟨p, vs, fps, rfl, hp, lp, rs⟩ := ro_lst sF rd
    cases h : boolsD ds with
    | none => rw [h] at q; exact q.bad
    | some ns =>
      rw [h] at q
      have e := bools_v h rs
      subst e
      exact cr_any hc pins s σ H _ us Q I r ⟨p, ns, rfl, SqL.of hp, q.bl sF⟩
  · exact q.bad
theorem tlt_ltCps (a b : List Nat) : tlt a b = ltCps a b := (PyProof.Rows.ltCps_eq a b).symm
theorem tlt_irr (a : List Nat) : tlt a a = false := decide_eq_false (List.lt_irrefl a)
theorem tlt_tot {a b : List Nat} (h : tlt a b = false) (h' : tlt b a = false) : a = b := by
  have h1 : ¬ a < b := of_decide_eq_false h
  have h2 : ¬ b < a := of_decide_eq_false h'
  exact List.le_antisymm h2 h1
theorem tle_trans {a b c : List Nat} (h : tlt b a = false) (h' : tlt c b = false) : tlt c a = false := by
  have h1 : ¬ b < a := of_decide_eq_false h
  have h2 : ¬ c < b := of_decide_eq_false h'
  exact decide_eq_false (List.not_lt.mpr (List.le_trans (List.not_lt.mp h1) (List.not_lt.mp h2)))
theorem tlt_asym {a b : List Nat} (h : tlt a b = true) : tlt b a = false := decide_eq_false (List.lt_asymm (of_decide_eq_true h))
def Asc (l : List Tx) : Prop := l.Pairwise fun a b => tlt b a = false
theorem insT_perm (t : Tx) : ∀ l : List Tx, (insT t l).Perm (t :: l)
  | [] => List.Perm.refl _
  | u :: l => by
    unfold insT
    split
    · exact ((insT_perm t l).cons u).trans (List.Perm.swap ..)
    · exact List.Perm.refl _
theorem sortT_perm : ∀ l : List Tx, (sortT l).Perm l
  | [] => List.Perm.refl _
  | t :: l => (insT_perm t (sortT l)).trans ((sortT_perm l).cons t)
theorem insT_asc (t : Tx) : ∀ {l : List Tx}, Asc l → Asc (insT t l)
  | [], _ => List.pairwise_singleton _ _
  | u :: l, h => by
    obtain ⟨h1, h2⟩ := List.pairwise_cons.mp h
    unfold insT
    split
    · rename_i hc
      refine List.pairwise_cons.mpr ⟨fun x hx => ?_, insT_asc t h2⟩
      rcases List.mem_cons.mp ((insT_perm t l).mem_iff.mp hx) with z | z
      · subst z
        rw [Bool.or_eq_true] at hc
        rcases hc with z | z
        · exact tlt_asym z
        · have : u = x := by simpa using z
          rw [this]; exact tlt_irr x
      · exact h1 x z
    · rename_i hc
      have hc' : tlt u t = false := by
        cases e : tlt u t with
        | false => rfl
        | true => rw [e] at hc; simp at hc
      refine List.pairwise_cons.mpr ⟨fun x hx => ?_, h⟩
      rcases List.mem_cons.mp hx with z | z
      · subst z; exact hc'
      · exact tle_trans hc' (h1 x z)
theorem sortT_asc : ∀ l : List Tx, Asc (sortT l)
  | [] => List.Pairwise.nil
  | t :: l => insT_asc t (sortT_asc l)
theorem asc_uniq : ∀ {l m : List Tx}, Asc l → Asc m → l.Perm m → l = m
  | [], m, _, _, p => (List.Perm.nil_eq p)
  | t :: l, [], _, _, p => absurd p.length_eq (by simp)
  | t :: l, u :: m, h1, h2, p => by
    obtain ⟨a1, a2⟩ := List.pairwise_cons.mp h1
    obtain ⟨b1, b2⟩ := List.pairwise_cons.mp h2
    have e : t = u := by
      have ht : t ∈ u :: m := p.mem_iff.mp List.mem_cons_self
      have hu : u ∈ t :: l := p.mem_iff.mpr List.mem_cons_self
      rcases List.mem_cons.mp ht with z | z
      · exact z
      · rcases List.mem_cons.mp hu with y | y
        · exact y.symm
        · exact tlt_tot (b1 t z) (a1 u y)
    subst e
    rw [asc_uniq a2 b2 (List.Perm.cons_inv p)]
theorem sortedS_asc : ∀ {l : List Tx}, PyProof.Rows.sortedS (l.map stx) = true → Asc l
  | [], _ => List.Pairwise.nil
  | [t], _ => List.pairwise_singleton _ _
  | t :: u :: l, h => by
    have h' : (!ltCps (stx u).cps.toList (stx t).cps.toList && PyProof.Rows.risingS (stx u) (l.map stx)) = true := h
    rw [Bool.and_eq_true] at h'
    have ih : Asc (u :: l) := sortedS_asc (l := u :: l) h'.2
    have h1 : tlt u t = false := by
      have := h'.1
      rw [stx_cps, stx_cps, ← tlt_ltCps] at this
      simpa using this
    refine List.pairwise_cons.mpr ⟨fun x hx => ?_, ih⟩
    rcases List.mem_cons.mp hx with z | z
    · subst z; exact h1
    · exact tle_trans h1 ((List.pairwise_cons.mp ih).1 x z)
theorem perm_map_stx {ts : List Tx} {ys : List Str} (p : ys.Perm (ts.map stx)) : ∃ us : List Tx, ys = us.map stx := by
  refine ⟨ys.map fun y => y.cps.toList, ?_⟩
  rw [List.map_map]
  have : ∀ y ∈ ys, (stx ∘ fun y : Str => y.cps.toList) y = y := fun y _ => by simp [stx]
  rw [List.map_congr_left this, List.map_id']
theorem os_sorted : CallR X (.builtin "sorted") (rC1 CM D.sorted) := by
  intro pins s σ H xs us Q I r ⟨F, d, v, f, exs, sF, rd, q⟩
  subst exs
  unfold D.sorted at q
  split at q
  · rename_i o ds
    obtain ⟨p, vs, fps, rfl, hp, lp, rs⟩ := ro_lst sF rd
    cases h : strsD ds with
    | none => rw [h] at q; exact q.bad
    | some ts =>
      rw [h] at q
      obtain ⟨e, ok⟩ := strs_v h rs
      subst e
      have hs : SqL X.K H p ((ts.map stx).map V.str) := SqL.of hp
      obtain ⟨its, rv, hl, hz⟩ := I.list hs
      rw [Vals.ref1 r]
      refine PyProof.Rows.sorted_strsAny hl.isList rv.strs (by rw [← rv.length]; exact hz) fun out ys h1 h2 h3 => ?_
      obtain ⟨ws, rfl⟩ := perm_map_stx h2
      have ew : ws = sortT ts := by
        refine asc_uniq (sortedS_asc h3) (sortT_asc ts) ?_
        have : ws.Perm ts := by
          have p1 := h2.map (fun y : Str => y.cps.toList)
          rw [List.map_map, List.map_map] at p1
          have id1 : ∀ (l : List Tx), l.map ((fun y : Str => y.cps.toList) ∘ stx) = l := fun l => by
            have : ∀ x ∈ l, ((fun y : Str => y.cps.toList) ∘ stx) x = x := fun x _ => by simp [stx]
            rw [List.map_congr_left this, List.map_id']
          rw [id1, id1] at p1
          exact p1
        exact this.trans (sortT_perm ts).symm
      subst ew
      obtain ⟨ep, he'⟩ := PyProof.Rows.sortedAll_at s.heap its out
      have hlen : (((sortT ts).map stx).map V.str).length ≤ sizeLine := by
        rw [List.length_map, List.length_map, (sortT_perm ts).length_eq]
        rw [List.length_map, List.length_map] at hz; exact hz
      refine ⟨.ref _, upd H (s.heap.objs.size + 1) (.lst (((sortT ts).map stx).map V.str)), I.laid (t' := s.toks) (fun _ _ => PyProof.Rows.sortedAll_old) (Nat.le_succ _) ⟨hlen, out.toList, ep, vals_of_strs h1, he'⟩, rfl, ?_⟩
      refine RV.lst (ds := (sortT ts).map D.str) q sF ?_ (by rw [LINE_eq]; exact hlen) _ (I.hok.fresh (Nat.le_succ _))
      have : ∀ l : List Tx, (∀ t ∈ l, TxOk t) → Reps CM F (l.map D.str) ((l.map stx).map V.str) := by
        intro l
        induction l with
        | nil => intro _; exact Reps.nil_iff.mpr rfl
        | cons t l ih => intro hk; exact Reps.cons_iff.mpr ⟨_, _, rfl, rep_str (hk t List.mem_cons_self), ih fun u hu => hk u (List.mem_cons_of_mem _ hu)⟩
      exact this _ fun t ht => ok t ((sortT_perm ts).mem_iff.mp ht)
  · exact q.bad
theorem dx_rev {kk : Nat} {p1 p2 p3 : Pos} (he : PE X e (tO CM W fa)) : PE X (.Subscript e (.Slice none none (some (.UnaryOp .USub (.Constant (.int 1) kk p1) p2)) p3) pos) (tX CM W (un D.rev fa)) :=
  (pe_revL he).weak fun σ H Q q => by
    obtain ⟨F, ρ, fp, s, q⟩ := one q
    refine ⟨F, ρ, fp, s, ?_⟩
    cases hf : fa ρ with
    | bad => rw [hf] at q; exact q
    | exc c ns es => rw [hf] at q; exact q
    | val d =>
      rw [hf] at q
      intro v F1 H1 g1 x1 r1
      obtain ⟨F2, d2, v2, f2, e2, s2, r2, q2⟩ := q v F1 H1 g1 x1 r1
      cases e2
      unfold D.rev at q2
      split at q2
      · rename_i o ds
        obtain ⟨p, vs, fps, rfl, hp, lp, rs⟩ := ro_lst s2 r2
        split at q2
        · rename_i hz
          refine ⟨p, vs, rfl, SqL.of hp, fun pp hn => ?_⟩
          have rr : Reps CM F2 ds.reverse vs.reverse := by
            have := reps_fz hz rs
            clear q2 r2 rs hp lp hz
            revert vs
            induction ds with
            | nil => intro vs h; rw [Reps.nil_iff.mp h]; exact Reps.nil_iff.mpr rfl
            | cons d ds ih =>
              intro vs h
              obtain ⟨v, r, rfl, h1, h2⟩ := Reps.cons_iff.mp h
              rw [List.reverse_cons, List.reverse_cons]
              exact (ih r h2).append (Reps.cons_iff.mpr ⟨v, [], rfl, h1, Reps.nil_iff.mpr rfl⟩)
          exact RV.lst q2 s2 rr (by rw [List.length_reverse]; exact lp) pp hn
        · exact q2.bad
      · exact q2.bad
end
end Lc
end
section
set_option Elab.async false
set_option linter.all false
set_option maxRecDepth 100000
set_option maxHeartbeats 2000000
/-! Defs, classes. -/
namespace Lc
open PySem PySem.Spec PyProof.Rows L2
section
variable {CM : CMap} {F H : Hp}
theorem srep_none : ∀ n : Nat, SRep CM F H (List.replicate n none) (List.replicate n none) []
  | 0 => ⟨rfl, rfl⟩
  | n + 1 => ⟨none, _, [], [], rfl, rfl, rfl, srep_none n⟩
theorem srep_start : ∀ {ds : List D} {vs : List V} (m : Nat), Reps CM F ds vs → SRep CM F H (ds.map some ++ List.replicate m none) (vs.map some ++ List.replicate m none) []
  | [], vs, m, h => by rw [Reps.nil_iff.mp h]; exact srep_none m
  | d :: ds, vs, m, h => by
    obtain ⟨v, r, rfl, h1, h2⟩ := Reps.cons_iff.mp h
    exact ⟨some v, _, [], [], rfl, rfl, ⟨v, rfl, h1.o⟩, srep_start m h2⟩
theorem sl_start {ds : List D} {vs : List V} {N : List Str} (s : Same F H) (h : Reps CM F ds vs) : Sl CM F H (startE N.length ds) (L2.start N vs) [] := by
  refine ⟨?_, List.nodup_nil, (fun p hp => nomatch hp), s⟩
  unfold startE L2.start
  rw [h.length]
  exact srep_start _ h
end
section
variable {P : Program} {w : World} {K : PySem.W.Frag} {mg : Str → Option Value} {base : Heap} {CM : CMap} {x qual : Str} {params : Arguments} {body : List Stmt} {scope : Scope} {dvs : List V} {kws : List (Str × V)} {fa C : Addr} {fd : FuncData} {N ps ks : List Str} {k np npos : Nat} {f : XS} {φ : List D → Res D}
/-- the wish of a def's body -/
def WF (E : XK) : WX := fun c d _ H => E c d H
/-- a def computes its body's function -/
theorem fn_ok (Fd : FunD K x qual params body scope dvs kws fa fd) (S : FnScope N ps scope) (hb : ∀ (cdv : Value) (A : Around) (outer : List PySem.Env) (s : Shared) (H : Hp) (E : XK), Room k (A.deeper (envOfC qual scope s.heap.objs.size fa cdv)) →
    PSs (cxOf (L2N.CX P w) P w K mg base N qual scope fa cdv A outer s H E) body (tS CM (WF E) (List.range N.length) f)) : FnOk P w K mg base (L2N.CX P w) (k + 1) fa fd ps (spF CM ps.length (fnP ps.length N.length f)) := by
  refine Fd.ok S (fun vs H Q E h => h.1) fun cdv A outer s H vs Q E hr ⟨hl, F, ds, sF, r, q⟩ => ⟨_, hb cdv A outer s H E hr, ?_⟩
  have hld : ds.length = ps.length := r.length.trans hl
  unfold fnP at q
  rw [if_pos hld] at q
  refine ⟨F, startE N.length ds, [], sl_start sF r, ?_⟩
  cases e : f (startE N.length ds) with
  | nx ρ => rw [e] at q; exact fun σ' F' H' fp' g s' _ => q .non F' H' [] (g.ext s'.sub) (by unfold RepO; exact ⟨rfl, rfl⟩) List.nodup_nil (fun p hp => nomatch hp)
  | rt d => rw [e] at q; exact fun v F' H' g gr s' rr n fr => q v F' H' g (gr.ext s') rr n fun p hp => ⟨(gr.fr p hp).elim (fun z => nomatch z) id, fr p hp⟩
  | exc ρ c ns vs => rw [e] at q; exact fun σ' F' H' fp' C dx us g s' _ hC hd hl rr => q C dx F' H' us hC (g.ext s'.sub) hd hl rr
  | bk ρ => rw [e] at q; exact q.elim
  | ct ρ => rw [e] at q; exact q.elim
  | bad => rw [e] at q; exact q.elim
/-- its values as a call binds them -/
def ReOk (CM : CMap) (npos : Nat) (ks : List Str) (re : List D → List D) (gV : List V → List V → List V) : Prop := ∀ F ds vs zs, vs.length = npos → zs.length = ks.length → Reps CM F ds (vs ++ zs) → Reps CM F (re ds) (gV vs zs)
theorem run_of {g : List Value → List Value → List Value} {gV : List V → List V → List V} {re : List D → List D} (Fo : FnOk P w K mg base (L2N.CX P w) k fa fd ps (spF CM ps.length φ)) (hb : KBn K fd ps npos ks g gV) (hl : ∀ vs zs : List V, vs.length = npos → zs.length = ks.length → (gV vs zs).length = ps.length) (hre : ReOk CM npos ks re gV) :
    RunOk P w K mg base k CM (.ref fa) npos ks fun ds => φ (re ds) := by
  rintro X rfl rfl rfl rfl rfl pins s σ F H us ws vs zs ds Q W I tk hr rv rz l1 l2 sF r q
  have r2 := hb.rel rv rz
  have hq : spF CM ps.length φ (gV vs zs) H Q (fun c d H' => W c d σ H') := by
    refine ⟨hl vs zs l1 l2, F, re ds, sF, hre F ds vs zs l1 l2 r, ?_⟩
    replace q : RX CM W σ F H Q (φ (re ds)) := q
    cases e : φ (re ds) with
    | val d => rw [e] at q; exact q
    | exc c ns es => rw [e] at q; exact q
    | bad => rw [e] at q; exact q
  refine wpAny_call (codeAny_mono (Fo.run X.A X.stack s H ⟨us, ks.zip ws⟩ (g us ws) (gV vs zs) Q (fun c d H' => W c d σ H') hr I.env0 (hb.to s us ws I.kIn (rv.length.symm.trans l1) (rz.length.symm.trans l2)) r2 hq) fun r s' hq => ?_)
  cases r with
  | error e => exact tk _ _ (L2N.XE.of_call I (fun _ _ _ h => h) hq)
  | ok fl =>
    cases fl with
    | ret u => exact I.after hq
    | next => exact False.elim hq
    | brk => exact False.elim hq
    | cont => exact False.elim hq
/-- no keywords: the defaults behind -/
theorem kbn_of {dsV : List Value} {dvs : List V} (hb : Binds K fd ps dsV) (hd : Vals dvs dsV) (hl : npos + dvs.length = ps.length) : KBn K fd ps npos [] (fun us _ => us ++ dsV) (fun vs _ => vs ++ dvs) :=
  ⟨fun s us ws hk l1 _ => hb s us hk (by rw [List.length_append, l1, ← hd.length]; exact hl), fun r1 _ => r1.append hd⟩
theorem reOk_app {dfs : List D} {dvs : List V} (h : ∀ F, Reps CM F dfs dvs) : ReOk CM npos [] (fun ds => ds ++ dfs) (fun vs _ => vs ++ dvs) := fun F ds vs zs l1 l2 r => by
  have : zs = [] := List.length_eq_zero_iff.mp l2
  subst this
  rw [List.append_nil] at r
  exact r.append (h F)
/-- an __init__: self is new -/
theorem init_ok {c : String} {fz : Bool} (Fd : FunD K x qual params body scope dvs kws fa fd) (S : FnScope N ps scope) (hC : CM c = some C) (h1 : ps.length = np + 1) (hN : ps.length ≤ N.length) (hb : ∀ (cdv : Value) (A : Around) (outer : List PySem.Env) (s : Shared) (H : Hp) (E : XK), Room k (A.deeper (envOfC qual scope s.heap.objs.size fa cdv)) →
    PSs (cxOf (L2N.CX P w) P w K mg base N qual scope fa cdv A outer s H E) body (tS CM (WF E) ((List.range N.length).filter (· ≠ 0)) f)) :
    FnOk P w K mg base (L2N.CX P w) (k + 1) fa fd ps fun vs H Q E => vs.length = ps.length ∧ ∃ F H0 x dx us ds, vs = .ref x :: us ∧ H0 x = none ∧ H0 dx = none ∧ dx ≠ x ∧ H = upd (upd H0 dx (.own x)) x (.ins C dx []) ∧ Same F H0 ∧ Reps CM F ds us ∧
      RX CM (fun c d _ H' => E c d H') [] F H0 (fun v H' => v = .ref x → Q .non H') (mkP fz c np N.length f ds) := by
  refine Fd.ok S (fun vs H Q E h => h.1) fun cdv A outer s H vs Q E hr ⟨hl, F, H0, x, dx, us, ds, ev0, hx, hdx, hne, eH0, sF, r, q⟩ => ⟨_, hb cdv A outer s _ E hr, ?_⟩
  subst ev0 eH0
  have hld : ds.length = np := by
    rw [r.length]
    have : us.length + 1 = ps.length := hl
    omega
  unfold mkP at q
  rw [if_pos hld] at q
  have fx : F x = none := by
    cases e : F x with
    | none => rfl
    | some o => have := sF _ _ e; rw [hx] at this; cases this
  have fdx : F dx = none := by
    cases e : F dx with
    | none => rfl
    | some o => have := sF _ _ e; rw [hdx] at this; cases this
  have sH : Same H0 (upd (upd H0 dx (.own x)) x (.ins C dx [])) := fun b o e => by
    rw [upd_ne (ne_of_none e hx), upd_ne (ne_of_none e hdx)]; exact e
  have hxx : upd (upd H0 dx (.own x)) x (HO.ins C dx []) x = some (.ins C dx []) := upd_same
  have sl : Sl CM F (upd (upd H0 dx (.own x)) x (.ins C dx [])) (startE N.length (.obj true c [] [] :: ds)) (L2.start N (.ref x :: us)) [x] := by
    refine ⟨?_, by simp, fun p hp => ?_, sF.trans sH⟩
    · unfold startE L2.start
      rw [List.length_cons, List.length_cons, r.length]
      refine ⟨some (.ref x), us.map some ++ _, [x], [], rfl, rfl, ⟨.ref x, rfl, ?_⟩, srep_start _ r⟩
      rw [RepO.nd_iff, if_pos (show (Kd.obj true c []).own = true from rfl)]
      exact ⟨x, [], [], rfl, ⟨rfl, C, dx, hC, hxx⟩, RepOs.nil_iff.mpr ⟨rfl, rfl⟩, rfl⟩
    · rw [List.mem_singleton.mp hp]; exact fx
  refine ⟨F, _, [x], sl, ?_⟩
  have extOf : ∀ {F' H' : Hp} {fp' : List Addr}, Gr F (upd (upd H0 dx (.own x)) x (.ins C dx [])) [x] F' H' fp' → Same F' H' → Ext F H0 F' H' := fun g s' =>
    ⟨fun a o e => g.hh a o (sH a o e) (fun z => by rw [List.mem_singleton.mp z, hx] at e; cases e), g.ff, s', fun a o e t n => g.new a o (sH a o e) t (fun z => by rw [List.mem_singleton.mp z, hx] at e; cases e) n⟩
  cases e : f (startE N.length (.obj true c [] [] :: ds)) with
  | nx ρ =>
    rw [e] at q
    simp only at q
    intro σ' F' H' fp' g s' es
    cases e0 : getE ρ 0 with
    | none => rw [e0] at q; exact q.elim
    | some d =>
      rw [e0] at q
      obtain ⟨v, fv, k1, k2, k3, k4, _⟩ := s'.rep.at (getE_some e0)
      have ev : v = .ref x := by
        have := es 0 (by simp)
        rw [k1] at this
        have h0 : (L2.start N (V.ref x :: us))[0]? = some (some (.ref x)) := rfl
        rw [h0] at this
        cases this; rfl
      subst ev
      have fr : ∀ p ∈ fv, H0 p = none ∧ F' p = none := fun p hp => ⟨by
        rcases g.fr p (k3 p hp) with z | z
        · rw [List.mem_singleton.mp z]; exact hx
        · exact sH.free z, s'.nf p (k3 p hp)⟩
      have x' := extOf g s'.sub
      cases fz with
      | false => exact q (.ref x) F' H' fv x' k2 (k4 s'.nd) fr rfl
      | true => exact q (.ref x) (adopt F' H' fv) H' [] (x'.adopt fr) (RepO.frz (adopt_ff fun p hp => (fr p hp).2) d _ fv (fun p hp => adopt_in hp) k2).o List.nodup_nil (fun p hp => nomatch hp) rfl
  | exc ρ c ns vs => rw [e] at q; exact fun σ' F' H' fp' C dx us g s' _ hC hd hl rr => q C dx F' H' us hC (extOf g s'.sub) hd hl rr
  | rt d => rw [e] at q; exact q.elim
  | bk ρ => rw [e] at q; exact q.elim
  | ct ρ => rw [e] at q; exact q.elim
  | bad => rw [e] at q; exact q.elim
/-- an own class called -/
theorem run_mk {g : List Value → List Value → List Value} {gV : List V → List V → List V} {re : List D → List D} {c : String} {φ : List D → Res D} (M : Mk K C fa) (hC : CM c = some C)
    (Fo : FnOk P w K mg base (L2N.CX P w) k fa fd ps fun vs H Q E => vs.length = ps.length ∧ ∃ F H0 x dx us ds, vs = .ref x :: us ∧ H0 x = none ∧ H0 dx = none ∧ dx ≠ x ∧ H = upd (upd H0 dx (.own x)) x (.ins C dx []) ∧ Same F H0 ∧ Reps CM F ds us ∧
      RX CM (fun c d _ H' => E c d H') [] F H0 (fun v H' => v = .ref x → Q .non H') (φ ds))
    (hb : KBn K fd ps (npos + 1) ks g gV) (hl : ∀ vs zs : List V, vs.length = npos + 1 → zs.length = ks.length → (gV vs zs).length = ps.length) (hx0 : ∀ x vs zs, vs.length = npos → zs.length = ks.length → ∃ us, gV (x :: vs) zs = x :: us ∧ ∀ F ds, Reps CM F ds (vs ++ zs) → Reps CM F (re ds) us) :
    RunOk P w K mg base (k + 1) CM (.ref C) npos ks fun ds => φ (re ds) := by
  rintro X rfl rfl rfl rfl rfl pins s σ F H us ws vs zs ds Q W I tk hr rv rz l1 l2 sF r q
  replace q : RX CM W σ F H Q (φ (re ds)) := q
  have hx : H (s.heap.objs.size + 1) = none := I.hok.fresh (Nat.le_succ _)
  have hdx : H s.heap.objs.size = none := I.hok.fresh (Nat.le_refl _)
  have hne : s.heap.objs.size ≠ s.heap.objs.size + 1 := Nat.ne_of_lt (Nat.lt_succ_self _)
  have I2 := Inv.made (C := C) I
  have r1 : Vals (V.ref (s.heap.objs.size + 1) :: vs) (Value.ref (s.heap.objs.size + 1) :: us) := .cons rfl rv
  have r2 := hb.rel r1 rz
  have l1' : (V.ref (s.heap.objs.size + 1) :: vs).length = npos + 1 := congrArg Nat.succ l1
  have e1 : (Value.ref (s.heap.objs.size + 1) :: us).length = npos + 1 := r1.length.symm.trans l1'
  have e2 : ws.length = ks.length := rz.length.symm.trans l2
  obtain ⟨us', eg, hre⟩ := hx0 (V.ref (s.heap.objs.size + 1)) vs zs l1 l2
  refine wpAny_call (make_map (f := fa) I.kIn M.makes M.init (beq_iff_eq.mp M.fn) (codeAny_mono (Fo.run _ X.stack _ _ ⟨Value.ref (s.heap.objs.size + 1) :: us, ks.zip ws⟩ (g (Value.ref (s.heap.objs.size + 1) :: us) ws) _
    (fun v H2 => v = .non ∧ Q (.ref (s.heap.objs.size + 1)) H2) (fun c d H' => W c d σ H') (hr.make C us (ks.zip ws))
    (I2.env0.make C us (ks.zip ws)) (hb.to _ (Value.ref (s.heap.objs.size + 1) :: us) ws I2.kIn e1 e2) r2 ⟨hl _ _ l1' l2, F, H, s.heap.objs.size + 1, s.heap.objs.size, us', re ds, eg, hx, hdx, hne, rfl, sF, hre F ds r, ?_⟩) fun r s' hq' => ?_))
  · cases e : φ (re ds) with
    | val d => rw [e] at q; exact fun v F' H' g x r n f ev => ⟨rfl, ev ▸ q v F' H' g x r n f⟩
    | exc c ns es => rw [e] at q; exact q
    | bad => rw [e] at q; exact q
  cases r with
  | error e => exact tk _ _ (L2N.XE.of_call I2 (fun _ _ _ h => h) hq')
  | ok fl =>
    cases fl with
    | ret u =>
      obtain ⟨v, H', I3, rv, ev, q3⟩ := I2.after hq'
      subst ev
      exact ⟨rv, ⟨V.ref (s.heap.objs.size + 1), H', I3, rfl, q3⟩⟩
    | next => exact False.elim hq'
    | brk => exact False.elim hq'
    | cont => exact False.elim hq'
end
end Lc
end
section
set_option Elab.async false
set_option linter.all false
set_option maxRecDepth 100000
set_option maxHeartbeats 2000000
/-! Comprehensions over a dict's keys. -/
namespace Lc
open PySem PySem.Spec L2
theorem _root_.L2.PE.or {X : Cx} {e : Expr} {t t' : TE} (h : PE X e t) (h' : PE X e t') : PE X e (fun σ H Q => t σ H Q ∨ t' σ H Q) :=
  ⟨fun pins s σ H Q I q => q.elim (h.run pins s σ H Q I) (h'.run pins s σ H Q I)⟩
theorem _root_.L2.PS.or {X : Cx} {e : Stmt} {t t' : TS} (h : PS X e t) (h' : PS X e t') : PS X e (fun D σ H => t D σ H ∨ t' D σ H) :=
  ⟨fun pins s σ H Q I q => q.elim (h.run pins s σ H Q I) (h'.run pins s σ H Q I)⟩
/-- a dict that is not empty, as it stands -/
def DicO (u : HO) : Prop := (∃ kvs, u = .dK kvs) ∨ ∃ kvs, u = .dT kvs
section
variable {CM : CMap} {F H : Hp} {a : Addr} {u : HO} {od : Obj}
theorem KAt.lock {k : Kd} {p : Addr} {vs : List V} (hu : DicO u) (hne : u ≠ .dK [] ∧ u ≠ .dT []) (ha : F a = some u) (h : KAt CM F (RdN F) k p vs) : KAt CM (upd F a (.frz od u)) (RdN (upd F a (.frz od u))) k p vs := by
  have nl : ∀ {o : HO}, F p = some o → ¬ DicO o → p ≠ a := fun e n z => by
    subst z
    rw [ha] at e; cases e
    exact n hu
  have rd : ∀ {o : HO}, RdN F p o → RdN (upd F a (.frz od u)) p o := fun {o} r => by
    by_cases hp : p = a
    · subst hp
      rcases r with r | ⟨n, u', r⟩
      · rw [ha] at r; cases r
        exact .inr ⟨hne, od, upd_same⟩
      · rw [ha] at r; cases r
        rcases hu with ⟨_, z⟩ | ⟨_, z⟩ <;> cases z
    · rcases r with r | ⟨n, u', r⟩
      · exact .inl (by rw [upd_ne hp]; exact r)
      · exact .inr ⟨n, u', by rw [upd_ne hp]; exact r⟩
  cases k with
  | tup => exact ⟨by rw [upd_ne (nl h.1 (by rintro (⟨_, z⟩ | ⟨_, z⟩) <;> cases z))]; exact h.1, h.2⟩
  | lst o => exact ⟨by rw [upd_ne (nl h.1 (by rintro (⟨_, z⟩ | ⟨_, z⟩) <;> cases z))]; exact h.1, h.2⟩
  | dic o ks =>
    obtain ⟨h1, h2, h3⟩ := h
    refine ⟨h1, h2, ?_⟩
    rcases h3 with ⟨as, e1, r⟩ | ⟨ts, e1, r⟩
    · exact .inl ⟨as, e1, rd r⟩
    · exact .inr ⟨ts, e1, rd r⟩
  | obj o c ns =>
    obtain ⟨h1, C, dx, h2, h3⟩ := h
    exact ⟨h1, C, dx, h2, by rw [upd_ne (nl h3 (by rintro (⟨_, z⟩ | ⟨_, z⟩) <;> cases z))]; exact h3⟩
  | scr =>
    obtain ⟨⟨o, h1⟩, h2⟩ := h
    exact ⟨⟨o, by rw [upd_ne (nl h1 (by rintro (⟨_, z⟩ | ⟨_, z⟩) <;> cases z))]; exact h1⟩, h2⟩
  | xob c ns =>
    obtain ⟨h1, h2, C, dx, h3, h4, h5, h6⟩ := h
    have ne : dx ≠ a := fun z => by
      subst z
      rw [ha] at h6; cases h6
      rcases hu with ⟨_, z⟩ | ⟨_, z⟩ <;> cases z
    exact ⟨h1, h2, C, dx, h3, h4, h5, by rw [upd_ne ne]; exact h6⟩
theorem KAt.unlock {k : Kd} {p : Addr} {vs : List V} (hu : DicO u) (ha : F a = some (.frz od u)) (h : KAt CM F (RdN F) k p vs) : KAt CM (upd F a u) (RdN (upd F a u)) k p vs := by
  have nl : ∀ {o : HO}, F p = some o → (∀ x, o = .frz x u → False) → p ≠ a := fun e n z => by
    subst z
    rw [ha] at e; cases e
    exact n _ rfl
  have rd : ∀ {o : HO}, DicO o → RdN F p o → RdN (upd F a u) p o := fun {o} hd r => by
    by_cases hp : p = a
    · subst hp
      rcases r with r | ⟨n, u', r⟩
      · rw [ha] at r; cases r
        rcases hd with ⟨_, z⟩ | ⟨_, z⟩ <;> cases z
      · rw [ha] at r; cases r
        exact .inl upd_same
    · rcases r with r | ⟨n, u', r⟩
      · exact .inl (by rw [upd_ne hp]; exact r)
      · exact .inr ⟨n, u', by rw [upd_ne hp]; exact r⟩
  cases k with
  | tup => exact ⟨by rw [upd_ne (nl h.1 fun x z => nomatch z)]; exact h.1, h.2⟩
  | lst o => exact ⟨by rw [upd_ne (nl h.1 fun x z => nomatch z)]; exact h.1, h.2⟩
  | dic o ks =>
    obtain ⟨h1, h2, h3⟩ := h
    refine ⟨h1, h2, ?_⟩
    rcases h3 with ⟨as, e1, r⟩ | ⟨ts, e1, r⟩
    · exact .inl ⟨as, e1, rd (.inl ⟨_, rfl⟩) r⟩
    · exact .inr ⟨ts, e1, rd (.inr ⟨_, rfl⟩) r⟩
  | obj o c ns =>
    obtain ⟨h1, C, dx, h2, h3⟩ := h
    exact ⟨h1, C, dx, h2, by rw [upd_ne (nl h3 fun x z => nomatch z)]; exact h3⟩
  | scr =>
    obtain ⟨⟨o, h1⟩, h2⟩ := h
    have hz : ∀ x, HO.frz o (.lst vs) = .frz x u → False := fun x z => by
      cases z
      rcases hu with ⟨_, z⟩ | ⟨_, z⟩ <;> cases z
    exact ⟨⟨o, by rw [upd_ne (nl h1 hz)]; exact h1⟩, h2⟩
  | xob c ns =>
    obtain ⟨h1, h2, C, dx, h3, h4, h5, h6⟩ := h
    have ne : dx ≠ a := fun z => by
      subst z
      rw [ha] at h6; cases h6
    exact ⟨h1, h2, C, dx, h3, h4, h5, by rw [upd_ne ne]; exact h6⟩
/-- every frozen tree of F is one of F' -/
def Upg (CM : CMap) (F F' : Hp) : Prop := ∀ k p vs, KAt CM F (RdN F) k p vs → KAt CM F' (RdN F') k p vs
mutual
theorem Rep.upg {F' : Hp} (g : Upg CM F F') : ∀ (d : D) (v : V), Rep CM F d v → Rep CM F' d v
  | .non, v, h => h
  | .bl b, v, h => h
  | .int i, v, h => h
  | .str t, v, h => h
  | .nd k ds, v, h => by
    rw [Rep.nd_iff] at h ⊢
    obtain ⟨h1, p, vs, h2, h3, h4⟩ := h
    exact ⟨h1, p, vs, h2, g k p vs h3, Reps.upg g ds vs h4⟩
theorem Reps.upg {F' : Hp} (g : Upg CM F F') : ∀ (ds : List D) (vs : List V), Reps CM F ds vs → Reps CM F' ds vs
  | [], vs, h => h
  | d :: ds, vs, h => by
    rw [Reps.cons_iff] at h ⊢
    obtain ⟨v, r, h1, h2, h3⟩ := h
    exact ⟨v, r, h1, Rep.upg g d v h2, Reps.upg g ds r h3⟩
end
mutual
theorem RepO.upg {F' H' : Hp} (g : Upg CM F F') : ∀ (d : D) (v : V) (fp : List Addr), (∀ p ∈ fp, H' p = H p) → RepO CM F H d v fp → RepO CM F' H' d v fp
  | .non, v, fp, _, h => by unfold RepO at h ⊢; exact h
  | .bl b, v, fp, _, h => by unfold RepO at h ⊢; exact h
  | .int i, v, fp, _, h => by unfold RepO at h ⊢; exact h
  | .str x, v, fp, _, h => by unfold RepO at h ⊢; exact h
  | .nd k ds, v, fp, a, h => by
    rw [RepO.nd_iff] at h ⊢
    by_cases hk : k.own = true
    · rw [if_pos hk] at h ⊢
      obtain ⟨p, vs, fps, h1, h2, h3, rfl⟩ := h
      exact ⟨p, vs, fps, h1, h2.loc hk (a p List.mem_cons_self), RepOs.upg g ds vs fps (fun q hq => a q (List.mem_cons_of_mem _ hq)) h3, rfl⟩
    · rw [if_neg hk] at h ⊢
      exact ⟨Rep.upg g _ _ h.1, h.2⟩
theorem RepOs.upg {F' H' : Hp} (g : Upg CM F F') : ∀ (ds : List D) (vs : List V) (fp : List Addr), (∀ p ∈ fp, H' p = H p) → RepOs CM F H ds vs fp → RepOs CM F' H' ds vs fp
  | [], vs, fp, _, h => by unfold RepOs at h ⊢; exact h
  | d :: ds, vs, fp, a, h => by
    rw [RepOs.cons_iff] at h ⊢
    obtain ⟨v, r, f, g', h1, rfl, h2, h3⟩ := h
    exact ⟨v, r, f, g', h1, rfl, RepO.upg g d v f (fun p hp => a p (List.mem_append_left _ hp)) h2, RepOs.upg g ds r g' (fun p hp => a p (List.mem_append_right _ hp)) h3⟩
end
theorem SRep.upg {F' H' : Hp} (g : Upg CM F F') : ∀ {ρ : Env} {σ : L2.St} {fp : List Addr}, (∀ p ∈ fp, H' p = H p) → SRep CM F H ρ σ fp → SRep CM F' H' ρ σ fp
  | [], _, _, _, h => h
  | o :: ρ, σ, fp, a, h => by
    obtain ⟨x, σ', f, g', h1, rfl, h3, h4⟩ := h
    refine ⟨x, σ', f, g', h1, rfl, ?_, SRep.upg g (fun p hp => a p (List.mem_append_right _ hp)) h4⟩
    cases o with
    | none => exact h3
    | some d =>
      obtain ⟨v, e, r⟩ := h3
      exact ⟨v, e, RepO.upg g d v f (fun p hp => a p (List.mem_append_left _ hp)) r⟩
theorem same_upd (s : Same F H) (o : HO) : Same (upd F a o) (upd H a o) := fun b x e => by
  by_cases h : b = a
  · subst h; rw [upd_same] at e ⊢; exact e
  · rw [upd_ne h] at e ⊢; exact s _ _ e
theorem Sl.lock {ρ : Env} {σ : L2.St} {fp : List Addr} (s : Sl CM F H ρ σ fp) (hu : DicO u) (hne : u ≠ .dK [] ∧ u ≠ .dT []) (ha : F a = some u) : Sl CM (upd F a (.frz od u)) (upd H a (.frz od u)) ρ σ fp := by
  have na : ∀ p ∈ fp, p ≠ a := fun p hp z => by
    have := s.nf p hp
    rw [z, ha] at this; cases this
  exact ⟨s.rep.upg (fun k p vs h => h.lock hu hne ha) fun p hp => upd_ne (na p hp), s.nd, fun p hp => by rw [upd_ne (na p hp)]; exact s.nf p hp, same_upd s.sub _⟩
theorem unlock_ext {F' H' : Hp} (s : Same F H) (ha : F a = some u) (x : Ext (upd F a (.frz od u)) (upd H a (.frz od u)) F' H') : F' a = some (.frz od u) ∧ H' a = some (.frz od u) ∧ Ext F H (upd F' a u) (upd H' a u) := by
  have hF : F' a = some (.frz od u) := x.ff _ _ upd_same
  have hH : H' a = some (.frz od u) := x.hh _ _ upd_same
  refine ⟨hF, hH, fun b o e => ?_, fun b o e => ?_, same_upd x.sub _, fun b o e t n => ?_⟩
  · by_cases h : b = a
    · subst h; rw [upd_same]; rw [s _ _ ha] at e; exact e
    · rw [upd_ne h]; exact x.hh b o (by rw [upd_ne h]; exact e)
  · by_cases h : b = a
    · subst h; rw [upd_same]; rw [ha] at e; exact e
    · rw [upd_ne h]; exact x.ff b o (by rw [upd_ne h]; exact e)
  · have h : b ≠ a := fun z => by rw [z, ha] at n; cases n
    rw [upd_ne h]
    exact x.new b o (by rw [upd_ne h]; exact e) t (by rw [upd_ne h]; exact n)
end
theorem ka_rep {CM : CMap} {F : Hp} {k : Ka} (h : k.ok) : Rep CM F k.d (kaV k) := by
  cases k with
  | i n => exact rep_int
  | s t => exact rep_str h
theorem walkD_keys {CM : CMap} {B F1 : Hp} {a : Addr} {od : Obj} {as : List Ka} {vs : List V} (hB : B a = some (.frz od (.dK ((as.map kaK).zip vs)))) (hl : vs.length = as.length) (ok : ∀ k ∈ as, k.ok) : WalkD CM B F1 (Itk a od ((as.map kaK).zip vs)) ((as.map Ky.a).map Ky.d) := by
  have el : ((as.map Ky.a).map Ky.d).length = as.length := by simp
  have ez : ((as.map kaK).zip vs).length = as.length := by rw [List.length_zip, List.length_map, hl, Nat.min_self]
  refine ⟨fun i H hi k => ⟨k _ _ hB, by rw [ez]; rw [el] at hi; exact hi⟩, fun H k => ⟨k _ _ hB, by rw [ez, el]; exact Nat.le_refl _⟩, fun i H x H' F hi k s sh y => ?_⟩
  obtain ⟨rfl, kk, v, hk, rfl⟩ := y
  rw [el] at hi
  have hk2 : ((as.map kaK).zip vs)[i]? = some (kaK as[i], vs[i]'(by omega)) := by
    rw [List.getElem?_eq_getElem (by rw [ez]; exact hi)]
    simp
  rw [hk] at hk2
  cases hk2
  exact ⟨F, as[i].d, Ext.refl sh, by simp [hi]; rfl, ka_rep (ok _ (List.getElem_mem hi))⟩
/-- td reads the thing that f1 tells, also while a dict is locked -/
def Stab (CM : CMap) (td : TE) (f1 : XP) : Prop := ∀ σ H F ρ fp d, Sl CM F H ρ σ fp → f1 ρ = .val d → ∃ v fv, RepO CM F H d v fv ∧ (∀ R : VK, R v H → td σ H R) ∧ ∀ a od u (R : VK), H a = some u → DicO u → R v (upd H a (.frz od u)) → td σ (upd H a (.frz od u)) R
section
variable {X : Cx} {CM : CMap} {W : WX} {rb : List Nat} {a fa fb fc fk fv : XP} {pos p ap cp : Pos}
theorem stab_var {i : Nat} : Stab CM (tVar i) (bvar i) := fun σ H F ρ fp d s e => by
  unfold bvar at e
  cases h : getE ρ i with
  | none => rw [h] at e; cases e
  | some d' =>
    rw [h] at e; cases e
    obtain ⟨v, f, e1, e2⟩ := s.rep.get (getE_some h)
    exact ⟨v, f, e2, fun R r => ⟨v, e1, r⟩, fun a od u R _ _ r => ⟨v, e1, r⟩⟩
theorem dx_compK {td : TE} {f1 f2 : XP} {g : XG} {t : XB} {f : XP} {elt tg iter : Expr} {ifs : List Expr} {scope : Scope} {own : List (Str × Nat)} (hc : X.calm = true) (hN : X.N.Nodup) (hi1 : PE X iter td) (st : Stab CM td f1) (hi2 : PE X iter (tO CM W f2)) (ok : BlkOk X.N X.env.scope scope own) (gl : gLen g)
    (hg : ∀ (s : Shared) (H : Hp) (C : Addr) (cl : List (Str × Addr)) (fp : List Addr), PG (X.blk s H scope (compEnvC scope cl C X.env) fp) tg (dG CM (own.map (·.2)) g)) (ht : ∀ (s : Shared) (H : Hp) (C : Addr) (cl : List (Str × Addr)) (fp : List Addr), PTs (X.blk s H scope (compEnvC scope cl C X.env) fp) ifs (tT CM W0 t))
    (he : ∀ (s : Shared) (H : Hp) (C : Addr) (cl : List (Str × Addr)) (fp : List Addr), PE (X.blk s H scope (compEnvC scope cl C X.env) fp) elt (tX CM W0 f)) (hs : ∀ x, foldedSetIterable iter X.env x = pure x) :
    PE X (.ListComp elt [⟨tg, iter, ifs, 0⟩] scope pos) (tX CM W (comp (iKv f1 f2) g t f (own.map (·.2)))) :=
  (PE.or (PE.or (pe_lc hc hN (pi_keys hi1) ok hg ht he hs) (pe_lock (pe_lc hc hN (pi_keys hi1) ok hg ht he hs))) (dx_comp hc hN (dic_seq hi2) ok gl hg ht he hs)).weak fun σ H Q ⟨F, ρ, fp, s, q⟩ => by
    by_cases hd : ∃ o ks ds, f1 ρ = .val (.dic o ks ds)
    · obtain ⟨o, ks, ds, e1⟩ := hd
      refine .inl ?_
      unfold comp iKv at q
      rw [e1] at q
      simp only at q
      by_cases hko : o = false ∧ ks.all Ky.isA = true
      · rw [if_pos hko, Res.bind_val] at q
        obtain ⟨rfl, hka⟩ := hko
        obtain ⟨v, fv, r, here, locked⟩ := st σ H F ρ fp _ s e1
        have rr := (RepO.of_fz (d := .dic false ks ds) rfl r).1
        obtain ⟨_, aa, vs, rfl, hk, rs⟩ := Rep.nd_iff.mp rr
        obtain ⟨l1, ⟨l2, okk⟩, h3⟩ := hk
        -- the keys are single ones
        have fin : ∀ as : List Ka, ks = as.map Ky.a → RdN F aa (.dK ((as.map kaK).zip vs)) → (tLc (iKeys td) (dG CM (own.map (·.2)) g) (tT CM W0 t) (tX CM W0 f) (own.map (·.2)) σ H Q ∨ tLockE (tLc (iKeys td) (dG CM (own.map (·.2)) g) (tT CM W0 t) (tX CM W0 f) (own.map (·.2))) σ H Q) := by
          rintro as rfl hr
          have la : vs.length = as.length := by rw [l1, List.length_map]
          have oka : ∀ k ∈ as, k.ok := fun k hk => okk (.a k) (List.mem_map.mpr ⟨k, hk, rfl⟩)
          rcases hr with hr | ⟨hne, od, hr⟩
          · -- not locked
            refine .inr ⟨aa, _, s.sub _ _ hr, trivial, fun od => ?_⟩
            by_cases hne : (HO.dK ((as.map kaK).zip vs)) ≠ .dK [] ∧ (HO.dK ((as.map kaK).zip vs)) ≠ .dT []
            · refine locked aa od _ _ (s.sub _ _ hr) (.inl ⟨_, rfl⟩) ⟨aa, od, rfl, .inl ⟨_, upd_same, ?_⟩⟩
              have sl := s.lock (od := od) (.inl ⟨_, rfl⟩) hne hr
              refine comp_run (W := W0) (Q := fun v H' => H' aa = some (.frz od (.dK ((as.map kaK).zip vs))) ∧ Q v (upd H' aa (.dK ((as.map kaK).zip vs)))) (F := upd F aa (.frz od (.dK ((as.map kaK).zip vs)))) (t := t) (f := f) (vs := own.map (·.2)) sl (Ext.refl sl.sub) (walkD_keys upd_same la oka) gl ?_
              cases ec : compL g t f (wipeE ρ (own.map (·.2))) ((as.map Ky.a).map Ky.d) with
              | bad => rw [ec] at q; exact q.elim
              | exc c ns es => rw [ec] at q; exact q.elim
              | val xs =>
                rw [ec] at q
                simp only [Res.noX_val, Res.bind_val] at q ⊢
                by_cases hz : ((as.map Ky.a).map Ky.d).length ≤ LINE
                · rw [if_pos hz] at q ⊢
                  intro v F' H' g' x r n fr
                  obtain ⟨u1, u2, u3⟩ := unlock_ext s.sub hr x
                  have nag : ∀ p ∈ g', p ≠ aa := fun p hp z => by
                    have := (fr p hp).2
                    rw [z, u1] at this; cases this
                  refine ⟨u2, q v _ _ g' u3 (RepO.upg (fun k p vs h => h.unlock (.inl ⟨_, rfl⟩) u1) _ _ _ (fun p hp => upd_ne (nag p hp)) r) n fun p hp => ⟨?_, ?_⟩⟩
                  · have := (fr p hp).1
                    rw [upd_ne (nag p hp)] at this; exact this
                  · rw [upd_ne (nag p hp)]; exact (fr p hp).2
                · rw [if_neg hz] at q; exact q.elim
            · -- empty
              have he : as = [] := by
                cases as with
                | nil => rfl
                | cons k as =>
                  cases vs with
                  | nil => simp at la
                  | cons v vs => exact absurd ⟨fun z => by simp at z, fun z => by cases z⟩ hne
              subst he
              have hvs : vs = [] := List.length_eq_zero_iff.mp la
              subst hvs
              refine locked aa od _ _ (s.sub _ _ hr) (.inl ⟨_, rfl⟩) ⟨aa, od, rfl, .inl ⟨_, upd_same, fun D0 hD => ?_⟩⟩
              have hDa : D0 ≠ aa := fun z => by rw [z, upd_same] at hD; cases hD
              rw [upd_ne hDa] at hD
              refine ⟨fun i m H' => i = 0 ∧ H' = upd (upd H aa (.frz od (.dK []))) D0 (.lst []), ⟨0, rfl, rfl⟩, ?_⟩
              rintro i m H' ⟨rfl, rfl⟩
              have e5 : upd (upd H aa (.frz od (.dK []))) D0 (.lst []) aa = some (.frz od (.dK [])) := by rw [upd_ne (Ne.symm hDa), upd_same]
              refine .inl ⟨⟨e5, Nat.le_refl _⟩, e5, ?_⟩
              have e6 : upd (upd (upd H aa (.frz od (.dK []))) D0 (.lst [])) aa (.dK []) = upd H D0 (.lst []) := by
                funext b
                by_cases h1 : b = aa
                · subst h1; rw [upd_same, upd_ne (Ne.symm hDa)]; exact (s.sub _ _ hr).symm
                · rw [upd_ne h1]
                  by_cases h2 : b = D0
                  · subst h2; rw [upd_same, upd_same]
                  · rw [upd_ne h2, upd_ne h2, upd_ne h1]
              show Q (.ref D0) (upd (upd (upd H aa (.frz od (.dK []))) D0 (.lst [])) aa (.dK []))
              rw [e6]
              have q' : RX CM W σ F H Q (.val (.lst true [])) := q
              refine q' _ F _ [D0] (Ext.own s.sub hD) ?_ (by simp) fun b hb => ?_
              · exact ro_newLst hD (RepOs.nil_iff.mpr ⟨rfl, rfl⟩) (Nat.zero_le _)
              · rw [List.mem_singleton.mp hb]
                exact ⟨hD, s.sub.free hD⟩
          · -- locked already
            refine .inl (here _ ⟨aa, od, rfl, .inl ⟨_, s.sub _ _ hr, ?_⟩⟩)
            exact comp_run s (Ext.refl s.sub) (walkD_keys (s.sub _ _ hr) la oka) gl q
        rcases h3 with ⟨as, eks, hr⟩ | ⟨ts, eks, hr⟩
        · exact fin as eks hr
        · cases ts with
          | cons t ts => rw [eks] at hka; simp [Ky.isA] at hka
          | nil =>
            subst eks
            have hvs : vs = [] := List.length_eq_zero_iff.mp l1
            subst hvs
            have hr' : F aa = some (.dT []) := by
              rcases hr with hr | ⟨n, _⟩
              · exact hr
              · exact absurd rfl n.2
            refine .inr ⟨aa, _, s.sub _ _ hr', trivial, fun od => locked aa od _ _ (s.sub _ _ hr') (.inr ⟨_, rfl⟩) ⟨aa, od, rfl, .inr ⟨_, upd_same, fun D0 hD => ?_⟩⟩⟩
            have hDa : D0 ≠ aa := fun z => by rw [z, upd_same] at hD; cases hD
            rw [upd_ne hDa] at hD
            refine ⟨fun i m H' => i = 0 ∧ H' = upd (upd H aa (.frz od (.dT []))) D0 (.lst []), ⟨0, rfl, rfl⟩, ?_⟩
            rintro i m H' ⟨rfl, rfl⟩
            have e5 : upd (upd H aa (.frz od (.dT []))) D0 (.lst []) aa = some (.frz od (.dT [])) := by rw [upd_ne (Ne.symm hDa), upd_same]
            refine .inl ⟨⟨e5, Nat.le_refl _⟩, e5, ?_⟩
            have e6 : upd (upd (upd H aa (.frz od (.dT []))) D0 (.lst [])) aa (.dT []) = upd H D0 (.lst []) := by
              funext b
              by_cases h1 : b = aa
              · subst h1; rw [upd_same, upd_ne (Ne.symm hDa)]; exact (s.sub _ _ hr').symm
              · rw [upd_ne h1]
                by_cases h2 : b = D0
                · subst h2; rw [upd_same, upd_same]
                · rw [upd_ne h2, upd_ne h2, upd_ne h1]
            show Q (.ref D0) (upd (upd (upd H aa (.frz od (.dT []))) D0 (.lst [])) aa (.dT []))
            rw [e6]
            have q' : RX CM W σ F H Q (.val (.lst true [])) := q
            refine q' _ F _ [D0] (Ext.own s.sub hD) ?_ (by simp) fun b hb => ?_
            · exact ro_newLst hD (RepOs.nil_iff.mpr ⟨rfl, rfl⟩) (Nat.zero_le _)
            · rw [List.mem_singleton.mp hb]
              exact ⟨hD, s.sub.free hD⟩
      · rw [if_neg hko] at q; exact q.elim
    · refine .inr ⟨F, ρ, fp, s, ?_⟩
      have e2 : iKv f1 f2 ρ = iSeq f2 ρ := by
        unfold iKv
        split
        · rename_i o ks ds e; exact absurd ⟨o, ks, ds, e⟩ hd
        · rfl
      unfold comp at q ⊢
      rw [e2] at q
      exact q
end
end Lc
end
section
set_option linter.all false
namespace Lc
open PySem L2
theorem stx_itx (i : Int) : stx (itx i) = Str.ofString (toString i) := rfl
section
variable {X : Cx} {CM : CMap} {W : WX} {pos : Pos}
/-- a part of an f-string -/
inductive FsP (CM : CMap) (W : WX) (X : Cx) : Expr → XP → TE → Prop
  | lit {e : Expr} {t : Tx} {te : TE} (h : PE X e te) (ok : TxOk t) (hw : ∀ σ H (Q : VK), Q (.str (stx t)) H → te σ H Q) : FsP CM W X e (cst (.str t)) te
  | val {e : Expr} {f : XP} {p : Pos} (h : PE X e (tO CM W f)) : FsP CM W X (.FormattedValue e (-1) none p) f (tFmt (tO CM W f))
inductive FsPs (CM : CMap) (W : WX) (X : Cx) : List Expr → List XP → List TE → Prop
  | nil : FsPs CM W X [] [] []
  | cons {e es f fs t ts} (h : FsP CM W X e f t) (hs : FsPs CM W X es fs ts) : FsPs CM W X (e :: es) (f :: fs) (t :: ts)
theorem FsPs.pj {es fs ts} (h : FsPs CM W X es fs ts) : PJ X es ts := by
  induction h with
  | nil => exact .nil
  | cons h _ ih =>
    cases h with
    | lit h _ _ => exact .cons h ih
    | val h => exact .cons (pe_fmt h) ih
theorem txOk_app {a b : Tx} (ha : TxOk a) (hb : TxOk b) (h : a.length + b.length ≤ LINE) : TxOk (a ++ b) :=
  ⟨by rw [List.length_append]; exact h, fun c hc => (List.mem_append.mp hc).elim (ha.2 c) (hb.2 c)⟩
theorem fmt_ok {d : D} {t : Tx} {v : V} {F H : Hp} {g : List Addr} (h : D.fmt d = some t) (r : RepO CM F H d v g) : TxOk t ∧ (v = .str (stx t) ∨ ∃ i, v = .int i ∧ i.natAbs.log2 < 1920 ∧ Str.ofString (toString i) = stx t) := by
  unfold D.fmt at h
  split at h
  · cases h
    obtain ⟨rfl, ok⟩ := ro_str r
    exact ⟨ok, .inl rfl⟩
  · split at h
    · rename_i i hi
      cases h
      have := ro_int r
      exact ⟨⟨Nat.le_trans hi.2.1 (by decide), hi.2.2⟩, .inr ⟨i, this, hi.1, rfl⟩⟩
    · cases h
  · cases h
theorem js_run {es fs ts} (h : FsPs CM W X es fs ts) : ∀ {out : Tx} {σ : L2.St} {F H : Hp} {ρ : Env} {fp : List Addr} {Q : VK}, TxOk out → Sl CM F H ρ σ fp → RX CM W σ F H Q (fsJ fs out ρ) → tJs ts (stx out) σ H fun o H1 => Q (.str o) H1 := by
  induction h with
  | nil =>
    intro out σ F H ρ fp Q ok s q
    rw [tJs.eq_1]
    exact (rx_v q).str s.sub ok
  | @cons e0 es0 f0 fs0 te0 ts0 h hs ih =>
    intro out σ F H ρ fp Q ok s q
    rw [tJs.eq_2]
    have step : ∀ {t : Tx} {d : D} {F1 H1 : Hp}, D.fmt d = some t → TxOk t → Ext F H F1 H1 → RX CM W σ F1 H1 Q (match D.fmt d with
        | some t => if out.length + t.length ≤ LINE then fsJ fs0 (out ++ t) ρ else .bad
        | none => .bad) → (stx out ++ stx t).length ≤ sizeLine ∧ tJs ts0 (stx out ++ stx t) σ H1 fun o H1 => Q (.str o) H1 := by
      intro t d F1 H1 hd okt x q1
      rw [hd] at q1
      simp only at q1
      split at q1
      · rename_i hz
        have e : stx out ++ stx t = stx (out ++ t) := (stx_app out t).symm
        rw [e]
        exact ⟨by rw [stx_len, List.length_append, ← LINE_eq]; exact hz, ih (txOk_app ok okt hz) (s.ext x) q1⟩
      · exact q1.elim
    cases h with
    | lit h okt hw =>
      exact hw _ _ _ ⟨_, rfl, step (d := .str _) rfl okt (Ext.refl s.sub) q⟩
    | val h =>
      refine ⟨F, ρ, fp, s, RO.then_ q fun d v F1 H1 g1 e1 x1 r1 q1 => ?_⟩
      cases hd : D.fmt d with
      | none => rw [hd] at q1; exact q1.elim
      | some t =>
        obtain ⟨okt, hv⟩ := fmt_ok hd r1
        have st := step hd okt x1 q1
        rcases hv with rfl | ⟨i, rfl, hi, ei⟩
        · exact .inl ⟨stx t, rfl, by rw [stx_len, ← LINE_eq]; exact okt.1, stx t, rfl, st⟩
        · exact .inr ⟨i, rfl, hi, _, rfl, by rw [ei]; exact st⟩
theorem dx_fstr {e1 e2 : Expr} {es fs ts} (h : FsPs CM W X (e1 :: e2 :: es) fs ts) : PE X (.JoinedStr (e1 :: e2 :: es) pos) (tX CM W (fsJ fs [])) :=
  match ts, h with
  | _, h => (pe_joined h.pj).weak fun σ H Q ⟨F, ρ, fp, s, q⟩ => js_run h ⟨Nat.zero_le _, fun c z => nomatch z⟩ s q
end
end Lc
end
section
/-! The translator: from a def's text to its plain function. -/
namespace Lc
open PySem
structure FunE where
  npos : Nat
  ks : List Str
  fn : List D → Res D
structure MetE where
  cn : String
  mn : String
  npos : Nat
  ks : List Str
  fn : List D → Res D
/-- an own operator of two objects, or of a text in an object -/
structure OwnE where
  cn : String
  mn : String
  fn : List D → Res D
/-- own exceptions: the classes that are known, their fields; by global names: what raise makes, what isinstance and except ask; defs that are called within a suite -/
structure XD where
  all : List String := []
  fl : List String := []
  exs : List (Str × (String × Nat × List String)) := []
  xi : List (Str × List String) := []
  xh : List (Str × List String) := []
  hfn : List (Str × FunE) := []
structure Tb where
  con : List (Str × D)
  blt : List Str
  fns : List (Str × FunE) := []
  mts : List (Str × MetE) := []
  prp : Props := []
  own : List OwnE := []
  /-- own classes that isinstance may name -/
  iso : List (Str × String) := []
  xd : XD := {}
def Tb.fn? (tb : Tb) (x : Str) (n : Nat) (ks : Option (List Str)) : Option FunE := (tb.fns.find? fun e => e.1 == x && e.2.npos == n && decide (ks = some e.2.ks)).map (·.2)
def Tb.mt? (tb : Tb) (x : Str) (n : Nat) (ks : Option (List Str)) : Option MetE := (tb.mts.find? fun e => e.1 == x && e.2.npos == n && decide (ks = some e.2.ks)).map (·.2)
theorem Tb.fn_ok {tb : Tb} {x : Str} {n : Nat} {ks : Option (List Str)} {e : FunE} (h : tb.fn? x n ks = some e) : (x, e) ∈ tb.fns ∧ n = e.npos ∧ ks = some e.ks := by
  unfold Tb.fn? at h
  obtain ⟨⟨y, e'⟩, h1, rfl⟩ := Option.map_eq_some_iff.mp h
  have h2 := List.find?_some h1
  have h3 := List.mem_of_find?_eq_some h1
  simp only [Bool.and_eq_true, beq_iff_eq, decide_eq_true_eq] at h2
  obtain ⟨⟨a, b⟩, c⟩ := h2
  subst a
  exact ⟨h3, b.symm, c⟩
def XD.hfn? (tb : XD) (x : Str) (n : Nat) : Option FunE := (tb.hfn.find? fun e => e.1 == x && e.2.npos == n && decide (e.2.ks = [])).map (·.2)
theorem XD.hfn_ok {tb : XD} {x : Str} {n : Nat} {e : FunE} (h : tb.hfn? x n = some e) : (x, e) ∈ tb.hfn ∧ n = e.npos ∧ e.ks = [] := by
  unfold XD.hfn? at h
  obtain ⟨⟨y, e'⟩, h1, rfl⟩ := Option.map_eq_some_iff.mp h
  have h2 := List.find?_some h1
  have h3 := List.mem_of_find?_eq_some h1
  simp only [Bool.and_eq_true, beq_iff_eq, decide_eq_true_eq] at h2
  obtain ⟨⟨a, b⟩, c⟩ := h2
  subst a
  exact ⟨h3, b.symm, c⟩
theorem Tb.mt_ok {tb : Tb} {x : Str} {n : Nat} {ks : Option (List Str)} {e : MetE} (h : tb.mt? x n ks = some e) : (x, e) ∈ tb.mts ∧ n = e.npos ∧ ks = some e.ks := by
  unfold Tb.mt? at h
  obtain ⟨⟨y, e'⟩, h1, rfl⟩ := Option.map_eq_some_iff.mp h
  have h2 := List.find?_some h1
  have h3 := List.mem_of_find?_eq_some h1
  simp only [Bool.and_eq_true, beq_iff_eq, decide_eq_true_eq] at h2
  obtain ⟨⟨a, b⟩, c⟩ := h2
  subst a
  exact ⟨h3, b.symm, c⟩
def Tb.own? (tb : Tb) (m : String) : Option OwnE := tb.own.find? fun e => e.mn == m
theorem Tb.own_ok {tb : Tb} {m : String} {e : OwnE} (h : tb.own? m = some e) : e ∈ tb.own ∧ e.mn = m := by
  unfold Tb.own? at h
  have h2 := List.find?_some h
  exact ⟨List.mem_of_find?_eq_some h, by simpa using h2⟩
/-- d in e, e an object of the class c -/
def inD (c : String) (f : List D → Res D) (d e : D) : Option Bool := if e.isObj c && e.fz && d.fz then (match f [e, d] with
  | .val (.bl r) => some r
  | _ => none) else none
def ninD (c : String) (f : List D → Res D) (d e : D) : Option Bool := (inD c f d e).map (!·)
/-- d op e, both objects of the class c -/
def own2 (c : String) (f : List D → Res D) (d e : D) : Option D := if d.isObj c && e.isObj c && d.fz && e.fz then (match f [d, e] with
  | .val r => some r
  | _ => none) else none
/-- .. whatever comes of it -/
def own2R (c : String) (f : List D → Res D) (d e : D) : Res D := if d.isObj c && e.isObj c && d.fz && e.fz then f [d, e] else .bad
def bnR (g : D → D → Res D) (a b : XP) : XP := fun ρ => (a ρ).bind fun d => (b ρ).bind fun e => g d e
/-- x[k] as an argument: an item of a list is lent with it -/
def bwi (i : Nat) (k : Int) : XP := fun ρ => match getE ρ i with
  | some (.nd (.lst _) ds) => .ofO (atI ds k)
  | some d => (Res.ofO (D.idx d (.int k))).bind leak
  | none => .bad
def cmp2 (c : String) (f : List D → Res D) (d e : D) : Option Bool := if d.isObj c && e.isObj c && d.fz && e.fz then (match f [d, e] with
  | .val (.bl r) => some r
  | _ => none) else none
structure TC where
  sc : Scope
  N : List Str
  tb : Tb
  /-- the class whose method it is -/
  cls : String
  /-- names that stand for own objects -/
  ob : List Str
def visS (sc : Scope) (x : Str) : Bool := match sc.names.lookup x with
  | some .local => true
  | some .cell => true
  | some .free => true
  | _ => false
def lclS (sc : Scope) (x : Str) : Bool := match sc.names.lookup x with
  | some .local => true
  | _ => false
def celS (sc : Scope) (x : Str) : Bool := match sc.names.lookup x with
  | some .cell => true
  | _ => false
def gloS (sc : Scope) (x : Str) : Bool := match sc.names.lookup x with
  | some .globalImplicit => true
  | _ => false
def plainName (x : Str) : Bool := !(x == ("__debug__" : Str)) && !(x == ("__classdict__" : Str)) && !(x == ("__name__" : Str))
def idx (x : Str) : List Str → Nat → Option Nat
  | [], _ => none
  | y :: ys, k => if y = x then some k else idx x ys (k + 1)
/-- the slot of a name that is seen here -/
def TC.slot (c : TC) (x : Str) : Option Nat := if visS c.sc x && plainName x then idx x c.N 0 else none
def TC.lslot (c : TC) (x : Str) : Option Nat := if lclS c.sc x && plainName x then idx x c.N 0 else none
/-- a slot of this block's own -/
def TC.oslot (c : TC) (x : Str) : Option Nat := if (lclS c.sc x || celS c.sc x) && plainName x then idx x c.N 0 else none
def TC.glo (c : TC) (x : Str) : Bool := gloS c.sc x && plainName x
def xE (r : Bool × XP) : XP := if r.1 then r.2 else lk r.2
def okTx (t : Tx) : Bool := decide (t.length ≤ LINE) && t.all (· < 1114112)
def trC : Const → Option (Bool × XP)
  | .none => some (true, cst .non)
  | .bool b => some (true, cst (.bl b))
  | .int i => some (true, cst (.int i))
  | .str s => if okTx s.cps.toList then some (true, cst (.str s.cps.toList)) else none
  | _ => none
def trN (c : TC) (x : Str) : Option (Bool × XP) := match c.slot x with
  | some i => some (false, bvar i)
  | none => if c.glo x then (match c.tb.con.lookup x with
    | some d => some (true, cst d)
    | none => none) else none
def opG : Operator → Option (D → D → Option D)
  | .Add => some D.add
  | .Sub => some D.sub
  | .Mult => some D.mul
  | .FloorDiv => some D.fdiv
  | .Mod => some D.mod
  | .Pow => some D.pow
  | _ => none
def cmpG : CmpOp → Option (D → D → Option Bool)
  | .Eq => some D.eq
  | .NotEq => some D.ne
  | .Lt => some D.lt
  | .LtE => some D.le
  | .Gt => some D.gt
  | .GtE => some D.ge
  | .In => some D.isIn
  | .NotIn => some D.notIn
  | _ => none
/-- built-in functions of one value -/
inductive B1 where
  | len | int | str | list | tuple | sum | max | min | abs | any | sorted
def b1 (x : Str) : Option B1 :=
  if x = ("len" : Str) then some .len else if x = ("int" : Str) then some .int else if x = ("str" : Str) then some .str else if x = ("list" : Str) then some .list else
  if x = ("tuple" : Str) then some .tuple else if x = ("sum" : Str) then some .sum else if x = ("max" : Str) then some .max else if x = ("min" : Str) then some .min else
  if x = ("abs" : Str) then some .abs else if x = ("any" : Str) then some .any else if x = ("sorted" : Str) then some .sorted else none
def B1.g : B1 → D → Option D
  | .len => D.len
  | .int => D.toInt
  | .str => D.toStr
  | .list => D.toList
  | .tuple => D.toTup
  | .sum => D.sum
  | .max => D.max1
  | .min => D.min1
  | .abs => D.abs
  | .any => D.any
  | .sorted => D.sorted
/-- built-in classes -/
def bty (x : Str) : Option String :=
  if x = ("int" : Str) then some "int" else if x = ("bool" : Str) then some "bool" else if x = ("str" : Str) then some "str" else if x = ("tuple" : Str) then some "tuple" else if x = ("list" : Str) then some "list" else none
def TC.isB (c : TC) (x : Str) : Bool := c.glo x && c.tb.blt.contains x
def TC.fld (c : TC) (m : Str) : Option String := (c.tb.prp.find? fun e => Str.ofString e.2.1 == m).map (·.2.1)
def isNone : Expr → Bool
  | .Constant .none _ _ => true
  | _ => false
def kwNames : List Keyword → Option (List Str)
  | [] => some []
  | ⟨some n, _, _⟩ :: r => (kwNames r).map (n :: ·)
  | _ => none
/-- a block's own names with their slots -/
def ownOf (N : List Str) : List (Str × NameKind) → List (Str × Nat)
  | [] => []
  | (x, k) :: r => (match k with
    | .local => (match idx x N 0 with | some i => [(x, i)] | none => [])
    | .cell => (match idx x N 0 with | some i => [(x, i)] | none => [])
    | _ => []) ++ ownOf N r
def blkS (N : List Str) (sc scope : Scope) (own : List (Str × Nat)) : Bool :=
  (match scope.kind with | .function => true | _ => false) && (scope.names.all fun y => decide (scope.names.lookup y.1 = some y.2)) && (own.all fun p => decide (N[p.2]? = some p.1)) &&
    (scope.names.all fun y => match y.2 with
      | .free => (match sc.names.lookup y.1 with | some .cell => true | some .free => true | _ => false)
      | .local => decide (y.1 ∈ own.map (·.1)) || decide (y.1 ∉ N)
      | .cell => decide (y.1 ∈ own.map (·.1)) || decide (y.1 ∉ N)
      | _ => true)
/-- an own object by its looks -/
def isOb : Nat → TC → Expr → Bool
  | 0, _, _ => false
  | _, c, .Name x _ => c.ob.contains x
  | _, c, .Call (.Name x _) _ _ _ => c.ob.contains x
  | n + 1, c, .BinOp a .BitOr _ _ => isOb n c a
  | n + 1, c, .BinOp a .BitAnd _ _ => isOb n c a
  | n + 1, c, .BinOp a .Sub _ _ => isOb n c a
  | _, _, _ => false
/-- d == e, d an object of the class c, e any value of which isinstance may be asked -/
def eqA (c : String) (f : List D → Res D) (d e : D) : Option Bool := if d.isObj c && (D.isOw c e).isSome && d.fz && e.fz then (match f [d, e] with
  | .val (.bl r) => some r
  | _ => none) else none
def neA (c : String) (f : List D → Res D) (d e : D) : Option Bool := (eqA c f d e).map (!·)
def Tb.isoOf (tb : Tb) (cn : String) : Bool := match tb.iso.find? (fun p => p.2 == cn) with
  | some p => decide (tb.iso.lookup p.1 = some cn)
  | none => false
theorem Tb.isoOf_ok {tb : Tb} {cn : String} (h : tb.isoOf cn = true) : ∃ x, tb.iso.lookup x = some cn := by
  unfold Tb.isoOf at h
  split at h
  · exact ⟨_, of_decide_eq_true h⟩
  · cases h
/-- is, is not of bools -/
def isBD (d e : D) : Option Bool := match d, e with
  | .bl a, .bl b => some (decide (a = b))
  | _, _ => none
def isntBD (d e : D) : Option Bool := match d, e with
  | .bl a, .bl b => some (!decide (a = b))
  | _, _ => none
/-- a comparison -/
def cmpX (c : TC) (op : CmpOp) (a b : Expr) : Option (D → D → Option Bool) := match op with
  | .In => if isOb 9 c b then (c.tb.own? "__contains__").map fun e => inD e.cn e.fn else some D.isIn
  | .NotIn => if isOb 9 c b then (c.tb.own? "__contains__").map fun e => ninD e.cn e.fn else some D.notIn
  | .LtE => if isOb 9 c a then (c.tb.own? "__le__").map fun e => cmp2 e.cn e.fn else some D.le
  | .Eq => if isOb 9 c a then (c.tb.own? "__eq__").bind fun e => if c.tb.isoOf e.cn then some (eqA e.cn e.fn) else none else some D.eq
  | .NotEq => if isOb 9 c a then (c.tb.own? "__eq__").bind fun e => if c.tb.isoOf e.cn then some (neA e.cn e.fn) else none else some D.ne
  | .Is => some isBD
  | .IsNot => some isntBD
  | op => cmpG op
def opX (c : TC) (op : Operator) (a : Expr) : Option (D → D → Option D) := match op with
  | .BitOr => none
  | .BitAnd => none
  | op => opG op
/-- an own operator -/
def opO (c : TC) (op : Operator) (a : Expr) : Option OwnE := match op with
  | .BitOr => c.tb.own? "__or__"
  | .BitAnd => c.tb.own? "__and__"
  | .Sub => if isOb 9 c a then c.tb.own? "__sub__" else none
  | _ => none
end Lc
end
section
set_option linter.all false
namespace Lc
open PySem
def isSt0 : Expr → Bool
  | .Starred _ _ => true
  | _ => false
def sliceish : Expr → Bool
  | .Slice _ _ _ _ => true
  | _ => false
def notSuper0 : Expr → Bool
  | .Call (.Name _ _) [] [] _ => false
  | _ => true
def marks (op : CmpOp) : Expr → Bool
  | .Set _ _ _ => true
  | _ => false
def isNeg1 : Expr → Bool
  | .UnaryOp .USub (.Constant (.int i) _ _) _ => i == 1
  | _ => false
mutual
def trE : Nat → TC → Expr → Option (Bool × XP)
  | 0, _, _ => none
  | n + 1, c, .Constant k _ _ => trC k
  | n + 1, c, .Name x _ => trN c x
  | n + 1, c, .BinOp a op b _ => (match trE n c a, trE n c b, opO c op a, opX c op a with
    | some a, some b, some e, _ => some (true, bnR (own2R e.cn e.fn) a.2 b.2)
    | some a, some b, none, some g => some (true, bn g a.2 b.2)
    | _, _, _, _ => none)
  | n + 1, c, .UnaryOp .USub a _ => (match trE n c a with
    | some a => some (true, un D.neg a.2)
    | none => none)
  | n + 1, c, .UnaryOp .Not a _ => (match trE n c a with
    | some a => some (true, un vnot a.2)
    | none => none)
  | n + 1, c, .BoolOp op vs _ => (match trV n c op vs with
    | some f => some (true, f)
    | none => none)
  | n + 1, c, .Compare a ops bs _ => (match trQ n c a ops bs with
    | some f => some (true, f)
    | none => none)
  | n + 1, c, .IfExp t a b _ => (match trT n c t, trE n c a, trE n c b with
    | some t, some a, some b => some (true, iff t (xE a) (xE b))
    | _, _, _ => none)
  | n + 1, c, .Tuple es _ _ => (match trL n c es with
    | some l => some (true, mtup l)
    | none => none)
  | n + 1, c, .List es _ => (match trL n c es with
    | some l => some (true, mlst l)
    | none => none)
  | n + 1, c, .Dict [] [] _ => some (true, mdic)
  | n + 1, c, .Subscript a i _ => trU n c a i
  | n + 1, c, .Attribute o m _ => (match trR n c o, c.fld m with
    | some f, some s => if notSuper0 o then some (false, attr c.tb.prp s f) else none
    | _, _ => none)
  | n + 1, c, .Call f as ks pos => trF n c f as ks pos
  | n + 1, c, .ListComp elt gs scope _ => (match trH n c true elt gs scope with
    | some f => some (true, f)
    | none => none)
  | n + 1, c, .JoinedStr vs _ => (match trFs n c vs with
    | some fs => if 2 ≤ vs.length then some (true, fsJ fs []) else none
    | none => none)
  | _, _, _ => none
/-- the parts of an f-string -/
def trFs : Nat → TC → List Expr → Option (List XP)
  | 0, _, _ => none
  | n + 1, c, [] => some []
  | n + 1, c, .Constant (.str s) _ _ :: es => if okTx s.cps.toList then (match trFs n c es with
    | some fs => some (cst (.str s.cps.toList) :: fs)
    | none => none) else none
  | n + 1, c, .FormattedValue e cv none _ :: es => if cv = -1 then (match trE n c e, trFs n c es with
    | some f, some fs => some (f.2 :: fs)
    | _, _ => none) else none
  | _, _, _ => none
/-- and, or as a value -/
def trV : Nat → TC → BoolOp → List Expr → Option XP
  | 0, _, _, _ => none
  | n + 1, c, op, [a] => (match trE n c a with
    | some a => some (xE a)
    | none => none)
  | n + 1, c, op, a :: b :: r => (match trE n c a, trV n c op (b :: r) with
    | some a, some f => some (match op with | .And => vand a.2 f | .Or => vor a.2 f)
    | _, _ => none)
  | _, _, _, _ => none
/-- a comparison as a value -/
def trQ : Nat → TC → Expr → List CmpOp → List Expr → Option XP
  | 0, _, _, _, _ => none
  | n + 1, c, a0, [op], [b] => (match trE n c a0 with
    | some a => if isNone b then (match op with
        | .Is => some (un (fun d => some (.bl d.isN)) a.2)
        | .IsNot => some (un (fun d => some (.bl (!d.isN))) a.2)
        | _ => none) else (match trE n c b, cmpX c op a0 b with
      | some b', some g => if marks op b then none else some (bn (fun d e => (g d e).map .bl) a.2 b'.2)
      | _, _ => none)
    | none => none)
  | n + 1, c, a, [op, op'], [b, d] => (match trE n c a, trE n c b, trE n c d, cmpG op, cmpG op' with
    | some a, some b', some d', some g, some h => if marks op' d then none else some (ofB (tchn g h a.2 b'.2 d'.2))
    | _, _, _, _, _ => none)
  | _, _, _, _, _ => none
/-- subscripts -/
def trU : Nat → TC → Expr → Expr → Option (Bool × XP)
  | 0, _, _, _ => none
  | n + 1, c, a, .Slice lo hi none _ => (match trE n c a, trP n c lo, trP n c hi with
    | some a, some l, some h => some (true, sli a.2 l h)
    | _, _, _ => none)
  | n + 1, c, a, .Slice none none (some s) _ => if isNeg1 s then (match trE n c a with
    | some a => some (true, un D.rev a.2)
    | none => none) else none
  | n + 1, c, a, .Slice _ _ _ _ => none
  | n + 1, c, a, i => (match trE n c a, trE n c i with
    | some a, some i => some (false, bn D.idx a.2 i.2)
    | _, _ => none)
/-- a part of a slice -/
def trP : Nat → TC → Option Expr → Option (Env → Res (Option Int))
  | 0, _, _ => none
  | n + 1, c, none => some pno
  | n + 1, c, some e => (match trE n c e with
    | some f => some (pso f.2)
    | none => none)
/-- calls -/
def trF : Nat → TC → Expr → List Expr → List Keyword → Pos → Option (Bool × XP)
  | 0, _, _, _, _, _ => none
  | n + 1, c, .Name x _, as, ks, pos => if c.isB x then (match as, ks with
      | [a], [] => (match trE n c a, b1 x with
        | some f, some b => some (true, un b.g f.2)
        | _, _ => none)
      | [a, b], [] => if x = ("max" : Str) then (match trE n c a, trE n c b with
          | some f, some g => some (true, bn D.max2 f.2 g.2)
          | _, _ => none) else if x = ("isinstance" : Str) then (match trE n c a, b with
          | some f, .Name T _ => (match bty T with
            | some t => if c.isB T then some (true, un (fun d => (D.isTy d t).map .bl) f.2) else none
            | none => if c.glo T then (match c.tb.iso.lookup T with
              | some cn => some (true, un (fun d => (D.isOw cn d).map .bl) f.2)
              | none => none) else none)
          | _, _ => none) else none
      | _, _ => none) else if c.glo x then (match c.tb.fn? x as.length (kwNames ks), trW n c as, trK n c ks with
      | some e, some l, some lk => some (true, call e.fn l lk)
      | _, _, _ => none) else none
  | n + 1, c, .Attribute o m ap, as, ks, pos => if (ap.endLine == pos.line) && notSuper0 o then (match as, ks with
      | [], [] => if m = ("lower" : Str) then (match trE n c o with
          | some f => some (true, unS D.lower f.2)
          | _ => none) else trM n c o m as ks
      | [b], [] => if m = ("join" : Str) then (match trE n c o, trE n c b with
          | some f, some g => some (true, bnS D.join f.2 g.2)
          | _, _ => none) else trM n c o m as ks
      | [b, d], [] => if m = ("get" : Str) then (match trE n c o, trE n c b, trE n c d with
          | some f, some g, some h => some (true, dgetX f.2 g.2 h.2)
          | _, _, _ => none) else trM n c o m as ks
      | _, _ => trM n c o m as ks) else none
  | _, _, _, _, _, _ => none
/-- own methods -/
def trM : Nat → TC → Expr → Str → List Expr → List Keyword → Option (Bool × XP)
  | 0, _, _, _, _, _ => none
  | n + 1, c, o, m, as, ks => (match c.tb.mt? m as.length (kwNames ks), trR n c o, trW n c as, trK n c ks with
    | some e, some f, some l, some lk => if as.length + ks.length < 29 ∧ m = Str.ofString e.mn then some (true, meth e.cn e.mn e.fn f l lk) else none
    | _, _, _, _ => none)
def trT : Nat → TC → Expr → Option XB
  | 0, _, _ => none
  | n + 1, c, .UnaryOp .Not a _ => (match trT n c a with
    | some t => some (tnt t)
    | none => none)
  | n + 1, c, .BoolOp op vs _ => trB n c op vs
  | n + 1, c, .Compare a ops bs _ => trD n c a ops bs
  | n + 1, c, .IfExp _ _ _ _ => none
  | n + 1, c, e => (match trE n c e with
    | some f => some (tun D.truth f.2)
    | none => none)
def trB : Nat → TC → BoolOp → List Expr → Option XB
  | 0, _, _, _ => none
  | n + 1, c, op, [a] => trT n c a
  | n + 1, c, op, a :: b :: r => (match trT n c a, trB n c op (b :: r) with
    | some t, some u => some (match op with | .And => tnd t u | .Or => tor t u)
    | _, _ => none)
  | _, _, _, _ => none
def trD : Nat → TC → Expr → List CmpOp → List Expr → Option XB
  | 0, _, _, _, _ => none
  | n + 1, c, a0, [op], [b] => (match trE n c a0 with
    | some a => if isNone b then (match op with
        | .Is => some (tun (fun d => some d.isN) a.2)
        | .IsNot => some (tun (fun d => some (!d.isN)) a.2)
        | _ => none) else (match trE n c b, cmpX c op a0 b with
      | some b', some g => if marks op b then none else some (tbn g a.2 b'.2)
      | _, _ => none)
    | none => none)
  | n + 1, c, a, [op, op'], [b, d] => (match trE n c a, trE n c b, trE n c d, cmpG op, cmpG op' with
    | some a, some b', some d', some g, some h => if marks op' d then none else some (tchn g h a.2 b'.2 d'.2)
    | _, _, _, _, _ => none)
  | _, _, _, _, _ => none
/-- kept values -/
def trL : Nat → TC → List Expr → Option XL
  | 0, _, _ => none
  | n + 1, c, [] => some lnil
  | n + 1, c, a :: r => if isSt0 a then none else (match trE n c a, trL n c r with
    | some f, some l => some (lcons (xE f) l)
    | _, _ => none)
/-- a receiver, an argument: it is lent -/
def trR : Nat → TC → Expr → Option XP
  | 0, _, _ => none
  | n + 1, c, e => (match e with
    | .Name x _ => (match c.slot x with
      | some i => some (bvar i)
      | none => (match trE n c e with
        | some f => some (xE f)
        | none => none))
    | .Subscript (.Name x _) (.Constant (.int k) _ _) _ => (match c.slot x with
      | some i => some (bwi i k)
      | none => (match trE n c e with
        | some f => some (xE f)
        | none => none))
    | _ => (match trE n c e with
      | some f => some (xE f)
      | none => none))
def trW : Nat → TC → List Expr → Option XL
  | 0, _, _ => none
  | n + 1, c, [] => some lnil
  | n + 1, c, a :: r => if isSt0 a then none else (match trR n c a, trW n c r with
    | some f, some l => some (lcons f l)
    | _, _ => none)
def trK : Nat → TC → List Keyword → Option XL
  | 0, _, _ => none
  | n + 1, c, [] => some lnil
  | n + 1, c, ⟨_, a, _⟩ :: r => (match trR n c a, trK n c r with
    | some f, some l => some (lcons f l)
    | _, _ => none)
/-- a display with a text or list turned round in it -/
def isRv : Expr → Bool
  | .Subscript _ (.Slice none none (some _) _) _ => true
  | .List _ _ => true
  | .Call (.Name x _) _ _ _ => decide (x = ("list" : Str))
  | _ => false
/-- what a loop walks -/
def trI : Nat → TC → Expr → Option XI2
  | 0, _, _ => none
  | n + 1, c, .Call (.Name x p) as ks pos => if x = ("range" : Str) then (if c.isB x then (match as, ks with
      | [a], [] => (match trE n c a with
        | some f => some (iRg1 f.2)
        | none => none)
      | [a, b], [] => (match trE n c a, trE n c b with
        | some f, some g => some (iRg2 f.2 g.2)
        | _, _ => none)
      | [a, b, d], [] => if isNeg1 d then (match trE n c a, trE n c b with
        | some f, some g => some (iRgD f.2 g.2)
        | _, _ => none) else none
      | _, _ => none) else none) else (match trE n c (.Call (.Name x p) as ks pos) with
      | some f => some (iSeq (xE f))
      | none => none)
  | n + 1, c, .List es pos => (match trE n c (.List es pos) with
    | some f => some (if es.any isRv then iSeqF (xE f) else iSeq (xE f))
    | none => none)
  | n + 1, c, e => (match trE n c e with
    | some f => some (iSeq (xE f))
    | none => none)
/-- what a comprehension walks -/
def trJ : Nat → TC → Bool → Expr → Option XI2
  | 0, _, _, _ => none
  | n + 1, c, dk, .Name x p => (match c.slot x with
    | some i => some (if dk then iKv (bvar i) (bvar i) else iSeq (bvar i))
    | none => (match trE n c (.Name x p) with
      | some f => some (iSeq f.2)
      | none => none))
  | n + 1, c, _, .Call (.Name x p) as ks pos => if x = ("range" : Str) then trI n c (.Call (.Name x p) as ks pos) else (match trE n c (.Call (.Name x p) as ks pos) with
      | some f => some (iSeq f.2)
      | none => none)
  | n + 1, c, _, e => (match trE n c e with
    | some f => some (iSeq f.2)
    | none => none)
def trG : Nat → TC → List Nat → Expr → Option XG
  | 0, _, _, _ => none
  | n + 1, c, rb, .Name x _ => (match c.oslot x with
    | some i => if rb.contains i then some (gSet i) else none
    | none => none)
  | n + 1, c, rb, .Tuple es _ _ => (match trGs n c rb es with
    | some gs => some (gTup gs)
    | none => none)
  | _, _, _, _ => none
def trGs : Nat → TC → List Nat → List Expr → Option (List XG)
  | 0, _, _, _ => none
  | n + 1, c, rb, [] => some []
  | n + 1, c, rb, e :: es => if isSt0 e then none else (match trG n c rb e, trGs n c rb es with
    | some g, some gs => some (g :: gs)
    | _, _ => none)
/-- a list comprehension; dk: it may walk a dict -/
def trH : Nat → TC → Bool → Expr → List Comprehension → Scope → Option XP
  | 0, _, _, _, _, _ => none
  | n + 1, c, dk, elt, [⟨tg, iter, ifs, 0⟩], scope => (match trJ n c dk iter, trG n { c with sc := scope } ((ownOf c.N scope.names).map (·.2)) tg, trE n { c with sc := scope } elt, trZ n { c with sc := scope } ifs with
    | some it, some g, some f, some t => if blkS c.N c.sc scope (ownOf c.N scope.names) then some (comp it g t (xE f) ((ownOf c.N scope.names).map (·.2))) else none
    | _, _, _, _ => none)
  | _, _, _, _, _, _ => none
def trZ : Nat → TC → List Expr → Option XB
  | 0, _, _ => none
  | n + 1, c, [] => some tYes
  | n + 1, c, [t] => trT n c t
  | _, _, _ => none
end
/-- what a for walks, by its target -/
def trIt (n : Nat) (c : TC) (tg it : Expr) : Option XI2 := match tg, it with
  | .Tuple _ _ _, .Call (.Name x _) [a] [] _ => if x = ("enumerate" : Str) ∧ c.isB x = true then (match trE n c a with
      | some f => some (iEn (xE f))
      | none => none) else trI n c it
  | .Tuple _ _ _, .Call (.Name x _) [a, b] [] _ => if x = ("zip" : Str) ∧ c.isB x = true then (match trE n c a, trE n c b with
      | some f, some g => some (iZp (xE f) (xE g))
      | _, _ => none) else trI n c it
  | _, _ => trI n c it
/-- a path by indexes from a slot -/
def trPt : Nat → TC → Expr → Option (Nat × XL)
  | 0, _, _ => none
  | n + 1, c, .Name x _ => (match c.slot x with
    | some i => some (i, lnil)
    | none => none)
  | n + 1, c, .Subscript o k _ => (match trPt n c o, trE n c k with
    | some (i, l), some f => some (i, lsnoc l f.2)
    | _, _ => none)
  | _, _, _ => none
end Lc
end
section
set_option linter.all false
/-! The translator: what may stand within an except suite, and in a def that is called there. -/
namespace Lc
open PySem
structure HC where
  c : TC
  /-- the names of the exception -/
  xs : List Str
  /-- in a def of its own: for is there -/
  fo : Bool
def HC.fld (h : HC) (m : Str) : Option String := h.c.tb.xd.fl.find? fun f => Str.ofString f == m
theorem HC.fld_ok {h : HC} {m : Str} {f : String} (e : h.fld m = some f) : f ∈ h.c.tb.xd.fl ∧ m = Str.ofString f := by
  unfold HC.fld at e
  have h2 := List.find?_some e
  exact ⟨List.mem_of_find?_eq_some e, (by simpa using h2 : Str.ofString f = m).symm⟩
mutual
def hE : Nat → HC → Expr → Option (Bool × XP)
  | 0, _, _ => none
  | n + 1, h, .Constant k _ _ => trC k
  | n + 1, h, .Name x _ => trN h.c x
  | n + 1, h, .BinOp a .Add b _ => (match hE n h a, hE n h b with
    | some f, some g => some (true, bn D.add f.2 g.2)
    | _, _ => none)
  | n + 1, h, .UnaryOp .Not a _ => (match hE n h a with
    | some f => some (true, un vnot f.2)
    | none => none)
  | n + 1, h, .BoolOp op vs _ => (match hV n h op vs with
    | some f => some (true, f)
    | none => none)
  | n + 1, h, .Compare a [op] [b] _ => (match hE n h a with
    | some f => if isNone b then (match op with
        | .Is => some (true, un (fun d => some (.bl d.isN)) f.2)
        | .IsNot => some (true, un (fun d => some (.bl (!d.isN))) f.2)
        | _ => none) else (match hE n h b, cmpG op with
      | some g, some k => if marks op b then none else some (true, bn (fun d e => (k d e).map .bl) f.2 g.2)
      | _, _ => none)
    | none => none)
  | n + 1, h, .List es _ => (match hL n h es with
    | some l => some (true, mlst l)
    | none => none)
  | n + 1, h, .Subscript a i _ => if sliceish i then none else (match hE n h a, hE n h i with
    | some f, some g => some (false, bn D.idx f.2 g.2)
    | _, _ => none)
  | n + 1, h, .Attribute (.Name x _) m _ => if h.xs.contains x then (match h.c.slot x, h.fld m with
    | some i, some f => some (false, un (D.xat h.c.tb.xd.all f) (bvar i))
    | _, _ => none) else none
  | n + 1, h, .Call (.Name x _) as [] pos => hF n h x as pos
  | _, _, _ => none
def hV : Nat → HC → BoolOp → List Expr → Option XP
  | 0, _, _, _ => none
  | n + 1, h, op, [a] => (match hE n h a with
    | some f => some (xE f)
    | none => none)
  | n + 1, h, op, a :: b :: r => (match hE n h a, hV n h op (b :: r) with
    | some f, some g => some (match op with | .And => vand f.2 g | .Or => vor f.2 g)
    | _, _ => none)
  | _, _, _, _ => none
def hF : Nat → HC → Str → List Expr → Pos → Option (Bool × XP)
  | 0, _, _, _, _ => none
  | n + 1, h, x, as, pos => if h.c.isB x then (match as with
      | [a, .Name T _] => if x = ("isinstance" : Str) then (match hE n h a with
        | some f => (match bty T with
          | some t => if h.c.isB T then some (true, un (fun d => (D.isTy d t).map .bl) f.2) else none
          | none => if h.c.glo T then (match h.c.tb.xd.xi.lookup T with
            | some subs => some (true, un (fun d => (D.isX h.c.tb.xd.all subs d).map .bl) f.2)
            | none => none) else none)
        | none => none) else none
      | _ => none) else if h.c.glo x then (match h.c.tb.xd.hfn? x as.length, hW n h as with
      | some e, some l => some (true, call e.fn l lnil)
      | _, _ => none) else none
def hL : Nat → HC → List Expr → Option XL
  | 0, _, _ => none
  | n + 1, h, [] => some lnil
  | n + 1, h, a :: r => if isSt0 a then none else (match hE n h a, hL n h r with
    | some f, some l => some (lcons (xE f) l)
    | _, _ => none)
def hW : Nat → HC → List Expr → Option XL
  | 0, _, _ => none
  | n + 1, h, [] => some lnil
  | n + 1, h, a :: r => if isSt0 a then none else (match hR n h a, hW n h r with
    | some f, some l => some (lcons f l)
    | _, _ => none)
def hR : Nat → HC → Expr → Option XP
  | 0, _, _ => none
  | n + 1, h, e => (match e with
    | .Name x _ => (match h.c.slot x with
      | some i => some (bvar i)
      | none => (match hE n h e with
        | some f => some (xE f)
        | none => none))
    | _ => (match hE n h e with
      | some f => some (xE f)
      | none => none))
end
mutual
def hT : Nat → HC → Expr → Option XB
  | 0, _, _ => none
  | n + 1, h, .UnaryOp .Not a _ => (match hT n h a with
    | some t => some (tnt t)
    | none => none)
  | n + 1, h, .BoolOp op vs _ => hB n h op vs
  | n + 1, h, .Compare a [op] [b] _ => (match hE n h a with
    | some f => if isNone b then (match op with
        | .Is => some (tun (fun d => some d.isN) f.2)
        | .IsNot => some (tun (fun d => some (!d.isN)) f.2)
        | _ => none) else (match hE n h b, cmpG op with
      | some g, some k => if marks op b then none else some (tbn k f.2 g.2)
      | _, _ => none)
    | none => none)
  | n + 1, h, .Compare _ _ _ _ => none
  | n + 1, h, .IfExp _ _ _ _ => none
  | n + 1, h, e => (match hE n h e with
    | some f => some (tun D.truth f.2)
    | none => none)
def hB : Nat → HC → BoolOp → List Expr → Option XB
  | 0, _, _, _ => none
  | n + 1, h, op, [a] => hT n h a
  | n + 1, h, op, a :: b :: r => (match hT n h a, hB n h op (b :: r) with
    | some t, some u => some (match op with | .And => tnd t u | .Or => tor t u)
    | _, _ => none)
  | _, _, _, _ => none
end
def hAs (n : Nat) (h : HC) (rb : List Nat) (tgs : List Expr) (e : Expr) : XS := match tgs with
  | [.Name y _] => (match h.c.lslot y, hE n h e with
    | some i, some f => if rb.contains i then sSet i (xE f) else sNever
    | _, _ => sNever)
  | _ => sNever
def hFo (n : Nat) (h : HC) (rb : List Nat) (tg it : Expr) (els : List Stmt) : Option (XI2 × Nat) := match tg, it, els with
  | .Name y _, .Call (.Name x _) [a] [] _, [] => if h.fo && x == ("range" : Str) && h.c.isB x then (match h.c.lslot y, hE n h a with
    | some i, some f => if rb.contains i then some (iRg1 f.2, i) else none
    | _, _ => none) else none
  | _, _, _ => none
mutual
def hS : Nat → HC → List Nat → Stmt → XS
  | 0, _, _, _ => sNever
  | n + 1, h, rb, .If t as bs _ => (match hT n h t with
    | some t => sIf t (hSs n h rb as) (hSs n h rb bs)
    | none => sNever)
  | n + 1, h, rb, .Return o _ => (match o with
    | none => sRetN
    | some e => (match hE n h e with
      | some f => sRet (xE f)
      | none => sNever))
  | n + 1, h, rb, .Assign tgs e _ => hAs n h rb tgs e
  | n + 1, h, rb, .For tg it body els _ => (match hFo n h rb tg it els with
    | some (f, i) => sFor f (gSet i) (hSs n h rb body)
    | none => sNever)
  | _, _, _, _ => sNever
def hSs : Nat → HC → List Nat → List Stmt → XS
  | 0, _, _, _ => sNever
  | n + 1, h, rb, [] => sNx
  | n + 1, h, rb, [a] => hS n h rb a
  | n + 1, h, rb, a :: b :: r => sSeq (hS n h rb a) (hSs n h rb (b :: r))
end
end Lc
end
section
set_option linter.all false
/-! The translator: statements. What it does not know becomes sNever. -/
namespace Lc
open PySem
/-- where a def's statements stand -/
structure SC where
  c : TC
  /-- the slots that may be written -/
  rb : List Nat
  /-- the lists that a for reads as they stand at each turn -/
  nf : List Str
  /-- lists of lists that are only read here -/
  hot : List Str
mutual
/-- such lists in an expression -/
def hots (hl : List Str) : Nat → Expr → List Str
  | 0, _ => []
  | n + 1, .Name x _ => if hl.contains x then [x] else []
  | n + 1, .Subscript a _ _ => hots hl n a
  | n + 1, .Call _ as _ _ => hotsL hl n as
  | _, _ => []
def hotsL (hl : List Str) : Nat → List Expr → List Str
  | 0, _ => []
  | n + 1, [] => []
  | n + 1, e :: es => hots hl n e ++ hotsL hl n es
end
mutual
/-- bare names in a kept place -/
def kept (hl : List Str) : Nat → Expr → List Str
  | 0, _ => []
  | n + 1, .Name x _ => [x]
  | n + 1, .Tuple es _ _ => keptL hl n es
  | n + 1, .List es _ => keptL hl n es
  | n + 1, .IfExp _ a b _ => kept hl n a ++ kept hl n b
  | n + 1, .Subscript a _ _ => hots hl n a
  | n + 1, .Call _ as _ _ => hotsL hl n as
  | _, _ => []
def keptL (hl : List Str) : Nat → List Expr → List Str
  | 0, _ => []
  | n + 1, [] => []
  | n + 1, e :: es => kept hl n e ++ keptL hl n es
end
/-- x[i][j] in a list's display -/
def keptP (hl : List Str) : List Expr → List (Str × List Nat)
  | [] => []
  | .Subscript (.Subscript (.Name x _) (.Constant (.int i) _ _) _) (.Constant (.int j) _ _) _ :: es => (if hl.contains x then [] else [(x, [i.toNat, j.toNat])]) ++ keptP hl es
  | _ :: es => keptP hl es
def keptQ (hl : List Str) : Expr → List (Str × List Nat)
  | .List es _ => keptP hl es
  | _ => []
/-- the names that enumerate or zip walk -/
def itN : Expr → List Str
  | .Call (.Name f _) as _ _ => if f = ("enumerate" : Str) ∨ f = ("zip" : Str) then as.flatMap fun e => (match e with
      | .Name x _ => [x]
      | _ => []) else []
  | _ => []
def frzQ (c : TC) : List (Str × List Nat) → XS → XS
  | [], f => f
  | (x, js) :: xs, f => (match c.slot x with
    | some i => sFrzP i js (frzQ c xs f)
    | none => frzQ c xs f)
def frzL (c : TC) : List Str → XS → XS
  | [], f => f
  | x :: xs, f => (match c.slot x with
    | some i => sFrz i (frzL c xs f)
    | none => frzL c xs f)
def trMod : Str → Nat
  | x => if x = ("append" : Str) then 1 else if x = ("extend" : Str) then 2 else if x = ("insert" : Str) then 3 else if x = ("clear" : Str) then 4 else 0
def orN (o : Option XS) : XS := match o with
  | some f => f
  | none => sNever
/-- an expression as a statement -/
def trX (n : Nat) (s : SC) (pos : Pos) : Expr → Option XS
  | .Constant (.str _) _ _ => some sNx
  | .Call (.Attribute (.Name x p) m ap) as [] cp => (match s.c.slot x with
    | some i => if ap.endLine == cp.line then (match trMod m, as with
      | 1, [a] => (match trE n s.c a with
        | some f => if m = ("append" : Str) then some (frzL s.c (kept s.hot n a) (sLst1 D.app i (xE f))) else none
        | none => none)
      | 2, [a] => (match trE n s.c a with
        | some f => if m = ("extend" : Str) then some (sLst1 D.extend i f.2) else none
        | none => none)
      | 3, [a, b] => (match trE n s.c a, trE n s.c b with
        | some f, some g => if m = ("insert" : Str) then some (frzL s.c (kept s.hot n b) (sLst2 D.insert i f.2 (xE g))) else none
        | _, _ => none)
      | 4, [] => if m = ("clear" : Str) then some (sLst0 D.clear i) else none
      | _, _ => none) else none
    | none => none)
  | .Call (.Attribute (.Subscript o k sp) m ap) [a] [] cp => if ap.endLine == cp.line then (match trPt n s.c (.Subscript o k sp), trE n s.c a with
      | some (i, l), some f => if m = ("append" : Str) then some (frzL s.c (kept s.hot n a) (sP1 D.app i l (xE f))) else if m = ("pop" : Str) then some (sP1 D.popAt i l f.2) else none
      | _, _ => none) else none
  | .Call f as ks cp => (match trE n s.c (.Call f as ks cp) with
    | some g => some (sDrop g.2)
    | none => none)
  | _ => none
/-- x = e -/
def trA (n : Nat) (s : SC) (pos : Pos) (y : Str) (py : Pos) (e : Expr) : Option XS :=
  match s.c.oslot y with
  | some i => if s.rb.contains i then (match e with
      | .ListComp elt gs scope cp =>
        if (scope.names.any fun (n, k) => n == y && (k == .local || k == .cell)) then none else
        if celS s.c.sc y then (match trH n s.c true elt gs scope with
          | some f => some (sSet i f)
          | none => none) else if lclS s.c.sc y && py.line == cp.line then (match trH n s.c false elt gs scope with
          | some f => some (sSet i f)
          | none => none) else none
      | .Call (.Attribute (.Name x p) m ap) [] [] cp => (match s.c.slot x with
        | some j => if m = ("pop" : Str) then (if ap.endLine == cp.line then some (sPop i j) else none) else (match trE n s.c e with
          | some f => some (sSet i (xE f))
          | none => none)
        | none => (match trE n s.c e with
          | some f => some (sSet i (xE f))
          | none => none))
      | e => (match trE n s.c e with
        | some f => some (frzL s.c (kept s.hot n e) (sSet i (xE f)))
        | none => none)) else none
  | none => none
def isTup : Expr → Bool
  | .Tuple _ _ _ => true
  | _ => false
def isNm : Expr → Bool
  | .Name x _ => !(x == ("__debug__" : Str))
  | _ => false
def isComp : Expr → Bool
  | .ListComp _ _ _ _ => true
  | .SetComp _ _ _ _ => true
  | .DictComp _ _ _ _ _ => true
  | _ => false
/-- the field's name of the class as it stands in the table -/
def TC.own (c : TC) (m : Str) : Option String := match c.tb.prp.find? fun e => e.1 == c.cls && Str.ofString e.2.1 == m with
  | some (_, n, none) => (match c.tb.prp.get c.cls n with
    | some none => if m = Str.ofString n then some n else none
    | _ => none)
  | _ => none
/-- return -/
def trRet (n : Nat) (s : SC) : Option Expr → XS
  | none => sRetN
  | some e => (match e with
    | .Name x p => (match s.c.slot x with
      | some i => sRet (bvar i)
      | none => (match trE n s.c (.Name x p) with
        | some f => sRet (xE f)
        | none => sNever))
    | e => (match trE n s.c e with
      | some f => frzL s.c (kept s.hot n e) (sRet (xE f))
      | none => sNever))
/-- x, y = a, b -/
def trPar (n : Nat) (s : SC) (es : List Expr) (e : Expr) : XS := match es, e with
  | [.Name x px, .Name y py], .Tuple [a, b] _ _ => (match s.c.lslot x, s.c.lslot y, trL n s.c [a, b] with
    | some i, some j, some l => if i ≠ j ∧ i ∈ s.rb ∧ j ∈ s.rb ∧ x ≠ y ∧ px.line = py.line ∧ (isNm a || isNm b) = true then frzL s.c (kept s.hot n e) (sPar i j l) else sNever
    | _, _, _ => sNever)
  | _, _ => sNever
/-- assignments -/
def trAs1 (n : Nat) (s : SC) (pos : Pos) (e : Expr) : Expr → XS
  | .Name y py => orN (trA n s pos y py e)
  | .Subscript (.Name x p) k _ => (match s.c.slot x, trE n s.c k, trE n s.c e with
    | some i, some f, some g => frzQ s.c (keptQ s.hot e) (frzL s.c (kept s.hot n e) (sPut i f.2 (xE g)))
    | _, _, _ => sNever)
  | .Subscript (.Subscript o k0 p0) k _ => (match trPt n s.c (.Subscript o k0 p0), trE n s.c k, trE n s.c e with
    | some (i, l), some f, some g => frzL s.c (kept s.hot n e) (sPutP i l f.2 (xE g))
    | _, _, _ => sNever)
  | .Attribute (.Name x p) m _ => (match s.c.slot x, s.c.own m, trE n s.c e with
    | some i, some f, some g => frzL s.c (kept s.hot n e) (sFld s.c.cls i f (xE g))
    | _, _, _ => sNever)
  | .Tuple es kk tp => if isTup e then trPar n s es e else (match trG n s.c s.rb (.Tuple es kk tp), trE n s.c e with
    | some g, some f => sAsg g (xE f)
    | _, _ => sNever)
  | _ => sNever
def trAs (n : Nat) (s : SC) (pos : Pos) (tgs : List Expr) (e : Expr) : XS := match tgs with
  | [tg] => trAs1 n s pos e tg
  | _ => sNever
def trAug (n : Nat) (s : SC) (tg : Expr) (op : Operator) (e : Expr) : XS := match tg, op with
  | .Name x _, .Add => (match s.c.oslot x with
    | some i => if s.rb.contains i then (match trE n s.c e with
        | some f => sAug D.iadd i f.2
        | none => sNever) else sNever
    | none => sNever)
  | _, _ => sNever
/-- raise C(e, ..) -/
def trRaise (n : Nat) (s : SC) (o cs : Option Expr) : XS := match o, cs with
  | some (.Call (.Name x _) (e :: es) [] _), none => if s.c.glo x then (match s.c.tb.xd.exs.lookup x, trL n s.c (e :: es) with
    | some (c, k, ns), some l => frzL s.c (keptL s.hot n (e :: es)) (sRaise c ns l)
    | _, _ => sNever) else sNever
  | _, _ => sNever
/-- try, its body given -/
def trTry (n : Nat) (s : SC) (hds : List ExceptHandler) (els fin : List Stmt) (f : XS) : XS := match hds, els, fin with
  | [.ExceptHandler (some (.Name T _)) (some nm) (b0 :: suite) _], [], [] => if s.c.glo T then (match s.c.tb.xd.xh.lookup T, s.c.lslot nm with
    | some subs, some i => if s.rb.contains i then sTry s.c.tb.xd.all subs i f (hSs n ⟨s.c, [nm], false⟩ s.rb (b0 :: suite)) else sNever
    | _, _ => sNever) else sNever
  | _, _, _ => sNever
noncomputable section
mutual
def trS : Nat → SC → Stmt → XS
  | 0, _, _ => sNever
  | n + 1, s, .Pass _ => sNx
  | n + 1, s, .Break _ => sBk
  | n + 1, s, .Continue _ => sCt
  | n + 1, s, .Expr e pos => orN (trX n s pos e)
  | n + 1, s, .If t as bs _ => (match trT n s.c t with
    | some t => sIf t (trSs n s as) (trSs n s bs)
    | none => sNever)
  | n + 1, s, .While t body [] _ => (match trT n s.c t with
    | some t => sWhile t (trSs n s body)
    | none => sNever)
  | n + 1, s, .For tg it body [] _ => (match it with
    | .Name x _ => (match s.c.slot x with
      | some i => if s.nf.contains x then (match trG n s.c (s.rb.filter (· ≠ i)) tg with
          | some g => sForN i g (trSs n { s with rb := s.rb.filter (· ≠ i) } body)
          | none => sNever) else (match trG n s.c s.rb tg with
          | some g => sFrz i (sFor (iSeq (lk (bvar i))) g (trSs n s body))
          | none => sNever)
      | none => (match trG n s.c s.rb tg, trI n s.c it with
        | some g, some f => sFor f g (trSs n s body)
        | _, _ => sNever))
    | it => (match trG n s.c s.rb tg, trIt n s.c tg it with
        | some g, some f => frzL s.c (itN it) (sFor f g (trSs n s body))
        | _, _ => sNever))
  | n + 1, s, .Return o _ => trRet n s o
  | n + 1, s, .Assign tgs e pos => trAs n s pos tgs e
  | n + 1, s, .AugAssign tg op e _ => trAug n s tg op e
  | n + 1, s, .Raise o cs _ => trRaise n s o cs
  | n + 1, s, .Try body hds els fin _ => trTry n s hds els fin (trSs n s body)
  | _, _, _ => sNever
def trSs : Nat → SC → List Stmt → XS
  | 0, _, _ => sNever
  | n + 1, s, [] => sNx
  | n + 1, s, [a] => trS n s a
  | n + 1, s, a :: b :: r => sSeq (trS n s a) (trSs n s (b :: r))
end
end
end Lc
end
section
set_option linter.all false
/-! Tables grow. -/
namespace Lc
open PySem
/-- the letters; the views -/
def AZ : List Nat := [65, 66, 67, 68, 69, 70, 71, 72, 73, 74, 75, 76, 77, 78, 79, 80, 81, 82, 83, 84, 85, 86, 87, 88, 89, 90]
def VW : List Nat := [35, 46, 65, 66, 67, 68, 69, 70, 71, 72, 73, 74, 75, 76, 77, 78, 79, 80, 81, 82, 83, 84, 85, 86, 87, 88, 89, 90]
def Tb.fn (tb : Tb) (x : Str) (npos : Nat) (ks : List Str) (φ : List D → Res D) : Tb := { tb with fns := (x, ⟨npos, ks, φ⟩) :: tb.fns }
def Tb.mt (tb : Tb) (cn mn : String) (npos : Nat) (ks : List Str) (φ : List D → Res D) : Tb := { tb with mts := (Str.ofString mn, ⟨cn, mn, npos, ks, φ⟩) :: tb.mts }
def Tb.pr (tb : Tb) (cn n : String) (φ : List D → Res D) : Tb := { tb with prp := (cn, n, some φ) :: tb.prp }
def Tb.ow (tb : Tb) (cn mn : String) (φ : List D → Res D) : Tb := { tb with own := ⟨cn, mn, φ⟩ :: tb.own }
def Tb.is (tb : Tb) (x : Str) (cn : String) : Tb := { tb with iso := (x, cn) :: tb.iso }
def Tb.cn (tb : Tb) (x : Str) (d : D) : Tb := { tb with con := (x, d) :: tb.con }
def Tb.fl (tb : Tb) (cn n : String) : Tb := { tb with prp := (cn, n, none) :: tb.prp }
/-- fields at once -/
def Tb.fls (tb : Tb) : List (String × List String) → Tb
  | [] => tb
  | (c, ns) :: r => ns.foldr (fun n t => t.fl c n) (tb.fls r)
/-- the getters of a class -/
def Tb.prs (tb : Tb) (c : String) : List (String × (List D → Res D)) → Tb
  | [] => tb
  | (n, φ) :: r => (tb.prs c r).pr c n φ
end Lc
end
section
set_option Elab.async false
set_option linter.all false
set_option maxRecDepth 100000
set_option maxHeartbeats 2000000
/-! enumerate, zip, range downwards; lower; isinstance with an own class. -/
namespace Lc
open PySem PySem.Spec L2
theorem enumL_len : ∀ (k : Nat) (ds : List D), (enumL k ds).length = ds.length
  | _, [] => rfl
  | k, d :: ds => by rw [enumL, List.length_cons, List.length_cons, enumL_len (k + 1) ds]
theorem enumL_get : ∀ (k : Nat) (ds : List D) (i : Nat) (h : i < ds.length), (enumL k ds)[i]? = some (.tup [.int ((k + i : Nat) : Int), ds[i]])
  | _, [], _, h => absurd h (Nat.not_lt_zero _)
  | k, d :: ds, 0, _ => rfl
  | k, d :: ds, i + 1, h => by
    rw [enumL, List.getElem?_cons_succ, enumL_get (k + 1) ds i (by simpa using h), show k + 1 + i = k + (i + 1) by omega]
    rfl
theorem zipL_len : ∀ (ds es : List D), (zipL ds es).length = min ds.length es.length
  | [], _ => by simp [zipL]
  | d :: ds, [] => by simp [zipL]
  | d :: ds, e :: es => by rw [zipL, List.length_cons, zipL_len ds es, List.length_cons, List.length_cons]; omega
theorem zipL_get : ∀ (ds es : List D) (i : Nat) (h : i < ds.length) (h2 : i < es.length), (zipL ds es)[i]? = some (.tup [ds[i], es[i]])
  | [], _, _, h, _ => absurd h (Nat.not_lt_zero _)
  | d :: ds, [], _, _, h => absurd h (Nat.not_lt_zero _)
  | d :: ds, e :: es, 0, _, _ => rfl
  | d :: ds, e :: es, i + 1, h, h2 => by
    rw [zipL, List.getElem?_cons_succ, zipL_get ds es i (by simpa using h) (by simpa using h2)]
    rfl
section
variable {CM : CMap} {B F F1 H H' : Hp} {ds es : List D} {vs ws : List V} {a b : Addr} {K : PySem.W.Frag}
theorem walkD_enum (h : B a = some (.lst vs)) (r : Reps CM F1 ds vs) : WalkD CM B F1 (Ite K a) (enumL 0 ds) := by
  have el := r.length
  have en := enumL_len 0 ds
  refine ⟨fun i H hi k => ?_, fun H k => ⟨vs, .inl (.inl (k _ _ h)), by rw [en, el]; exact Nat.le_refl _⟩, fun i H x H' F hi k s sh y => ?_⟩
  · exact ⟨vs, vs[i]'(by omega), .inl (.inl (k _ _ h)), by simp⟩
  · obtain ⟨T, x, rfl, hT, rfl, y⟩ := y
    have y := y vs (.inl (.inl (k _ _ h)))
    have hi' : i < ds.length := by omega
    obtain ⟨u, e1, e2⟩ := r.get (d := ds[i]) (i := i) (by simp [hi'])
    rw [y] at e1; cases e1
    refine ⟨_, .tup [.int ((0 + i : Nat) : Int), ds[i]], Ext.lay sh hT, enumL_get 0 ds i hi', ?_⟩
    rw [Nat.zero_add]
    exact rep_newTup (sh.free hT) (Reps.cons_iff.mpr ⟨_, _, rfl, rep_int, Reps.cons_iff.mpr ⟨_, _, rfl, Rep.mono s _ _ e2, Reps.nil_iff.mpr rfl⟩⟩) (by show 2 ≤ LINE; decide)
theorem walkD_zip (h : B a = some (.lst vs)) (r : Reps CM F1 ds vs) (h2 : B b = some (.lst ws)) (r2 : Reps CM F1 es ws) : WalkD CM B F1 (Itz K a b) (zipL ds es) := by
  have el := r.length
  have el2 := r2.length
  have en := zipL_len ds es
  refine ⟨fun i H hi k => ?_, fun H k => ⟨vs, ws, .inl (.inl (k _ _ h)), .inl (.inl (k _ _ h2)), by rw [en, ← el, ← el2]; omega⟩, fun i H x H' F hi k s sh y => ?_⟩
  · exact ⟨vs, ws, vs[i]'(by omega), ws[i]'(by omega), .inl (.inl (k _ _ h)), .inl (.inl (k _ _ h2)), by simp, by simp⟩
  · obtain ⟨T, x, z, rfl, hT, rfl, y, y2⟩ := y
    have y := y vs (.inl (.inl (k _ _ h)))
    have y2 := y2 ws (.inl (.inl (k _ _ h2)))
    have hi1 : i < ds.length := by omega
    have hi2 : i < es.length := by omega
    obtain ⟨u, e1, e2⟩ := r.get (d := ds[i]) (i := i) (by simp [hi1])
    obtain ⟨u2, e3, e4⟩ := r2.get (d := es[i]) (i := i) (by simp [hi2])
    rw [y] at e1; cases e1
    rw [y2] at e3; cases e3
    exact ⟨_, .tup [ds[i], es[i]], Ext.lay sh hT, zipL_get ds es i hi1 hi2, rep_newTup (sh.free hT) (Reps.cons_iff.mpr ⟨_, _, rfl, Rep.mono s _ _ e2, Reps.cons_iff.mpr ⟨_, _, rfl, Rep.mono s _ _ e4, Reps.nil_iff.mpr rfl⟩⟩) (by show 2 ≤ LINE; decide)⟩
theorem walkD_rangeC {lo : Int} {n : Nat} : WalkD CM B F1 (Itc lo (-1) n) (rngDn lo n) := by
  have el : (rngDn lo n).length = n := by simp [rngDn]
  refine ⟨fun i H hi k => by rw [el] at hi; exact hi, fun H k => by rw [el]; exact Nat.le_refl _, fun i H x H' F hi k s sh y => ?_⟩
  obtain ⟨rfl, rfl⟩ := y
  rw [el] at hi
  exact ⟨F, .int (lo + i * (-1)), Ext.refl sh, by simp [rngDn, hi], rep_int⟩
end
section
variable {X : Cx} {CM : CMap} {W : WX} {rb : List Nat} {f g b : XS} {a fa fb : XP} {e e2 l tg : Expr} {st : Stmt} {sts rest : List Stmt} {pos p ap : Pos}
/-- a list of frozen things, adopted -/
theorem lst_adopt {F H F' H' : Hp} {o : Bool} {ds : List D} {v : V} {g : List Addr} (x : Ext F H F' H') (r : RepO CM F' H' (.lst o ds) v g) (f : ∀ p ∈ g, H p = none ∧ F' p = none) (hz : ds.all D.fz = true) :
    ∃ p vs, v = .ref p ∧ adopt F' H' g p = some (.lst vs) ∧ H' p = some (.lst vs) ∧ Reps CM (adopt F' H' g) ds vs := by
  obtain ⟨p, vs, fps, rfl, h1, h2, h3⟩ := ro_lst x.sub r
  have ff := adopt_ff (F := F') (H := H') (fp := g) fun p hp => (f p hp).2
  have hp : adopt F' H' g p = some (.lst vs) := by
    rw [RepO.nd_iff] at r
    by_cases ho : (Kd.lst o).own = true
    · rw [if_pos ho] at r
      obtain ⟨p', vs', fps', e1, h5, h6, h7⟩ := r
      cases e1
      rw [adopt_in (by rw [h7]; exact List.mem_cons_self)]
      exact h1
    · rw [if_neg ho] at r
      obtain ⟨_, p', vs', e1, h5, h6⟩ := Rep.nd_iff.mp r.1
      cases e1
      have h5' : F' p = some (.lst vs') := h5.1
      have := x.sub _ _ h5'
      rw [h1] at this; cases this
      exact ff _ _ h5'
  exact ⟨p, vs, rfl, hp, h1, (reps_fz hz h3).mono ff⟩
theorem di_rgD {e3 : Expr} {p : Pos} (hg : Gl X "range") (hm : X.mg "range" = none) (ha : PE X e (tO CM W fa)) (hb : PE X e2 (tO CM W fb)) (hc : PE X e3 (tO CM W (un D.neg (cst (.int 1))))) (hs : starEach [e, e2, e3] X.env = (false, eval e X.env) :: starEach [e2, e3] X.env)
    (hs2 : starEach [e2, e3] X.env = (false, eval e2 X.env) :: starEach [e3] X.env) (hs3 : starEach [e3] X.env = (false, eval e3 X.env) :: starEach [] X.env) : PI X tg (.Call (.Name "range" p) [e, e2, e3] [] pos) (tIt CM W (iRgD fa fb)) :=
  (pi_range3 hg hm (pa_cons ha (pa_cons hb (pa_cons hc pa_nil hs3) hs2) hs) hs (by rw [hs2, hs3]; rfl)).weak fun σ H R ⟨F, ρ, fp, s, q⟩ => by
    refine ⟨F, ρ, fp, s, ?_⟩
    unfold iRgD at q
    cases e : fa ρ with
    | bad => rw [e] at q; exact q
    | exc c ns ds => rw [e] at q; exact q
    | val d =>
      rw [e] at q
      intro v F' H' g x r
      simp only [Res.bind_val] at q
      refine ⟨F', ρ, fp, s.ext x, ?_⟩
      cases e2 : fb ρ with
      | bad => rw [e2] at q; exact q
      | exc c ns ds => rw [e2] at q; exact RE.ext x q
      | val d2 =>
        rw [e2] at q
        intro v2 F2 H2 g2 x2 r2
        simp only [Res.bind_val] at q
        refine ⟨F2, ρ, fp, (s.ext x).ext x2, ?_⟩
        show RO CM W σ F2 H2 _ (Res.val (.int (-1)))
        intro v3 F3 H3 g3 x3 r3
        obtain rfl := ro_int r3
        cases d with
        | int i =>
          cases d2 with
          | int j =>
            simp only at q
            obtain rfl := ro_int r
            obtain rfl := ro_int r2
            by_cases hj : RgOk i ∧ RgOk j
            · rw [if_pos hj] at q
              exact ⟨i, j, -1, _, rfl, RgC.neg hj.1.1 hj.1.2 hj.2.1 hj.2.2, q _ _ _ ((x.trans x2).trans x3) walkD_rangeC⟩
            · rw [if_neg hj] at q; exact q.elim
          | _ => exact q.elim
        | _ => exact q.elim
/-! ### lower -/
theorem dx_lower (ha : PE X e (tO CM W fa)) (nsup : notSuper e = true) (hl : (ap.endLine == pos.line) = true) : PE X (.Call (.Attribute e "lower" ap) [] [] pos) (tX CM W (unS D.lower fa)) :=
  (pe_lower ha (base_of nsup) hl).weak fun σ H Q q => unS_go q fun t F H sF ok qv => by
    unfold D.lower at qv
    simp only at qv
    by_cases hz : t.all (· < 128) = true ∧ t.length ≤ 5592405
    · rw [if_pos hz] at qv
      refine ⟨stx t, rfl, rfl, by rw [stx_len]; exact hz.2, ?_⟩
      have e : Txt.lower (stx t) = stx (t.map loA) := SX.lower_S (a := t) hz.1
      rw [e]
      refine qv.str sF ⟨by rw [List.length_map]; exact ok.1, fun c hc => ?_⟩
      obtain ⟨d, hd, rfl⟩ := List.mem_map.mp hc
      have := of_decide_eq_true (List.all_eq_true.mp hz.1 d hd)
      unfold loA
      split <;> omega
    · rw [if_neg hz] at qv; exact qv.bad
end
/-! ### isinstance with an own class -/
structure IsoC (K : PySem.W.Frag) (C : Addr) : Prop where
  cl : Cls K C
  ha : PySem.W.findIn K (.ref C) "__class__" = some (some (.builtin "object.__class__"))
  hn : PySem.W.specialIn K (.builtin "object.__class__") "__get__" = some (some (.builtin "getset_descriptor.__get__"))
  htk : PySem.W.takesIn K (.builtin "object.__class__") = some true
  hm : PySem.W.mroIn K C (.type "object") = some true
  oth : ∀ t ∈ ["NoneType", "bool", "int", "str", "tuple", "list"], PySem.W.kitOne K (.type t) (.ref C) = some false
  sub : ∀ t ∈ ["NoneType", "bool", "int", "str", "tuple", "list"], PySem.W.notFirst K C (.type t) = true
  ne : PySem.W.findIn K (.ref C) "__ne__" = some (some (.builtin "object.__ne__"))
def isoB (K : PySem.W.Frag) (C : Addr) : Bool := He.eqO (PySem.W.findIn K (.ref C) "__class__") (some (some (.builtin "object.__class__"))) && (He.eqO (PySem.W.specialIn K (.builtin "object.__class__") "__get__") (some (some (.builtin "getset_descriptor.__get__"))) &&
  (decide (PySem.W.takesIn K (.builtin "object.__class__") = some true) && (decide (PySem.W.mroIn K C (.type "object") = some true) && ((["NoneType", "bool", "int", "str", "tuple", "list"].all fun t => decide (PySem.W.kitOne K (.type t) (.ref C) = some false)) &&
  ((["NoneType", "bool", "int", "str", "tuple", "list"].all fun t => PySem.W.notFirst K C (.type t)) && He.eqO (PySem.W.findIn K (.ref C) "__ne__") (some (some (.builtin "object.__ne__"))))))))
theorem isoB_ok {K : PySem.W.Frag} {C : Addr} (cl : Cls K C) (h : isoB K C = true) : IsoC K C := by
  obtain ⟨h1, h⟩ := He.ba h
  obtain ⟨h2, h⟩ := He.ba h
  obtain ⟨h3, h⟩ := He.ba h
  obtain ⟨h4, h⟩ := He.ba h
  obtain ⟨h5, h⟩ := He.ba h
  obtain ⟨h6, h7⟩ := He.ba h
  exact ⟨cl, He.eqO_ok h1, He.eqO_ok h2, of_decide_eq_true h3, of_decide_eq_true h4, fun t ht => of_decide_eq_true (List.all_eq_true.mp h5 t ht), fun t ht => List.all_eq_true.mp h6 t ht, He.eqO_ok h7⟩
theorem iso_all {K : PySem.W.Frag} {CM : CMap} {cn : String} {C : Addr} (hC : CM cn = some C) (I : IsoC K C) {d : D} {r : Bool} {F H : Hp} {v : V} {fp : List Addr} (s : Same F H) (h : D.isOw cn d = some r) (rd : RepO CM F H d v fp) :
    ∃ t, TyX K H v t ∧ PySem.W.kitOne K t (.ref C) = some r := by
  cases d with
  | non =>
    obtain rfl := ro_non rd
    cases (show false = r by simpa [D.isOw] using h)
    exact ⟨_, .base .non, I.oth _ (by simp)⟩
  | bl b =>
    obtain rfl := ro_bl rd
    cases (show false = r by simpa [D.isOw] using h)
    exact ⟨_, .base (.bl b), I.oth _ (by simp)⟩
  | int i =>
    obtain rfl := ro_int rd
    cases (show false = r by simpa [D.isOw] using h)
    exact ⟨_, .base (.int i), I.oth _ (by simp)⟩
  | str t =>
    obtain ⟨rfl, _⟩ := ro_str rd
    cases (show false = r by simpa [D.isOw] using h)
    exact ⟨_, .base (.str _), I.oth _ (by simp)⟩
  | nd k ds =>
    cases k with
    | tup =>
      obtain ⟨pp, vs, rfl, hp, _, _, _⟩ := ro_tup s rd
      cases (show false = r by simpa [D.isOw] using h)
      exact ⟨_, .base (.tup hp), I.oth _ (by simp)⟩
    | lst o =>
      obtain ⟨pp, vs, fps, rfl, hp, _, _⟩ := ro_lst s rd
      cases (show false = r by simpa [D.isOw] using h)
      exact ⟨_, .base (.lst hp), I.oth _ (by simp)⟩
    | obj o c ns =>
      have h' : (if c = cn then some true else none) = some r := h
      split at h'
      · rename_i e
        subst e
        cases h'
        obtain ⟨pp, vs, fps, C', dx, rfl, hl, hC', hp, _⟩ := ro_obj s rd
        rw [hC] at hC'
        cases hC'
        exact ⟨_, .base (.ins hp I.cl I.ha I.hn I.htk I.hm), by unfold PySem.W.kitOne; rw [if_pos (by simp)]⟩
      · cases h'
    | _ => cases h
section
variable {X : Cx} {CM : CMap} {W : WX} {rb : List Nat} {l : XL}
theorem ds_par {i j : Nat} {x y : Str} {a b : Expr} {px py pt pos : Pos} {kt k2 : Nat} {pt2 : Pos} (hc : X.calm = true) (hN : X.N.Nodup) (hi : X.N[i]? = some x) (hj : X.N[j]? = some y) (hij : i ≠ j) (hir : i ∈ rb) (hjr : j ∈ rb)
    (hx : X.env.scope.names.lookup x = some .local) (hy : X.env.scope.names.lookup y = some .local) (ha : PA X [a, b] (tL CM W l))
    (hw : swappedStores [.Tuple [.Name x px, .Name y py] kt pt] (.Tuple [a, b] k2 pt2) X.env = pure (some [x, y])) :
    PS X (.Assign [.Tuple [.Name x px, .Name y py] kt pt] (.Tuple [a, b] k2 pt2) pos) (tS CM W rb (sPar i j l)) :=
  (ps_par hc hN hi hj hij hx hy ha hw).weak fun E σ H ⟨F, ρ, fp, s, q⟩ => by
    refine ⟨F, ρ, fp, s, ?_⟩
    unfold sPar at q
    cases e : l ρ with
    | bad => rw [e] at q; exact q
    | exc c ns ds => rw [e] at q; exact RS.re s q
    | val ds =>
      rw [e] at q
      intro vs F1 H1 g x1 r n f
      simp only [Res.so_val] at q
      split at q
      · rename_i d1 d2
        obtain ⟨v, r', g1, g2', rfl, rfl, r1, r2'⟩ := RepOs.cons_iff.mp r
        obtain ⟨w, r'', g2, g3, rfl, rfl, r2, r3⟩ := RepOs.cons_iff.mp r2'
        obtain ⟨rfl, rfl⟩ := RepOs.nil_iff.mp r3
        obtain ⟨n1, n2, n3⟩ := List.nodup_append.mp n
        have fr := fresh_sl s f
        obtain ⟨fp1, s1, k1⟩ := (s.ext x1).set i r1 n1 fun p hp => fr p (List.mem_append_left _ hp)
        obtain ⟨fp2, s2, k2⟩ := s1.set j r2 (List.nodup_append.mp n2).1 fun p hp => by
          have pm : p ∈ g1 ++ (g2 ++ []) := List.mem_append_right _ (List.mem_append_left _ hp)
          refine ⟨fun z => ?_, (fr p pm).2⟩
          rcases k1 p z with y | y
          · exact (fr p pm).1 y
          · exact n3 p y p (List.mem_append_left _ hp) rfl
        exact ⟨v, w, rfl, q _ F1 H1 fp2 (set_gr (g := g1 ++ (g2 ++ [])) x1 (fun p hp => (f p hp).1) fun p hp => by
          rcases k2 p hp with y | y
          · exact (k1 p y).imp id fun z => List.mem_append_left _ z
          · exact .inr (List.mem_append_right _ (List.mem_append_left _ y))) s2 ((Eqs.set hir).trans (Eqs.set hjr))⟩
      · exact q.elim
end
section
variable {X : Cx} {CM : CMap} {W : WX} {fa : XP} {e : Expr} {pos p : Pos}
theorem dx_isO {T : Str} {cn : String} {C : Addr} {p2 : Pos} (hg : Gl X "isinstance") (hm : X.mg "isinstance" = none) (hgT : Gl X T) (hmT : X.mg T = some (.ref C)) (hC : CM cn = some C) (I : IsoC X.K C) (hdT : (T == ("__debug__" : Str)) = false)
    (hb : bootBuiltins "isinstance" = some (.builtin "isinstance")) (ha : PE X e (tO CM W fa)) (hst : isSt e = false) : PE X (.Call (.Name "isinstance" p) [e, .Name T p2] [] pos) (tX CM W (un (fun d => (D.isOw cn d).map .bl) fa)) :=
  (pe_callB call_isi hg hm hb (pa_cons ha (pa_cons (pe_glob (v := .ref C) hgT hmT rfl hdT) pa_nil rfl) (se1 hst)) (by decide) (by decide) (se1 hst) rfl).weak fun σ H Q ⟨F, ρ, fp, s, q⟩ => ⟨F, ρ, fp, s, RO.then_ q fun d v F1 H1 g1 e1 x1 r1 q1 => by
    replace q1 : RX CM W σ F1 H1 Q (Res.ofO ((D.isOw cn d).map D.bl)) := q1
    cases hd : D.isOw cn d with
    | none => rw [hd] at q1; exact q1.elim
    | some r =>
      rw [hd] at q1
      obtain ⟨ty, k1, k2⟩ := iso_all (K := X.K) hC I x1.sub hd r1
      exact ⟨v, .ref C, ty, .ref C, r, rfl, .own C, k1, k2, q1.v.bl x1.sub⟩⟩
end
end Lc
end
section
set_option Elab.async false
set_option linter.all false
set_option maxRecDepth 100000
set_option maxHeartbeats 2000000
/-! Paths through owned lists. -/
namespace Lc
open PySem PySem.Spec L2
/-- w stands at the path js from v -/
def VAt (H : Hp) : V → List Nat → V → Prop
  | v, [], w => v = w
  | v, j :: js, w => ∃ a vs u, v = .ref a ∧ H a = some (.lst vs) ∧ vs[j]? = some u ∧ VAt H u js w
theorem VAt.mono {H H' : Hp} (s : Same H H') : ∀ {js : List Nat} {v w : V}, VAt H v js w → VAt H' v js w
  | [], _, _, h => h
  | j :: js, _, _, ⟨a, vs, u, e, h1, h2, h3⟩ => ⟨a, vs, u, e, s _ _ h1, h2, VAt.mono s h3⟩
theorem VAt.uniq {H : Hp} : ∀ {js : List Nat} {v w w' : V}, VAt H v js w → VAt H v js w' → w = w'
  | [], _, _, _, h, h' => h.symm.trans h'
  | j :: js, _, _, _, ⟨a, vs, u, e, h1, h2, h3⟩, ⟨a', vs', u', e', h1', h2', h3'⟩ => by
    subst e
    cases e'
    rw [h1] at h1'; cases h1'
    rw [h2] at h2'; cases h2'
    exact VAt.uniq h3 h3'
theorem VAt.snoc {H : Hp} {a : Addr} {vs : List V} {j : Nat} {u : V} : ∀ {js : List Nat} {v : V}, VAt H v js (.ref a) → H a = some (.lst vs) → vs[j]? = some u → VAt H v (js ++ [j]) u
  | [], _, h, h1, h2 => ⟨a, vs, u, h, h1, h2, rfl⟩
  | i :: js, _, ⟨b, ws, x, e, h3, h4, h5⟩, h1, h2 => ⟨b, ws, x, e, h3, h4, VAt.snoc h5 h1 h2⟩
theorem upP_of {js : List Nat} {g : D → Option D} {d d' : D} (h : D.upP js g d = some d') : ∃ e e', D.at js d = some e ∧ g e = some e' ∧ d' = D.setAt js e' d := by
  unfold D.upP at h
  cases h1 : D.at js d with
  | none => rw [h1] at h; cases h
  | some e =>
    rw [h1] at h
    simp only at h
    cases h2 : g e with
    | none => rw [h2] at h; cases h
    | some e' => rw [h2] at h; cases h; exact ⟨e, e', rfl, h2, rfl⟩
theorem at_cons {j : Nat} {js : List Nat} {d e : D} (h : D.at (j :: js) d = some e) : ∃ ds x, d = .nd (.lst true) ds ∧ ds[j]? = some x ∧ D.at js x = some e := by
  unfold D.at at h
  split at h
  · rename_i h0; cases h0
  · rename_i j' js' ds heq
    cases heq
    cases h1 : ds[j]? with
    | none => rw [h1] at h; cases h
    | some x => rw [h1] at h; exact ⟨ds, x, rfl, h1, h⟩
  · cases h
theorem setAt_cons {j : Nat} {js : List Nat} {ds : List D} {x e : D} (h : ds[j]? = some x) : D.setAt (j :: js) e (.nd (.lst true) ds) = .nd (.lst true) (ds.set j (D.setAt js e x)) := by
  show (match ds[j]? with | some x => D.nd (.lst true) (ds.set j (D.setAt js e x)) | none => .nd (.lst true) ds) = _
  rw [h]
theorem pth_snoc : ∀ {ks : List D} {k d : D} {js : List Nat}, D.pth (ks ++ [k]) d = some js → ∃ is i j ds x, D.pth ks d = some is ∧ k = .int i ∧ D.at is d = some (.nd (.lst true) ds) ∧ ixN ds.length i = some j ∧ ds[j]? = some x ∧ js = is ++ [j] ∧ D.at js d = some x
  | [], k, d, js, h => by
    unfold D.pth at h
    simp only [List.nil_append] at h
    split at h
    · rename_i h0; cases h0
    · rename_i i ks ds heq
      cases heq
      split at h
      · rename_i j hj
        split at h
        · rename_i e he
          have e1 : D.pth [] e = some [] := rfl
          simp only [e1] at h
          cases h
          exact ⟨[], i, j, ds, e, rfl, rfl, rfl, hj, he, rfl, by show D.at [j] (.nd (.lst true) ds) = _; rw [D.at, he]; rfl⟩
        · cases h
      · cases h
    · cases h
  | k0 :: ks, k, d, js, h => by
    rw [List.cons_append] at h
    cases k0 with
    | int i0 =>
      cases d with
      | nd kd ds =>
        cases kd with
        | lst o =>
          cases o with
          | true =>
            unfold D.pth at h
            split at h
            · rename_i j0 hj0
              split at h
              · rename_i e0 he0
                split at h
                · rename_i js0 hjs0
                  cases h
                  obtain ⟨is, i, j, es, x, h1, h2, h3, h4, h5, h6, h7⟩ := pth_snoc hjs0
                  refine ⟨j0 :: is, i, j, es, x, ?_, h2, ?_, h4, h5, by rw [h6]; rfl, ?_⟩
                  · unfold D.pth; simp only [hj0, he0, h1]
                  · unfold D.at; simp only [he0]; exact h3
                  · unfold D.at; simp only [he0]; exact h7
                · cases h
              · cases h
            · cases h
          | false => cases h
        | _ => cases h
      | _ => cases h
    | _ => cases h
theorem pth_at : ∀ {ks : List D} {d : D} {js : List Nat}, D.pth ks d = some js → ∃ e, D.at js d = some e
  | [], d, js, h => by cases h; exact ⟨d, rfl⟩
  | k0 :: ks, d, js, h => by
    cases k0 with
    | int i0 =>
      cases d with
      | nd kd ds =>
        cases kd with
        | lst o =>
          cases o with
          | true =>
            unfold D.pth at h
            split at h
            · rename_i j0 hj0
              split at h
              · rename_i e0 he0
                split at h
                · rename_i js0 hjs0
                  cases h
                  obtain ⟨e, he⟩ := pth_at hjs0
                  exact ⟨e, by unfold D.at; simp only [he0]; exact he⟩
                · cases h
              · cases h
            · cases h
          | false => cases h
        | _ => cases h
      | _ => cases h
    | _ => cases h
section
variable {CM : CMap} {F H : Hp}
theorem RepOs.focus : ∀ {ds : List D} {vs : List V} {fp : List Addr} {j : Nat} {e : D}, RepOs CM F H ds vs fp → ds[j]? = some e → ∃ u A B C, vs[j]? = some u ∧ fp = A ++ (B ++ C) ∧ RepO CM F H e u B ∧
    ∀ {F' H' : Hp} {e' : D} {B' : List Addr}, Same F F' → (∀ q, q ∈ A ∨ q ∈ C → H' q = H q) → RepO CM F' H' e' u B' → RepOs CM F' H' (ds.set j e') vs (A ++ (B' ++ C))
  | [], _, _, _, _, _, e => by simp at e
  | x :: ds, vs, fp, 0, e, h, he => by
    obtain ⟨u, r, f, g, rfl, rfl, h2, h3⟩ := RepOs.cons_iff.mp h
    simp at he; subst he
    refine ⟨u, [], f, g, rfl, rfl, h2, fun {F' H' e' B'} s k r' => RepOs.cons_iff.mpr ⟨u, r, B', g, rfl, rfl, r', ?_⟩⟩
    exact RepOs.ext s (Same.refl _) _ _ _ (RepOs.loc _ _ _ (fun q hq => k q (.inr hq)) h3)
  | x :: ds, vs, fp, j + 1, e, h, he => by
    obtain ⟨u, r, f, g, rfl, rfl, h2, h3⟩ := RepOs.cons_iff.mp h
    obtain ⟨w, A, B, C, k1, rfl, k3, k4⟩ := RepOs.focus (j := j) h3 (by simpa using he)
    refine ⟨w, f ++ A, B, C, by simpa using k1, by rw [List.append_assoc], k3, fun {F' H' e' B'} s k r' => ?_⟩
    rw [List.append_assoc]
    exact RepOs.cons_iff.mpr ⟨u, r, f, _, rfl, rfl, RepO.ext s (Same.refl _) _ _ _ (RepO.loc _ _ _ (fun q hq => k q (.inl (List.mem_append_left _ hq))) h2),
      k4 s (fun q hq => k q (hq.imp (List.mem_append_right _) id)) r'⟩
theorem RepO.focus : ∀ {js : List Nat} {d : D} {v : V} {fp : List Addr} {e : D}, RepO CM F H d v fp → fp.Nodup → D.at js d = some e → ∃ w f, VAt H v js w ∧ RepO CM F H e w f ∧ f.Nodup ∧ (∀ q ∈ f, q ∈ fp) ∧
    ∀ {F' H' : Hp} {e' : D} {f' : List Addr}, Same F F' → (∀ q ∈ fp, q ∉ f → H' q = H q) → RepO CM F' H' e' w f' → f'.Nodup → (∀ q ∈ f', q ∈ f ∨ q ∉ fp) → ∃ fp', RepO CM F' H' (D.setAt js e' d) v fp' ∧ fp'.Nodup ∧ ∀ q ∈ fp', (q ∈ fp ∧ q ∉ f) ∨ q ∈ f'
  | [], d, v, fp, e, h, n, he => by
    cases he
    exact ⟨v, fp, rfl, h, n, fun _ hq => hq, fun {F' H' e' f'} s k r' n' hf => ⟨f', r', n', fun q hq => .inr hq⟩⟩
  | j :: js, d, v, fp, e, h, n, he => by
    obtain ⟨ds, x, rfl, hx, he'⟩ := at_cons he
    rw [RepO.nd_iff, if_pos (show (Kd.lst true).own = true from rfl)] at h
    obtain ⟨p, vs, fps, rfl, hk, hr, rfl⟩ := h
    obtain ⟨n1, n2⟩ := List.nodup_cons.mp n
    obtain ⟨u, A, B, C, k1, rfl, k3, k4⟩ := RepOs.focus hr hx
    obtain ⟨a1, a2, a3⟩ := List.nodup_append.mp n2
    obtain ⟨b1, b2, b3⟩ := List.nodup_append.mp a2
    obtain ⟨w, f, w1, w2, w3, w4, w5⟩ := RepO.focus k3 b1 he'
    have inB : ∀ q, q ∈ B → q ∈ A ++ (B ++ C) := fun q hq => List.mem_append_right _ (List.mem_append_left _ hq)
    refine ⟨w, f, ⟨p, vs, u, rfl, hk.1, k1, w1⟩, w2, w3, fun q hq => List.mem_cons_of_mem _ (inB q (w4 q hq)), fun {F' H' e' f'} s k r' n' hf => ?_⟩
    have hf' : ∀ q ∈ f', q ∈ f ∨ q ∉ B := fun q hq => (hf q hq).imp id fun z hz => z (List.mem_cons_of_mem _ (inB q hz))
    have kB : ∀ q ∈ B, q ∉ f → H' q = H q := fun q hq hn => k q (List.mem_cons_of_mem _ (inB q hq)) hn
    obtain ⟨B', c1, c2, c3⟩ := w5 s kB r' n' hf'
    have nAf : ∀ q ∈ A, q ∉ f := fun q hq z => a3 q hq q (List.mem_append_left _ (w4 q z)) rfl
    have nCf : ∀ q ∈ C, q ∉ f := fun q hq z => b3 q (w4 q z) q hq rfl
    have npf : p ∉ f := fun z => n1 (inB p (w4 p z))
    have c4 := k4 (e' := D.setAt js e' x) s (fun q hq => by
      rcases hq with hq | hq
      · exact k q (List.mem_cons_of_mem _ (List.mem_append_left _ hq)) (nAf q hq)
      · exact k q (List.mem_cons_of_mem _ (List.mem_append_right _ (List.mem_append_right _ hq))) (nCf q hq)) c1
    have hp : H' p = H p := k p List.mem_cons_self npf
    have out : ∀ q ∈ B', (q ∈ B) ∨ (q ∉ p :: (A ++ (B ++ C))) := fun q hq => by
      rcases c3 q hq with z | z
      · exact .inl z.1
      · rcases hf q z with y | y
        · exact .inl (w4 q y)
        · exact .inr y
    refine ⟨p :: (A ++ (B' ++ C)), ?_, ?_, ?_⟩
    · rw [setAt_cons hx, RepO.nd_iff, if_pos (show (Kd.lst true).own = true from rfl)]
      exact ⟨p, vs, _, rfl, KAt.loc (show (Kd.lst true).own = true from rfl) hp hk, c4, rfl⟩
    · refine List.nodup_cons.mpr ⟨fun z => ?_, List.nodup_append.mpr ⟨a1, List.nodup_append.mpr ⟨c2, b2, fun q hq r hr e => ?_⟩, fun q hq r hr e => ?_⟩⟩
      · rcases List.mem_append.mp z with z | z
        · exact n1 (List.mem_append_left _ z)
        · rcases List.mem_append.mp z with z | z
          · rcases out p z with y | y
            · exact n1 (inB p y)
            · exact y List.mem_cons_self
          · exact n1 (List.mem_append_right _ (List.mem_append_right _ z))
      · subst e
        rcases out q hq with y | y
        · exact b3 q y q hr rfl
        · exact y (List.mem_cons_of_mem _ (List.mem_append_right _ (List.mem_append_right _ hr)))
      · subst e
        rcases List.mem_append.mp hr with z | z
        · rcases out q z with y | y
          · exact a3 q hq q (List.mem_append_left _ y) rfl
          · exact y (List.mem_cons_of_mem _ (List.mem_append_left _ hq))
        · exact a3 q hq q (List.mem_append_right _ z) rfl
    · intro q hq
      rcases List.mem_cons.mp hq with z | z
      · subst z; exact .inl ⟨List.mem_cons_self, npf⟩
      · rcases List.mem_append.mp z with z | z
        · exact .inl ⟨List.mem_cons_of_mem _ (List.mem_append_left _ z), nAf q z⟩
        · rcases List.mem_append.mp z with z | z
          · rcases c3 q z with y | y
            · exact .inl ⟨List.mem_cons_of_mem _ (inB q y.1), y.2⟩
            · exact .inr y
          · exact .inl ⟨List.mem_cons_of_mem _ (List.mem_append_right _ (List.mem_append_right _ z)), nCf q z⟩
/-- a path from a slot -/
theorem Sl.path {ρ : Env} {σ : L2.St} {fp : List Addr} {i : Nat} {js : List Nat} {d e : D} (s : Sl CM F H ρ σ fp) (hi : getE ρ i = some d) (he : D.at js d = some e) :
    ∃ r w f, σ[i]? = some (some r) ∧ VAt H r js w ∧ RepO CM F H e w f ∧ f.Nodup ∧ (∀ q ∈ f, q ∈ fp) ∧
      ∀ {F' H' : Hp} {e' : D} {f' : List Addr}, Same F F' → Same F' H' → (∀ q ∈ fp, q ∉ f → H' q = H q ∧ F' q = none) → (∀ q ∈ f', F' q = none) → RepO CM F' H' e' w f' → f'.Nodup → (∀ q ∈ f', q ∈ f ∨ q ∉ fp) →
        ∃ fp', Sl CM F' H' (setE ρ i (D.setAt js e' d)) σ fp' ∧ ∀ q ∈ fp', (q ∈ fp ∧ q ∉ f) ∨ q ∈ f' := by
  obtain ⟨v, g, k1, k2, k3, k4, k5⟩ := s.rep.at (getE_some hi)
  obtain ⟨w, f, w1, w2, w3, w4, w5⟩ := RepO.focus k2 (k4 s.nd) he
  refine ⟨v, w, f, k1, w1, w2, w3, fun q hq => k3 q (w4 q hq), fun {F' H' e' f'} sF sH kp nf r' n' hf => ?_⟩
  obtain ⟨g', a1, a2, a3⟩ := w5 sF (fun q hq hn => (kp q (k3 q hq) hn).1) r' n' (fun q hq => (hf q hq).imp id fun z y => z (k3 q y))
  obtain ⟨fp', b1, b2, b3⟩ := k5 (F' := F') (H' := H') a1 fun {ρ σ h} hi hn x => SRep.ext sF (Same.refl _) (SRep.loc (fun q hq => (kp q (hi q hq) fun z => hn s.nd q hq (w4 q z)).1) x)
  have out : ∀ q ∈ fp', (q ∈ fp ∧ q ∉ f) ∨ q ∈ f' := fun q hq => by
    rcases b2 q hq with ⟨z1, z2⟩ | z
    · exact .inl ⟨z1, fun y => z2 s.nd (w4 q y)⟩
    · rcases a3 q z with y | y
      · exact .inl ⟨k3 q y.1, y.2⟩
      · exact .inr y
  refine ⟨fp', ⟨b1, b3 s.nd a2 (fun q hq hq2 => ?_), fun q hq => ?_, sH⟩, out⟩
  · rcases a3 q hq with y | y
    · exact y.1
    · rcases hf q y with z | z
      · exact w4 q z
      · exact absurd hq2 z
  · rcases out q hq with y | y
    · exact (kp q y.1 y.2).2
    · exact nf q y
theorem Sl.frzP {ρ : Env} {σ : L2.St} {fp : List Addr} (s : Sl CM F H ρ σ fp) (i : Nat) (js : List Nat) : ∃ F' fp', Sl CM F' H (frzPE ρ i js) σ fp' ∧ Gr F H fp F' H fp' := by
  unfold frzPE
  cases hi : getE ρ i with
  | none => exact ⟨F, fp, s, Gr.refl⟩
  | some d =>
    simp only
    cases hu : D.upP js (fun e => some e.frz) d with
    | none => exact ⟨F, fp, s, Gr.refl⟩
    | some d' =>
      obtain ⟨e, e', h1, h2, rfl⟩ := upP_of hu
      cases h2
      obtain ⟨r, w, f, k1, k2, k3, k4, k5, k6⟩ := s.path hi h1
      have nf : ∀ p ∈ f, F p = none := fun p hp => s.nf p (k5 p hp)
      obtain ⟨fp', a1, a2⟩ := k6 (F' := adopt F H f) (H' := H) (e' := e.frz) (f' := []) (adopt_ff nf) (adopt_sub s.sub) (fun q hq hn => ⟨rfl, by rw [adopt_out hn]; exact s.nf q hq⟩) (fun q hq => nomatch hq)
        (RepO.frz (adopt_ff nf) e w f (fun p hp => adopt_in hp) k3).o List.nodup_nil (fun q hq => nomatch hq)
      refine ⟨adopt F H f, fp', a1, ⟨fun _ _ e _ => e, adopt_ff nf, fun a o e _ n k => ?_, fun p hp => .inl ((a2 p hp).elim (fun z => z.1) fun z => nomatch z)⟩⟩
      rw [adopt_out fun z => n (k5 a z)]; exact k
end
section
variable {X : Cx} {CM : CMap} {W : WX} {rb : List Nat} {f g : XS} {a fa fk fv : XP} {e e2 o : Expr} {st : Stmt} {sts : List Stmt} {pos p ap cp sp : Pos} {i : Nat} {l : XL}
theorem ds_frzP {i : Nat} {js : List Nat} (h : PS X st (tS CM W rb f)) : PS X st (tS CM W rb (sFrzP i js f)) := h.weak fun E σ H ⟨F, ρ, fp, s, q⟩ => by
  obtain ⟨F', fp', s', g'⟩ := s.frzP i js
  exact ⟨F', _, fp', s', RS.gr g' Eqs.refl q⟩
/-- a path's value -/
def tPt (CM : CMap) (W : WX) (i : Nat) (l : XL) : TE := fun σ H Q => ∃ F ρ fp d ks js, Sl CM F H ρ σ fp ∧ getE ρ i = some d ∧ l ρ = .val ks ∧ D.pth ks d = some js ∧ ∀ r v F' H', σ[i]? = some (some r) → Ext F H F' H' → VAt H' r js v → Q v H'
theorem dp_name {x : Str} (hN : X.N[i]? = some x) (hv : Vis X.env.scope x) (hd : (x == ("__debug__" : Str)) = false) (hcd : (x == ("__classdict__" : Str)) = false) : PE X (.Name x p) (tPt CM W i lnil) :=
  (pe_var hN hv hd hcd).weak fun σ H Q ⟨F, ρ, fp, d, ks, js, s, hi, hl, hp, q⟩ => by
    cases hl
    cases hp
    obtain ⟨v, f, e1, e2⟩ := s.rep.get (getE_some hi)
    exact ⟨v, e1, q v v F H e1 (Ext.refl s.sub) rfl⟩
theorem noX_val {α : Type} {r : Res α} {a : α} (h : r.noX = .val a) : r = .val a := by
  cases r with
  | val b => exact h
  | exc c ns vs => cases h
  | bad => cases h
theorem lsnoc_val {l : XL} {fe : XP} {ρ : Env} {ks : List D} (h : lsnoc l fe ρ = .val ks) : ∃ ds d, l ρ = .val ds ∧ fe ρ = .val d ∧ ks = ds ++ [d] := by
  unfold lsnoc at h
  cases h1 : (l ρ).noX with
  | val ds =>
    rw [h1] at h
    cases h2 : (fe ρ).noX with
    | val d =>
      rw [Res.bind_val, h2] at h
      cases h
      exact ⟨ds, d, noX_val h1, noX_val h2, rfl⟩
    | exc c ns vs => rw [Res.bind_val, h2] at h; cases h
    | bad => rw [Res.bind_val, h2] at h; cases h
  | exc c ns vs => rw [h1] at h; cases h
  | bad => rw [h1] at h; cases h
theorem dp_sub (ho : PE X o (tPt CM W i l)) (he : PE X e (tO CM W fa)) (hs : PlainIx e) : PE X (.Subscript o e p) (tPt CM W i (lsnoc l fa)) :=
  (pe_ix ix_list ho he hs).weak fun σ H Q ⟨F, ρ, fp, d, ks, js, s, hi, hl, hp, q⟩ => by
    obtain ⟨ds, k, h1, h2, rfl⟩ := lsnoc_val hl
    obtain ⟨is, n, j, es, x, p1, rfl, p3, p4, p5, rfl, p7⟩ := pth_snoc hp
    refine ⟨F, ρ, fp, d, ds, is, s, hi, h1, p1, fun r v F1 H1 hr x1 va => ?_⟩
    have s1 := s.ext x1
    refine ⟨F1, ρ, fp, s1, ?_⟩
    rw [h2]
    intro v2 F2 H2 gg x2 r2
    obtain rfl := ro_int r2
    obtain ⟨r', w, f, g1, g2, g3, g4, g5, g6⟩ := (s1.ext x2).path hi p3
    rw [hr] at g1; cases g1
    have evw := VAt.uniq (va.mono x2.hh) g2
    subst evw
    obtain ⟨a, vs, fps, rfl, k1, k2, k3⟩ := ro_lst x2.sub g3
    obtain ⟨u, f', e1, e2⟩ := k3.get p5
    refine ⟨a, vs, n, u, rfl, rfl, SqL.of k1, ?_, q r u F2 H2 hr (x1.trans x2) (VAt.snoc (va.mono x2.hh) k1 e1)⟩
    unfold L2.atI
    rw [← k3.length, ixN_eq, p4]
    exact e1
/-- o.append(e), o at a path -/
theorem ds_appendP (ho : PE X o (tPt CM W i l)) (nsup : notSuper o = true) (he : PE X e (tX CM W a)) (hst : isSt e = false) (hl : (ap.endLine == cp.line) = true) :
    PS X (.Expr (.Call (.Attribute o "append" ap) [e] [] cp) pos) (tS CM W rb (sP1 D.app i l a)) := by
  refine (ps_expr (pe_bm F.plainAttrs_list F.slot_list_append F.type_list_append mt_append ho (pa_cons he pa_nil (se1 hst)) (base_of nsup) (few1 hst) hl (se1 hst) plain0) rfl).weak fun E σ H ⟨F, ρ, fp, s, q⟩ => ?_
  unfold sP1 at q
  cases hi : getE ρ i with
  | none => rw [hi] at q; exact q.elim
  | some d =>
    rw [hi] at q
    simp only at q
    cases hk : (l ρ).noX with
    | exc c ns vs => cases hh : l ρ <;> rw [hh] at hk <;> cases hk
    | bad => rw [hk] at q; exact q.elim
    | val ks =>
      rw [hk] at q
      simp only [Res.so_val] at q
      cases hp : D.pth ks d with
      | none => rw [hp] at q; exact q.elim
      | some js =>
        rw [hp] at q
        simp only at q
        split at q
        · rename_i ds hat
          refine ⟨F, ρ, fp, d, ks, js, s, hi, noX_val hk, hp, fun r v F1 H1 hr x1 va => ?_⟩
          have s1 := s.ext x1
          obtain ⟨r', w, f, g1, g2, g3, g4, g5, g6⟩ := s1.path hi hat
          rw [hr] at g1; cases g1
          have evw := VAt.uniq va g2
          subst evw
          obtain ⟨a', vs, fps, rfl, k1, k2, k3⟩ := ro_lst x1.sub g3
          refine ⟨.inl ⟨rfl, vs, .inl (.inl k1)⟩, F1, ρ, fp, s1, ?_⟩
          refine RS.x0 s1 (RS.gr (Gr.of_ext x1) Eqs.refl q) fun dv v F2 H2 g ed x2 r n fr q' => ?_
          have x12 := x1.trans x2
          have s2 := s1.ext x2
          cases hu : D.upP js (fun e => D.app e dv) d with
          | none => rw [ed] at q; simp only [Res.so_val, hu] at q; exact q.elim
          | some d' =>
            rw [ed] at q; simp only [Res.so_val, hu] at q
            obtain ⟨e0, e', u1, u2, rfl⟩ := upP_of hu
            rw [hat] at u1; cases u1
            have u2' : (if ds.length < LINE then some (.lst true (ds ++ [dv])) else none) = some e' := u2
            by_cases hz : ds.length < LINE
            · rw [if_pos hz] at u2'
              cases u2'
              refine ⟨a', vs, v, rfl, rfl, x2.hh _ _ k1, by rw [← LINE_eq, ← k3.length]; exact hz, ?_⟩
              obtain ⟨r2', w2, f2, m1, m2, m3, m4, m5, m6⟩ := s2.path hi hat
              rw [hr] at m1; cases m1
              have e2 := VAt.uniq (va.mono x2.hh) m2
              subst e2
              rw [RepO.nd_iff, if_pos (show (Kd.lst true).own = true from rfl)] at m3
              obtain ⟨p', vs', fps', q1, q2, q3, q4⟩ := m3
              cases q1
              have : H2 a' = some (.lst vs') := q2.1
              rw [x2.hh _ _ k1] at this; cases this
              have fg := fresh_sl s1 fr
              have af : a' ∈ f2 := by rw [q4]; exact List.mem_cons_self
              obtain ⟨z1, z2⟩ := List.nodup_cons.mp (q4 ▸ m4)
              have ng : ∀ q ∈ g, q ≠ a' := fun q hq z => (fg q hq).1 (z ▸ m5 a' af)
              have hF2 : F2 a' = none := s2.nf a' (m5 a' af)
              obtain ⟨fp', c1, c2⟩ := m6 (F' := F2) (H' := upd H2 a' (.lst (vs ++ [v]))) (e' := .lst true (ds ++ [dv])) (f' := a' :: (fps' ++ (g ++ []))) (Same.refl _)
                (fun b o e => by rw [upd_ne (fun z => by rw [z, hF2] at e; cases e)]; exact x2.sub b o e)
                (fun q hq hn => ⟨upd_ne fun z => hn (z ▸ af), s2.nf q hq⟩)
                (fun q hq => by
                  rcases List.mem_cons.mp hq with y | y
                  · rw [y]; exact hF2
                  · rcases List.mem_append.mp y with y | y
                    · exact s2.nf q (m5 q (by rw [q4]; exact List.mem_cons_of_mem _ y))
                    · exact (fg q (by simpa using y)).2)
                (by
                  rw [RepO.nd_iff, if_pos (show (Kd.lst true).own = true from rfl)]
                  refine ⟨a', vs ++ [v], _, rfl, ⟨upd_same, by rw [List.length_append, List.length_singleton, ← k3.length]; omega⟩, RepOs.append (RepOs.loc _ _ _ (fun q hq => upd_ne fun y => z1 (y ▸ hq)) q3) (RepOs.cons_iff.mpr ⟨v, [], g, [], rfl, rfl, RepO.loc _ _ _ (fun q hq => upd_ne (ng q hq)) r, RepOs.nil_iff.mpr ⟨rfl, rfl⟩⟩), rfl⟩)
                (by
                  rw [List.append_nil]
                  refine List.nodup_cons.mpr ⟨fun y => ?_, List.nodup_append.mpr ⟨z2, n, fun q hq b hb e => (fg b hb).1 (e ▸ m5 q (by rw [q4]; exact List.mem_cons_of_mem _ hq))⟩⟩
                  rcases List.mem_append.mp y with y | y
                  · exact z1 y
                  · exact ng a' y rfl)
                (fun q hq => by
                  rcases List.mem_cons.mp hq with y | y
                  · exact .inl (y ▸ af)
                  · rcases List.mem_append.mp y with y | y
                    · exact .inl (by rw [q4]; exact List.mem_cons_of_mem _ y)
                    · exact .inr (fg q (by simpa using y)).1)
              refine q σ F2 _ fp' (wr_gr (g := g) x12 (m5 a' af) (fun q hq => .inr ?_) fun q hq => ?_) c1 Eqs.refl
              · cases hh : H q with
                | none => rfl
                | some o => have := x1.hh _ _ hh; rw [(fr q hq).1] at this; cases this
              · rcases c2 q hq with y | y
                · exact .inl y.1
                · rcases List.mem_cons.mp y with y | y
                  · exact .inl (y ▸ m5 a' af)
                  · rcases List.mem_append.mp y with y | y
                    · exact .inl (m5 q (by rw [q4]; exact List.mem_cons_of_mem _ y))
                    · exact .inr (by simpa using y)
            · rw [if_neg hz] at u2'; cases u2'
        · exact q.elim
/-- an owned thing at a path is written -/
theorem fin_path {F H : Hp} {ρ : Env} {σ : L2.St} {fp : List Addr} {js : List Nat} {d : D} {k : Kd} {ds : List D} (s : Sl CM F H ρ σ fp) (hi : getE ρ i = some d) (hat : D.at js d = some (.nd k ds)) (hk : k.own = true) :
    ∃ r a vs fps, σ[i]? = some (some r) ∧ VAt H r js (.ref a) ∧ KAt CM H (RdX H) k a vs ∧ RepOs CM F H ds vs fps ∧ (a :: fps).Nodup ∧ (∀ q ∈ a :: fps, q ∈ fp) ∧
      ∀ {o' : HO} {d' : D} {f' : List Addr}, RepO CM F (upd H a o') d' (.ref a) f' → f'.Nodup → (∀ q ∈ f', q ∈ a :: fps ∨ (q ∉ fp ∧ F q = none)) → ∃ fp', Sl CM F (upd H a o') (setE ρ i (D.setAt js d' d)) σ fp' ∧ ∀ q ∈ fp', (q ∈ fp ∧ q ∉ a :: fps) ∨ q ∈ f' := by
  obtain ⟨r, w, f, g1, g2, g3, g4, g5, g6⟩ := s.path hi hat
  rw [RepO.nd_iff, if_pos hk] at g3
  obtain ⟨a, vs, fps, rfl, h2, h3, rfl⟩ := g3
  have hF : F a = none := s.nf a (g5 a List.mem_cons_self)
  refine ⟨r, a, vs, fps, g1, g2, h2, h3, g4, g5, fun {o' d' f'} r' nd hf => ?_⟩
  exact g6 (Same.refl _) (fun b o e => by rw [upd_ne (fun z => by rw [z, hF] at e; cases e)]; exact s.sub b o e) (fun q hq hn => ⟨upd_ne fun z => hn (z ▸ List.mem_cons_self), s.nf q hq⟩)
    (fun q hq => (hf q hq).elim (fun z => s.nf q (g5 q z)) fun z => z.2) r' nd (fun q hq => (hf q hq).imp id fun z => z.1)
theorem RepOs.erase {F H : Hp} : ∀ {ds : List D} {vs : List V} {f : List Addr} (j : Nat), RepOs CM F H ds vs f → ∃ f', RepOs CM F H (ds.eraseIdx j) (vs.eraseIdx j) f' ∧ (∀ q ∈ f', q ∈ f) ∧ (f.Nodup → f'.Nodup)
  | [], vs, f, j, h => by
    obtain ⟨rfl, rfl⟩ := RepOs.nil_iff.mp h
    exact ⟨[], RepOs.nil_iff.mpr ⟨by simp, rfl⟩, (fun _ h => h), id⟩
  | x :: ds, vs, f, 0, h => by
    obtain ⟨u, r, f1, f2, rfl, rfl, h2, h3⟩ := RepOs.cons_iff.mp h
    exact ⟨f2, h3, fun q hq => List.mem_append_right _ hq, fun n => (List.nodup_append.mp n).2.1⟩
  | x :: ds, vs, f, j + 1, h => by
    obtain ⟨u, r, f1, f2, rfl, rfl, h2, h3⟩ := RepOs.cons_iff.mp h
    obtain ⟨f', k1, k2, k3⟩ := RepOs.erase j h3
    refine ⟨f1 ++ f', RepOs.cons_iff.mpr ⟨u, _, f1, f', rfl, rfl, h2, k1⟩, fun q hq => ?_, fun n => ?_⟩
    · rcases List.mem_append.mp hq with z | z
      · exact List.mem_append_left _ z
      · exact List.mem_append_right _ (k2 q z)
    · obtain ⟨n1, n2, n3⟩ := List.nodup_append.mp n
      exact List.nodup_append.mpr ⟨n1, k3 n2, fun p hp q hq e => n3 p hp q (k2 q hq) e⟩
theorem seqIx {n : Nat} {i : Int} {j : Nat} (h : ixN n i = some j) : seqIndex? i n = some j := by
  have h' : L2.ixN n i = some j := h
  exact (L2.ixN_seq h').1
/-- o.pop(e) as a statement, o at a path -/
theorem ds_popAtP (ho : PE X o (tPt CM W i l)) (nsup : notSuper o = true) (he : PE X e (tO CM W a)) (hst : isSt e = false) (hl : (ap.endLine == cp.line) = true) :
    PS X (.Expr (.Call (.Attribute o "pop" ap) [e] [] cp) pos) (tS CM W rb (sP1 D.popAt i l a)) := by
  refine (ps_expr (pe_bm F.plainAttrs_list F.slot_list_pop F.type_list_pop mt_popAt ho (pa_cons he pa_nil (se1 hst)) (base_of nsup) (few1 hst) hl (se1 hst) plain0) rfl).weak fun E σ H ⟨F, ρ, fp, s, q⟩ => ?_
  unfold sP1 at q
  cases hi : getE ρ i with
  | none => rw [hi] at q; exact q.elim
  | some d =>
    rw [hi] at q
    simp only at q
    cases hk : (l ρ).noX with
    | exc c ns vs => cases hh : l ρ <;> rw [hh] at hk <;> cases hk
    | bad => rw [hk] at q; exact q.elim
    | val ks =>
      rw [hk] at q
      simp only [Res.so_val] at q
      cases hp : D.pth ks d with
      | none => rw [hp] at q; exact q.elim
      | some js =>
        rw [hp] at q
        simp only at q
        split at q
        · rename_i ds hat
          refine ⟨F, ρ, fp, d, ks, js, s, hi, noX_val hk, hp, fun r v F1 H1 hr x1 va => ?_⟩
          have s1 := s.ext x1
          obtain ⟨r', a', vs, fps, g1, g2, g3, g4, g5, g6, g7⟩ := fin_path s1 hi hat rfl
          rw [hr] at g1; cases g1
          have evw := VAt.uniq va g2
          subst evw
          refine ⟨.inl ⟨rfl, vs, .inl (.inl g3.1)⟩, F1, ρ, fp, s1, ?_⟩
          refine RS.o0 s1 (RS.gr (Gr.of_ext x1) Eqs.refl q) fun dv v F2 H2 g ed x2 r q' => ?_
          have x12 := x1.trans x2
          have s2 := s1.ext x2
          cases hu : D.upP js (fun e => D.popAt e dv) d with
          | none => rw [ed] at q; simp only [Res.so_val, hu] at q; exact q.elim
          | some d' =>
            rw [ed] at q; simp only [Res.so_val, hu] at q
            obtain ⟨e0, e', u1, u2, rfl⟩ := upP_of hu
            rw [hat] at u1; cases u1
            unfold D.popAt at u2
            split at u2
            · rename_i ds' n heq
              cases heq
              obtain rfl := ro_int r
              split at u2
              · rename_i hz
                split at u2
                · rename_i j hj
                  cases u2
                  obtain ⟨r2', a2, vs2, fps2, m1, m2, m3, m4, m5, m6, m7⟩ := fin_path s2 hi hat rfl
                  rw [hr] at m1; cases m1
                  have e2 := VAt.uniq (va.mono x2.hh) m2
                  cases e2
                  have hj' : j < vs2.length := by
                    rw [← m4.length]
                    unfold ixN at hj
                    split at hj
                    · split at hj
                      · cases hj; omega
                      · cases hj
                    · split at hj
                      · cases hj; omega
                      · cases hj
                  refine ⟨a', vs2, n, j, vs2[j], rfl, rfl, m3.1, hz.1, hz.2, seqIx (by rw [← m4.length]; exact hj), List.getElem?_eq_getElem hj', ?_⟩
                  obtain ⟨f', c1, c2, c3⟩ := RepOs.erase j m4
                  obtain ⟨z1, z2⟩ := List.nodup_cons.mp m5
                  obtain ⟨fp', b1, b2⟩ := m7 (o' := .lst (vs2.eraseIdx j)) (d' := .lst true (ds.eraseIdx j)) (f' := a' :: f') (by
                      rw [RepO.nd_iff, if_pos (show (Kd.lst true).own = true from rfl)]
                      exact ⟨a', _, f', rfl, ⟨upd_same, Nat.le_trans (List.length_eraseIdx_le _ _) m3.2⟩, RepOs.loc _ _ _ (fun q hq => upd_ne fun y => z1 (y ▸ c2 q hq)) c1, rfl⟩)
                    (List.nodup_cons.mpr ⟨fun y => z1 (c2 _ y), c3 z2⟩) (fun q hq => .inl (by
                      rcases List.mem_cons.mp hq with y | y
                      · rw [y]; exact List.mem_cons_self
                      · exact List.mem_cons_of_mem _ (c2 q y)))
                  exact q σ F2 _ fp' (wr_gr (g := []) x12 (m6 a' List.mem_cons_self) (fun q hq => nomatch hq) fun q hq => by
                    rcases b2 q hq with y | y
                    · exact .inl y.1
                    · rcases List.mem_cons.mp y with y | y
                      · exact .inl (y ▸ m6 a' List.mem_cons_self)
                      · exact .inl (m6 q (List.mem_cons_of_mem _ (c2 q y)))) b1 Eqs.refl
                · cases u2
              · cases u2
            · cases u2
        · exact q.elim
/-- o[k] = e, o at a path -/
theorem ds_putP {k : Expr} (hu : X.A.units + 1 < cLine) (ho : PE X o (tPt CM W i l)) (hk : PE X k (tO CM W fk)) (he : PE X e (tX CM W a)) (hsl : isSl k = false)
    (hs : swapsWithSole [.Subscript o k sp] e pos.line X.env = pure false) (hw : swappedStores [.Subscript o k sp] e X.env = pure none) :
    PS X (.Assign [.Subscript o k sp] e pos) (tS CM W rb (sPutP i l fk a)) := by
  refine (ps_asg he (pg_sub ho hk (put_any (CM := CM) hu) (asg_sub hsl)) hs hw rfl).weak fun E σ H ⟨F, ρ, fp, s, q⟩ => ?_
  unfold sPutP at q
  refine ⟨F, ρ, fp, s, RS.x0 s q fun dv v F1 H1 g ed x1 r n f q1 => ?_⟩
  have s1 := s.ext x1
  have f1 := fresh_sl s f
  cases hi : getE ρ i with
  | none => rw [hi] at q1; exact q1.elim
  | some d =>
    rw [hi] at q1
    simp only at q1
    cases hkk : (l ρ).noX with
    | exc c ns vs => cases hh : l ρ <;> rw [hh] at hkk <;> cases hkk
    | bad => rw [hkk] at q1; exact q1.elim
    | val ks =>
      rw [hkk] at q1
      simp only [Res.so_val] at q1
      cases hp : D.pth ks d with
      | none => rw [hp] at q1; exact q1.elim
      | some js =>
        rw [hp] at q1
        simp only at q1
        refine ⟨F1, ρ, fp, d, ks, js, s1, hi, noX_val hkk, hp, fun rr w F2 H2 hr x2 va => ?_⟩
        have s2 := s1.ext x2
        have x12 := x1.trans x2
        refine ⟨F2, ρ, fp, s2, RS.o0 s2 (RS.gr (Gr.of_ext x12) Eqs.refl q1) fun dk kv F3 H3 g3 edk x3 r3 q3 => ?_⟩
        have s3 := s2.ext x3
        have x13 := x12.trans x3
        have xx := x2.trans x3
        have r4 := r.ext xx.ff xx.hh
        have f4 : ∀ p ∈ g, p ∉ fp ∧ F3 p = none := fun p hp => ⟨(f1 p hp).1, by
          obtain ⟨o, ho, ht⟩ := RepO.dom _ _ _ r p hp
          exact xx.new p o ho ht (f1 p hp).2⟩
        rw [edk] at q1
        simp only [Res.so_val] at q1
        cases hup : D.upP js (fun e => D.put e dk dv) d with
        | none => rw [hup] at q1; exact q1.elim
        | some d' =>
          rw [hup] at q1
          obtain ⟨e0, e', u1, u2, rfl⟩ := upP_of hup
          have lp : ∀ q ∈ g, q ∈ fp ∨ H q = none := fun q hq => .inr (f q hq).1
          unfold D.put at u2
          split at u2
          · rename_i ds
            obtain ⟨r', a', vs, fps, m1, m2, m3, m4, m5, m6, m7⟩ := fin_path s3 hi u1 rfl
            rw [hr] at m1; cases m1
            have e2 := VAt.uniq (va.mono x3.hh) m2
            subst e2
            split at u2
            · rename_i kk
              split at u2
              · rename_i j hj
                cases u2
                refine ⟨a', F3, .int kk, g3, rfl, x3.sub, r3, .inl ⟨vs, kk, j, rfl, m3.1, by rw [← m4.length]; exact hj, ?_⟩⟩
                obtain ⟨f', a1, a2, a3⟩ := RepOs.set r4 j m4
                obtain ⟨n1, n2⟩ := List.nodup_cons.mp m5
                have ap := m6 a' List.mem_cons_self
                have na : ∀ q ∈ f', q ≠ a' := fun q hq z => by
                  subst z
                  rcases List.mem_append.mp (a2 q hq) with z | z
                  · exact n1 z
                  · exact (f4 q z).1 ap
                have nda : (fps ++ g).Nodup := List.nodup_append.mpr ⟨n2, n, fun x hx y hy e => (f4 y hy).1 (e ▸ m6 x (List.mem_cons_of_mem _ hx))⟩
                obtain ⟨fp', b1, b2⟩ := m7 (o' := .lst (vs.set j v)) (d' := .lst true (ds.set j dv)) (f' := a' :: f') (by
                    rw [RepO.nd_iff, if_pos (show (Kd.lst true).own = true from rfl)]
                    exact ⟨a', _, f', rfl, ⟨upd_same, by rw [List.length_set]; exact m3.2⟩, RepOs.loc _ _ _ (fun q hq => upd_ne (na q hq)) a1, rfl⟩)
                  (List.nodup_cons.mpr ⟨fun z => na a' z rfl, a3 nda⟩) (fun q hq => by
                    rcases List.mem_cons.mp hq with z | z
                    · exact .inl (z ▸ List.mem_cons_self)
                    · rcases List.mem_append.mp (a2 q z) with z | z
                      · exact .inl (List.mem_cons_of_mem _ z)
                      · exact .inr (f4 q z))
                refine q1 σ F3 _ fp' (wr_gr (g := g) x13 ap lp fun q hq => ?_) b1 Eqs.refl
                rcases b2 q hq with z | z
                · exact .inl z.1
                · rcases List.mem_cons.mp z with z | z
                  · exact .inl (z ▸ ap)
                  · rcases List.mem_append.mp (a2 q z) with z | z
                    · exact .inl (m6 q (List.mem_cons_of_mem _ z))
                    · exact .inr z
              · cases u2
            · cases u2
          · rename_i kks ds
            obtain ⟨r', a', vs, fps, m1, m2, m3, m4, m5, m6, m7⟩ := fin_path s3 hi u1 rfl
            rw [hr] at m1; cases m1
            have e2 := VAt.uniq (va.mono x3.hh) m2
            subst e2
            split at u2
            · rename_i key hkey
              split at u2
              · rename_i hz
                cases u2
                refine ⟨a', F3, dk, g3, rfl, x3.sub, r3, .inr ⟨true, kks, vs, key, hkey, m3, hz.1, hz.2, fun o' hk' => ?_⟩⟩
                obtain ⟨f', a1, a2, a3⟩ := RepOs.kput r4 (k := key) (by rw [m4.length, m3.1]) m4
                obtain ⟨n1, n2⟩ := List.nodup_cons.mp m5
                have ap := m6 a' List.mem_cons_self
                have na : ∀ q ∈ f', q ≠ a' := fun q hq z => by
                  subst z
                  rcases List.mem_append.mp (a2 q hq) with z | z
                  · exact n1 z
                  · exact (f4 q z).1 ap
                have nda : (fps ++ g).Nodup := List.nodup_append.mpr ⟨n2, n, fun x hx y hy e => (f4 y hy).1 (e ▸ m6 x (List.mem_cons_of_mem _ hx))⟩
                obtain ⟨fp', b1, b2⟩ := m7 (o' := o') (d' := .dic true (kputK kks key) (kputV kks ds key dv)) (f' := a' :: f') (by
                    rw [RepO.nd_iff, if_pos (show (Kd.dic true (kputK kks key)).own = true from rfl)]
                    exact ⟨a', _, f', rfl, hk', RepOs.loc _ _ f' (fun q hq => upd_ne (na q hq)) a1, rfl⟩)
                  (List.nodup_cons.mpr ⟨fun z => na a' z rfl, a3 nda⟩) (fun q hq => by
                    rcases List.mem_cons.mp hq with z | z
                    · exact .inl (z ▸ List.mem_cons_self)
                    · rcases List.mem_append.mp (a2 q z) with z | z
                      · exact .inl (List.mem_cons_of_mem _ z)
                      · exact .inr (f4 q z))
                refine q1 σ F3 _ fp' (wr_gr (g := g) x13 ap lp fun q hq => ?_) b1 Eqs.refl
                rcases b2 q hq with z | z
                · exact .inl z.1
                · rcases List.mem_cons.mp z with z | z
                  · exact .inl (z ▸ ap)
                  · rcases List.mem_append.mp (a2 q z) with z | z
                    · exact .inl (m6 q (List.mem_cons_of_mem _ z))
                    · exact .inr z
              · cases u2
            · cases u2
          · cases u2
end
end Lc
end
section
set_option Elab.async false
set_option linter.all false
set_option maxRecDepth 100000
set_option maxHeartbeats 4000000
/-! The table of classes with the exception that a suite holds. -/
namespace Lc
open PySem PySem.Spec PyProof.Rows L2
/-- the classes, the exception's address, class and dict -/
def cmX (CM : CMap) (a C dx : Addr) : CMap := fun s => if s = "!a" then some a else if s = "!c" then some C else if s = "!d" then some dx else CM s
theorem xNames_no {c : String} (h : (!xNames.contains c) = true) : c ≠ "!a" ∧ c ≠ "!c" ∧ c ≠ "!d" := by
  unfold xNames at h
  simp only [Bool.not_eq_true', List.contains_eq_mem, decide_eq_false_iff_not, List.mem_cons, List.not_mem_nil, or_false, not_or] at h
  exact h
structure CMx (CM : CMap) : Prop where
  a : CM "!a" = none
  c : CM "!c" = none
  d : CM "!d" = none
section
variable {CM CM' : CMap} {F H : Hp}
theorem cmX_up (n : CMx CM) {a C dx : Addr} : ∀ c A, CM c = some A → cmX CM a C dx c = some A := fun c A e => by
  unfold cmX
  rw [if_neg (fun z => by subst z; rw [n.a] at e; cases e), if_neg (fun z => by subst z; rw [n.c] at e; cases e), if_neg (fun z => by subst z; rw [n.d] at e; cases e)]
  exact e
theorem cmX_dn {a C dx : Addr} {c : String} (h : (!xNames.contains c) = true) : cmX CM a C dx c = CM c := by
  obtain ⟨h1, h2, h3⟩ := xNames_no h
  unfold cmX
  rw [if_neg h1, if_neg h2, if_neg h3]
theorem KAt.up {G : Hp} {R : Addr → HO → Prop} {k : Kd} {p : Addr} {vs : List V} (u : ∀ c A, CM c = some A → CM' c = some A) (h : KAt CM G R k p vs) : KAt CM' G R k p vs := by
  cases k with
  | obj o c ns =>
    obtain ⟨h1, C, dx, h2, h3⟩ := h
    exact ⟨h1, C, dx, u _ _ h2, h3⟩
  | xob c ns =>
    obtain ⟨h1, h2, C, dx, h3, h4, h5, h6⟩ := h
    exact ⟨h1, u _ _ h2, C, dx, u _ _ h3, u _ _ h4, u _ _ h5, h6⟩
  | _ => exact h
theorem KAt.dn {G : Hp} {R : Addr → HO → Prop} {k : Kd} {p : Addr} {vs : List V} (hk : (match k with | .xob _ _ => false | .obj _ c _ => !xNames.contains c | _ => true) = true) (u : ∀ c, (!xNames.contains c) = true → CM' c = CM c) (h : KAt CM' G R k p vs) : KAt CM G R k p vs := by
  cases k with
  | obj o c ns =>
    obtain ⟨h1, C, dx, h2, h3⟩ := h
    exact ⟨h1, C, dx, by rw [← u c hk]; exact h2, h3⟩
  | xob c ns => cases hk
  | _ => exact h
mutual
theorem Rep.up (u : ∀ c A, CM c = some A → CM' c = some A) : ∀ (d : D) (v : V), Rep CM F d v → Rep CM' F d v
  | .non, v, h => h
  | .bl b, v, h => h
  | .int i, v, h => h
  | .str t, v, h => h
  | .nd k ds, v, h => by
    rw [Rep.nd_iff] at h ⊢
    obtain ⟨h1, p, vs, h2, h3, h4⟩ := h
    exact ⟨h1, p, vs, h2, h3.up u, Reps.up u ds vs h4⟩
theorem Reps.up (u : ∀ c A, CM c = some A → CM' c = some A) : ∀ (ds : List D) (vs : List V), Reps CM F ds vs → Reps CM' F ds vs
  | [], vs, h => h
  | d :: ds, vs, h => by
    rw [Reps.cons_iff] at h ⊢
    obtain ⟨v, r, h1, h2, h3⟩ := h
    exact ⟨v, r, h1, Rep.up u d v h2, Reps.up u ds r h3⟩
end
mutual
theorem RepO.up (u : ∀ c A, CM c = some A → CM' c = some A) : ∀ (d : D) (v : V) (fp : List Addr), RepO CM F H d v fp → RepO CM' F H d v fp
  | .non, v, fp, h => by unfold RepO at h ⊢; exact h
  | .bl b, v, fp, h => by unfold RepO at h ⊢; exact h
  | .int i, v, fp, h => by unfold RepO at h ⊢; exact h
  | .str x, v, fp, h => by unfold RepO at h ⊢; exact h
  | .nd k ds, v, fp, h => by
    rw [RepO.nd_iff] at h ⊢
    by_cases hk : k.own = true
    · rw [if_pos hk] at h ⊢
      obtain ⟨p, vs, fps, h1, h2, h3, h4⟩ := h
      exact ⟨p, vs, fps, h1, h2.up u, RepOs.up u ds vs fps h3, h4⟩
    · rw [if_neg hk] at h ⊢
      exact ⟨Rep.up u _ _ h.1, h.2⟩
theorem RepOs.up (u : ∀ c A, CM c = some A → CM' c = some A) : ∀ (ds : List D) (vs : List V) (fp : List Addr), RepOs CM F H ds vs fp → RepOs CM' F H ds vs fp
  | [], vs, fp, h => by unfold RepOs at h ⊢; exact h
  | d :: ds, vs, fp, h => by
    unfold RepOs at h ⊢
    obtain ⟨v, r, f, g, h1, h2, h3, h4⟩ := h
    exact ⟨v, r, f, g, h1, h2, RepO.up u d v f h3, RepOs.up u ds r g h4⟩
end
mutual
theorem Rep.dn (u : ∀ c, (!xNames.contains c) = true → CM' c = CM c) : ∀ (d : D) (v : V), d.nox = true → Rep CM' F d v → Rep CM F d v
  | .non, v, _, h => h
  | .bl b, v, _, h => h
  | .int i, v, _, h => h
  | .str t, v, _, h => h
  | .nd k ds, v, hx, h => by
    rw [Rep.nd_iff] at h ⊢
    unfold D.nox at hx
    rw [Bool.and_eq_true] at hx
    obtain ⟨h1, p, vs, h2, h3, h4⟩ := h
    exact ⟨h1, p, vs, h2, h3.dn hx.1 u, Reps.dn u ds vs hx.2 h4⟩
theorem Reps.dn (u : ∀ c, (!xNames.contains c) = true → CM' c = CM c) : ∀ (ds : List D) (vs : List V), D.noxs ds = true → Reps CM' F ds vs → Reps CM F ds vs
  | [], vs, _, h => h
  | d :: ds, vs, hx, h => by
    rw [Reps.cons_iff] at h ⊢
    unfold D.noxs at hx
    rw [Bool.and_eq_true] at hx
    obtain ⟨v, r, h1, h2, h3⟩ := h
    exact ⟨v, r, h1, Rep.dn u d v hx.1 h2, Reps.dn u ds r hx.2 h3⟩
end
mutual
theorem RepO.dn (u : ∀ c, (!xNames.contains c) = true → CM' c = CM c) : ∀ (d : D) (v : V) (fp : List Addr), d.nox = true → RepO CM' F H d v fp → RepO CM F H d v fp
  | .non, v, fp, _, h => by unfold RepO at h ⊢; exact h
  | .bl b, v, fp, _, h => by unfold RepO at h ⊢; exact h
  | .int i, v, fp, _, h => by unfold RepO at h ⊢; exact h
  | .str x, v, fp, _, h => by unfold RepO at h ⊢; exact h
  | .nd k ds, v, fp, hx, h => by
    rw [RepO.nd_iff] at h ⊢
    by_cases hk : k.own = true
    · rw [if_pos hk] at h ⊢
      unfold D.nox at hx
      rw [Bool.and_eq_true] at hx
      obtain ⟨p, vs, fps, h1, h2, h3, h4⟩ := h
      exact ⟨p, vs, fps, h1, h2.dn hx.1 u, RepOs.dn u ds vs fps hx.2 h3, h4⟩
    · rw [if_neg hk] at h ⊢
      exact ⟨Rep.dn u _ _ hx h.1, h.2⟩
theorem RepOs.dn (u : ∀ c, (!xNames.contains c) = true → CM' c = CM c) : ∀ (ds : List D) (vs : List V) (fp : List Addr), D.noxs ds = true → RepOs CM' F H ds vs fp → RepOs CM F H ds vs fp
  | [], vs, fp, _, h => by unfold RepOs at h ⊢; exact h
  | d :: ds, vs, fp, hx, h => by
    unfold RepOs at h ⊢
    unfold D.noxs at hx
    rw [Bool.and_eq_true] at hx
    obtain ⟨v, r, f, g, h1, h2, h3, h4⟩ := h
    exact ⟨v, r, f, g, h1, h2, RepO.dn u d v f hx.1 h3, RepOs.dn u ds r g hx.2 h4⟩
end
theorem SRep.up (u : ∀ c A, CM c = some A → CM' c = some A) : ∀ {ρ : Env} {σ : L2.St} {fp : List Addr}, SRep CM F H ρ σ fp → SRep CM' F H ρ σ fp
  | [], _, _, h => h
  | o :: ρ, σ, fp, h => by
    obtain ⟨x, σ', f, g, h1, h2, h3, h4⟩ := h
    refine ⟨x, σ', f, g, h1, h2, ?_, SRep.up u h4⟩
    cases o with
    | none => exact h3
    | some d =>
      obtain ⟨v, e, r⟩ := h3
      exact ⟨v, e, RepO.up u d v f r⟩
theorem SRep.dn (u : ∀ c, (!xNames.contains c) = true → CM' c = CM c) : ∀ {ρ : Env} {σ : L2.St} {fp : List Addr}, noxE ρ = true → SRep CM' F H ρ σ fp → SRep CM F H ρ σ fp
  | [], _, _, _, h => h
  | o :: ρ, σ, fp, hx, h => by
    obtain ⟨x, σ', f, g, h1, h2, h3, h4⟩ := h
    unfold noxE at hx
    rw [List.all_cons, Bool.and_eq_true] at hx
    refine ⟨x, σ', f, g, h1, h2, ?_, SRep.dn u hx.2 h4⟩
    cases o with
    | none => exact h3
    | some d =>
      obtain ⟨v, e, r⟩ := h3
      exact ⟨v, e, RepO.dn u d v f hx.1 r⟩
theorem Sl.up (u : ∀ c A, CM c = some A → CM' c = some A) {ρ : Env} {σ : L2.St} {fp : List Addr} (s : Sl CM F H ρ σ fp) : Sl CM' F H ρ σ fp := ⟨s.rep.up u, s.nd, s.nf, s.sub⟩
theorem Sl.dn (u : ∀ c, (!xNames.contains c) = true → CM' c = CM c) {ρ : Env} {σ : L2.St} {fp : List Addr} (hx : noxE ρ = true) (s : Sl CM' F H ρ σ fp) : Sl CM F H ρ σ fp := ⟨s.rep.dn u hx, s.nd, s.nf, s.sub⟩
/-- a slot without its thing -/
theorem SRep.unset : ∀ {ρ : Env} {σ : L2.St} {fp : List Addr} (i : Nat), SRep CM F H ρ σ fp → ∃ fp', SRep CM F H (ρ.set i none) (σ.set i none) fp' ∧ (∀ p ∈ fp', p ∈ fp) ∧ (fp.Nodup → fp'.Nodup)
  | [], _, _, i, h => by
    obtain ⟨rfl, rfl⟩ := h
    exact ⟨[], ⟨by simp, rfl⟩, fun p hp => hp, id⟩
  | o :: ρ, σ, fp, 0, h => by
    obtain ⟨x, σ', f, g', rfl, rfl, h3, h4⟩ := h
    exact ⟨g', ⟨none, σ', [], g', rfl, rfl, rfl, h4⟩, fun p hp => List.mem_append_right _ hp, fun n => (List.nodup_append.mp n).2.1⟩
  | o :: ρ, σ, fp, i + 1, h => by
    obtain ⟨x, σ', f, g', rfl, rfl, h3, h4⟩ := h
    obtain ⟨fp', k1, k2, k3⟩ := SRep.unset i h4
    refine ⟨f ++ fp', ⟨x, σ'.set i none, f, fp', rfl, rfl, h3, k1⟩, fun p hp => ?_, fun n => ?_⟩
    · rcases List.mem_append.mp hp with hp | hp
      · exact List.mem_append_left _ hp
      · exact List.mem_append_right _ (k2 p hp)
    · obtain ⟨a1, a2, a3⟩ := List.nodup_append.mp n
      exact List.nodup_append.mpr ⟨a1, k3 a2, fun p hp q hq e => a3 p hp q (k2 q hq) e⟩
theorem Sl.unset {ρ : Env} {σ : L2.St} {fp : List Addr} (i : Nat) (s : Sl CM F H ρ σ fp) : ∃ fp', Sl CM F H (ρ.set i none) (σ.set i none) fp' ∧ ∀ p ∈ fp', p ∈ fp := by
  obtain ⟨fp', k1, k2, k3⟩ := s.rep.unset i
  exact ⟨fp', ⟨k1, k3 s.nd, fun p hp => s.nf p (k2 p hp), s.sub⟩, k2⟩
end
end Lc
end
section
set_option Elab.async false
set_option linter.all false
set_option maxRecDepth 100000
set_option maxHeartbeats 4000000
/-! super().__init__(text) in an own exception's __init__. -/
namespace Lc
open PySem PySem.Spec PyProof.Rows L2 NdefX
/-- what the written part says of super().__init__ in a def of the class D, for an object of the class C -/
structure SupC (K : PySem.W.Frag) (C D : Addr) : Prop where
  o : OexC K C
  m : PySem.W.ks_superIn K C D "__init__" = some (some (.builtin "ValueError.__init__"))
  sub : PySem.W.mroIn K C (.ref D) = some true
  ve : PySem.W.subIn K (.ref C) (.type "ValueError") = some true
  st : PySem.W.nsIn K cStatics "thirdparty.any" = some none
/-- the def itself -/
structure SupD (P : Program) (K : PySem.W.Frag) (mg : Str → Option Value) (F : NF) (f cc D : Addr) (a0 : Arg) (fd : FuncData) : Prop where
  fn : ∃ oc od dV kV doc pm an ct osl, K.lookup f = some ⟨oc, od, .func fd, osl⟩ ∧ fd = PySem.W.ksFn F.name F.qual F.params F.body F.scope dV kV doc pm an (.ref F.c) ct cc
  code : PySem.W.codeIn K (.ref F.c) F.qual = true
  file : ∃ ccl cdd cvs ccs file tf, K.lookup F.c = some ⟨ccl, cdd, .fields cvs, ccs⟩ ∧ cvs[2]? = some (.str file tf) ∧ ((P.main.file : Str) == file) = true
  cell : ∃ cl cld csl, K.lookup cc = some ⟨cl, cld, .cell (some (.ref D)), csl⟩
  cls : ∃ cd, PySem.W.clsIn K D = some cd
  cl : F.cl = [(("__class__" : Str), cc)]
  arg : (F.params.posonlyargs ++ F.params.args).head? = some a0
  ks : F.scope.names.lookup ("super" : Str) = some .globalImplicit
  kc : F.scope.names.lookup ("__class__" : Str) = some .free
  ka : F.scope.names.lookup a0.arg = some .local
  kf : F.scope.kind = .function
  top : (P.main.scope.names.lookup ("super" : Str)).isSome = false
  sup : mg ("super" : Str) = none
section
variable {CX : CXT} {P : Program} {w : World} {K : PySem.W.Frag} {mg : Str → Option Value} {base : Heap} {N : List Str} {F : NF} {f cc C D : Addr} {a0 : Arg} {fd : FuncData} {A : Around} {outer : List PySem.Env} {s0 : Shared} {H0 : Hp} {E0 : XK}
theorem boot_super : bootBuiltins "super" = some (.type "super") := by decide +kernel
theorem sup_call (S : SupD P K mg F f cc D a0 fd) {a : Addr} {σ : L2.St} {H : Hp} {s : Shared} (T : SupC K C D) (I : L2.Inv (ncx CX P w K mg base N F f A outer s0 H0 E0) [] σ H s) (hN : N[0]? = some a0.arg) (h0 : σ[0]? = some (some (.ref a))) (ha : H a = some (exo a C none))
    {msg : Str} {kk : Nat} {p0 p1 p2 p3 p4 : Pos} (hline : (p2.endLine == p4.line) = true) {Q : Value → Shared → Prop} {E : Value → Shared → Prop} (hq : ∀ u s', L2.Inv (ncx CX P w K mg base N F f A outer s0 H0 E0) [] σ H s' → Q u s') :
    _root_.PySem.wpAt (model P w) (A.deeper (envF F f s0.heap.objs.size)) (.func F.body (envF F f s0.heap.objs.size)) (eval (.Call (.Attribute (.Call (.Name "super" p0) [] [] p1) "__init__" p2) [.Constant (.str msg) kk p3] [] p4) (envF F f s0.heap.objs.size)) Q E s := by
  have sup_eval : eval (.Call (.Attribute (.Call (.Name "super" p0) [] [] p1) "__init__" p2) [.Constant (.str msg) kk p3] [] p4) (envF F f s0.heap.objs.size) = (do
      let ov ← attributeBase (.Call (.Name "super" p0) [] [] p1) "__init__" (envF F f s0.heap.objs.size) (eval (.Call (.Name "super" p0) [] [] p1) (envF F f s0.heap.objs.size))
      standAt p2.atName
      let (f', first) ← holding [ov] (getMethod ov "__init__" (plainOf (.Call (.Name "super" p0) [] [] p1) (envF F f s0.heap.objs.size)))
      callWith p4 f' first (backTo p4 (starEach [.Constant (.str msg) kk p3] (envF F f s0.heap.objs.size))) []) := by
    rw [arm_eval_Call]
    exact congrArg (fun k => attributeBase (.Call (.Name "super" p0) [] [] p1) "__init__" (envF F f s0.heap.objs.size) (eval (.Call (.Name "super" p0) [] [] p1) (envF F f s0.heap.objs.size)) >>= k) (funext fun ov => congrArg (fun k => standAt p2.atName >>= fun _ => k) (mcall_line (few_of (ks := []) (fun e he v p z => by rw [List.mem_singleton.mp he] at z; cases z) rfl (show 1 + 0 < 29 by omega)) hline))
  obtain ⟨oc, od, dV, kV, doc, pm, an, ct, osl, hf, rfl⟩ := S.fn
  obtain ⟨ccl, cdd, cvs, ccs, file, tf, hcode, hvs, hfile⟩ := S.file
  obtain ⟨cl, cld, csl, hcell⟩ := S.cell
  obtain ⟨cdD, hD⟩ := S.cls
  have KX : K.In s.heap := I.kIn
  obtain ⟨t1, hx⟩ := exo_at I.hok ha
  have hcl : (envF F f s0.heap.objs.size).cells.lookup ("__class__" : Str) = some cc := by
    show F.cl.lookup ("__class__" : Str) = _
    rw [S.cl]; rfl
  have hself : ∀ {Q : Value → Shared → Prop} {E : Value → Shared → Prop}, Q (.ref a) s → wpAny (model P w) (A.deeper (envF F f s0.heap.objs.size)) (loadName (envF F f s0.heap.objs.size) a0.arg) Q E s := fun {Q E} q => by
    obtain ⟨m, hn, hl⟩ := I.loc
    obtain ⟨u, r, l⟩ := hl 0 a0.arg (.ref a) hN h0 (.inl S.ka)
    obtain rfl : u = Value.ref a := r
    rcases l with ⟨hk, hm⟩ | ⟨hk, _⟩
    · exact wpAny_loadName_local S.kf hk hn hm q
    · have hk : F.scope.names.lookup a0.arg = some .cell ∨ F.scope.names.lookup a0.arg = some .free := hk
      rw [S.ka] at hk
      rcases hk with z | z <;> cases z
  obtain ⟨oD, hD1, hD2⟩ : ∃ oD, s.heap.get? D = some oD ∧ oD.data = .cls cdD := by
    unfold PySem.W.clsIn at hD
    split at hD
    · rename_i c d cd' sl ho
      cases hD
      exact ⟨_, KX _ _ ho, rfl⟩
    · cases hD
  refine PySem.ks_wpAt_MethodCall (pl := plainOf (.Call (.Name "super" p0) [] [] p1) (envF F f s0.heap.objs.size)) ?_ sup_eval
  refine PySem.ks_wpAt_super_base (env := envF F f s0.heap.objs.size) S.ks S.kc rfl rfl (KX _ _ hf) rfl S.arg rfl (KX _ _ hcode) rfl hvs hfile S.top ?_
  obtain ⟨mb, hb1, hb2⟩ := I.mod.blt
  refine PySem.W.ks_loadName_global S.kf S.ks (Calls.loadGlobal_builtin (env := envF F f s0.heap.objs.size) (I.mod.glob.keeps I.bk) S.sup (hb1.keeps I.bk) ((hb2 _ (by decide +kernel)).trans boot_super) ⟨rfl, ?_⟩)
  refine wpAny_loadName_free S.kf S.kc hcl ⟨_, KX _ _ hcell, rfl⟩ ?_
  refine hself ?_
  refine PySem.ks_wpAny_isType_cls hD1 hD2 ⟨rfl, ?_⟩
  obtain ⟨hh, g, d, t, os⟩ := s
  have noC : ∀ c, ({ cls := .ref C, dict := none, data := .fields #[.ref t1, .none, .none, .none, .bool false, .none] } : Obj).data ≠ .cls c := fun c z => by cases z
  have JI : PySem.W.InstAt hh a ({ cls := .ref C, dict := none, data := .fields #[.ref t1, .none, .none, .none, .bool false, .none] } : Obj) C none := ⟨hx, rfl, rfl, trivial⟩
  refine PySem.ks_wpAny_call_super hD1 hD2 hx rfl noC (PySem.W.looks_mroIn KX T.sub) (fun h' e k => ?_)
  have I1 : L2.Inv (ncx CX P w K mg base N F f A outer s0 H0 E0) [] σ H ⟨h', g, d, t, os⟩ := I.kept (t' := t) k
  have KX1 : K.In h' := I1.kIn
  -- the method
  have hm := T.m
  cases hc : PySem.W.clsIn K C with
  | none => unfold PySem.W.ks_superIn at hm; rw [hc] at hm; cases hm
  | some cd =>
  unfold PySem.W.ks_superIn at hm
  rw [hc] at hm
  have JI1 : PySem.W.InstAt h' a ({ cls := .ref C, dict := none, data := .fields #[.ref t1, .none, .none, .none, .bool false, .none] } : Obj) C none := ⟨k _ _ hx, rfl, rfl, trivial⟩
  have isV : PySem.W.Looks (model P w) h' (isInstance (.ref a) (.type "ValueError")) true := JI1.type.andThen (PySem.W.looks_subIn KX1 T.ve)
  refine PySem.W.kxs_getMethod PySem.W.kxs_ValueError e (PySem.W.looks_opaque KX1 T.st) (l₀ := cd.mro) (fun A Q E s k q => wpAny_bind ((PySem.W.looks_clsIn KX1 hc) A _ E s k (wpAny_pure q))) rfl KX1 hm isV (PySem.W.ks_ne KX1 JI1 hc) (by decide) ?_
  have k2 : ∀ b o, h'.get? b = some o → (h'.push (PySem.W.kxs_mw "ValueError.__init__" a)).get? b = some o := fun b o z => Heap.get?_push_of_some _ z
  have I2 : L2.Inv (ncx CX P w K mg base N F f A outer s0 H0 E0) [] σ H ⟨h'.push (PySem.W.kxs_mw "ValueError.__init__" a), g, d, t + 1, os⟩ := I1.kept (t' := t + 1) k2
  have hmw : (h'.push (PySem.W.kxs_mw "ValueError.__init__" a)).get? h'.objs.size = some (PySem.W.kxs_mw "ValueError.__init__" a) := Heap.get?_push_at rfl rfl
  have hpa : PA (ncx CX P w K mg base N F f A outer s0 H0 E0) [.Constant (.str msg) kk p3] (tCons (tC (.str msg)) tNil) := pa_cons pe_str pa_nil
  have mwf : ∀ v, (PySem.W.kxs_mw "ValueError.__init__" a).data ≠ .cell v := fun v z => by cases z
  have nu : H h'.objs.size = none := I1.hok.fresh (Nat.le_refl _)
  obtain ⟨p0, p1, p2, _⟩ := I1.fpOk (Nat.le_refl _) nu
  have pinI : L2.Inv (ncx CX P w K mg base N F f A outer s0 H0 E0) [(h'.objs.size, PySem.W.kxs_mw "ValueError.__init__" a)] σ H ⟨h'.push (PySem.W.kxs_mw "ValueError.__init__" a), g, d, t + 1, os⟩ := I2.pins_of fun q hq => by
    have eq : q = (h'.objs.size, PySem.W.kxs_mw "ValueError.__init__" a) := by simpa using hq
    subst eq
    exact ⟨hmw, nu, p1, p2, mwf⟩
  refine PySem.W.kxs_callWith (i := "ValueError.__init__") (x := a) rfl (Calls.evalArgs_plain ?_)
  refine thn (hpa.run p4 _ _ σ H (fun vs H1 => vs = [V.str msg] ∧ H1 = H) pinI ⟨rfl, rfl⟩) fun us s4 hh => ?_
  obtain ⟨vs, H4, I4, r4, ev, eH⟩ := hh
  subst ev
  subst eH
  have hmw4 : s4.heap.get? h'.objs.size = some (PySem.W.kxs_mw "ValueError.__init__" a) := (I4.pin _ (List.mem_append_right _ List.mem_cons_self)).1
  refine ⟨hmw4, ?_⟩
  obtain ⟨nm, qn, N', bs, bm, sn, sub, ab, col, dd, k0, k1, k2', k3, k5, hC, hbm⟩ := T.o.cls
  obtain ⟨t4, hx4⟩ := exo_at I4.hok ha
  have KX4 : K.In s4.heap := I4.kIn
  have J4 : L2.Inv (ncx CX P w K mg base N F f A outer s0 H0 E0) [] σ H4 s4 := (I4.unpinned (pins := []) (pl := [(h'.objs.size, PySem.W.kxs_mw "ValueError.__init__" a)]))
  have hus : us.length ≤ sizeLine := by
    have := r4.length
    rw [← this, sizeLine_eq]; show (1 : Nat) ≤ 16777216; decide
  obtain ⟨h4, g4, d4, tk4, os4⟩ := s4
  refine wpAny_call (codeAny_of_tree ?_)
  show wpAny _ _ (callAny (.ref h'.objs.size) ⟨[] ++ us, []⟩) _ _ _
  simp only [callAny, List.nil_append]
  refine wpAny_bind (wpAny_load hmw4 ?_)
  simp only [PySem.W.kxs_mw, show (Value.type "method-wrapper" == Value.type "method" || Value.type "method-wrapper" == Value.type "builtin_function_or_method" || Value.type "method-wrapper" == Value.type "method-wrapper") = true by decide, if_true]
  refine PySem.W.KFB.if_so (by decide) ?_
  refine wpAny_bind (PySem.W.check_bound_init PySem.F.excBase_ValueError.toExcCallFacts (KX4 _ _ hC) hx4 rfl ?_)
  refine wpAny_bind (wpAny_pure (wpAny_pure ?_))
  refine ⟨plainId_quiet PySem.F.excBase_ValueError.init.plain _, codeAny_builtin PySem.F.excBase_ValueError.initEntry ?_⟩
  refine PySem.W.exc_init_tree (cls := .ref C) (t0 := t4) (dv := none) (c2 := .none) (c3 := .none) (b4 := .bool false) hx4 hus fun h5 k5' e5 _ => ?_
  have J5 := J4.write (t' := tk4) (x := a) (e := a) (o := exo a C none) (by rw [ha]; exact True.intro) (.inl rfl) k5' ⟨_, e5⟩ (exo_ok e5)
  have eu : upd H4 a (exo a C none) = H4 := by
    funext b
    by_cases hb : b = a
    · rw [hb, upd_same, ha]
    · rw [upd_ne hb]
  rw [eu] at J5
  exact hq .none _ J5
/-- such an __init__, what stands behind the first statement given -/
theorem xinit_of {ps : List Str} {sp : Sp} {rest : List Stmt} {msg : Str} {kk : Nat} {q0 q1 q2 q3 q4 q5 : Pos} (S : SupD P K mg F f cc D a0 fd) (SN : NdefX.NScope N ps [("__class__" : Str)] F.scope) (hN : N[0]? = some a0.arg)
    (hbd : F.body = .Expr (.Call (.Attribute (.Call (.Name "super" q0) [] [] q1) "__init__" q2) [.Constant (.str msg) kk q3] [] q4) q5 :: rest) (hline : (q2.endLine == q4.line) = true)
    (len : ∀ vs H Q E, sp vs H Q E → vs.length = ps.length)
    (hb : ∀ (A : Around) (outer : List PySem.Env) (s : Shared) (H : Hp) (vs : List V) (Q : VK) (E : XK), sp vs H Q E → ∃ (a C : Addr) (ys : List V) (t : TS), vs = .ref a :: ys ∧ H a = some (exo a C none) ∧ SupC K C D ∧
      PSs (ncx CX P w K mg base N F f A outer s H E) rest t ∧ t { nx := fun _ H' => Q .non H', rt := Q } (startF N vs [some (.ref D)]) H) :
    FnOk P w K mg base CX 1 f fd ps sp := by
  refine ⟨len, fun A outer s H args us vs Q E hr e0 hbi r hsp => ?_⟩
  have hl := len _ _ _ _ hsp
  have KX : K.In s.heap := e0.mod.kin.keeps fun b o e => (e0.bs b o e).1
  have lim : s.heap.NoLimit := e0.mod.nolimit.keeps fun b o e => (e0.bs b o e).1
  obtain ⟨a, C, ys, t, ev, ha, T, ht, hq⟩ := hb A outer s H vs Q E hsp
  obtain ⟨oc, od, dV, kV, doc, pm, an, ct, osl, lk, efd⟩ := S.fn
  subst efd
  obtain ⟨cl, cld, csl, hcell⟩ := S.cell
  have CA : CellsAt F.cl [("__class__" : Str)] [some (.ref D)] s.heap H := by
    have h1 : ∀ y c, F.cl.lookup y = some c → y = ("__class__" : Str) ∧ c = cc := fun y c e => by
      rw [S.cl] at e
      unfold List.lookup at e
      split at e
      · rename_i q
        cases e
        exact ⟨by simpa using q, rfl⟩
      · cases e
    refine ⟨rfl, fun y c e => ?_, fun x y c e1 e2 => (h1 x c e1).1.trans (h1 y c e2).1.symm, fun i y e => ?_⟩
    · obtain ⟨_, rfl⟩ := h1 y c e
      exact ⟨(e0.bs _ _ (e0.mod.kin _ _ hcell)).2, _, _, KX _ _ hcell, rfl⟩
    · cases i with
      | succ i => simp at e
      | zero =>
        cases (show some ("__class__" : Str) = some y from e)
        refine ⟨cc, by rw [S.cl]; rfl, fun v hv => ?_⟩
        cases (show some (some (V.ref D)) = some (some v) from hv)
        exact ⟨.ref D, rfl, _, KX _ _ hcell, rfl⟩
  refine PySem.ks_codeAny_call_defAt (fd := PySem.W.ksFn F.name F.qual F.params F.body F.scope dV kV doc pm an (.ref F.c) ct cc) (body := F.body) (binds := ps.zip us) hr.depth (KX _ _ lk) rfl lim (PySem.W.codeRec_of KX S.code) rfl hbi SN.nocell
    (fun y hy => SN.par y.1 (List.of_mem_zip hy).1) (fun h₀ hns kp => ?_) SN.co SN.gen SN.kind
  have I := inv_startN (CX := CX) (P := P) (w := w) (K := K) (mg := mg) (base := base) (f := f) (E := E) (tk := s.toks + (ps.zip us).length) SN hr.hd e0 hl r CA hns kp
  have hcl : PySem.callEnv (PySem.W.ksFn F.name F.qual F.params F.body F.scope dV kV doc pm an (.ref F.c) ct cc) s.heap.objs.size f = envF F f s.heap.objs.size := by
    show PySem.W.ksEnv F.qual F.scope s.heap.objs.size f (.ref F.c) cc = PySem.W.envX F.qual F.scope s.heap.objs.size f (.ref F.c) F.cl
    rw [S.cl] <;> rfl
  rw [hcl]
  have h0 : (startF N vs [some (V.ref D)])[0]? = some (some (.ref a)) := by rw [ev]; rfl
  have goal : _root_.PySem.wpAt (model P w) (A.deeper (envF F f s.heap.objs.size)) (.func F.body (envF F f s.heap.objs.size)) (execs (.Expr (.Call (.Attribute (.Call (.Name "super" q0) [] [] q1) "__init__" q2) [.Constant (.str msg) kk q3] [] q4) q5 :: rest) (envF F f s.heap.objs.size))
      (fun fl s' => CR CX outer P w H s Q E (.ok (.ret (match fl with | .ret v => v | _ => .none))) s')
      (fun e s' => wpAny (model P w) (A.deeper (envF F f s.heap.objs.size)) (leaving (envF F f s.heap.objs.size) e) (fun _ s'' => CR CX outer P w H s Q E (.error e) s'') (fun e' s'' => CR CX outer P w H s Q E (.error e') s'') s') { s with heap := h₀, toks := s.toks + (ps.zip us).length } := by
    refine PySem.ks_wpAt_execs_cons (PySem.ks_wpAt_Expr_any (hi := I.quiet) (sup_call S T I hN h0 ha hline fun u s2 I2 => ?_))
    refine PySem.wpAt_of_wpAny ?_
    refine wpAny_mono (ht.run [] s2 _ H _ I2 hq) (fun fl s' hs => ?_) fun e s' hs => hs
    have fin : ∀ {σ' : L2.St} {H' : Hp} {v : V} {u : Value}, L2.Inv (ncx CX P w K mg base N F f A outer s H E) [] σ' H' s' → RelV v u → Q v H' → CE outer P w H s Q u s' :=
      fun {σ' H' v u} J rv q => ⟨v, H', J.os, J.bare, J.base, J.hok, rv, q⟩
    cases fl with
    | ret u =>
      obtain ⟨v, σ', H', J, rv, q⟩ := hs
      exact fin J rv q
    | next =>
      obtain ⟨σ', H', J, q⟩ := hs
      exact fin (v := V.non) (u := Value.none) J rfl q
    | brk =>
      obtain ⟨_, _, _, q⟩ := hs
      exact False.elim q
    | cont =>
      obtain ⟨_, _, _, q⟩ := hs
      exact False.elim q
  rw [← hbd] at goal
  exact goal
end
end Lc
end
section
set_option Elab.async false
set_option linter.all false
set_option maxRecDepth 100000
set_option maxHeartbeats 4000000
/-! Own exceptions: made, raised, caught. -/
namespace Lc
open PySem PySem.Spec PyProof.Rows L2
theorem Reps.rev {CM : CMap} {F : Hp} : ∀ {ds : List D} {vs : List V}, Reps CM F ds vs → Reps CM F ds.reverse vs.reverse
  | [], vs, h => by rw [Reps.nil_iff.mp h]; exact Reps.nil_iff.mpr rfl
  | d :: ds, vs, h => by
    obtain ⟨v, r, rfl, h1, h2⟩ := Reps.cons_iff.mp h
    rw [List.reverse_cons, List.reverse_cons]
    exact (Reps.rev h2).append (Reps.cons_iff.mpr ⟨v, [], rfl, h1, Reps.nil_iff.mpr rfl⟩)
/-- C(e, ..) makes an exception of the class at C whose fields are ns -/
structure RaiseOk (P : Program) (w : World) (K : PySem.W.Frag) (mg : Str → Option Value) (base : Heap) (k : Nat) (C : Addr) (n : Nat) (ns : List String) : Prop where
  o : OexC K C
  len : ns.length = n
  small : n ≤ 900
  ini : ∃ fI fd ps sp, PySem.W.findIn K (.ref C) "__init__" = some (some (.ref fI)) ∧ PySem.W.typeIn K (.ref fI) = some (.type "function") ∧ FnOk P w K mg base (L2N.CX P w) k fI fd ps sp ∧ Binds K fd ps [] ∧
    ∀ (a : Addr) (ys : List V) (H : Hp) (Q : VK) (E : XK), ys.length = n → H a = some (exo a C none) → (∀ dx, H dx = none → dx ≠ a → Q .non (upd (upd H dx (exd dx ((ns.map Str.ofString).zip ys.reverse))) a (exo a C (some dx)))) → sp (.ref a :: ys) H Q E
/-- the same with more room -/
theorem RaiseOk.mono {P : Program} {w : World} {K : PySem.W.Frag} {mg : Str → Option Value} {base : Heap} {k k' : Nat} {C : Addr} {n : Nat} {ns : List String} (R : RaiseOk P w K mg base k C n ns) (h : k ≤ k') : RaiseOk P w K mg base k' C n ns := by
  obtain ⟨fI, fd, ps, sp, h1, h2, h3, h4, h5⟩ := R.ini
  exact ⟨R.o, R.len, R.small, fI, fd, ps, sp, h1, h2, h3.mono h, h4, h5⟩
section
variable {X : Cx} {e : Expr} {es : List Expr} {ta : TA} {x : Str} {p pos p2 : Pos} {C fI : Addr} {k : Nat} {fd : FuncData} {ps : List Str} {sp : Sp}
theorem mk_n (T : OexC X.K C) (iC : PySem.W.findIn X.K (.ref C) "__init__" = some (some (.ref fI))) (tI : PySem.W.typeIn X.K (.ref fI) = some (.type "function")) (F1 : FnOk X.prog X.w X.K X.mg X.base (L2N.CX X.prog X.w) k fI fd ps sp) (hr : Room (k + 1) X.A) (hb : Binds X.K fd ps [])
    (hg : Gl X x) (hm : X.mg x = some (.ref C)) (ha : PA X (e :: es) ta) (hdb : (x == ("__debug__" : Str)) = false) (he : starEach (e :: es) X.env = (false, eval e X.env) :: starEach es X.env) (hpl : (backTo pos (starEach es X.env)).any (·.1) = false) :
    L2N.PMk X (.Call (.Name x p) (e :: es) [] pos) (tMkO C sp [] ta) := by
  intro pins s σ H Q I hyp
  obtain ⟨c1, c2, cN, cbs, cbm, c3, c4, c5, c6, c7, c8, c9, c10, c11, c12, atC, bmC⟩ := T.cls
  refine wpAny_Call_Name_kw (ld_glob I hg hm ?_ hdb)
  refine PySem.W.callWith_K (h₀ := X.base) I.ok.mod.kin T.kC (thn (ha.run pos pins s σ H _ I hyp) fun us s1 ⟨vs, H1, I1, rvs, hz, q1⟩ => ⟨I1.kIn, ?_⟩) he hpl
  show wpAny _ _ (PySem.call (.ref C) us) _ _ _
  obtain ⟨hp, gg, dd, tk, os⟩ := s1
  have szl : hp.objs.size ≤ hp.objs.size + 1 := Nat.le_succ _
  have nn : H1 (hp.objs.size + 1) = none := I1.hok.fresh szl
  have sq := q1 (hp.objs.size + 1) nn
  rw [List.append_nil] at sq
  have kk : ∀ b o, hp.get? b = some o → ((hp.push (PySem.W.kdv_tup us)).push (PySem.HandSPX.excO C hp.objs.size)).get? b = some o := fun b o z => Heap.get?_push_of_some _ (Heap.get?_push_of_some _ z)
  have eget : ((hp.push (PySem.W.kdv_tup us)).push (PySem.HandSPX.excO C hp.objs.size)).get? (hp.objs.size + 1) = some (PySem.HandSPX.excO C hp.objs.size) := by heap_get
  have J2 : L2.Inv X pins σ (upd H1 (hp.objs.size + 1) (exo (hp.objs.size + 1) C none)) ⟨(hp.push (PySem.W.kdv_tup us)).push (PySem.HandSPX.excO C hp.objs.size), gg, dd, tk, os⟩ :=
    I1.laid (t' := tk) (a := hp.objs.size + 1) (o := exo (hp.objs.size + 1) C none) (h' := (hp.push (PySem.W.kdv_tup us)).push (PySem.HandSPX.excO C hp.objs.size)) kk szl (exo_ok eget)
  have rv2 : Vals (V.ref (hp.objs.size + 1) :: vs) (Value.ref (hp.objs.size + 1) :: us) := .cons rfl rvs
  have lenE : (Value.ref (hp.objs.size + 1) :: us ++ []).length = ps.length := by
    have z := rv2.length
    rw [F1.len _ _ _ _ sq] at z
    rw [List.append_nil]
    exact z.symm
  have lus : us.length ≤ sizeLine := by
    rw [← Paired.length rvs, sizeLine_eq]
    omega
  have bnd := hb _ (Value.ref (hp.objs.size + 1) :: us) J2.kIn lenE
  rw [List.append_nil] at bnd
  refine wpAny_call (PySem.HandSPX.call_own F.excBase_ValueError (fun Y => PySem.HandSPX.refsVE_contains Y cbm bmC) (I1.kIn _ _ atC) (PySem.W.looks_findIn I1.kIn iC) (fun self => PySem.W.bind_fn I1.kIn self tI) lus
    (codeAny_mono (F1.run _ X.stack _ _ ⟨Value.ref (hp.objs.size + 1) :: us, []⟩ (Value.ref (hp.objs.size + 1) :: us) _ _ (fun _ _ _ => False) (hr.make C us []) (J2.env0.make C us []) bnd rv2 sq) fun r s' hq' => ?_))
  cases r with
  | error er => exact (cx_false hq').elim
  | ok fl =>
    cases fl with
    | ret u =>
      obtain ⟨v, H2, os2, bare2, un2, hok2, rv, ev, d, fs, ea, ed, hd1, q2⟩ := hq'
      subst ev
      obtain ⟨h2, g2, d2, t2, os'⟩ := s'
      obtain ⟨t0, G, J, kG, ge, hoe, na⟩ := mk_end0 (d2 := d2) (t2 := t2) I1 szl kk un2 hok2 os2 bare2 ea ed hd1
      exact ⟨rv, hp.objs.size + 1, _, _, ⟨G, g2, d2, t2, os'⟩, _, .ref C, some d, rfl, J, kG, ge, hoe, ⟨rfl, rfl, fun vs hv => by cases hv; rfl⟩, rfl, rfl, na, rfl, bare2, raises_own T.exC T.tyC, q2⟩
    | next => exact False.elim hq'
    | brk => exact False.elim hq'
    | cont => exact False.elim hq'
variable {CM : CMap} {W : WX} {rb : List Nat} {l : XL} {c : String} {ns : List String} {n : Nat}
theorem ds_raise (hc : X.calm = true) (tk : L2N.Takes X W) (hC : CM c = some C) (R : RaiseOk X.prog X.w X.K X.mg X.base k C n ns) (hr : Room (k + 1) X.A) (hg : Gl X x) (hm : X.mg x = some (.ref C)) (ha : PA X (e :: es) (tL CM W l))
    (hdb : (x == ("__debug__" : Str)) = false) (he : starEach (e :: es) X.env = (false, eval e X.env) :: starEach es X.env) (hpl : (backTo p2 (starEach es X.env)).any (·.1) = false) :
    PS X (.Raise (some (.Call (.Name x p) (e :: es) [] p2)) none pos) (tS CM W rb (sRaise c ns l)) := by
  obtain ⟨fI, fd, ps, sp, h1, h2, h3, h4, h5⟩ := R.ini
  refine (L2N.ps_raise hc tk (mk_n R.o h1 h2 h3 hr h4 hg hm ha hdb he hpl)).weak fun E σ H ⟨F, ρ, fp, s, q⟩ => ?_
  unfold sRaise at q
  refine ⟨F, ρ, fp, s, RS.l s q fun ds vs F' H' g ed x r nd f q1 => ?_⟩
  by_cases hz : (ds.all D.fz && ds.length == ns.length) = true
  case neg => rw [if_neg hz] at q1; exact q1.elim
  rw [if_pos hz] at q1
  rw [Bool.and_eq_true] at hz
  obtain ⟨z1, z2⟩ := hz
  have hl : ds.length = ns.length := by simpa using z2
  have hv : vs.length = n := by rw [← r.length, hl]; exact R.len
  have rr : Reps CM F' ds vs := reps_fz z1 r
  refine ⟨by rw [hv]; exact Nat.le_trans R.small (by decide), fun a na => ?_⟩
  rw [List.append_nil]
  refine h5 a vs _ _ _ hv upd_same fun dx hdx ne => ?_
  rw [upd_ne ne] at hdx
  have e1 : upd (upd (upd H' a (exo a C none)) dx (exd dx ((ns.map Str.ofString).zip vs.reverse))) a (exo a C (some dx)) dx = some (exd dx ((ns.map Str.ofString).zip vs.reverse)) := by
    rw [upd_ne ne, upd_same]
  refine ⟨rfl, dx, _, upd_same, e1, hdx, ?_⟩
  have eh : upd (del (upd (upd (upd H' a (exo a C none)) dx (exd dx ((ns.map Str.ofString).zip vs.reverse))) a (exo a C (some dx))) a) dx (.xd ((ns.map Str.ofString).zip vs.reverse)) = upd H' dx (.xd ((ns.map Str.ofString).zip vs.reverse)) := by
    funext b
    by_cases hb : b = dx
    · rw [hb, upd_same, upd_same]
    · rw [upd_ne hb, upd_ne hb]
      by_cases ha : b = a
      · rw [ha, del_same, na]
      · rw [del_ne ha, upd_ne ha, upd_ne hb, upd_ne ha]
  rw [eh]
  have x2 : Ext F' H' (upd F' dx (.xd ((ns.map Str.ofString).zip vs.reverse))) (upd H' dx (.xd ((ns.map Str.ofString).zip vs.reverse))) := Ext.lay x.sub hdx
  exact q1 σ _ _ fp C dx vs.reverse (Gr.of_ext x2) ((s.ext x).ext x2) Eqs.refl hC upd_same (by rw [List.length_reverse]; exact hl.symm) (rr.rev.mono x2.ff)
end
theorem plainNm {x : Str} (h : plainName x = true) : (x == ("__debug__" : Str)) = false ∧ (x == ("__classdict__" : Str)) = false := by
  unfold plainName at h
  rw [Bool.and_eq_true, Bool.and_eq_true] at h
  exact ⟨by simpa using h.1.1, by simpa using h.1.2⟩
/-! ### an __init__ of one field -/
section
variable {P : Program} {w : World} {K : PySem.W.Frag} {mg : Str → Option Value} {base : Heap} {F : NdefX.NF} {fI cc C D : Addr} {a0 : Arg} {fd : FuncData} {self fn : Str}
theorem raise_one {fS : String} (S : SupD P K mg F fI cc D a0 fd) (SN : NdefX.NScope [self, fn, ("__class__" : Str)] [self, fn] [("__class__" : Str)] F.scope) (har : a0.arg = self) (efn : fn = Str.ofString fS) (pl1 : plainName self = true) (pl2 : plainName fn = true)
    {msg : Str} {kk : Nat} {q0 q1 q2 q3 q4 q5 p1 p2 p3 p4 : Pos} (hbd : F.body = [.Expr (.Call (.Attribute (.Call (.Name "super" q0) [] [] q1) "__init__" q2) [.Constant (.str msg) kk q3] [] q4) q5, .Assign [.Attribute (.Name self p1) fn p2] (.Name fn p3) p4])
    (hline : (q2.endLine == q4.line) = true) (T : SupC K C D) (hno : PySem.W.findIn K (.ref C) fn = some none) (iC : PySem.W.findIn K (.ref C) "__init__" = some (some (.ref fI))) (tI : PySem.W.typeIn K (.ref fI) = some (.type "function")) (hb : Binds K fd [self, fn] []) :
    RaiseOk P w K mg base 1 C 1 [fS] := by
  have pa := plainNm pl1
  have pb := plainNm pl2
  refine ⟨T.o, rfl, by decide, fI, fd, [self, fn], fun vs H Q E => ∃ a y, vs = [.ref a, y] ∧ H a = some (exo a C none) ∧ ∀ dx, H dx = none → dx ≠ a → Q .non (upd (upd H dx (exd dx [(fn, y)])) a (exo a C (some dx))), iC, tI, ?_, hb, ?_⟩
  · refine xinit_of (N := [self, fn, ("__class__" : Str)]) (D := D) S SN (by rw [har]; rfl) hbd hline (fun vs H Q E hsp => ?_) fun A outer s H vs Q E hsp => ?_
    · obtain ⟨a, y, rfl, _⟩ := hsp
      rfl
    · obtain ⟨a, y, rfl, h1, h2⟩ := hsp
      refine ⟨a, C, [y], tOst K fn (tVar 0) (tVar 1), rfl, h1, T, pss_one (ps_ost (pe_var rfl (.inl (SN.par self (by simp))) pa.1 pa.2) (pe_var rfl (.inl (SN.par fn (by simp))) pb.1 pb.2) (by first | rfl | exact sw_no rfl)), ?_⟩
      exact ⟨y, rfl, .ref a, rfl, a, C, rfl, T.o, hno, .inl ⟨h1, h2⟩⟩
  · intro a ys H Q E hl ha hq
    obtain ⟨y, rfl⟩ : ∃ y, ys = [y] := by
      match ys, hl with
      | [y], _ => exact ⟨y, rfl⟩
    refine ⟨a, y, rfl, ha, fun dx h1 h2 => ?_⟩
    have := hq dx h1 h2
    rw [efn]
    exact this
end
end Lc
end
section
set_option Elab.async false
set_option linter.all false
set_option maxRecDepth 100000
set_option maxHeartbeats 4000000
/-! try: body, except T as name: suite. -/
namespace Lc
open PySem PySem.Spec PyProof.Rows L2
section
variable {X : Cx} {CM : CMap} {W : WX} {rb : List Nat} {f h : XS} {x n : Str} {c0 : Value} {i : Nat} {body suite : List Stmt} {b₀ : Stmt} {np pos pos' : Pos} {all subs : List String}
theorem xob_rep {F H : Hp} {a C dx : Addr} {c : String} {ns : List String} {ds : List D} {vs : List V} (nx : CMx CM) (hC : CM c = some C) (hd : F dx = some (.xd ((ns.map Str.ofString).zip vs))) (hl : ns.length = ds.length) (r : Reps CM F ds vs) : RepO (cmX CM a C dx) F H (.nd (.xob c ns) ds) (.ref a) [] := by
  have u := cmX_up nx (a := a) (C := C) (dx := dx)
  rw [RepO.nd_iff, if_neg (show ¬ (Kd.xob c ns).own = true from Bool.false_ne_true)]
  refine ⟨Rep.nd_iff.mpr ⟨rfl, a, vs, rfl, ⟨by rw [hl, r.length], rfl, C, dx, u _ _ hC, rfl, rfl, hd⟩, Reps.up u _ _ r⟩, rfl⟩
theorem ds_try (hs : X.stack = X.env :: X.outer) (hf : X.env.frame = some X.env.locals) (hN : X.N.Nodup) (hi : X.N[i]? = some n) (hln : X.env.kindOf n = some .local) (hr : i ∈ rb) (hc : Names X x c0) (tk : L2N.Takes X W) (nx : CMx CM)
    (hx : ∀ c C, CM c = some C → all.contains c = true → PySem.W.exmOne X.K (.ref C) c0 = some (subs.contains c))
    (hb : ∀ (W' : WX) (pn : List (Addr × Obj)) (xe : Value → Shared → Prop), L2N.Takes (X.tr pn xe) W' → PassesOwn (model X.prog X.w) X.A X.env xe → PSs (X.tr pn xe) body (tS CM W' rb f))
    (hsu : ∀ (a : Addr) (oe : Obj) (C dx : Addr) (pn : List (Addr × Obj)) (c : String), CM c = some C → all.contains c = true → L2N.Zn (.ref C) (some dx) oe → (∃ vs, oe.data = .fields vs) → PSs (X.suite a ((a, oe) :: pn)) (b₀ :: suite) (tS (cmX CM a C dx) W0 rb h)) :
    PS X (.Try body [.ExceptHandler (some (.Name x np)) (some n) (b₀ :: suite) pos'] [] [] pos) (tS CM W rb (sTry all subs i f h)) := by
  refine (L2N.ps_try_as (tb := fun W' => tS CM W' rb f) (ts := fun a cls d D σ H => ∃ c C dx, cls = .ref C ∧ d = some dx ∧ CM c = some C ∧ all.contains c = true ∧ tS (cmX CM a C dx) W0 rb h D σ H) hs hf hN hi hln hc tk hb
    (fun a oe cls d pn hz hfd => ⟨fun pins s σ H D I ⟨c, C, dx, e1, e2, e3, e4, q⟩ => by
      subst e1
      subst e2
      exact (hsu a oe C dx pn c e3 e4 hz hfd).run pins s σ H D I q⟩)).weak fun E σ H ⟨F, ρ, fp, s, q⟩ => ?_
  refine ⟨F, ρ, fp, s, ?_⟩
  unfold sTry at q
  cases e : f ρ with
  | nx ρ' => rw [e] at q; exact q
  | bk ρ' => rw [e] at q; exact q
  | ct ρ' => rw [e] at q; exact q
  | rt d => rw [e] at q; exact q
  | bad => rw [e] at q; exact q
  | exc ρ' c ns ds =>
    rw [e] at q
    simp only at q
    by_cases hall : all.contains c = true
    case neg => rw [if_neg hall] at q; exact q.elim
    rw [if_pos hall] at q
    intro σ' F' H' fp' C dx vs g sl eq hC hd hl r
    refine ⟨subs.contains c, hx c C hC hall, fun hb2 a ha => ⟨c, C, dx, rfl, rfl, hC, hall, ?_⟩, fun hb2 => ?_⟩
    · rw [if_pos hb2] at q
      have u := cmX_up nx (a := a) (C := C) (dx := dx)
      have dn : ∀ k, (!xNames.contains k) = true → cmX CM a C dx k = CM k := fun k hk => cmX_dn hk
      obtain ⟨fp2, s2, k2⟩ := (sl.up u).set i (xob_rep (H := H') (a := a) nx hC hd hl r) List.nodup_nil (fun p hp => nomatch hp)
      refine ⟨F', _, fp2, s2, ?_⟩
      have fr2 : ∀ p ∈ fp2, p ∈ fp' := fun p hp => (k2 p hp).elim id (fun z => nomatch z)
      have gg : ∀ {F2 H2 : Hp} {fp3 fp4 : List Addr}, Gr F' H' fp2 F2 H2 fp3 → (∀ p ∈ fp4, p ∈ fp3) → Gr F H fp F2 H2 fp4 := fun {F2 H2 fp3 fp4} g2 h4 => g.trans ⟨fun b o z hb => g2.hh b o z (fun hb2 => hb (fr2 b hb2)), g2.ff, fun b o z nt hb nf => g2.new b o z nt (fun hb2 => hb (fr2 b hb2)) nf, fun p hp => (g2.fr p (h4 p hp)).imp (fr2 p) id⟩
      have ee : ∀ {σ2 : L2.St}, Eqs rb (σ'.set i (some (.ref a))) σ2 → Eqs rb σ (σ2.set i none) := fun {σ2} e2 => (eq.trans (Eqs.set hr)).trans (e2.trans (Eqs.set hr))
      cases eh : h (setE ρ' i (.nd (.xob c ns) ds)) with
      | nx ρ2 =>
        rw [eh] at q
        unfold SO.unX at q
        simp only at q
        by_cases hz : noxE (ρ2.set i none) = true
        case neg => rw [if_neg hz] at q; exact q.elim
        rw [if_pos hz] at q
        intro σ2 F2 H2 fp3 g2 sl2 e2
        obtain ⟨fp4, s4, k4⟩ := sl2.unset i
        exact q (σ2.set i none) F2 H2 fp4 (gg g2 k4) (s4.dn dn hz) (ee e2)
      | bk ρ2 =>
        rw [eh] at q
        unfold SO.unX at q
        simp only at q
        by_cases hz : noxE (ρ2.set i none) = true
        case neg => rw [if_neg hz] at q; exact q.elim
        rw [if_pos hz] at q
        intro σ2 F2 H2 fp3 g2 sl2 e2
        obtain ⟨fp4, s4, k4⟩ := sl2.unset i
        exact q (σ2.set i none) F2 H2 fp4 (gg g2 k4) (s4.dn dn hz) (ee e2)
      | ct ρ2 =>
        rw [eh] at q
        unfold SO.unX at q
        simp only at q
        by_cases hz : noxE (ρ2.set i none) = true
        case neg => rw [if_neg hz] at q; exact q.elim
        rw [if_pos hz] at q
        intro σ2 F2 H2 fp3 g2 sl2 e2
        obtain ⟨fp4, s4, k4⟩ := sl2.unset i
        exact q (σ2.set i none) F2 H2 fp4 (gg g2 k4) (s4.dn dn hz) (ee e2)
      | rt d =>
        rw [eh] at q
        unfold SO.unX at q
        simp only at q
        by_cases hz : d.nox = true
        case neg => rw [if_neg hz] at q; exact q.elim
        rw [if_pos hz] at q
        intro v F2 H2 g2 gr2 sF r2 nd2 nf2
        exact q v F2 H2 g2 (gg gr2 fun p hp => hp) sF (RepO.dn dn d v g2 hz r2) nd2 nf2
      | exc ρ2 c2 ns2 ds2 => rw [eh] at q; exact q.elim
      | bad => rw [eh] at q; exact q.elim
    · rw [if_neg (by rw [hb2]; exact Bool.false_ne_true)] at q
      exact q σ' F' H' fp' C dx vs g sl eq hC hd hl r
end
end Lc
end
section
set_option Elab.async false
set_option linter.all false
set_option maxRecDepth 100000
set_option maxHeartbeats 4000000
/-! Within an except suite. -/
namespace Lc
open PySem PySem.Spec PyProof.Rows L2
/-- what an own exception class must say -/
structure XcC (K : PySem.W.Frag) (C : Addr) : Prop where
  xf : XfC K C
  cl : (PySem.W.clsIn K C).isSome = true
  ha : PySem.W.findIn K (.ref C) "__class__" = some (some (.builtin "object.__class__"))
  hn : PySem.W.specialIn K (.builtin "object.__class__") "__get__" = some (some (.builtin "getset_descriptor.__get__"))
  ht : PySem.W.takesIn K (.builtin "object.__class__") = some true
  hm : PySem.W.mroIn K C (.type "object") = some true
/-- the exception p that the suite holds, as the table names it -/
structure HotP (CM : CMap) (X : Cx) (a C dx : Addr) (oe : Obj) : Prop where
  ea : CM "!a" = some a
  ec : CM "!c" = some C
  ed : CM "!d" = some dx
  hot : L2H.Hot1 X.A (a, oe)
  pn : (a, oe) ∈ X.pn
  z : L2N.Zn (.ref C) (some dx) oe
  f : ∃ vs, oe.data = .fields vs
  x : XcC X.K C
def HotX (CM : CMap) (X : Cx) : Prop := ∃ a C dx oe, HotP CM X a C dx oe
theorem HotX.hc {CM : CMap} {X : Cx} (h : HotX CM X) : L2H.HotC X := by
  obtain ⟨a, C, dx, oe, P⟩ := h
  exact ⟨(a, oe), P.hot, P.pn⟩
/-- a class by its name -/
def XNm (mg : Str → Option Value) (T : Str) (c0 : Value) (v0 : V) : Prop := (∃ A, mg T = some (.ref A) ∧ c0 = .ref A ∧ v0 = .ref A) ∨ ∃ t, mg T = none ∧ bootBuiltins T = some (.type t) ∧ T ≠ "__name__" ∧ c0 = .type t ∧ v0 = .ty t
theorem XNm.rel {mg : Str → Option Value} {T : Str} {c0 : Value} {v0 : V} (h : XNm mg T c0 v0) : ∀ u, RelV v0 u → u = c0 := fun u r => by
  rcases h with ⟨A, _, rfl, rfl⟩ | ⟨t, _, _, _, rfl, rfl⟩
  · exact r
  · exact r
section
variable {X : Cx} {CM : CMap} {W : WX} {a C dx : Addr} {oe : Obj} {e : Expr} {pos p ap : Pos} {m x : Str} {i : Nat} {all subs : List String}
/-- its object in the heap -/
theorem HotP.inst (P : HotP CM X a C dx oe) {pins : List (Addr × Obj)} {s : Shared} {σ : L2.St} {H : Hp} {fs : List (Str × V)} (I : L2.Inv X pins σ H s) (hd : H dx = some (.xd fs)) :
    ∃ od mA, s.heap.get? dx = some od ∧ s.heap.Ns1 dx mA ∧ (∀ f, RelO (fs.lookup f) (mA f)) ∧ PySem.W.InstAt s.heap a oe C (some od) := by
  obtain ⟨ha, _⟩ := I.pin (a, oe) (List.mem_append_left _ P.pn)
  obtain ⟨vs, hv⟩ := P.f
  have hx : ObjOk X.prog X.w H s.heap dx (.xd fs) := I.hok dx _ hd
  obtain ⟨mA, hns, hr⟩ := hx
  obtain ⟨od, ho, hl⟩ := lookIn_ns hns
  exact ⟨od, mA, ho, hns, hr, ha, P.z.1, by unfold PySem.W.notCls; rw [hv] <;> rfl, by rw [P.z.2.1]; exact ho⟩
/-- what a reading of the exception's value says -/
theorem HotP.rep (P : HotP CM X a C dx oe) {F H : Hp} {d : D} {v : V} {g : List Addr} {c : String} {ns : List String} {ds : List D} (hd : d = .nd (.xob c ns) ds) (r : RepO CM F H d v g) : v = .ref a ∧ CM c = some C ∧ ∃ vs, F dx = some (.xd ((ns.map Str.ofString).zip vs)) ∧ Reps CM F ds vs ∧ vs.length = ns.length := by
  subst hd
  rw [RepO.nd_iff, if_neg (show ¬ (Kd.xob c ns).own = true from Bool.false_ne_true)] at r
  obtain ⟨_, q, vs, rfl, ⟨h1, h2, C', dx', h3, h4, h5, h6⟩, h7⟩ := Rep.nd_iff.mp r.1
  have e1 := P.ea.symm.trans h2
  have e2 := P.ec.symm.trans h4
  have e3 := P.ed.symm.trans h5
  cases e1
  cases e2
  cases e3
  exact ⟨rfl, h3, vs, h6, h7, h1⟩
/-- the facts of the table -/
structure XFacts (K : PySem.W.Frag) (CM : CMap) (all fl : List String) : Prop where
  cls : ∀ c, all.contains c = true → ∀ C, CM c = some C → XcC K C ∧ ∀ f ∈ fl, PySem.W.findIn K (.ref C) (Str.ofString f) = some none
variable {fl : List String}
/-- e.f -/
theorem do_xat (P : HotP CM X a C dx oe) (T : XFacts X.K CM all fl) {f : String} (hf : f ∈ fl) (hm : m = Str.ofString f) (hN : X.N[i]? = some x) (hv : Vis X.env.scope x) (hd : (x == ("__debug__" : Str)) = false) (hcd : (x == ("__classdict__" : Str)) = false) :
    PE X (.Attribute (.Name x p) m pos) (tO CM W (un (D.xat all f) (bvar i))) := by
  refine ⟨fun pins s σ H Q I ⟨F, ρ, fp, sl, q⟩ => ?_⟩
  unfold un bvar at q
  cases e1 : getE ρ i with
  | none => rw [e1] at q; exact q.elim
  | some d =>
    rw [e1] at q
    replace q : RO CM W σ F H Q (Res.ofO (D.xat all f d)) := q
    obtain ⟨v, g, ev, r⟩ := sl.rep.get (getE_some e1)
    unfold D.xat at q
    split at q
    · rename_i c ns ds
      by_cases hall : all.contains c = true
      case neg => rw [if_neg hall] at q; exact q.elim
      rw [if_pos hall] at q
      obtain ⟨rfl, hC, vs, h6, rr, hl⟩ := P.rep rfl r
      obtain ⟨T1, T2⟩ := T.cls c hall C hC
      cases e2 : fget ns ds f with
      | none => rw [e2] at q; exact q.elim
      | some y =>
        rw [e2] at q
        obtain ⟨w, g2, lw, rw'⟩ := fget_rep (rr.o (H := H)) e2
        have he : PE X (.Name x p) (tVar i) := pe_var hN hv hd hcd
        refine attr_of (base_of (by rfl)) (thn (he.run pins s σ H (fun u H1 => u = .ref a ∧ H1 = H) I ⟨_, ev, rfl, rfl⟩) fun u s1 hh => ?_)
        obtain ⟨z, H1, I1, rz, ez, eH⟩ := hh
        subst ez
        subst eH
        obtain rfl : u = Value.ref a := rz
        obtain ⟨od, mA, ho, hns, hr, J⟩ := P.inst I1 (sl.sub _ _ h6)
        obtain ⟨u', hu, ru⟩ := RelO.some_of (v := w) (o := mA m) (by have := hr m; rw [hm, lw] at this; rw [hm]; exact this)
        have T3 := T2 f hf
        rw [← hm] at T3
        obtain ⟨od2, ho2, hl2⟩ := lookIn_ns hns
        rw [ho] at ho2
        cases ho2
        refine PySem.HandSPX.exc_get I1.kIn J T1.xf.ga T1.xf.gg T1.xf.exC (PySem.W.findObj_own T1.xf.hdC T3 rfl (by rw [hl2, hu])) (handed_of ru) ⟨w, H1, I1.tok _, ru, ?_⟩
        exact q w F H1 g2 (Ext.refl sl.sub) rw'
    · exact q.elim
theorem call_isX (P : HotP CM X a C dx oe) (T : XcC X.K C) : CallR X (.builtin "isinstance") (fun xs H Q => ∃ (c : V) (cv : Value) (b : Bool) (fs : List (Str × V)), xs = [.ref a, c] ∧ (∀ u, RelV c u → u = cv) ∧ PySem.W.kitOne X.K (.ref C) cv = some b ∧ H dx = some (.xd fs) ∧ Q (.bl b) H) := by
  intro pins s σ H xs us Q I r ⟨c, cv, b, fs, ex, hcv, ek, hd, q⟩
  subst ex
  cases r with
  | cons rx rr =>
    cases rr with
    | cons rt rr =>
      cases rr
      cases rx
      have ec := hcv _ rt
      subst ec
      obtain ⟨od, mA, ho, hns, hr, J⟩ := P.inst I hd
      exact PySem.W.kia_one (PySem.W.kitx_exc T.cl T.xf.ga T.xf.gg T.xf.exC T.ha T.hn T.ht T.hm) I.kIn J ek (fun z => nomatch z) fun tk => ⟨.bl b, H, I.kept (t' := tk) fun _ _ z => z, rfl, q⟩
/-- isinstance(e, T) -/
theorem dx_isX {fa : XP} {T : Str} {c0 : Value} {v0 : V} {p2 : Pos} (P : HotP CM X a C dx oe) (hg : Gl X "isinstance") (hm : X.mg "isinstance" = none) (hgT : Gl X T) (hT : XNm X.mg T c0 v0)
    (hk : ∀ c C, all.contains c = true → CM c = some C → PySem.W.kitOne X.K (.ref C) c0 = some (subs.contains c)) (hdT : (T == ("__debug__" : Str)) = false) (ha : PE X e (tO CM W fa)) (hst : isSt e = false) :
    PE X (.Call (.Name "isinstance" p) [e, .Name T p2] [] pos) (tX CM W (un (fun d => (D.isX all subs d).map .bl) fa)) := by
  have hpT : PE X (.Name T p2) (tC v0) := by
    rcases hT with ⟨A, h1, rfl, rfl⟩ | ⟨t, h1, h2, h3, rfl, rfl⟩
    · exact pe_glob hgT h1 rfl hdT
    · exact pe_bltn hgT h1 h2 rfl h3 hdT
  refine (pe_callB (call_isX P P.x) hg hm PyProof.Rows.boot_isinstance (pa_cons ha (pa_cons hpT pa_nil rfl) (se1 hst)) (by decide) (by decide) (se1 hst) rfl).weak fun σ H Q ⟨F, ρ, fp, s, q⟩ => ⟨F, ρ, fp, s, RO.then_ q fun d v F1 H1 g1 e1 x1 r1 q1 => ?_⟩
  replace q1 : RX CM W σ F1 H1 Q (Res.ofO ((D.isX all subs d).map D.bl)) := q1
  unfold D.isX at q1
  split at q1
  · rename_i c ns ds
    by_cases hall : all.contains c = true
    case neg => rw [if_neg hall] at q1; exact q1.elim
    rw [if_pos hall] at q1
    obtain ⟨rfl, hC, vs, h6, rr, hl⟩ := P.rep rfl r1
    exact ⟨v0, c0, subs.contains c, _, rfl, hT.rel, hk c C hall hC, x1.sub _ _ h6, q1.v.bl x1.sub⟩
  · exact q1.elim
end
/-! ### for over range(n), within a suite -/
theorem _root_.L2H.PIH.weak {X : Cx} {tg iter : Expr} {t t' : TI} (h : L2H.PIH X tg iter t) (w : ∀ σ H R, t' σ H R → t σ H R) : L2H.PIH X tg iter t' :=
  ⟨fun pins s σ H R I q => h.run pins s σ H R I (w σ H R q)⟩
section
variable {X : Cx} {CM : CMap} {W : WX} {rb : List Nat} {tg e iter : Expr} {fa : XP} {it : XI2} {g : XG} {b : XS} {body : List Stmt} {p pos : Pos}
theorem diH_rg1 (hg : Gl X "range") (hm : X.mg "range" = none) (ha : PE X e (tO CM W fa)) (hs : starEach [e] X.env = [(false, eval e X.env)]) : L2H.PIH X tg (.Call (.Name "range" p) [e] [] pos) (tIt CM W (iRg1 fa)) :=
  (L2H.pi_range1H hg hm (pa_cons ha pa_nil hs) hs).weak fun σ H R ⟨F, ρ, fp, s, q⟩ => by
    refine ⟨F, ρ, fp, s, ?_⟩
    unfold iRg1 at q
    cases e : fa ρ with
    | bad => rw [e] at q; exact q
    | exc c ns ds => rw [e] at q; exact q
    | val d =>
      rw [e] at q
      intro v F' H' g x r
      simp only [Res.bind_val] at q
      cases d with
      | int j =>
        simp only at q
        obtain rfl := ro_int r
        by_cases hj : RgOk j
        · rw [if_pos hj] at q
          exact ⟨j, rfl, hj.1, hj.2, q _ _ _ x walkD_range⟩
        · rw [if_neg hj] at q; exact q.elim
      | _ => exact q.elim
theorem dsH_for (hp : PassesOwn (model X.prog X.w) X.A X.env X.xe) (hc : L2H.HotC X) (hi : L2H.PIH X tg iter (tIt CM W it)) (hg : PG X tg (dG CM rb g)) (hb : PSs X body (tS CM W rb b)) (hs : ∀ x, foldedSetIterable iter X.env x = pure x) :
    PS X (.For tg iter body [] pos) (tS CM W rb (sFor it g b)) :=
  (L2H.ps_forH hp hc hi hg hb hs).weak fun E σ H ⟨F, ρ, fp, s, q⟩ => by
    refine ⟨F, ρ, fp, s, ?_⟩
    unfold sFor at q
    cases e : it ρ with
    | bad => rw [e] at q; exact q
    | exc c ns ds => rw [e] at q; exact RS.re s q
    | val ds =>
      rw [e] at q
      intro J F' H' x w
      exact forL_run (s.ext x) w (RS.gr (Gr.of_ext x) Eqs.refl q)
end
/-! ### a def called within a suite -/
/-- called in the context X -/
def RunAt (X : Cx) (CM : CMap) (fv : Value) (npos : Nat) (φ : List D → Res D) : Prop :=
  ∀ (pins : List (Addr × Obj)) (s : Shared) (σ : L2.St) (F H : Hp) (us : List Value) (vs : List V) (ds : List D) (Q : VK) (W : WX),
    L2.Inv X pins σ H s → L2N.Takes X W → Vals vs us → vs.length = npos → Same F H → Reps CM F ds vs → RX CM W σ F H Q (φ ds) → wpAny (model X.prog X.w) X.A (PySem.call fv us []) (EP X pins σ Q) X.xe s
section
variable {X : Cx} {CM : CMap} {W : WX} {es : List Expr} {l : XL} {φ : List D → Res D} {p pos : Pos}
theorem dxH_call {x : Str} {f : Addr} {npos : Nat} (hg : Gl X x) (hm : X.mg x = some (.ref f)) (hk : PySem.W.keepIn X.K (.ref f) = true) (R : RunAt X CM (.ref f) npos φ) (tk : L2N.Takes X W)
    (ha : PA X es (tLw CM W l)) (ns : ∀ e ∈ es, ∀ v p, e ≠ .Starred v p) (hnil : es = [] → l = lnil) (hn : ∀ ρ a, l ρ = .val a → a.length = npos) (hdb : (x == ("__debug__" : Str)) = false) :
    PE X (.Call (.Name x p) es [] pos) (tX CM W (Lc.call φ l lnil)) := by
  refine ⟨fun pins s σ H Q I ⟨F, ρ, fp, s', q⟩ => ?_⟩
  refine wpAny_Call_Name_kw (ld_glob I hg hm ?_ hdb)
  refine callWith_run (ks := []) (first := []) (k := fun ds => lends ds (φ (ds.map D.frz))) I s' hk ha dk_nil ns hnil rfl q fun ds F1 H1 g us ws vs zs s2 x1 r1 f1 q1 I1 rv rz ⟨a, b, ea, eb, eab, la, lb⟩ => ?_
  have hzs : zs = [] := by
    cases eb
    exact List.length_eq_zero_iff.mp (lb.symm.trans rfl)
  subst hzs
  cases rz
  rw [List.append_nil] at r1
  have q2 := RX.unlend x1.sub r1 f1 (RX.ext x1 q1)
  exact R pins s2 σ _ H1 us vs _ Q W I1 tk rv (la.symm.trans (hn ρ a ea)) (adopt_sub x1.sub) (reps_adopt f1 r1) q2
end
/-- what a def promises where the exception p is handled -/
structure FnX (P : Program) (w : World) (K : PySem.W.Frag) (mg : Str → Option Value) (base : Heap) (CX : CXT) (k : Nat) (f : Addr) (fd : FuncData) (ps : List Str) (sp : Sp) (p : Addr × Obj) : Prop where
  len : ∀ vs H Q E, sp vs H Q E → vs.length = ps.length
  run : ∀ (A : Around) (outer : List PySem.Env) (s : Shared) (H : Hp) (args : Args) (us : List Value) (vs : List V) (Q : VK) (E : XK), L2H.RoomH k A → L2H.Hot1 A p → L2H.PinOk outer H s p → Env0 P w K mg base A outer s H → BindsTo s fd args (ps.zip us) → Vals vs us → sp vs H Q E →
    codeAny (model P w) A (.call (.ref f) args) (CR CX outer P w H s Q E) s
section
variable {CX : CXT} {P : Program} {w : World} {K : PySem.W.Frag} {mg : Str → Option Value} {base : Heap} {k : Nat} {f : Addr} {fd : FuncData} {ps N : List Str} {sp : Sp} {pe : Addr × Obj}
theorem fnX_of {name qual : Str} {params : Arguments} {body : List Stmt} {scope : Scope} {dV kV doc pm cdv ct oc : Value} {an od : Option Addr} {osl : Array (Option Value)}
    (lk : K.lookup f = some ⟨oc, od, .func (PySem.W.fnOf name qual params body scope dV kV doc pm an cdv ct), osl⟩) (hcd : PySem.W.codeIn K cdv qual = true) (S : FnScope N ps scope) (len : ∀ vs H Q E, sp vs H Q E → vs.length = ps.length)
    (hbd : ∀ (A : Around) (outer : List PySem.Env) (s : Shared) (H : Hp) (vs : List V) (Q : VK) (E : XK), L2H.Hot1 A pe → L2H.RoomH k (A.deeper (envOfC qual scope s.heap.objs.size f cdv)) → sp vs H Q E →
      ∃ t, PSs (L2H.cxH CX P w K mg base N qual scope f cdv A outer s H E pe) body t ∧ t { nx := fun _ H' => Q .non H', rt := Q } (L2.start N vs) H) :
    FnX P w K mg base CX (k + 1) f (PySem.W.fnOf name qual params body scope dV kV doc pm an cdv ct) ps sp pe := by
  refine ⟨len, fun A outer s H args us vs Q E room hot pin e0 bnd rv hsp => ?_⟩
  have lvs := len _ _ _ _ hsp
  have inK : K.In s.heap := e0.mod.kin.keeps fun b o z => (e0.bs b o z).1
  have nolim : s.heap.NoLimit := e0.mod.nolimit.keeps fun b o z => (e0.bs b o z).1
  have kinds : ∀ y ∈ ps.zip us, scope.names.lookup y.1 = some .local ∨ (scope.names.lookup y.1 = some .cell ∧ ((cellsFrom (s.heap.objs.size + 1) scope.names []).lookup y.1).isSome = true) := fun ⟨n, v⟩ hy =>
    (S.par n (List.of_mem_zip hy).1).imp id fun q => ⟨q, PySem.W.cellsFrom_some _ _ _ (.inl q)⟩
  refine codeAny_call_function room.depth (inK _ _ lk) rfl S.co S.gen rfl (PySem.W.codeRec_of inK hcd) (bnd _ _ _ _ (wpAny_newFunctionEnv_cells S.kind kinds fun env he s1 x => ?_))
  subst he
  refine ⟨nolim.keeps x.toInCall.keep, codeAny_func ?_⟩
  obtain ⟨t, ht, hq⟩ := hbd A outer s H vs Q E hot (room.deeper _) hsp
  have I : L2.Inv (L2H.cxH CX P w K mg base N qual scope f cdv A outer s H E pe) [] (L2.start N vs) H s1 := L2H.inv_startH S pin e0 lvs rv x
  refine wpAny_mono (ht.run [] s1 (L2.start N vs) H _ I hq) (fun fl s' hs => ?_) fun _ _ z => z
  have done : ∀ {σ' : L2.St} {H' : Hp} {v : V} {u : Value}, L2.Inv (L2H.cxH CX P w K mg base N qual scope f cdv A outer s H E pe) [] σ' H' s' → RelV v u → Q v H' → CE outer P w H s Q u s' :=
    fun {_ H' v _} J r q => ⟨v, H', J.os, J.bare, J.base, J.hok, r, q⟩
  match fl, hs with
  | .ret u, ⟨v, σ', H', J, r, q⟩ => exact done J r q
  | .next, ⟨σ', H', J, q⟩ => exact done (v := V.non) (u := Value.none) J rfl q
  | .brk, ⟨_, _, _, q⟩ => exact q.elim
  | .cont, ⟨_, _, _, q⟩ => exact q.elim
/-- .. in the context X -/
theorem runAt_of {X : Cx} {CM : CMap} {φ : List D → Res D} (F0 : FnX X.prog X.w X.K X.mg X.base (L2N.CX X.prog X.w) k f fd ps (spF CM ps.length φ) pe) (hb : Binds X.K fd ps []) (hr : L2H.RoomH k X.A) (hot : L2H.Hot1 X.A pe) (hp : pe ∈ X.pn) : RunAt X CM (.ref f) ps.length φ := by
  intro pins s σ F H us vs ds Q W I tk rv l1 sF r q
  have hq : spF CM ps.length φ vs H Q (fun c d H' => W c d σ H') := by
    refine ⟨l1, F, ds, sF, r, ?_⟩
    cases e : φ ds with
    | val d => rw [e] at q; exact q
    | exc c ns es => rw [e] at q; exact q
    | bad => rw [e] at q; exact q
  have hl : us.length = ps.length := by rw [← rv.length]; exact l1
  have bnd := hb s us I.kIn (by rw [List.append_nil]; exact hl)
  rw [List.append_nil] at bnd
  have P1 := I.pin pe (List.mem_append_left _ hp)
  have hpin : L2H.PinOk X.stack H s pe := ⟨P1.1, P1.2.1, fun hm => (List.mem_cons.mp (I.stkSub pe.1 hm)).elim P1.2.2.1 P1.2.2.2.1, P1.2.2.2.2⟩
  refine wpAny_call (codeAny_mono (F0.run X.A X.stack s H ⟨us, []⟩ us vs Q (fun c d H' => W c d σ H') hr hot hpin I.env0 bnd rv hq) fun r s' hq => ?_)
  cases r with
  | error e => exact tk _ _ (L2N.XE.of_call I (fun _ _ _ h => h) hq)
  | ok fl =>
    cases fl with
    | ret u => exact I.after hq
    | next => exact False.elim hq
    | brk => exact False.elim hq
    | cont => exact False.elim hq
end
end Lc
end
section
set_option Elab.async false
set_option linter.all false
set_option maxRecDepth 100000
set_option maxHeartbeats 4000000
/-! What the table says of exceptions. -/
namespace Lc
open PySem PySem.Spec PyProof.Rows L2
structure GX (xd : XD) (P : Program) (w : World) (K : PySem.W.Frag) (mg : Str → Option Value) (base : Heap) (k : Nat) (CM : CMap) : Prop where
  nx : xd.xh ≠ [] → CMx CM
  al : ∀ c, xd.all.contains c = true → (!xNames.contains c) = true
  xf : XFacts K CM xd.all xd.fl
  xi : ∀ T subs, xd.xi.lookup T = some subs → ∃ c0 v0, XNm mg T c0 v0 ∧ ∀ c C, xd.all.contains c = true → CM c = some C → PySem.W.kitOne K (.ref C) c0 = some (subs.contains c)
  xh : ∀ T subs, xd.xh.lookup T = some subs → ∃ c0, mg T = some c0 ∧ ∀ c C, xd.all.contains c = true → CM c = some C → PySem.W.exmOne K (.ref C) c0 = some (subs.contains c)
  exs : ∀ x c n ns, xd.exs.lookup x = some (c, n, ns) → ∃ C, CM c = some C ∧ mg x = some (.ref C) ∧ RaiseOk P w K mg base k C n ns
  hfn : ∀ x e, (x, e) ∈ xd.hfn → ∃ f fd ps, mg x = some (.ref f) ∧ PySem.W.keepIn K (.ref f) = true ∧ Binds K fd ps [] ∧ ps.length = e.npos ∧
    ∀ a C dx oe, XcC K C → L2N.Zn (.ref C) (some dx) oe → (∃ vs, oe.data = .fields vs) → FnX P w K mg base (L2N.CX P w) k f fd ps (spF (cmX CM a C dx) ps.length e.fn) (a, oe)
section
variable {P : Program} {w : World} {K : PySem.W.Frag} {mg : Str → Option Value} {base : Heap} {k k' : Nat} {CM : CMap} {xd : XD}
theorem FnX.mono {CX : CXT} {f : Addr} {fd : FuncData} {ps : List Str} {sp : Sp} {p : Addr × Obj} (F : FnX P w K mg base CX k f fd ps sp p) (h : k ≤ k') : FnX P w K mg base CX k' f fd ps sp p :=
  ⟨F.len, fun A outer s H args us vs Q E hr => F.run A outer s H args us vs Q E (hr.mono h)⟩
theorem GX.mono (G : GX xd P w K mg base k CM) (h : k ≤ k') : GX xd P w K mg base k' CM := by
  refine ⟨G.nx, G.al, G.xf, G.xi, G.xh, fun x c n ns e => ?_, fun x e he => ?_⟩
  · obtain ⟨C, h1, h2, h3⟩ := G.exs x c n ns e
    exact ⟨C, h1, h2, h3.mono h⟩
  · obtain ⟨f, fd, ps, h1, h2, h3, h4, h5⟩ := G.hfn x e he
    exact ⟨f, fd, ps, h1, h2, h3, h4, fun a C dx oe q1 q2 q3 => (h5 a C dx oe q1 q2 q3).mono h⟩
theorem GX.nil : GX {} P w K mg base k CM where
  nx := fun h => absurd rfl h
  al := fun c h => by cases h
  xf := ⟨fun c h => by cases h⟩
  xi := fun T subs h => by cases h
  xh := fun T subs h => by cases h
  exs := fun x c n ns h => by cases h
  hfn := fun x e h => by cases h
/-- a def's body read from its start -/
theorem fnP_read {N : List Str} {np : Nat} {f : XS} {vs : List V} {H : Hp} {Q : VK} {E : XK} (h : spF CM np (fnP np N.length f) vs H Q E) : tS CM (fun c d _ H => E c d H) (List.range N.length) f { nx := fun _ H' => Q .non H', rt := Q } (L2.start N vs) H := by
  obtain ⟨hl, F, ds, sF, r, q⟩ := h
  have hld : ds.length = np := r.length.trans hl
  unfold fnP at q
  rw [if_pos hld] at q
  refine ⟨F, startE N.length ds, [], sl_start sF r, ?_⟩
  cases e : f (startE N.length ds) with
  | nx ρ => rw [e] at q; exact fun σ' F' H' fp' g s' _ => q .non F' H' [] (g.ext s'.sub) (by unfold RepO; exact ⟨rfl, rfl⟩) List.nodup_nil (fun p hp => nomatch hp)
  | rt d => rw [e] at q; exact fun v F' H' g gr s' rr n fr => q v F' H' g (gr.ext s') rr n fun p hp => ⟨(gr.fr p hp).elim (fun z => nomatch z) id, fr p hp⟩
  | exc ρ c ns vs => rw [e] at q; exact fun σ' F' H' fp' C dx us g s' _ hC hd hl rr => q C dx F' H' us hC (g.ext s'.sub) hd hl rr
  | bk ρ => rw [e] at q; exact q.elim
  | ct ρ => rw [e] at q; exact q.elim
  | bad => rw [e] at q; exact q.elim
end
end Lc
end
section
set_option Elab.async false
set_option linter.all false
set_option maxRecDepth 100000
set_option maxHeartbeats 2000000
/-! The translator is right: expressions. -/
namespace Lc
open PySem PySem.Spec L2
section
variable {X : Cx} {CM : CMap} {W : WX} {rb : List Nat} {f g : XS} {a fa fb fc fk fv : XP} {e e2 b c : Expr} {st : Stmt} {pos p ap cp : Pos}
theorem dx_chain {op op' : CmpOp} {g h : D → D → Option Bool} (ho : OpR X (compareOp op) (rD CM (oB g))) (ho' : OpR X (compareOp op') (rD CM (oB h))) (ha : PE X e (tO CM W fa)) (hb : PE X b (tO CM W fb)) (hc : PE X c (tO CM W fc)) (hm : lastMarks [op, op'] [b, c] = false) :
    PE X (.Compare e [op, op'] [b, c] pos) (tX CM W (ofB (tchn g h fa fb fc))) :=
  (pe_chain ho ho' ha hb hc hm).weak fun σ H Q ⟨F, ρ, fp, s, q⟩ => by
    have q' : tT CM W (tchn g h fa fb fc) σ H fun k H1 => Q (.bl k) H1 := by
      refine ⟨F, ρ, fp, s, ?_⟩
      unfold ofB at q
      cases e1 : tchn g h fa fb fc ρ with
      | bad => rw [e1] at q; exact q
      | exc c ns es => rw [e1] at q; exact q
      | val k => rw [e1] at q; exact fun F' H' x => (rx_v (RX.ext x q)).bl x.sub
    have z := chain_go (r1 := rD CM (oB g)) (r2 := rD CM (oB h)) rfl rfl rfl rfl rfl q'
    obtain ⟨F0, ρ0, fp0, s0, z⟩ := z
    refine ⟨F0, ρ0, fp0, s0, ?_⟩
    have bl : ∀ {x : V} {H1 : Hp}, (∃ c, x = V.bl c ∧ Q (.bl c) H1) → Q x H1 := fun ⟨c, e, q⟩ => by rw [e]; exact q
    have mO : ∀ {r : Res D} {F H : Hp} {Q1 Q2 : VK}, (∀ v H', Q1 v H' → Q2 v H') → RO CM W σ F H Q1 r → RO CM W σ F H Q2 r := fun {r F H Q1 Q2} hq hr => by
      cases r with
      | val d => exact fun v F' H' g x r => hq _ _ (hr v F' H' g x r)
      | exc c ns es => exact hr
      | bad => exact hr
    have mV : ∀ {o : Option D} {F H : Hp} {Q1 Q2 : VK}, (∀ v H', Q1 v H' → Q2 v H') → RV CM F H Q1 o → RV CM F H Q2 o := fun {o F H Q1 Q2} hq hr => by
      cases o with
      | some d => exact fun v F' H' g x r n f => hq _ _ (hr v F' H' g x r n f)
      | none => exact hr
    refine mO (fun v H1 ⟨F1, ρ1, fp1, s1, z1⟩ => ⟨F1, ρ1, fp1, s1, mO (fun v2 H2 ⟨F2, d, d2, g1, g2, sF, r1, r2, z2⟩ => ⟨F2, d, d2, g1, g2, sF, r1, r2, mV (fun z H3 ⟨k, ez, z3⟩ => ⟨k, ez, ?_⟩) z2⟩) z1⟩) z
    cases k with
    | false => exact bl z3
    | true =>
      obtain ⟨F3, ρ3, fp3, s3, z3⟩ := z3
      exact ⟨F3, ρ3, fp3, s3, mO (fun v4 H4 ⟨F4, d, d2, g1, g2, sF, r1, r2, z4⟩ => ⟨F4, d, d2, g1, g2, sF, r1, r2, mV (fun z H5 h5 => bl h5) z4⟩) z3⟩
/-! ### isinstance -/
theorem kit_all {K : PySem.W.Frag} {d : D} {T : String} {r : Bool} {F H : Hp} {v : V} {fp : List Addr} (s : Same F H) (hT : T = "int" ∨ T = "bool" ∨ T = "str" ∨ T = "tuple" ∨ T = "list") (h : D.isTy d T = some r) (rd : RepO CM F H d v fp) : ∃ t, TyX K H v (.type t) ∧ PySem.W.kitOne K (.type t) (.type T) = some r := by
  cases d with
  | non =>
    obtain rfl := ro_non rd
    refine ⟨"NoneType", .base .non, ?_⟩
    have : r = false := by simpa [D.isTy] using h.symm
    subst this
    rcases hT with e | e | e | e | e <;> subst e <;> exact kit_ty (by decide +kernel)
  | bl b =>
    obtain rfl := ro_bl rd
    refine ⟨"bool", .base (.bl b), ?_⟩
    have : r = (T == "bool" || T == "int") := by simpa [D.isTy] using h.symm
    subst this
    rcases hT with e | e | e | e | e <;> subst e <;> exact kit_ty (by decide +kernel)
  | int i =>
    obtain rfl := ro_int rd
    refine ⟨"int", .base (.int i), ?_⟩
    have : r = (T == "int") := by simpa [D.isTy] using h.symm
    subst this
    rcases hT with e | e | e | e | e <;> subst e <;> exact kit_ty (by decide +kernel)
  | str t =>
    obtain ⟨rfl, _⟩ := ro_str rd
    refine ⟨"str", .base (.str _), ?_⟩
    have : r = (T == "str") := by simpa [D.isTy] using h.symm
    subst this
    rcases hT with e | e | e | e | e <;> subst e <;> exact kit_ty (by decide +kernel)
  | nd k ds =>
    cases k with
    | tup =>
      obtain ⟨pp, vs, rfl, hp, _, _, _⟩ := ro_tup s rd
      refine ⟨"tuple", .base (.tup hp), ?_⟩
      have : r = (T == "tuple") := by simpa [D.isTy] using h.symm
      subst this
      rcases hT with e | e | e | e | e <;> subst e <;> exact kit_ty (by decide +kernel)
    | lst o =>
      obtain ⟨pp, vs, fps, rfl, hp, _, _⟩ := ro_lst s rd
      refine ⟨"list", .base (.lst hp), ?_⟩
      have : r = (T == "list") := by simpa [D.isTy] using h.symm
      subst this
      rcases hT with e | e | e | e | e <;> subst e <;> exact kit_ty (by decide +kernel)
    | _ => cases h
theorem dx_isTy {T : Str} {t : String} {p2 : Pos} (hg : Gl X "isinstance") (hm : X.mg "isinstance" = none) (hgT : Gl X T) (hmT : X.mg T = none) (hT : t = "int" ∨ t = "bool" ∨ t = "str" ∨ t = "tuple" ∨ t = "list") (hbT : bootBuiltins T = some (.type t)) (hnT : T ≠ "__name__") (hdT : (T == ("__debug__" : Str)) = false)
    (hb : bootBuiltins "isinstance" = some (.builtin "isinstance")) (ha : PE X e (tO CM W fa)) (hst : isSt e = false) : PE X (.Call (.Name "isinstance" p) [e, .Name T p2] [] pos) (tX CM W (un (fun d => (D.isTy d t).map .bl) fa)) :=
  (pe_callB call_isi hg hm hb (pa_cons ha (pa_cons (pe_bltn (v := .ty t) hgT hmT hbT rfl hnT hdT) pa_nil rfl) (se1 hst)) (by decide) (by decide) (se1 hst) rfl).weak fun σ H Q ⟨F, ρ, fp, s, q⟩ => ⟨F, ρ, fp, s, RO.then_ q fun d v F1 H1 g1 e1 x1 r1 q1 => by
    replace q1 : RX CM W σ F1 H1 Q (Res.ofO ((D.isTy d t).map D.bl)) := q1
    cases hd : D.isTy d t with
    | none => rw [hd] at q1; exact q1.elim
    | some r =>
      rw [hd] at q1
      obtain ⟨ty, k1, k2⟩ := kit_all (K := X.K) x1.sub hT hd r1
      exact ⟨v, .ty t, .type ty, .type t, r, rfl, .ty t, k1, k2, q1.v.bl x1.sub⟩⟩
end
/-- what an own operator of the table is -/
def OwnOk (P : Program) (w : World) (K : PySem.W.Frag) (mg : Str → Option Value) (base : Heap) (k : Nat) (CM : CMap) (e : OwnE) : Prop :=
  ∃ C g, CM e.cn = some C ∧ Cls K C ∧ Meth K C (Str.ofString e.mn) g ∧ PySem.W.selfFirst K C = true ∧ RunOk P w K mg base k CM (.ref g) 2 [] e.fn
/-! ### the context -/
structure GOk (tb : Tb) (P : Program) (w : World) (K : PySem.W.Frag) (mg : Str → Option Value) (base : Heap) (k : Nat) (CM : CMap) : Prop where
  con : ∀ x d, tb.con.lookup x = some d → ∃ u v, mg x = some u ∧ RelV v u ∧ ∀ F, Rep CM F d v
  blt : ∀ x, tb.blt.contains x = true → mg x = none
  fns : ∀ x e, (x, e) ∈ tb.fns → ∃ f, mg x = some (.ref f) ∧ PySem.W.keepIn K (.ref f) = true ∧ RunOk P w K mg base k CM (.ref f) e.npos e.ks e.fn
  mts : ∀ m e, (m, e) ∈ tb.mts → ∃ C g, CM e.cn = some C ∧ Cls K C ∧ Meth K C m g ∧ RunOk P w K mg base k CM (.ref g) (e.npos + 1) e.ks e.fn
  prp : AttrOk P w K mg base k CM tb.prp
  own : ∀ e ∈ tb.own, OwnOk P w K mg base k CM e
  iso : ∀ x cn, tb.iso.lookup x = some cn → ∃ C, CM cn = some C ∧ mg x = some (.ref C) ∧ IsoC K C
  x : GX tb.xd P w K mg base k CM
structure Ct (c : TC) (k : Nat) (CM : CMap) (W : WX) (X : Cx) : Prop where
  calm : X.calm = true
  nd : X.N.Nodup
  eN : X.N = c.N
  vis : ∀ x, visS c.sc x = true → Vis X.env.scope x
  lcl : ∀ x, lclS c.sc x = true → X.env.scope.names.lookup x = some .local
  glo : ∀ x, gloS c.sc x = true → Gl X x
  cel : ∀ x, celS c.sc x = true → X.env.scope.names.lookup x = some .cell ∧ X.fn x = true
  kind : X.env.scope.kind = .function
  blk : ∀ scope own, blkS c.N c.sc scope own = true → BlkOk X.N X.env.scope scope own
  room : Room (k + 1) X.A
  tk : L2N.Takes X W
  g : GOk c.tb X.prog X.w X.K X.mg X.base k CM
theorem idx_ok {x : Str} : ∀ {N : List Str} {k i : Nat}, idx x N k = some i → k ≤ i ∧ N[i - k]? = some x
  | [], _, _, h => by cases h
  | y :: ys, k, i, h => by
    unfold idx at h
    split at h
    · rename_i e
      cases h
      exact ⟨Nat.le_refl _, by simp [e]⟩
    · obtain ⟨h1, h2⟩ := idx_ok h
      refine ⟨by omega, ?_⟩
      have : i - k = (i - (k + 1)) + 1 := by omega
      rw [this, List.getElem?_cons_succ]
      exact h2
theorem plain_of {x : Str} (h : plainName x = true) : (x == ("__debug__" : Str)) = false ∧ (x == ("__classdict__" : Str)) = false ∧ x ≠ "__name__" := by
  unfold plainName at h
  rw [Bool.and_eq_true, Bool.and_eq_true] at h
  exact ⟨by simpa using h.1.1, by simpa using h.1.2, by simpa using h.2⟩
theorem slot_ok {c : TC} {x : Str} {i : Nat} (h : c.slot x = some i) : visS c.sc x = true ∧ plainName x = true ∧ c.N[i]? = some x := by
  unfold TC.slot at h
  split at h
  · rename_i hc
    rw [Bool.and_eq_true] at hc
    exact ⟨hc.1, hc.2, (idx_ok h).2⟩
  · cases h
theorem lslot_ok {c : TC} {x : Str} {i : Nat} (h : c.lslot x = some i) : lclS c.sc x = true ∧ plainName x = true ∧ c.N[i]? = some x := by
  unfold TC.lslot at h
  split at h
  · rename_i hc
    rw [Bool.and_eq_true] at hc
    exact ⟨hc.1, hc.2, (idx_ok h).2⟩
  · cases h
theorem oslot_ok {c : TC} {x : Str} {i : Nat} (h : c.oslot x = some i) : (lclS c.sc x = true ∨ celS c.sc x = true) ∧ plainName x = true ∧ c.N[i]? = some x := by
  unfold TC.oslot at h
  split at h
  · rename_i hc
    rw [Bool.and_eq_true, Bool.or_eq_true] at hc
    exact ⟨hc.1, hc.2, (idx_ok h).2⟩
  · cases h
theorem Ct.loc {c : TC} {k : Nat} {CM : CMap} {W : WX} {X : Cx} (C : Ct c k CM W X) {x : Str} {i : Nat} (h : c.oslot x = some i) : X.N[i]? = some x ∧ Loc X.env.scope x ∧ (X.fn x = true ∨ X.env.scope.names.lookup x = some .local) := by
  obtain ⟨h1, h2, h3⟩ := oslot_ok h
  refine ⟨by rw [C.eN]; exact h3, ?_⟩
  rcases h1 with h1 | h1
  · exact ⟨.inl (C.lcl _ h1), .inr (C.lcl _ h1)⟩
  · exact ⟨.inr (C.cel _ h1).1, .inl (C.cel _ h1).2⟩
theorem glo_ok {c : TC} {x : Str} (h : c.glo x = true) : gloS c.sc x = true ∧ plainName x = true := by
  unfold TC.glo at h
  rw [Bool.and_eq_true] at h
  exact h
theorem isB_ok {c : TC} {x : Str} (h : c.isB x = true) : c.glo x = true ∧ c.tb.blt.contains x = true := by
  unfold TC.isB at h
  rw [Bool.and_eq_true] at h
  exact h
/-- what a translated expression is -/
def Rd2 (X : Cx) (CM : CMap) (W : WX) (e : Expr) (r : Bool × XP) : Prop := if r.1 = true then PE X e (tX CM W r.2) else PE X e (tO CM W r.2)
theorem Rd2.o {X : Cx} {CM : CMap} {W : WX} {e : Expr} {r : Bool × XP} (h : Rd2 X CM W e r) : PE X e (tO CM W r.2) := by
  unfold Rd2 at h
  split at h
  · exact h.x_o
  · exact h
theorem Rd2.x {X : Cx} {CM : CMap} {W : WX} {e : Expr} {r : Bool × XP} (h : Rd2 X CM W e r) : PE X e (tX CM W (xE r)) := by
  unfold Rd2 at h
  unfold xE
  split at h
  · rename_i hr; rw [if_pos hr]; exact h
  · rename_i hr; rw [if_neg hr]; exact h.o_x
end Lc
end
section
set_option Elab.async false
set_option linter.all false
set_option maxRecDepth 100000
set_option maxHeartbeats 4000000
/-! The translator is right: expressions, by fuel. -/
namespace Lc
open PySem PySem.Spec L2
theorem trE_form {n : Nat} {c : TC} {e : Expr} {r : Bool × XP} (h : trE n c e = some r) : isSt e = false ∧ isSl e = false := by
  cases n with
  | zero => simp [trE] at h
  | succ n => cases e <;> first | exact ⟨rfl, rfl⟩ | (simp [trE] at h)
theorem plainIx {b : Expr} (h : isSl b = false) : PlainIx b := by
  intro o i
  cases b <;> first | rfl | cases h
theorem nomark_of {op : CmpOp} {b : Expr} (h : marks op b = false) : behindInMarks op b = false := by
  cases b <;> first | rfl | cases h
theorem fold_of {e : Expr} {env : PySem.Env} (h : ∀ a b p, e ≠ .Set a b p) : ∀ x, foldedSetIterable e env x = pure x := by
  intro x
  cases e <;> first | rfl | exact absurd rfl (h _ _ _)
theorem trE_noset {n : Nat} {c : TC} {e : Expr} {r : Bool × XP} (h : trE n c e = some r) : ∀ a b p, e ≠ .Set a b p := by
  rintro a b p rfl
  cases n <;> simp [trE] at h
theorem isTrue_of {e : Expr} {env : PySem.Env} (h1 : ∀ a p, e ≠ .UnaryOp .Not a p) (h2 : ∀ o vs p, e ≠ .BoolOp o vs p) (h3 : ∀ a b d p, e ≠ .Compare a b d p) (h4 : ∀ a b d p, e ≠ .IfExp a b d p) : ∀ whole, isTrue e env whole = (do let v ← whole; standAt e.pos; holding [v] (truthy v)) := by
  intro whole
  cases e with
  | UnaryOp op a p => cases op <;> first | rfl | exact absurd rfl (h1 _ _)
  | BoolOp o vs p => exact absurd rfl (h2 _ _ _)
  | Compare a b d p => exact absurd rfl (h3 _ _ _ _)
  | IfExp a b d p => exact absurd rfl (h4 _ _ _ _)
  | _ => rfl
theorem opG_ok {X : Cx} {CM : CMap} {op : Operator} {g : D → D → Option D} (h : opG op = some g) : OpR X (binaryOp op) (rD CM g) := by
  cases op <;> first | cases h | skip
  · exact os_add
  · exact os_sub
  · exact os_mul
  · exact os_mod
  · exact os_pow
  · exact os_fdiv
theorem cmpG_ok {X : Cx} {CM : CMap} {k : Nat} (hr : Room k X.A) {op : CmpOp} {g : D → D → Option Bool} (h : cmpG op = some g) : OpR X (compareOp op) (rD CM (oB g)) := by
  have hu := hr.un
  cases op <;> first | cases h | skip
  · exact os_eq (by omega)
  · exact os_ne (by omega)
  · exact os_lt
  · exact os_le
  · exact os_gt
  · exact os_ge
  · exact os_in (by omega)
  · exact os_notIn (by omega)
theorem b1_ok {X : Cx} {CM : CMap} (hc : X.calm = true) {x : Str} {b : B1} (h : b1 x = some b) : (∃ id, bootBuiltins x = some (.builtin id) ∧ CallR X (.builtin id) (rC1 CM b.g)) ∨ ∃ T, bootBuiltins x = some (.type T) ∧ CallR X (.type T) (rC1 CM b.g) := by
  unfold b1 at h
  split at h
  · rename_i e; subst e; cases h; exact .inl ⟨_, by first | exact PyProof.Rows.boot_len | exact F.boot_len | exact boot_len | decide +kernel, os_len⟩
  split at h
  · rename_i e; subst e; cases h; exact .inr ⟨_, by first | exact PyProof.Rows.boot_int | exact F.boot_int | exact boot_int | decide +kernel, os_int⟩
  split at h
  · rename_i e; subst e; cases h; exact .inr ⟨_, by first | exact PyProof.Rows.boot_str | exact F.boot_str | exact boot_str | decide +kernel, os_str⟩
  split at h
  · rename_i e; subst e; cases h; exact .inr ⟨_, by first | exact PyProof.Rows.boot_list | exact F.boot_list | exact boot_list | decide +kernel, os_list hc⟩
  split at h
  · rename_i e; subst e; cases h; exact .inr ⟨_, by first | exact PyProof.Rows.boot_tuple | exact F.boot_tuple | exact boot_tuple | decide +kernel, os_tuple⟩
  split at h
  · rename_i e; subst e; cases h; exact .inl ⟨_, by first | exact PyProof.Rows.boot_sum | exact F.boot_sum | exact boot_sum | decide +kernel, os_sum hc⟩
  split at h
  · rename_i e; subst e; cases h; exact .inl ⟨_, by first | exact PyProof.Rows.boot_max | exact F.boot_max | exact boot_max | decide +kernel, os_max hc⟩
  split at h
  · rename_i e; subst e; cases h; exact .inl ⟨_, by first | exact PyProof.Rows.boot_min | exact F.boot_min | exact boot_min | decide +kernel, os_min hc⟩
  split at h
  · rename_i e; subst e; cases h; exact .inl ⟨_, by first | exact PyProof.Rows.boot_abs | exact F.boot_abs | exact boot_abs | decide +kernel, os_abs⟩
  split at h
  · rename_i e; subst e; cases h; exact .inl ⟨_, by first | exact PyProof.Rows.boot_any | exact F.boot_any | exact boot_any | decide +kernel, os_any hc⟩
  split at h
  · rename_i e; subst e; cases h; exact .inl ⟨_, by first | exact PyProof.Rows.boot_sorted | exact F.boot_sorted | exact boot_sorted | decide +kernel, os_sorted⟩
  cases h
theorem bty_ok {T : Str} {t : String} (h : bty T = some t) : bootBuiltins T = some (.type t) ∧ (t = "int" ∨ t = "bool" ∨ t = "str" ∨ t = "tuple" ∨ t = "list") := by
  unfold bty at h
  split at h
  · rename_i e; subst e; cases h; exact ⟨by first | exact PyProof.Rows.boot_int | exact F.boot_int | exact boot_int | decide +kernel, by simp⟩
  split at h
  · rename_i e; subst e; cases h; exact ⟨by first | exact PyProof.Rows.boot_bool | exact F.boot_bool | exact boot_bool | decide +kernel, by simp⟩
  split at h
  · rename_i e; subst e; cases h; exact ⟨by first | exact PyProof.Rows.boot_str | exact F.boot_str | exact boot_str | decide +kernel, by simp⟩
  split at h
  · rename_i e; subst e; cases h; exact ⟨by first | exact PyProof.Rows.boot_tuple | exact F.boot_tuple | exact boot_tuple | decide +kernel, by simp⟩
  split at h
  · rename_i e; subst e; cases h; exact ⟨by first | exact PyProof.Rows.boot_list | exact F.boot_list | exact boot_list | decide +kernel, by simp⟩
  cases h
end Lc
end
section
set_option Elab.async false
set_option linter.all false
set_option maxRecDepth 100000
set_option maxHeartbeats 4000000
/-! Own operators. -/
namespace Lc
open PySem PySem.Spec L2
section
variable {X : Cx} {CM : CMap} {k : Nat}
theorem takes_W0 : L2N.Takes X W0 := fun u s' ⟨_, _, _, _, _, _, _, _, _, _, _, _, _, _, _, _, w⟩ => w.elim
theorem obj_inst {pins : List (Addr × Obj)} {s : Shared} {σ : L2.St} {H F : Hp} {d : D} {v : V} {c : String} {f : List Addr} (I : L2.Inv X pins σ H s) (sF : Same F H) (ho : d.isObj c = true) (r : RepO CM F H d v f) :
    ∃ a C dx fs, v = .ref a ∧ CM c = some C ∧ H a = some (.ins C dx fs) ∧ ∃ od, PySem.W.InstAt s.heap a (PySem.W.instObj C dx) C (some od) := by
  unfold D.isObj at ho
  split at ho
  · rename_i o c' ns ds
    have e : c' = c := by simpa using ho
    subst e
    obtain ⟨p, vs, fps, C, dx, h1, h2, h3, h4, h5⟩ := ro_obj sF r
    obtain ⟨mA, O, _⟩ := ins_get I.hok h4
    obtain ⟨od, J, _⟩ := O.look
    exact ⟨p, C, dx, _, h1, h3, h4, od, J⟩
  · cases ho
/-- the callee's value at two frozen operands -/
theorem own_run {e : OwnE} {g : Addr} (R : RunOk X.prog X.w X.K X.mg X.base k CM (.ref g) 2 [] e.fn) (hr : Room k X.A) {pins : List (Addr × Obj)} {s : Shared} {σ : L2.St} {H F : Hp} {d1 d2 : D} {v1 v2 : V} {u1 u2 : Value} {Q : VK}
    (I : L2.Inv X pins σ H s) (sF : Same F H) (r1 : Rep CM F d1 v1) (r2 : Rep CM F d2 v2) (q1 : RelV v1 u1) (q2 : RelV v2 u2) {r : D} (he : e.fn [d1, d2] = .val r)
    (hQ : ∀ v F' H' g, Ext F H F' H' → RepO CM F' H' r v g → g.Nodup → (∀ p ∈ g, H p = none ∧ F' p = none) → Q v H') :
    wpAny (model X.prog X.w) X.A (PySem.call (.ref g) [u1, u2]) (EP X pins σ Q) X.xe s := by
  have hrr : Reps CM F [d1, d2] [v1, v2] := Reps.cons_iff.mpr ⟨_, _, rfl, r1, Reps.cons_iff.mpr ⟨_, _, rfl, r2, Reps.nil_iff.mpr rfl⟩⟩
  have := R X rfl rfl rfl rfl rfl pins s σ F H [u1, u2] [] [v1, v2] [] [d1, d2] Q W0 I takes_W0 hr (.cons q1 (.cons q2 .nil)) .nil rfl rfl sF hrr (by rw [he]; exact hQ)
  exact this
theorem fz_rep {F H : Hp} {d : D} {v : V} {f : List Addr} (h : d.fz = true) (r : RepO CM F H d v f) : Rep CM F d v := (RepO.of_fz h r).1
theorem os_inO {e : OwnE} (hr : Room k X.A) (hm : e.mn = "__contains__") (h : OwnOk X.prog X.w X.K X.mg X.base k CM e) : OpR X (compareOp .In) (rD CM (oB (inD e.cn e.fn))) := by
  intro pins s σ H x y v u Q I rx ry ⟨F, d, d2, f1, f2, sF, ra, rb, q⟩
  obtain ⟨C, g, hC, cl, hme, sf, R⟩ := h
  unfold oB inD at q
  split at q
  · rename_i hc
    simp only [Bool.and_eq_true] at hc
    obtain ⟨⟨ho, fe⟩, fd⟩ := hc
    split at q
    · rename_i r he
      obtain ⟨a, C', dx, fs, rfl, hC', ea, od, J⟩ := obj_inst I sF ho rb
      rw [hC] at hC'; cases hC'
      cases (show u = Value.ref a from ry)
      obtain ⟨m, hF⟩ := I.fr
      have hs : PySem.W.findIn X.K (.ref C) "__contains__" = some (some (.ref g)) := by
        have := hme.at_
        rw [hm] at this
        exact this
      refine PySem.W.in_K hF I.ok.mod.kin J hs hme.fn ?_
      refine wpAny_mono (own_run (Q := fun v H' => ∃ F', v = .bl r ∧ Ext F H F' H') R hr I sF (fz_rep fe rb) (fz_rep fd ra) rfl rx he fun v F' H' g x rr _ _ => ⟨F', by unfold RepO at rr; exact rr.1, x⟩) (fun w s' z => ?_) fun _ _ z => z
      obtain ⟨z', H', I', rz, F', rfl, x⟩ := z
      cases (show w = Value.bool r from rz)
      refine wpAny_truthy_bool ?_
      exact ⟨.bl r, H', I', rfl, q (.bl r) F' H' [] x (by unfold RepO; exact ⟨rfl, rfl⟩) List.nodup_nil (fun p hp => nomatch hp)⟩
    · exact q.elim
  · exact q.elim
theorem os_ninO {e : OwnE} (hr : Room k X.A) (hm : e.mn = "__contains__") (h : OwnOk X.prog X.w X.K X.mg X.base k CM e) : OpR X (compareOp .NotIn) (rD CM (oB (ninD e.cn e.fn))) := by
  intro pins s σ H x y v u Q I rx ry ⟨F, d, d2, f1, f2, sF, ra, rb, q⟩
  obtain ⟨C, g, hC, cl, hme, sf, R⟩ := h
  unfold oB ninD inD at q
  split at q
  · rename_i hc
    simp only [Bool.and_eq_true] at hc
    obtain ⟨⟨ho, fe⟩, fd⟩ := hc
    split at q
    · rename_i r he
      obtain ⟨a, C', dx, fs, rfl, hC', ea, od, J⟩ := obj_inst I sF ho rb
      rw [hC] at hC'; cases hC'
      cases (show u = Value.ref a from ry)
      obtain ⟨m, hF⟩ := I.fr
      have hs : PySem.W.findIn X.K (.ref C) "__contains__" = some (some (.ref g)) := by
        have := hme.at_
        rw [hm] at this
        exact this
      refine PySem.W.notIn_K hF I.ok.mod.kin J hs hme.fn ?_
      refine wpAny_mono (own_run (Q := fun v H' => ∃ F', v = .bl r ∧ Ext F H F' H') R hr I sF (fz_rep fe rb) (fz_rep fd ra) rfl rx he fun v F' H' g x rr _ _ => ⟨F', by unfold RepO at rr; exact rr.1, x⟩) (fun w s' z => ?_) fun _ _ z => z
      obtain ⟨z', H', I', rz, F', rfl, x⟩ := z
      cases (show w = Value.bool r from rz)
      refine wpAny_truthy_bool ?_
      exact ⟨.bl (!r), H', I', rfl, q (.bl (!r)) F' H' [] x (by unfold RepO; exact ⟨rfl, rfl⟩) List.nodup_nil (fun p hp => nomatch hp)⟩
    · exact q.elim
  · exact q.elim
theorem os_own2 {e : OwnE} {op : Operator} (hr : Room k X.A) (hm : Str.ofString e.mn = PySem.dunder op.info.2) (h : OwnOk X.prog X.w X.K X.mg X.base k CM e) : OpR X (binaryOp op) (rD CM (own2 e.cn e.fn)) := by
  intro pins s σ H x y v u Q I rx ry ⟨F, d, d2, f1, f2, sF, ra, rb, q⟩
  obtain ⟨C, g, hC, cl, hme, sf, R⟩ := h
  unfold own2 at q
  split at q
  · rename_i hc
    simp only [Bool.and_eq_true] at hc
    obtain ⟨⟨⟨ho, ho2⟩, fd⟩, fe⟩ := hc
    split at q
    · rename_i r he
      obtain ⟨a, C', dx, fs, rfl, hC', ea, od, J⟩ := obj_inst I sF ho ra
      rw [hC] at hC'; cases hC'
      obtain ⟨a2, C', dx2, fs2, rfl, hC', ea2, od2, J2⟩ := obj_inst I sF ho2 rb
      rw [hC] at hC'; cases hC'
      cases (show v = Value.ref a from rx)
      cases (show u = Value.ref a2 from ry)
      obtain ⟨m, hF⟩ := I.fr
      have hs : PySem.W.findIn X.K (.ref C) (PySem.dunder op.info.2) = some (some (.ref g)) := by
        have := hme.at_
        rw [hm] at this
        exact this
      refine PySem.W.binop_K hF I.ok.mod.kin J J2.type sf hs hme.fn ?_
      refine wpAny_mono (own_run (Q := Q) R hr I sF (fz_rep fd ra) (fz_rep fe rb) rfl rfl he q) (fun w s' z => ?_) fun _ _ z => z
      obtain ⟨z', H', I', rz, qz⟩ := z
      exact SlX.cmpback rz ⟨z', H', I', rz, qz⟩
    · exact q.elim
  · exact q.elim
theorem os_cmp2 {e : OwnE} {op : CmpOp} (hr : Room k X.A) (hop : ∀ a b, compareOp op a b = richCompare op a b) (hm : Str.ofString e.mn = (cmpInfo op).2.1) (h : OwnOk X.prog X.w X.K X.mg X.base k CM e) : OpR X (compareOp op) (rD CM (oB (cmp2 e.cn e.fn))) := by
  intro pins s σ H x y v u Q I rx ry ⟨F, d, d2, f1, f2, sF, ra, rb, q⟩
  obtain ⟨C, g, hC, cl, hme, sf, R⟩ := h
  unfold oB cmp2 at q
  split at q
  · rename_i hc
    simp only [Bool.and_eq_true] at hc
    obtain ⟨⟨⟨ho, ho2⟩, fd⟩, fe⟩ := hc
    split at q
    · rename_i r he
      obtain ⟨a, C', dx, fs, rfl, hC', ea, od, J⟩ := obj_inst I sF ho ra
      rw [hC] at hC'; cases hC'
      obtain ⟨a2, C', dx2, fs2, rfl, hC', ea2, od2, J2⟩ := obj_inst I sF ho2 rb
      rw [hC] at hC'; cases hC'
      cases (show v = Value.ref a from rx)
      cases (show u = Value.ref a2 from ry)
      obtain ⟨m, hF⟩ := I.fr
      have hs : PySem.W.findIn X.K (.ref C) (cmpInfo op).2.1 = some (some (.ref g)) := by
        have := hme.at_
        rw [hm] at this
        exact this
      have hn : PySem.W.notFirst X.K C (.ref C) = true := by unfold PySem.W.notFirst; simp
      rw [hop]
      refine PySem.W.cmp_K (op := op) (tb := .ref C) hr.units0 hF I.ok.mod.kin J J2.type hn hs hme.fn ?_
      refine wpAny_mono (own_run (Q := Q) R hr I sF (fz_rep fd ra) (fz_rep fe rb) rfl rfl he q) (fun w s' z => ?_) fun _ _ z => z
      obtain ⟨z', H', I', rz, qz⟩ := z
      exact SlX.cmpback rz ⟨z', H', I', rz, qz⟩
    · exact q.elim
  · exact q.elim
/-- is, is not of bools -/
theorem os_isB : OpR X (compareOp .Is) (rD CM (oB isBD)) := by
  intro pins s σ H x y v u Q I rx ry ⟨F, d, d2, f1, f2, sF, ra, rb, q⟩
  unfold oB isBD at q
  split at q
  · obtain rfl := ro_bl ra
    obtain rfl := ro_bl rb
    exact op_isBl pins s σ H _ _ v u Q I rx ry ⟨_, _, rfl, rfl, q.here sF (by unfold Rep; rfl)⟩
  · exact q.elim
theorem os_ntB : OpR X (compareOp .IsNot) (rD CM (oB isntBD)) := by
  intro pins s σ H x y v u Q I rx ry ⟨F, d, d2, f1, f2, sF, ra, rb, q⟩
  unfold oB isntBD at q
  split at q
  · obtain rfl := ro_bl ra
    obtain rfl := ro_bl rb
    exact op_notBl pins s σ H _ _ v u Q I rx ry ⟨_, _, rfl, rfl, q.here sF (by unfold Rep; rfl)⟩
  · exact q.elim
end
end Lc
end
section
set_option Elab.async false
set_option linter.all false
set_option maxRecDepth 100000
set_option maxHeartbeats 4000000
/-! Own objects under != and beside other things under ==. -/
namespace Lc
open PySem PySem.Spec L2
section
variable {prog : Program} {w : World} {A : Around} {E : Value → Shared → Prop} {s : Shared} {K : PySem.W.Frag} {x C L f : Addr} {h₀ : Heap} {m : Str → Option Value} {ox : Obj} {od : Option Obj} {b tb : Value}
/-- != by object's own way, over an own == -/
theorem ne_K {Q : Value → Shared → Prop} (hu : A.units + 1 < cLine) (F : PyProof.Rows.Fr h₀ L s.heap m) (X₀ : K.In h₀) (I : PySem.W.InstAt s.heap x ox C od) (hb : PySem.W.Looks (model prog w) s.heap (typeOf b) tb) (hn : PySem.W.notFirst K C tb = true)
    (hs1 : PySem.W.findIn K (.ref C) "__ne__" = some (some (.builtin "object.__ne__"))) (hm : PySem.W.mroIn K C (.type "object") = some true)
    (hs2 : PySem.W.findIn K (.ref C) "__eq__" = some (some (.ref f))) (hf : PySem.W.isFn K (.ref f) = true)
    (h : wpAny (model prog w) A.in1 (PySem.call (.ref f) [.ref x, b]) (fun v s' => ∃ r, v = .bool r ∧ Q (.bool (!r)) s') E s) : wpAny (model prog w) A (richCompare .NotEq (.ref x) b) Q E s := by
  have X := X₀.keeps F.keep
  have hu0 : A.units < cLine := by omega
  have FN := PySem.F.cmp_object.ne
  have sub : PySem.W.Looks (model prog w) s.heap (isInstance (.ref x) (.type "object")) true := I.type.andThen (PySem.W.looks_mroIn X hm)
  have inner : wpAny (model prog w) A.in1 (Builtin.«object.__ne__» ⟨[.ref x, b], []⟩) (fun fin s' => ∃ r, fin = .done (.ret (.bool (!r))) ∧ Q (.bool (!r)) s') E s := by
    unfold Builtin.«object.__ne__»
    refine wpAny_bind ?_
    show wpAny _ _ (pure ((.ref x, [b]) : Value × List Value)) _ _ _
    refine wpAny_pure ?_
    refine wpAny_bind (wpAny_cRoomFor (show A.in1.units < cLine from hu) ?_)
    refine wpAny_bind (PySem.W.ifBound_K X I hs2 hf (wpAny_mono h (fun v s' z => ?_) fun _ _ e => e))
    obtain ⟨r, rfl, q⟩ := z
    refine wpAny_bind (wpAny_truthy_bool ?_)
    exact wpAny_pure ⟨r, rfl, q⟩
  have callNe : wpAny (model prog w) A (PySem.call (.builtin "object.__ne__") [.ref x, b]) (fun v s' => ∃ r, v = .bool r ∧ Q (.bool r) s') E s := by
    refine wpAny_call (codeAny_call_builtin FN.plain PySem.F.cmpEntry_ne (@PySem.W.check_slot (model prog w) _ _ s "object.__ne__" "object" "__ne__" (.ref x) [b] [] _ PySem.F.cmpKind_ne PySem.F.cmpSplit_ne sub (PySem.F.cmpArgs_ne _ _) ?_))
    refine wpAny_mono inner (fun fin s' z => ?_) fun _ _ e => e
    obtain ⟨r, rfl, q⟩ := z
    exact ⟨!r, rfl, q⟩
  have one : wpAny (model prog w) A (tryCompare (.ref x) (cmpInfo .NotEq).2.1 b) (fun r s' => ∃ v, r = some v ∧ Q v s') E s := by
    unfold tryCompare
    refine wpAny_bind ?_
    show wpAny _ _ (callSpecialIfBound? (.ref x) "__ne__" [b]) _ _ _
    simp only [callSpecialIfBound?, bindSpecialIfBound?]
    refine wpAny_holding (wpAny_bind (wpAny_bind (wpAny_bind (I.type.here ((PySem.W.looks_findIn X hs1).here ?_)))))
    simp only [FN.bind]
    refine wpAny_bind (wpAny_askSetting (wpAny_ite ?_))
    have fin : wpAny (model prog w) A (PySem.call (.builtin "object.__ne__") ([.ref x] ++ [b]) >>= fun v => pure (some v)) (fun v s' => wpAny (model prog w) A (match v with
        | some .notImplemented => pure none
        | none => pure none
        | some v => pure (some v)) (fun r s' => ∃ v, r = some v ∧ Q v s') E s') E s :=
      wpAny_bind (wpAny_mono callNe (fun v s' z => by
        obtain ⟨r, rfl, q⟩ := z
        exact wpAny_pure (wpAny_pure ⟨_, rfl, q⟩)) fun _ _ e => e)
    split
    · exact wpAny_bind (wpAny_pure (wpAny_pure fin))
    · exact wpAny_tryCatch (wpAny_bind (wpAny_pure (wpAny_pure fin)))
  unfold richCompare
  simp only [oneThing_ref]
  refine wpAny_holding (wpAny_bind (wpAny_cRoomFor hu0 ?_))
  refine wpAny_bind (I.type.here (wpAny_bind (hb.here ?_)))
  split
  · rename_i q
    have e : PySem.W.subIn K tb (.ref C) = some false := by
      rcases Bool.or_eq_true_iff.mp hn with e | e
      · rw [beq_iff_eq.mp e] at q; simp at q
      · exact beq_iff_eq.mp e
    refine wpAny_bind ((PySem.W.looks_subIn X e).here ?_)
    simp only [Bool.false_eq_true, if_false]
    refine wpAny_bind (wpAny_mono one (fun r s' z => ?_) fun _ _ e => e)
    obtain ⟨v, rfl, hq⟩ := z
    exact wpAny_pure hq
  · refine wpAny_bind (wpAny_pure ?_)
    simp only [Bool.false_eq_true, if_false]
    refine wpAny_bind (wpAny_mono one (fun r s' z => ?_) fun _ _ e => e)
    obtain ⟨v, rfl, hq⟩ := z
    exact wpAny_pure hq
end
/-! ### the rules -/
theorem ty_all {K : PySem.W.Frag} {CM : CMap} {cn : String} {C : Addr} (hC : CM cn = some C) (I : IsoC K C) {d : D} {r : Bool} {F H : Hp} {v : V} {fp : List Addr} (s : Same F H) (h : D.isOw cn d = some r) (rd : RepO CM F H d v fp) :
    ∃ t, TyX K H v t ∧ PySem.W.notFirst K C t = true := by
  cases d with
  | non =>
    obtain rfl := ro_non rd
    exact ⟨_, .base .non, I.sub _ (by simp)⟩
  | bl b =>
    obtain rfl := ro_bl rd
    exact ⟨_, .base (.bl b), I.sub _ (by simp)⟩
  | int i =>
    obtain rfl := ro_int rd
    exact ⟨_, .base (.int i), I.sub _ (by simp)⟩
  | str t =>
    obtain ⟨rfl, _⟩ := ro_str rd
    exact ⟨_, .base (.str _), I.sub _ (by simp)⟩
  | nd k ds =>
    cases k with
    | tup =>
      obtain ⟨pp, vs, rfl, hp, _, _, _⟩ := ro_tup s rd
      exact ⟨_, .base (.tup hp), I.sub _ (by simp)⟩
    | lst o =>
      obtain ⟨pp, vs, fps, rfl, hp, _, _⟩ := ro_lst s rd
      exact ⟨_, .base (.lst hp), I.sub _ (by simp)⟩
    | obj o c ns =>
      have h' : (if c = cn then some true else none) = some r := h
      split at h'
      · rename_i e
        subst e
        cases h'
        obtain ⟨pp, vs, fps, C', dx, rfl, hl, hC', hp, _⟩ := ro_obj s rd
        rw [hC] at hC'
        cases hC'
        exact ⟨_, .base (.ins hp I.cl I.ha I.hn I.htk I.hm), by unfold PySem.W.notFirst; simp⟩
      · cases h'
    | _ => cases h
section
variable {X : Cx} {CM : CMap} {k : Nat}
theorem os_eqA {e : OwnE} {C : Addr} (hr : Room k X.A) (hm : e.mn = "__eq__") (h : OwnOk X.prog X.w X.K X.mg X.base k CM e) (hC0 : CM e.cn = some C) (IC : IsoC X.K C) : OpR X (compareOp .Eq) (rD CM (oB (eqA e.cn e.fn))) := by
  intro pins s σ H x y v u Q I rx ry ⟨F, d, d2, f1, f2, sF, ra, rb, q⟩
  obtain ⟨C2, g, hC, cl, hme, sf, R⟩ := h
  rw [hC0] at hC; cases hC
  unfold oB eqA at q
  split at q
  · rename_i hc
    simp only [Bool.and_eq_true] at hc
    obtain ⟨⟨⟨ho, ho2⟩, fd⟩, fe⟩ := hc
    obtain ⟨r0, ho2⟩ := Option.isSome_iff_exists.mp ho2
    split at q
    · rename_i r he
      obtain ⟨a, C', dx, fs, rfl, hC', ea, od, J⟩ := obj_inst I sF ho ra
      rw [hC0] at hC'; cases hC'
      obtain ⟨t, ty, hn⟩ := ty_all hC0 IC sF ho2 rb
      obtain ⟨P, Z, hP, _⟩ := kit_of I ry ty
      cases (show v = Value.ref a from rx)
      obtain ⟨m, hF⟩ := I.fr
      have hs : PySem.W.findIn X.K (.ref C) (cmpInfo .Eq).2.1 = some (some (.ref g)) := by
        have := hme.at_
        rw [hm] at this
        exact this
      refine PySem.W.cmp_K (op := .Eq) (tb := t) hr.units0 hF I.ok.mod.kin J (Z.ty _ _ (I.ok.mod.kin.keeps hF.keep) hP) hn hs hme.fn ?_
      refine wpAny_mono (own_run (Q := Q) R hr I sF (fz_rep fd ra) (fz_rep fe rb) rfl ry he q) (fun w s' z => ?_) fun _ _ z => z
      obtain ⟨z', H', I', rz, qz⟩ := z
      exact SlX.cmpback rz ⟨z', H', I', rz, qz⟩
    · exact q.elim
  · exact q.elim
/-- the context inside a builtin -/
def Cx.in1 (X : Cx) : Cx := { X with A := X.A.in1 }
theorem ok_in1 (o : X.Ok) : (Cx.in1 X).Ok := ⟨o.mod, o.kind, o.glob, o.blt, o.above, o.inj, o.has, o.cab, o.hd, o.frames, o.stk, o.exf, o.bs, o.bsz, o.noex, o.exfs, o.funs, o.frf⟩
theorem inv_in1 {pins : List (Addr × Obj)} {s : Shared} {σ : L2.St} {H : Hp} (I : L2.Inv X pins σ H s) : L2.Inv (Cx.in1 X) pins σ H s := ⟨ok_in1 I.ok, I.os, I.bare, I.base, I.loc, I.cell, I.free, I.freeC, I.pin, I.hok, I.len⟩
theorem inv_out1 {pins : List (Addr × Obj)} {s : Shared} {σ : L2.St} {H : Hp} (o : X.Ok) (I : L2.Inv (Cx.in1 X) pins σ H s) : L2.Inv X pins σ H s := ⟨o, I.os, I.bare, I.base, I.loc, I.cell, I.free, I.freeC, I.pin, I.hok, I.len⟩
theorem os_neA {e : OwnE} {C : Addr} (hr : Room (k + 1) X.A) (hm : e.mn = "__eq__") (h : OwnOk X.prog X.w X.K X.mg X.base k CM e) (hC0 : CM e.cn = some C) (IC : IsoC X.K C) : OpR X (compareOp .NotEq) (rD CM (oB (neA e.cn e.fn))) := by
  intro pins s σ H x y v u Q I rx ry ⟨F, d, d2, f1, f2, sF, ra, rb, q⟩
  obtain ⟨C2, g, hC, cl, hme, sf, R⟩ := h
  rw [hC0] at hC; cases hC
  unfold oB neA eqA at q
  split at q
  · rename_i hc
    simp only [Bool.and_eq_true] at hc
    obtain ⟨⟨⟨ho, ho2⟩, fd⟩, fe⟩ := hc
    obtain ⟨r0, ho2⟩ := Option.isSome_iff_exists.mp ho2
    split at q
    · rename_i r he
      obtain ⟨a, C', dx, fs, rfl, hC', ea, od, J⟩ := obj_inst I sF ho ra
      rw [hC0] at hC'; cases hC'
      obtain ⟨t, ty, hn⟩ := ty_all hC0 IC sF ho2 rb
      obtain ⟨P, Z, hP, _⟩ := kit_of I ry ty
      cases (show v = Value.ref a from rx)
      obtain ⟨m, hF⟩ := I.fr
      have hs : PySem.W.findIn X.K (.ref C) "__eq__" = some (some (.ref g)) := by
        have := hme.at_
        rw [hm] at this
        exact this
      refine ne_K (tb := t) (by have := hr.units; omega) hF I.ok.mod.kin J (Z.ty _ _ (I.ok.mod.kin.keeps hF.keep) hP) hn IC.ne IC.hm hs hme.fn ?_
      refine wpAny_mono (own_run (X := Cx.in1 X) (Q := fun v H' => ∃ F', v = .bl r ∧ Ext F H F' H') R hr.in1 (inv_in1 I) sF (fz_rep fd ra) (fz_rep fe rb) rfl ry he fun v F' H' g x rr _ _ => ⟨F', by unfold RepO at rr; exact rr.1, x⟩) (fun w s' z => ?_) fun _ _ z => z
      obtain ⟨z', H', I', rz, F', rfl, x⟩ := z
      cases (show w = Value.bool r from rz)
      exact ⟨r, rfl, .bl (!r), H', inv_out1 I.ok I', rfl, q (.bl (!r)) F' H' [] x (by unfold RepO; exact ⟨rfl, rfl⟩) List.nodup_nil (fun p hp => nomatch hp)⟩
    · exact q.elim
  · exact q.elim
end
end Lc
end
section
set_option Elab.async false
set_option linter.all false
set_option maxRecDepth 100000
set_option maxHeartbeats 4000000
/-! Own operators that may raise; items of lists lent. -/
namespace Lc
open PySem PySem.Spec L2
section
variable {X : Cx} {CM : CMap} {W : WX} {k : Nat} {fa fb : XP} {a b : Expr} {pos : Pos}
theorem dx_own {e : OwnE} {op : Operator} (hr : Room k X.A) (tk : L2N.Takes X W) (hm : Str.ofString e.mn = PySem.dunder op.info.2) (h : OwnOk X.prog X.w X.K X.mg X.base k CM e) (ha : PE X a (tO CM W fa)) (hb : PE X b (tO CM W fb)) : PE X (.BinOp a op b pos) (tX CM W (bnR (own2R e.cn e.fn) fa fb)) := by
  refine ⟨fun pins s σ H Q I hh => ?_⟩
  obtain ⟨F, ρ, fp, s', q⟩ := hh
  refine wpAny_BinOp (binT ha hb I (R := fun x y H2 => ∃ F d e2 f1 f2, Same F H2 ∧ RepO CM F H2 d x f1 ∧ RepO CM F H2 e2 y f2 ∧ RX CM W σ F H2 Q (own2R e.cn e.fn d e2)) ⟨F, ρ, fp, s', RO.then_ q fun d v F1 H1 g1 e1 x1 r1 q1 => ⟨F1, ρ, fp, s'.ext x1, RO.then_ q1 fun e2 u F2 H2 g2 ee x2 r2 q2 => ⟨F2, d, e2, g1, g2, x2.sub, r1.ext x2.ff x2.hh, r2, q2⟩⟩⟩ fun v u s2 x y H2 I2 rx ry qq => ?_)
  obtain ⟨F, d, d2, f1, f2, sF, ra, rb, q⟩ := qq
  obtain ⟨C, g, hC, cl, hme, sf, R⟩ := h
  unfold own2R at q
  split at q
  · rename_i hc
    simp only [Bool.and_eq_true] at hc
    obtain ⟨⟨⟨ho, ho2⟩, fd⟩, fe⟩ := hc
    obtain ⟨a, C', dx, fs, rfl, hC', ea, od, J⟩ := obj_inst I2 sF ho ra
    rw [hC] at hC'; cases hC'
    obtain ⟨a2, C', dx2, fs2, rfl, hC', ea2, od2, J2⟩ := obj_inst I2 sF ho2 rb
    rw [hC] at hC'; cases hC'
    cases (show v = Value.ref a from rx)
    cases (show u = Value.ref a2 from ry)
    obtain ⟨m, hF⟩ := I2.fr
    have hs : PySem.W.findIn X.K (.ref C) (PySem.dunder op.info.2) = some (some (.ref g)) := by
      have := hme.at_
      rw [hm] at this
      exact this
    refine PySem.W.binop_K hF I2.ok.mod.kin J J2.type sf hs hme.fn ?_
    have hrr : Reps CM F [d, d2] [.ref a, .ref a2] := Reps.cons_iff.mpr ⟨_, _, rfl, fz_rep fd ra, Reps.cons_iff.mpr ⟨_, _, rfl, fz_rep fe rb, Reps.nil_iff.mpr rfl⟩⟩
    have run := R X rfl rfl rfl rfl rfl pins s2 σ F H2 [.ref a, .ref a2] [] [.ref a, .ref a2] [] [d, d2] Q W I2 tk hr (.cons rfl (.cons rfl .nil)) .nil rfl rfl sF hrr q
    refine wpAny_mono run (fun w s' z => ?_) fun _ _ z => z
    obtain ⟨z', H', I', rz, qz⟩ := z
    exact SlX.cmpback rz ⟨z', H', I', rz, qz⟩
  · exact q.elim
theorem PE.or {e : Expr} {t1 t2 : TE} (h1 : PE X e t1) (h2 : PE X e t2) : PE X e fun σ H Q => t1 σ H Q ∨ t2 σ H Q :=
  ⟨fun pins s σ H Q I q => q.elim (h1.run pins s σ H Q I) (h2.run pins s σ H Q I)⟩
theorem RepOs.get_in {F H : Hp} : ∀ {ds : List D} {vs : List V} {i : Nat} {d : D} {fp : List Addr}, RepOs CM F H ds vs fp → ds[i]? = some d → ∃ v f, vs[i]? = some v ∧ RepO CM F H d v f ∧ ∀ p ∈ f, p ∈ fp
  | [], _, _, _, _, _, e => by simp at e
  | x :: ds, vs, 0, d, fp, h, e => by
    obtain ⟨v, r, f, g, rfl, e2, h2, h3⟩ := RepOs.cons_iff.mp h
    simp at e; subst e
    exact ⟨v, f, rfl, h2, fun p hp => by rw [e2]; exact List.mem_append_left _ hp⟩
  | x :: ds, vs, i + 1, d, fp, h, e => by
    obtain ⟨v, r, f, g, rfl, e2', h2, h3⟩ := RepOs.cons_iff.mp h
    obtain ⟨u, f', e1, e2, e3⟩ := RepOs.get_in (i := i) h3 (by simpa using e)
    exact ⟨u, f', by simpa using e1, e2, fun p hp => by rw [e2']; exact List.mem_append_right _ (e3 p hp)⟩
theorem atI_in {F H : Hp} {ds : List D} {vs : List V} {fp : List Addr} {i : Int} {d : D} (r : RepOs CM F H ds vs fp) (e : atI ds i = some d) : ∃ v f, L2.atI vs i = some v ∧ RepO CM F H d v f ∧ ∀ p ∈ f, p ∈ fp := by
  unfold atI at e
  cases h : ixN ds.length i with
  | none => rw [h] at e; cases e
  | some j =>
    rw [h] at e
    obtain ⟨v, f, e1, e2, e3⟩ := RepOs.get_in r (show ds[j]? = some d from e)
    refine ⟨v, f, ?_, e2, e3⟩
    unfold L2.atI
    rw [← r.length, ixN_eq, h]
    exact e1
theorem ro_lst_in {F H : Hp} {v : V} {fp : List Addr} {o : Bool} {ds : List D} (s : Same F H) (h : RepO CM F H (.lst o ds) v fp) : ∃ p vs fps, v = .ref p ∧ H p = some (.lst vs) ∧ vs.length ≤ LINE ∧ RepOs CM F H ds vs fps ∧ ∀ q ∈ fps, q ∈ fp := by
  cases o with
  | true =>
    rw [RepO.nd_iff, if_pos (show Kd.own (.lst true) = true from rfl)] at h
    obtain ⟨p, vs, fps, h1, h2, h3, h4⟩ := h
    exact ⟨p, vs, fps, h1, h2.1, h2.2, h3, fun q hq => by rw [h4]; exact List.mem_cons_of_mem _ hq⟩
  | false =>
    have h := (RepO.of_fz (d := .lst false ds) rfl h).1
    rw [Rep.nd_iff] at h
    obtain ⟨_, p, vs, h1, h2, h3⟩ := h
    exact ⟨p, vs, [], h1, s _ _ h2.1, h2.2, h3.o, fun q hq => nomatch hq⟩
/-- an item of a list that is lent -/
def rW (CM : CMap) : R2 := fun x y H Q => ∃ F o ds j f1, Same F H ∧ RepO CM F H (.lst o ds) x f1 ∧ (∀ p ∈ f1, F p = none) ∧ y = .int j ∧ ∃ d, atI ds j = some d ∧ ∀ v g, RepO CM F H d v g → (∀ p ∈ g, F p = none) → Q v H
theorem os_idxW : IxR X (rW CM) := by
  intro value slice pins s σ H x y v u Q I rx ry ⟨F, o, ds, i, f1, sF, rd, nf, hy, d, hd, q⟩ hs
  subst hy
  obtain ⟨p, vs, fps, rfl, hp, _, r, hin⟩ := ro_lst_in sF rd
  obtain ⟨w', f, e1, e2, e3⟩ := atI_in r hd
  exact ix_list value slice pins s σ H _ _ v u Q I rx ry ⟨p, vs, i, w', rfl, rfl, SqL.of hp, e1, q w' f e2 fun p hp => nf p (hin p (e3 p hp))⟩ hs
theorem dow_idx {i : Nat} {x : Str} {b : Expr} {p : Pos} {kz : Int} (hN : X.N[i]? = some x) (hv : Vis X.env.scope x) (hd : (x == ("__debug__" : Str)) = false) (hcd : (x == ("__classdict__" : Str)) = false) (hs : PlainIx b) (hb : PE X b (tO CM W (cst (.int kz))))
    (hx : PE X (.Subscript (.Name x p) b pos) (tX CM W (lk (bn D.idx (bvar i) (cst (.int kz)))))) : PE X (.Subscript (.Name x p) b pos) (tOw CM W (bwi i kz)) :=
  (PE.or hx.x_ow (pe_ix (os_idxW (CM := CM)) (pe_var hN hv hd hcd) hb hs)).weak fun σ H Q ⟨F, ρ, fp, s, q⟩ => by
    unfold bwi at q
    cases hg : getE ρ i with
    | none => rw [hg] at q; exact q.elim
    | some d =>
      have lf : (match (Res.ofO (D.idx d (.int kz))).bind leak with
          | .val d => ∀ v F' H' g, Ext F H F' H' → RepO CM F' H' d v g → (∀ p ∈ g, F' p = none) → Q v H'
          | .exc c ns ds => RE CM W σ F H c ns ds
          | .bad => False) → tOw CM W (lk (bn D.idx (bvar i) (cst (.int kz)))) σ H Q := fun z => ⟨F, ρ, fp, s, by
        have e : lk (bn D.idx (bvar i) (cst (.int kz))) ρ = (Res.ofO (D.idx d (.int kz))).bind leak := by
          show ((Res.ofO (getE ρ i)).bind fun d => (Res.val (D.int kz)).bind fun e => .ofO (D.idx d e)).bind leak = _
          rw [hg]; rfl
        rw [e]; exact z⟩
      rw [hg] at q
      cases d with
      | nd kd ds =>
        cases kd with
        | lst o =>
          right
          obtain ⟨v, g, e, r, sb⟩ := s.rep.get_sub (getE_some hg)
          refine ⟨v, e, F, ρ, fp, s, ?_⟩
          intro y F' H' g' x' ry
          cases ha : atI ds kz with
          | none => simp only [ha] at q; exact q.elim
          | some d =>
            simp only [ha] at q
            exact ⟨F', o, ds, kz, g, x'.sub, r.ext x'.ff x'.hh, fun p hp => by
              obtain ⟨o', ho, ht⟩ := RepO.dom _ v g r p hp
              exact x'.new p o' ho ht (s.nf p (sb p hp)), ro_int ry, d, ha, fun v g r n => q v F' H' g x' r n⟩
        | _ => exact .inl (lf q)
      | _ => exact .inl (lf q)
end
end Lc
end
section
set_option Elab.async false
set_option linter.all false
set_option maxRecDepth 100000
set_option maxHeartbeats 4000000
namespace Lc
open PySem PySem.Spec L2
/-- what a comprehension walks -/
def JOk (X : Cx) (CM : CMap) (W : WX) (dk : Bool) (e : Expr) (it : XI2) : Prop := ((∀ tg, PI X tg e (tIc CM W it)) ∨ (dk = true ∧ ∃ td f1 f2, it = iKv f1 f2 ∧ PE X e td ∧ Stab CM td f1 ∧ PE X e (tO CM W f2))) ∧ ∀ a b p, e ≠ .Set a b p
structure Sn (n : Nat) : Prop where
  e : ∀ {c : TC} {k : Nat} {CM : CMap} {W : WX} {X : Cx} {e : Expr} {r : Bool × XP}, Ct c k CM W X → trE n c e = some r → Rd2 X CM W e r
  v : ∀ {c : TC} {k : Nat} {CM : CMap} {W : WX} {X : Cx} {op : BoolOp} {vs : List Expr} {pos : Pos} {f : XP}, Ct c k CM W X → trV n c op vs = some f → PE X (.BoolOp op vs pos) (tX CM W f)
  q : ∀ {c : TC} {k : Nat} {CM : CMap} {W : WX} {X : Cx} {a : Expr} {ops : List CmpOp} {bs : List Expr} {pos : Pos} {f : XP}, Ct c k CM W X → trQ n c a ops bs = some f → PE X (.Compare a ops bs pos) (tX CM W f)
  u : ∀ {c : TC} {k : Nat} {CM : CMap} {W : WX} {X : Cx} {a i : Expr} {pos : Pos} {r : Bool × XP}, Ct c k CM W X → trU n c a i = some r → Rd2 X CM W (.Subscript a i pos) r
  p : ∀ {c : TC} {k : Nat} {CM : CMap} {W : WX} {X : Cx} {o : Option Expr} {f : XI}, Ct c k CM W X → trP n c o = some f → PO X o (tI CM W f)
  f : ∀ {c : TC} {k : Nat} {CM : CMap} {W : WX} {X : Cx} {fn : Expr} {as : List Expr} {ks : List Keyword} {pos : Pos} {r : Bool × XP}, Ct c k CM W X → trF n c fn as ks pos = some r → Rd2 X CM W (.Call fn as ks pos) r
  m : ∀ {c : TC} {k : Nat} {CM : CMap} {W : WX} {X : Cx} {o : Expr} {m : Str} {ap pos : Pos} {as : List Expr} {ks : List Keyword} {r : Bool × XP}, Ct c k CM W X → trM n c o m as ks = some r → (ap.endLine == pos.line) = true → notSuper0 o = true → Rd2 X CM W (.Call (.Attribute o m ap) as ks pos) r
  t : ∀ {c : TC} {k : Nat} {CM : CMap} {W : WX} {X : Cx} {e : Expr} {t : XB}, Ct c k CM W X → trT n c e = some t → PT X e (tT CM W t)
  b : ∀ {c : TC} {k : Nat} {CM : CMap} {W : WX} {X : Cx} {op : BoolOp} {vs : List Expr} {pos : Pos} {t : XB}, Ct c k CM W X → trB n c op vs = some t → PW X (.BoolOp op vs pos) (tT CM W t)
  d : ∀ {c : TC} {k : Nat} {CM : CMap} {W : WX} {X : Cx} {a : Expr} {ops : List CmpOp} {bs : List Expr} {pos : Pos} {t : XB}, Ct c k CM W X → trD n c a ops bs = some t → PT X (.Compare a ops bs pos) (tT CM W t)
  l : ∀ {c : TC} {k : Nat} {CM : CMap} {W : WX} {X : Cx} {es : List Expr} {l : XL}, Ct c k CM W X → trL n c es = some l → PA X es (tL CM W l)
  r : ∀ {c : TC} {k : Nat} {CM : CMap} {W : WX} {X : Cx} {e : Expr} {f : XP}, Ct c k CM W X → trR n c e = some f → PE X e (tOw CM W f)
  w : ∀ {c : TC} {k : Nat} {CM : CMap} {W : WX} {X : Cx} {es : List Expr} {l : XL}, Ct c k CM W X → trW n c es = some l → PA X es (tLw CM W l) ∧ (∀ e ∈ es, ∀ v p, e ≠ .Starred v p) ∧ (es = [] → l = lnil) ∧ ∀ ρ a, l ρ = .val a → a.length = es.length
  kk : ∀ {c : TC} {k : Nat} {CM : CMap} {W : WX} {X : Cx} {ks : List Keyword} {l : XL}, Ct c k CM W X → trK n c ks = some l → PK X ks (tLw CM W l) ∧ ∀ ρ a, l ρ = .val a → a.length = ks.length
  i : ∀ {c : TC} {k : Nat} {CM : CMap} {W : WX} {X : Cx} {e : Expr} {it : XI2}, Ct c k CM W X → trI n c e = some it → (∀ tg, PI X tg e (tIt CM W it)) ∧ ∀ a b p, e ≠ .Set a b p
  j : ∀ {c : TC} {k : Nat} {CM : CMap} {W : WX} {X : Cx} {dk : Bool} {e : Expr} {it : XI2}, Ct c k CM W X → trJ n c dk e = some it → JOk X CM W dk e it
  g : ∀ {c : TC} {k : Nat} {CM : CMap} {W : WX} {X : Cx} {rb : List Nat} {e : Expr} {g : XG}, Ct c k CM W X → trG n c rb e = some g → PG X e (dG CM rb g) ∧ gLen g
  gs : ∀ {c : TC} {k : Nat} {CM : CMap} {W : WX} {X : Cx} {rb : List Nat} {es : List Expr} {gs : List XG}, Ct c k CM W X → trGs n c rb es = some gs → PGs X es (dGs CM rb gs) ∧ (∀ g ∈ gs, gLen g) ∧ (assignEach es X.env).length = gs.length ∧ (assignEach es X.env).findIdx? (·.1) = none
  h : ∀ {c : TC} {k : Nat} {CM : CMap} {W : WX} {X : Cx} {dk : Bool} {elt : Expr} {gs : List Comprehension} {scope : Scope} {pos : Pos} {f : XP}, Ct c k CM W X → trH n c dk elt gs scope = some f → PE X (.ListComp elt gs scope pos) (tX CM W f) ∧
    (dk = false → ∀ {rb : List Nat} {i : Nat} {y : Str} {py spos : Pos}, c.lslot y = some i → i ∈ rb → (py.line == pos.line) = true → (scope.names.any fun (n, k) => n == y && (k == .local || k == .cell)) = false → PS X (.Assign [.Name y py] (.ListComp elt gs scope pos) spos) (tS CM W rb (sSet i f)))
  fs : ∀ {c : TC} {k : Nat} {CM : CMap} {W : WX} {X : Cx} {es : List Expr} {fs : List XP}, Ct c k CM W X → trFs n c es = some fs → ∃ ts, FsPs CM W X es fs ts
  z : ∀ {c : TC} {k : Nat} {CM : CMap} {W : WX} {X : Cx} {ifs : List Expr} {t : XB}, Ct c k CM W X → trZ n c ifs = some t → PTs X ifs (tT CM W t)
variable {n : Nat}
theorem sn0 : Sn 0 := by
  constructor <;> intros <;> rename_i h <;> first | (simp [trFs] at h) | (simp [trE] at h) | (simp [trV] at h) | (simp [trQ] at h) | (simp [trU] at h) | (simp [trP] at h) | (simp [trF] at h) | (simp [trT] at h) | (simp [trB] at h) | (simp [trD] at h) | (simp [trL] at h) | (simp [trR] at h) | (simp [trW] at h) | (simp [trK] at h) | (simp [trI] at h) | (simp [trJ] at h) | (simp [trG] at h) | (simp [trGs] at h) | (simp [trH] at h) | (simp [trZ] at h) | skip
  all_goals (rename_i h1 h2 h3; exact absurd h2 (by simp [trM]))
section
variable {c : TC} {k : Nat} {CM : CMap} {W : WX} {X : Cx} {pos : Pos}
theorem sn_c {cc : Const} {r : Bool × XP} {kk : Nat} (h : trC cc = some r) : Rd2 X CM W (.Constant cc kk pos) r := by
  unfold trC at h
  split at h
  · cases h; exact dx_non
  · cases h; exact dx_bl
  · cases h; exact dx_int
  · rename_i s
    split at h
    · rename_i ok
      cases h
      unfold okTx at ok
      rw [Bool.and_eq_true, decide_eq_true_eq, List.all_eq_true] at ok
      exact dx_str (by simp [stx]) ⟨ok.1, fun c hc => by simpa using ok.2 c hc⟩
    · cases h
  · cases h
theorem sn_n (C : Ct c k CM W X) {x : Str} {r : Bool × XP} (h : trN c x = some r) : Rd2 X CM W (.Name x pos) r := by
  unfold trN at h
  split at h
  · rename_i i hs
    cases h
    obtain ⟨h1, h2, h3⟩ := slot_ok hs
    obtain ⟨p1, p2, p3⟩ := plain_of h2
    exact dx_var (by rw [C.eN]; exact h3) (C.vis _ h1) p1 p2
  · split at h
    · rename_i hg
      split at h
      · rename_i d hd
        cases h
        obtain ⟨g1, g2⟩ := glo_ok hg
        obtain ⟨p1, p2, p3⟩ := plain_of g2
        obtain ⟨u, v, e1, e2, e3⟩ := C.g.con _ _ hd
        exact dx_glob (C.glo _ g1) e1 e2 e3 p1
      · cases h
    · cases h
theorem sn_v (ih : Sn n) (C : Ct c k CM W X) {op : BoolOp} {vs : List Expr} {f : XP} (h : trV (n + 1) c op vs = some f) : PE X (.BoolOp op vs pos) (tX CM W f) := by
  cases vs with
  | nil => simp only [trV] at h; cases h
  | cons a r =>
    cases r with
    | nil =>
      simp only [trV] at h
      split at h
      · rename_i r hr
        cases h
        exact pe_one (ih.e C hr).x
      · cases h
    | cons b r =>
      simp only [trV] at h
      split at h
      · rename_i ra fb hra hfb
        cases h
        cases op with
        | And => exact dx_and (ih.e C hra).o (ih.v C hfb)
        | Or => exact dx_or (ih.e C hra).o (ih.v C hfb)
      · cases h
theorem isNone_ok {b : Expr} (h : isNone b = true) : ∃ kk p, b = .Constant .none kk p := by
  unfold isNone at h
  split at h
  · exact ⟨_, _, rfl⟩
  · cases h
theorem last_of {op op' : CmpOp} {b d : Expr} (h : marks op' d = false) : lastMarks [op, op'] [b, d] = false := nomark_of h
theorem cmpX_ok (C : Ct c k CM W X) {a b : Expr} {op : CmpOp} {g : D → D → Option Bool} (h : cmpX c op a b = some g) : OpR X (compareOp op) (rD CM (oB g)) := by
  have hr := C.room.mono (Nat.le_succ k)
  unfold cmpX at h
  cases op with
  | In =>
    simp only at h
    split at h
    · cases e : c.tb.own? "__contains__" with
      | none => rw [e] at h; cases h
      | some o => rw [e] at h; cases h; obtain ⟨o1, o2⟩ := Tb.own_ok e; exact os_inO hr o2 (C.g.own _ o1)
    · exact cmpG_ok C.room h
  | NotIn =>
    simp only at h
    split at h
    · cases e : c.tb.own? "__contains__" with
      | none => rw [e] at h; cases h
      | some o => rw [e] at h; cases h; obtain ⟨o1, o2⟩ := Tb.own_ok e; exact os_ninO hr o2 (C.g.own _ o1)
    · exact cmpG_ok C.room h
  | LtE =>
    simp only at h
    split at h
    · cases e : c.tb.own? "__le__" with
      | none => rw [e] at h; cases h
      | some o => rw [e] at h; cases h; obtain ⟨o1, o2⟩ := Tb.own_ok e; exact os_cmp2 hr (fun _ _ => rfl) (by rw [o2]; decide +kernel) (C.g.own _ o1)
    · exact cmpG_ok C.room h
  | Eq =>
    simp only at h
    split at h
    · cases e : c.tb.own? "__eq__" with
      | none => rw [e] at h; cases h
      | some o =>
        rw [e] at h
        simp only [Option.bind_some] at h
        split at h
        · rename_i hq
          cases h
          obtain ⟨o1, o2⟩ := Tb.own_ok e
          obtain ⟨y, hy⟩ := Tb.isoOf_ok hq
          obtain ⟨D', q1, _, q2⟩ := C.g.iso y _ hy
          exact os_eqA hr (by rw [o2]) (C.g.own _ o1) q1 q2
        · cases h
    · exact cmpG_ok C.room h
  | NotEq =>
    simp only at h
    split at h
    · cases e : c.tb.own? "__eq__" with
      | none => rw [e] at h; cases h
      | some o =>
        rw [e] at h
        simp only [Option.bind_some] at h
        split at h
        · rename_i hq
          cases h
          obtain ⟨o1, o2⟩ := Tb.own_ok e
          obtain ⟨y, hy⟩ := Tb.isoOf_ok hq
          obtain ⟨D', q1, _, q2⟩ := C.g.iso y _ hy
          exact os_neA C.room (by rw [o2]) (C.g.own _ o1) q1 q2
        · cases h
    · exact cmpG_ok C.room h
  | Is => simp only at h; cases h; exact os_isB
  | IsNot => simp only at h; cases h; exact os_ntB
  | Lt => exact cmpG_ok C.room h
  | Gt => exact cmpG_ok C.room h
  | GtE => exact cmpG_ok C.room h
theorem opX_ok (C : Ct c k CM W X) {a : Expr} {op : Operator} {g : D → D → Option D} (h : opX c op a = some g) : OpR X (binaryOp op) (rD CM g) := by
  have hr := C.room.mono (Nat.le_succ k)
  unfold opX at h
  cases op with
  | BitOr => simp only at h; cases h
  | BitAnd => simp only at h; cases h
  | _ => exact opG_ok h
theorem sn_q (ih : Sn n) (C : Ct c k CM W X) {a : Expr} {ops : List CmpOp} {bs : List Expr} {f : XP} (h : trQ (n + 1) c a ops bs = some f) : PE X (.Compare a ops bs pos) (tX CM W f) := by
  cases ops with
  | nil => simp only [trQ] at h; cases h
  | cons op ops =>
    cases ops with
    | nil =>
      cases bs with
      | nil => simp only [trQ] at h; cases h
      | cons b bs =>
        cases bs with
        | cons _ _ => simp only [trQ] at h; cases h
        | nil =>
          simp only [trQ] at h
          split at h
          · rename_i ra hra
            split at h
            · rename_i hn
              obtain ⟨kk, p, rfl⟩ := isNone_ok hn
              split at h
              · cases h; exact dx_isN (ih.e C hra).o
              · cases h; exact dx_notN (ih.e C hra).o
              · cases h
            · split at h
              · rename_i rb g hrb hg
                split at h
                · cases h
                · rename_i hm
                  cases h
                  exact dx_cmp (cmpX_ok C hg) (ih.e C hra).o (ih.e C hrb).o (nomark_of (by simpa using hm))
              · cases h
          · cases h
    | cons op' ops =>
      cases ops with
      | cons _ _ => simp only [trQ] at h; cases h
      | nil =>
        cases bs with
        | nil => simp only [trQ] at h; cases h
        | cons b bs =>
          cases bs with
          | nil => simp only [trQ] at h; cases h
          | cons d bs =>
            cases bs with
            | cons _ _ => simp only [trQ] at h; cases h
            | nil =>
              simp only [trQ] at h
              split at h
              · rename_i ra rb rd g h' hra hrb hrd hg hh
                split at h
                · cases h
                · rename_i hm
                  cases h
                  exact dx_chain (cmpG_ok C.room hg) (cmpG_ok C.room hh) (ih.e C hra).o (ih.e C hrb).o (ih.e C hrd).o (last_of (by simpa using hm))
              · cases h
theorem sn_d (ih : Sn n) (C : Ct c k CM W X) {a : Expr} {ops : List CmpOp} {bs : List Expr} {f : XB} (h : trD (n + 1) c a ops bs = some f) : PT X (.Compare a ops bs pos) (tT CM W f) := by
  cases ops with
  | nil => simp only [trD] at h; cases h
  | cons op ops =>
    cases ops with
    | nil =>
      cases bs with
      | nil => simp only [trD] at h; cases h
      | cons b bs =>
        cases bs with
        | cons _ _ => simp only [trD] at h; cases h
        | nil =>
          simp only [trD] at h
          split at h
          · rename_i ra hra
            split at h
            · rename_i hn
              obtain ⟨kk, p, rfl⟩ := isNone_ok hn
              split at h
              · cases h; exact dt_isN (ih.e C hra).o
              · cases h; exact dt_notN (ih.e C hra).o
              · cases h
            · split at h
              · rename_i rb g hrb hg
                split at h
                · cases h
                · rename_i hm
                  cases h
                  exact dt_cmp (cmpX_ok C hg) (ih.e C hra).o (ih.e C hrb).o (nomark_of (by simpa using hm))
              · cases h
          · cases h
    | cons op' ops =>
      cases ops with
      | cons _ _ => simp only [trD] at h; cases h
      | nil =>
        cases bs with
        | nil => simp only [trD] at h; cases h
        | cons b bs =>
          cases bs with
          | nil => simp only [trD] at h; cases h
          | cons d bs =>
            cases bs with
            | cons _ _ => simp only [trD] at h; cases h
            | nil =>
              simp only [trD] at h
              split at h
              · rename_i ra rb rd g h' hra hrb hrd hg hh
                split at h
                · cases h
                · rename_i hm
                  cases h
                  exact dt_chain (cmpG_ok C.room hg) (cmpG_ok C.room hh) (ih.e C hra).o (ih.e C hrb).o (ih.e C hrd).o (last_of (by simpa using hm))
              · cases h
theorem sn_p (ih : Sn n) (C : Ct c k CM W X) {o : Option Expr} {f : XI} (h : trP (n + 1) c o = some f) : PO X o (tI CM W f) := by
  cases o with
  | none => simp only [trP] at h; cases h; exact di_no
  | some e =>
    simp only [trP] at h
    split at h
    · rename_i r hr; cases h; exact di_so (ih.e C hr).o
    · cases h
theorem sn_l (ih : Sn n) (C : Ct c k CM W X) {es : List Expr} {l : XL} (h : trL (n + 1) c es = some l) : PA X es (tL CM W l) := by
  cases es with
  | nil => simp only [trL] at h; cases h; exact dl_nil
  | cons a r =>
    simp only [trL] at h
    split at h
    · cases h
    · split at h
      · rename_i ra ll hra hl
        cases h
        exact dl_cons (ih.e C hra).x (ih.l C hl) (se1 (trE_form hra).1)
      · cases h
theorem sn_r (ih : Sn n) (C : Ct c k CM W X) {e : Expr} {f : XP} (h : trR (n + 1) c e = some f) : PE X e (tOw CM W f) := by
  have gen : ∀ {e : Expr}, (match trE n c e with | some f => some (xE f) | none => none) = some f → PE X e (tOw CM W f) := fun {e} h => by
    split at h
    · rename_i r hr; cases h; exact (ih.e C hr).x.x_ow
    · cases h
  cases e with
  | Name x p =>
    simp only [trR] at h
    split at h
    · rename_i i hs
      cases h
      obtain ⟨h1, h2, h3⟩ := slot_ok hs
      obtain ⟨p1, p2, p3⟩ := plain_of h2
      exact dow_var (by rw [C.eN]; exact h3) (C.vis _ h1) p1 p2
    · exact gen h
  | Subscript a b p =>
    unfold trR at h
    split at h
    · rename_i q; cases q
    · rename_i q
      cases q
      split at h
      · rename_i i hs
        cases h
        obtain ⟨h1, h2, h3⟩ := slot_ok hs
        obtain ⟨p1, p2, p3⟩ := plain_of h2
        have hN := h3
        rw [← C.eN] at hN
        have hb := fun kz kk pos => Rd2.o (sn_c (X := X) (CM := CM) (W := W) (cc := .int kz) (kk := kk) (pos := pos) (r := (true, cst (.int kz))) rfl)
        have hu := C.room.un
        exact dow_idx hN (C.vis _ h1) p1 p2 (plainIx rfl) (hb _ _ _) (Rd2.x (r := (false, _)) (do_idx (by omega) (dx_var hN (C.vis _ h1) p1 p2) (hb _ _ _) (plainIx rfl)))
      · exact gen h
    · exact gen h
  | _ => simp only [trR] at h; exact gen h
theorem lcons_len {f : XP} {l : XL} {m : Nat} (hl : ∀ ρ a, l ρ = .val a → a.length = m) : ∀ ρ a, lcons f l ρ = .val a → a.length = m + 1 := by
  intro ρ a h
  unfold lcons at h
  cases e1 : f ρ with
  | bad => rw [e1] at h; cases h
  | exc c ns es => rw [e1] at h; cases h
  | val d =>
    rw [e1] at h
    cases e2 : l ρ with
    | bad => rw [e2] at h; cases h
    | exc c ns es => rw [e2] at h; cases h
    | val ds =>
      rw [e2] at h
      cases h
      rw [List.length_cons, hl ρ ds e2]
theorem lnil_len : ∀ ρ a, lnil ρ = .val a → a.length = 0 := fun ρ a h => by cases h; rfl
theorem sn_w (ih : Sn n) (C : Ct c k CM W X) {es : List Expr} {l : XL} (h : trW (n + 1) c es = some l) : PA X es (tLw CM W l) ∧ (∀ e ∈ es, ∀ v p, e ≠ .Starred v p) ∧ (es = [] → l = lnil) ∧ ∀ ρ a, l ρ = .val a → a.length = es.length := by
  cases es with
  | nil => simp only [trW] at h; cases h; exact ⟨dw_nil, (fun e he => nomatch he), fun _ => rfl, lnil_len⟩
  | cons a r =>
    simp only [trW] at h
    split at h
    · cases h
    · rename_i hst
      have hst' : isSt a = false := by
        cases a <;> first | rfl | exact absurd rfl hst
      split at h
      · rename_i f l' hf hl
        cases h
        obtain ⟨w1, w2, w3, w4⟩ := ih.w C hl
        refine ⟨dw_cons (ih.r C hf) w1 (se1 hst'), fun e he => ?_, (fun z => nomatch z), lcons_len w4⟩
        rcases List.mem_cons.mp he with z | z
        · subst z; exact notSt hst'
        · exact w2 e z
      · cases h
theorem sn_kk (ih : Sn n) (C : Ct c k CM W X) {ks : List Keyword} {l : XL} (h : trK (n + 1) c ks = some l) : PK X ks (tLw CM W l) ∧ ∀ ρ a, l ρ = .val a → a.length = ks.length := by
  cases ks with
  | nil => simp only [trK] at h; cases h; exact ⟨dk_nil, lnil_len⟩
  | cons a r =>
    obtain ⟨nm, a, p⟩ := a
    simp only [trK] at h
    split at h
    · rename_i f l' hf hl
      cases h
      obtain ⟨w1, w2⟩ := ih.kk C hl
      exact ⟨dk_cons (ih.r C hf) w1, lcons_len w2⟩
    · cases h
theorem kwNames_ok : ∀ {ks : List Keyword} {ns : List Str}, kwNames ks = some ns → KwOk ks ns
  | [], ns, h => by cases h; rfl
  | ⟨some x, a, p⟩ :: r, ns, h => by
    unfold kwNames at h
    cases e : kwNames r with
    | none => rw [e] at h; cases h
    | some m =>
      rw [e] at h
      cases h
      have := kwNames_ok e
      unfold KwOk at this ⊢
      rw [List.map_cons, List.map_cons, this]
  | ⟨none, a, p⟩ :: r, ns, h => by cases h
theorem nsup {o : Expr} (h : notSuper0 o = true) : notSuper o = true := by
  unfold notSuper0 at h
  split at h
  · cases h
  · rename_i hn
    unfold notSuper
    split
    · exact absurd rfl (hn _ _ _)
    · rfl
theorem sn_m (ih : Sn n) (C : Ct c k CM W X) {o : Expr} {m : Str} {ap : Pos} {as : List Expr} {ks : List Keyword} {r : Bool × XP} (h : trM (n + 1) c o m as ks = some r) (hl : (ap.endLine == pos.line) = true) (hs : notSuper0 o = true) : Rd2 X CM W (.Call (.Attribute o m ap) as ks pos) r := by
  simp only [trM] at h
  split at h
  · rename_i e f l lk he hf hw hk
    split at h
    · rename_i hc
      cases h
      obtain ⟨c3, c4⟩ := hc
      obtain ⟨he, c1, c2⟩ := Tb.mt_ok he
      obtain ⟨C0, g, g1, g2, g3, g4⟩ := C.g.mts _ _ he
      obtain ⟨w1, w2, w3, w4⟩ := ih.w C hw
      obtain ⟨k1, k2⟩ := ih.kk C hk
      have kok := kwNames_ok c2
      have kl : ks.length = e.ks.length := by
        have := congrArg List.length (show ks.map (·.arg) = e.ks.map some from kok)
        simpa using this
      exact dx_meth (ih.r C hf) c4 g1 g2 g3 g4 (C.room.mono (Nat.le_succ k)) C.tk w1 k1 w2 w3 kok (fun ρ a ha => (w4 ρ a ha).trans c1) (fun ρ a ha => (k2 ρ a ha).trans kl) (nsup hs) c3 hl
    · cases h
  · cases h
theorem sn_b (ih : Sn n) (C : Ct c k CM W X) {op : BoolOp} {vs : List Expr} {t : XB} (h : trB (n + 1) c op vs = some t) : PW X (.BoolOp op vs pos) (tT CM W t) := by
  cases vs with
  | nil => simp only [trB] at h; cases h
  | cons a r =>
    cases r with
    | nil =>
      simp only [trB] at h
      cases op with
      | And => exact dw_and1 (ih.t C h)
      | Or => exact dw_or1 (ih.t C h)
    | cons b r =>
      simp only [trB] at h
      split at h
      · rename_i ra fb hra hfb
        cases h
        cases op with
        | And => exact dw_and (ih.t C hra) (ih.b C hfb)
        | Or => exact dw_or (ih.t C hra) (ih.b C hfb)
      · cases h
theorem sn_t (ih : Sn n) (C : Ct c k CM W X) {e : Expr} {t : XB} (h : trT (n + 1) c e = some t) : PT X e (tT CM W t) := by
  have gen : ∀ {e : Expr}, (match trE n c e with | some f => some (tun D.truth f.2) | none => none) = some t → (∀ a p, e ≠ .UnaryOp .Not a p) → (∀ o vs p, e ≠ .BoolOp o vs p) → (∀ a b d p, e ≠ .Compare a b d p) → (∀ a b d p, e ≠ .IfExp a b d p) → PT X e (tT CM W t) := fun {e} h h1 h2 h3 h4 => by
    split at h
    · rename_i r hr; cases h; exact dt_tru (ih.e C hr).o (isTrue_of h1 h2 h3 h4)
    · cases h
  cases e with
  | UnaryOp op a p =>
    cases op with
    | Not =>
      simp only [trT] at h
      split at h
      · rename_i t' ht; cases h; exact dt_not (ih.t C ht)
      · cases h
    | _ => simp only [trT] at h; exact gen h (by simp) (by simp) (by simp) (by simp)
  | BoolOp op vs p => simp only [trT] at h; exact (ih.b C h).pt
  | Compare a ops bs p => simp only [trT] at h; exact ih.d C h
  | IfExp a b d p => simp only [trT] at h; cases h
  | _ => simp only [trT] at h; exact gen h (by simp) (by simp) (by simp) (by simp)
end
end Lc
end
section
set_option Elab.async false
set_option linter.all false
set_option maxRecDepth 100000
set_option maxHeartbeats 4000000
namespace Lc
open PySem PySem.Spec L2
section
variable {n : Nat} {c : TC} {k : Nat} {CM : CMap} {W : WX} {X : Cx} {pos : Pos}
theorem neg1_ok {s : Expr} (h : isNeg1 s = true) : ∃ kk p1 p2, s = .UnaryOp .USub (.Constant (.int 1) kk p1) p2 := by
  unfold isNeg1 at h
  split at h
  · rename_i i kk p1 p2
    have : i = 1 := by simpa using h
    subst this
    exact ⟨kk, p1, p2, rfl⟩
  · cases h
theorem sn_u (ih : Sn n) (C : Ct c k CM W X) {a i : Expr} {r : Bool × XP} (h : trU (n + 1) c a i = some r) : Rd2 X CM W (.Subscript a i pos) r := by
  have hu := C.room.un
  have ix : isSl i = false → (match trE n c a, trE n c i with | some a, some i => some (false, bn D.idx a.2 i.2) | _, _ => none) = some r → Rd2 X CM W (.Subscript a i pos) r := fun hs h => by
    split at h
    · rename_i ra ri hra hri
      cases h
      exact do_idx (by omega) (ih.e C hra).o (ih.e C hri).o (plainIx hs)
    · cases h
  cases i with
  | Slice lo hi st p =>
    clear ix
    cases st with
    | none =>
      simp only [trU] at h
      split at h
      · rename_i ra rl rh hra hrl hrh
        cases h
        exact dx_sli (ih.e C hra).o (ih.p C hrl) (ih.p C hrh)
      · cases h
    | some s =>
      cases lo with
      | some _ => simp only [trU] at h; cases h
      | none =>
        cases hi with
        | some _ => simp only [trU] at h; cases h
        | none =>
          simp only [trU] at h
          split at h
          · rename_i hn
            obtain ⟨kk, p1, p2, rfl⟩ := neg1_ok hn
            split at h
            · rename_i ra hra
              cases h
              exact dx_rev (ih.e C hra).o
            · cases h
          · cases h
  | _ => simp only [trU] at h; exact ix rfl h
theorem sn_z (ih : Sn n) (C : Ct c k CM W X) {ifs : List Expr} {t : XB} (h : trZ (n + 1) c ifs = some t) : PTs X ifs (tT CM W t) := by
  cases ifs with
  | nil =>
    simp only [trZ] at h
    cases h
    exact ⟨fun pins s σ H Q I ⟨F, ρ, fp, s', q⟩ => pts_nil.run pins s σ H Q I (q F H (Ext.refl s'.sub))⟩
  | cons a r =>
    cases r with
    | nil => simp only [trZ] at h; exact pts_one (ih.t C h)
    | cons _ _ => simp only [trZ] at h; cases h
theorem sn_g (ih : Sn n) (C : Ct c k CM W X) {rb : List Nat} {e : Expr} {g : XG} (h : trG (n + 1) c rb e = some g) : PG X e (dG CM rb g) ∧ gLen g := by
  cases e <;> simp only [trG] at h <;> first | cases h | skip
  · rename_i x p
    split at h
    · rename_i i hs
      split at h
      · rename_i hr
        cases h
        obtain ⟨l1, l2, l3⟩ := C.loc hs
        exact ⟨dg_name C.nd l1 l2 (by simpa using hr) l3, gLen_set i⟩
      · cases h
    · cases h
  · rename_i es kk p
    split at h
    · rename_i gs hgs
      cases h
      obtain ⟨g1, g2, g3, g4⟩ := ih.gs C hgs
      exact ⟨dg_tup C.calm g1 g3 g4, gLen_tup g2⟩
    · cases h
theorem ae1 {e : Expr} {es : List Expr} {env : PySem.Env} (h : isSt e = false) : assignEach (e :: es) env = (false, assign e env) :: assignEach es env := by
  cases e <;> first | rfl | cases h
theorem sn_gs (ih : Sn n) (C : Ct c k CM W X) {rb : List Nat} {es : List Expr} {gs : List XG} (h : trGs (n + 1) c rb es = some gs) : PGs X es (dGs CM rb gs) ∧ (∀ g ∈ gs, gLen g) ∧ (assignEach es X.env).length = gs.length ∧ (assignEach es X.env).findIdx? (·.1) = none := by
  cases es with
  | nil => simp only [trGs] at h; cases h; exact ⟨dgs_nil, (fun g hg => nomatch hg), rfl, rfl⟩
  | cons a r =>
    simp only [trGs] at h
    split at h
    · cases h
    · rename_i hst
      have hst' : isSt a = false := by cases a <;> first | rfl | exact absurd rfl hst
      split at h
      · rename_i g gs' hg hgs
        cases h
        obtain ⟨a1, a2⟩ := ih.g C hg
        obtain ⟨b1, b2, b3, b4⟩ := ih.gs C hgs
        refine ⟨dgs_cons a1 b1 (by rw [ae1 hst']; rfl), fun g hg => ?_, by rw [ae1 hst', List.length_cons, List.length_cons, b3], ?_⟩
        · rcases List.mem_cons.mp hg with z | z
          · subst z; exact a2
          · exact b2 g z
        · rw [ae1 hst', List.findIdx?_cons]
          simp [b4]
      · cases h
theorem sn_i (ih : Sn n) (C : Ct c k CM W X) {e : Expr} {it : XI2} (h : trI (n + 1) c e = some it) : (∀ tg, PI X tg e (tIt CM W it)) ∧ ∀ a b p, e ≠ .Set a b p := by
  have gen : ∀ {e : Expr}, (match trE n c e with | some f => some (iSeq (xE f)) | none => none) = some it → (∀ tg, PI X tg e (tIt CM W it)) ∧ ∀ a b p, e ≠ .Set a b p := fun {e} h => by
    split at h
    · rename_i r hr; cases h; exact ⟨fun tg => di_seq (ih.e C hr).x, trE_noset hr⟩
    · cases h
  cases e with
  | Call fn as ks p =>
    cases fn with
    | Name x p2 =>
      simp only [trI] at h
      split at h
      · rename_i hx
        subst hx
        split at h
        · rename_i hb
          obtain ⟨b1, b2⟩ := isB_ok hb
          have hg := C.glo _ (glo_ok b1).1
          have hm := C.g.blt _ b2
          refine ⟨fun tg => ?_, by simp⟩
          cases ks with
          | cons _ _ => cases as with
            | nil => cases h
            | cons a as => cases as with
              | nil => cases h
              | cons b as => cases as with
                | nil => cases h
                | cons d as => cases as <;> cases h
          | nil =>
            cases as with
            | nil => cases h
            | cons a as =>
              cases as with
              | nil =>
                simp only at h
                split at h
                · rename_i f hf; cases h; exact di_rg1 hg hm (ih.e C hf).o (se1 (trE_form hf).1)
                · cases h
              | cons b as =>
                cases as with
                | cons d as =>
                  cases as with
                  | cons _ _ => cases h
                  | nil =>
                    simp only at h
                    split at h
                    · rename_i hn
                      obtain ⟨kk, q1, q2, rfl⟩ := neg1_ok hn
                      split at h
                      · rename_i f g hf hg'
                        cases h
                        exact di_rgD hg hm (ih.e C hf).o (ih.e C hg').o (dx_neg dx_int.x_o).x_o (se1 (trE_form hf).1) (se1 (trE_form hg').1) rfl
                      · cases h
                    · cases h
                | nil =>
                  simp only at h
                  split at h
                  · rename_i f g hf hg'
                    cases h
                    exact di_rg2 hg hm (ih.e C hf).o (ih.e C hg').o (by rw [se1 (trE_form hf).1, se1 (trE_form hg').1]; rfl) (se1 (trE_form hg').1)
                  · cases h
        · cases h
      · exact gen h
    | _ => simp only [trI] at h; exact gen h
  | List es pos =>
    simp only [trI] at h
    split at h
    · rename_i r hr
      split at h
      · cases h; exact ⟨fun tg => di_seqF (ih.e C hr).x, trE_noset hr⟩
      · cases h; exact ⟨fun tg => di_seq (ih.e C hr).x, trE_noset hr⟩
    · cases h
  | _ => simp only [trI] at h; exact gen h
theorem sn_j (ih : Sn n) (C : Ct c k CM W X) {dk : Bool} {e : Expr} {it : XI2} (h : trJ (n + 1) c dk e = some it) : JOk X CM W dk e it := by
  have gen : ∀ {e : Expr}, (match trE n c e with | some f => some (iSeq f.2) | none => none) = some it → JOk X CM W dk e it := fun {e} h => by
    split at h
    · rename_i r hr; cases h; exact ⟨.inl fun tg => dic_seq (ih.e C hr).o, trE_noset hr⟩
    · cases h
  cases e with
  | Name x p =>
    simp only [trJ] at h
    split at h
    · rename_i i hs
      cases h
      obtain ⟨h1, h2, h3⟩ := slot_ok hs
      obtain ⟨p1, p2, p3⟩ := plain_of h2
      have hN : X.N[i]? = some x := by rw [C.eN]; exact h3
      have hv := C.vis _ h1
      refine ⟨?_, by simp⟩
      cases dk with
      | true => exact .inr ⟨rfl, _, _, _, rfl, pe_var hN hv p1 p2, stab_var, dx_var hN hv p1 p2⟩
      | false => exact .inl fun tg => dic_seq (dx_var hN hv p1 p2)
    · exact gen h
  | Call fn as ks p =>
    cases fn with
    | Name x p2 =>
      simp only [trJ] at h
      split at h
      · obtain ⟨i1, i2⟩ := ih.i C h
        exact ⟨.inl fun tg => (i1 tg).t_c, i2⟩
      · exact gen h
    | _ => simp only [trJ] at h; exact gen h
  | _ => simp only [trJ] at h; exact gen h
theorem lookup_mem {α : Type} {l : List (Str × α)} {x : Str} {a : α} (h : l.lookup x = some a) : (x, a) ∈ l := by
  induction l with
  | nil => cases h
  | cons p l ih =>
    obtain ⟨y, b⟩ := p
    unfold List.lookup at h
    split at h
    · rename_i e
      have : x = y := by simpa using e
      subst this
      cases h
      exact List.mem_cons_self
    · exact List.mem_cons_of_mem _ (ih h)
theorem lookup_mapg (g : Str → NameKind → NameKind) (x : Str) : ∀ l : List (Str × NameKind), (l.map fun p => (p.1, g p.1 p.2)).lookup x = (l.lookup x).map (g x)
  | [] => rfl
  | (y, kk) :: r => by
    rw [List.map_cons]
    by_cases e : x = y
    · subst e
      simp [List.lookup]
    · have hb : (x == y) = false := by simpa using e
      simp only [List.lookup, hb]
      exact lookup_mapg g x r
/-- the names of a block behind its relabelling -/
theorem lookup_relabel {env : PySem.Env} {x : Str} {names : List (Str × NameKind)} : (names.map fun (n, k) => if (k == NameKind.free && env.scope.kind == .function && env.kindOf n == some .cell) then (n, NameKind.cell) else (n, k)).lookup x = (names.lookup x).map fun k => if (k == NameKind.free && env.scope.kind == .function && env.kindOf x == some .cell) then .cell else k := by
  rw [← lookup_mapg (fun n k => if (k == NameKind.free && env.scope.kind == .function && env.kindOf n == some .cell) then .cell else k) x names]
  congr 1
  refine List.map_congr_left fun p _ => ?_
  obtain ⟨n, k⟩ := p
  show (if _ then (n, NameKind.cell) else (n, k)) = (n, if _ then NameKind.cell else k)
  split <;> rfl
/-- the context of a comprehension's block -/
theorem Ct.block (C : Ct c k CM W X) {scope : Scope} (hk : scope.kind = .function) (s : Shared) (H : Hp) (cl : List (Str × Addr)) (Cc : Addr) (fp : List Addr) : Ct { c with sc := scope } k CM W0 (X.blk s H scope (compEnvC scope cl Cc X.env) fp) := by
  have lk : ∀ x, (compEnvC scope cl Cc X.env).scope.names.lookup x = (scope.names.lookup x).map fun k => if (k == NameKind.free && X.env.scope.kind == .function && X.env.kindOf x == some .cell) then .cell else k := fun x => lookup_relabel (env := X.env) (names := scope.names)
  have vis : ∀ x, visS scope x = true → Vis (compEnvC scope cl Cc X.env).scope x := fun x h => by
    unfold visS at h
    unfold Vis
    rw [lk]
    split at h
    · rename_i e; rw [e]; exact .inl rfl
    · rename_i e; rw [e]; exact .inr (.inl rfl)
    · rename_i e
      rw [e]
      by_cases hc : (NameKind.free == NameKind.free && X.env.scope.kind == .function && X.env.kindOf x == some .cell) = true
      · exact .inr (.inl (by simp only [Option.map_some, hc, if_true]))
      · exact .inr (.inr (by simp only [Option.map_some, if_neg hc]))
    · cases h
  refine ⟨C.calm, C.nd, C.eN, vis, fun x h => ?_, fun x h => ?_, fun x h => ?_, hk, fun sc2 own h => ?_, C.room, fun u s' x => ?_, C.g⟩
  · unfold lclS at h
    show (compEnvC scope cl Cc X.env).scope.names.lookup x = _
    rw [lk]
    split at h
    · rename_i e; rw [e]; rfl
    · cases h
  · unfold gloS at h
    show (compEnvC scope cl Cc X.env).scope.names.lookup x = _
    rw [lk]
    split at h
    · rename_i e; rw [e]; rfl
    · cases h
  · unfold celS at h
    have hh : scope.names.lookup x = some .cell := by
      split at h
      · rename_i e; exact e
      · cases h
    refine ⟨?_, ?_⟩
    · show (compEnvC scope cl Cc X.env).scope.names.lookup x = _
      rw [lk, hh]; rfl
    · show (scope.names.lookup x == some .cell) = true
      rw [hh]; rfl
  · refine blkOk_by (?_ : blkC X.N (compEnvC scope cl Cc X.env).scope sc2 own = true)
    unfold blkS at h
    unfold blkC
    rw [C.eN]
    simp only [Bool.and_eq_true, List.all_eq_true] at h ⊢
    obtain ⟨⟨⟨h1, h2⟩, h3⟩, h4⟩ := h
    refine ⟨⟨⟨h1, h2⟩, h3⟩, fun y hy => ?_⟩
    have q := h4 y hy
    cases e : y.2 with
    | free =>
      rw [e] at q
      simp only at q ⊢
      rw [lk]
      split at q
      · rename_i e2; rw [e2]; rfl
      · rename_i e2
        rw [e2]
        by_cases hc : (NameKind.free == NameKind.free && X.env.scope.kind == .function && X.env.kindOf y.1 == some .cell) = true
        · simp only [Option.map_some, hc, if_true]
        · simp only [Option.map_some, if_neg hc]
      · cases q
    | «local» => rw [e] at q; exact q
    | cell => rw [e] at q; exact q
    | globalExplicit => rfl
    | globalImplicit => rfl
  · obtain ⟨_, _, _, _, _, _, _, _, _, _, _, _, _, _, _, _, w⟩ := x
    exact w.elim
end
end Lc
end
section
set_option Elab.async false
set_option linter.all false
set_option maxRecDepth 100000
set_option maxHeartbeats 4000000
namespace Lc
open PySem PySem.Spec L2
section
variable {n : Nat} {c : TC} {k : Nat} {CM : CMap} {W : WX} {X : Cx} {pos : Pos}
theorem sn_fn (ih : Sn n) (C : Ct c k CM W X) {x : Str} {p : Pos} {as : List Expr} {ks : List Keyword} {r : Bool × XP} (h : trF (n + 1) c (.Name x p) as ks pos = some r) : Rd2 X CM W (.Call (.Name x p) as ks pos) r := by
  simp only [trF] at h
  split at h
  · rename_i hb
    obtain ⟨b1', b2⟩ := isB_ok hb
    have hg := C.glo _ (glo_ok b1').1
    obtain ⟨p1, p2, p3⟩ := plain_of (glo_ok b1').2
    have hm := C.g.blt _ b2
    cases ks with
    | cons _ _ =>
      cases as with
      | nil => cases h
      | cons a as =>
        cases as with
        | nil => cases h
        | cons b as => cases as <;> cases h
    | nil =>
      cases as with
      | nil => cases h
      | cons a as =>
        cases as with
        | nil =>
          simp only at h
          split at h
          · rename_i f b hf hbb
            cases h
            have hst := trE_form hf
            rcases b1_ok (CM := CM) C.calm hbb with ⟨id, e1, e2⟩ | ⟨T, e1, e2⟩
            · exact dx_callB e2 hg hm e1 (ih.e C hf).o p3 p1 (se1 hst.1)
            · exact dx_callTy e2 hg hm e1 (ih.e C hf).o p3 p1 (se1 hst.1)
          · cases h
        | cons b as =>
          cases as with
          | cons _ _ => cases h
          | nil =>
            simp only at h
            split at h
            · rename_i hx
              subst hx
              split at h
              · rename_i f g hf hg'
                cases h
                exact dx_callB2 (os_max2 C.calm) hg hm PyProof.Rows.boot_max (ih.e C hf).o (ih.e C hg').o p3 p1 (se1 (trE_form hf).1) (se1 (trE_form hg').1)
              · cases h
            · split at h
              · rename_i hx
                subst hx
                split at h
                · rename_i f T p2 hf
                  split at h
                  · rename_i t ht
                    split at h
                    · rename_i hT
                      cases h
                      obtain ⟨t1, t2⟩ := bty_ok ht
                      obtain ⟨c1, c2⟩ := isB_ok hT
                      obtain ⟨q1, q2, q3⟩ := plain_of (glo_ok c1).2
                      exact dx_isTy hg hm (C.glo _ (glo_ok c1).1) (C.g.blt _ c2) t2 t1 q3 q1 PyProof.Rows.boot_isinstance (ih.e C hf).o (trE_form hf).1
                    · cases h
                  · split at h
                    · rename_i hT
                      split at h
                      · rename_i cn hcn
                        cases h
                        obtain ⟨D, i1, i2, i3⟩ := C.g.iso _ _ hcn
                        obtain ⟨q1, q2, q3⟩ := plain_of (glo_ok hT).2
                        exact dx_isO hg hm (C.glo _ (glo_ok hT).1) i2 i1 i3 q1 PyProof.Rows.boot_isinstance (ih.e C hf).o (trE_form hf).1
                      · cases h
                    · cases h
                · cases h
              · cases h
  · split at h
    · rename_i hg0
      obtain ⟨g1, g2⟩ := glo_ok hg0
      obtain ⟨p1, p2, p3⟩ := plain_of g2
      split at h
      · rename_i e l lk he hw hk
        cases h
        obtain ⟨he, c1, c2⟩ := Tb.fn_ok he
        obtain ⟨f, m1, m2, m3⟩ := C.g.fns _ _ he
        obtain ⟨w1, w2, w3, w4⟩ := ih.w C hw
        obtain ⟨k1, k2⟩ := ih.kk C hk
        have kok := kwNames_ok c2
        have kl : ks.length = e.ks.length := by
          have := congrArg List.length (show ks.map (·.arg) = e.ks.map some from kok)
          simpa using this
        exact dx_call (C.glo _ g1) m1 m2 m3 (C.room.mono (Nat.le_succ k)) C.tk w1 k1 w2 w3 kok (fun ρ a ha => (w4 ρ a ha).trans c1) (fun ρ a ha => (k2 ρ a ha).trans kl) p1
      · cases h
    · cases h
theorem sn_f (ih : Sn n) (C : Ct c k CM W X) {fn : Expr} {as : List Expr} {ks : List Keyword} {r : Bool × XP} (h : trF (n + 1) c fn as ks pos = some r) : Rd2 X CM W (.Call fn as ks pos) r := by
  have hu := C.room.un
  cases fn with
  | Name x p => exact sn_fn ih C h
  | Attribute o m ap =>
    simp only [trF] at h
    split at h
    · rename_i hc
      rw [Bool.and_eq_true] at hc
      have hl : (ap.endLine == pos.line) = true := hc.1
      have hs := hc.2
      have mm := fun h => ih.m (m := m) (as := as) (ks := ks) (pos := pos) (r := r) C h hl hs
      cases as with
      | nil =>
        cases ks with
        | cons _ _ => exact mm h
        | nil =>
          simp only at h
          split at h
          · rename_i hm
            subst hm
            split at h
            · rename_i f hf
              cases h
              exact dx_lower (ih.e C hf).o (nsup hs) hl
            · cases h
          · exact mm h
      | cons b as =>
        cases as with
        | nil =>
          cases ks with
          | cons _ _ => exact mm h
          | nil =>
            simp only at h
            split at h
            · rename_i hm
              subst hm
              split at h
              · rename_i f g hf hg
                cases h
                exact dx_join (ih.e C hf).o (ih.e C hg).o (trE_form hg).1 (nsup hs) hl
              · cases h
            · exact mm h
        | cons d as =>
          cases as with
          | cons _ _ => exact mm h
          | nil =>
            cases ks with
            | cons _ _ => exact mm h
            | nil =>
              simp only at h
              split at h
              · rename_i hm
                subst hm
                split at h
                · rename_i f g h' hf hg hh
                  cases h
                  exact dx_dget (by omega) (ih.e C hf).o (ih.e C hg).o (ih.e C hh).o (trE_form hg).1 (trE_form hh).1 (nsup hs) hl
                · cases h
              · exact mm h
    · cases h
  | _ => simp only [trF] at h; cases h
theorem trG_len : ∀ n : Nat, (∀ c rb e g, trG n c rb e = some g → gLen g) ∧ (∀ c rb es gs, trGs n c rb es = some gs → ∀ g ∈ gs, gLen g)
  | 0 => ⟨fun c rb e g h => by simp [trG] at h, fun c rb e g h => by simp [trGs] at h⟩
  | n + 1 => by
    obtain ⟨i1, i2⟩ := trG_len n
    refine ⟨fun c rb e g h => ?_, fun c rb es gs h => ?_⟩
    · cases e <;> simp only [trG] at h <;> first | cases h | skip
      · split at h
        · split at h
          · cases h; exact gLen_set _
          · cases h
        · cases h
      · split at h
        · rename_i gs hgs; cases h; exact gLen_tup (i2 _ _ _ _ hgs)
        · cases h
    · cases es with
      | nil => simp only [trGs] at h; cases h; intro g hg; cases hg
      | cons a r =>
        simp only [trGs] at h
        split at h
        · cases h
        · split at h
          · rename_i g gs' hg hgs
            cases h
            intro g' hg'
            rcases List.mem_cons.mp hg' with z | z
            · subst z; exact i1 _ _ _ _ hg
            · exact i2 _ _ _ _ hgs g' z
          · cases h
theorem own_mem {N : List Str} {x : Str} {i : Nat} : ∀ {names : List (Str × NameKind)}, (x, NameKind.local) ∈ names → idx x N 0 = some i → i ∈ (ownOf N names).map (·.2)
  | [], h, _ => by cases h
  | (y, kk) :: r, h, hi => by
    unfold ownOf
    rw [List.map_append, List.mem_append]
    rcases List.mem_cons.mp h with z | z
    · cases z
      rw [hi]
      exact .inl (by simp)
    · exact .inr (own_mem z hi)
theorem sn_h (ih : Sn n) (C : Ct c k CM W X) {dk : Bool} {elt : Expr} {gs : List Comprehension} {scope : Scope} {f : XP} (h : trH (n + 1) c dk elt gs scope = some f) : PE X (.ListComp elt gs scope pos) (tX CM W f) ∧
    (dk = false → ∀ {rb : List Nat} {i : Nat} {y : Str} {py spos : Pos}, c.lslot y = some i → i ∈ rb → (py.line == pos.line) = true → (scope.names.any fun (n, k) => n == y && (k == .local || k == .cell)) = false → PS X (.Assign [.Name y py] (.ListComp elt gs scope pos) spos) (tS CM W rb (sSet i f))) := by
  have h0 : ∃ tg iter ifs, gs = [⟨tg, iter, ifs, 0⟩] := by
    unfold trH at h
    split at h
    · rename_i heq; cases heq
    · exact ⟨_, _, _, rfl⟩
    · cases h
  obtain ⟨tg, iter, ifs, rfl⟩ := h0
  simp only [trH] at h
  · skip
    split at h
    · rename_i it g fe t hit hg hfe ht
      split at h
      · rename_i hb
        cases h
        have hk : scope.kind = .function := by
          unfold blkS at hb
          simp only [Bool.and_eq_true] at hb
          have := hb.1.1.1
          split at this
          · assumption
          · cases this
        have blkC' := fun (s : Shared) (H : Hp) (Cc : Addr) (cl : List (Str × Addr)) (fp : List Addr) => C.block hk s H cl Cc fp
        have bok := C.blk _ _ hb
        obtain ⟨jj, jset⟩ := ih.j C hit
        have hgg := fun s H Cc cl fp => ih.g (blkC' s H Cc cl fp) hg
        have gl : gLen g := (trG_len n).1 _ _ _ _ hg
        have hg1 := fun s H Cc cl fp => (hgg s H Cc cl fp).1
        have ht1 := fun s H Cc cl fp => ih.z (blkC' s H Cc cl fp) ht
        have he1 := fun s H Cc cl fp => (ih.e (blkC' s H Cc cl fp) hfe).x
        refine ⟨?_, fun hdk rb i y py spos hy hr hline hany => ?_⟩
        · rcases jj with jj | ⟨_, td, f1, f2, rfl, j1, j2, j3⟩
          · exact dx_comp C.calm C.nd (jj tg) bok gl hg1 ht1 he1 (fold_of jset)
          · exact dx_compK C.calm C.nd j1 j2 j3 bok gl hg1 ht1 he1 (fold_of jset)
        · rcases jj with jj | ⟨hdk2, _⟩
          · obtain ⟨h1, h2, h3⟩ := lslot_ok hy
            have hl := C.lcl _ h1
            exact ds_setComp C.calm C.nd (by rw [C.eN]; exact h3) hl hr (sw_true C.kind hl hline hany) (jj tg) bok gl hg1 ht1 he1 (fold_of jset)
          · rw [hdk] at hdk2; cases hdk2
      · cases h
    · cases h
theorem sn_fs (ih : Sn n) (C : Ct c k CM W X) {es : List Expr} {fs : List XP} (h : trFs (n + 1) c es = some fs) : ∃ ts, FsPs CM W X es fs ts := by
  cases es with
  | nil => simp only [trFs] at h; cases h; exact ⟨[], .nil⟩
  | cons e es =>
    cases e with
    | Constant kc kk p =>
      cases kc with
      | str s =>
        simp only [trFs] at h
        split at h
        · rename_i ok
          split at h
          · rename_i fs' hf
            cases h
            obtain ⟨ts, hts⟩ := ih.fs C hf
            have e : s = stx s.cps.toList := by simp [stx]
            exact ⟨_, .cons (.lit (te := fun σ H Q => Q (.str s) H) pe_str (by unfold okTx at ok; rw [Bool.and_eq_true, decide_eq_true_eq, List.all_eq_true] at ok; exact ⟨ok.1, fun c hc => by simpa using ok.2 c hc⟩) fun _ _ Q q => by
              have q : Q (.str (stx s.cps.toList)) _ := q
              rw [← e] at q
              exact q) hts⟩
          · cases h
        · cases h
      | _ => simp [trFs] at h
    | FormattedValue e cv sp p =>
      cases sp with
      | none =>
        simp only [trFs] at h
        split at h
        · rename_i hcv
          subst hcv
          split at h
          · rename_i f fs' he hf
            cases h
            obtain ⟨ts, hts⟩ := ih.fs C hf
            exact ⟨_, .cons (.val (ih.e C he).o) hts⟩
          · cases h
        · cases h
      | some _ => simp [trFs] at h
    | _ => simp [trFs] at h
theorem sn_e (ih : Sn n) (C : Ct c k CM W X) {e : Expr} {r : Bool × XP} (h : trE (n + 1) c e = some r) : Rd2 X CM W e r := by
  cases e with
  | Constant v kk p => simp only [trE] at h; exact sn_c h
  | Name x p => simp only [trE] at h; exact sn_n C h
  | BinOp a op b p =>
    simp only [trE] at h
    split at h
    · rename_i ra rb eo _ hra hrb he
      cases h
      have hr := C.room.mono (Nat.le_succ k)
      unfold opO at he
      cases op with
      | BitOr => obtain ⟨o1, o2⟩ := Tb.own_ok he; exact dx_own hr C.tk (by rw [o2]; decide +kernel) (C.g.own _ o1) (ih.e C hra).o (ih.e C hrb).o
      | BitAnd => obtain ⟨o1, o2⟩ := Tb.own_ok he; exact dx_own hr C.tk (by rw [o2]; decide +kernel) (C.g.own _ o1) (ih.e C hra).o (ih.e C hrb).o
      | Sub =>
        simp only at he
        split at he
        · obtain ⟨o1, o2⟩ := Tb.own_ok he; exact dx_own hr C.tk (by rw [o2]; decide +kernel) (C.g.own _ o1) (ih.e C hra).o (ih.e C hrb).o
        · cases he
      | _ => cases he
    · rename_i ra rb g hra hrb _ hg
      cases h
      exact dx_bn (opX_ok C hg) (ih.e C hra).o (ih.e C hrb).o
    · cases h
  | UnaryOp op a p =>
    cases op with
    | USub =>
      simp only [trE] at h
      split at h
      · rename_i ra hra; cases h; exact dx_neg (ih.e C hra).o
      · cases h
    | Not =>
      simp only [trE] at h
      split at h
      · rename_i ra hra; cases h; exact dx_not (ih.e C hra).o
      · cases h
    | _ => simp only [trE] at h; cases h
  | BoolOp op vs p =>
    simp only [trE] at h
    split at h
    · rename_i f hf; cases h; exact ih.v C hf
    · cases h
  | Compare a ops bs p =>
    simp only [trE] at h
    split at h
    · rename_i f hf; cases h; exact ih.q C hf
    · cases h
  | IfExp t a b p =>
    simp only [trE] at h
    split at h
    · rename_i rt ra rb ht hra hrb; cases h; exact dx_if (ih.t C ht) (ih.e C hra).x (ih.e C hrb).x
    · cases h
  | JoinedStr vs p =>
    simp only [trE] at h
    split at h
    · rename_i fs hf
      split at h
      · rename_i hl
        cases h
        obtain ⟨ts, hts⟩ := ih.fs C hf
        match vs, hl, hts with
        | e1 :: e2 :: es, _, hts => exact dx_fstr hts
      · cases h
    · cases h
  | Tuple es kk p =>
    simp only [trE] at h
    split at h
    · rename_i l hl; cases h; exact dx_tup (ih.l C hl)
    · cases h
  | List es p =>
    simp only [trE] at h
    split at h
    · rename_i l hl; cases h; exact dx_lst (ih.l C hl)
    · cases h
  | Dict ks vs p =>
    cases ks with
    | cons _ _ => simp only [trE] at h; cases h
    | nil =>
      cases vs with
      | cons _ _ => simp only [trE] at h; cases h
      | nil => simp only [trE] at h; cases h; exact dx_dic
  | Subscript a i p => simp only [trE] at h; exact ih.u C h
  | Attribute o m p =>
    simp only [trE] at h
    split at h
    · rename_i f s hf hs
      split at h
      · rename_i hns
        cases h
        unfold TC.fld at hs
        cases e1 : c.tb.prp.find? fun e => Str.ofString e.2.1 == m with
        | none => rw [e1] at hs; cases hs
        | some z =>
          rw [e1] at hs
          cases hs
          have := List.find?_some e1
          have this2 : Str.ofString z.2.1 = m := by simpa using this
          exact do_attr (ih.r C hf) this2.symm C.g.prp C.room (nsup hns)
      · cases h
    · cases h
  | Call fn as ks p => simp only [trE] at h; exact ih.f C h
  | ListComp elt gs scope p =>
    simp only [trE] at h
    split at h
    · rename_i f hf; cases h; exact (ih.h C hf).1
    · cases h
  | _ => simp only [trE] at h; cases h
theorem sn : ∀ n : Nat, Sn n
  | 0 => sn0
  | n + 1 => by
    have ih := sn n
    exact ⟨fun C h => sn_e ih C h, fun C h => sn_v ih C h, fun C h => sn_q ih C h, fun C h => sn_u ih C h, fun C h => sn_p ih C h, fun C h => sn_f ih C h, fun C h hl hs => sn_m ih C h hl hs, fun C h => sn_t ih C h, fun C h => sn_b ih C h, fun C h => sn_d ih C h, fun C h => sn_l ih C h, fun C h => sn_r ih C h, fun C h => sn_w ih C h, fun C h => sn_kk ih C h, fun C h => sn_i ih C h, fun C h => sn_j ih C h, fun C h => sn_g ih C h, fun C h => sn_gs ih C h, fun C h => sn_h ih C h, fun C h => sn_fs ih C h, fun C h => sn_z ih C h⟩
end
end Lc
end
section
set_option Elab.async false
set_option linter.all false
set_option maxRecDepth 100000
set_option maxHeartbeats 4000000
/-! enumerate of tuples, zip of tuples and lists. -/
namespace PySem
theorem meets_enumerate_newT1 (l : Addr) (items : Array Value) :
    Meets (Builtin.«enumerate.__new__» ⟨[.type "enumerate", .ref l], []⟩) (fun _ R s => s.heap.IsTuple l items ∧
      R (.ok (.ret (.ref (s.heap.push { cls := .type "tuple_iterator", data := .fields #[.ref l, .int 0 0] }).objs.size)))
        { s with heap := (s.heap.push { cls := .type "tuple_iterator", data := .fields #[.ref l, .int 0 0] }).push { cls := .type "enumerate", data := .fields #[.none, .bool false, .ref s.heap.objs.size, rawInt 0, .none, .none] } }) :=
  .of_wp fun prog w A R s h => by
    obtain ⟨hp, g, d, tk, os⟩ := s; obtain ⟨hL, h⟩ := h
    have hsub := sub_enumerate
    have B := begins_tuple l items
    have hit : ∀ (A : Around) (E : Value → Shared → Prop) (Q : Value → Shared → Prop), Q (.ref hp.objs.size) ⟨hp.push { cls := .type "tuple_iterator", data := .fields #[.ref l, .int 0 0] }, g, d, tk, os⟩ → wpAny (model prog w) A (pyIter (.ref l)) Q E ⟨hp, g, d, tk, os⟩ := fun A E Q q => B.iter prog w A E ⟨hp, g, d, tk, os⟩ Q hL q
    obtain ⟨ol, hol, hcl, nl, hdl⟩ := id hL
    wp_walk using AutoSeq1.wpAny_loadPart' hol
    refine wpAny_stack_any fun st => wpAny_pure ?_
    split
    · rename_i c _ _ _ _ _
      cases (c == Value.type "enumerate")
      · wp_walk using AutoSeq1.wpAny_loadPart' hol, hit
        exact ⟨_, rfl, h⟩
      · wp_walk using AutoSeq1.wpAny_loadPart' hol, hit
        exact ⟨_, rfl, h⟩
    · wp_walk using AutoSeq1.wpAny_loadPart' hol, hit
      exact ⟨_, rfl, h⟩
theorem call_enumerate_tuple {prog : Program} {w : World} {A : Around} {E : Value → Shared → Prop} {s : Shared} {l : Addr} {items : Array Value} {Q : Value → Shared → Prop} (hL : s.heap.IsTuple l items)
    (h : ∀ h', IsEnum h' (s.heap.objs.size + 1) s.heap.objs.size 0 .none → h'.IsTupleIter s.heap.objs.size l 0 → h'.objs.size = s.heap.objs.size + 2 →
      (∀ b o, s.heap.get? b = some o → h'.get? b = some o) → Q (.ref (s.heap.objs.size + 1)) { s with heap := h' }) :
    wpAny (model prog w) A (call (.type "enumerate") [.ref l]) Q E s := by
  refine callType_new F.called_enumerate (by decide) (F.typeCall_enumerate_1 _) (F.newCall_enumerate_1 _) (fun obj => F.args_object_init_2 obj _) F.entry_enumerate_new
    (meets_enumerate_newT1 l items) ⟨hL, ?_⟩
  have hz : (s.heap.push { cls := .type "tuple_iterator", data := .fields #[.ref l, .int 0 0] }).objs.size = s.heap.objs.size + 1 := Heap.size_push ..
  show _ ∧ _
  rw [hz]
  have he : IsEnum ((s.heap.push { cls := .type "tuple_iterator", data := .fields #[.ref l, .int 0 0] }).push
      { cls := .type "enumerate", data := .fields #[.none, .bool false, .ref s.heap.objs.size, rawInt 0, .none, .none] }) (s.heap.objs.size + 1) s.heap.objs.size 0 .none := by
    have := Heap.get?_push_size (s.heap.push { cls := .type "tuple_iterator", data := .fields #[.ref l, .int 0 0] })
      (o := { cls := .type "enumerate", data := .fields #[.none, .bool false, .ref s.heap.objs.size, rawInt 0, .none, .none] }) rfl
    rw [hz] at this; exact this
  refine ⟨⟨_, he, rfl⟩, h _ he ⟨_, Heap.get?_push_of_some _ (Heap.get?_push_size _ rfl), rfl, rfl⟩ (by rw [Heap.size_push, hz]) fun b o x => Heap.get?_push_of_some _ (Heap.get?_push_of_some _ x)⟩
end PySem
namespace L2
open PySem PySem.Spec PyProof.Rows
/-- the tuple at a, each item in a new pair -/
def IteT (K : PySem.W.Frag) (a : Addr) : It :=
  ⟨fun i H => ∃ (xs : List V) (x : V), SqT K H a xs ∧ xs[i]? = some x, fun i H v H' => ∃ T x, v = .ref T ∧ H T = none ∧ H' = upd H T (.tup [.int (i : Nat), x]) ∧ ∀ xs, SqT K H a xs → xs[i]? = some x, fun i H => ∃ xs : List V, SqT K H a xs ∧ xs.length = i⟩
theorem turn_enumT {P : Program} {w : World} {K : PySem.W.Frag} {elts : List Expr} {kk : Nat} {tpos : Pos} (a e it : Addr) :
    Turn P w K (.Tuple elts kk tpos) (IteT K a) [e, it] e (fun i h => (∃ old, IsEnum h e it ((i : Nat) : Int) old) ∧ h.IsTupleIter it a i ∧ e ≠ it ∧ a ≠ e ∧ a ≠ it) where
  mem := by simp
  obj := fun i h st b hb => by
    obtain ⟨⟨old, he⟩, ⟨o, ho, hc, hd⟩, _⟩ := st
    have e' : b = e ∨ b = it := by simpa using hb
    rcases e' with z | z
    · rw [z]; exact ⟨_, he, fun v q => nomatch q⟩
    · rw [z]; exact ⟨o, ho, fun v q => by rw [hd] at q; cases q⟩
  keep := fun i h h' st k => let ⟨⟨old, he⟩, hi, hne⟩ := st; ⟨⟨old, k e (by simp) _ he⟩, hi.at fun o q => k it (by simp) o q, hne⟩
  item := by
    intro X hP hw hK hc i pins s σ H E I hf st hg
    subst hP hw hK
    obtain ⟨⟨old, he⟩, hit, hne, hae, hai⟩ := st
    obtain ⟨xs, x, hq, hx⟩ := hg
    obtain ⟨its, rv, p, hz⟩ := I.tuple hq
    obtain ⟨u, hu, ru⟩ := rv.get hx
    have hel : e < s.heap.objs.size := Heap.lt_size he
    have hil : it < s.heap.objs.size := by obtain ⟨_, q, _⟩ := hit; exact Heap.lt_size q
    have hil2 : i < its.toArray.size := by
      have := List.getElem?_eq_some_iff.mp hu
      simpa using this.1
    have D := Draws.tuple (prog := X.prog) (w := X.w) (A := X.A.in1) (show X.A.in1.handled = none from I.ok.hd hc) it a hai its.toArray
    refine wpAny_pyNext_enum_itemD D he ⟨hit, p⟩ hil2 hne (by simp only [List.mem_cons, List.not_mem_nil, or_false, not_or]; exact ⟨hne, Ne.symm hae⟩) fun u' h' tk hu' ho hst' hT hsz hk => ?_
    obtain rfl : u' = u := by
      have h1 : its.toArray[i]? = some u := by simpa using hu
      exact Option.some.inj (hu'.symm.trans h1)
    refine ⟨_, rfl, wpAny_letOwnedTupleGo_enum (s := { s with heap := h', toks := tk + 1 }) ho fun h'' he' sb => ?_⟩
    have hT2 : h''.get? s.heap.objs.size = some { cls := .type "tuple", data := .seq #[.int i tk, u'] } := (sb.2 _ (Nat.ne_of_gt hel)).trans hT
    have new : ObjOk X.prog X.w (upd H s.heap.objs.size (.tup [.int (i : Nat), x])) h'' s.heap.objs.size (.tup [.int (i : Nat), x]) :=
      ⟨by show 2 ≤ sizeLine; decide, [.int i tk, u'], .cons ⟨_, rfl⟩ (.cons ru .nil), ⟨_, hT2, rfl, _, rfl⟩⟩
    have I1 : Inv X pins σ (upd H s.heap.objs.size (.tup [.int (i : Nat), x])) { s with heap := h'', toks := tk + 1 } :=
      I.turnedNew (ch := [e, it]) (fun b ob hb q => (sb.2 b (fun z => hb (by simp [z]))).trans (hk b ob (fun z => hb (by simp [z])) (fun z => hb (by simp [z])) q)) hf (Nat.le_refl _) new
    refine ⟨.ref s.heap.objs.size, _, I1, rfl, ⟨_, x, rfl, I.hok.fresh (Nat.le_refl _), rfl, fun ys hy => by rw [I.tuple_inj hy hq]; exact hx⟩, ⟨⟨u', ?_⟩, hst'.1.at fun o q => (sb.2 it (Ne.symm hne)).trans q, hne, hae, hai⟩, fun b hb => ?_⟩
    · have e1 : ((i + 1 : Nat) : Int) = (i : Int) + 1 := by omega
      rw [e1]; exact he'
    · have hb' : b < s.heap.objs.size := by
        have e' : b = e ∨ b = it := by simpa using hb
        rcases e' with z | z
        · rw [z]; exact hel
        · rw [z]; exact hil
      rw [upd_ne (Nat.ne_of_lt hb')]
      exact (hf b hb).1
  done := by
    intro X hP hw hK hc i pins s σ H E I hf st hg
    subst hP hw hK
    obtain ⟨⟨old, he⟩, hit, hne, hae, hai⟩ := st
    obtain ⟨xs, hq, hx⟩ := hg
    obtain ⟨its, rv, p, hz⟩ := I.tuple hq
    obtain ⟨f0, f1, f2, f3, f4, f5⟩ := hf it (by simp)
    have hl := rv.length
    have D := Draws.tuple (prog := X.prog) (w := X.w) (A := X.A.in1) (show X.A.in1.handled = none from I.ok.hd hc) it a hai its.toArray
    have hsz : its.toArray.size = i := by simp; omega
    rw [hsz] at D
    exact wpAny_pyNext_enum_endD D he ⟨hit, p⟩ fun h' eb => ⟨rfl, I.turned (t' := s.toks) (fun b o hb q => eb b o hb q) f0 f1 f3 f4 f5⟩
  self := fun A i s Q E st h => let ⟨⟨_, he⟩, _⟩ := st; wpAny_pyIter_enum he h
/-- enumerate of a list or of a tuple -/
def iEnumA (K : PySem.W.Frag) (ta : TA) : TI := fun σ H R => ta σ H fun vs H1 => ∃ a xs, vs = [.ref a] ∧ ((SqL K H1 a xs ∧ R (Ite K a) H1) ∨ (SqT K H1 a xs ∧ R (IteT K a) H1))
theorem pi_enumA {X : Cx} {e : Expr} {ta : TA} {p pos tpos : Pos} {elts : List Expr} {kk : Nat} (hg : Gl X "enumerate") (hm : X.mg "enumerate" = none) (ha : PA X [e] ta) (hs : starEach [e] X.env = [(false, eval e X.env)] := by rfl) :
    PI X (.Tuple elts kk tpos) (.Call (.Name "enumerate" p) [e] [] pos) (iEnumA X.K ta) := by
  refine ⟨fun pins s σ H R I h => ?_⟩
  refine Call_ (ld_blt I hg hm boot_enumerate (PyProof.Rows.callWith_type1 (thn (ha.run pos pins s σ H _ I h) fun us s1 ⟨vs, H1, I1, r1, q1⟩ => ?_) hs rfl))
  obtain ⟨a, xs, ex, q⟩ := q1
  subst ex
  cases r1 with
  | cons r rr =>
    cases rr
    cases r
    have fresh : ∀ b ∈ [s1.heap.objs.size + 1, s1.heap.objs.size], FpOk X pins H1 b := fun b hb => by
      have e' : b = s1.heap.objs.size + 1 ∨ b = s1.heap.objs.size := by simpa using hb
      have hle : s1.heap.objs.size ≤ b := by
        rcases e' with z | z
        · rw [z]; exact Nat.le_add_right _ _
        · rw [z]; exact Nat.le_refl _
      exact I1.fpOk hle (I1.hok.fresh hle)
    rcases q with ⟨hq, q⟩ | ⟨hq, q⟩
    · obtain ⟨its, rv, p', hz⟩ := I1.list hq
      refine call_enumerate_list p'.isList fun h' he hit hsz hk => wpAny_pyIter_enum he ?_
      have I2 : Inv X pins σ H1 { s1 with heap := h' } := I1.kept (t' := s1.toks) hk
      exact ⟨s1.heap.objs.size + 1, [s1.heap.objs.size + 1, s1.heap.objs.size], _, _, H1, rfl, I2, turn_enum a (s1.heap.objs.size + 1) s1.heap.objs.size, ⟨⟨.none, he⟩, hit, Nat.succ_ne_self _⟩, fresh, q⟩
    · obtain ⟨its, rv, p', hz⟩ := I1.tuple hq
      obtain ⟨o1, ho1, _⟩ := id p'
      have hal : a < s1.heap.objs.size := Heap.lt_size ho1
      refine call_enumerate_tuple p' fun h' he hit hsz hk => wpAny_pyIter_enum he ?_
      have I2 : Inv X pins σ H1 { s1 with heap := h' } := I1.kept (t' := s1.toks) hk
      exact ⟨s1.heap.objs.size + 1, [s1.heap.objs.size + 1, s1.heap.objs.size], _, _, H1, rfl, I2, turn_enumT a (s1.heap.objs.size + 1) s1.heap.objs.size, ⟨⟨.none, he⟩, hit, Nat.succ_ne_self _, Nat.ne_of_lt (Nat.lt_succ_of_lt hal), Nat.ne_of_lt hal⟩, fresh, q⟩
/-- the tuple at a and the list at b, the items in new pairs -/
def ItzM (K : PySem.W.Frag) (a b : Addr) : It :=
  ⟨fun i H => ∃ (xs ys : List V) (x y : V), SqT K H a xs ∧ SqL K H b ys ∧ xs[i]? = some x ∧ ys[i]? = some y,
    fun i H v H' => ∃ T x y, v = .ref T ∧ H T = none ∧ H' = upd H T (.tup [x, y]) ∧ (∀ xs, SqT K H a xs → xs[i]? = some x) ∧ ∀ ys, SqL K H b ys → ys[i]? = some y,
    fun i H => ∃ xs ys : List V, SqT K H a xs ∧ SqL K H b ys ∧ i ≤ xs.length ∧ i ≤ ys.length ∧ (i = xs.length ∨ i = ys.length)⟩
theorem turn_zipM {P : Program} {w : World} {K : PySem.W.Frag} {elts : List Expr} {kk : Nat} {tpos : Pos} {a b z TI TO i1 i2 : Addr} (S : ZipSep2 z TI TO i1 i2 [i1, a] [i2, b]) (n1 : a ≠ i1) (n2 : b ≠ i2) :
    Turn P w K (.Tuple elts kk tpos) (ItzM K a b) [z, TI, TO, i1, i2] z (fun i h => IsZip h z TI TO .none ∧ IsTupOf2 h TI (.ref i1) (.ref i2) ∧ (∃ x y, IsTupOf2 h TO x y) ∧ h.IsTupleIter i1 a i ∧ h.IsListIter i2 b i) where
  mem := by simp
  obj := fun i h st c hc => by
    obtain ⟨hz, hTI, ⟨x, y, hTO⟩, ⟨o1, e1, _, d1⟩, ⟨o2, e2, _, d2⟩⟩ := st
    have e' : c = z ∨ c = TI ∨ c = TO ∨ c = i1 ∨ c = i2 := by simpa using hc
    rcases e' with q | q | q | q | q
    · rw [q]; exact ⟨_, hz, fun v q => nomatch q⟩
    · rw [q]; exact ⟨_, hTI, fun v q => nomatch q⟩
    · rw [q]; exact ⟨_, hTO, fun v q => nomatch q⟩
    · rw [q]; exact ⟨o1, e1, fun v q => by rw [d1] at q; cases q⟩
    · rw [q]; exact ⟨o2, e2, fun v q => by rw [d2] at q; cases q⟩
  keep := fun i h h' st k => by
    obtain ⟨hz, hTI, ⟨x, y, hTO⟩, h1, h2⟩ := st
    exact ⟨k z (by simp) _ hz, k TI (by simp) _ hTI, ⟨x, y, k TO (by simp) _ hTO⟩, h1.at fun o q => k i1 (by simp) o q, h2.at fun o q => k i2 (by simp) o q⟩
  item := by
    intro X hP hw hK hc i pins s σ H E I hf st hg
    subst hP hw hK
    obtain ⟨hz, hTI, ⟨x0, y0, hTO⟩, h1, h2⟩ := st
    obtain ⟨xs, ys, x, y, hqx, hqy, hx, hy⟩ := hg
    obtain ⟨its, rv, p, _⟩ := I.tuple hqx
    obtain ⟨its2, rv2, p2, _⟩ := I.list hqy
    obtain ⟨u, hu, ru⟩ := rv.get hx
    obtain ⟨u2, hu2, ru2⟩ := rv2.get hy
    have hzl : z < s.heap.objs.size := Heap.lt_size hz
    have l1 : i < its.toArray.size := by have := (List.getElem?_eq_some_iff.mp hu).1; simpa using this
    have l2 : i < its2.toArray.size := by have := (List.getElem?_eq_some_iff.mp hu2).1; simpa using this
    have hh : X.A.in1.handled = none := I.ok.hd hc
    refine wpAny_pyNext_zipD2_item S (Draws.tuple (prog := X.prog) (w := X.w) hh i1 a n1 its.toArray) (Draws.list (prog := X.prog) (w := X.w) hh i2 b n2 its2.toArray) hz hTI hTO ⟨h1, p⟩ ⟨h2, p2.isList⟩ l1 l2 fun v1 v2 h' tk e1 e2 z' TO' h1' h2' hT hsz hk => ?_
    obtain rfl : v1 = u := Option.some.inj (e1.symm.trans (by simpa using hu))
    obtain rfl : v2 = u2 := Option.some.inj (e2.symm.trans (by simpa using hu2))
    refine ⟨_, rfl, wpAny_letOwnedTupleGo_zip (s := { s with heap := h', toks := tk }) z' fun h'' z'' sb => ?_⟩
    have hT2 : h''.get? s.heap.objs.size = some { cls := .type "tuple", data := .seq #[v1, v2] } := (sb.2 _ (Nat.ne_of_gt hzl)).trans hT
    have new : ObjOk X.prog X.w (upd H s.heap.objs.size (.tup [x, y])) h'' s.heap.objs.size (.tup [x, y]) :=
      ⟨by show 2 ≤ sizeLine; decide, [v1, v2], .cons ru (.cons ru2 .nil), ⟨_, hT2, rfl, _, rfl⟩⟩
    have I1 : Inv X pins σ (upd H s.heap.objs.size (.tup [x, y])) { s with heap := h'', toks := tk } :=
      I.turnedNew (t' := tk) (ch := [z, TI, TO, i1, i2]) (fun c o hb q => (sb.2 c (fun q' => hb (by simp [q']))).trans (hk c o (fun q' => hb (by simp [q'])) (fun q' => hb (by simp [q'])) (fun q' => hb (by simp [q'])) (fun q' => hb (by simp [q'])) q)) hf (Nat.le_refl _) new
    refine ⟨.ref s.heap.objs.size, _, I1, rfl, ⟨_, x, y, rfl, I.hok.fresh (Nat.le_refl _), rfl, fun l hl => by rw [I.tuple_inj hl hqx]; exact hx, fun l hl => by rw [I.list_inj hl hqy]; exact hy⟩, ⟨z'', ?_, ⟨v1, v2, ?_⟩, ?_, ?_⟩, fun c hcm => ?_⟩
    · exact (sb.2 _ S.TIz).trans (hk _ _ S.TIz S.TITO S.TIi1 S.TIi2 hTI)
    · exact (sb.2 _ S.TOz).trans TO'
    · exact h1'.1.at fun o q => (sb.2 _ (Ne.symm S.zi1)).trans q
    · exact h2'.1.at fun o q => (sb.2 _ (Ne.symm S.zi2)).trans q
    · have hlt : c < s.heap.objs.size := by
        have e' : c = z ∨ c = TI ∨ c = TO ∨ c = i1 ∨ c = i2 := by simpa using hcm
        rcases e' with q | q | q | q | q
        · rw [q]; exact hzl
        · rw [q]; exact Heap.lt_size hTI
        · rw [q]; exact Heap.lt_size hTO
        · rw [q]; obtain ⟨_, e1, _⟩ := h1; exact Heap.lt_size e1
        · rw [q]; obtain ⟨_, e2, _⟩ := h2; exact Heap.lt_size e2
      rw [upd_ne (Nat.ne_of_lt hlt)]
      exact (hf c hcm).1
  done := by
    intro X hP hw hK hc i pins s σ H E I hf st hg
    subst hP hw hK
    obtain ⟨hz, hTI, ⟨x0, y0, hTO⟩, h1, h2⟩ := st
    obtain ⟨xs, ys, hqx, hqy, hl1, hl2, hend⟩ := hg
    obtain ⟨its, rv, p, _⟩ := I.tuple hqx
    obtain ⟨its2, rv2, p2, _⟩ := I.list hqy
    have l1 := rv.length
    have l2 := rv2.length
    have hh : X.A.in1.handled = none := I.ok.hd hc
    exact wpAny_pyNext_zipD2_end S (Draws.tuple (prog := X.prog) (w := X.w) hh i1 a n1 its.toArray) (Draws.list (prog := X.prog) (w := X.w) hh i2 b n2 its2.toArray) hz hTI hTO ⟨h1, p⟩ ⟨h2, p2.isList⟩ (by simp; omega) (by simp; omega) (by simp; omega)
      fun h' tk hk => ⟨rfl, I.turnedL (t' := tk) (ch := [z, TI, TO, i1, i2]) (fun c o hb q =>
        hk c o (fun q' => hb (by simp [q'])) (fun q' => hb (by simp [q'])) (fun q' => hb (by simp [q'])) (fun q' => hb (by simp [q'])) q) hf⟩
  self := fun A i s Q E st h => wpAny_pyIter_zip st.1 h
def iZipB (K : PySem.W.Frag) (ta : TA) : TI := fun σ H R => ta σ H fun vs H1 => ∃ a b xs ys, vs = [.ref a, .ref b] ∧ ((SqL K H1 a xs ∧ SqL K H1 b ys ∧ R (Itz K a b) H1) ∨ (SqT K H1 a xs ∧ SqL K H1 b ys ∧ R (ItzM K a b) H1))
theorem pi_zipB {X : Cx} {e e2 : Expr} {ta : TA} {p pos tpos : Pos} {elts : List Expr} {kk : Nat} (hg : Gl X "zip") (hm : X.mg "zip" = none) (ha : PA X [e, e2] ta)
    (hs : starEach [e, e2] X.env = (false, eval e X.env) :: starEach [e2] X.env := by rfl) (hpl : (backTo pos (starEach [e2] X.env)).any (·.1) = false := by rfl) :
    PI X (.Tuple elts kk tpos) (.Call (.Name "zip" p) [e, e2] [] pos) (iZipB X.K ta) := by
  refine ⟨fun pins s σ H R I h => ?_⟩
  refine Call_ (ld_blt I hg hm PyProof.Rows.boot_zip (PyProof.Rows.callWith_type1 (thn (ha.run pos pins s σ H _ I h) fun us s1 ⟨vs, H1, I1, r1, q1⟩ => ?_) hs hpl))
  obtain ⟨a, b, xs, ys, ex, q1⟩ := q1
  subst ex
  cases r1 with
  | cons r rr =>
    cases rr with
    | cons r' rr =>
      cases rr
      cases r
      cases r'
      have fresh5 : ∀ c, c ∈ [s1.heap.objs.size + 4, s1.heap.objs.size + 2, s1.heap.objs.size + 3, s1.heap.objs.size, s1.heap.objs.size + 1] → FpOk X pins H1 c := fun c hcm => by
        have e' : c = s1.heap.objs.size + 4 ∨ c = s1.heap.objs.size + 2 ∨ c = s1.heap.objs.size + 3 ∨ c = s1.heap.objs.size ∨ c = s1.heap.objs.size + 1 := by simpa using hcm
        have hle : s1.heap.objs.size ≤ c := by
          rcases e' with z | z | z | z | z
          · rw [z]; exact Nat.le_add_right _ _
          · rw [z]; exact Nat.le_add_right _ _
          · rw [z]; exact Nat.le_add_right _ _
          · rw [z]; exact Nat.le_refl _
          · rw [z]; exact Nat.le_add_right _ _
        exact I1.fpOk hle (I1.hok.fresh hle)
      rcases q1 with ⟨hqx, hqy, q⟩ | ⟨hqx, hqy, q⟩
      · obtain ⟨its, rv, p1, _⟩ := I1.list hqx
        obtain ⟨its2, rv2, p2, _⟩ := I1.list hqy
        refine call_zip_2 p1.isList p2.isList fun h' hz hTI hTO h1 h2 hsz hk => wpAny_pyIter_zip hz ?_
        have I2 : Inv X pins σ H1 { s1 with heap := h' } := I1.kept (t' := s1.toks) hk
        exact ⟨s1.heap.objs.size + 4, [s1.heap.objs.size + 4, s1.heap.objs.size + 2, s1.heap.objs.size + 3, s1.heap.objs.size, s1.heap.objs.size + 1], _, _, H1, rfl, I2, turn_zip (PySem.W.ktu_apart s1.heap.objs.size a b p1.lt p2.lt), ⟨hz, hTI, ⟨_, _, hTO⟩, h1, h2⟩, fresh5, q⟩
      · obtain ⟨its, rv, p1, _⟩ := I1.tuple hqx
        obtain ⟨its2, rv2, p2, _⟩ := I1.list hqy
        obtain ⟨o1, ho1, _⟩ := id p1
        have ha1 : a < s1.heap.objs.size := Heap.lt_size ho1
        have hb1 : b < s1.heap.objs.size := p2.lt
        have ne : ∀ {c : Addr} (k : Nat), c < s1.heap.objs.size → s1.heap.objs.size + k ≠ c := fun k hc e => by rw [← e] at hc; exact absurd hc (Nat.not_lt_of_ge (Nat.le_add_right _ _))
        have nn : ∀ {i j : Nat}, i ≠ j → s1.heap.objs.size + i ≠ s1.heap.objs.size + j := fun h e => h (Nat.add_left_cancel e)
        refine zip_begins2 (begins_tuple a its.toArray) (begins_list b its2.toArray) p1 p2.isList fun h' hz hTI hTO h1 h2 hsz hk => wpAny_pyIter_zip hz ?_
        have I2 : Inv X pins σ H1 { s1 with heap := h' } := I1.kept (t' := s1.toks) hk
        have S : ZipSep2 (s1.heap.objs.size + 4) (s1.heap.objs.size + 2) (s1.heap.objs.size + 3) s1.heap.objs.size (s1.heap.objs.size + 1) [s1.heap.objs.size, a] [s1.heap.objs.size + 1, b] := {
          TIz := nn (by decide), TOz := nn (by decide), TITO := nn (by decide), TIi1 := nn (j := 0) (by decide), mem1 := by simp
          zf1 := by simp only [List.mem_cons, List.not_mem_nil, or_false, not_or]; exact ⟨nn (j := 0) (by decide), ne 4 ha1⟩
          Tf1 := by simp only [List.mem_cons, List.not_mem_nil, or_false, not_or]; exact ⟨nn (j := 0) (by decide), ne 3 ha1⟩
          TIi2 := nn (by decide), mem2 := by simp
          zf2 := by simp only [List.mem_cons, List.not_mem_nil, or_false, not_or]; exact ⟨nn (by decide), ne 4 hb1⟩
          Tf2 := by simp only [List.mem_cons, List.not_mem_nil, or_false, not_or]; exact ⟨nn (by decide), ne 3 hb1⟩
          sep1_2 := by simp only [List.mem_cons, List.not_mem_nil, or_false, not_or]; exact ⟨nn (i := 0) (by decide), ne 0 hb1⟩
          sep2_1 := by simp only [List.mem_cons, List.not_mem_nil, or_false, not_or]; exact ⟨nn (j := 0) (by decide), ne 1 ha1⟩ }
        exact ⟨s1.heap.objs.size + 4, [s1.heap.objs.size + 4, s1.heap.objs.size + 2, s1.heap.objs.size + 3, s1.heap.objs.size, s1.heap.objs.size + 1], _, _, H1, rfl, I2, turn_zipM S (Nat.ne_of_lt ha1) (Nat.ne_of_lt (Nat.lt_succ_of_lt hb1)), ⟨hz, hTI, ⟨_, _, hTO⟩, ⟨_, h1, rfl, rfl⟩, ⟨_, h2, rfl, rfl⟩⟩, fresh5, q⟩
end L2
namespace Lc
open PySem PySem.Spec L2
section
variable {CM : CMap} {B F F1 H H' : Hp} {ds es : List D} {vs ws : List V} {a b : Addr} {K : PySem.W.Frag}
theorem walkD_enumT (h : B a = some (.tup vs)) (r : Reps CM F1 ds vs) : WalkD CM B F1 (IteT K a) (enumL 0 ds) := by
  have el := r.length
  have en := enumL_len 0 ds
  refine ⟨fun i H hi k => ?_, fun H k => ⟨vs, SqT.of (k _ _ h), by rw [en, el]⟩, fun i H x H' F hi k s sh y => ?_⟩
  · exact ⟨vs, vs[i]'(by omega), SqT.of (k _ _ h), by simp⟩
  · obtain ⟨T, x, rfl, hT, rfl, y⟩ := y
    have y := y vs (SqT.of (k _ _ h))
    have hi' : i < ds.length := by omega
    obtain ⟨u, e1, e2⟩ := r.get (d := ds[i]) (i := i) (by simp [hi'])
    rw [y] at e1; cases e1
    refine ⟨_, .tup [.int ((0 + i : Nat) : Int), ds[i]], Ext.lay sh hT, enumL_get 0 ds i hi', ?_⟩
    rw [Nat.zero_add]
    exact rep_newTup (sh.free hT) (Reps.cons_iff.mpr ⟨_, _, rfl, rep_int, Reps.cons_iff.mpr ⟨_, _, rfl, Rep.mono s _ _ e2, Reps.nil_iff.mpr rfl⟩⟩) (by show 2 ≤ LINE; decide)
theorem walkD_zipM (h : B a = some (.tup vs)) (r : Reps CM F1 ds vs) (h2 : B b = some (.lst ws)) (r2 : Reps CM F1 es ws) : WalkD CM B F1 (ItzM K a b) (zipL ds es) := by
  have el := r.length
  have el2 := r2.length
  have en := zipL_len ds es
  refine ⟨fun i H hi k => ?_, fun H k => ⟨vs, ws, SqT.of (k _ _ h), .inl (.inl (k _ _ h2)), by omega, by omega, by omega⟩, fun i H x H' F hi k s sh y => ?_⟩
  · exact ⟨vs, ws, vs[i]'(by omega), ws[i]'(by omega), SqT.of (k _ _ h), .inl (.inl (k _ _ h2)), by simp, by simp⟩
  · obtain ⟨T, x, z, rfl, hT, rfl, y, y2⟩ := y
    have y := y vs (SqT.of (k _ _ h))
    have y2 := y2 ws (.inl (.inl (k _ _ h2)))
    have hi1 : i < ds.length := by omega
    have hi2 : i < es.length := by omega
    obtain ⟨u, e1, e2⟩ := r.get (d := ds[i]) (i := i) (by simp [hi1])
    obtain ⟨u2, e3, e4⟩ := r2.get (d := es[i]) (i := i) (by simp [hi2])
    rw [y] at e1; cases e1
    rw [y2] at e3; cases e3
    exact ⟨_, .tup [ds[i], es[i]], Ext.lay sh hT, zipL_get ds es i hi1 hi2, rep_newTup (sh.free hT) (Reps.cons_iff.mpr ⟨_, _, rfl, Rep.mono s _ _ e2, Reps.cons_iff.mpr ⟨_, _, rfl, Rep.mono s _ _ e4, Reps.nil_iff.mpr rfl⟩⟩) (by show 2 ≤ LINE; decide)⟩
end
section
variable {X : Cx} {CM : CMap} {W : WX} {rb : List Nat} {f g b : XS} {a fa fb : XP} {e e2 l tg : Expr} {st : Stmt} {sts rest : List Stmt} {pos p ap : Pos}
theorem tup_adopt {F H F' H' : Hp} {ds : List D} {v : V} {g : List Addr} (x : Ext F H F' H') (r : RepO CM F' H' (.tup ds) v g) (f : ∀ p ∈ g, H p = none ∧ F' p = none) :
    ∃ p vs, v = .ref p ∧ adopt F' H' g p = some (.tup vs) ∧ H' p = some (.tup vs) ∧ Reps CM (adopt F' H' g) ds vs := by
  obtain ⟨p, vs, rfl, h1, h2, h3, h4⟩ := ro_tup x.sub r
  have ff := adopt_ff (F := F') (H := H') (fp := g) fun p hp => (f p hp).2
  exact ⟨p, vs, rfl, ff _ _ h4, h1, h3.mono ff⟩
theorem di_enum {elts : List Expr} {kk : Nat} {tp : Pos} (hg : Gl X "enumerate") (hm : X.mg "enumerate" = none) (ha : PE X e (tX CM W fa)) (hs : starEach [e] X.env = [(false, eval e X.env)]) : PI X (.Tuple elts kk tp) (.Call (.Name "enumerate" p) [e] [] pos) (tIt CM W (iEn fa)) :=
  (pi_enumA hg hm (pa_cons ha pa_nil hs) hs).weak fun σ H R ⟨F, ρ, fp, s, q⟩ => by
    refine ⟨F, ρ, fp, s, ?_⟩
    unfold iEn at q
    cases e : fa ρ with
    | bad => rw [e] at q; exact q
    | exc c ns ds => rw [e] at q; exact q
    | val d =>
      rw [e] at q
      intro v F' H' g x r n f
      simp only [Res.bind_val] at q
      cases d with
      | nd k ds =>
        cases k with
        | lst o =>
          by_cases hz : ds.all D.fz = true
          · simp only [hz, if_true] at q
            obtain ⟨p, vs, rfl, h1, h2, h3⟩ := lst_adopt x r f hz
            exact ⟨p, vs, rfl, .inl ⟨.inl (.inl h2), q _ _ _ (x.adopt f) (walkD_enum h1 h3)⟩⟩
          · simp only [hz, Bool.false_eq_true, if_false] at q
        | tup =>
          obtain ⟨p, vs, rfl, h1, h2, h3⟩ := tup_adopt x r f
          exact ⟨p, vs, rfl, .inr ⟨SqT.of h2, q _ _ _ (x.adopt f) (walkD_enumT h1 h3)⟩⟩
        | dic o ks => exact q.elim
        | obj o c ns => exact q.elim
        | scr => exact q.elim
        | xob _ _ => exact q.elim
      | str t => exact q.elim
      | non => exact q.elim
      | bl b => exact q.elim
      | int i => exact q.elim
theorem di_zip {elts : List Expr} {kk : Nat} {tp : Pos} (hg : Gl X "zip") (hm : X.mg "zip" = none) (ha : PE X e (tX CM W fa)) (hb : PE X e2 (tX CM W fb)) (hs : starEach [e, e2] X.env = (false, eval e X.env) :: starEach [e2] X.env) (hs2 : starEach [e2] X.env = [(false, eval e2 X.env)]) :
    PI X (.Tuple elts kk tp) (.Call (.Name "zip" p) [e, e2] [] pos) (tIt CM W (iZp fa fb)) :=
  (pi_zipB hg hm (pa_cons ha (pa_cons hb pa_nil hs2) hs) hs (by rw [hs2]; rfl)).weak fun σ H R ⟨F, ρ, fp, s, q⟩ => by
    refine ⟨F, ρ, fp, s, ?_⟩
    unfold iZp at q
    cases e : fa ρ with
    | bad => rw [e] at q; exact q
    | exc c ns ds => rw [e] at q; exact q
    | val d =>
      rw [e] at q
      intro v F1 H1 g1 x1 r1 n1 f1
      simp only [Res.bind_val] at q
      have s1 := s.ext x1
      refine ⟨F1, ρ, fp, s1, ?_⟩
      cases e2 : fb ρ with
      | bad => rw [e2] at q; exact q
      | exc c ns ds => rw [e2] at q; exact RE.ext x1 q
      | val d2 =>
        rw [e2] at q
        intro v2 F2 H2 g2 x2 r2 n2 f2
        simp only [Res.bind_val] at q
        have x12 := x1.trans x2
        have r1' := r1.ext x2.ff x2.hh
        have f1' : ∀ p ∈ g1, H p = none ∧ F2 p = none := fun p hp => ⟨(f1 p hp).1, by
          obtain ⟨o, ho, ht⟩ := RepO.dom _ _ _ r1 p hp
          exact x2.new p o ho ht (f1 p hp).2⟩
        have xa := x12.adopt f1'
        have nd : ∀ q ∈ g2, q ∉ g1 := fun q hq z => by
          obtain ⟨o, ho, _⟩ := RepO.dom _ _ _ r1 q z
          rw [(f2 q hq).1] at ho; cases ho
        have r2' := r2.ext (adopt_ff (F := F2) (H := H2) (fp := g1) fun p hp => (f1' p hp).2) (Same.refl _)
        have f2' : ∀ q ∈ g2, H q = none ∧ adopt F2 H2 g1 q = none := fun q hq => by
          refine ⟨?_, ?_⟩
          · cases hh : H q with
            | none => rfl
            | some o => have := x1.hh _ _ hh; rw [(f2 q hq).1] at this; cases this
          · rw [adopt_out (nd q hq)]; exact (f2 q hq).2
        have ff2 := adopt_ff (F := adopt F2 H2 g1) (H := H2) (fp := g2) fun p hp => (f2' p hp).2
        cases d with
        | nd k ds =>
          cases k with
          | lst o =>
            cases d2 with
            | nd k2 es =>
              cases k2 with
              | lst o2 =>
                by_cases hz : ds.all D.fz = true ∧ es.all D.fz = true
                · simp only [hz, and_self, if_true] at q
                  obtain ⟨p, vs, rfl, h1, h2, h3⟩ := lst_adopt x12 r1' f1' hz.1
                  obtain ⟨p2, ws, rfl, k1, k2, k3⟩ := lst_adopt xa r2' f2' hz.2
                  exact ⟨p, p2, vs, ws, rfl, .inl ⟨.inl (.inl h2), .inl (.inl k2), q _ _ _ (xa.adopt f2') (walkD_zip (ff2 _ _ h1) (h3.mono ff2) k1 k3)⟩⟩
                · simp only [hz, if_false] at q
              | tup => exact q.elim
              | dic o ks => exact q.elim
              | obj o c ns => exact q.elim
              | scr => exact q.elim
              | xob _ _ => exact q.elim
            | str t => exact q.elim
            | non => exact q.elim
            | bl b => exact q.elim
            | int i => exact q.elim
          | tup =>
            cases d2 with
            | nd k2 es =>
              cases k2 with
              | lst o2 =>
                by_cases hz : es.all D.fz = true
                · simp only [hz, if_true] at q
                  obtain ⟨p, vs, rfl, h1, h2, h3⟩ := tup_adopt x12 r1' f1'
                  obtain ⟨p2, ws, rfl, k1, k2, k3⟩ := lst_adopt xa r2' f2' hz
                  exact ⟨p, p2, vs, ws, rfl, .inr ⟨SqT.of h2, .inl (.inl k2), q _ _ _ (xa.adopt f2') (walkD_zipM (ff2 _ _ h1) (h3.mono ff2) k1 k3)⟩⟩
                · simp only [hz, Bool.false_eq_true, if_false] at q
              | tup => exact q.elim
              | dic o ks => exact q.elim
              | obj o c ns => exact q.elim
              | scr => exact q.elim
              | xob _ _ => exact q.elim
            | str t => exact q.elim
            | non => exact q.elim
            | bl b => exact q.elim
            | int i => exact q.elim
          | dic o ks => exact q.elim
          | obj o c ns => exact q.elim
          | scr => exact q.elim
          | xob _ _ => exact q.elim
        | str t => exact q.elim
        | non => exact q.elim
        | bl b => exact q.elim
        | int i => exact q.elim
end
end Lc
end
section
set_option Elab.async false
set_option linter.all false
set_option maxRecDepth 100000
set_option maxHeartbeats 4000000
/-! The translator is right: within an except suite. -/
namespace Lc
open PySem PySem.Spec PyProof.Rows L2
structure CtH (h : HC) (k : Nat) (CM : CMap) (W : WX) (X : Cx) : Prop where
  nd : X.N.Nodup
  eN : X.N = h.c.N
  vis : ∀ x, visS h.c.sc x = true → Vis X.env.scope x
  lcl : ∀ x, lclS h.c.sc x = true → X.env.scope.names.lookup x = some .local
  glo : ∀ x, gloS h.c.sc x = true → Gl X x
  hot : HotX CM X
  room : L2H.RoomH (k + 1) X.A
  tk : L2N.Takes X W
  con : ∀ x d, h.c.tb.con.lookup x = some d → ∃ u v, X.mg x = some u ∧ RelV v u ∧ ∀ F, Rep CM F d v
  blt : ∀ x, h.c.tb.blt.contains x = true → X.mg x = none
  xf : XFacts X.K CM h.c.tb.xd.all h.c.tb.xd.fl
  xi : ∀ T subs, h.c.tb.xd.xi.lookup T = some subs → ∃ c0 v0, XNm X.mg T c0 v0 ∧ ∀ c C, h.c.tb.xd.all.contains c = true → CM c = some C → PySem.W.kitOne X.K (.ref C) c0 = some (subs.contains c)
  hfn : ∀ x e, (x, e) ∈ h.c.tb.xd.hfn → ∃ f, X.mg x = some (.ref f) ∧ PySem.W.keepIn X.K (.ref f) = true ∧ RunAt X CM (.ref f) e.npos e.fn
  hp : h.fo = true → PassesOwn (model X.prog X.w) X.A X.env X.xe
section
variable {h : HC} {k : Nat} {CM : CMap} {W : WX} {X : Cx} {pos : Pos} {n : Nat} {rb : List Nat}
theorem CtH.var (C : CtH h k CM W X) {x : Str} {i : Nat} (e : h.c.slot x = some i) : X.N[i]? = some x ∧ Vis X.env.scope x ∧ (x == ("__debug__" : Str)) = false ∧ (x == ("__classdict__" : Str)) = false := by
  obtain ⟨h1, h2, h3⟩ := slot_ok e
  obtain ⟨p1, p2, p3⟩ := plain_of h2
  exact ⟨by rw [C.eN]; exact h3, C.vis _ h1, p1, p2⟩
theorem cmpG_un (hu : X.A.units + 65 < cLine) {op : CmpOp} {g : D → D → Option Bool} (e : cmpG op = some g) : OpR X (compareOp op) (rD CM (oB g)) := by
  cases op <;> first | cases e | skip
  · exact os_eq (by omega)
  · exact os_ne (by omega)
  · exact os_lt
  · exact os_le
  · exact os_gt
  · exact os_ge
  · exact os_in hu
  · exact os_notIn hu
theorem hE_form {n : Nat} {h : HC} {e : Expr} {r : Bool × XP} (q : hE n h e = some r) : isSt e = false ∧ isSl e = false ∧ isComp e = false := by
  cases n with
  | zero => simp [hE] at q
  | succ n => cases e <;> first | exact ⟨rfl, rfl, rfl⟩ | (simp [hE] at q)
theorem hot_n (C : CtH h k CM W X) {x : Str} {r : Bool × XP} (q : trN h.c x = some r) : Rd2 X CM W (.Name x pos) r := by
  unfold trN at q
  split at q
  · rename_i i hs
    cases q
    obtain ⟨v1, v2, v3, v4⟩ := C.var hs
    exact dx_var v1 v2 v3 v4
  · split at q
    · rename_i hg
      split at q
      · rename_i d hd
        cases q
        obtain ⟨g1, g2⟩ := glo_ok hg
        obtain ⟨p1, p2, p3⟩ := plain_of g2
        obtain ⟨u, v, e1, e2, e3⟩ := C.con _ _ hd
        exact dx_glob (C.glo _ g1) e1 e2 e3 p1
      · cases q
    · cases q
structure Hn (n : Nat) : Prop where
  e : ∀ {h : HC} {k : Nat} {CM : CMap} {W : WX} {X : Cx} {e : Expr} {r : Bool × XP}, CtH h k CM W X → hE n h e = some r → Rd2 X CM W e r
  v : ∀ {h : HC} {k : Nat} {CM : CMap} {W : WX} {X : Cx} {op : BoolOp} {vs : List Expr} {pos : Pos} {f : XP}, CtH h k CM W X → hV n h op vs = some f → PE X (.BoolOp op vs pos) (tX CM W f)
  f : ∀ {h : HC} {k : Nat} {CM : CMap} {W : WX} {X : Cx} {x : Str} {p : Pos} {as : List Expr} {pos : Pos} {r : Bool × XP}, CtH h k CM W X → hF n h x as pos = some r → Rd2 X CM W (.Call (.Name x p) as [] pos) r
  l : ∀ {h : HC} {k : Nat} {CM : CMap} {W : WX} {X : Cx} {es : List Expr} {l : XL}, CtH h k CM W X → hL n h es = some l → PA X es (tL CM W l)
  w : ∀ {h : HC} {k : Nat} {CM : CMap} {W : WX} {X : Cx} {es : List Expr} {l : XL}, CtH h k CM W X → hW n h es = some l → PA X es (tLw CM W l) ∧ (∀ e ∈ es, ∀ v p, e ≠ .Starred v p) ∧ (es = [] → l = lnil) ∧ ∀ ρ a, l ρ = .val a → a.length = es.length
  r : ∀ {h : HC} {k : Nat} {CM : CMap} {W : WX} {X : Cx} {e : Expr} {f : XP}, CtH h k CM W X → hR n h e = some f → PE X e (tOw CM W f)
theorem hn0 : Hn 0 := by
  constructor <;> intros <;> rename_i q <;> first | (simp [hE] at q; done) | (simp [hV] at q; done) | (simp [hF] at q; done) | (simp [hL] at q; done) | (simp [hW] at q; done) | (simp [hR] at q; done)
theorem hn_f (ih : Hn n) (C : CtH h k CM W X) {x : Str} {p : Pos} {as : List Expr} {r : Bool × XP} (q : hF (n + 1) h x as pos = some r) : Rd2 X CM W (.Call (.Name x p) as [] pos) r := by
  simp only [hF] at q
  split at q
  · rename_i hb
    obtain ⟨b1', b2⟩ := isB_ok hb
    have hg := C.glo _ (glo_ok b1').1
    obtain ⟨p1, p2, p3⟩ := plain_of (glo_ok b1').2
    have hm := C.blt _ b2
    split at q
    · rename_i a T pT
      split at q
      · rename_i hx
        subst hx
        split at q
        · rename_i f hf
          split at q
          · rename_i t ht
            split at q
            · rename_i hT
              cases q
              obtain ⟨t1, t2⟩ := bty_ok ht
              obtain ⟨c1, c2⟩ := isB_ok hT
              obtain ⟨q1, q2, q3⟩ := plain_of (glo_ok c1).2
              exact dx_isTy hg hm (C.glo _ (glo_ok c1).1) (C.blt _ c2) t2 t1 q3 q1 PyProof.Rows.boot_isinstance (ih.e C hf).o (hE_form hf).1
            · cases q
          · split at q
            · rename_i hT
              split at q
              · rename_i subs hsub
                cases q
                obtain ⟨c0, v0, hN, hk⟩ := C.xi _ _ hsub
                obtain ⟨q1, q2, q3⟩ := plain_of (glo_ok hT).2
                obtain ⟨a', C', dx', oe', P⟩ := C.hot
                exact dx_isX P hg hm (C.glo _ (glo_ok hT).1) hN hk q1 (ih.e C hf).o (hE_form hf).1
              · cases q
            · cases q
        · cases q
      · cases q
    · cases q
  · split at q
    · rename_i hg0
      obtain ⟨g1, g2⟩ := glo_ok hg0
      obtain ⟨p1, p2, p3⟩ := plain_of g2
      split at q
      · rename_i e l he hw
        cases q
        obtain ⟨he, c1, c2⟩ := XD.hfn_ok he
        obtain ⟨f, m1, m2, m3⟩ := C.hfn _ _ he
        obtain ⟨w1, w2, w3, w4⟩ := ih.w C hw
        exact dxH_call (C.glo _ g1) m1 m2 m3 C.tk w1 w2 w3 (fun ρ a ha => (w4 ρ a ha).trans c1) p1
      · cases q
    · cases q
theorem hn_e (ih : Hn n) (C : CtH h k CM W X) {e : Expr} {r : Bool × XP} (q : hE (n + 1) h e = some r) : Rd2 X CM W e r := by
  have hu := C.room.un
  cases e with
  | Constant v kk p => simp only [hE] at q; exact sn_c q
  | Name x p => simp only [hE] at q; exact hot_n C q
  | BinOp a op b p =>
    cases op with
    | Add =>
      simp only [hE] at q
      split at q
      · rename_i ra rb hra hrb
        cases q
        exact dx_bn os_add (ih.e C hra).o (ih.e C hrb).o
      · cases q
    | _ => simp only [hE] at q; cases q
  | UnaryOp op a p =>
    cases op with
    | Not =>
      simp only [hE] at q
      split at q
      · rename_i ra hra; cases q; exact dx_not (ih.e C hra).o
      · cases q
    | _ => simp only [hE] at q; cases q
  | BoolOp op vs p =>
    simp only [hE] at q
    split at q
    · rename_i f hf; cases q; exact ih.v C hf
    · cases q
  | Compare a ops bs p =>
    cases ops with
    | nil => simp only [hE] at q; cases q
    | cons op ops =>
      cases ops with
      | cons _ _ => simp only [hE] at q; cases q
      | nil =>
        cases bs with
        | nil => simp only [hE] at q; cases q
        | cons b bs =>
          cases bs with
          | cons _ _ => simp only [hE] at q; cases q
          | nil =>
            simp only [hE] at q
            split at q
            · rename_i ra hra
              split at q
              · rename_i hn
                obtain ⟨kk, p, rfl⟩ := isNone_ok hn
                split at q
                · cases q; exact dx_isN (ih.e C hra).o
                · cases q; exact dx_notN (ih.e C hra).o
                · cases q
              · split at q
                · rename_i rb g hrb hg
                  split at q
                  · cases q
                  · rename_i hm
                    cases q
                    exact dx_cmp (cmpG_un (by omega) hg) (ih.e C hra).o (ih.e C hrb).o (nomark_of (by simpa using hm))
                · cases q
            · cases q
  | List es p =>
    simp only [hE] at q
    split at q
    · rename_i l hl; cases q; exact dx_lst (ih.l C hl)
    · cases q
  | Subscript a i p =>
    simp only [hE] at q
    split at q
    · cases q
    · split at q
      · rename_i hsl _ _ ra ri hra hri
        cases q
        exact do_idx (by omega) (ih.e C hra).o (ih.e C hri).o (plainIx (hE_form hri).2.1)
      · cases q
  | Attribute o m p =>
    cases o with
    | Name x px =>
      simp only [hE] at q
      split at q
      · split at q
        · rename_i i f hi hf
          cases q
          obtain ⟨v1, v2, v3, v4⟩ := C.var hi
          obtain ⟨f1, f2⟩ := HC.fld_ok hf
          obtain ⟨a', C', dx', oe', P⟩ := C.hot
          exact do_xat P C.xf f1 f2 v1 v2 v3 v4
        · cases q
      · cases q
    | _ => simp only [hE] at q; cases q
  | Call fn as ks p =>
    cases fn with
    | Name x px =>
      cases ks with
      | nil => simp only [hE] at q; exact ih.f C q
      | cons _ _ => simp only [hE] at q; cases q
    | _ => simp only [hE] at q; cases q
  | _ => simp only [hE] at q; cases q
theorem hn_v (ih : Hn n) (C : CtH h k CM W X) {op : BoolOp} {vs : List Expr} {f : XP} (q : hV (n + 1) h op vs = some f) : PE X (.BoolOp op vs pos) (tX CM W f) := by
  cases vs with
  | nil => simp only [hV] at q; cases q
  | cons a r =>
    cases r with
    | nil =>
      simp only [hV] at q
      split at q
      · rename_i r hr
        cases q
        exact pe_one (ih.e C hr).x
      · cases q
    | cons b r =>
      simp only [hV] at q
      split at q
      · rename_i ra fb hra hfb
        cases q
        cases op with
        | And => exact dx_and (ih.e C hra).o (ih.v C hfb)
        | Or => exact dx_or (ih.e C hra).o (ih.v C hfb)
      · cases q
theorem hn_l (ih : Hn n) (C : CtH h k CM W X) {es : List Expr} {l : XL} (q : hL (n + 1) h es = some l) : PA X es (tL CM W l) := by
  cases es with
  | nil => simp only [hL] at q; cases q; exact dl_nil
  | cons a r =>
    simp only [hL] at q
    split at q
    · cases q
    · split at q
      · rename_i ra ll hra hl
        cases q
        exact dl_cons (ih.e C hra).x (ih.l C hl) (se1 (hE_form hra).1)
      · cases q
theorem hn_r (ih : Hn n) (C : CtH h k CM W X) {e : Expr} {f : XP} (q : hR (n + 1) h e = some f) : PE X e (tOw CM W f) := by
  have gen : ∀ {e : Expr}, (match hE n h e with | some f => some (xE f) | none => none) = some f → PE X e (tOw CM W f) := fun {e} q => by
    split at q
    · rename_i r hr; cases q; exact (ih.e C hr).x.x_ow
    · cases q
  cases e <;> simp only [hR] at q <;> first | exact gen q | skip
  rename_i x p
  split at q
  · rename_i i hs
    cases q
    obtain ⟨v1, v2, v3, v4⟩ := C.var hs
    exact dow_var v1 v2 v3 v4
  · exact gen q
theorem hn_w (ih : Hn n) (C : CtH h k CM W X) {es : List Expr} {l : XL} (q : hW (n + 1) h es = some l) : PA X es (tLw CM W l) ∧ (∀ e ∈ es, ∀ v p, e ≠ .Starred v p) ∧ (es = [] → l = lnil) ∧ ∀ ρ a, l ρ = .val a → a.length = es.length := by
  cases es with
  | nil => simp only [hW] at q; cases q; exact ⟨dw_nil, (fun e he => nomatch he), fun _ => rfl, lnil_len⟩
  | cons a r =>
    simp only [hW] at q
    split at q
    · cases q
    · rename_i hst
      have hst' : isSt a = false := by
        cases a <;> first | rfl | exact absurd rfl hst
      split at q
      · rename_i f l' hf hl
        cases q
        obtain ⟨w1, w2, w3, w4⟩ := ih.w C hl
        refine ⟨dw_cons (ih.r C hf) w1 (se1 hst'), fun e he => ?_, (fun z => nomatch z), lcons_len w4⟩
        rcases List.mem_cons.mp he with z | z
        · subst z; exact notSt hst'
        · exact w2 e z
      · cases q
theorem hn : ∀ n : Nat, Hn n
  | 0 => hn0
  | n + 1 => by
    have ih := hn n
    exact ⟨fun C q => hn_e ih C q, fun C q => hn_v ih C q, fun C q => hn_f ih C q, fun C q => hn_l ih C q, fun C q => hn_w ih C q, fun C q => hn_r ih C q⟩
structure Ht (n : Nat) : Prop where
  t : ∀ {h : HC} {k : Nat} {CM : CMap} {W : WX} {X : Cx} {e : Expr} {t : XB}, CtH h k CM W X → hT n h e = some t → PT X e (tT CM W t)
  b : ∀ {h : HC} {k : Nat} {CM : CMap} {W : WX} {X : Cx} {op : BoolOp} {vs : List Expr} {pos : Pos} {t : XB}, CtH h k CM W X → hB n h op vs = some t → PW X (.BoolOp op vs pos) (tT CM W t)
theorem ht_b (ih : Ht n) (C : CtH h k CM W X) {op : BoolOp} {vs : List Expr} {t : XB} (q : hB (n + 1) h op vs = some t) : PW X (.BoolOp op vs pos) (tT CM W t) := by
  cases vs with
  | nil => simp only [hB] at q; cases q
  | cons a r =>
    cases r with
    | nil =>
      simp only [hB] at q
      cases op with
      | And => exact dw_and1 (ih.t C q)
      | Or => exact dw_or1 (ih.t C q)
    | cons b r =>
      simp only [hB] at q
      split at q
      · rename_i ra fb hra hfb
        cases q
        cases op with
        | And => exact dw_and (ih.t C hra) (ih.b C hfb)
        | Or => exact dw_or (ih.t C hra) (ih.b C hfb)
      · cases q
theorem ht_t (ih : Ht n) (C : CtH h k CM W X) {e : Expr} {t : XB} (q : hT (n + 1) h e = some t) : PT X e (tT CM W t) := by
  have hu := C.room.un
  have gen : ∀ {e : Expr}, (match hE n h e with | some f => some (tun D.truth f.2) | none => none) = some t → (∀ a p, e ≠ .UnaryOp .Not a p) → (∀ o vs p, e ≠ .BoolOp o vs p) → (∀ a b d p, e ≠ .Compare a b d p) → (∀ a b d p, e ≠ .IfExp a b d p) → PT X e (tT CM W t) := fun {e} q h1 h2 h3 h4 => by
    split at q
    · rename_i r hr; cases q; exact dt_tru ((hn n).e C hr).o (isTrue_of h1 h2 h3 h4)
    · cases q
  cases e with
  | UnaryOp op a p =>
    cases op with
    | Not =>
      simp only [hT] at q
      split at q
      · rename_i t' ht; cases q; exact dt_not (ih.t C ht)
      · cases q
    | _ => simp only [hT] at q; exact gen q (by simp) (by simp) (by simp) (by simp)
  | BoolOp op vs p => simp only [hT] at q; exact (ih.b C q).pt
  | Compare a ops bs p =>
    cases ops with
    | nil => simp only [hT] at q; cases q
    | cons op ops =>
      cases ops with
      | cons _ _ => simp only [hT] at q; cases q
      | nil =>
        cases bs with
        | nil => simp only [hT] at q; cases q
        | cons b bs =>
          cases bs with
          | cons _ _ => simp only [hT] at q; cases q
          | nil =>
            simp only [hT] at q
            split at q
            · rename_i ra hra
              split at q
              · rename_i hn'
                obtain ⟨kk, p, rfl⟩ := isNone_ok hn'
                split at q
                · cases q; exact dt_isN ((hn n).e C hra).o
                · cases q; exact dt_notN ((hn n).e C hra).o
                · cases q
              · split at q
                · rename_i rb g hrb hg
                  split at q
                  · cases q
                  · rename_i hm
                    cases q
                    exact dt_cmp (cmpG_un (by omega) hg) ((hn n).e C hra).o ((hn n).e C hrb).o (nomark_of (by simpa using hm))
                · cases q
            · cases q
  | IfExp a b d p => simp only [hT] at q; cases q
  | _ => simp only [hT] at q; exact gen q (by simp) (by simp) (by simp) (by simp)
theorem ht : ∀ n : Nat, Ht n
  | 0 => ⟨fun C q => by simp [hT] at q, fun C q => by simp [hB] at q⟩
  | n + 1 => by
    have ih := ht n
    exact ⟨fun C q => ht_t ih C q, fun C q => ht_b ih C q⟩
structure Hs (n : Nat) : Prop where
  s : ∀ {h : HC} {k : Nat} {CM : CMap} {W : WX} {X : Cx} {rb : List Nat} {st : Stmt}, CtH h k CM W X → PS X st (tS CM W rb (hS n h rb st))
  ss : ∀ {h : HC} {k : Nat} {CM : CMap} {W : WX} {X : Cx} {rb : List Nat} {sts : List Stmt}, CtH h k CM W X → PSs X sts (tS CM W rb (hSs n h rb sts))
theorem swH {e : Expr} {t : Option Expr} {l : Nat} {env : PySem.Env} (h : isComp e = false) : swapsWith e t l env = pure false := by
  cases e <;> first | rfl | cases h
theorem hs_s (ih : Hs n) (C : CtH h k CM W X) {st : Stmt} : PS X st (tS CM W rb (hS (n + 1) h rb st)) := by
  cases st with
  | If t as bs p =>
    simp only [hS]
    split
    · rename_i f hf; exact ds_if ((ht n).t C hf) (ih.ss C) (ih.ss C)
    · exact ds_never
  | Return o p =>
    cases o with
    | none => simp only [hS]; exact ds_retN
    | some e =>
      simp only [hS]
      split
      · rename_i f hf; exact ds_ret ((hn n).e C hf).x.x_m
      · exact ds_never
  | Assign tgs e p =>
    simp only [hS]
    unfold hAs
    split
    · rename_i y py
      split
      · rename_i i f hi hf
        split
        · rename_i hr
          obtain ⟨i1, i2, i3⟩ := lslot_ok hi
          have hl := C.lcl _ i1
          exact ds_set C.nd (by rw [C.eN]; exact i3) (.inl hl) (by simpa using hr) ((hn n).e C hf).x (swH (hE_form hf).2.2) (.inr hl)
        · exact ds_never
      · exact ds_never
    · exact ds_never
  | For tg it body els p =>
    simp only [hS]
    split
    · rename_i f i hfi
      unfold hFo at hfi
      split at hfi
      · rename_i y py x px a pc
        split at hfi
        · rename_i hc
          simp only [Bool.and_eq_true, beq_iff_eq] at hc
          obtain ⟨⟨hfo, hx⟩, hb⟩ := hc
          subst hx
          obtain ⟨b1', b2⟩ := isB_ok hb
          split at hfi
          · rename_i i f hi hf
            split at hfi
            · rename_i hr
              cases hfi
              obtain ⟨i1, i2, i3⟩ := lslot_ok hi
              have hl := C.lcl _ i1
              exact dsH_for (C.hp hfo) C.hot.hc (diH_rg1 (C.glo _ (glo_ok b1').1) (C.blt _ b2) ((hn n).e C hf).o (se1 (hE_form hf).1)) (dg_name C.nd (by rw [C.eN]; exact i3) (.inl hl) (by simpa using hr) (.inr hl)) (ih.ss C) (fun y => rfl)
            · cases hfi
          · cases hfi
        · cases hfi
      · cases hfi
    · exact ds_never
  | _ => simp only [hS]; exact ds_never
theorem hs_ss (ih : Hs n) (C : CtH h k CM W X) {sts : List Stmt} : PSs X sts (tS CM W rb (hSs (n + 1) h rb sts)) := by
  cases sts with
  | nil => simp only [hSs]; exact ds_nil
  | cons a r =>
    cases r with
    | nil => simp only [hSs]; exact ds_one (ih.s C)
    | cons b r => simp only [hSs]; exact ds_cons (ih.s C) (ih.ss C)
theorem hs : ∀ n : Nat, Hs n
  | 0 => ⟨fun C => by simp only [hS]; exact ds_never, fun C => by simp only [hSs]; exact dss_never⟩
  | n + 1 => ⟨fun C => hs_s (hs n) C, fun C => hs_ss (hs n) C⟩
end
end Lc
end
section
set_option Elab.async false
set_option linter.all false
set_option maxRecDepth 100000
set_option maxHeartbeats 4000000
/-! The translator is right: statements. -/
namespace Lc
open PySem PySem.Spec L2
/-- the context of statements -/
structure CtS (c : TC) (k : Nat) (CM : CMap) (W : WX) (X : Cx) : Prop where
  ct : Ct c k CM W X
  hp : PassesOwn (model X.prog X.w) X.A X.env X.xe
  cm : ∀ n o, c.tb.prp.get c.cls n = some o → ∃ C, CM c.cls = some C
  st : X.stack = X.env :: X.outer
  fr : X.env.frame = some X.env.locals
section
variable {n : Nat} {c : TC} {k : Nat} {CM : CMap} {W : WX} {X : Cx} {pos : Pos} {rb : List Nat}
theorem CtS.loc (C : CtS c k CM W X) {x : Str} {i : Nat} (h : c.oslot x = some i) : X.N[i]? = some x ∧ Loc X.env.scope x ∧ (X.fn x = true ∨ X.env.scope.names.lookup x = some .local) := C.ct.loc h
theorem CtS.var (C : CtS c k CM W X) {x : Str} {i : Nat} (h : c.slot x = some i) : X.N[i]? = some x ∧ Vis X.env.scope x ∧ (x == ("__debug__" : Str)) = false ∧ (x == ("__classdict__" : Str)) = false := by
  obtain ⟨h1, h2, h3⟩ := slot_ok h
  obtain ⟨p1, p2, p3⟩ := plain_of h2
  exact ⟨by rw [C.ct.eN]; exact h3, C.ct.vis _ h1, p1, p2⟩
theorem frzL_ok {st : Stmt} {f : XS} (h : PS X st (tS CM W rb f)) : ∀ xs : List Str, PS X st (tS CM W rb (frzL c xs f))
  | [] => h
  | x :: xs => by
    unfold frzL
    split
    · exact ds_frz (frzL_ok h xs)
    · exact frzL_ok h xs
theorem frzQ_ok {st : Stmt} {f : XS} (h : PS X st (tS CM W rb f)) : ∀ xs : List (Str × List Nat), PS X st (tS CM W rb (frzQ c xs f))
  | [] => h
  | (x, js) :: xs => by
    unfold frzQ
    split
    · exact ds_frzP (frzQ_ok h xs)
    · exact frzQ_ok h xs
theorem sw_no {e : Expr} {t : Option Expr} {l : Nat} {env : PySem.Env} (h : isComp e = false) : swapsWith e t l env = pure false := by
  cases e <;> first | rfl | cases h
theorem trE_comp {m : Nat} {e : Expr} {r : Bool × XP} (h : trE m c e = some r) : isComp e = true → ∃ a b d p, e = .ListComp a b d p := by
  cases m with
  | zero => simp [trE] at h
  | succ m => cases e <;> intro hh <;> first | exact ⟨_, _, _, _, rfl⟩ | (simp [trE] at h; done) | cases hh
/-- a target that is no name -/
theorem sw_tg {e t : Expr} {l : Nat} {env : PySem.Env} (h : ∀ x p, t ≠ .Name x p) : swapsWith e (some t) l env = pure false := by
  cases e <;> first | rfl | (cases t <;> first | rfl | exact absurd rfl (h _ _))
theorem sw_sole {e t : Expr} {l : Nat} {env : PySem.Env} (h : ∀ x p, t ≠ .Name x p) : swapsWithSole [t] e l env = pure false := by
  unfold swapsWithSole
  exact sw_tg h
theorem sw_cell {e : Expr} {y : Str} {py : Pos} {l : Nat} {env : PySem.Env} (h : env.scope.names.lookup y = some .cell) : swapsWith e (some (.Name y py)) l env = pure false := by
  have ky : env.kindOf y = some .cell := h
  have hb : (env.kindOf y == some .local) = false := by rw [ky]; rfl
  cases e <;> first | rfl | (unfold swapsWith; simp only [hb, Bool.and_false, Bool.false_and] <;> rfl)
theorem orN_ok {st : Stmt} {o : Option XS} (h : ∀ f, o = some f → PS X st (tS CM W rb f)) : PS X st (tS CM W rb (orN o)) := by
  cases o with
  | none => exact ds_never
  | some f => exact h f rfl
theorem isSt_of {e : Expr} {m : Nat} {r : Bool × XP} (h : trE m c e = some r) : isSt e = false := (trE_form h).1
theorem sn_it (C : Ct c k CM W X) {tg e : Expr} {it : XI2} (h : trIt n c tg e = some it) : PI X tg e (tIt CM W it) ∧ ∀ a b p, e ≠ .Set a b p := by
  have gen : ∀ {e : Expr}, trI n c e = some it → PI X tg e (tIt CM W it) ∧ ∀ a b p, e ≠ .Set a b p := fun h => ⟨((sn n).i C h).1 tg, ((sn n).i C h).2⟩
  unfold trIt at h
  split at h
  · split at h
    · rename_i hx
      obtain ⟨rfl, hb⟩ := hx
      obtain ⟨b1, b2⟩ := isB_ok hb
      split at h
      · rename_i f hf
        cases h
        exact ⟨di_enum (C.glo _ (glo_ok b1).1) (C.g.blt _ b2) ((sn n).e C hf).x (se1 (trE_form hf).1), by simp⟩
      · cases h
    · exact gen h
  · split at h
    · rename_i hx
      obtain ⟨rfl, hb⟩ := hx
      obtain ⟨b1, b2⟩ := isB_ok hb
      split at h
      · rename_i f g hf hg
        cases h
        exact ⟨di_zip (C.glo _ (glo_ok b1).1) (C.g.blt _ b2) ((sn n).e C hf).x ((sn n).e C hg).x (se1 (trE_form hf).1) (se1 (trE_form hg).1), by simp⟩
      · cases h
    · exact gen h
  · exact gen h
theorem sn_pt (C : Ct c k CM W X) {e : Expr} {i : Nat} {l : XL} : ∀ {m : Nat}, trPt m c e = some (i, l) → PE X e (tPt CM W i l) := by
  intro m
  induction m generalizing e i l with
  | zero => intro h; simp [trPt] at h
  | succ m ih =>
    intro h
    cases e with
    | Name x p =>
      simp only [trPt] at h
      split at h
      · rename_i j hj
        cases h
        obtain ⟨h1, h2, h3⟩ := slot_ok hj
        obtain ⟨p1, p2, p3⟩ := plain_of h2
        exact dp_name (by rw [C.eN]; exact h3) (C.vis _ h1) p1 p2
      · cases h
    | Subscript o kx p =>
      simp only [trPt] at h
      split at h
      · rename_i j l' f hp hf
        cases h
        exact dp_sub (ih hp) ((sn m).e C hf).o (plainIx (trE_form hf).2)
      · cases h
    | _ => simp only [trPt] at h; cases h
theorem sn_x (C : CtS c k CM W X) {e : Expr} {nf hot : List Str} {f : XS} (h : trX n ⟨c, rb, nf, hot⟩ pos e = some f) : PS X (.Expr e pos) (tS CM W rb f) := by
  unfold trX at h
  split at h
  · cases h; exact ds_doc
  · rename_i x p m ap as cp
    split at h
    · rename_i i hi
      obtain ⟨v1, v2, v3, v4⟩ := C.var hi
      split at h
      · rename_i hl
        split at h
        · split at h
          · rename_i r hr
            split at h
            · rename_i hm; subst hm; cases h
              exact frzL_ok (ds_append C.ct.calm v1 v2 v3 v4 ((sn n).e C.ct hr).x (isSt_of hr) hl) _
            · cases h
          · cases h
        · split at h
          · rename_i r hr
            split at h
            · rename_i hm; subst hm; cases h
              exact ds_extend C.ct.calm v1 v2 v3 v4 ((sn n).e C.ct hr).o (isSt_of hr) hl
            · cases h
          · cases h
        · split at h
          · rename_i r r2 hr hr2
            split at h
            · rename_i hm; subst hm; cases h
              exact frzL_ok (ds_insert C.ct.calm v1 v2 v3 v4 ((sn n).e C.ct hr).o ((sn n).e C.ct hr2).x (isSt_of hr) (isSt_of hr2) hl) _
            · cases h
          · cases h
        · split at h
          · rename_i hm; subst hm; cases h
            exact ds_clear C.ct.calm v1 v2 v3 v4 hl
          · cases h
        · cases h
      · cases h
    · cases h
  · rename_i o kx sp m ap a cp
    split at h
    · rename_i hl
      split at h
      · rename_i i l r hp hr
        split at h
        · rename_i hm; subst hm; cases h
          exact frzL_ok (ds_appendP (sn_pt C.ct hp) rfl ((sn n).e C.ct hr).x (isSt_of hr) hl) _
        · split at h
          · rename_i hm; subst hm; cases h
            exact ds_popAtP (sn_pt C.ct hp) rfl ((sn n).e C.ct hr).o (isSt_of hr) hl
          · cases h
      · cases h
    · cases h
  · rename_i cf as ks cp
    split at h
    · rename_i g hg; cases h
      exact ds_expr ((sn n).e C.ct hg).o (sw_no rfl)
    · cases h
  · cases h
theorem sn_a (C : CtS c k CM W X) {y : Str} {py : Pos} {e : Expr} {nf hot : List Str} {f : XS} (h : trA n ⟨c, rb, nf, hot⟩ pos y py e = some f) : PS X (.Assign [.Name y py] e pos) (tS CM W rb f) := by
  unfold trA at h
  split at h
  · rename_i i hi
    obtain ⟨l1, l2, l3⟩ := C.loc hi
    split at h
    · rename_i hr
      have hr' : i ∈ rb := by simpa using hr
      have gen : ∀ {e : Expr} {r : Bool × XP}, trE n c e = some r → isComp e = false → PS X (.Assign [.Name y py] e pos) (tS CM W rb (sSet i (xE r))) := fun {e r} hx hc => ds_set C.ct.nd l1 l2 hr' ((sn n).e C.ct hx).x (sw_no hc) l3
      split at h
      · rename_i elt gs scope cp
        split at h
        · cases h
        · rename_i hany
          have hany' : (scope.names.any fun (n, k) => n == y && (k == .local || k == .cell)) = false := by simpa using hany
          split at h
          · rename_i hcel
            split at h
            · rename_i g hg; cases h
              exact ds_set C.ct.nd l1 l2 hr' ((sn n).h C.ct hg).1 (sw_cell (C.ct.cel _ hcel).1) l3
            · cases h
          · split at h
            · rename_i hlc
              rw [Bool.and_eq_true] at hlc
              split at h
              · rename_i g hg; cases h
                have hls : c.lslot y = some i := by
                  unfold TC.lslot
                  unfold TC.oslot at hi
                  split at hi
                  · rename_i hh
                    rw [Bool.and_eq_true] at hh
                    rw [if_pos (by rw [hlc.1, hh.2]; rfl)]
                    exact hi
                  · cases hi
                exact ((sn n).h C.ct hg).2 rfl hls hr' hlc.2 hany'
              · cases h
            · cases h
      · rename_i x p m ap cp
        split at h
        · rename_i j hj
          split at h
          · rename_i hm
            subst hm
            split at h
            · rename_i hl
              cases h
              obtain ⟨v1, v2, v3, v4⟩ := C.var hj
              exact ds_pop C.ct.calm v1 v2 v3 v4 hl C.ct.nd l1 l2 hr' l3
            · cases h
          · split at h
            · rename_i r hx; cases h; exact gen hx rfl
            · cases h
        · split at h
          · rename_i r hx; cases h; exact gen hx rfl
          · cases h
      · rename_i hne1 hne2
        split at h
        · rename_i r hx; cases h
          refine frzL_ok (gen hx ?_) _
          cases hc : isComp e with
          | false => rfl
          | true =>
            obtain ⟨a, b, d, p, rfl⟩ := trE_comp hx hc
            exact absurd rfl (hne1 a b d p)
        · cases h
    · cases h
  · cases h
theorem nm_no {a : Expr} (h : isNm a = true) : foldedForSure 8 a = false ∧ constantsAlone 8 a = false := by
  cases a with
  | Name x p =>
    refine ⟨rfl, ?_⟩
    show (x == ("__debug__" : Str)) = false
    have h' : (!(x == ("__debug__" : Str))) = true := h
    simpa using h'
  | _ => cases h
theorem swapped_par {x y : Str} {px py pt p2 : Pos} {kt k2 : Nat} {a b : Expr} {env : PySem.Env} (hb : env.blockKind = .function) (hx : env.kindOf x = some .local) (hy : env.kindOf y = some .local) (ne : x ≠ y) (hl : px.line = py.line)
    (sa : isSt a = false) (sb : isSt b = false) (hn : (isNm a || isNm b) = true) : swappedStores [.Tuple [.Name x px, .Name y py] kt pt] (.Tuple [a, b] k2 p2) env = pure (some [x, y]) := by
  have e1 : [a, b].any (fun | .Starred .. => true | _ => false) = false := by
    have h1 : ∀ z : Expr, isSt z = false → (match z with | .Starred .. => true | _ => false) = false := fun z hz => by cases z <;> first | rfl | cases hz
    show (_ || (_ || false)) = false
    exact Bool.or_eq_false_iff.mpr ⟨h1 a sa, Bool.or_eq_false_iff.mpr ⟨h1 b sb, rfl⟩⟩
  have e2 : [a, b].all (foldedForSure 8) = false ∧ [a, b].all (constantsAlone 8) = false := by
    rw [Bool.or_eq_true] at hn
    rcases hn with h | h
    · obtain ⟨h1, h2⟩ := nm_no h
      simp [h1, h2]
    · obtain ⟨h1, h2⟩ := nm_no h
      simp [h1, h2]
  have e3 : ([x, y].eraseDups).length = 2 := by
    have : (y == x) = false := by simpa using Ne.symm ne
    simp [List.eraseDups_cons, this]
  have e4 : ([Expr.Name x px, Expr.Name y py].filterMap fun
    | .Name id pos => if env.kindOf id == some .local && pos.line == px.line then some id else none
    | _ => none) = [x, y] := by
    simp [hx, hy, hl]
  unfold swappedStores
  show (if _ then _ else if _ then _ else if _ then _ else if _ then _ else if _ then _ else _) = _
  refine (if_neg (fun h => ?_)).trans ((if_neg (fun h => ?_)).trans ((if_neg (fun h => ?_)).trans ((if_neg (fun h => ?_)).trans ((if_neg (fun h => ?_)).trans ?_))))
  · have h' : (env.blockKind != ScopeKind.function) = true := h
    rw [hb] at h'; cases h'
  · exact Bool.false_ne_true (e1.symm.trans h)
  · have h' : (([Expr.Name x px, Expr.Name y py].filterMap fun
      | .Name id pos => if env.kindOf id == some .local && pos.line == px.line then some id else none
      | _ => none).length != 2 || ([Expr.Name x px, Expr.Name y py].filterMap fun
      | .Name id pos => if env.kindOf id == some .local && pos.line == px.line then some id else none
      | _ => none).eraseDups.length != ([Expr.Name x px, Expr.Name y py].filterMap fun
      | .Name id pos => if env.kindOf id == some .local && pos.line == px.line then some id else none
      | _ => none).length) = true := h
    rw [e4, e3] at h'
    cases h'
  · exact Bool.false_ne_true (e2.1.symm.trans h)
  · exact Bool.false_ne_true (e2.2.symm.trans h)
  · exact congrArg (fun z => (pure (some z) : Sem (Option (List Str)))) e4
theorem sn_par (C : CtS c k CM W X) {nf hot : List Str} {es : List Expr} {kk : Nat} {tp : Pos} {e : Expr} : PS X (.Assign [.Tuple es kk tp] e pos) (tS CM W rb (trPar n ⟨c, rb, nf, hot⟩ es e)) := by
  unfold trPar
  split
  · rename_i x px y py a b k2 p2
    split
    · rename_i i j l hi hj hl
      split
      · rename_i hh
        obtain ⟨h1, h2, h3, h4, h5, h6⟩ := hh
        obtain ⟨i1, i2, i3⟩ := lslot_ok hi
        obtain ⟨j1, j2, j3⟩ := lslot_ok hj
        have sts : isSt a = false ∧ isSt b = false := by
          cases n with
          | zero => simp [trL] at hl
          | succ n =>
            simp only [trL] at hl
            split at hl
            · cases hl
            · rename_i sa
              refine ⟨by cases a <;> first | rfl | exact absurd rfl sa, ?_⟩
              split at hl
              · rename_i f l' hf hl'
                cases n with
                | zero => simp [trE] at hf
                | succ n =>
                  simp only [trL] at hl'
                  split at hl'
                  · cases hl'
                  · rename_i sb
                    cases b <;> first | rfl | exact absurd rfl sb
              · cases hl
        exact frzL_ok (ds_par C.ct.calm C.ct.nd (by rw [C.ct.eN]; exact i3) (by rw [C.ct.eN]; exact j3) h1 h2 h3 (C.ct.lcl _ i1) (C.ct.lcl _ j1) ((sn n).l C.ct hl) (swapped_par (by unfold PySem.Env.blockKind; rw [C.ct.kind]; rfl) (C.ct.lcl _ i1) (C.ct.lcl _ j1) h4 h5 sts.1 sts.2 h6)) _
      · exact ds_never
    · exact ds_never
  · exact ds_never
theorem own_ok (C : CtS c k CM W X) {m : Str} {s : String} (h : c.own m = some s) : m = Str.ofString s ∧ ∃ D, CM c.cls = some D ∧ Cls X.K D ∧ NoAttr X.K D m := by
  unfold TC.own at h
  split at h
  · rename_i n hf
    split at h
    · rename_i hg
      split at h
      · rename_i hm
        cases h
        obtain ⟨D, hD⟩ := C.cm _ _ hg
        obtain ⟨g1, g2⟩ := C.ct.g.prp _ _ _ hg D hD
        exact ⟨hm, D, hD, g1, by rw [hm]; exact g2⟩
      · cases h
    · cases h
  · cases h
/-- within a try's body -/
theorem CtS.tr (C : CtS c k CM W X) {pn : List (Addr × Obj)} {xe : Value → Shared → Prop} {W' : WX} (tk : L2N.Takes (X.tr pn xe) W') (hp : PassesOwn (model X.prog X.w) X.A X.env xe) : CtS c k CM W' (X.tr pn xe) := by
  refine ⟨⟨C.ct.calm, C.ct.nd, C.ct.eN, C.ct.vis, C.ct.lcl, C.ct.glo, C.ct.cel, C.ct.kind, C.ct.blk, C.ct.room, tk, C.ct.g⟩, hp, C.cm, C.st, C.fr⟩
/-- within a suite -/
theorem CtS.suite (C : CtS c k CM W X) (nx : CMx CM) {a C0 dx : Addr} {oe : Obj} {pn : List (Addr × Obj)} {cn : String} {xs : List Str} (hC : CM cn = some C0) (hall : c.tb.xd.all.contains cn = true) (hz : L2N.Zn (.ref C0) (some dx) oe) (hf : ∃ vs, oe.data = .fields vs) :
    CtH ⟨c, xs, false⟩ k (cmX CM a C0 dx) W0 (X.suite a ((a, oe) :: pn)) := by
  have G := C.ct.g
  have XC : XcC X.K C0 := (G.x.xf.cls cn hall C0 hC).1
  have hot : L2H.Hot1 (X.A.mark (some (.ref a))) (a, oe) := by
    obtain ⟨vs, hv⟩ := hf
    exact ⟨rfl, vs, hv, hz.2.2 vs hv⟩
  have dn : ∀ {s : String} {A : Addr}, c.tb.xd.all.contains s = true → cmX CM a C0 dx s = some A → CM s = some A := fun {s A} h e => by
    rw [cmX_dn (G.x.al s h)] at e
    exact e
  refine ⟨C.ct.nd, C.ct.eN, C.ct.vis, C.ct.lcl, C.ct.glo, ⟨a, C0, dx, oe, rfl, rfl, rfl, hot, List.mem_cons_self, hz, hf, XC⟩, ⟨C.ct.room.dp, C.ct.room.un⟩, takes_W0, fun x d e => ?_, G.blt, ⟨fun s h A e => G.x.xf.cls s h A (dn h e)⟩, fun T subs e => ?_, fun x e he => ?_, fun z => nomatch z⟩
  · obtain ⟨u, v, e1, e2, e3⟩ := G.con x d e
    exact ⟨u, v, e1, e2, fun F => Rep.up (cmX_up nx) _ _ (e3 F)⟩
  · obtain ⟨c0, v0, h1, h2⟩ := G.x.xi T subs e
    exact ⟨c0, v0, h1, fun s A h e => h2 s A h (dn h e)⟩
  · obtain ⟨f, fd, ps, h1, h2, h3, h4, h5⟩ := G.x.hfn x e he
    refine ⟨f, h1, h2, ?_⟩
    rw [← h4]
    exact runAt_of (X := X.suite a ((a, oe) :: pn)) (h5 a C0 dx oe XC hz hf) h3 ⟨by have := C.ct.room.dp; show X.A.depth + 3 * k + 5 < _; omega, by have := C.ct.room.un; show X.A.units + 16 * k + 200 < _; omega⟩ hot List.mem_cons_self
theorem trL_ns : ∀ {n : Nat} {es : List Expr} {l : XL}, trL n c es = some l → ∀ e ∈ es, ∀ v p, e ≠ .Starred v p
  | 0, es, l, h => by simp [trL] at h
  | n + 1, [], l, h => fun e he => nomatch he
  | n + 1, a :: r, l, h => by
    simp only [trL] at h
    split at h
    · cases h
    · rename_i hst
      split at h
      · rename_i f l' hf hl
        intro e he v p z
        rcases List.mem_cons.mp he with y | y
        · subst y; subst z; exact hst rfl
        · exact trL_ns hl e y v p z
      · cases h
theorem sm_raise {nf hot : List Str} {o cs : Option Expr} (C : CtS c k CM W X) : PS X (.Raise o cs pos) (tS CM W rb (trRaise n ⟨c, rb, nf, hot⟩ o cs)) := by
  unfold trRaise
  split
  · rename_i x px e es p2
    split
    · rename_i hg0
      obtain ⟨g1, g2⟩ := glo_ok hg0
      obtain ⟨p1, p2, p3⟩ := plain_of g2
      split
      · rename_i cn kk ns l he hl
        obtain ⟨C0, h1, h2, h3⟩ := C.ct.g.x.exs _ _ _ _ he
        have nst := trL_ns hl
        refine frzL_ok (ds_raise C.ct.calm C.ct.tk h1 h3 C.ct.room (C.ct.glo _ g1) h2 ((sn n).l C.ct hl) p1 (se1 ?_) (noStar_any fun e he => nst e (List.mem_cons_of_mem _ he))) _
        cases e <;> first | rfl | exact absurd rfl (nst _ List.mem_cons_self _ _)
      · exact ds_never
    · exact ds_never
  · exact ds_never
structure Sm (n : Nat) : Prop where
  s : ∀ {c : TC} {k : Nat} {CM : CMap} {W : WX} {X : Cx} {rb : List Nat} {nf hot : List Str} {st : Stmt}, CtS c k CM W X → PS X st (tS CM W rb (trS n ⟨c, rb, nf, hot⟩ st))
  ss : ∀ {c : TC} {k : Nat} {CM : CMap} {W : WX} {X : Cx} {rb : List Nat} {nf hot : List Str} {sts : List Stmt}, CtS c k CM W X → PSs X sts (tS CM W rb (trSs n ⟨c, rb, nf, hot⟩ sts))
theorem sm_ss (ih : Sm n) {nf hot : List Str} {sts : List Stmt} (C : CtS c k CM W X) : PSs X sts (tS CM W rb (trSs (n + 1) ⟨c, rb, nf, hot⟩ sts)) := by
  cases sts with
  | nil => simp only [trSs]; exact ds_nil
  | cons a r =>
    cases r with
    | nil => simp only [trSs]; exact ds_one (ih.s C)
    | cons b r => simp only [trSs]; exact ds_cons (ih.s C) (ih.ss C)
theorem sm_for (ih : Sm n) {nf hot : List Str} {tg it : Expr} {body : List Stmt} (C : CtS c k CM W X) : PS X (.For tg it body [] pos) (tS CM W rb (trS (n + 1) ⟨c, rb, nf, hot⟩ (.For tg it body [] pos))) := by
  have gen : ∀ {it : Expr}, PS X (.For tg it body [] pos) (tS CM W rb (match trG n c rb tg, trI n c it with | some g, some f => sFor f g (trSs n ⟨c, rb, nf, hot⟩ body) | _, _ => sNever)) := fun {it} => by
    split
    · rename_i g f hg hf
      obtain ⟨i1, i2⟩ := (sn n).i C.ct hf
      exact ds_for C.hp C.ct.calm (i1 tg) ((sn n).g C.ct hg).1 (ih.ss C) (fold_of i2)
    · exact ds_never
  have gen2 : ∀ {it : Expr}, PS X (.For tg it body [] pos) (tS CM W rb (match trG n c rb tg, trIt n c tg it with | some g, some f => frzL c (itN it) (sFor f g (trSs n ⟨c, rb, nf, hot⟩ body)) | _, _ => sNever)) := fun {it} => by
    split
    · rename_i g f hg hf
      obtain ⟨i1, i2⟩ := sn_it C.ct hf
      exact frzL_ok (ds_for C.hp C.ct.calm i1 ((sn n).g C.ct hg).1 (ih.ss C) (fold_of i2)) _
    · exact ds_never
  simp only [trS]
  split
  · rename_i x p
    split
    · rename_i i hi
      obtain ⟨v1, v2, v3, v4⟩ := C.var hi
      split
      · split
        · rename_i g hg
          exact ds_forN C.hp C.ct.calm v1 v2 v3 v4 ((sn n).g C.ct hg).1 (ih.ss C) (fun j hj => (List.mem_filter.mp hj).1) (fun h => by simpa using (List.mem_filter.mp h).2) (fun y => rfl)
        · exact ds_never
      · split
        · rename_i g hg
          exact ds_frz (ds_for C.hp C.ct.calm (di_seq (dx_var v1 v2 v3 v4).o_x) ((sn n).g C.ct hg).1 (ih.ss C) (fun y => rfl))
        · exact ds_never
    · exact gen
  · exact gen2
theorem sm_try (ih : Sm n) {nf hot : List Str} {body els fin : List Stmt} {hds : List ExceptHandler} (C : CtS c k CM W X) : PS X (.Try body hds els fin pos) (tS CM W rb (trS (n + 1) ⟨c, rb, nf, hot⟩ (.Try body hds els fin pos))) := by
  simp only [trS]
  unfold trTry
  split
  · rename_i T pT nm b0 suite pc
    split
    · rename_i hg0
      obtain ⟨g1, g2⟩ := glo_ok hg0
      obtain ⟨p1, p2, p3⟩ := plain_of g2
      split
      · rename_i subs i hs hi
        split
        · rename_i hr
          obtain ⟨i1, i2, i3⟩ := lslot_ok hi
          obtain ⟨c0, h1, h2⟩ := C.ct.g.x.xh _ _ hs
          have nx : CMx CM := C.ct.g.x.nx fun z => by rw [z] at hs; cases hs
          exact ds_try C.st C.fr C.ct.nd (by rw [C.ct.eN]; exact i3) (C.ct.lcl _ i1) (by simpa using hr) ⟨C.ct.glo _ g1, p1, .inl h1⟩ C.ct.tk nx (fun cn C0 e1 e2 => h2 cn C0 e2 e1) (fun W' pn xe tk hp => ih.ss (C.tr tk hp)) fun a oe C0 dx pn cn hC hall hz hf => (Lc.hs n).ss (C.suite nx hC hall hz hf)
        · exact ds_never
      · exact ds_never
    · exact ds_never
  · exact ds_never
theorem sm_asg {nf hot : List Str} {tg e : Expr} (C : CtS c k CM W X) : PS X (.Assign [tg] e pos) (tS CM W rb (trAs n ⟨c, rb, nf, hot⟩ pos [tg] e)) := by
  show PS X _ (tS CM W rb (trAs1 n ⟨c, rb, nf, hot⟩ pos e tg))
  cases tg with
  | Name y py => simp only [trAs1]; exact orN_ok fun f hf => sn_a C hf
  | Subscript o kx sp =>
    cases o with
    | Name x p =>
      simp only [trAs1]
      split
      · rename_i i f g hi hf hg
        obtain ⟨v1, v2, v3, v4⟩ := C.var hi
        have hu := C.ct.room.un
        exact frzQ_ok (frzL_ok (ds_put (by omega) v1 v2 v3 v4 ((sn n).e C.ct hf).o ((sn n).e C.ct hg).x (trE_form hf).2 (sw_sole (fun _ _ z => nomatch z)) (by cases e <;> rfl)) _) _
      · exact ds_never
    | Subscript o0 k0 p0 =>
      simp only [trAs1]
      split
      · rename_i i l f g hp hf hg
        have hu := C.ct.room.un
        exact frzL_ok (ds_putP (by omega) (sn_pt C.ct hp) ((sn n).e C.ct hf).o ((sn n).e C.ct hg).x (trE_form hf).2 (sw_sole (fun _ _ z => nomatch z)) (by cases e <;> rfl)) _
      · exact ds_never
    | _ => simp only [trAs1]; exact ds_never
  | Attribute o m sp =>
    cases o with
    | Name x p =>
      simp only [trAs1]
      split
      · rename_i i f g hi hf hg
        obtain ⟨v1, v2, v3, v4⟩ := C.var hi
        obtain ⟨o1, D, o2, o3, o4⟩ := own_ok C hf
        exact frzL_ok (ds_fld v1 v2 v3 v4 o1 o2 o3 o4 ((sn n).e C.ct hg).x (sw_tg (fun _ _ z => nomatch z))) _
      · exact ds_never
    | _ => simp only [trAs1]; exact ds_never
  | Tuple es kk tp =>
    simp only [trAs1]
    split
    · exact sn_par C
    · rename_i ht
      split
      · rename_i g f hg hf
        refine ds_asg ((sn n).e C.ct hf).x ((sn n).g C.ct hg).1 (sw_sole (fun _ _ z => nomatch z)) ?_ rfl
        cases e <;> first | rfl | exact absurd rfl ht
      · exact ds_never
  | _ => simp only [trAs1]; exact ds_never
theorem sm_ret {nf hot : List Str} {o : Option Expr} (C : CtS c k CM W X) : PS X (.Return o pos) (tS CM W rb (trRet n ⟨c, rb, nf, hot⟩ o)) := by
  cases o with
  | none => simp only [trRet]; exact ds_retN
  | some e =>
    have gen : ∀ {e : Expr}, PS X (.Return (some e) pos) (tS CM W rb (match trE n c e with | some f => frzL c (kept hot n e) (sRet (xE f)) | none => sNever)) := fun {e} => by
      split
      · rename_i f hf; exact frzL_ok (ds_ret ((sn n).e C.ct hf).x.x_m) _
      · exact ds_never
    cases e <;> simp only [trRet] <;> first | exact gen | skip
    rename_i x p
    split
    · rename_i i hi
      obtain ⟨v1, v2, v3, v4⟩ := C.var hi
      exact ds_ret (dm_var v1 v2 v3 v4)
    · split
      · rename_i f hf; exact ds_ret ((sn n).e C.ct hf).x.x_m
      · exact ds_never
theorem sm_aug {nf hot : List Str} {tg e : Expr} {op : Operator} (C : CtS c k CM W X) : PS X (.AugAssign tg op e pos) (tS CM W rb (trAug n ⟨c, rb, nf, hot⟩ tg op e)) := by
  unfold trAug
  split
  · split
    · rename_i i hi
      split
      · rename_i hr
        split
        · rename_i f hf
          obtain ⟨l1, l2, l3⟩ := C.loc hi
          exact ds_aug C.ct.nd l1 l2 (by simpa using hr) ((sn n).e C.ct hf).o l3
        · exact ds_never
      · exact ds_never
    · exact ds_never
  · exact ds_never
theorem sm : ∀ n : Nat, Sm n
  | 0 => ⟨fun C => by simp only [trS]; exact ds_never, fun C => by simp only [trSs]; exact dss_never⟩
  | n + 1 => by
    have ih := sm n
    refine ⟨fun {c k CM W X rb nf hot st} C => ?_, fun C => sm_ss ih C⟩
    cases st with
    | Pass p => simp only [trS]; exact ds_pass
    | Break p => simp only [trS]; exact ds_break
    | Continue p => simp only [trS]; exact ds_continue
    | Expr e p => simp only [trS]; exact orN_ok fun f hf => sn_x C hf
    | If t as bs p =>
      simp only [trS]
      split
      · rename_i f hf; exact ds_if ((sn n).t C.ct hf) (ih.ss C) (ih.ss C)
      · exact ds_never
    | While t body els p =>
      cases els with
      | nil =>
        simp only [trS]
        split
        · rename_i f hf; exact ds_while C.hp ((sn n).t C.ct hf) (ih.ss C)
        · exact ds_never
      | cons _ _ => simp only [trS]; exact ds_never
    | For tg it body els p =>
      cases els with
      | nil => exact sm_for ih C
      | cons _ _ => simp only [trS]; exact ds_never
    | Return o p => simp only [trS]; exact sm_ret C
    | Assign tgs e p =>
      simp only [trS]
      cases tgs with
      | nil => exact ds_never
      | cons tg r =>
        cases r with
        | nil => exact sm_asg C
        | cons _ _ => exact ds_never
    | AugAssign tg op e p =>
      simp only [trS]
      exact sm_aug C
    | Raise o cs p => simp only [trS]; exact sm_raise C
    | Try body hds els fin p => exact sm_try ih C
    | _ => simp only [trS]; exact ds_never
end
end Lc
end
section
set_option Elab.async false
set_option linter.all false
set_option maxRecDepth 100000
set_option maxHeartbeats 2000000
/-! The head: facts read off the heap behind the top; the frame without lists. -/
namespace Lc
open PySem PySem.Spec PyProof.Rows L2
/-! ### the frame -/
def lstObj : Obj → Bool
  | ⟨.type c, _, _, _⟩ => c == "list"
  | _ => false
def frL (g : Addr → Option Obj) (as : List Addr) : PySem.W.Frag := (He.frG g as).filter fun q => !lstObj q.2
theorem frG_mem {g : Addr → Option Obj} {as : List Addr} {a : Addr} {o : Obj} (h : (a, o) ∈ He.frG g as) : g a = some o := by
  unfold He.frG at h
  obtain ⟨b, _, e⟩ := List.mem_filterMap.mp h
  cases hb : g b with
  | none => rw [hb] at e; cases e
  | some u => rw [hb] at e; cases e; exact hb
theorem frag_mem {a : Addr} {o : Obj} : ∀ {l : List (Addr × Obj)}, l.lookup a = some o → (a, o) ∈ l
  | [], h => by cases h
  | (b, u) :: r, h => by
    unfold List.lookup at h
    split at h
    · rename_i q
      have : a = b := by simpa using q
      subst this
      cases h
      exact List.mem_cons_self
    · exact List.mem_cons_of_mem _ (frag_mem h)
theorem frL_mem {g : Addr → Option Obj} {as : List Addr} {a : Addr} {o : Obj} (h : (frL g as).lookup a = some o) : g a = some o ∧ lstObj o = false := by
  obtain ⟨h1, h2⟩ := List.mem_filter.mp (frag_mem h)
  exact ⟨frG_mem h1, by simpa using h2⟩
theorem frL_in {as : List Addr} {h : Heap} : (frL h.get? as).In h := fun _ _ e => (frL_mem e).1
/-- no list in it -/
def NoLst (K : PySem.W.Frag) : Prop := ∀ a o, K.lookup a = some o → lstObj o = false
/-! ### defs by address -/
structure DefA where
  adr : PySem.W.Frag → Addr
  name : Str
  qual : Str
  params : Arguments
  body : List Stmt
  scope : Scope
  dfl : List He.Dv := []
  kwd : List (Str × He.Dv) := []
  /-- its cells are not observed -/
  clo : Bool := false
/-- a def as it is observed, without its cells -/
def fnC (K : PySem.W.Frag) (a : Addr) : He.FnW := match K.lookup a with
  | some ⟨_, _, .func fd, _⟩ => some (fd.name, fd.qualname, fd.params, fd.body, fd.scope, fd.globals, [], fd.builtins)
  | _ => none
def fnA (K : PySem.W.Frag) (a : Addr) : He.FnW := match K.lookup a with
  | some ⟨_, _, .func fd, _⟩ => some (fd.name, fd.qualname, fd.params, fd.body, fd.scope, fd.globals, fd.closure, fd.builtins)
  | _ => none
def DefA.obs (K : PySem.W.Frag) (d : DefA) : He.FnW := if d.clo = true then fnC K (d.adr K) else fnA K (d.adr K)
def DefA.val (d : DefA) : He.FnW := some (d.name, d.qual, d.params, .stmts d.body, d.scope, mainGlobals, [], builtinsNs)
def DefA.dvs (K : PySem.W.Frag) (d : DefA) : List V := d.dfl.map (He.Dv.v K)
def DefA.kws (K : PySem.W.Frag) (d : DefA) : List (Str × V) := d.kwd.map fun q => (q.1, q.2.v K)
def DefA.ok (K : PySem.W.Frag) (d : DefA) : Bool := PySem.W.keepIn K (.ref (d.adr K)) && (match K.lookup (d.adr K) with
  | some ⟨_, _, .func fd, _⟩ => PySem.W.codeIn K fd.code d.qual && (He.dflB K fd.defaults (d.dvs K) && He.kwdB K fd.kwdefaults (d.kws K))
  | _ => false)
abbrev DefA.FD (K : PySem.W.Frag) (d : DefA) (fd : FuncData) : Prop := FunD K d.name d.qual d.params d.body d.scope (d.dvs K) (d.kws K) (d.adr K) fd
theorem DefA.funD {K : PySem.W.Frag} {d : DefA} (e : fnA K (d.adr K) = d.val) (c : d.ok K = true) : ∃ fd, d.FD K fd := by
  obtain ⟨kp, c2⟩ := He.ba c
  unfold fnA at e
  cases q : K.lookup (d.adr K) with
  | none => rw [q] at c2; cases c2
  | some o =>
    obtain ⟨oc, od, dt, osl⟩ := o
    rw [q] at c2 e
    cases dt with
    | func fd =>
      obtain ⟨n1, n2, n3, n4, n5, n6, n7, n8, n9, n10, n11, n12, n13, n14, n15⟩ := fd
      have e2 : (some (n1, n2, n3, n4, n5, n6, n7, n15) : He.FnW) = some (d.name, d.qual, d.params, .stmts d.body, d.scope, mainGlobals, [], builtinsNs) := e
      simp only [Option.some.injEq, Prod.mk.injEq] at e2
      obtain ⟨h1, h2, h3, h4, h5, h6, h7, h8⟩ := e2
      subst h1 h2 h3 h4 h5 h6 h7 h8
      have c3 : (PySem.W.codeIn K n13 d.qual && (He.dflB K n8 (d.dvs K) && He.kwdB K n9 (d.kws K))) = true := c2
      obtain ⟨k1, k2⟩ := He.ba c3
      obtain ⟨k3, k4⟩ := He.ba k2
      exact ⟨_, ⟨oc, od, n8, n9, n10, n11, n12, n13, n14, osl, rfl, q, k1, He.dflB_ok k3, He.kwdB_ok k4⟩, kp⟩
    | _ => cases c2
/-! ### properties -/
def padr (x f : Str) (K : PySem.W.Frag) : Addr := match PySem.W.findIn K (.ref (He.ga K x)) f with
  | some (some (.ref p)) => p
  | _ => 0
def gadr (x f : Str) (K : PySem.W.Frag) : Addr := match PySem.W.recIn K (padr x f K) "property" with
  | some (.ref g :: _) => g
  | _ => 0
def propB (x f : Str) (K : PySem.W.Frag) : Bool := He.eqO (PySem.W.findIn K (.ref (He.ga K x)) f) (some (some (.ref (padr x f K)))) && (He.eqO (PySem.W.specialIn K (.ref (padr x f K)) "__get__") (some (some (.builtin "property.__get__"))) &&
  (decide (PySem.W.takesIn K (.ref (padr x f K)) = some true) && (match PySem.W.recIn K (padr x f K) "property" with
    | some (.ref _ :: _) => true
    | _ => false)))
theorem prop_ok {x f : Str} {K : PySem.W.Frag} (h : propB x f K = true) : PropOf K (He.ga K x) f (padr x f K) (gadr x f K) := by
  obtain ⟨h1, h⟩ := He.ba h
  obtain ⟨h2, h⟩ := He.ba h
  obtain ⟨h3, h4⟩ := He.ba h
  refine ⟨He.eqO_ok h1, He.eqO_ok h2, of_decide_eq_true h3, ?_⟩
  unfold gadr
  split at h4
  · rename_i g r e
    rw [e]
    exact ⟨r, rfl⟩
  · cases h4
def fadr (x : Str) (K : PySem.W.Frag) : Addr := He.ga K x
def madr (x m : Str) (K : PySem.W.Frag) : Addr := He.ma K (He.ga K x) m
/-! ### the Hook -/
abbrev AlA : Type := Bool × List He.FnW
def obsA (fa : List He.Fa) (fn : List DefA) (ex : PySem.W.Frag → Bool) (K : PySem.W.Frag) : AlA := ((fa.all fun f => f.ok K) && ((fn.all fun d => d.ok K) && ex K), fn.map (DefA.obs K))
def valA (fn : List DefA) : AlA := (true, fn.map DefA.val)
structure SaysA (fa : List He.Fa) (fn : List DefA) (ex : PySem.W.Frag → Bool) (K : PySem.W.Frag) : Prop where
  e : obsA fa fn ex K = valA fn
  nl : NoLst K
def obsAG (n : Nat) (fa : List He.Fa) (fn : List DefA) (ex : PySem.W.Frag → Bool) (g : Addr → Option Obj) : AlA := obsA fa fn ex (frL g (He.asD g n ++ [cStatics]))
def hookA (n : Nat) (fa : List He.Fa) (fn : List DefA) (ex : PySem.W.Frag → Bool) : PySem.W.Hook where
  α := AlA
  obs := fun s => obsAG n fa fn ex s.heap.get?
  val := fun _ => valA fn
  says := fun _ h => ∃ K : PySem.W.Frag, K.In h ∧ SaysA fa fn ex K
  of := fun _ _ e => ⟨_, frL_in, e, fun _ _ z => (frL_mem z).2⟩
  keeps := fun _ _ _ ⟨K, hK, c⟩ k => ⟨K, PySem.W.Frag.In.keeps hK k, c⟩
theorem obsAG_eq {n : Nat} {fa : List He.Fa} {fn : List DefA} {ex : PySem.W.Frag → Bool} {g : Addr → Option Obj} {s : Shared} (h : ∀ a, g a = s.heap.get? a) : obsAG n fa fn ex g = (hookA n fa fn ex).obs s := by
  have e : g = s.heap.get? := funext h
  rw [e] <;> rfl
section
variable {fa : List He.Fa} {fn : List DefA} {ex : PySem.W.Frag → Bool} {K : PySem.W.Frag}
theorem SaysA.facts (c : SaysA fa fn ex K) : ∀ f ∈ fa, f.ok K = true := by
  have := congrArg (fun z : AlA => z.1) c.e
  obtain ⟨h1, h2⟩ := He.ba (show ((fa.all fun f => f.ok K) && ((fn.all fun d => d.ok K) && ex K)) = true from this)
  exact List.all_eq_true.mp h1
theorem SaysA.more (c : SaysA fa fn ex K) : ex K = true := by
  have := congrArg (fun z : AlA => z.1) c.e
  obtain ⟨h1, h2⟩ := He.ba (show ((fa.all fun f => f.ok K) && ((fn.all fun d => d.ok K) && ex K)) = true from this)
  exact (He.ba h2).2
theorem SaysA.fact (c : SaysA fa fn ex K) (i : Nat) {f : He.Fa} (h : fa[i]? = some f := by rfl) : f.ok K = true := c.facts f (List.mem_of_getElem? h)
theorem SaysA.defO (c : SaysA fa fn ex K) (i : Nat) {d : DefA} (h : fn[i]? = some d := by rfl) : d.obs K = d.val := by
  have e : fn.map (DefA.obs K) = fn.map DefA.val := congrArg (fun z : AlA => z.2) c.e
  have e2 : (fn.map (DefA.obs K))[i]? = (fn.map DefA.val)[i]? := by rw [e]
  rw [List.getElem?_map, List.getElem?_map, h] at e2
  exact Option.some.inj e2
theorem SaysA.def_ (c : SaysA fa fn ex K) (i : Nat) {d : DefA} (h : fn[i]? = some d := by rfl) (hc : d.clo = false := by rfl) : ∃ fd, d.FD K fd := by
  have h0 := congrArg (fun z : AlA => z.1) c.e
  obtain ⟨h1, h2⟩ := He.ba (show ((fa.all fun f => f.ok K) && ((fn.all fun d => d.ok K) && ex K)) = true from h0)
  have e0 := c.defO i h
  unfold DefA.obs at e0
  rw [if_neg (by rw [hc]; exact Bool.false_ne_true)] at e0
  exact DefA.funD e0 (List.all_eq_true.mp (He.ba h2).1 d (List.mem_of_getElem? h))
end
/-! ### the law's end -/
theorem walk_ofLB {l : PySem.W.OpenLaw} {n k : Nat} {q : Program} {loose : List Str} {XP : (Str → Option Value) → Heap → Prop} {YP : World → Heap → Prop} {d : DefRec} {CX : World → CXT} {x : Str}
    (hn : l.most = some n) (hn2 : n ≤ sizeLine) (hdf : d.params.defaults = []) (hr : Room k callerA)
    (F : ∀ (w : World) (mg : Str → Option Value) (fa : Addr) (h : Heap), YP w h → h.Ns mainGlobals mg → mg d.name = some (.ref fa) →
      ∃ (K : PySem.W.Frag) (fd : FuncData) (sp : Sp), K.In h ∧ (∀ (s : Shared) (u : Value), BindsTo s fd ⟨[u], []⟩ [(x, u)]) ∧
        (∀ (H : Hp) (a : Addr) (ns : List Int), ns.length ≤ n → (∀ z ∈ ns, Builtin.Int.intBits z ≤ 1048576) → Only H → SqL K H a (ns.map V.int) → sp [.ref a] H (fun v _ => v = .bl true) fun _ _ _ => False) ∧
        ∀ base : Heap, K.In base → base.Ns mainGlobals mg → FnOk l.prog w K mg base (CX w) k fa fd [x] sp)
    (hCX : ∀ (w : World) (H : Hp) (s : Shared) (e : Value) (s' : Shared), CX w [] H s (fun _ _ _ => False) e s' → False) :
    PySem.W.WalkO q loose XP YP l.row.toRowW d [] (fun f vs => PySem.call f vs) := by
  refine Att.attach_callB hn hdf fun w s₀ s₁ mg mb fa o pm cd doc a vs ns G Y ho hd hcd hmg hobj hints hlen hbits hg => ?_
  obtain ⟨K, fd, sp, KX, hb, hsp, hF⟩ := F w mg fa _ Y G.T.g hmg
  exact law_call KX G.T.g G.T.b G.T.builtins G.T.nolimit hg hobj hints (Nat.le_trans hlen hn2) hr hF hb (fun H hO hS => hsp H a ns hlen hbits hO hS) fun H e s' => hCX w H s₁ e s'
/-- the script as a tree -/
theorem script_rep {CM : CMap} {K : PySem.W.Frag} {H : Hp} {a : Addr} {ns : List Int} (hl : ns.length ≤ 63) (nl : NoLst K) (hO : Only H) (hS : SqL K H a (ns.map V.int)) : Reps CM H [.nd .scr (ns.map D.int)] [.ref a] := by
  have hf : ∃ o, H a = some (.frz o (.lst (ns.map V.int))) := by
    rcases hS with h | ⟨o, its, m, h1, h2, h3, h4, _⟩
    · rcases h with h | ⟨o, h⟩
      · rcases hO a with z | ⟨o, xs, z⟩
        · rw [h] at z; cases z
        · rw [h] at z; cases z
      · exact ⟨o, h⟩
    · have := nl a o h1
      obtain ⟨oc, od, dt, sl⟩ := o
      have h2' : oc = .type "list" := h2
      subst h2'
      cases this
  rw [Reps.cons_iff]
  refine ⟨.ref a, [], rfl, ?_, Reps.nil_iff.mpr rfl⟩
  rw [Rep.nd_iff]
  refine ⟨rfl, a, ns.map V.int, rfl, ⟨hf, ?_⟩, ?_⟩
  · rw [List.length_map, LINE_eq, sizeLine_eq]; omega
  · clear hf hS hl
    induction ns with
    | nil => exact Reps.nil_iff.mpr rfl
    | cons n ns ih => rw [List.map_cons, List.map_cons, Reps.cons_iff]; exact ⟨_, _, rfl, rep_int, ih⟩
end Lc
end
section
set_option Elab.async false
set_option linter.all false
set_option maxRecDepth 100000
set_option maxHeartbeats 2000000
/-! Defs put together. -/
namespace Lc
open PySem PySem.Spec PyProof.Rows L2
section
variable {P : Program} {w : World} {K : PySem.W.Frag} {mg : Str → Option Value} {base : Heap} {CM : CMap} {x qual : Str} {params : Arguments} {body : List Stmt} {scope : Scope} {dvs : List V} {kws : List (Str × V)} {fa C : Addr} {fd : FuncData} {N ps ks : List Str} {k k' np npos : Nat} {f : XS} {φ : List D → Res D} {tb : Tb} {cls : String} {nf ob hot : List Str}
/-- the fuel -/
def FUEL : Nat := 60
def scOf (scope : Scope) (N : List Str) (tb : Tb) (cls : String) (rb : List Nat) (nf ob hot : List Str) : SC := ⟨⟨scope, N, tb, cls, ob⟩, rb, nf, hot⟩
theorem ct_of (G : GOk tb P w K mg base k CM) (hcm : ∀ n o, tb.prp.get cls n = some o → ∃ C, CM cls = some C) (S : FnScope N ps scope) {A : Around} {outer : List PySem.Env} {s : Shared} {H : Hp} {E : XK} {cdv : Value}
    (hr : Room (k + 1) (A.deeper (envOfC qual scope s.heap.objs.size fa cdv))) : CtS ⟨scope, N, tb, cls, ob⟩ k CM (WF E) (cxOf (L2N.CX P w) P w K mg base N qual scope fa cdv A outer s H E) := by
  refine ⟨⟨rfl, S.nd, rfl, fun x h => ?_, fun x h => ?_, fun x h => ?_, fun x h => ⟨?_, rfl⟩, S.kind, fun sc own h => blkOk_by h, hr, L2N.takes_of rfl rfl rfl rfl, G⟩, passes_of rfl, fun n o h => hcm n o h, rfl, rfl⟩
  · unfold visS at h
    split at h
    · rename_i e; exact .inl e
    · rename_i e; exact .inr (.inl e)
    · rename_i e; exact .inr (.inr e)
    · cases h
  · unfold lclS at h
    split at h
    · rename_i e; exact e
    · cases h
  · unfold gloS at h
    split at h
    · rename_i e; exact e
    · cases h
  · unfold celS at h
    split at h
    · rename_i e; exact e
    · cases h
/-- a def -/
theorem go_fn (G : GOk tb P w K mg base k CM) (hcm : ∀ n o, tb.prp.get cls n = some o → ∃ C, CM cls = some C) (Fd : FunD K x qual params body scope dvs kws fa fd) (S : FnScope N ps scope) (e : trSs FUEL (scOf scope N tb cls (List.range N.length) nf ob hot) body = f) :
    FnOk P w K mg base (L2N.CX P w) (k + 2) fa fd ps (spF CM ps.length (fnP ps.length N.length f)) :=
  fn_ok Fd S fun cdv A outer s H E hr => e ▸ (sm FUEL).ss (ct_of G hcm S hr)
/-- an __init__ -/
theorem go_init {c : String} {fz : Bool} (G : GOk tb P w K mg base k CM) (hcm : ∀ n o, tb.prp.get cls n = some o → ∃ C, CM cls = some C) (Fd : FunD K x qual params body scope dvs kws fa fd) (S : FnScope N ps scope) (hC : CM c = some C) (h1 : ps.length = np + 1) (hN : ps.length ≤ N.length)
    (e : trSs FUEL (scOf scope N tb cls ((List.range N.length).filter (· ≠ 0)) nf ob hot) body = f) :
    FnOk P w K mg base (L2N.CX P w) (k + 2) fa fd ps fun vs H Q E => vs.length = ps.length ∧ ∃ F H0 x dx us ds, vs = .ref x :: us ∧ H0 x = none ∧ H0 dx = none ∧ dx ≠ x ∧ H = upd (upd H0 dx (.own x)) x (.ins C dx []) ∧ Same F H0 ∧ Reps CM F ds us ∧
      RX CM (fun c d _ H' => E c d H') [] F H0 (fun v H' => v = .ref x → Q .non H') (mkP fz c np N.length f ds) :=
  init_ok Fd S hC h1 hN fun cdv A outer s H E hr => e ▸ (sm FUEL).ss (ct_of G hcm S hr)
theorem RunOk.mono {fv : Value} (R : RunOk P w K mg base k CM fv npos ks φ) (h : k ≤ k') : RunOk P w K mg base k' CM fv npos ks φ :=
  fun X h1 h2 h3 h4 h5 pins s σ F H us ws vs zs ds Q W I tk hr => R X h1 h2 h3 h4 h5 pins s σ F H us ws vs zs ds Q W I tk (hr.mono h)
theorem GOk.mono (G : GOk tb P w K mg base k CM) (h : k ≤ k') : GOk tb P w K mg base k' CM := by
  refine ⟨G.con, G.blt, fun x e hx => ?_, fun m e hm => ?_, fun c n o ho C hC => ?_, fun e he => ?_, G.iso, G.x.mono h⟩
  · obtain ⟨f, h1, h2, h3⟩ := G.fns x e hx
    exact ⟨f, h1, h2, h3.mono h⟩
  · obtain ⟨C, g, h1, h2, h3, h4⟩ := G.mts m e hm
    exact ⟨C, g, h1, h2, h3, h4.mono h⟩
  · obtain ⟨h1, h2⟩ := G.prp c n o ho C hC
    refine ⟨h1, ?_⟩
    cases o with
    | none => exact h2
    | some φ =>
      obtain ⟨p, g, fd, x, h3, h4, h5⟩ := h2
      exact ⟨p, g, fd, x, h3, h4.mono h, h5⟩
  · obtain ⟨C, g, h1, h2, h3, h4, h5⟩ := G.own e he
    exact ⟨C, g, h1, h2, h3, h4, h5.mono h⟩
/-! ### tables grow -/
theorem go_tfn {f : Addr} (G : GOk tb P w K mg base k CM) (h1 : mg x = some (.ref f)) (h2 : PySem.W.keepIn K (.ref f) = true) (R : RunOk P w K mg base k' CM (.ref f) npos ks φ) (h : k ≤ k') : GOk (tb.fn x npos ks φ) P w K mg base k' CM := by
  have G' := G.mono h
  refine ⟨G'.con, G'.blt, fun y e hy => ?_, G'.mts, G'.prp, G'.own, G'.iso, G'.x⟩
  rcases List.mem_cons.mp hy with z | z
  · cases z; exact ⟨f, h1, h2, R⟩
  · exact G'.fns y e z
theorem go_tmt {g : Addr} {cn mn : String} (G : GOk tb P w K mg base k CM) (h1 : CM cn = some C) (h2 : Cls K C) (h3 : Meth K C (Str.ofString mn) g) (R : RunOk P w K mg base k' CM (.ref g) (npos + 1) ks φ) (h : k ≤ k') : GOk (tb.mt cn mn npos ks φ) P w K mg base k' CM := by
  have G' := G.mono h
  refine ⟨G'.con, G'.blt, G'.fns, fun y e hy => ?_, G'.prp, G'.own, G'.iso, G'.x⟩
  rcases List.mem_cons.mp hy with z | z
  · cases z; exact ⟨C, g, h1, h2, h3, R⟩
  · exact G'.mts y e z
theorem go_tpr {p g : Addr} {cn n : String} {y : Str} (G : GOk tb P w K mg base k CM) (h1 : CM cn = some C) (h2 : Cls K C) (h3 : PropOf K C (Str.ofString n) p g) (F : FnOk P w K mg base (L2N.CX P w) k' g fd [y] (spF CM 1 φ)) (hb : Binds K fd [y] []) (h : k ≤ k') : GOk (tb.pr cn n φ) P w K mg base k' CM := by
  have G' := G.mono h
  refine ⟨G'.con, G'.blt, G'.fns, G'.mts, fun c m o ho C' hC' => ?_, G'.own, G'.iso, G'.x⟩
  have ho' : (if cn = c ∧ n = m then some (some φ) else Props.get tb.prp c m) = some o := ho
  split at ho'
  · rename_i hh
    obtain ⟨rfl, rfl⟩ := hh
    cases ho'
    rw [h1] at hC'
    cases hC'
    exact ⟨h2, p, g, fd, y, h3, F, hb⟩
  · exact G'.prp c m o ho' C' hC'
theorem go_tis {cn : String} (G : GOk tb P w K mg base k CM) (h1 : CM cn = some C) (h2 : mg x = some (.ref C)) (h3 : IsoC K C) : GOk (tb.is x cn) P w K mg base k CM := by
  refine ⟨G.con, G.blt, G.fns, G.mts, G.prp, G.own, fun y c hy => ?_, G.x⟩
  have hy' : List.lookup y ((x, cn) :: tb.iso) = some c := hy
  unfold List.lookup at hy'
  split at hy'
  · rename_i q
    have : y = x := by simpa using q
    subst this
    cases hy'
    exact ⟨C, h1, h2, h3⟩
  · exact G.iso y c hy'
theorem go_town {g : Addr} {cn mn : String} (G : GOk tb P w K mg base k CM) (h1 : CM cn = some C) (h2 : Cls K C) (h3 : Meth K C (Str.ofString mn) g) (hs : PySem.W.selfFirst K C = true) (R : RunOk P w K mg base k' CM (.ref g) 2 [] φ) (h : k ≤ k') : GOk (tb.ow cn mn φ) P w K mg base k' CM := by
  have G' := G.mono h
  refine ⟨G'.con, G'.blt, G'.fns, G'.mts, G'.prp, fun e he => ?_, G'.iso, G'.x⟩
  rcases List.mem_cons.mp he with z | z
  · cases z; exact ⟨C, g, h1, h2, h3, hs, R⟩
  · exact G'.own e z
/-! ### bindings -/
/-- every parameter is written, some by keywords, in their order -/
theorem kbn_all (F : FunD K x qual params body scope [] kws fa fd)
    (h : ∀ (kV doc pm : Value) (an : Option Addr) (cdv ct : Value) (us ws : List Value), us.length = npos → ws.length = ks.length → bindArgs (PySem.W.fnOf x qual params body scope .none kV doc pm an cdv ct) ⟨us, ks.zip ws⟩ = pure (ps.zip (us ++ ws))) :
    KBn K fd ps npos ks (fun us ws => us ++ ws) (fun vs zs => vs ++ zs) := by
  obtain ⟨oc, od, dV, kV, doc, pm, an, cdv, ct, osl, rfl, _, _, hD, _⟩ := F.ex
  rcases hD with ⟨_, rfl⟩ | ⟨e, _⟩
  · exact ⟨fun s us ws _ l1 l2 => .of_eq (h kV doc pm an cdv ct us ws l1 l2), fun r1 r2 => r1.append r2⟩
  · exact absurd rfl e
/-- run_of, every parameter written -/
theorem run_all (Fo : FnOk P w K mg base (L2N.CX P w) k fa fd ps (spF CM ps.length φ)) (hb : KBn K fd ps npos ks (fun us ws => us ++ ws) (fun vs zs => vs ++ zs)) (hl : npos + ks.length = ps.length) : RunOk P w K mg base k CM (.ref fa) npos ks φ :=
  run_of (re := id) Fo hb (fun vs zs l1 l2 => by rw [List.length_append, l1, l2, hl]) fun F ds vs zs _ _ r => r
/-- no keywords written, the lacking ones have their defaults -/
theorem run_dfl {dfs : List D} (Fo : FnOk P w K mg base (L2N.CX P w) k fa fd ps (spF CM ps.length φ)) (hb : ∃ ds, Vals dvs ds ∧ Binds K fd ps ds) (hl : npos + dvs.length = ps.length) (hd : ∀ F, Reps CM F dfs dvs) : RunOk P w K mg base k CM (.ref fa) npos [] fun ds => φ (ds ++ dfs) := by
  obtain ⟨ds, h1, h2⟩ := hb
  exact run_of (re := fun z => z ++ dfs) Fo (kbn_of h2 h1 hl) (fun vs zs l1 _ => by rw [List.length_append, l1, hl]) (reOk_app hd)
theorem Reps.split {F : Hp} : ∀ {vs zs : List V} {ds : List D}, Reps CM F ds (vs ++ zs) → Reps CM F (ds.take vs.length) vs ∧ Reps CM F (ds.drop vs.length) zs
  | [], zs, ds, h => ⟨Reps.nil_iff.mpr rfl, h⟩
  | v :: vs, zs, ds, h => by
    cases ds with
    | nil => have := Reps.nil_iff.mp h; cases this
    | cons d ds =>
      obtain ⟨v', r, e, h1, h2⟩ := Reps.cons_iff.mp h
      cases e
      obtain ⟨a, b⟩ := Reps.split h2
      exact ⟨Reps.cons_iff.mpr ⟨_, _, rfl, h1, a⟩, b⟩
/-- the last ones lack -/
theorem run_lackL {dfs : List D} (Fo : FnOk P w K mg base (L2N.CX P w) k fa fd ps (spF CM ps.length φ)) (hb : ∃ mv : List Value, KBn K fd ps npos ks (fun us ws => us ++ (ws ++ mv)) (fun vs zs => vs ++ (zs ++ dvs))) (hl : npos + (ks.length + dvs.length) = ps.length) (hd : ∀ F, Reps CM F dfs dvs) : RunOk P w K mg base k CM (.ref fa) npos ks fun ds => φ (ds ++ dfs) := by
  obtain ⟨mv, hb⟩ := hb
  refine run_of (re := fun z => z ++ dfs) Fo hb (fun vs zs l1 l2 => by rw [List.length_append, List.length_append, l1, l2, hl]) fun F ds vs zs l1 l2 r => ?_
  rw [← List.append_assoc]
  exact r.append (hd F)
/-- the first ones of the keyword-only lack -/
theorem run_lackF {dfs : List D} (Fo : FnOk P w K mg base (L2N.CX P w) k fa fd ps (spF CM ps.length φ)) (hb : ∃ mv : List Value, KBn K fd ps npos ks (fun us ws => us ++ (mv ++ ws)) (fun vs zs => vs ++ (dvs ++ zs))) (hl : npos + (dvs.length + ks.length) = ps.length) (hd : ∀ F, Reps CM F dfs dvs) : RunOk P w K mg base k CM (.ref fa) npos ks fun ds => φ (ds.take npos ++ (dfs ++ ds.drop npos)) := by
  obtain ⟨mv, hb⟩ := hb
  refine run_of (re := fun z => z.take npos ++ (dfs ++ z.drop npos)) Fo hb (fun vs zs l1 l2 => by rw [List.length_append, List.length_append, l1, l2, hl]) fun F ds vs zs l1 l2 r => ?_
  obtain ⟨a, b⟩ := Reps.split r
  rw [l1] at a b
  exact a.append ((hd F).append b)
/-- a class made, every parameter written -/
theorem run_mkA {c : String} (M : Mk K C fa) (hC : CM c = some C)
    (Fo : FnOk P w K mg base (L2N.CX P w) k fa fd ps fun vs H Q E => vs.length = ps.length ∧ ∃ F H0 x dx us ds, vs = .ref x :: us ∧ H0 x = none ∧ H0 dx = none ∧ dx ≠ x ∧ H = upd (upd H0 dx (.own x)) x (.ins C dx []) ∧ Same F H0 ∧ Reps CM F ds us ∧
      RX CM (fun c d _ H' => E c d H') [] F H0 (fun v H' => v = .ref x → Q .non H') (φ ds))
    (hb : KBn K fd ps (npos + 1) ks (fun us ws => us ++ ws) (fun vs zs => vs ++ zs)) (hl : npos + 1 + ks.length = ps.length) : RunOk P w K mg base (k + 1) CM (.ref C) npos ks φ :=
  run_mk (re := id) M hC Fo hb (fun vs zs l1 l2 => by rw [List.length_append, l1, l2, hl]) fun x vs zs _ _ => ⟨vs ++ zs, rfl, fun F ds r => r⟩
/-! ### the law -/
theorem law_end (Fd : FunD K x qual params body scope [] kws fa fd) {p : Str} (hq : ∀ (kV doc pm : Value) (an : Option Addr) (cdv ct : Value) (us : List Value), us.length = 1 → bindArgs (PySem.W.fnOf x qual params body scope .none kV doc pm an cdv ct) ⟨us, []⟩ = pure ([p].zip us)) :
    ∀ (s : Shared) (u : Value), BindsTo s fd ⟨[u], []⟩ [(p, u)] := fun s u => FunD.bindsA (ps := [p]) Fd (fun a b c d e f us hl => hq a b c d e f us hl) s [u] rfl
theorem law_sp (nl : NoLst K) (pure_ : ∀ ns : List Int, ns.length ≤ 63 → (∀ z ∈ ns, Builtin.Int.intBits z ≤ 1048576) → φ [.nd .scr (ns.map D.int)] = .val (.bl true)) {H : Hp} {a : Addr} {ns : List Int} (hl : ns.length ≤ 63) (hbits : ∀ z ∈ ns, Builtin.Int.intBits z ≤ 1048576) (hO : Only H) (hS : SqL K H a (ns.map V.int)) :
    spF CM 1 φ [.ref a] H (fun v _ => v = .bl true) fun _ _ _ => False := by
  refine ⟨rfl, H, [.nd .scr (ns.map D.int)], Same.refl _, script_rep hl nl hO hS, ?_⟩
  rw [pure_ ns hl hbits]
  intro v F' H' g x r _ _
  unfold RepO at r
  exact r.1
end
end Lc
end
section
set_option Elab.async false
set_option linter.all false
set_option maxRecDepth 100000
set_option maxHeartbeats 2000000
/-! The first table. -/
namespace Lc
open PySem PySem.Spec PyProof.Rows L2
section
variable {P : Program} {w : World} {K : PySem.W.Frag} {mg : Str → Option Value} {base : Heap} {CM : CMap} {x : Str} {C : Addr} {k : Nat} {φ : List D → Res D} {tb : Tb}
theorem go_nil {blt : List Str} (h : ∀ x ∈ blt, mg x = none) : GOk { con := [], blt := blt } P w K mg base k CM :=
  ⟨(fun x d hx => by cases hx), (fun x hx => h x (by simpa using hx)), (fun x e hx => nomatch hx), (fun x e hx => nomatch hx), (fun c n o ho => by cases ho), (fun e he => nomatch he), (fun x cn hx => by cases hx), .nil⟩
theorem go_tcn {u : Value} {v : V} {d : D} (G : GOk tb P w K mg base k CM) (h1 : mg x = some u) (h2 : RelV v u) (h3 : ∀ F, Rep CM F d v) : GOk (tb.cn x d) P w K mg base k CM := by
  refine ⟨fun y e hy => ?_, G.blt, G.fns, G.mts, G.prp, G.own, G.iso, G.x⟩
  have hy' : List.lookup y ((x, d) :: tb.con) = some e := hy
  unfold List.lookup at hy'
  split at hy'
  · rename_i q
    have : y = x := by simpa using q
    subst this
    cases hy'
    exact ⟨u, v, h1, h2, h3⟩
  · exact G.con y e hy'
theorem go_tfl {cn n : String} (G : GOk tb P w K mg base k CM) (h1 : ∀ C, CM cn = some C → Cls K C ∧ NoAttr K C (Str.ofString n)) : GOk (tb.fl cn n) P w K mg base k CM := by
  refine ⟨G.con, G.blt, G.fns, G.mts, fun c m o ho C' hC' => ?_, G.own, G.iso, G.x⟩
  have ho' : (if cn = c ∧ n = m then some none else Props.get tb.prp c m) = some o := ho
  split at ho'
  · rename_i hh
    obtain ⟨rfl, rfl⟩ := hh
    cases ho'
    exact h1 C' hC'
  · exact G.prp c m o ho' C' hC'
theorem go_tpr0 {cn n : String} (G : GOk tb P w K mg base k CM) (h1 : CM cn = none) : GOk (tb.pr cn n φ) P w K mg base k CM := by
  refine ⟨G.con, G.blt, G.fns, G.mts, fun c m o ho C' hC' => ?_, G.own, G.iso, G.x⟩
  have ho' : (if cn = c ∧ n = m then some (some φ) else Props.get tb.prp c m) = some o := ho
  split at ho'
  · rename_i hh
    obtain ⟨rfl, rfl⟩ := hh
    rw [h1] at hC'
    cases hC'
  · exact G.prp c m o ho' C' hC'
theorem go_fls (G : GOk tb P w K mg base k CM) : ∀ (l : List (String × List String)), (∀ p ∈ l, ∀ n ∈ p.2, ∀ C, CM p.1 = some C → Cls K C ∧ NoAttr K C (Str.ofString n)) → GOk (tb.fls l) P w K mg base k CM
  | [], _ => G
  | (c, ns) :: r, h => by
    have ih := go_fls G r fun p hp => h p (List.mem_cons_of_mem _ hp)
    have hc := h (c, ns) List.mem_cons_self
    show GOk (ns.foldr (fun n t => t.fl c n) (tb.fls r)) P w K mg base k CM
    clear h
    induction ns with
    | nil => exact ih
    | cons n ns ih2 => exact go_tfl (ih2 fun m hm => hc m (List.mem_cons_of_mem _ hm)) fun C hC => hc n List.mem_cons_self C hC
/-- the classes that are there -/
def cmOf (cs : List String) (K : PySem.W.Frag) : CMap := fun c => if cs.contains c then some (He.ga K (Str.ofString c)) else none
theorem cm_in {cs : List String} {c : String} (h : cs.contains c = true) : cmOf cs K c = some (He.ga K (Str.ofString c)) := by
  unfold cmOf; rw [if_pos h]
theorem cm_out {cs : List String} {c : String} (h : cs.contains c = false) : cmOf cs K c = none := by
  unfold cmOf; rw [if_neg (by rw [h]; exact Bool.false_ne_true)]
theorem cm_at {cs : List String} {c : String} {C : Addr} (h : cmOf cs K c = some C) : cs.contains c = true ∧ C = He.ga K (Str.ofString c) := by
  unfold cmOf at h
  split at h
  · rename_i hc; cases h; exact ⟨hc, rfl⟩
  · cases h
/-- cls and fields -/
def flsB (cs : List String) (l : List (String × List String)) (K : PySem.W.Frag) : Bool := l.all fun p => !cs.contains p.1 || ((He.Fa.cls (Str.ofString p.1)).ok K && p.2.all fun n => (He.Fa.noat (Str.ofString p.1) (Str.ofString n)).ok K)
theorem flsB_ok {cs : List String} {l : List (String × List String)} (h : flsB cs l K = true) : ∀ p ∈ l, ∀ n ∈ p.2, ∀ C, cmOf cs K p.1 = some C → Cls K C ∧ NoAttr K C (Str.ofString n) := by
  intro p hp n hn C hC
  obtain ⟨h1, rfl⟩ := cm_at hC
  have := List.all_eq_true.mp h p hp
  rw [h1] at this
  simp only [Bool.not_true, Bool.false_or, Bool.and_eq_true, List.all_eq_true] at this
  exact ⟨He.cls_ok this.1, He.noat_ok (this.2 n hn)⟩
theorem flsB_cls {cs : List String} {l : List (String × List String)} (h : flsB cs l K = true) {c : String} {ns : List String} (hc : (c, ns) ∈ l) (hi : cs.contains c = true) : Cls K (He.ga K (Str.ofString c)) := by
  have := List.all_eq_true.mp h _ hc
  rw [hi] at this
  simp only [Bool.not_true, Bool.false_or, Bool.and_eq_true] at this
  exact He.cls_ok this.1
/-- a text as a constant -/
theorem rep_con {F : Hp} {t : Tx} {z : Str} (hz : z = stx t) (h : okTx t = true) : Rep CM F (.str t) (.str z) := by
  subst hz
  unfold okTx at h
  rw [Bool.and_eq_true, decide_eq_true_eq, List.all_eq_true] at h
  exact rep_str ⟨h.1, fun c hc => by simpa using h.2 c hc⟩
end
end Lc
end
section
set_option Elab.async false
set_option linter.all false
set_option maxRecDepth 100000
set_option maxHeartbeats 4000000
/-! The head's facts about own exceptions. -/
namespace Lc
open PySem PySem.Spec PyProof.Rows L2
section
variable {K : PySem.W.Frag} {C D : Addr}
def exoB (K : PySem.W.Frag) (C : Addr) : Bool := (match K.lookup C with
  | some ⟨.type "type", _, .cls cd, sl⟩ => (match cd.mro, sl.toList with
    | .ref C' :: bm, [_, _, _, _, some (.builtin n), _] => decide (C' = C) && (decide (n = "ValueError.__new__") && (!cd.hasDel && (cd.hasDict && PySem.HandSPX.refsVE bm)))
    | _, _ => false)
  | _ => false)
theorem exoB_ok (q : exoB K C = true) : ∃ nm q N bs bm sn sub ab col dd k0 k1 k2 k3 k5, K.lookup C = some (excClassObj nm q C N bs bm true sn sub ab col dd k0 k1 k2 k3 k5 "ValueError.__new__") ∧ PySem.HandSPX.refsVE bm = true := by
  unfold exoB at q
  split at q
  · rename_i dd cd sl ho
    split at q
    · rename_i C' bm k0 k1 k2 k3 n k5 hm hs
      simp only [Bool.and_eq_true, decide_eq_true_eq, Bool.not_eq_true'] at q
      obtain ⟨e1, e2, e3, e4, e5⟩ := q
      subst e1 e2
      obtain ⟨nm, bs, mro, ns, qn, hd, sn, sub, ab, col, del⟩ := cd
      dsimp only at hm e3 e4
      subst hm e3 e4
      have hsl : sl = #[k0, k1, k2, k3, some (.builtin "ValueError.__new__"), k5] := by
        obtain ⟨l⟩ := sl
        have hs : l = _ := hs
        rw [hs]
      subst hsl
      exact ⟨nm, qn, ns, bs, bm, sn, sub, ab, col, dd, k0, k1, k2, k3, k5, ho, e5⟩
    · cases q
  · cases q
def oexB (K : PySem.W.Frag) (C : Addr) : Bool := exoB K C && (decide (PySem.W.findIn K (.ref C) "__setattr__" = some (some (.builtin "object.__setattr__"))) && (decide (PySem.W.subIn K (.ref C) (.type "BaseException") = some true) && (decide (PySem.W.typeIn K (.ref C) = some (.type "type")) && PySem.W.keepIn K (.ref C))))
theorem oexB_ok (q : oexB K C = true) : OexC K C := by
  obtain ⟨h1, q⟩ := He.ba q
  obtain ⟨h2, q⟩ := He.ba q
  obtain ⟨h3, q⟩ := He.ba q
  obtain ⟨h4, h5⟩ := He.ba q
  exact ⟨exoB_ok h1, of_decide_eq_true h2, of_decide_eq_true h3, of_decide_eq_true h4, h5⟩
def xccB (K : PySem.W.Frag) (C : Addr) : Bool := xfB K C && ((PySem.W.clsIn K C).isSome && (decide (PySem.W.findIn K (.ref C) "__class__" = some (some (.builtin "object.__class__"))) && (decide (PySem.W.specialIn K (.builtin "object.__class__") "__get__" = some (some (.builtin "getset_descriptor.__get__"))) &&
  (decide (PySem.W.takesIn K (.builtin "object.__class__") = some true) && decide (PySem.W.mroIn K C (.type "object") = some true)))))
theorem xccB_ok (q : xccB K C = true) : XcC K C := by
  obtain ⟨h1, q⟩ := He.ba q
  obtain ⟨h2, q⟩ := He.ba q
  obtain ⟨h3, q⟩ := He.ba q
  obtain ⟨h4, q⟩ := He.ba q
  obtain ⟨h5, h6⟩ := He.ba q
  exact ⟨xfB_ok h1, h2, of_decide_eq_true h3, of_decide_eq_true h4, of_decide_eq_true h5, of_decide_eq_true h6⟩
def supcB (K : PySem.W.Frag) (C D : Addr) : Bool := oexB K C && (decide (PySem.W.ks_superIn K C D "__init__" = some (some (.builtin "ValueError.__init__"))) && (decide (PySem.W.mroIn K C (.ref D) = some true) && (decide (PySem.W.subIn K (.ref C) (.type "ValueError") = some true) && decide (PySem.W.nsIn K cStatics "thirdparty.any" = some none))))
theorem supcB_ok (q : supcB K C D = true) : SupC K C D := by
  obtain ⟨h1, q⟩ := He.ba q
  obtain ⟨h2, q⟩ := He.ba q
  obtain ⟨h3, q⟩ := He.ba q
  obtain ⟨h4, h5⟩ := He.ba q
  exact ⟨oexB_ok h1, of_decide_eq_true h2, of_decide_eq_true h3, of_decide_eq_true h4, of_decide_eq_true h5⟩
/-- the def at f of the class D: its code's file, its one cell -/
def supdB (file : Str) (K : PySem.W.Frag) (f D : Addr) : Bool := match K.lookup f with
  | some ⟨_, _, .func fd, _⟩ => (match fd.code, fd.closure, fd.defaults with
    | .ref cda, [(x, cc)], .none => PySem.W.codeIn K (.ref cda) fd.qualname && ((match K.lookup cda with
        | some ⟨_, _, .fields cvs, _⟩ => (match (cvs[2]? : Option Value) with
          | some (Value.str fl _) => file == fl
          | _ => false)
        | _ => false) && (decide (x = ("__class__" : Str)) && ((match K.lookup cc with
        | some ⟨_, _, .cell (some (.ref D')), _⟩ => decide (D' = D)
        | _ => false) && (PySem.W.clsIn K D).isSome)))
    | _, _, _ => false)
  | _ => false
/-- its body: super().__init__(text), self.fn = fn -/
def init1B (self fn : Str) (body : List Stmt) : Bool := match body with
  | [.Expr (.Call (.Attribute (.Call (.Name s _) [] [] _) i q2) [.Constant (.str _) _ _] [] q4) _, .Assign [.Attribute (.Name a _) f _] (.Name g _) _] => decide (s = ("super" : Str)) && (decide (i = ("__init__" : Str)) && ((q2.endLine == q4.line) && (decide (a = self) && (decide (f = fn) && decide (g = fn)))))
  | _ => false
theorem init1B_ok {self fn : Str} {body : List Stmt} (h : init1B self fn body = true) : ∃ (msg : Str) (kk : Nat) (q0 q1 q2 q3 q4 q5 p1 p2 p3 p4 : Pos), body = [.Expr (.Call (.Attribute (.Call (.Name "super" q0) [] [] q1) "__init__" q2) [.Constant (.str msg) kk q3] [] q4) q5, .Assign [.Attribute (.Name self p1) fn p2] (.Name fn p3) p4] ∧ (q2.endLine == q4.line) = true := by
  unfold init1B at h
  split at h
  · simp only [Bool.and_eq_true, decide_eq_true_eq] at h
    obtain ⟨rfl, rfl, h3, rfl, rfl, rfl⟩ := h
    exact ⟨_, _, _, _, _, _, _, _, _, _, _, _, rfl, h3⟩
  · cases h
end
section
variable {P : Program} {w : World} {K : PySem.W.Frag} {mg : Str → Option Value} {base : Heap} {k : Nat} {CM : CMap}
/-- C(e) of a class with such an __init__ -/
theorem raise_by {C fI : Addr} {name qual : Str} {params : Arguments} {body : List Stmt} {scope : Scope} {self fn file : Str} {fS : String} {a0 : Arg} (e : fnC K fI = some (name, qual, params, .stmts body, scope, mainGlobals, [], builtinsNs)) (hB : supdB file K fI C = true) (hT : supcB K C C = true)
    (hno : He.eqO (PySem.W.findIn K (.ref C) fn) (some none) = true) (hi : He.eqO (PySem.W.findIn K (.ref C) "__init__") (some (some (.ref fI))) = true) (ht : decide (PySem.W.typeIn K (.ref fI) = some (.type "function")) = true) (hb1 : init1B self fn body = true)
    (hS : NdefX.nscB [self, fn, ("__class__" : Str)] [self, fn] [("__class__" : Str)] scope = true) (hks : scope.names.lookup ("super" : Str) = some .globalImplicit) (ha : (params.posonlyargs ++ params.args).head? = some a0) (ha2 : a0.arg = self) (efn : fn = Str.ofString fS) (pl1 : plainName self = true) (pl2 : plainName fn = true)
    (hbind : ∀ (kV doc pm : Value) (an : Option Addr) (cdv ct : Value) (cc : Addr) (us : List Value), us.length = 2 → bindArgs (PySem.W.ksFn name qual params body scope .none kV doc pm an cdv ct cc) ⟨us, []⟩ = pure ([self, fn].zip us))
    (hf : P.main.file = file) (htop : (P.main.scope.names.lookup ("super" : Str)).isSome = false) (hsup : mg ("super" : Str) = none) : RaiseOk P w K mg base 1 C 1 [fS] := by
  unfold fnC at e
  unfold supdB at hB
  cases lk : K.lookup fI with
  | none => rw [lk] at e; cases e
  | some o =>
    obtain ⟨oc, od, dt, osl⟩ := o
    rw [lk] at e hB
    cases dt with
    | func fd =>
      simp only at e hB
      obtain ⟨n1, n2, n3, n4, n5, n6, n7, n8, n9, n10, n11, n12, n13, n14, n15⟩ := fd
      simp only [Option.some.injEq, Prod.mk.injEq] at e
      obtain ⟨h1, h2, h3, h4, h5, h6, _, h8⟩ := e
      subst h1 h2 h3 h4 h5 h6 h8
      simp only at hB
      split at hB
      · rename_i _ _ _ cda x cc
        obtain ⟨c1, hB⟩ := He.ba hB
        obtain ⟨c2, hB⟩ := He.ba hB
        obtain ⟨c3, hB⟩ := He.ba hB
        obtain ⟨c4, c5⟩ := He.ba hB
        have c3 := of_decide_eq_true c3
        subst c3
        obtain ⟨cdD, hcd⟩ := Option.isSome_iff_exists.mp c5
        have SN := NdefX.nscope_by hS
        have fil : ∃ ccl cdd cvs ccs fl tf, K.lookup cda = some ⟨ccl, cdd, .fields cvs, ccs⟩ ∧ cvs[2]? = some (.str fl tf) ∧ ((P.main.file : Str) == fl) = true := by
          split at c2
          · rename_i h
            split at c2
            · rename_i h2
              exact ⟨_, _, _, _, _, _, h, h2, by rw [hf]; exact c2⟩
            · cases c2
          · cases c2
        have cel : ∃ cl cld csl, K.lookup cc = some ⟨cl, cld, .cell (some (.ref C)), csl⟩ := by
          split at c4
          · rename_i h
            have := of_decide_eq_true c4
            subst this
            exact ⟨_, _, _, h⟩
          · cases c4
        obtain ⟨msg, kk, q0, q1, q2, q3, q4, q5, p1, p2, p3, p4, hbd, hl⟩ := init1B_ok hb1
        have SD : SupD P K mg ⟨n1, n2, n3, body, n5, [(("__class__" : Str), cc)], cda⟩ fI cc C a0 (PySem.W.ksFn n1 n2 n3 body n5 .none n9 n10 n11 n12 (.ref cda) n14 cc) := by
          refine ⟨⟨oc, od, .none, n9, n10, n11, n12, n14, osl, lk, rfl⟩, c1, fil, cel, ⟨cdD, hcd⟩, rfl, ha, hks, SN.frk _ (by simp), by rw [ha2]; exact SN.par _ (by simp), SN.kind, htop, hsup⟩
        exact raise_one SD SN ha2 efn pl1 pl2 hbd hl (supcB_ok hT) (He.eqO_ok hno) (He.eqO_ok hi) (of_decide_eq_true ht) (Binds.all fun us hl => hbind n9 n10 n11 n12 (.ref cda) n14 cc us hl)
      · cases hB
    | _ => cases e
/-- a def within an except suite -/
theorem go_hot {x qual : Str} {params : Arguments} {body : List Stmt} {scope : Scope} {dvs : List V} {kws : List (Str × V)} {fa : Addr} {fd : FuncData} {N ps xs : List Str} {tb : Tb} {f : XS} (G : GOk tb P w K mg base k CM) (nx : CMx CM) (hx : tb.xd.hfn = []) (Fd : FunD K x qual params body scope dvs kws fa fd) (S : FnScope N ps scope)
    (e : hSs FUEL ⟨⟨scope, N, tb, "", []⟩, xs, true⟩ (List.range N.length) body = f) {a C dx : Addr} {oe : Obj} (XC : XcC K C) (hz : L2N.Zn (.ref C) (some dx) oe) (hf : ∃ vs, oe.data = .fields vs) :
    FnX P w K mg base (L2N.CX P w) (k + 2) fa fd ps (spF (cmX CM a C dx) ps.length (fnP ps.length N.length f)) (a, oe) := by
  obtain ⟨oc, od, dV, kV, doc, pm, an, cdv, ct, osl, rfl, lk, hcd, _, _⟩ := Fd.ex
  have dn : ∀ {s : String} {A : Addr}, tb.xd.all.contains s = true → cmX CM a C dx s = some A → CM s = some A := fun {s A} h e => by
    rw [cmX_dn (G.x.al s h)] at e
    exact e
  refine fnX_of lk hcd S (fun vs H Q E h => h.1) fun A outer s H vs Q E hot hr hsp => ⟨_, ?_, fnP_read hsp⟩
  rw [← e]
  refine (Lc.hs FUEL).ss (k := k) ⟨S.nd, rfl, fun x h => ?_, fun x h => ?_, fun x h => ?_, ⟨a, C, dx, oe, rfl, rfl, rfl, hot, List.mem_cons_self, hz, hf, XC⟩, hr, L2N.takes_of rfl rfl rfl rfl, fun x d e => ?_, G.blt, ⟨fun s h A e => G.x.xf.cls s h A (dn h e)⟩, fun T subs e => ?_, fun x e he => ?_, fun _ => passes_of rfl⟩
  · unfold visS at h
    split at h
    · rename_i e; exact .inl e
    · rename_i e; exact .inr (.inl e)
    · rename_i e; exact .inr (.inr e)
    · cases h
  · unfold lclS at h
    split at h
    · rename_i e; exact e
    · cases h
  · unfold gloS at h
    split at h
    · rename_i e; exact e
    · cases h
  · obtain ⟨u, v, e1, e2, e3⟩ := G.con x d e
    exact ⟨u, v, e1, e2, fun F => Rep.up (cmX_up nx) _ _ (e3 F)⟩
  · obtain ⟨c0, v0, h1, h2⟩ := G.x.xi T subs e
    exact ⟨c0, v0, h1, fun s A h e => h2 s A h (dn h e)⟩
  · rw [show (⟨⟨scope, N, tb, "", []⟩, xs, true⟩ : HC).c.tb.xd.hfn = [] from hx] at he
    cases he
/-- the table with exceptions -/
def Tb.ex (tb : Tb) (xd : XD) : Tb := { tb with xd := xd }
theorem go_ex {tb : Tb} {xd : XD} (G : GOk tb P w K mg base k CM) (X : GX xd P w K mg base k CM) : GOk (tb.ex xd) P w K mg base k CM := ⟨G.con, G.blt, G.fns, G.mts, G.prp, G.own, G.iso, X⟩
end
/-! ### lists of facts -/
section
variable {P : Program} {w : World} {K : PySem.W.Frag} {mg : Str → Option Value} {base : Heap} {k : Nat} {h : Heap} {cs all fl : List String}
def gaS (K : PySem.W.Frag) (c : String) : Addr := He.ga K (Str.ofString c)
def xfactsB (all fl : List String) (K : PySem.W.Frag) : Bool := all.all fun c => xccB K (gaS K c) && fl.all fun f => He.eqO (PySem.W.findIn K (.ref (gaS K c)) (Str.ofString f)) (some none)
theorem xfacts_ok (q : xfactsB all fl K = true) : XFacts K (cmOf cs K) all fl := ⟨fun c hc C hC => by
  obtain ⟨_, rfl⟩ := cm_at hC
  have q1 := List.all_eq_true.mp q c (by simpa using hc)
  obtain ⟨q2, q3⟩ := He.ba q1
  exact ⟨xccB_ok q2, fun f hf => He.eqO_ok (List.all_eq_true.mp q3 f hf)⟩⟩
def xiB (all : List String) (xi : List (Str × List String)) (K : PySem.W.Frag) : Bool := xi.all fun p => if p.1 = ("ValueError" : Str) then (He.Fa.free p.1).ok K && all.all fun c => decide (PySem.W.kitOne K (.ref (gaS K c)) (.type "ValueError") = some (p.2.contains c))
  else (He.Fa.glo p.1).ok K && all.all fun c => decide (PySem.W.kitOne K (.ref (gaS K c)) (.ref (He.ga K p.1)) = some (p.2.contains c))
theorem xlook_mem {β : Type} {x : Str} {b : β} : ∀ {l : List (Str × β)}, l.lookup x = some b → (x, b) ∈ l
  | [], e => by cases e
  | (y, c) :: l, e => by
    unfold List.lookup at e
    split at e
    · rename_i q
      have : x = y := by simpa using q
      subst this
      cases e
      exact List.mem_cons_self
    · exact List.mem_cons_of_mem _ (xlook_mem e)
theorem xi_ok {xi : List (Str × List String)} (X : K.In h) (G : h.Ns mainGlobals mg) (q : xiB all xi K = true) : ∀ T subs, xi.lookup T = some subs → ∃ c0 v0, XNm mg T c0 v0 ∧ ∀ c C, all.contains c = true → cmOf cs K c = some C → PySem.W.kitOne K (.ref C) c0 = some (subs.contains c) := by
  intro T subs e
  have q1 := List.all_eq_true.mp q _ (xlook_mem e)
  by_cases hT : T = ("ValueError" : Str)
  · rw [if_pos hT] at q1
    obtain ⟨q2, q3⟩ := He.ba q1
    refine ⟨.type "ValueError", .ty "ValueError", .inr ⟨_, He.free_ok X G q2, by rw [hT]; exact PyProof.Rows.Boot.«ValueError», by rw [hT]; decide, rfl, rfl⟩, fun c C hc hC => ?_⟩
    obtain ⟨_, rfl⟩ := cm_at hC
    exact of_decide_eq_true (List.all_eq_true.mp q3 c (by simpa using hc))
  · rw [if_neg hT] at q1
    obtain ⟨q2, q3⟩ := He.ba q1
    refine ⟨.ref (He.ga K T), .ref (He.ga K T), .inl ⟨_, He.glo_ok X G q2, rfl, rfl⟩, fun c C hc hC => ?_⟩
    obtain ⟨_, rfl⟩ := cm_at hC
    exact of_decide_eq_true (List.all_eq_true.mp q3 c (by simpa using hc))
def xhB (all : List String) (xh : List (Str × List String)) (K : PySem.W.Frag) : Bool := xh.all fun p => (He.Fa.glo p.1).ok K && all.all fun c => decide (PySem.W.exmOne K (.ref (gaS K c)) (.ref (He.ga K p.1)) = some (p.2.contains c))
theorem xh_ok {xh : List (Str × List String)} (X : K.In h) (G : h.Ns mainGlobals mg) (q : xhB all xh K = true) : ∀ T subs, xh.lookup T = some subs → ∃ c0, mg T = some c0 ∧ ∀ c C, all.contains c = true → cmOf cs K c = some C → PySem.W.exmOne K (.ref C) c0 = some (subs.contains c) := by
  intro T subs e
  have q1 := List.all_eq_true.mp q _ (xlook_mem e)
  obtain ⟨q2, q3⟩ := He.ba q1
  refine ⟨.ref (He.ga K T), He.glo_ok X G q2, fun c C hc hC => ?_⟩
  obtain ⟨_, rfl⟩ := cm_at hC
  exact of_decide_eq_true (List.all_eq_true.mp q3 c (by simpa using hc))
def raiseB (file : Str) (c fn : Str) (K : PySem.W.Frag) : Bool := supdB file K (madr c "__init__" K) (He.ga K c) && (supcB K (He.ga K c) (He.ga K c) && (He.eqO (PySem.W.findIn K (.ref (He.ga K c)) fn) (some none) && (He.eqO (PySem.W.findIn K (.ref (He.ga K c)) "__init__") (some (some (.ref (madr c "__init__" K)))) && decide (PySem.W.typeIn K (.ref (madr c "__init__" K)) = some (.type "function")))))
theorem raise_b {c fn self file name qual : Str} {params : Arguments} {body : List Stmt} {scope : Scope} {fS : String} {a0 : Arg} (e : fnC K (madr c "__init__" K) = some (name, qual, params, .stmts body, scope, mainGlobals, [], builtinsNs)) (q : raiseB file c fn K = true) (hb1 : init1B self fn body = true)
    (hS : NdefX.nscB [self, fn, ("__class__" : Str)] [self, fn] [("__class__" : Str)] scope = true) (hks : scope.names.lookup ("super" : Str) = some .globalImplicit) (ha : (params.posonlyargs ++ params.args).head? = some a0) (ha2 : a0.arg = self) (efn : fn = Str.ofString fS) (pl1 : plainName self = true) (pl2 : plainName fn = true)
    (hbind : ∀ (kV doc pm : Value) (an : Option Addr) (cdv ct : Value) (cc : Addr) (us : List Value), us.length = 2 → bindArgs (PySem.W.ksFn name qual params body scope .none kV doc pm an cdv ct cc) ⟨us, []⟩ = pure ([self, fn].zip us))
    (hf : P.main.file = file) (htop : (P.main.scope.names.lookup ("super" : Str)).isSome = false) (hsup : mg ("super" : Str) = none) : RaiseOk P w K mg base 1 (He.ga K c) 1 [fS] := by
  obtain ⟨q1, q⟩ := He.ba q
  obtain ⟨q2, q⟩ := He.ba q
  obtain ⟨q3, q⟩ := He.ba q
  obtain ⟨q4, q5⟩ := He.ba q
  exact raise_by e q1 q2 q3 q4 q5 hb1 hS hks ha ha2 efn pl1 pl2 hbind hf htop hsup
/-- what raise makes -/
def ExsOk (P : Program) (w : World) (K : PySem.W.Frag) (mg : Str → Option Value) (base : Heap) (k : Nat) (CM : CMap) (exs : List (Str × (String × Nat × List String))) : Prop := ∀ x c n ns, exs.lookup x = some (c, n, ns) → ∃ C, CM c = some C ∧ mg x = some (.ref C) ∧ RaiseOk P w K mg base k C n ns
variable {CM : CMap}
theorem exs_nil : ExsOk P w K mg base k CM [] := fun x c n ns h => by cases h
theorem exs_cons {exs : List (Str × (String × Nat × List String))} {x : Str} {c : String} {n : Nat} {ns : List String} {C : Addr} (h1 : CM c = some C) (h2 : mg x = some (.ref C)) (R : RaiseOk P w K mg base k C n ns) (ih : ExsOk P w K mg base k CM exs) : ExsOk P w K mg base k CM ((x, (c, n, ns)) :: exs) := by
  intro y c' n' ns' e
  unfold List.lookup at e
  split at e
  · rename_i q
    have : y = x := by simpa using q
    subst this
    cases e
    exact ⟨C, h1, h2, R⟩
  · exact ih y c' n' ns' e
def HfnOk (P : Program) (w : World) (K : PySem.W.Frag) (mg : Str → Option Value) (base : Heap) (k : Nat) (CM : CMap) (hfn : List (Str × FunE)) : Prop := ∀ x e, (x, e) ∈ hfn → ∃ f fd ps, mg x = some (.ref f) ∧ PySem.W.keepIn K (.ref f) = true ∧ Binds K fd ps [] ∧ ps.length = e.npos ∧
    ∀ a C dx oe, XcC K C → L2N.Zn (.ref C) (some dx) oe → (∃ vs, oe.data = .fields vs) → FnX P w K mg base (L2N.CX P w) k f fd ps (spF (cmX CM a C dx) ps.length e.fn) (a, oe)
theorem hfn_nil : HfnOk P w K mg base k CM [] := fun x e h => by cases h
theorem hfn_cons {hfn : List (Str × FunE)} {x : Str} {n : Nat} {φ : List D → Res D} {f : Addr} {fd : FuncData} {ps : List Str} (h1 : mg x = some (.ref f)) (h2 : PySem.W.keepIn K (.ref f) = true) (h3 : Binds K fd ps []) (h4 : ps.length = n)
    (h5 : ∀ a C dx oe, XcC K C → L2N.Zn (.ref C) (some dx) oe → (∃ vs, oe.data = .fields vs) → FnX P w K mg base (L2N.CX P w) k f fd ps (spF (cmX CM a C dx) ps.length φ) (a, oe)) (ih : HfnOk P w K mg base k CM hfn) : HfnOk P w K mg base k CM ((x, ⟨n, [], φ⟩) :: hfn) := by
  intro y e he
  rcases List.mem_cons.mp he with z | z
  · cases z
    exact ⟨f, fd, ps, h1, h2, h3, h4, h5⟩
  · exact ih y e z
theorem cmx_of (h1 : cs.contains "!a" = false) (h2 : cs.contains "!c" = false) (h3 : cs.contains "!d" = false) : CMx (cmOf cs K) := ⟨cm_out h1, cm_out h2, cm_out h3⟩
/-- no capital class is one of the special names -/
theorem al_of (q : (all.all fun c => !xNames.contains c) = true) : ∀ c, all.contains c = true → (!xNames.contains c) = true := fun c hc => List.all_eq_true.mp q c (by simpa using hc)
end
end Lc
end
section
set_option linter.all false
/-! Plain rules: how the plain functions are run. -/
namespace Lc
/-! ### lists, places -/
@[simp] theorem atI_nat {α : Type} (xs : List α) (k : Nat) : atI xs (k : Int) = xs[k]? := by
  unfold atI ixN
  rw [if_pos (Int.natCast_nonneg k)]
  by_cases h : k < xs.length
  · rw [if_pos (by omega)]; rfl
  · rw [if_neg (by omega), List.getElem?_eq_none (by omega)]; rfl
@[simp] theorem atI_0 {α : Type} (xs : List α) : atI xs 0 = xs[0]? := atI_nat xs 0
@[simp] theorem atI_1 {α : Type} (xs : List α) : atI xs 1 = xs[1]? := atI_nat xs 1
@[simp] theorem atI_2 {α : Type} (xs : List α) : atI xs 2 = xs[2]? := atI_nat xs 2
@[simp] theorem atI_3 {α : Type} (xs : List α) : atI xs 3 = xs[3]? := atI_nat xs 3
@[simp] theorem atI_4 {α : Type} (xs : List α) : atI xs 4 = xs[4]? := atI_nat xs 4
theorem atI_int {α : Type} (xs : List α) (i : Int) (h : 0 ≤ i) : atI xs i = xs[i.toNat]? := by
  have := atI_nat xs i.toNat
  rwa [Int.toNat_of_nonneg h] at this
@[simp] theorem idx_tup (ds : List D) (i : Int) : D.idx (.tup ds) (.int i) = atI ds i := rfl
@[simp] theorem idx_lst (o) (ds : List D) (i : Int) : D.idx (.lst o ds) (.int i) = atI ds i := rfl
@[simp] theorem idx_scr (ds : List D) (i : Int) : D.idx (.nd .scr ds) (.int i) = atI ds i := rfl
@[simp] theorem idx_str (t : Tx) (i : Int) : D.idx (.str t) (.int i) = (atI t i).map fun c => D.str [c] := by
  show (match atI t i with | some c => some (D.str [c]) | none => none) = _
  cases atI t i <;> rfl
theorem idx_dic (o ks vs) (k : D) : D.idx (.dic o ks vs) k = (match k.toKy with | some k => if kOk ks k then kget ks vs k else none | none => none) := by
  cases k <;> rfl
@[simp] theorem len_str (t : Tx) : D.len (.str t) = some (.int t.length) := rfl
@[simp] theorem len_tup (t) : D.len (.tup t) = some (.int t.length) := rfl
@[simp] theorem len_lst (o t) : D.len (.lst o t) = some (.int t.length) := rfl
@[simp] theorem len_scr (t) : D.len (.nd .scr t) = some (.int t.length) := rfl
@[simp] theorem toInt_int (i) : D.toInt (.int i) = some (.int i) := rfl
@[simp] theorem toInt_bl (i) : D.toInt (.bl i) = some (.int (if i then 1 else 0)) := rfl
@[simp] theorem toStr_str (i) : D.toStr (.str i) = some (.str i) := rfl
@[simp] theorem add_int (i j) : D.add (.int i) (.int j) = some (.int (i + j)) := rfl
@[simp] theorem sub_int (i j) : D.sub (.int i) (.int j) = some (.int (i - j)) := rfl
@[simp] theorem neg_int (i) : D.neg (.int i) = some (.int (-i)) := rfl
@[simp] theorem lt_int (i j) : D.lt (.int i) (.int j) = some (decide (i < j)) := rfl
@[simp] theorem le_int (i j) : D.le (.int i) (.int j) = some (decide (i ≤ j)) := rfl
@[simp] theorem gt_int (i j) : D.gt (.int i) (.int j) = some (decide (j < i)) := rfl
@[simp] theorem ge_int (i j) : D.ge (.int i) (.int j) = some (decide (j ≤ i)) := rfl
theorem mod_int {i j : Int} (h : 0 < j) : D.mod (.int i) (.int j) = some (.int (i % j)) := if_pos h
theorem fdiv_int {i j : Int} (h : 0 < j ∧ j < 2 ^ 30) : D.fdiv (.int i) (.int j) = some (.int (i / j)) := if_pos h
theorem mul_int {i j : Int} (h : MulOk i j) : D.mul (.int i) (.int j) = some (.int (i * j)) := if_pos h
theorem add_str {s t : Tx} (h : s.length + t.length ≤ LINE) : D.add (.str s) (.str t) = some (.str (s ++ t)) := if_pos h
@[simp] theorem truth_bl (b) : D.truth (.bl b) = some b := rfl
@[simp] theorem truth_int (i) : D.truth (.int i) = some (i != 0) := rfl
@[simp] theorem truth_str (t) : D.truth (.str t) = some (!t.isEmpty) := rfl
@[simp] theorem truth_tup (t) : D.truth (.tup t) = some (!t.isEmpty) := rfl
@[simp] theorem truth_lst (o t) : D.truth (.lst o t) = some (!t.isEmpty) := rfl
@[simp] theorem vnot_bl (b) : vnot (.bl b) = some (.bl (!b)) := rfl
/-! ### data, == -/
@[simp] theorem dat_non (n) : D.dat n .non = true := by cases n <;> rfl
@[simp] theorem dat_bl (n b) : D.dat n (.bl b) = true := by cases n <;> rfl
@[simp] theorem dat_int (n b) : D.dat n (.int b) = true := by cases n <;> rfl
@[simp] theorem dat_str (n b) : D.dat n (.str b) = true := by cases n <;> rfl
@[simp] theorem dat_tup (n ds) : D.dat (n + 1) (.tup ds) = ds.all (D.dat n) := by show (true && _) = _; rw [Bool.true_and]
@[simp] theorem dat_lst (n o ds) : D.dat (n + 1) (.lst o ds) = ds.all (D.dat n) := by show (true && _) = _; rw [Bool.true_and]
@[simp] theorem eqb_int (i j) : D.eqb (.int i) (.int j) = (i == j) := by unfold D.eqb; rfl
@[simp] theorem eqb_str (i j) : D.eqb (.str i) (.str j) = (i == j) := by unfold D.eqb; rfl
@[simp] theorem eqb_bl (i j) : D.eqb (.bl i) (.bl j) = (i == j) := by unfold D.eqb; rfl
@[simp] theorem eqb_tup (xs ys) : D.eqb (.tup xs) (.tup ys) = D.eqbs xs ys := by unfold D.eqb; rfl
@[simp] theorem eqb_lst (o o' xs ys) : D.eqb (.lst o xs) (.lst o' ys) = D.eqbs xs ys := by unfold D.eqb; rfl
@[simp] theorem eqbs_nil : D.eqbs [] [] = true := by unfold D.eqbs; rfl
@[simp] theorem eqbs_nc (y ys) : D.eqbs [] (y :: ys) = false := by unfold D.eqbs; rfl
@[simp] theorem eqbs_cn (y ys) : D.eqbs (y :: ys) [] = false := by unfold D.eqbs; rfl
@[simp] theorem eqbs_cons (x xs y ys) : D.eqbs (x :: xs) (y :: ys) = (D.eqb x y && D.eqbs xs ys) := by rw [D.eqbs]
mutual
theorem eqb_refl : ∀ (n : Nat) (d : D), D.dat n d = true → D.eqb d d = true
  | _, .non, _ => by unfold D.eqb; rfl
  | _, .bl b, _ => by simp
  | _, .int b, _ => by simp
  | _, .str b, _ => by simp
  | 0, .nd k ds, h => by cases h
  | n + 1, .nd k ds, h => by
    have go : ds.all (D.dat n) = true → D.eqbs ds ds = true := fun h => eqbs_refl n ds (List.all_eq_true.mp h)
    cases k with
    | tup => rw [dat_tup] at h; simp [go h]
    | lst o => rw [dat_lst] at h; simp [go h]
    | _ => exact absurd h (by simp [D.dat])
theorem eqbs_refl : ∀ (n : Nat) (ds : List D), (∀ d ∈ ds, D.dat n d = true) → D.eqbs ds ds = true
  | _, [], _ => by simp
  | n, d :: ds, h => by
    rw [eqbs_cons, eqb_refl n d (h d List.mem_cons_self), eqbs_refl n ds fun e he => h e (List.mem_cons_of_mem _ he)]; rfl
end
theorem eq_of {d e : D} (h1 : D.dat 9 d = true) (h2 : D.dat 9 e = true) : D.eq d e = some (D.eqb d e) := by
  unfold D.eq; rw [h1, h2]; rfl
theorem ne_of {d e : D} (h1 : D.dat 9 d = true) (h2 : D.dat 9 e = true) : D.ne d e = some (!D.eqb d e) := by
  unfold D.ne; rw [eq_of h1 h2]; rfl
@[simp] theorem eq_int (i j : Int) : D.eq (.int i) (.int j) = some (i == j) := by rw [eq_of (by simp) (by simp)]; simp
@[simp] theorem ne_int (i j : Int) : D.ne (.int i) (.int j) = some (!(i == j)) := by rw [ne_of (by simp) (by simp)]; simp
@[simp] theorem eq_str (i j : Tx) : D.eq (.str i) (.str j) = some (i == j) := by rw [eq_of (by simp) (by simp)]; simp
@[simp] theorem ne_str (i j : Tx) : D.ne (.str i) (.str j) = some (!(i == j)) := by rw [ne_of (by simp) (by simp)]; simp
@[simp] theorem eq_bl (i j : Bool) : D.eq (.bl i) (.bl j) = some (i == j) := by rw [eq_of (by simp) (by simp)]; simp
@[simp] theorem ne_bl (i j : Bool) : D.ne (.bl i) (.bl j) = some (!(i == j)) := by rw [ne_of (by simp) (by simp)]; simp
theorem eqbs_map {α : Type} (f : α → D) (h : ∀ a b, D.eqb (f a) (f b) = true → a = b) : ∀ (xs ys : List α), D.eqbs (xs.map f) (ys.map f) = true → xs = ys
  | [], [], _ => rfl
  | [], _ :: _, h' => by simp at h'
  | _ :: _, [], h' => by simp at h'
  | x :: xs, y :: ys, h' => by
    simp only [List.map_cons, eqbs_cons, Bool.and_eq_true] at h'
    rw [h _ _ h'.1, eqbs_map f h xs ys h'.2]
/-! ### what no callee keeps -/
@[simp] theorem clr_non (t) : D.clr t .non = true := by unfold D.clr; rfl
@[simp] theorem clr_bl (t b) : D.clr t (.bl b) = true := by unfold D.clr; rfl
@[simp] theorem clr_int (t b) : D.clr t (.int b) = true := by unfold D.clr; rfl
@[simp] theorem clr_str (t b) : D.clr t (.str b) = true := by unfold D.clr; rfl
theorem clrs_all (t) : ∀ ds : List D, D.clrs t ds = ds.all (D.clr t)
  | [] => by unfold D.clrs; rfl
  | d :: ds => by rw [D.clrs, List.all_cons, clrs_all t ds]
@[simp] theorem clr_tup (t ds) : D.clr t (.tup ds) = ds.all (D.clr t) := by unfold D.clr; rw [clrs_all]; simp
@[simp] theorem clr_lstT (t ds) : D.clr t (.lst true ds) = ds.all (D.clr t) := by unfold D.clr; rw [clrs_all]; simp
theorem clr_nd (t k ds) : D.clr t (.nd k ds) = ((match k with | .tup => true | .lst o => o || !t.l | .dic o _ => o || !t.d | .obj o _ _ => o || !t.o | .scr => true | .xob _ _ => true) && ds.all (D.clr t)) := by rw [D.clr.eq_def]; simp only [clrs_all] <;> cases k <;> rfl
theorem lends_val {ds : List D} {d : D} (h : ∀ t, D.clr t d = true) : lends ds (.val d) = .val d := by
  unfold lends
  split
  · rfl
  · show (if D.clr (D.tgs ds) d = true then Res.val d else Res.bad) = _
    rw [if_pos (h _)]
theorem lends_bl {ds : List D} {b : Bool} : lends ds (.val (.bl b)) = .val (.bl b) := lends_val fun t => clr_bl t b
theorem lends_int {ds : List D} {b : Int} : lends ds (.val (.int b)) = .val (.int b) := lends_val fun t => clr_int t b
theorem lends_str {ds : List D} {b : Tx} : lends ds (.val (.str b)) = .val (.str b) := lends_val fun t => clr_str t b
/-! ### calls -/
theorem call_val {φ : List D → Res D} {l lk : XL} {ρ : Env} {ds ks : List D} {d : D} (h1 : l ρ = .val ds) (h2 : lk ρ = .val ks) (h3 : φ ((ds ++ ks).map D.frz) = .val d) (h4 : ∀ t, D.clr t d = true) : call φ l lk ρ = .val d := by
  unfold call; rw [h1, Res.bind_val, h2, Res.bind_val, h3, lends_val h4]
theorem call_fz {φ : List D → Res D} {l lk : XL} {ρ : Env} {ds ks : List D} (h1 : l ρ = .val ds) (h2 : lk ρ = .val ks) (h4 : (ds ++ ks).all D.fz = true) : call φ l lk ρ = φ (ds ++ ks) := by
  unfold call; rw [h1, Res.bind_val, h2, Res.bind_val, lends_fz h4]
  congr 1
  rw [List.all_eq_true] at h4
  exact (List.map_congr_left fun d hd => D.frz_fz (h4 d hd)).trans (List.map_id _)
theorem call_eq (φ : List D → Res D) (l lk : XL) (ρ : Env) : call φ l lk ρ = (l ρ).bind fun ds => (lk ρ).bind fun ks => lends (ds ++ ks) (φ ((ds ++ ks).map D.frz)) := rfl
/-- a kind: letter, size, worth -/
structure Kind where
  c : Nat
  size : Int
  worth : Int
  deriving DecidableEq
def Kind.d (k : Kind) : D := .tup [.str [k.c], .int k.size, .int k.worth]
theorem Kind.fz (k : Kind) : k.d.fz = true := (rfl)
theorem Kind.frz (k : Kind) : k.d.frz = k.d := D.frz_fz rfl
theorem Kind.clr (k : Kind) (t) : D.clr t k.d = true := by unfold Kind.d; simp
theorem Kind.dat (k : Kind) (n : Nat) : D.dat (n + 2) k.d = true := by unfold Kind.d; simp
/-- a letter as a text -/
def chD (c : Nat) : D := .str [c]
/-! ### one step each -/
def brn (f g : XS) (ρ : Env) (b : Bool) : SO := if b then f ρ else g ρ
@[simp] theorem brn_true (f g ρ) : brn f g ρ true = f ρ := rfl
@[simp] theorem brn_false (f g ρ) : brn f g ρ false = g ρ := rfl
theorem brn_pos {f g ρ b} (h : b = true) : brn f g ρ b = f ρ := by subst h; rfl
theorem brn_neg {f g ρ b} (h : b = false) : brn f g ρ b = g ρ := by subst h; rfl
theorem sSeq_r (f g ρ) : sSeq f g ρ = (f ρ).seq g := rfl
theorem sIf_r (t f g ρ) : sIf t f g ρ = (t ρ).so ρ (brn f g ρ) := rfl
theorem sNx_r (ρ) : sNx ρ = .nx ρ := rfl
theorem sBk_r (ρ) : sBk ρ = .bk ρ := rfl
theorem sCt_r (ρ) : sCt ρ = .ct ρ := rfl
theorem sRetN_r (ρ) : sRetN ρ = .rt .non := rfl
theorem sRet_r (a ρ) : sRet a ρ = (a ρ).so ρ .rt := rfl
theorem sSet_r (i a ρ) : sSet i a ρ = (a ρ).so ρ fun d => .nx (setE ρ i d) := rfl
theorem sDrop_r (a ρ) : sDrop a ρ = (a ρ).so ρ fun _ => .nx ρ := rfl
theorem sFrz_r (i f ρ) : sFrz i f ρ = f (frzE ρ i) := rfl
theorem sAug_r (g i a ρ) : sAug g i a ρ = (match getE ρ i with
  | some d => (a ρ).so ρ fun e => (Res.ofO (g d e)).so ρ fun r => .nx (setE ρ i r)
  | none => .bad) := rfl
theorem sAsg_r (g a ρ) : sAsg g a ρ = (a ρ).so ρ fun d => match g d ρ with
  | some ρ' => .nx ρ'
  | none => .bad := rfl
theorem sLst1_r (g i a ρ) : sLst1 g i a ρ = (match getE ρ i with
  | some (.nd (.lst true) ds) => (a ρ).so ρ fun v => (match g (.lst true ds) v with
    | some d' => .nx (setE ρ i d')
    | none => .bad)
  | _ => .bad) := rfl
theorem sLst2_r (g i k a ρ) : sLst2 g i k a ρ = (match getE ρ i with
  | some (.nd (.lst true) ds) => (k ρ).so ρ fun k => (a ρ).so ρ fun v => (match g (.lst true ds) k v with
    | some d' => .nx (setE ρ i d')
    | none => .bad)
  | _ => .bad) := rfl
theorem sLst0_r (g i ρ) : sLst0 g i ρ = (match getE ρ i with
  | some (.nd (.lst true) ds) => (match g (.lst true ds) with
    | some d' => .nx (setE ρ i d')
    | none => .bad)
  | _ => .bad) := rfl
theorem sPut_r (i k a ρ) : sPut i k a ρ = (a ρ).so ρ fun v => match getE ρ i with
  | some d => (k ρ).so ρ fun k => (match D.put d k v with
    | some d' => .nx (setE ρ i d')
    | none => .bad)
  | none => .bad := rfl
theorem sPop_r (j i ρ) : sPop j i ρ = (match getE ρ i with
  | some d => (match D.pop d with
    | some (e, d') => .nx (setE (setE ρ i d') j e)
    | none => .bad)
  | none => .bad) := rfl
theorem sFld_r (cn i n a ρ) : sFld cn i n a ρ = (a ρ).so ρ fun v => match getE ρ i with
  | some d => (match D.setF cn n d v with
    | some d' => .nx (setE ρ i d')
    | none => .bad)
  | none => .bad := rfl
theorem sFor_r (it g b ρ) : sFor it g b ρ = (it ρ).so ρ fun ds => forL g b ds ρ := rfl
theorem sP1_r (g i l a ρ) : sP1 g i l a ρ = (match getE ρ i with
  | some d => (l ρ).noX.so ρ fun ks => (match D.pth ks d with
    | some js => (match D.at js d with
      | some (.nd (.lst true) _) => (a ρ).so ρ fun v => (match D.upP js (fun e => g e v) d with
        | some d' => .nx (setE ρ i d')
        | none => .bad)
      | _ => .bad)
    | none => .bad)
  | none => .bad) := rfl
theorem sPutP_r (i l k a ρ) : sPutP i l k a ρ = (a ρ).so ρ fun v => match getE ρ i with
  | some d => (l ρ).noX.so ρ fun ks => (match D.pth ks d with
    | some js => (k ρ).so ρ fun k => (match D.upP js (fun e => D.put e k v) d with
      | some d' => .nx (setE ρ i d')
      | none => .bad)
    | none => .bad)
  | none => .bad := rfl
theorem sFrzP_r (i js f ρ) : sFrzP i js f ρ = f (frzPE ρ i js) := rfl
theorem lsnoc_r (l a ρ) : lsnoc l a ρ = (l ρ).noX.bind fun ds => (a ρ).noX.bind fun d => .val (ds ++ [d]) := rfl
theorem sRaise_r (c ns l ρ) : sRaise c ns l ρ = (l ρ).so ρ fun ds => if (ds.all D.fz && ds.length == ns.length) = true then .exc ρ c ns ds.reverse else .bad := rfl
/-- behind a try's body -/
def SO.tryS (all subs : List String) (i : Nat) (h : XS) : SO → SO
  | .exc ρ' c ns ds => if all.contains c then (if subs.contains c then (h (setE ρ' i (.nd (.xob c ns) ds))).unX i else .exc ρ' c ns ds) else .bad
  | r => r
theorem sTry_r (all subs i f h ρ) : sTry all subs i f h ρ = SO.tryS all subs i h (f ρ) := by
  unfold sTry SO.tryS
  cases f ρ <;> rfl
theorem tryS_nx (all subs i h ρ) : SO.tryS all subs i h (.nx ρ) = .nx ρ := rfl
theorem tryS_rt (all subs i h d) : SO.tryS all subs i h (.rt d) = .rt d := rfl
theorem tryS_exc (all subs i h ρ c ns ds) : SO.tryS all subs i h (.exc ρ c ns ds) = if all.contains c then (if subs.contains c then (h (setE ρ i (.nd (.xob c ns) ds))).unX i else .exc ρ c ns ds) else .bad := rfl
theorem unX_rt (i d) : SO.unX i (.rt d) = if d.nox then .rt d else .bad := rfl
theorem unX_nx (i ρ) : SO.unX i (.nx ρ) = if noxE (ρ.set i none) then .nx (ρ.set i none) else .bad := rfl
theorem fz_xob (c ns ds) : (D.nd (.xob c ns) ds).fz = true := rfl
theorem frz_xob (c ns ds) : (D.nd (.xob c ns) ds).frz = .nd (.xob c ns) ds := D.frz_fz rfl
theorem leak_xob (c ns ds) : leak (.nd (.xob c ns) ds) = .val (.nd (.xob c ns) ds) := rfl
theorem sPar_r (i j l ρ) : sPar i j l ρ = (l ρ).so ρ fun ds => (match ds with
  | [d, e] => .nx (setE (setE ρ i d) j e)
  | _ => .bad) := rfl
theorem iEn_r (a ρ) : iEn a ρ = (a ρ).bind fun d => match d with
  | .nd (.lst _) ds => if ds.all D.fz then .val (enumL 0 ds) else .bad
  | .nd .tup ds => .val (enumL 0 ds)
  | _ => .bad := rfl
theorem iZp_r (a b ρ) : iZp a b ρ = (a ρ).bind fun d => (b ρ).bind fun e => match d, e with
  | .nd (.lst _) ds, .nd (.lst _) es => if ds.all D.fz ∧ es.all D.fz then .val (zipL ds es) else .bad
  | .nd .tup ds, .nd (.lst _) es => if es.all D.fz then .val (zipL ds es) else .bad
  | _, _ => .bad := rfl
theorem iRg2_r (a b ρ) : iRg2 a b ρ = (a ρ).bind fun d => (b ρ).bind fun e => match d, e with
  | .int i, .int j => if RgOk i ∧ RgOk j then .val (Lc.rngD i (j - i).toNat) else .bad
  | _, _ => .bad := rfl
theorem iRgD_r (a b ρ) : iRgD a b ρ = (a ρ).bind fun d => (b ρ).bind fun e => match d, e with
  | .int i, .int j => if RgOk i ∧ RgOk j then .val (rngDn i (i - j).toNat) else .bad
  | _, _ => .bad := rfl
theorem unS_r (g a ρ) : unS g a ρ = (a ρ).bind fun d => match d with
  | .str _ => .ofO (g d)
  | _ => .bad := rfl
theorem pth_nil (d) : D.pth [] d = some [] := by unfold D.pth; rfl
theorem pth_cons {i : Int} {ks ds} {j : Nat} {e : D} {js : List Nat} (h1 : ixN ds.length i = some j) (h2 : ds[j]? = some e) (h3 : D.pth ks e = some js) : D.pth (.int i :: ks) (.lst true ds) = some (j :: js) := by
  show (match ixN ds.length i with
    | some j => (match ds[j]? with
      | some e => (match D.pth ks e with
        | some js => some (j :: js)
        | none => none)
      | none => none)
    | none => none) = _
  simp only [h1, h2, h3]
theorem cst_r (d ρ) : cst d ρ = .val d := rfl
theorem bvar_r (i ρ) : bvar i ρ = .ofO (getE ρ i) := rfl
def bwF (k : Int) : Option D → Res D
  | some (.nd (.lst _) ds) => .ofO (atI ds k)
  | some d => (Res.ofO (D.idx d (.int k))).bind leak
  | none => .bad
theorem bwi_r (i k ρ) : bwi i k ρ = bwF k (getE ρ i) := rfl
theorem bwF_lst (k o ds) : bwF k (some (.lst o ds)) = .ofO (atI ds k) := rfl
theorem bwF_str (k t) : bwF k (some (.str t)) = (Res.ofO (D.idx (.str t) (.int k))).bind leak := rfl
theorem bwF_tup (k ds) : bwF k (some (.tup ds)) = (Res.ofO (D.idx (.tup ds) (.int k))).bind leak := rfl
theorem bwF_scr (k ds) : bwF k (some (.nd .scr ds)) = (Res.ofO (D.idx (.nd .scr ds) (.int k))).bind leak := rfl
theorem bwF_kind (k) (x : Kind) : bwF k (some x.d) = (Res.ofO (D.idx x.d (.int k))).bind leak := rfl
theorem bnR_r (g a b ρ) : bnR g a b ρ = (a ρ).bind fun d => (b ρ).bind fun e => g d e := rfl
theorem lk_r (a ρ) : lk a ρ = (a ρ).bind leak := rfl
theorem un_r (g a ρ) : un g a ρ = (a ρ).bind fun d => .ofO (g d) := rfl
theorem bn_r (g a b ρ) : bn g a b ρ = (a ρ).bind fun d => (b ρ).bind fun e => .ofO (g d e) := rfl
theorem tbn_r (g a b ρ) : tbn g a b ρ = (a ρ).bind fun d => (b ρ).bind fun e => .ofO (g d e) := rfl
theorem tun_r (g a ρ) : tun g a ρ = (a ρ).bind fun d => .ofO (g d) := rfl
theorem tnd_r (t u ρ) : tnd t u ρ = (t ρ).bind fun b => if b then u ρ else .val false := rfl
theorem tor_r (t u ρ) : tor t u ρ = (t ρ).bind fun b => if b then .val true else u ρ := rfl
theorem tnt_r (t ρ) : tnt t ρ = (t ρ).bind fun b => .val (!b) := rfl
theorem ofB_r (t ρ) : ofB t ρ = (t ρ).bind fun b => .val (.bl b) := rfl
theorem vand_r (a b ρ) : vand a b ρ = (a ρ).bind fun d => (match d with | .bl true => b ρ | .bl false => .val (.bl false) | _ => .bad) := rfl
theorem vor_r (a b ρ) : vor a b ρ = (a ρ).bind fun d => (match d with | .bl true => .val (.bl true) | .bl false => b ρ | _ => .bad) := rfl
theorem iff_r (t a b ρ) : iff t a b ρ = (t ρ).bind fun c => if c then a ρ else b ρ := rfl
theorem lnil_r (ρ) : lnil ρ = .val [] := rfl
theorem lcons_r (a l ρ) : lcons a l ρ = (a ρ).bind fun d => (l ρ).bind fun ds => .val (d :: ds) := rfl
theorem pno_r (ρ) : pno ρ = .val none := rfl
theorem pso_r (a ρ) : pso a ρ = (a ρ).bind fun d => (match d with | .int i => .val (some i) | _ => .bad) := rfl
theorem sli_r (a l h ρ) : sli a l h ρ = (a ρ).bind fun d => (l ρ).bind fun i => (h ρ).bind fun j => .ofO (D.cut d i j) := rfl
theorem mtup_r (l ρ) : mtup l ρ = (l ρ).bind fun ds => if ds.length ≤ LINE then .val (.tup (ds.map D.frz)) else .bad := rfl
theorem mlst_r (l ρ) : mlst l ρ = (l ρ).bind fun ds => if ds.length ≤ LINE then .val (.lst true ds) else .bad := rfl
theorem mdic_r (ρ) : mdic ρ = .val (.dic true [] []) := rfl
theorem meth_r (c m φ o l lk ρ) : meth c m φ o l lk ρ = (o ρ).bind fun d => if d.isObjM c m then (l ρ).bind fun ds => (lk ρ).bind fun ks => lends (d :: (ds ++ ks)) (φ (d.frz :: (ds ++ ks).map D.frz)) else .bad := rfl
theorem tchn_r (g h a b c ρ) : tchn g h a b c ρ = (a ρ).bind fun d => (b ρ).bind fun e => (Res.ofO (g d e)).bind fun k => if k then (c ρ).bind fun f => .ofO (h e f) else .val false := rfl
theorem bnS_r (g a b ρ) : bnS g a b ρ = (a ρ).bind fun d => match d with
  | .str _ => (b ρ).bind fun e => .ofO (g d e)
  | _ => .bad := rfl
def dgF (k x : XP) (ρ : Env) (d : D) : Res D := match d with
  | .nd (.dic _ _) _ => (k ρ).bind fun k => (x ρ).bind fun x => .ofO (D.getd d k x)
  | _ => .bad
theorem dgetX_r (a k x ρ) : dgetX a k x ρ = (a ρ).bind (dgF k x ρ) := rfl
theorem iSeqF_r (a ρ) : iSeqF a ρ = (a ρ).bind fun d => (match d with
  | .nd (.lst true) ds => .val (ds.map D.frz)
  | _ => .bad) := rfl
theorem iSeqF_l (ds : List D) : (match D.lst true ds with
  | .nd (.lst true) ds => Res.val (ds.map D.frz)
  | _ => .bad) = .val (ds.map D.frz) := rfl
theorem iSeq_r (a ρ) : iSeq a ρ = (a ρ).bind fun d => if D.noDic d then .ofO (D.its d) else .bad := rfl
def kvF (r : Res D) (z : Res (List D)) : Res (List D) := match r with
  | .val (.nd (.dic o ks) _) => if o = false ∧ ks.all Ky.isA then .val (ks.map Ky.d) else .bad
  | _ => z
theorem iKv_r (f1 f2 ρ) : iKv f1 f2 ρ = kvF (f1 ρ) (iSeq f2 ρ) := rfl
theorem kvF_tup (ds z) : kvF (.val (.tup ds)) z = z := rfl
theorem kvF_lst (o ds z) : kvF (.val (.lst o ds)) z = z := rfl
theorem kvF_str (t z) : kvF (.val (.str t)) z = z := rfl
theorem iRg1_r (a ρ) : iRg1 a ρ = (a ρ).bind fun d => match d with
  | .int j => if RgOk j then .val (Lc.rngD 0 j.toNat) else .bad
  | _ => .bad := rfl
theorem comp_r (it g t e vs ρ) : comp it g t e vs ρ = (it ρ).bind fun ds => (compL g t e (wipeE ρ vs) ds).noX.bind fun xs => if ds.length ≤ LINE then .val (.lst true xs) else .bad := rfl
theorem gSet_r (i d ρ) : gSet i d ρ = some (setE ρ i d) := rfl
theorem gTup_r (gs ds ρ) : gTup gs (.tup ds) ρ = gAll gs ds ρ := rfl
def atF (ps : Props) (n : String) (d : D) : Res D := match d with
  | .nd (.obj _ c ns) vs => (match ps.get c n with
    | some (some φ) => (lends [d] (φ [d.frz])).nx
    | some none => .ofO (fget ns vs n)
    | none => .bad)
  | _ => .bad
theorem attr_r (ps n o ρ) : attr ps n o ρ = (o ρ).bind (atF ps n) := by
  unfold attr
  congr 1
theorem atF_fld {ps n o c ns vs} (h : ps.get c n = some none) : atF ps n (.obj o c ns vs) = .ofO (fget ns vs n) := by
  show (match ps.get c n with
    | some (some φ) => (lends [.obj o c ns vs] (φ [D.frz (.obj o c ns vs)])).nx
    | some none => .ofO (fget ns vs n)
    | none => .bad) = _
  rw [h]
theorem atF_get {ps n o c ns vs φ} (h : ps.get c n = some (some φ)) : atF ps n (.obj o c ns vs) = (lends [.obj o c ns vs] (φ [D.frz (.obj o c ns vs)])).nx := by
  show (match ps.get c n with
    | some (some φ) => (lends [.obj o c ns vs] (φ [D.frz (.obj o c ns vs)])).nx
    | some none => .ofO (fget ns vs n)
    | none => .bad) = _
  rw [h]
theorem isTy_int (i T) : D.isTy (.int i) T = some (T == "int") := rfl
theorem isTy_bl (i T) : D.isTy (.bl i) T = some (T == "bool" || T == "int") := rfl
theorem isTy_str (i T) : D.isTy (.str i) T = some (T == "str") := rfl
theorem isTy_tup (i T) : D.isTy (.tup i) T = some (T == "tuple") := rfl
theorem isTy_lst (o i T) : D.isTy (.lst o i) T = some (T == "list") := rfl
theorem isTy_non (T) : D.isTy .non T = some false := rfl
theorem isTy_kind (k : Kind) (T) : D.isTy k.d T = some (T == "tuple") := rfl
theorem len_kind (k : Kind) : D.len k.d = some (.int 3) := rfl
theorem idx_kind (k : Kind) (j) : D.idx k.d (.int j) = atI [.str [k.c], .int k.size, .int k.worth] j := rfl
theorem leak_kind (k : Kind) : leak k.d = .val k.d := rfl
theorem fz_scr (ds) : D.fz (.nd .scr ds) = true := rfl
theorem frz_scr (ds) : D.frz (.nd .scr ds) = .nd .scr ds := D.frz_fz rfl
theorem clear_lst (ds) : D.clear (.lst true ds) = some (.lst true []) := rfl
theorem insert_ok {ds : List D} {i : Int} {v : D} (h : ds.length < LINE ∧ 0 ≤ i ∧ i < 2 ^ 62) : D.insert (.lst true ds) (.int i) v = some (.lst true (ds.take i.toNat ++ [v] ++ ds.drop i.toNat)) := if_pos h
theorem ite_val {α : Type} (c : Prop) [Decidable c] (a b : α) : (if c then Res.val a else Res.val b) = Res.val (if c then a else b) := by split <;> rfl
theorem add_lst {o o' xs ys} (h : xs.length + ys.length ≤ LINE) (h1 : xs.all D.fz = true) (h2 : ys.all D.fz = true) : D.add (.lst o xs) (.lst o' ys) = some (.lst true (xs ++ ys)) := if_pos ⟨h, h1, h2⟩
theorem leak_lstT (b) : leak (.lst true b) = .bad := rfl
theorem noDic_lst (o ds) : D.noDic (.lst o ds) = true := rfl
theorem noDic_tup (ds) : D.noDic (.tup ds) = true := rfl
theorem noDic_str (ds) : D.noDic (.str ds) = true := rfl
theorem its_tup (ds) : D.its (.tup ds) = some ds := rfl
theorem its_str (t) : D.its (.str t) = some (t.map chD) := rfl
theorem its_lst {o ds} (h : ds.all D.fz = true) : D.its (.lst o ds) = some ds := if_pos h
theorem app_ok {ds v} (h : ds.length < LINE) : D.app (.lst true ds) v = some (.lst true (ds ++ [v])) := if_pos h
theorem toList_lst {o ds} (h : ds.all D.fz = true) : D.toList (.lst o ds) = some (.lst true ds) := if_pos h
theorem toTup_lst {o ds} (h : ds.all D.fz = true) : D.toTup (.lst o ds) = some (.tup ds) := if_pos h
theorem fz_map_int (l : List Int) : (l.map D.int).all D.fz = true := by simp
theorem fz_map_str (l : List Tx) : (l.map D.str).all D.fz = true := by simp
theorem frz_map_int (l : List Int) : (l.map D.int).map D.frz = l.map D.int := by simp
theorem frz_map_str (l : List Tx) : (l.map D.str).map D.frz = l.map D.str := by simp
theorem LINE_0 : (0 ≤ LINE) = True := eq_true (by decide)
theorem LINE_1 : (1 ≤ LINE) = True := eq_true (by decide)
theorem LINE_2 : (2 ≤ LINE) = True := eq_true (by decide)
theorem LINE_3 : (3 ≤ LINE) = True := eq_true (by decide)
theorem LINE_4 : (4 ≤ LINE) = True := eq_true (by decide)
theorem LINE_5 : (5 ≤ LINE) = True := eq_true (by decide)
theorem LINE_6 : (6 ≤ LINE) = True := eq_true (by decide)
theorem LINE_7 : (7 ≤ LINE) = True := eq_true (by decide)
theorem LINE_8 : (8 ≤ LINE) = True := eq_true (by decide)
theorem LINE_9 : (9 ≤ LINE) = True := eq_true (by decide)
theorem LINE_10 : (10 ≤ LINE) = True := eq_true (by decide)
theorem LINE_11 : (11 ≤ LINE) = True := eq_true (by decide)
theorem LINE_12 : (12 ≤ LINE) = True := eq_true (by decide)
theorem LINE_26 : (26 ≤ LINE) = True := eq_true (by decide)
theorem LINE_28 : (28 ≤ LINE) = True := eq_true (by decide)
theorem AZ_len : AZ.length = 26 := (rfl)
theorem VW_len : VW.length = 28 := (rfl)
theorem LINE_lt {n : Nat} (h : n < 16777216) : n < LINE := h
theorem LINE_le {n : Nat} (h : n ≤ 16777216) : n ≤ LINE := h
def SO.fin : SO → Res D
  | .nx _ => .val .non
  | .rt d => .val d
  | .exc _ c ns vs => .exc c ns vs
  | _ => .bad
@[simp] theorem fin_nx (ρ) : (SO.nx ρ).fin = .val .non := rfl
@[simp] theorem fin_rt (d) : (SO.rt d).fin = .val d := rfl
@[simp] theorem fin_exc (ρ c ns vs) : (SO.exc ρ c ns vs).fin = .exc c ns vs := rfl
theorem fnP_r (np n f ds) : fnP np n f ds = if ds.length = np then (f (startE n ds)).fin else .bad := by
  unfold fnP
  split
  · cases f (startE n ds) <;> rfl
  · rfl
theorem mkP_r (fz c np n f ds) : mkP fz c np n f ds = if ds.length = np then (match f (startE n (.obj true c [] [] :: ds)) with
  | .nx ρ => (match getE ρ 0 with
    | some d => .val (if fz then d.frz else d)
    | none => .bad)
  | .exc _ c ns vs => .exc c ns vs
  | _ => .bad) else .bad := rfl
theorem cut_str (t lo hi) : D.cut (.str t) lo hi = some (.str (cutL t lo hi)) := (rfl)
theorem cut_lst {o ds lo hi} (h : ds.all D.fz = true) : D.cut (.lst o ds) lo hi = some (.lst true (cutL ds lo hi)) := if_pos h
theorem cut_to {α : Type} (xs : List α) {v : Int} (h : 0 ≤ v) : cutL xs none (some v) = xs.take v.toNat := by
  unfold cutL sIx
  simp only [Int.not_lt.mpr h, if_false, List.drop_zero, Nat.sub_zero]
  rw [show min v.toNat xs.length = min v.toNat xs.length from rfl, List.take_eq_take_iff]
  omega
theorem cut_from {α : Type} (xs : List α) {v : Int} (h : 0 ≤ v) : cutL xs (some v) none = xs.drop v.toNat := by
  unfold cutL sIx
  simp only [Int.not_lt.mpr h, if_false]
  rw [List.take_of_length_le (by simp), List.drop_eq_drop_iff]
  omega
theorem cut_mid {α : Type} (xs : List α) {v w : Int} (h : 0 ≤ v) (h2 : 0 ≤ w) : cutL xs (some v) (some w) = (xs.drop v.toNat).take (w.toNat - v.toNat) := by
  unfold cutL sIx
  simp only [Int.not_lt.mpr h, Int.not_lt.mpr h2, if_false]
  by_cases hv : v.toNat ≤ xs.length
  · rw [Nat.min_eq_left hv, List.take_eq_take_iff, List.length_drop]
    omega
  · rw [List.drop_eq_nil_of_le (by omega), List.drop_eq_nil_of_le (by omega)]
    simp
theorem idx_at {α : Type} {xs : List α} {i : Int} {k : Nat} (h : i = k) (hk : k < xs.length) : atI xs i = some xs[k] := by
  subst h; rw [atI_nat, List.getElem?_eq_getElem hk]
theorem fz_map {α : Type} (f : α → D) (h : ∀ a, (f a).fz = true) (l : List α) : (l.map f).all D.fz = true := by
  rw [List.all_map, List.all_eq_true]; exact fun a _ => h a
theorem frz_map {α : Type} (f : α → D) (h : ∀ a, (f a).fz = true) (l : List α) : (l.map f).map D.frz = l.map f := by
  rw [List.map_map]; exact List.map_congr_left fun a _ => D.frz_fz (h a)
theorem clr_map {α : Type} (t) (f : α → D) (h : ∀ a, D.clr t (f a) = true) (l : List α) : (l.map f).all (D.clr t) = true := by
  rw [List.all_map, List.all_eq_true]; exact fun a _ => h a
theorem fz_map_kind (l : List Kind) : (l.map Kind.d).all D.fz = true := fz_map _ Kind.fz l
theorem frz_map_kind (l : List Kind) : (l.map Kind.d).map D.frz = l.map Kind.d := frz_map _ Kind.fz l
theorem clr_map_kind (t) (l : List Kind) : (l.map Kind.d).all (D.clr t) = true := clr_map t _ (fun k => k.clr t) l
theorem clr_map_int (t) (l : List Int) : (l.map D.int).all (D.clr t) = true := clr_map t _ (fun k => clr_int t k) l
theorem clr_map_str (t) (l : List Tx) : (l.map D.str).all (D.clr t) = true := clr_map t _ (fun k => clr_str t k) l
theorem leak_ch (c) : leak (chD c) = .val (chD c) := (rfl)
theorem frz_ch (c) : D.frz (chD c) = chD c := (D.frz_fz rfl)
theorem fz_ch (c) : D.fz (chD c) = true := (rfl)
theorem clr_ch (t c) : D.clr t (chD c) = true := clr_str t [c]
theorem fz_map_ch (l : List Nat) : (l.map chD).all D.fz = true := fz_map _ (fun _ => rfl) l
theorem frz_map_ch (l : List Nat) : (l.map chD).map D.frz = l.map chD := frz_map _ (fun _ => rfl) l
theorem clr_map_ch (t) (l : List Nat) : (l.map chD).all (D.clr t) = true := clr_map t _ (fun k => clr_str t [k]) l
theorem log2_le {n k : Nat} (h : n < 2 ^ k) : n.log2 ≤ k := by
  by_cases h0 : n = 0
  · subst h0; simp
  · exact Nat.le_of_lt ((Nat.log2_lt h0).mpr h)
/-- a number that the script may bring -/
def Snum (c : Int) : Prop := c.natAbs.log2 ≤ 2000000
theorem mul_sm {c j : Int} (h : Snum c) (hj : j.natAbs < 2 ^ 64) : D.mul (.int c) (.int j) = some (.int (c * j)) := mul_int (by
  have := log2_le hj
  unfold Snum at h
  unfold MulOk; omega)
theorem mul_s {i j : Int} (hi : i.natAbs < 2 ^ 64) (hj : j.natAbs < 2 ^ 64) : D.mul (.int i) (.int j) = some (.int (i * j)) := mul_int (by
  have := log2_le hi
  have := log2_le hj
  unfold MulOk; omega)
theorem pow_ok : D.pow (.int 10) (.int 18) = some (.int 1000000000000000000) := by rfl
/-! ### loops -/
theorem forL_inv {α : Type} {g : XG} {b : XS} (emb : α → D) (I : List α → Env → Prop) (l : List α)
    (h : ∀ done a rest ρ, l = done ++ a :: rest → I done ρ → ∃ ρ', g (emb a) ρ = some ρ' ∧ ∃ ρ'', (b ρ' = .nx ρ'' ∨ b ρ' = .ct ρ'') ∧ I (done ++ [a]) ρ'') {ρ : Env} (h0 : I [] ρ) :
    ∃ ρ', forL g b (l.map emb) ρ = .nx ρ' ∧ I l ρ' := by
  have go : ∀ rest done ρ, l = done ++ rest → I done ρ → ∃ ρ', forL g b (rest.map emb) ρ = .nx ρ' ∧ I l ρ' := by
    intro rest
    induction rest with
    | nil => intro done ρ e i; rw [List.append_nil] at e; subst e; exact ⟨ρ, rfl, i⟩
    | cons a rest ih =>
      intro done ρ e i
      obtain ⟨ρ', e1, ρ'', e2, i2⟩ := h done a rest ρ e i
      obtain ⟨ρ3, e3, i3⟩ := ih (done ++ [a]) ρ'' (by rw [e, List.append_assoc]; rfl) i2
      refine ⟨ρ3, ?_, i3⟩
      rw [List.map_cons, forL, e1]
      rcases e2 with e2 | e2
      · simp only [e2, SO.turn_nx, e3]
      · simp only [e2, SO.turn_ct, e3]
  exact go l [] ρ rfl h0
/-- .. that may be left by a return or an exception -/
theorem forL_or {α : Type} {g : XG} {b : XS} (emb : α → D) (I : List α → Env → Prop) (Q : SO → Prop) (l : List α)
    (h : ∀ done a rest ρ, l = done ++ a :: rest → I done ρ → ∃ ρ', g (emb a) ρ = some ρ' ∧ ((∃ ρ'', (b ρ' = .nx ρ'' ∨ b ρ' = .ct ρ'') ∧ I (done ++ [a]) ρ'') ∨ (Q (b ρ') ∧ ∀ k, (b ρ').turn k = b ρ'))) {ρ : Env} (h0 : I [] ρ) :
    (∃ ρ', forL g b (l.map emb) ρ = .nx ρ' ∧ I l ρ') ∨ Q (forL g b (l.map emb) ρ) := by
  have go : ∀ rest done ρ, l = done ++ rest → I done ρ → (∃ ρ', forL g b (rest.map emb) ρ = .nx ρ' ∧ I l ρ') ∨ Q (forL g b (rest.map emb) ρ) := by
    intro rest
    induction rest with
    | nil => intro done ρ e i; rw [List.append_nil] at e; subst e; exact .inl ⟨ρ, rfl, i⟩
    | cons a rest ih =>
      intro done ρ e i
      obtain ⟨ρ', e1, h2⟩ := h done a rest ρ e i
      rw [List.map_cons, forL, e1]
      rcases h2 with ⟨ρ'', e2, i2⟩ | ⟨q, ht⟩
      · have hh := ih (done ++ [a]) ρ'' (by rw [e, List.append_assoc]; rfl) i2
        rcases e2 with e2 | e2
        · simp only [e2, SO.turn_nx]; exact hh
        · simp only [e2, SO.turn_ct]; exact hh
      · right
        simp only [ht]
        exact q
  exact go l [] ρ rfl h0
/-- over the first n rngD -/
theorem forL_rng {g : XG} {b : XS} (I : Nat → Env → Prop) (n : Nat)
    (h : ∀ i ρ, i < n → I i ρ → ∃ ρ', g (.int (i : Int)) ρ = some ρ' ∧ ∃ ρ'', (b ρ' = .nx ρ'' ∨ b ρ' = .ct ρ'') ∧ I (i + 1) ρ'') {ρ : Env} (h0 : I 0 ρ) :
    ∃ ρ', forL g b (rngD 0 n) ρ = .nx ρ' ∧ I n ρ' := by
  have e : rngD 0 n = (List.range n).map fun (i : Nat) => D.int (i : Int) := by
    unfold rngD; exact List.map_congr_left fun i _ => by rw [Int.zero_add]
  rw [e]
  have hr := forL_inv (g := g) (b := b) (fun (i : Nat) => D.int (i : Int)) (fun done ρ => I done.length ρ) (List.range n) (fun done a rest ρ e i => by
    have hl := congrArg List.length e
    simp only [List.length_range, List.length_append, List.length_cons] at hl
    have ha : a = done.length := by
      have := congrArg (fun l => l[done.length]?) e
      simp only [List.getElem?_append_right (Nat.le_refl _), Nat.sub_self, List.getElem?_cons_zero] at this
      rw [List.getElem?_range (by omega)] at this
      exact (Option.some.inj this).symm
    subst ha
    obtain ⟨ρ', e1, ρ'', e2, i2⟩ := h done.length ρ (by omega) i
    exact ⟨ρ', e1, ρ'', e2, by rw [List.length_append]; exact i2⟩) (ρ := ρ) h0
  simpa using hr
/-- .. that may be left -/
theorem forL_rngor {g : XG} {b : XS} (I : Nat → Env → Prop) (Q : SO → Prop) (n : Nat)
    (h : ∀ i ρ, i < n → I i ρ → ∃ ρ', g (.int (i : Int)) ρ = some ρ' ∧ ((∃ ρ'', (b ρ' = .nx ρ'' ∨ b ρ' = .ct ρ'') ∧ I (i + 1) ρ'') ∨ (Q (b ρ') ∧ ∀ k, (b ρ').turn k = b ρ'))) {ρ : Env} (h0 : I 0 ρ) :
    (∃ ρ', forL g b (rngD 0 n) ρ = .nx ρ' ∧ I n ρ') ∨ Q (forL g b (rngD 0 n) ρ) := by
  have e : rngD 0 n = (List.range n).map fun (i : Nat) => D.int (i : Int) := by
    unfold rngD; exact List.map_congr_left fun i _ => by rw [Int.zero_add]
  rw [e]
  have hr := forL_or (g := g) (b := b) (fun (i : Nat) => D.int (i : Int)) (fun done ρ => I done.length ρ) Q (List.range n) (fun done a rest ρ e i => by
    have hl := congrArg List.length e
    simp only [List.length_range, List.length_append, List.length_cons] at hl
    have ha : a = done.length := by
      have := congrArg (fun l => l[done.length]?) e
      simp only [List.getElem?_append_right (Nat.le_refl _), Nat.sub_self, List.getElem?_cons_zero] at this
      rw [List.getElem?_range (by omega)] at this
      exact (Option.some.inj this).symm
    subst ha
    obtain ⟨ρ', e1, h2⟩ := h done.length ρ (by omega) i
    refine ⟨ρ', e1, ?_⟩
    rcases h2 with ⟨ρ'', e2, i2⟩ | q
    · exact .inl ⟨ρ'', e2, by rw [List.length_append]; exact i2⟩
    · exact .inr q) (ρ := ρ) h0
  simpa using hr
/-! ### comprehensions -/
theorem compL_map {α : Type} {g : XG} {t : XB} {e : XP} {ρ : Env} (emb : α → D) (p : α → Bool) (f : α → D) : ∀ (l : List α),
    (∀ a ∈ l, ∃ ρ', g (emb a) ρ = some ρ' ∧ t ρ' = .val (p a) ∧ (p a = true → e ρ' = .val (f a))) → compL g t e ρ (l.map emb) = .val ((l.filter p).map f)
  | [], _ => rfl
  | a :: l, h => by
    obtain ⟨ρ', e1, e2, e3⟩ := h a List.mem_cons_self
    have ih := compL_map emb p f l fun b hb => h b (List.mem_cons_of_mem _ hb)
    rw [List.map_cons, compL, e1]
    simp only [e2, Res.noX_val, Res.bind_val]
    cases hp : p a with
    | true => simp only [if_true, e3 hp, Res.noX_val, Res.bind_val, ih, List.filter_cons_of_pos hp, List.map_cons]
    | false => simp only [Bool.false_eq_true, if_false, ih, List.filter_cons_of_neg (show ¬ p a = true by rw [hp]; exact Bool.false_ne_true)]
theorem compL_all {α : Type} {g : XG} {e : XP} {ρ : Env} (emb : α → D) (f : α → D) (l : List α)
    (h : ∀ a ∈ l, ∃ ρ', g (emb a) ρ = some ρ' ∧ e ρ' = .val (f a)) : compL g tYes e ρ (l.map emb) = .val (l.map f) := by
  have := compL_map (g := g) (t := tYes) (e := e) (ρ := ρ) emb (fun _ => true) f l fun a ha => by
    obtain ⟨ρ', e1, e2⟩ := h a ha
    exact ⟨ρ', e1, rfl, fun _ => e2⟩
  rwa [List.filter_eq_self.mpr fun _ _ => rfl] at this
/-! ### dicts -/
theorem kget_no {α : Type} : ∀ {ks : List Ky} {vs : List α} {k : Ky}, k ∉ ks → kget ks vs k = none
  | [], _, _, _ => by unfold kget; rfl
  | _ :: _, [], _, _ => by unfold kget; rfl
  | k' :: ks, v :: vs, k, h => by
    unfold kget
    rw [if_neg (fun e : k' = k => h (e ▸ List.mem_cons_self))]
    exact kget_no fun hk => h (List.mem_cons_of_mem _ hk)
theorem kput_new {α : Type} : ∀ {ks : List Ky} {vs : List α} {k : Ky} {v : α}, k ∉ ks → vs.length = ks.length → kputK ks k = ks ++ [k] ∧ kputV ks vs k v = vs ++ [v]
  | [], [], _, _, _, _ => ⟨rfl, rfl⟩
  | k' :: ks, v' :: vs, k, v, h, hl => by
    obtain ⟨h1, h2⟩ := kput_new (ks := ks) (vs := vs) (k := k) (v := v) (fun hk => h (List.mem_cons_of_mem _ hk)) (by simpa using hl)
    unfold kputK kputV
    rw [if_neg (fun e : k' = k => h (e ▸ List.mem_cons_self)), if_neg (fun e : k' = k => h (e ▸ List.mem_cons_self)), h1, h2]
    exact ⟨rfl, rfl⟩
end Lc
end
section
set_option linter.all false
namespace Lc
theorem sm_bits {z : Int} (h : PySem.Builtin.Int.intBits z ≤ 1048576) : Snum z := by
  unfold PySem.Builtin.Int.intBits at h
  unfold Snum
  split at h
  · rename_i e
    have : z = 0 := by simpa using e
    subst this; simp
  · omega
end Lc
end
section
set_option linter.all false
namespace Lc
/-! ### dicts with texts as keys -/
def dicP (o : Bool) (kvs : List (Tx × D)) : D := .dic o (kvs.map fun p => .a (.s p.1)) (kvs.map (·.2))
def putP (kvs : List (Tx × D)) (t : Tx) (v : D) : List (Tx × D) := match kvs with
  | [] => [(t, v)]
  | (t', v') :: r => if t' = t then (t', v) :: r else (t', v') :: putP r t v
theorem kOk_s (l : List Tx) (t : Tx) : kOk (l.map fun p => Ky.a (.s p)) (.a (.s t)) = true := by
  unfold kOk; rw [List.all_map, List.all_eq_true]; intro x _; rfl
theorem kget_P (t : Tx) : ∀ kvs : List (Tx × D), kget (kvs.map fun p => Ky.a (.s p.1)) (kvs.map (·.2)) (.a (.s t)) = kvs.lookup t
  | [] => rfl
  | (t', v) :: r => by
    rw [List.map_cons, List.map_cons, kget]
    by_cases h : t' = t
    · subst h; simp
    · have h2 : (t == t') = false := by simpa using fun e => h e.symm
      have h3 : ¬ (Ky.a (.s t') = Ky.a (.s t)) := fun e => h (by injection e with e; injection e)
      simp only [h3, if_false, List.lookup, h2]
      exact kget_P t r
theorem kput_P (t : Tx) (v : D) : ∀ kvs : List (Tx × D), kputK (kvs.map fun p => Ky.a (.s p.1)) (.a (.s t)) = (putP kvs t v).map (fun p => Ky.a (.s p.1)) ∧ kputV (kvs.map fun p => Ky.a (.s p.1)) (kvs.map (·.2)) (.a (.s t)) v = (putP kvs t v).map (·.2)
  | [] => ⟨rfl, rfl⟩
  | (t', v') :: r => by
    obtain ⟨h1, h2⟩ := kput_P t v r
    simp only [List.map_cons, kputK, kputV, putP]
    by_cases h : t' = t
    · subst h; simp
    · have h3 : ¬ (Ky.a (.s t') = Ky.a (.s t)) := fun e => h (by injection e with e; injection e)
      simp only [h3, h, if_false, List.map_cons, h1, h2, and_self]
theorem idx_P (o kvs t) : D.idx (dicP o kvs) (.str t) = kvs.lookup t := by
  unfold dicP
  rw [idx_dic]
  show (if kOk (kvs.map fun p => Ky.a (.s p.1)) (.a (.s t)) = true then _ else _) = _
  rw [show (kvs.map fun p => Ky.a (.s p.1)) = (kvs.map (·.1)).map (fun p => Ky.a (.s p)) by rw [List.map_map]; rfl, kOk_s, if_pos rfl, List.map_map]
  exact kget_P t kvs
theorem isIn_P (o kvs t) : D.isIn (.str t) (dicP o kvs) = some (kvs.lookup t).isSome := by
  unfold dicP
  show (if kOk (kvs.map fun p => Ky.a (.s p.1)) (.a (.s t)) = true then _ else _) = _
  rw [show (kvs.map fun p => Ky.a (.s p.1)) = (kvs.map (·.1)).map (fun p => Ky.a (.s p)) by rw [List.map_map]; rfl, kOk_s, if_pos rfl, List.map_map]
  exact congrArg (fun z => some (Option.isSome z)) (kget_P t kvs)
theorem notIn_P (o kvs t) : D.notIn (.str t) (dicP o kvs) = some (!(kvs.lookup t).isSome) := by
  unfold D.notIn; rw [isIn_P]; rfl
theorem put_P {kvs t v} (h : kvs.length < LINE) : D.put (dicP true kvs) (.str t) v = some (dicP true (putP kvs t v)) := by
  unfold dicP
  show (if kOk (kvs.map fun p => Ky.a (.s p.1)) (.a (.s t)) = true ∧ _ then _ else _) = _
  rw [show kOk (kvs.map fun p => Ky.a (.s p.1)) (.a (.s t)) = true by
    rw [show (kvs.map fun p => Ky.a (.s p.1)) = (kvs.map (·.1)).map (fun p => Ky.a (.s p)) by rw [List.map_map]; rfl]; exact kOk_s _ _, if_pos ⟨rfl, by rw [List.length_map]; exact h⟩]
  obtain ⟨h1, h2⟩ := kput_P t v kvs
  rw [h1, h2]
theorem getd_P {o kvs t x} (h1 : (kvs.map (·.2)).all D.fz = true) (h2 : x.fz = true) : D.getd (dicP o kvs) (.str t) x = some ((kvs.lookup t).getD x) := by
  unfold dicP
  show (if kOk (kvs.map fun p => Ky.a (.s p.1)) (.a (.s t)) = true ∧ _ then _ else _) = _
  rw [show kOk (kvs.map fun p => Ky.a (.s p.1)) (.a (.s t)) = true by
    rw [show (kvs.map fun p => Ky.a (.s p.1)) = (kvs.map (·.1)).map (fun p => Ky.a (.s p)) by rw [List.map_map]; rfl]; exact kOk_s _ _, if_pos ⟨rfl, h1, h2⟩, kget_P]
theorem mdic_P : D.dic true [] [] = dicP true [] := rfl
theorem frz_P (kvs) : D.frz (dicP true kvs) = dicP false (kvs.map fun p => (p.1, p.2.frz)) := by
  unfold dicP
  rw [D.frz_dicT, List.map_map, List.map_map, List.map_map]; rfl
theorem frz_PF (kvs) : D.frz (dicP false kvs) = dicP false kvs := D.frz_fz rfl
theorem fz_PF (kvs) : D.fz (dicP false kvs) = true := rfl
theorem fz_PT (kvs) : D.fz (dicP true kvs) = false := rfl
theorem leak_PF (kvs) : leak (dicP false kvs) = .val (dicP false kvs) := rfl
theorem truth_P (o kvs) : D.truth (dicP o kvs) = none := rfl
theorem lookup_put {kvs : List (Tx × D)} {t u : Tx} {v : D} : (putP kvs t v).lookup u = if u = t then some v else kvs.lookup u := by
  induction kvs with
  | nil =>
    unfold putP
    by_cases h : u = t
    · subst h; simp
    · have : (u == t) = false := by simpa using h
      simp [List.lookup, this, h]
  | cons p r ih =>
    obtain ⟨t', v'⟩ := p
    unfold putP
    by_cases h : t' = t
    · subst h
      by_cases h2 : u = t'
      · subst h2; simp
      · have : (u == t') = false := by simpa using h2
        simp [List.lookup, this, h2]
    · simp only [h, if_false]
      by_cases h2 : u = t'
      · subst h2
        simp [h]
      · have : (u == t') = false := by simpa using h2
        simp only [List.lookup, this]
        exact ih
theorem put_new {kvs : List (Tx × D)} {t : Tx} {v : D} (h : t ∉ kvs.map (·.1)) : putP kvs t v = kvs ++ [(t, v)] := by
  induction kvs with
  | nil => rfl
  | cons p r ih =>
    obtain ⟨t', v'⟩ := p
    rw [List.map_cons, List.mem_cons, not_or] at h
    unfold putP
    rw [if_neg (fun e => h.1 e.symm), ih h.2]; rfl
theorem put_keys {kvs : List (Tx × D)} {t : Tx} {v : D} (h : t ∈ kvs.map (·.1)) : (putP kvs t v).map (·.1) = kvs.map (·.1) := by
  induction kvs with
  | nil => cases h
  | cons p r ih =>
    obtain ⟨t', v'⟩ := p
    unfold putP
    by_cases e : t' = t
    · rw [if_pos e]; rfl
    · rw [if_neg e]
      rw [List.map_cons, List.mem_cons] at h
      rw [List.map_cons, List.map_cons, ih (h.resolve_left fun z => e z.symm)]
theorem lookup_isSome {kvs : List (Tx × D)} {t : Tx} : (kvs.lookup t).isSome = decide (t ∈ kvs.map (·.1)) := by
  induction kvs with
  | nil => simp
  | cons p r ih =>
    obtain ⟨t', v'⟩ := p
    by_cases h : t = t'
    · subst h; simp
    · have : (t == t') = false := by simpa using h
      simp only [List.lookup, this, List.map_cons, List.mem_cons, h, false_or]
      exact ih
/-- what a walk over the keys of a frozen or owned dict sees -/
theorem its_P (o kvs) : D.its (dicP o kvs) = some (kvs.map fun p => D.str p.1) := by
  unfold dicP
  show some ((kvs.map fun p => Ky.a (.s p.1)).map Ky.d) = _
  rw [List.map_map]; rfl
theorem kvF_P {kvs z} : kvF (.val (dicP false kvs)) z = .val (kvs.map fun p => D.str p.1) := by
  unfold kvF dicP
  simp only [true_and]
  rw [if_pos (by rw [List.all_map, List.all_eq_true]; intro x _; rfl), List.map_map]; rfl
theorem dgF_P {k x ρ o kvs} : dgF k x ρ (dicP o kvs) = (k ρ).bind fun k => (x ρ).bind fun x => .ofO (D.getd (dicP o kvs) k x) := (rfl)
theorem noDic_P {o kvs} : D.noDic (dicP o kvs) = false := (rfl)
/-! ### letters and views -/
theorem mem_AZ {c : Nat} : c ∈ AZ ↔ 65 ≤ c ∧ c ≤ 90 := by
  unfold AZ; simp only [List.mem_cons, List.not_mem_nil, or_false]; omega
theorem mem_VW {c : Nat} : c ∈ VW ↔ c = 35 ∨ c = 46 ∨ (65 ≤ c ∧ c ≤ 90) := by
  unfold VW; simp only [List.mem_cons, List.not_mem_nil, or_false]; omega
theorem isIn_str (c : Nat) (t : Tx) : D.isIn (.str [c]) (.str t) = some (decide (c ∈ t)) := by
  show some (t.contains c) = _
  rw [List.contains_eq_mem]
/-! ### lists of data -/
theorem strsD_map : ∀ l : List Tx, strsD (l.map D.str) = some l
  | [] => rfl
  | t :: l => by rw [List.map_cons, strsD, strsD_map l]; rfl
theorem intsD_map : ∀ l : List Int, intsD (l.map D.int) = some l
  | [] => rfl
  | t :: l => by rw [List.map_cons, intsD, intsD_map l]; rfl
theorem boolsD_map : ∀ l : List Bool, boolsD (l.map D.bl) = some l
  | [] => rfl
  | t :: l => by rw [List.map_cons, boolsD, boolsD_map l]; rfl
theorem sorted_map (o) (l : List Tx) : D.sorted (.lst o (l.map D.str)) = some (.lst true ((sortT l).map D.str)) := by
  show (strsD (l.map D.str)).map _ = _
  rw [strsD_map]; rfl
theorem insT_len (t : Tx) : ∀ l : List Tx, (insT t l).length = l.length + 1
  | [] => rfl
  | u :: l => by unfold insT; split <;> simp [insT_len t l]
theorem sortT_len : ∀ l : List Tx, (sortT l).length = l.length
  | [] => rfl
  | t :: l => by unfold sortT; rw [insT_len, sortT_len l]; rfl
theorem insT_prm (t : Tx) : ∀ l : List Tx, (insT t l).Perm (t :: l)
  | [] => .refl _
  | u :: l => by
    unfold insT
    split
    · exact ((insT_prm t l).cons u).trans (List.Perm.swap t u l)
    · exact .refl _
theorem sortT_prm : ∀ l : List Tx, (sortT l).Perm l
  | [] => .refl _
  | t :: l => (insT_prm t _).trans ((sortT_prm l).cons t)
theorem mem_sortT {l : List Tx} {t : Tx} : t ∈ sortT l ↔ t ∈ l := (sortT_prm l).mem_iff
theorem join_map (sep : Tx) (o) (l : List Tx) (h : (l.map (·.length)).sum + l.length * sep.length ≤ LINE) : D.join (.str sep) (.lst o (l.map D.str)) = some (.str (joinT sep l)) := by
  show (match strsD (l.map D.str) with | some ts => _ | none => none) = _
  rw [strsD_map]
  exact if_pos h
theorem joinT_nil : ∀ l : List Tx, joinT [] l = l.flatten
  | [] => rfl
  | [t] => by simp [joinT]
  | t :: u :: l => by rw [joinT, joinT_nil (u :: l)]; simp
theorem max1_map (o) (n : Int) (l : List Int) : D.max1 (.lst o ((n :: l).map D.int)) = some (.int (maxI n l)) := by
  show (match intsD ((n :: l).map D.int) with | some (n :: ns) => _ | _ => none) = _
  rw [intsD_map]
theorem maxI_ge : ∀ (l : List Int) (m : Int), m ≤ maxI m l ∧ ∀ x ∈ l, x ≤ maxI m l
  | [], m => ⟨Int.le_refl _, fun x h => nomatch h⟩
  | n :: l, m => by
    obtain ⟨h1, h2⟩ := maxI_ge l (if n > m then n else m)
    unfold maxI
    by_cases h : n > m
    · rw [if_pos h] at h1 h2 ⊢
      refine ⟨by omega, fun x hx => ?_⟩
      rcases List.mem_cons.mp hx with z | z
      · subst z; exact h1
      · exact h2 x z
    · rw [if_neg h] at h1 h2 ⊢
      refine ⟨h1, fun x hx => ?_⟩
      rcases List.mem_cons.mp hx with z | z
      · subst z; omega
      · exact h2 x z
theorem maxI_in : ∀ (l : List Int) (m : Int), maxI m l = m ∨ maxI m l ∈ l
  | [], m => .inl rfl
  | n :: l, m => by
    unfold maxI
    rcases maxI_in l (if n > m then n else m) with h | h
    · rw [h]
      split
      · exact .inr List.mem_cons_self
      · exact .inl rfl
    · exact .inr (List.mem_cons_of_mem _ h)
theorem sum_map (l : List Int) (o) : D.sum (.lst o (l.map D.int)) = some (.int l.sum) := by
  show (intsD (l.map D.int)).map _ = _
  rw [intsD_map]; rfl
/-! ### lent lists of frozen things -/
def lstFz : D → Bool
  | .nd (.lst _) xs => xs.all D.fz
  | d => d.fz
theorem lstFz_lst (o xs) : lstFz (.lst o xs) = xs.all D.fz := (rfl)
theorem lstFz_scr (xs) : lstFz (.nd .scr xs) = true := (rfl)
theorem lstFz_int (i) : lstFz (.int i) = true := (rfl)
theorem lstFz_str (i) : lstFz (.str i) = true := (rfl)
theorem lstFz_bl (i) : lstFz (.bl i) = true := (rfl)
theorem lstFz_non : lstFz .non = true := (rfl)
theorem lstFz_tup (i) : lstFz (.tup i) = true := (rfl)
theorem tg_fz {d : D} (h : d.fz = true) : D.tg d = Tg.none := by
  cases d with
  | nd k ds =>
    have h' : (!k.own) = true := h
    unfold D.tg
    rw [if_neg (by simpa using h')]
  | _ => unfold D.tg; rfl
theorem tgs_fz : ∀ {ds : List D}, ds.all D.fz = true → D.tgs ds = Tg.none
  | [], _ => by unfold D.tgs; rfl
  | d :: ds, h => by
    rw [List.all_cons, Bool.and_eq_true] at h
    unfold D.tgs
    rw [tg_fz h.1, tgs_fz h.2]; rfl
theorem tg_lstFz {d : D} (h : lstFz d = true) : (D.tg d).d = false ∧ (D.tg d).o = false := by
  have gen : d.fz = true → (D.tg d).d = false ∧ (D.tg d).o = false := fun h => by rw [tg_fz h]; exact ⟨rfl, rfl⟩
  cases d with
  | nd k ds =>
    cases k with
    | lst o =>
      have h' : ds.all D.fz = true := h
      unfold D.tg
      split
      · rw [tgs_fz h']; exact ⟨rfl, rfl⟩
      · exact ⟨rfl, rfl⟩
    | _ => exact gen h
  | _ => exact gen h
theorem tgs_lstFz : ∀ {ds : List D}, ds.all lstFz = true → (D.tgs ds).d = false ∧ (D.tgs ds).o = false
  | [], _ => by unfold D.tgs; exact ⟨rfl, rfl⟩
  | d :: ds, h => by
    rw [List.all_cons, Bool.and_eq_true] at h
    unfold D.tgs
    have a := tg_lstFz h.1
    have b := tgs_lstFz h.2
    unfold Tg.or
    simp only [a.1, a.2, b.1, b.2, Bool.or_false, and_self]
/-- no list within: nothing that was lent as a list is kept -/
theorem lends_nol {ds : List D} {d : D} (h : ds.all lstFz = true) (hd : ∀ t : Tg, t.d = false → t.o = false → D.clr t d = true) : lends ds (.val d) = .val d := by
  unfold lends
  split
  · rfl
  · have := tgs_lstFz h
    show (if D.clr (D.tgs ds) d = true then Res.val d else Res.bad) = _
    rw [if_pos (hd _ this.1 this.2)]
theorem clr_P {t : Tg} {kvs : List (Tx × D)} (h : t.d = false) : D.clr t (dicP false kvs) = (kvs.map (·.2)).all (D.clr t) := by
  unfold dicP; rw [clr_nd]; simp [h]
/-! ### single signs -/
theorem eqb_ch (a b : Nat) : D.eqb (chD a) (chD b) = decide (a = b) := by
  unfold chD
  rw [eqb_str, Bool.eq_iff_iff]
  simp
theorem isIn_chs (o : Bool) (l : List Nat) (c : Nat) : D.isIn (chD c) (.lst o (l.map chD)) = some (decide (c ∈ l)) := by
  have hd : D.dat 9 (.lst o (l.map chD)) = true := by
    rw [dat_lst, List.all_map, List.all_eq_true]; exact fun _ _ => dat_str _ _
  show (if (D.dat 9 (chD c) && D.dat 9 (.lst o (l.map chD))) = true then some ((l.map chD).any fun y => D.eqb y (chD c)) else none) = _
  rw [hd, show D.dat 9 (chD c) = true from dat_str _ _, Bool.true_and, if_pos rfl, List.any_map]
  congr 1
  rw [Bool.eq_iff_iff, List.any_eq_true, decide_eq_true_eq]
  constructor
  · rintro ⟨x, hx, e⟩
    have : x = c := by simpa [eqb_ch] using e
    exact this ▸ hx
  · exact fun h => ⟨c, h, by simp [eqb_ch]⟩
theorem notIn_chs (o : Bool) (l : List Nat) (c : Nat) : D.notIn (chD c) (.lst o (l.map chD)) = some (!decide (c ∈ l)) := by unfold D.notIn; rw [isIn_chs]; rfl
theorem isIn_ch (t : Tx) (c : Nat) : D.isIn (chD c) (.str t) = some (decide (c ∈ t)) := isIn_str c t
theorem idx_chP (o kvs c) : D.idx (dicP o kvs) (chD c) = kvs.lookup [c] := idx_P o kvs [c]
theorem isIn_chP (o kvs c) : D.isIn (chD c) (dicP o kvs) = some (kvs.lookup [c]).isSome := isIn_P o kvs [c]
theorem notIn_chP (o kvs c) : D.notIn (chD c) (dicP o kvs) = some (!(kvs.lookup [c]).isSome) := notIn_P o kvs [c]
/-! ### texts in order -/
def Up (l : List Tx) : Prop := l.Pairwise fun a b => a < b
theorem up_eq : ∀ {l m : List Tx}, Up l → Up m → (∀ t, t ∈ l ↔ t ∈ m) → l = m
  | [], [], _, _, _ => rfl
  | [], b :: m, _, _, h => absurd ((h b).mpr List.mem_cons_self) (by simp)
  | a :: l, [], _, _, h => absurd ((h a).mp List.mem_cons_self) (by simp)
  | a :: l, b :: m, hl, hm, h => by
    obtain ⟨l1, l2⟩ := List.pairwise_cons.mp hl
    obtain ⟨m1, m2⟩ := List.pairwise_cons.mp hm
    have e : a = b := by
      rcases List.mem_cons.mp ((h a).mp List.mem_cons_self) with z | z
      · exact z
      · rcases List.mem_cons.mp ((h b).mpr List.mem_cons_self) with y | y
        · exact y.symm
        · exact absurd (List.lt_trans (m1 a z) (l1 b y)) (List.lt_irrefl _)
    subst e
    rw [up_eq l2 m2 fun t => ?_]
    constructor
    · intro ht
      rcases List.mem_cons.mp ((h t).mp (List.mem_cons_of_mem _ ht)) with z | z
      · subst z; exact absurd (l1 t ht) (List.lt_irrefl _)
      · exact z
    · intro ht
      rcases List.mem_cons.mp ((h t).mpr (List.mem_cons_of_mem _ ht)) with z | z
      · subst z; exact absurd (m1 t ht) (List.lt_irrefl _)
      · exact z
theorem ins_up {t : Tx} : ∀ {l : List Tx}, Up l → t ∉ l → Up (insT t l)
  | [], _, _ => List.pairwise_singleton _ _
  | u :: l, h, hn => by
    obtain ⟨h1, h2⟩ := List.pairwise_cons.mp h
    rw [List.mem_cons, not_or] at hn
    unfold insT
    split
    · rename_i c
      refine List.pairwise_cons.mpr ⟨fun b hb => ?_, ins_up h2 hn.2⟩
      have c' : u < t := by
        unfold tlt at c
        simp only [Bool.or_eq_true, decide_eq_true_eq, beq_iff_eq] at c
        exact c.resolve_right fun e => hn.1 e.symm
      rcases List.mem_cons.mp ((insT_prm t l).mem_iff.mp hb) with z | z
      · rw [z]; exact c'
      · exact h1 b z
    · rename_i c
      refine List.pairwise_cons.mpr ⟨fun b hb => ?_, h⟩
      have c' : t < u := by
        unfold tlt at c
        simp only [Bool.or_eq_true, decide_eq_true_eq, beq_iff_eq, not_or] at c
        rcases List.le_iff_lt_or_eq.mp (List.not_lt.mp c.1) with z | z
        · exact z
        · exact absurd z.symm c.2
      rcases List.mem_cons.mp hb with z | z
      · rw [z]; exact c'
      · exact List.lt_trans c' (h1 b z)
theorem sort_up : ∀ {l : List Tx}, l.Nodup → Up (sortT l)
  | [], _ => List.Pairwise.nil
  | t :: l, h => by
    obtain ⟨h1, h2⟩ := List.nodup_cons.mp h
    exact ins_up (sort_up h2) fun z => h1 (mem_sortT.mp z)
theorem AZ_nodup : AZ.Nodup := by decide
end Lc
end
section
set_option Elab.async false
set_option linter.all false
set_option maxRecDepth 100000
set_option maxHeartbeats 0
namespace Lc
open PySem (Str)
def prpL : List (String × List String) := [("RuleBook", ["sizes", "worths", "allowed", "rights", "known_letters", "known_kinds", "known_permissions", "longest_gap"])]
def tbF (con : List (Str × D)) (blt : List Str) : Tb := Tb.fls { con := con, blt := blt } prpL
def prpF : Props := (tbF [] []).prp
def xAll : List String := ["InvalidBench", "InvalidRule", "InvalidText", "KindClash", "UnknownKind"]
def xFl : List String := ["entry", "letter", "line", "row"]
def xs_CannotSit : List String := []
def xs_InvalidBench : List String := ["InvalidBench"]
def xs_InvalidRule : List String := ["InvalidRule"]
def xs_InvalidText : List String := ["InvalidText"]
def xs_KindClash : List String := ["KindClash"]
def xs_NotAllowed : List String := []
def xs_OutsideSeats : List String := []
def xs_SeatTaken : List String := []
def xs_SeatingError : List String := ["InvalidBench", "InvalidRule", "InvalidText", "KindClash", "UnknownKind"]
def xs_UnknownKind : List String := ["UnknownKind"]
def xs_ValueError : List String := ["InvalidBench", "InvalidRule", "InvalidText", "KindClash", "UnknownKind"]
def f_RuleBook_kinds : XS := (sRet (lk (attr prpF "known_kinds" (bvar 0))))
def p_RuleBook_kinds : List D → Res D := fnP 1 1 f_RuleBook_kinds
def f_RuleBook_permissions : XS := (sRet (lk (attr prpF "known_permissions" (bvar 0))))
def p_RuleBook_permissions : List D → Res D := fnP 1 1 f_RuleBook_permissions
def prC_RuleBook : List (String × (List D → Res D)) := [("kinds", p_RuleBook_kinds), ("permissions", p_RuleBook_permissions)]
def tb0 (con : List (Str × D)) (blt : List Str) : Tb := ((tbF con blt).prs "RuleBook" prC_RuleBook)
def prp0 : Props := (tb0 [] []).prp
theorem gt_RuleBook_sizes : prp0.get "RuleBook" "sizes" = some none := rfl
theorem gt_RuleBook_worths : prp0.get "RuleBook" "worths" = some none := rfl
theorem gt_RuleBook_allowed : prp0.get "RuleBook" "allowed" = some none := rfl
theorem gt_RuleBook_rights : prp0.get "RuleBook" "rights" = some none := rfl
theorem gt_RuleBook_known_letters : prp0.get "RuleBook" "known_letters" = some none := rfl
theorem gt_RuleBook_known_kinds : prp0.get "RuleBook" "known_kinds" = some none := rfl
theorem gt_RuleBook_known_permissions : prp0.get "RuleBook" "known_permissions" = some none := rfl
theorem gt_RuleBook_longest_gap : prp0.get "RuleBook" "longest_gap" = some none := rfl
theorem gt_RuleBook_kinds : prp0.get "RuleBook" "kinds" = some (some p_RuleBook_kinds) := rfl
theorem gt_RuleBook_permissions : prp0.get "RuleBook" "permissions" = some (some p_RuleBook_permissions) := rfl
theorem gF_RuleBook_sizes : prpF.get "RuleBook" "sizes" = some none := rfl
theorem gF_RuleBook_worths : prpF.get "RuleBook" "worths" = some none := rfl
theorem gF_RuleBook_allowed : prpF.get "RuleBook" "allowed" = some none := rfl
theorem gF_RuleBook_rights : prpF.get "RuleBook" "rights" = some none := rfl
theorem gF_RuleBook_known_letters : prpF.get "RuleBook" "known_letters" = some none := rfl
theorem gF_RuleBook_known_kinds : prpF.get "RuleBook" "known_kinds" = some none := rfl
theorem gF_RuleBook_known_permissions : prpF.get "RuleBook" "known_permissions" = some none := rfl
theorem gF_RuleBook_longest_gap : prpF.get "RuleBook" "longest_gap" = some none := rfl
noncomputable def f__law_row_b1 : XS := (sSeq (sSet 6 (bn D.mod (un D.toInt (bn D.mul (bvar 0) (bn D.add (cst (.int 48271)) (bn D.mul (cst (.int 69621)) (bvar 5))))) (cst (.int 2147483647))))
  (sSeq (sSet 6 (bn D.fdiv (bn D.mod (un D.toInt (bn D.mul (bvar 6) (bvar 6))) (cst (.int 2147483629))) (cst (.int 64))))
  (sSeq (sIf (tbn D.ge (bvar 0) (bn D.pow (cst (.int 10)) (cst (.int 18)))) (sFrz 4 (sSet 6 (lk (bvar 4)))) sNx)
  (sSeq (sLst1 D.app 3 (bn D.mod (un D.toInt (bvar 6)) (bvar 2)))
  (sSet 4 (bn D.fdiv (un D.toInt (bvar 4)) (bvar 2)))))))
noncomputable def f__law_row : XS := (sSeq (sSet 3 (mlst lnil))
  (sSeq (sSet 4 (un D.toInt (bvar 0)))
  (sSeq (sFor (iRg1 (bvar 1)) (gSet 5) f__law_row_b1)
  (sRet (bvar 3)))))
noncomputable def p__law_row : List D → Res D := fnP 3 7 f__law_row
noncomputable def f__law_letters_b1 : XS := (sSeq (sSet 4 (bn D.mod (un D.toInt (bvar 3)) (un D.len (bvar 1))))
  (sSeq (sLst1 D.app 2 (lk (bn D.idx (bvar 1) (bvar 4))))
  (sSet 1 (bn D.add (sli (bvar 1) pno (pso (bvar 4))) (sli (bvar 1) (pso (bn D.add (bvar 4) (cst (.int 1)))) pno)))))
noncomputable def f__law_letters : XS := (sSeq (sSet 1 (cst (.str AZ)))
  (sSeq (sSet 2 (mlst lnil))
  (sSeq (sFrz 0 (sFor (iSeq (lk (bvar 0))) (gSet 3) f__law_letters_b1))
  (sRet (bvar 2)))))
noncomputable def p__law_letters : List D → Res D := fnP 1 5 f__law_letters
noncomputable def f__law_kinds_b1 : XS := (sSeq (sSet 8 (un D.toInt (bn D.idx (bvar 3) (bn D.add (bn D.add (cst (.int 1)) (bn D.mul (cst (.int 2)) (bvar 1))) (bvar 7)))))
  (sSeq (sIf (tbn D.eq (bn D.mod (bvar 8) (cst (.int 2))) (cst (.int 1))) (sSet 8 (bn D.sub (bn D.mod (bn D.fdiv (bvar 8) (cst (.int 2))) (cst (.int 7))) (cst (.int 3)))) (sSet 8 (bn D.sub (bn D.mod (bn D.fdiv (bvar 8) (cst (.int 2))) (cst (.int 1999))) (cst (.int 999)))))
  (sFrz 8 (sLst1 D.app 6 (mtup (lcons (lk (bn D.idx (bvar 4) (bvar 7))) (lcons (bn D.add (cst (.int 1)) (bn D.mod (un D.toInt (bn D.idx (bvar 3) (bn D.add (bn D.add (cst (.int 1)) (bvar 1)) (bvar 7)))) (bvar 2))) (lcons (lk (bvar 8)) lnil))))))))
noncomputable def f__law_kinds : XS := (sSeq (sSet 3 (call p__law_row (lcons (bvar 0) (lcons (bn D.add (cst (.int 1)) (bn D.mul (cst (.int 3)) (bvar 1))) (lcons (cst (.int 5040)) lnil))) lnil))
  (sSeq (sSet 4 (call p__law_letters (lcons (sli (bvar 3) (pso (cst (.int 1))) (pso (bn D.add (cst (.int 1)) (bvar 1)))) lnil) lnil))
  (sSeq (sFrz 1 (sSet 5 (lk (bvar 1))))
  (sSeq (sIf (tbn D.eq (bn D.mod (bn D.idx (bvar 3) (cst (.int 0))) (cst (.int 2))) (cst (.int 0))) (sSet 5 (bn D.mod (bn D.fdiv (bn D.idx (bvar 3) (cst (.int 0))) (cst (.int 2))) (bn D.add (bvar 1) (cst (.int 1))))) sNx)
  (sSeq (sSet 6 (mlst lnil))
  (sSeq (sFor (iRg1 (bvar 5)) (gSet 7) f__law_kinds_b1)
  (sRet (bvar 6))))))))
noncomputable def p__law_kinds : List D → Res D := fnP 3 9 f__law_kinds
noncomputable def f__law_cell : XS := (sSeq (sIf (tbn D.lt (bvar 1) (un D.len (bvar 0))) (sRet (un D.toInt (bn D.idx (bvar 0) (bvar 1)))) sNx)
  (sRet (cst (.int 0))))
noncomputable def p__law_cell : List D → Res D := fnP 2 2 f__law_cell
noncomputable def f_is_letter : XS := (sRet (vand (bn (fun d e => (D.eq d e).map .bl) (un D.len (bvar 0)) (cst (.int 1))) (bn (fun d e => (D.isIn d e).map .bl) (bvar 0) (cst (.str AZ)))))
noncomputable def p_is_letter : List D → Res D := fnP 1 1 f_is_letter
noncomputable def f_is_view : XS := (sRet (vand (bn (fun d e => (D.eq d e).map .bl) (un D.len (bvar 0)) (cst (.int 1))) (bn (fun d e => (D.isIn d e).map .bl) (bvar 0) (cst (.str VW)))))
noncomputable def p_is_view : List D → Res D := fnP 1 1 f_is_view
noncomputable def f_right_groups_b1 : XS := (sPut 1 (sli (bvar 2) pno (pso (cst (.int 2)))) (bn D.add (dgetX (bvar 1) (sli (bvar 2) pno (pso (cst (.int 2)))) (cst (.str []))) (bn D.idx (bvar 2) (cst (.int 2)))))
noncomputable def f_right_groups : XS := (sSeq (sSet 1 mdic)
  (sSeq (sFor (iSeq (un D.sorted (comp (iKv (bvar 0) (bvar 0)) (gSet 4) tYes (un D.toStr (bvar 4)) [3, 4]))) (gSet 2) f_right_groups_b1)
  (sRet (bvar 1))))
noncomputable def p_right_groups : List D → Res D := fnP 1 5 f_right_groups
noncomputable def f_RuleBook___init___b1 : XS := (sSeq (sAsg (gTup [(gSet 7), (gSet 8), (gSet 9)]) (lk (bvar 6)))
  (sSeq (sIf (tor (tnt (tun D.truth (call p_is_letter (lcons (bvar 7) lnil) lnil))) (tbn D.isIn (bvar 7) (bvar 3))) (sFrz 6 (sRaise "InvalidRule" ["entry"] (lcons (lk (bvar 6)) lnil))) sNx)
  (sSeq (sIf (tor (tnt (tchn D.le D.le (cst (.int 1)) (bvar 8) (cst (.int 9)))) (tnt (tchn D.le D.le (un D.neg (cst (.int 999))) (bvar 9) (cst (.int 999))))) (sFrz 6 (sRaise "InvalidRule" ["entry"] (lcons (lk (bvar 6)) lnil))) sNx)
  (sSeq (sFrz 8 (sPut 3 (bvar 7) (lk (bvar 8))))
  (sFrz 9 (sPut 4 (bvar 7) (lk (bvar 9))))))))
noncomputable def f_RuleBook___init___b2 : XS := (sSeq (sIf (tor (tbn D.ne (un D.len (bvar 6)) (cst (.int 3))) (tbn D.notIn (bn D.idx (bvar 6) (cst (.int 0))) (bvar 3))) (sFrz 6 (sRaise "InvalidRule" ["entry"] (lcons (lk (bvar 6)) lnil))) sNx)
  (sSeq (sIf (tor (tnt (tun D.truth (call p_is_view (lcons (bwi 6 1) lnil) lnil))) (tnt (tun D.truth (call p_is_view (lcons (bwi 6 2) lnil) lnil)))) (sFrz 6 (sRaise "InvalidRule" ["entry"] (lcons (lk (bvar 6)) lnil))) sNx)
  (sPut 5 (bvar 6) (cst (.bl true)))))
noncomputable def f_RuleBook___init__ : XS := (sSeq (sSet 3 mdic)
  (sSeq (sSet 4 mdic)
  (sSeq (sSet 5 mdic)
  (sSeq (sFrz 1 (sFor (iSeq (lk (bvar 1))) (gSet 6) f_RuleBook___init___b1))
  (sSeq (sFrz 2 (sFor (iSeq (lk (bvar 2))) (gSet 6) f_RuleBook___init___b2))
  (sSeq (sFrz 3 (sFld "RuleBook" 0 "sizes" (lk (bvar 3))))
  (sSeq (sFrz 4 (sFld "RuleBook" 0 "worths" (lk (bvar 4))))
  (sSeq (sFrz 5 (sFld "RuleBook" 0 "allowed" (lk (bvar 5))))
  (sSeq (sFld "RuleBook" 0 "rights" (call p_right_groups (lcons (bvar 5) lnil) lnil))
  (sSeq (sFld "RuleBook" 0 "known_letters" (bnS D.join (cst (.str [])) (comp (iSeq (cst (.str AZ))) (gSet 7) (tbn D.isIn (bvar 7) (bvar 3)) (lk (bvar 7)) [10, 7])))
  (sSeq (sFld "RuleBook" 0 "known_kinds" (un D.toTup (comp (iSeq (cst (.str AZ))) (gSet 7) (tbn D.isIn (bvar 7) (bvar 3)) (mtup (lcons (lk (bvar 7)) (lcons (lk (bn D.idx (bvar 3) (bvar 7))) (lcons (lk (bn D.idx (bvar 4) (bvar 7))) lnil)))) [10, 7])))
  (sSeq (sFld "RuleBook" 0 "known_permissions" (un D.toTup (un D.sorted (comp (iKv (bvar 5) (bvar 5)) (gSet 6) tYes (un D.toStr (bvar 6)) [10, 6]))))
  (sFld "RuleBook" 0 "longest_gap" (bn D.add (cst (.int 2)) (un D.max1 (bn D.add (mlst (lcons (cst (.int 0)) lnil)) (comp (iKv (bvar 3) (bvar 3)) (gSet 7) tYes (un D.toInt (bn D.idx (bvar 3) (bvar 7))) [10, 7])))))))))))))))))
noncomputable def p_mk_RuleBook : List D → Res D := mkP true "RuleBook" 2 11 f_RuleBook___init__
noncomputable def f_check_kinds_b2 : XS := (sIf (tnd (tbn D.eq (bn D.idx (bvar 2) (cst (.int 0))) (bn D.idx (bvar 3) (cst (.int 0)))) (tbn D.ne (bvar 2) (bvar 3))) (sRaise "KindClash" ["letter"] (lcons (lk (bn D.idx (bvar 2) (cst (.int 0)))) lnil)) sNx)
noncomputable def f_check_kinds_b1 : XS := (sFor (iSeq (lk (attr prp0 "kinds" (bvar 1)))) (gSet 3) f_check_kinds_b2)
noncomputable def f_check_kinds : XS := (sFor (iSeq (lk (attr prp0 "kinds" (bvar 0)))) (gSet 2) f_check_kinds_b1)
noncomputable def p_check_kinds : List D → Res D := fnP 2 4 f_check_kinds
noncomputable def f_RuleBook___or__ : XS := (sSeq (sDrop (call p_check_kinds (lcons (bvar 0) (lcons (bvar 1) lnil)) lnil))
  (sSeq (sSet 2 (comp (iSeq (attr prp0 "kinds" (bvar 1))) (gSet 4) (tbn D.notIn (bvar 4) (attr prp0 "kinds" (bvar 0))) (lk (bvar 4)) [3, 4]))
  (sRet (call p_mk_RuleBook (lcons (bn D.add (un D.toList (attr prp0 "kinds" (bvar 0))) (bvar 2)) (lcons (bn D.add (un D.toList (attr prp0 "permissions" (bvar 0))) (un D.toList (attr prp0 "permissions" (bvar 1)))) lnil)) lnil))))
noncomputable def p_RuleBook___or__ : List D → Res D := fnP 2 5 f_RuleBook___or__
noncomputable def f_RuleBook___and__ : XS := (sSeq (sDrop (call p_check_kinds (lcons (bvar 0) (lcons (bvar 1) lnil)) lnil))
  (sSeq (sSet 2 (comp (iSeq (attr prp0 "kinds" (bvar 0))) (gSet 4) (tbn D.isIn (bvar 4) (attr prp0 "kinds" (bvar 1))) (lk (bvar 4)) [3, 4]))
  (sRet (call p_mk_RuleBook (lcons (bvar 2) (lcons (comp (iSeq (attr prp0 "permissions" (bvar 0))) (gSet 5) (tbn D.isIn (bvar 5) (attr prp0 "permissions" (bvar 1))) (lk (bvar 5)) [3, 5]) lnil)) lnil))))
noncomputable def p_RuleBook___and__ : List D → Res D := fnP 2 6 f_RuleBook___and__
noncomputable def f_RuleBook___sub__ : XS := (sSeq (sDrop (call p_check_kinds (lcons (bvar 0) (lcons (bvar 1) lnil)) lnil))
  (sRet (call p_mk_RuleBook (lcons (un D.toList (attr prp0 "kinds" (bvar 0))) (lcons (comp (iSeq (attr prp0 "permissions" (bvar 0))) (gSet 3) (tbn D.notIn (bvar 3) (attr prp0 "permissions" (bvar 1))) (lk (bvar 3)) [2, 3]) lnil)) lnil)))
noncomputable def p_RuleBook___sub__ : List D → Res D := fnP 2 4 f_RuleBook___sub__
noncomputable def h_f__law_family_b1 : XS := (sIf (tbn D.ne (bn D.idx (bvar 2) (bvar 3)) (bn (fun d e => (D.isIn d e).map .bl) (bvar 3) (bvar 1))) (sRet (cst (.bl false))) sNx)
noncomputable def h_f__law_family : XS := (sSeq (sIf (tor (tnt (tun D.truth (un (fun d => (D.isX xAll xs_SeatingError d).map .bl) (bvar 0)))) (tnt (tun D.truth (un (fun d => (D.isX xAll xs_ValueError d).map .bl) (bvar 0))))) (sRet (cst (.bl false))) sNx)
  (sSeq (sSet 2 (mlst (lcons (un (fun d => (D.isX xAll xs_InvalidRule d).map .bl) (bvar 0)) (lcons (un (fun d => (D.isX xAll xs_InvalidText d).map .bl) (bvar 0)) (lcons (un (fun d => (D.isX xAll xs_KindClash d).map .bl) (bvar 0)) lnil)))))
  (sSeq (sSet 2 (bn D.add (bvar 2) (mlst (lcons (un (fun d => (D.isX xAll xs_UnknownKind d).map .bl) (bvar 0)) (lcons (un (fun d => (D.isX xAll xs_InvalidBench d).map .bl) (bvar 0)) (lcons (un (fun d => (D.isX xAll xs_CannotSit d).map .bl) (bvar 0)) lnil))))))
  (sSeq (sSet 2 (bn D.add (bvar 2) (mlst (lcons (un (fun d => (D.isX xAll xs_OutsideSeats d).map .bl) (bvar 0)) (lcons (un (fun d => (D.isX xAll xs_SeatTaken d).map .bl) (bvar 0)) (lcons (un (fun d => (D.isX xAll xs_NotAllowed d).map .bl) (bvar 0)) lnil))))))
  (sSeq (sFor (iRg1 (cst (.int 9))) (gSet 3) h_f__law_family_b1)
  (sRet (cst (.bl true))))))))
noncomputable def p_h__law_family : List D → Res D := fnP 2 4 h_f__law_family
noncomputable def f__law_clash_b1 : XS := (sIf (tbn D.eq (bvar 2) (cst (.int 0))) (sSet 4 (bnR (own2R "RuleBook" p_RuleBook___or__) (bvar 0) (bvar 1))) (sIf (tbn D.eq (bvar 2) (cst (.int 1))) (sSet 4 (bnR (own2R "RuleBook" p_RuleBook___and__) (bvar 0) (bvar 1))) (sSet 4 (bnR (own2R "RuleBook" p_RuleBook___sub__) (bvar 0) (bvar 1)))))
noncomputable def f__law_clash_b2 : XS := (sRet (vand (bn (fun d e => (D.ne d e).map .bl) (bvar 3) (cst (.str []))) (vand (un (fun d => (D.isTy d "str").map .bl) (un (D.xat xAll "letter") (bvar 5))) (vand (bn (fun d e => (D.eq d e).map .bl) (un (D.xat xAll "letter") (bvar 5)) (bvar 3)) (call p_h__law_family (lcons (bvar 5) (lcons (mlst (lcons (cst (.int 2)) lnil)) lnil)) lnil)))))
noncomputable def f__law_clash : XS := (sSeq (sTry xAll xs_KindClash 5 f__law_clash_b1 f__law_clash_b2)
  (sRet (vand (bn (fun d e => (D.eq d e).map .bl) (bvar 3) (cst (.str []))) (un (fun d => (D.isOw "RuleBook" d).map .bl) (bvar 4)))))
noncomputable def p__law_clash : List D → Res D := fnP 4 6 f__law_clash
noncomputable def f_RuleBook___eq__ : XS := (sRet (vand (un (fun d => (D.isOw "RuleBook" d).map .bl) (bvar 1)) (vand (bn (fun d e => (D.eq d e).map .bl) (attr prp0 "known_kinds" (bvar 0)) (attr prp0 "known_kinds" (bvar 1))) (bn (fun d e => (D.eq d e).map .bl) (attr prp0 "known_permissions" (bvar 0)) (attr prp0 "known_permissions" (bvar 1))))))
noncomputable def p_RuleBook___eq__ : List D → Res D := fnP 2 2 f_RuleBook___eq__
noncomputable def f_RuleBook___le__ : XS := (sSeq (sSet 2 (comp (iSeq (attr prp0 "kinds" (bvar 0))) (gSet 4) (tbn D.notIn (bvar 4) (attr prp0 "kinds" (bvar 1))) (lk (bvar 4)) [3, 4]))
  (sRet (vand (bn (fun d e => (D.eq d e).map .bl) (bvar 2) (mlst lnil)) (bn (fun d e => (D.eq d e).map .bl) (comp (iSeq (attr prp0 "permissions" (bvar 0))) (gSet 5) (tbn D.notIn (bvar 5) (attr prp0 "permissions" (bvar 1))) (lk (bvar 5)) [3, 5]) (mlst lnil)))))
noncomputable def p_RuleBook___le__ : List D → Res D := fnP 2 6 f_RuleBook___le__
noncomputable def f__law_ordered_b2 : XS := (sIf (tbn D.eq (bn D.idx (bvar 3) (cst (.int 0))) (bvar 2)) (sFrz 3 (sLst1 D.app 1 (lk (bvar 3)))) sNx)
noncomputable def f__law_ordered_b1 : XS := (sFrz 0 (sFor (iSeq (lk (bvar 0))) (gSet 3) f__law_ordered_b2))
noncomputable def f__law_ordered : XS := (sSeq (sSet 1 (mlst lnil))
  (sSeq (sFor (iSeq (cst (.str AZ))) (gSet 2) f__law_ordered_b1)
  (sRet (bvar 1))))
noncomputable def p__law_ordered : List D → Res D := fnP 1 4 f__law_ordered
noncomputable def f_law_b1 : XS := (sSeq (sSet 7 (lk (bn D.idx (bn D.idx (bvar 1) (bvar 3)) (cst (.int 0)))))
  (sSeq (sSet 8 (lk (bn D.idx (bn D.idx (bvar 1) (bvar 3)) (cst (.int 1)))))
  (sSeq (sSet 9 (lk (bn D.idx (bn D.idx (bvar 1) (bvar 3)) (cst (.int 2)))))
  (sSeq (sIf (tbn D.eq (bn D.idx (bvar 2) (bn D.add (cst (.int 5)) (bvar 3))) (cst (.int 1))) (sSet 8 (bn D.add (cst (.int 1)) (bn D.mod (un D.toInt (bvar 8)) (cst (.int 9))))) sNx)
  (sSeq (sIf (tbn D.eq (bn D.idx (bvar 2) (bn D.add (cst (.int 5)) (bvar 3))) (cst (.int 2))) (sSet 9 (bn D.sub (bn D.sub (cst (.int 0)) (bvar 9)) (un D.toInt (bn (fun d e => (D.eq d e).map .bl) (bvar 9) (cst (.int 0)))))) sNx)
  (sIf (tbn D.ne (bn D.idx (bvar 2) (bn D.add (cst (.int 10)) (bvar 3))) (cst (.int 1))) (sSeq (sFrz 7 (sFrz 8 (sFrz 9 (sLst1 D.app 5 (mtup (lcons (lk (bvar 7)) (lcons (lk (bvar 8)) (lcons (lk (bvar 9)) lnil))))))))
  (sIf (tnd (tbn D.ne (bn D.idx (bvar 2) (bvar 3)) (cst (.int 1))) (tbn D.isIn (bn D.idx (bvar 2) (bn D.add (cst (.int 5)) (bvar 3))) (mlst (lcons (cst (.int 1)) (lcons (cst (.int 2)) lnil))))) (sFrz 7 (sLst1 D.app 6 (lk (bvar 7)))) sNx)) sNx))))))
noncomputable def f_law_b2 : XS := (sIf (tnd (tbn D.eq (bvar 7) (cst (.str []))) (tbn D.isIn (bvar 13) (bvar 6))) (sFrz 13 (sSet 7 (lk (bvar 13)))) sNx)
noncomputable def f_law_b3 : XS := (sIf (tor (tnt (tun D.truth (call p__law_clash (lcons (bvar 11) (lcons (bvar 12) (lcons (bvar 13) (lcons (bvar 7) lnil)))) lnil))) (tnt (tun D.truth (call p__law_clash (lcons (bvar 12) (lcons (bvar 11) (lcons (bvar 13) (lcons (bvar 7) lnil)))) lnil)))) (sRet (cst (.bl false))) sNx)
noncomputable def f_law : XS := (sSeq (sSet 1 (call p__law_kinds (lcons (call p__law_cell (lcons (bvar 0) (lcons (cst (.int 0)) lnil)) lnil) (lcons (cst (.int 5)) (lcons (cst (.int 9)) lnil))) lnil))
  (sSeq (sSet 2 (call p__law_row (lcons (call p__law_cell (lcons (bvar 0) (lcons (cst (.int 1)) lnil)) lnil) (lcons (cst (.int 20)) (lcons (cst (.int 6)) lnil))) lnil))
  (sSeq (sSet 4 (comp (iRg1 (un D.len (bvar 1))) (gSet 3) (tbn D.ne (bn D.idx (bvar 2) (bvar 3)) (cst (.int 1))) (lk (bn D.idx (bvar 1) (bvar 3))) [14, 3]))
  (sSeq (sSet 5 (mlst lnil))
  (sSeq (sSet 6 (mlst lnil))
  (sSeq (sFor (iRg1 (un D.len (bvar 1))) (gSet 3) f_law_b1)
  (sSeq (sSet 10 (mlst (lcons (comp (iKv (bvar 4) (bvar 4)) (gSet 15) tYes (bn D.add (bn D.idx (bvar 15) (cst (.int 0))) (cst (.str [35, 46]))) [14, 15]) (lcons (comp (iKv (bvar 5) (bvar 5)) (gSet 15) tYes (bn D.add (bn D.idx (bvar 15) (cst (.int 0))) (cst (.str [35, 46]))) [14, 15]) lnil))))
  (sSeq (sSet 11 (call p_mk_RuleBook (lcons (un D.toList (bvar 4)) (lcons (bn D.mul (bn D.idx (bvar 10) (cst (.int 0))) (bn D.mod (bn D.idx (bvar 2) (cst (.int 15))) (cst (.int 2)))) lnil)) lnil))
  (sSeq (sSet 12 (call p_mk_RuleBook (lcons (un D.rev (bvar 5)) (lcons (bn D.mul (bn D.idx (bvar 10) (cst (.int 1))) (bn D.mod (bn D.idx (bvar 2) (cst (.int 15))) (cst (.int 2)))) lnil)) lnil))
  (sSeq (sSet 7 (cst (.str [])))
  (sSeq (sFor (iSeq (cst (.str AZ))) (gSet 13) f_law_b2)
  (sSeq (sFor (iRg1 (cst (.int 3))) (gSet 13) f_law_b3)
  (sSeq (sIf (tnd (tbn D.ne (bvar 7) (cst (.str []))) (tor (tbn (eqA "RuleBook" p_RuleBook___eq__) (bvar 11) (bvar 12)) (tor (tbn (cmp2 "RuleBook" p_RuleBook___le__) (bvar 11) (bvar 12)) (tbn (cmp2 "RuleBook" p_RuleBook___le__) (bvar 12) (bvar 11))))) (sRet (cst (.bl false))) sNx)
  (sRet (vand (bn (fun d e => (D.eq d e).map .bl) (attr prp0 "kinds" (bvar 11)) (un D.toTup (call p__law_ordered (lcons (bvar 4) lnil) lnil))) (bn (fun d e => (D.eq d e).map .bl) (attr prp0 "kinds" (bvar 12)) (un D.toTup (call p__law_ordered (lcons (bvar 5) lnil) lnil))))))))))))))))))
noncomputable def p_law : List D → Res D := fnP 1 16 f_law
end Lc
end
section
set_option Elab.async false
set_option linter.all false
set_option maxRecDepth 100000
set_option maxHeartbeats 0
namespace Lc
local macro_rules
  | `(tactic| simp_arith) => `(tactic| simp -implicitDefEqProofs only [bwi_r, bwF_lst, bwF_str, bwF_tup, bwF_scr, bwF_kind, bnR_r, sRaise_r, sTry_r, tryS_nx, tryS_rt, fz_xob, frz_xob, leak_xob, eq_bl, ne_bl, isIn_chs, notIn_chs, isIn_ch, idx_chP, isIn_chP, notIn_chP, clear_lst, lstFz_lst, lstFz_scr, lstFz_int, lstFz_str, lstFz_bl, lstFz_non, lstFz_tup, fz_scr, frz_scr, isTy_int, isTy_bl, isTy_str, isTy_tup, isTy_lst, isTy_non, isTy_kind, len_kind, idx_kind, leak_kind, String.reduceBEq, String.reduceBNe, leak_ch, frz_ch, fz_ch, clr_ch, Option.isSome_some, Option.isSome_none, LINE_26, LINE_28, AZ_len, VW_len, Int.cast_ofNat_Int, Int.natCast_zero, Int.natCast_one, Int.reduceBEq, Int.reduceBNe, Int.reduceLT, Int.reduceLE, Int.reduceAdd, Int.reduceSub, Int.reduceMul, Int.reduceNeg, beq_self_eq_true, String.reduceEq, kvF_tup, kvF_lst, kvF_str, kvF_P, dgF_P, noDic_P, mdic_P, idx_P, isIn_P, notIn_P, frz_PF, fz_PF, fz_PT, leak_PF, sorted_map, strsD_map, isIn_str, lends_fz, lends_val, clr_tup, clr_lstT, clr_int, clr_str, clr_bl, clr_non, clr_map_kind, clr_map_int, clr_map_str, clr_map_ch, Kind.clr, Kind.fz, Kind.frz, fz_map_kind, frz_map_kind, fz_map_ch, frz_map_ch, implies_true, cut_str, fnP_r, fin_nx, fin_rt, fin_exc, startE, sSeq_r, sIf_r, sNx_r, sBk_r, sCt_r, sRetN_r, sRet_r, sSet_r, sDrop_r, sFrz_r, frzE, sAug_r, sAsg_r, sLst1_r, sLst2_r, sLst0_r, sPut_r, sPop_r, sPutP_r, sFrzP_r, lsnoc_r, sPar_r, iEn_r, iZp_r, iRg2_r, iRgD_r, unS_r, Res.noX_val, sFld_r, sFor_r, cst_r, bvar_r, lk_r, un_r, bn_r, tbn_r, tun_r, tnd_r, tor_r, tnt_r, ofB_r, vand_r, vor_r, iff_r, lnil_r, lcons_r, pno_r, pso_r, sli_r, mtup_r, mlst_r, mdic_r, meth_r, tchn_r, bnS_r, dgetX_r, iSeq_r, iSeqF_r, iKv_r, iRg1_r, comp_r, gSet_r, gTup_r, gAll, attr_r, call_eq, getE, setE, brn_true, brn_false, Res.bind_val, Res.bind_exc, Res.bind_bad, Res.so_val, Res.so_exc, Res.so_bad, Res.ofO_some, Res.ofO_none, Res.nx_val, SO.seq_nx, SO.seq_rt, SO.seq_bk, SO.seq_ct, SO.seq_exc, SO.seq_bad, leak_non, leak_bl, leak_int, leak_str, leak_tup, leak_lst, leak_dic, leak_obj, atI_nat, atI_0, atI_1, atI_2, atI_3, atI_4, idx_tup, idx_lst, idx_scr, idx_str, len_str, len_tup, len_lst, len_scr, toInt_int, toInt_bl, toStr_str, add_int, sub_int, neg_int, lt_int, le_int, gt_int, ge_int, truth_bl, truth_int, truth_str, truth_tup, truth_lst, vnot_bl, eq_int, ne_int, eq_str, ne_str, lends_bl, lends_int, lends_str, noDic_lst, noDic_tup, noDic_str, its_tup, its_str, fz_map_int, fz_map_str, frz_map_int, frz_map_str, D.frz_non, D.frz_bl, D.frz_int, D.frz_str, D.frz_tup, D.frz_lstT, D.frz_lstF, D.frz_dicT, D.frz_dicF, D.frz_objT, D.frz_objF, D.fz_non, D.fz_bl, D.fz_int, D.fz_str, D.fz_tup, D.fz_lst, D.fz_dic, D.fz_obj, List.getElem?_cons_zero, List.getElem?_cons_succ, List.getElem?_map, List.getElem?_nil, List.set_cons_zero, List.set_cons_succ, List.map_cons, List.map_nil, List.length_map, List.length_cons, List.length_nil, List.cons_append, List.nil_append, List.append_nil, List.all_cons, List.all_nil, List.replicate_zero, List.replicate_succ, Nat.sub_self, Nat.reduceSub, Nat.reduceAdd, Nat.reduceLeDiff, Nat.reduceEqDiff, Nat.reduceLT, Option.map_some, Option.map_none, Bool.not_true, Bool.not_false, Bool.true_and, Bool.and_true, Bool.false_and, Bool.and_false, Bool.or_true, Bool.true_or, Bool.or_false, Bool.false_or, Bool.false_eq_true, Bool.true_eq_false, if_true, if_false, ite_true, ite_false, reduceIte, eq_self, Nat.zero_add, Nat.add_zero, LINE_0, LINE_1, LINE_2, LINE_3, LINE_4, LINE_5, LINE_6, LINE_7, LINE_8, LINE_9, LINE_10, LINE_11, LINE_12, not_true_eq_false, not_false_eq_true, decide_true, decide_false, and_self, and_true, true_and])
  | `(tactic| simp_arith [$as,*]) => `(tactic| simp -implicitDefEqProofs only [bwi_r, bwF_lst, bwF_str, bwF_tup, bwF_scr, bwF_kind, bnR_r, sRaise_r, sTry_r, tryS_nx, tryS_rt, fz_xob, frz_xob, leak_xob, eq_bl, ne_bl, isIn_chs, notIn_chs, isIn_ch, idx_chP, isIn_chP, notIn_chP, clear_lst, lstFz_lst, lstFz_scr, lstFz_int, lstFz_str, lstFz_bl, lstFz_non, lstFz_tup, fz_scr, frz_scr, isTy_int, isTy_bl, isTy_str, isTy_tup, isTy_lst, isTy_non, isTy_kind, len_kind, idx_kind, leak_kind, String.reduceBEq, String.reduceBNe, leak_ch, frz_ch, fz_ch, clr_ch, Option.isSome_some, Option.isSome_none, LINE_26, LINE_28, AZ_len, VW_len, Int.cast_ofNat_Int, Int.natCast_zero, Int.natCast_one, Int.reduceBEq, Int.reduceBNe, Int.reduceLT, Int.reduceLE, Int.reduceAdd, Int.reduceSub, Int.reduceMul, Int.reduceNeg, beq_self_eq_true, String.reduceEq, kvF_tup, kvF_lst, kvF_str, kvF_P, dgF_P, noDic_P, mdic_P, idx_P, isIn_P, notIn_P, frz_PF, fz_PF, fz_PT, leak_PF, sorted_map, strsD_map, isIn_str, lends_fz, lends_val, clr_tup, clr_lstT, clr_int, clr_str, clr_bl, clr_non, clr_map_kind, clr_map_int, clr_map_str, clr_map_ch, Kind.clr, Kind.fz, Kind.frz, fz_map_kind, frz_map_kind, fz_map_ch, frz_map_ch, implies_true, cut_str, fnP_r, fin_nx, fin_rt, fin_exc, startE, sSeq_r, sIf_r, sNx_r, sBk_r, sCt_r, sRetN_r, sRet_r, sSet_r, sDrop_r, sFrz_r, frzE, sAug_r, sAsg_r, sLst1_r, sLst2_r, sLst0_r, sPut_r, sPop_r, sPutP_r, sFrzP_r, lsnoc_r, sPar_r, iEn_r, iZp_r, iRg2_r, iRgD_r, unS_r, Res.noX_val, sFld_r, sFor_r, cst_r, bvar_r, lk_r, un_r, bn_r, tbn_r, tun_r, tnd_r, tor_r, tnt_r, ofB_r, vand_r, vor_r, iff_r, lnil_r, lcons_r, pno_r, pso_r, sli_r, mtup_r, mlst_r, mdic_r, meth_r, tchn_r, bnS_r, dgetX_r, iSeq_r, iSeqF_r, iKv_r, iRg1_r, comp_r, gSet_r, gTup_r, gAll, attr_r, call_eq, getE, setE, brn_true, brn_false, Res.bind_val, Res.bind_exc, Res.bind_bad, Res.so_val, Res.so_exc, Res.so_bad, Res.ofO_some, Res.ofO_none, Res.nx_val, SO.seq_nx, SO.seq_rt, SO.seq_bk, SO.seq_ct, SO.seq_exc, SO.seq_bad, leak_non, leak_bl, leak_int, leak_str, leak_tup, leak_lst, leak_dic, leak_obj, atI_nat, atI_0, atI_1, atI_2, atI_3, atI_4, idx_tup, idx_lst, idx_scr, idx_str, len_str, len_tup, len_lst, len_scr, toInt_int, toInt_bl, toStr_str, add_int, sub_int, neg_int, lt_int, le_int, gt_int, ge_int, truth_bl, truth_int, truth_str, truth_tup, truth_lst, vnot_bl, eq_int, ne_int, eq_str, ne_str, lends_bl, lends_int, lends_str, noDic_lst, noDic_tup, noDic_str, its_tup, its_str, fz_map_int, fz_map_str, frz_map_int, frz_map_str, D.frz_non, D.frz_bl, D.frz_int, D.frz_str, D.frz_tup, D.frz_lstT, D.frz_lstF, D.frz_dicT, D.frz_dicF, D.frz_objT, D.frz_objF, D.fz_non, D.fz_bl, D.fz_int, D.fz_str, D.fz_tup, D.fz_lst, D.fz_dic, D.fz_obj, List.getElem?_cons_zero, List.getElem?_cons_succ, List.getElem?_map, List.getElem?_nil, List.set_cons_zero, List.set_cons_succ, List.map_cons, List.map_nil, List.length_map, List.length_cons, List.length_nil, List.cons_append, List.nil_append, List.append_nil, List.all_cons, List.all_nil, List.replicate_zero, List.replicate_succ, Nat.sub_self, Nat.reduceSub, Nat.reduceAdd, Nat.reduceLeDiff, Nat.reduceEqDiff, Nat.reduceLT, Option.map_some, Option.map_none, Bool.not_true, Bool.not_false, Bool.true_and, Bool.and_true, Bool.false_and, Bool.and_false, Bool.or_true, Bool.true_or, Bool.or_false, Bool.false_or, Bool.false_eq_true, Bool.true_eq_false, if_true, if_false, ite_true, ite_false, reduceIte, eq_self, Nat.zero_add, Nat.add_zero, LINE_0, LINE_1, LINE_2, LINE_3, LINE_4, LINE_5, LINE_6, LINE_7, LINE_8, LINE_9, LINE_10, LINE_11, LINE_12, not_true_eq_false, not_false_eq_true, decide_true, decide_false, and_self, and_true, true_and, $as,*])
  | `(tactic| simp_arith at $h*) => `(tactic| simp -implicitDefEqProofs only [bwi_r, bwF_lst, bwF_str, bwF_tup, bwF_scr, bwF_kind, bnR_r, sRaise_r, sTry_r, tryS_nx, tryS_rt, fz_xob, frz_xob, leak_xob, eq_bl, ne_bl, isIn_chs, notIn_chs, isIn_ch, idx_chP, isIn_chP, notIn_chP, clear_lst, lstFz_lst, lstFz_scr, lstFz_int, lstFz_str, lstFz_bl, lstFz_non, lstFz_tup, fz_scr, frz_scr, isTy_int, isTy_bl, isTy_str, isTy_tup, isTy_lst, isTy_non, isTy_kind, len_kind, idx_kind, leak_kind, String.reduceBEq, String.reduceBNe, leak_ch, frz_ch, fz_ch, clr_ch, Option.isSome_some, Option.isSome_none, LINE_26, LINE_28, AZ_len, VW_len, Int.cast_ofNat_Int, Int.natCast_zero, Int.natCast_one, Int.reduceBEq, Int.reduceBNe, Int.reduceLT, Int.reduceLE, Int.reduceAdd, Int.reduceSub, Int.reduceMul, Int.reduceNeg, beq_self_eq_true, String.reduceEq, kvF_tup, kvF_lst, kvF_str, kvF_P, dgF_P, noDic_P, mdic_P, idx_P, isIn_P, notIn_P, frz_PF, fz_PF, fz_PT, leak_PF, sorted_map, strsD_map, isIn_str, lends_fz, lends_val, clr_tup, clr_lstT, clr_int, clr_str, clr_bl, clr_non, clr_map_kind, clr_map_int, clr_map_str, clr_map_ch, Kind.clr, Kind.fz, Kind.frz, fz_map_kind, frz_map_kind, fz_map_ch, frz_map_ch, implies_true, cut_str, fnP_r, fin_nx, fin_rt, fin_exc, startE, sSeq_r, sIf_r, sNx_r, sBk_r, sCt_r, sRetN_r, sRet_r, sSet_r, sDrop_r, sFrz_r, frzE, sAug_r, sAsg_r, sLst1_r, sLst2_r, sLst0_r, sPut_r, sPop_r, sPutP_r, sFrzP_r, lsnoc_r, sPar_r, iEn_r, iZp_r, iRg2_r, iRgD_r, unS_r, Res.noX_val, sFld_r, sFor_r, cst_r, bvar_r, lk_r, un_r, bn_r, tbn_r, tun_r, tnd_r, tor_r, tnt_r, ofB_r, vand_r, vor_r, iff_r, lnil_r, lcons_r, pno_r, pso_r, sli_r, mtup_r, mlst_r, mdic_r, meth_r, tchn_r, bnS_r, dgetX_r, iSeq_r, iSeqF_r, iKv_r, iRg1_r, comp_r, gSet_r, gTup_r, gAll, attr_r, call_eq, getE, setE, brn_true, brn_false, Res.bind_val, Res.bind_exc, Res.bind_bad, Res.so_val, Res.so_exc, Res.so_bad, Res.ofO_some, Res.ofO_none, Res.nx_val, SO.seq_nx, SO.seq_rt, SO.seq_bk, SO.seq_ct, SO.seq_exc, SO.seq_bad, leak_non, leak_bl, leak_int, leak_str, leak_tup, leak_lst, leak_dic, leak_obj, atI_nat, atI_0, atI_1, atI_2, atI_3, atI_4, idx_tup, idx_lst, idx_scr, idx_str, len_str, len_tup, len_lst, len_scr, toInt_int, toInt_bl, toStr_str, add_int, sub_int, neg_int, lt_int, le_int, gt_int, ge_int, truth_bl, truth_int, truth_str, truth_tup, truth_lst, vnot_bl, eq_int, ne_int, eq_str, ne_str, lends_bl, lends_int, lends_str, noDic_lst, noDic_tup, noDic_str, its_tup, its_str, fz_map_int, fz_map_str, frz_map_int, frz_map_str, D.frz_non, D.frz_bl, D.frz_int, D.frz_str, D.frz_tup, D.frz_lstT, D.frz_lstF, D.frz_dicT, D.frz_dicF, D.frz_objT, D.frz_objF, D.fz_non, D.fz_bl, D.fz_int, D.fz_str, D.fz_tup, D.fz_lst, D.fz_dic, D.fz_obj, List.getElem?_cons_zero, List.getElem?_cons_succ, List.getElem?_map, List.getElem?_nil, List.set_cons_zero, List.set_cons_succ, List.map_cons, List.map_nil, List.length_map, List.length_cons, List.length_nil, List.cons_append, List.nil_append, List.append_nil, List.all_cons, List.all_nil, List.replicate_zero, List.replicate_succ, Nat.sub_self, Nat.reduceSub, Nat.reduceAdd, Nat.reduceLeDiff, Nat.reduceEqDiff, Nat.reduceLT, Option.map_some, Option.map_none, Bool.not_true, Bool.not_false, Bool.true_and, Bool.and_true, Bool.false_and, Bool.and_false, Bool.or_true, Bool.true_or, Bool.or_false, Bool.false_or, Bool.false_eq_true, Bool.true_eq_false, if_true, if_false, ite_true, ite_false, reduceIte, eq_self, Nat.zero_add, Nat.add_zero, LINE_0, LINE_1, LINE_2, LINE_3, LINE_4, LINE_5, LINE_6, LINE_7, LINE_8, LINE_9, LINE_10, LINE_11, LINE_12, not_true_eq_false, not_false_eq_true, decide_true, decide_false, and_self, and_true, true_and] at $h*)
theorem m_cell {s : List Int} {k : Nat} : p__law_cell [.nd .scr (s.map .int), .int k] = .val (.int (s.getD k 0)) := by
  unfold p__law_cell f__law_cell
  simp_arith
  by_cases h : k < s.length
  · rw [brn_pos (by simpa using h)]
    simp_arith
    rw [List.getElem?_eq_getElem h]
    simp_arith
    simp [h]
  · rw [brn_neg (by simpa using h)]
    simp_arith
    simp [h]
/-- a cell of the script -/
theorem m_cell_sm {s : List Int} (hs : ∀ z ∈ s, Snum z) (k : Nat) : ∃ z, p__law_cell [.nd .scr (s.map .int), .int k] = .val (.int z) ∧ Snum z := by
  refine ⟨_, m_cell, ?_⟩
  by_cases h : k < s.length
  · rw [show s.getD k 0 = s[k] by simp [h]]; exact hs _ (List.getElem_mem _)
  · rw [show s.getD k 0 = 0 by simp [h]]; unfold Snum; simp
/-- a row of drawn numbers -/
theorem m_row {c : Int} (hc : Snum c) {many : Nat} (hm : many ≤ 4000) {limit : Int} (hl : 0 < limit ∧ limit < 2 ^ 30) :
    ∃ r : List Int, p__law_row [.int c, .int many, .int limit] = .val (.lst true (r.map .int)) ∧ r.length = many ∧ ∀ x ∈ r, 0 ≤ x ∧ x < limit := by
  unfold p__law_row f__law_row
  simp_arith
  rw [if_pos (by unfold RgOk; omega)]
  simp_arith [Int.toNat_natCast]
  have H := forL_rng (g := gSet 5) (b := f__law_row_b1)
    (fun i ρ => ∃ (r : List Int) (rest : Int) (j5 j6 : Option D), ρ = [some (.int c), some (.int many), some (.int limit), some (.lst true (r.map .int)), some (.int rest), j5, j6] ∧ r.length = i ∧ ∀ x ∈ r, 0 ≤ x ∧ x < limit) many
    (fun i ρ hi hI => by
      obtain ⟨r, rest, j5, j6, rfl, hr, hx⟩ := hI
      refine ⟨_, rfl, ?_⟩
      unfold f__law_row_b1
      simp_arith
      rw [mul_s (by omega) (by omega)]
      simp_arith
      rw [mul_sm hc (by omega)]
      simp_arith
      rw [mod_int (by omega)]
      simp_arith
      have q1 := Int.emod_nonneg (c * (48271 + 69621 * (i : Int))) (show (2147483647 : Int) ≠ 0 by omega)
      have q2 := Int.emod_lt_of_pos (c * (48271 + 69621 * (i : Int))) (show (0 : Int) < 2147483647 by omega)
      generalize c * (48271 + 69621 * (i : Int)) % 2147483647 = m1 at q1 q2
      rw [mul_s (by omega) (by omega)]
      simp_arith
      rw [mod_int (by omega)]
      simp_arith
      rw [fdiv_int (by omega)]
      simp_arith [pow_ok]
      by_cases h : (1000000000000000000 : Int) ≤ c
      · rw [brn_pos (by simpa using h)]
        simp_arith
        rw [mod_int (by omega)]
        simp_arith
        rw [app_ok (LINE_lt (by simp; omega))]
        simp_arith
        rw [fdiv_int (by omega)]
        simp_arith
        refine ⟨_, .inl rfl, r ++ [rest % limit], _, _, _, by rw [List.map_append]; rfl, by simp [hr], ?_⟩
        intro x hx'
        rcases List.mem_append.mp hx' with z | z
        · exact hx x z
        · rw [List.mem_singleton.mp z]
          exact ⟨Int.emod_nonneg _ (by omega), Int.emod_lt_of_pos _ (by omega)⟩
      · rw [brn_neg (by simpa using h)]
        simp_arith
        rw [mod_int (by omega)]
        simp_arith
        rw [app_ok (LINE_lt (by simp; omega))]
        simp_arith
        rw [fdiv_int (by omega)]
        simp_arith
        refine ⟨_, .inl rfl, r ++ [(m1 * m1 % 2147483629 / 64) % limit], _, _, _, by rw [List.map_append]; rfl, by simp [hr], ?_⟩
        intro x hx'
        rcases List.mem_append.mp hx' with z | z
        · exact hx x z
        · rw [List.mem_singleton.mp z]
          exact ⟨Int.emod_nonneg _ (by omega), Int.emod_lt_of_pos _ (by omega)⟩)
    (ρ := [some (.int c), some (.int many), some (.int limit), some (.lst true []), some (.int c), none, none]) ⟨[], c, none, none, rfl, rfl, by simp⟩
  obtain ⟨ρ', e, r, rest, j5, j6, rfl, hr, hx⟩ := H
  rw [e]
  simp_arith
  exact ⟨r, rfl, hr, hx⟩
theorem m_letters {r : List Int} (hr : r.length ≤ 26) (h0 : ∀ x ∈ r, 0 ≤ x) :
    ∃ ls : List Nat, p__law_letters [.lst false (r.map .int)] = .val (.lst true (ls.map chD)) ∧ ls.length = r.length ∧ ls.Nodup ∧ ∀ c ∈ ls, 65 ≤ c ∧ c ≤ 90 := by
  unfold p__law_letters f__law_letters
  simp_arith
  rw [its_lst (fz_map_int r)]
  simp_arith
  have H := forL_inv (g := gSet 3) (b := f__law_letters_b1) D.int
    (fun done ρ => ∃ (ls : List Nat) (sp : Tx) (j3 j4 : Option D), ρ = [some (.lst false (r.map .int)), some (.str sp), some (.lst true (ls.map chD)), j3, j4] ∧ ls.length = done.length ∧ ls.length + sp.length = 26 ∧ (ls ++ sp).Nodup ∧ ∀ c ∈ ls ++ sp, 65 ≤ c ∧ c ≤ 90) r
    (fun done a rest ρ e hI => by
      obtain ⟨ls, sp, j3, j4, rfl, h1, h2, h3, h4⟩ := hI
      have hl := congrArg List.length e
      simp only [List.length_append, List.length_cons] at hl
      refine ⟨_, rfl, ?_⟩
      unfold f__law_letters_b1
      simp_arith
      rw [mod_int (by omega)]
      have q1 := Int.emod_nonneg a (show (sp.length : Int) ≠ 0 by omega)
      have q2 := Int.emod_lt_of_pos a (show (0 : Int) < sp.length by omega)
      generalize a % (sp.length : Int) = m at q1 q2
      simp_arith
      obtain ⟨k, rfl⟩ : ∃ k : Nat, m = k := ⟨m.toNat, by omega⟩
      have hk : k < sp.length := by omega
      simp_arith
      rw [List.getElem?_eq_getElem hk]
      simp_arith
      rw [app_ok (LINE_lt (by simp; omega))]
      simp_arith
      rw [cut_to _ (by omega), cut_from _ (by omega), add_str (LINE_le (by simp; omega))]
      simp_arith
      have hsp : sp = sp.take k ++ sp[k] :: sp.drop (k + 1) := by simp
      have hp : (ls ++ [sp[k]] ++ (sp.take k ++ sp.drop (k + 1))).Perm (ls ++ sp) := by
        rw [List.append_assoc]
        refine List.Perm.append_left ls ?_
        conv => rhs; rw [hsp]
        exact (List.perm_middle (l₁ := sp.take k) (a := sp[k]) (l₂ := sp.drop (k + 1))).symm
      refine ⟨_, .inl rfl, ls ++ [sp[k]], sp.take k ++ sp.drop (k + 1), _, _, by rw [List.map_append]; rfl, by simp [h1], by simp; omega, hp.nodup_iff.mpr h3, fun c hc => h4 c (hp.mem_iff.mp hc)⟩)
    (ρ := [some (.lst false (r.map .int)), some (.str AZ), some (.lst true []), none, none])
    ⟨[], AZ, none, none, rfl, rfl, rfl, by decide, by decide⟩
  obtain ⟨ρ', e, ls, sp, j3, j4, rfl, h1, h2, h3, h4⟩ := H
  rw [e]
  simp_arith
  exact ⟨ls, rfl, h1, (List.nodup_append.mp h3).1, fun c hc => h4 c (List.mem_append_left _ hc)⟩
/-- a letter of a kind -/
def isLet (t : Tx) : Bool := match t with
  | [c] => decide (65 ≤ c ∧ c ≤ 90)
  | _ => false
theorem m_is_letter (t : Tx) : p_is_letter [.str t] = .val (.bl (isLet t)) := by
  unfold p_is_letter f_is_letter
  simp_arith
  cases t with
  | nil => simp_arith <;> rfl
  | cons c r =>
    cases r with
    | nil => simp_arith; simp only [isLet, mem_AZ]
    | cons d r =>
      have h : (((c :: d :: r).length : Int) == 1) = false := by simp; omega
      simp_arith
      simp_arith at h
      simp only [h]
      rfl
/-- a view -/
def isVw (t : Tx) : Bool := match t with
  | [c] => decide (c ∈ VW)
  | _ => false
theorem m_is_view (t : Tx) : p_is_view [.str t] = .val (.bl (isVw t)) := by
  unfold p_is_view f_is_view
  simp_arith
  cases t with
  | nil => simp_arith <;> rfl
  | cons c r =>
    cases r with
    | nil => simp_arith <;> rfl
    | cons d r =>
      have h : (((c :: d :: r).length : Int) == 1) = false := by simp; omega
      simp_arith
      simp_arith at h
      simp only [h]
      rfl
def stxt : Option D → Tx
  | some (.str t) => t
  | _ => []
/-- one permission among its group -/
def gstep (g : List (Tx × D)) (t : Tx) : List (Tx × D) := putP g (t.take 2) (.str (stxt (g.lookup (t.take 2)) ++ t.drop 2))
/-- the right views, by letter and left view -/
def groups (al : List Tx) : List (Tx × D) := (sortT al).foldl gstep []
/-- texts alone, together not longer than n -/
def GrOk (n : Nat) (g : List (Tx × D)) : Prop := g.length ≤ n ∧ ∀ u, ∃ t, t.length ≤ n ∧ (g.lookup u = none ∨ g.lookup u = some (.str t))
theorem gr_lookup {n : Nat} {g : List (Tx × D)} (h : GrOk n g) (u : Tx) : g.lookup u = none ∧ stxt (g.lookup u) = [] ∨ g.lookup u = some (.str (stxt (g.lookup u))) ∧ (stxt (g.lookup u)).length ≤ n := by
  obtain ⟨t, h1, h2 | h2⟩ := h.2 u
  · exact .inl ⟨h2, by rw [h2]; rfl⟩
  · exact .inr ⟨by rw [h2]; rfl, by rw [h2]; exact h1⟩
theorem put_len (g : List (Tx × D)) (t v) : (putP g t v).length ≤ g.length + 1 := by
  induction g with
  | nil => exact Nat.le_refl _
  | cons p g ih => obtain ⟨a, b⟩ := p; unfold putP; split <;> simp; exact ih
theorem gr_step {n : Nat} {g : List (Tx × D)} (h : GrOk n g) {t : Tx} (ht : t.length = 3) : GrOk (n + 1) (gstep g t) := by
  have hd : (t.drop 2).length = 1 := by rw [List.length_drop, ht]
  refine ⟨Nat.le_trans (put_len _ _ _) (by have := h.1; omega), fun u => ?_⟩
  unfold gstep
  rw [lookup_put]
  by_cases e : u = t.take 2
  · rw [if_pos e]
    refine ⟨_, ?_, .inr rfl⟩
    rw [List.length_append, hd]
    rcases gr_lookup h (t.take 2) with ⟨_, z⟩ | ⟨_, z⟩
    · rw [z]; simp
    · omega
  · rw [if_neg e]
    obtain ⟨t', h1, h2⟩ := h.2 u
    exact ⟨t', by omega, h2⟩
theorem gr_vals {g : List (Tx × D)} {t : Tx} {s : Tx} (h : (g.map (·.2)).all D.fz = true) : ((putP g t (.str s)).map (·.2)).all D.fz = true := by
  induction g with
  | nil => rfl
  | cons p g ih =>
    obtain ⟨a, b⟩ := p
    simp only [List.map_cons, List.all_cons, Bool.and_eq_true] at h
    unfold putP
    split
    · simp only [List.map_cons, List.all_cons, D.fz_str, Bool.true_and, h.2]
    · simp only [List.map_cons, List.all_cons, h.1, Bool.true_and]; exact ih h.2
theorem m_right_groups {al : List Tx} (hl : al.length ≤ 100000) (h3 : ∀ t ∈ al, t.length = 3) (vs : Tx → D) : p_right_groups [dicP false (al.map fun t => (t, vs t))] = .val (dicP true (groups al)) := by
  unfold p_right_groups f_right_groups
  simp_arith
  rw [List.map_map, show (List.map ((fun p => D.str p.1) ∘ fun t => (t, vs t)) al) = al.map D.str from rfl]
  rw [compL_all D.str D.str al fun a _ => ⟨_, rfl, by simp_arith [wipeE]⟩]
  simp_arith
  rw [if_pos (LINE_le (by omega))]
  simp_arith
  rw [its_lst (fz_map_str _)]
  simp_arith
  have H := forL_inv (g := gSet 2) (b := f_right_groups_b1) D.str
    (fun done ρ => ∃ (j2 j3 j4 : Option D) (g : List (Tx × D)), ρ = [some (dicP false (al.map fun t => (t, vs t))), some (dicP true g), j2, j3, j4] ∧ g = done.foldl gstep [] ∧ GrOk done.length g ∧ (g.map (·.2)).all D.fz = true) (sortT al)
    (fun done a rest ρ e hI => by
      obtain ⟨j2, j3, j4, g, rfl, rfl, h4, h5⟩ := hI
      have hl' := congrArg List.length e
      rw [sortT_len] at hl'
      simp only [List.length_append, List.length_cons] at hl'
      have ha : a.length = 3 := h3 a (mem_sortT.mp (e ▸ (List.mem_append_right done List.mem_cons_self)))
      refine ⟨_, rfl, ?_⟩
      unfold f_right_groups_b1
      simp_arith
      rw [cut_to _ (by omega)]
      simp only [show (2 : Int).toNat = 2 from rfl]
      rw [getd_P h5 rfl]
      have ea : a = [a[0], a[1], a[2]] := by
        match a, ha with
        | [x, y, z], _ => rfl
      have e2 : a[2]? = some a[2] := List.getElem?_eq_getElem (by omega)
      simp_arith [e2]
      have ed : a.drop 2 = [a[2]] := by
        match a, ha with
        | [x, y, z], _ => rfl
      have hs : ((List.foldl gstep [] done).lookup (a.take 2)).getD (.str []) = .str (stxt ((List.foldl gstep [] done).lookup (a.take 2))) := by
        rcases gr_lookup h4 (a.take 2) with ⟨z1, z2⟩ | ⟨z1, z2⟩
        · rw [z1]; rfl
        · rw [z1]; rfl
      have hs2 : (stxt ((List.foldl gstep [] done).lookup (a.take 2))).length ≤ done.length := by
        rcases gr_lookup h4 (a.take 2) with ⟨z1, z2⟩ | ⟨z1, z2⟩
        · rw [z2]; simp
        · exact z2
      rw [hs, add_str (LINE_le (by simp only [List.length_cons, List.length_nil]; omega))]
      simp_arith
      rw [put_P (LINE_lt (by have := h4.1; omega))]
      simp_arith
      refine ⟨_, .inl rfl, _, _, _, _, rfl, ?_, ?_, ?_⟩
      · rw [List.foldl_append]; show _ = gstep _ a; unfold gstep; rw [ed]
      · have := gr_step h4 ha
        rw [List.length_append]
        unfold gstep at this
        rw [ed] at this
        exact this
      · exact gr_vals h5)
    (ρ := [some (dicP false (al.map fun t => (t, vs t))), some (dicP true []), none, none, none])
    ⟨none, none, none, [], rfl, rfl, ⟨Nat.le_refl _, fun u => ⟨[], Nat.le_refl _, .inl rfl⟩⟩, rfl⟩
  obtain ⟨ρ', e, j2, j3, j4, g, rfl, rfl, h4, h5⟩ := H
  rw [e]
  simp_arith
  rfl
/-! ### rule books -/
structure Bk where
  ks : List Kind
  al : List Tx
def lts (ks : List Kind) : List Nat := ks.map Kind.c
def szs (ks : List Kind) : List (Tx × D) := ks.map fun k => ([k.c], .int k.size)
def wos (ks : List Kind) : List (Tx × D) := ks.map fun k => ([k.c], .int k.worth)
def als (al : List Tx) : List (Tx × D) := al.map fun t => (t, .bl true)
def kOf (ks : List Kind) (c : Nat) : Kind := (ks.find? fun k => k.c == c).getD ⟨c, 0, 0⟩
def kLts (ks : List Kind) : Tx := AZ.filter fun c => decide (c ∈ lts ks)
/-- the kinds in alphabetical order -/
def srt (ks : List Kind) : List Kind := (kLts ks).map (kOf ks)
def capOf (ks : List Kind) : Int := 2 + maxI 0 (ks.map Kind.size)
def Bk.ns : List String := ["sizes", "worths", "allowed", "rights", "known_letters", "known_kinds", "known_permissions", "longest_gap"]
def Bk.vs (b : Bk) : List D := [dicP false (szs b.ks), dicP false (wos b.ks), dicP false (als b.al), dicP false (groups b.al), .str (kLts b.ks), .tup ((srt b.ks).map Kind.d), .tup ((sortT b.al).map D.str), .int (capOf b.ks)]
def Bk.d (b : Bk) : D := .obj false "RuleBook" Bk.ns b.vs
structure KsOk (ks : List Kind) : Prop where
  nd : (lts ks).Nodup
  ok : ∀ k ∈ ks, (65 ≤ k.c ∧ k.c ≤ 90) ∧ (1 ≤ k.size ∧ k.size ≤ 9) ∧ (-999 ≤ k.worth ∧ k.worth ≤ 999)
/-- a permission of the kinds -/
def PmOk (ks : List Kind) (t : Tx) : Prop := ∃ c l r, t = [c, l, r] ∧ c ∈ lts ks ∧ l ∈ VW ∧ r ∈ VW
/-- each once, in the order of the first -/
def dd (ps : List Tx) : List Tx := ps.foldl (fun l t => if t ∈ l then l else l ++ [t]) []
theorem mem_lts {ks : List Kind} {c : Nat} : c ∈ lts ks ↔ ∃ k ∈ ks, k.c = c := by unfold lts; simp
theorem KsOk.len {ks : List Kind} (h : KsOk ks) : ks.length ≤ 26 := by
  have hs : lts ks ⊆ AZ := fun c hc => by
    obtain ⟨k, hk, rfl⟩ := mem_lts.mp hc
    exact mem_AZ.mpr (h.ok k hk).1
  have := h.nd.length_le_of_subset hs
  simpa [lts, AZ] using this
theorem szs_keys (ks) : (szs ks).map (·.1) = (lts ks).map fun c => [c] := by unfold szs lts; rw [List.map_map, List.map_map]; rfl
theorem wos_keys (ks) : (wos ks).map (·.1) = (lts ks).map fun c => [c] := by unfold wos lts; rw [List.map_map, List.map_map]; rfl
theorem als_keys (al) : (als al).map (·.1) = al := by unfold als; rw [List.map_map]; exact List.map_id _
theorem one_mem {c : Nat} {l : List Nat} : [c] ∈ l.map (fun c => [c]) ↔ c ∈ l := by simp
theorem sz_some (ks c) : ((szs ks).lookup [c]).isSome = decide (c ∈ lts ks) := by
  rw [lookup_isSome, szs_keys]; exact decide_eq_decide.mpr one_mem
theorem al_some (al t) : ((als al).lookup t).isSome = decide (t ∈ al) := by rw [lookup_isSome, als_keys]
theorem put_szs {ks : List Kind} {k : Kind} (h : k.c ∉ lts ks) : putP (szs ks) [k.c] (.int k.size) = szs (ks ++ [k]) := by
  rw [put_new (by rw [szs_keys]; exact fun z => h (one_mem.mp z))]; unfold szs; simp
theorem put_wos {ks : List Kind} {k : Kind} (h : k.c ∉ lts ks) : putP (wos ks) [k.c] (.int k.worth) = wos (ks ++ [k]) := by
  rw [put_new (by rw [wos_keys]; exact fun z => h (one_mem.mp z))]; unfold wos; simp
theorem put_als (al : List Tx) (t : Tx) : putP (als al) t (.bl true) = als (if t ∈ al then al else al ++ [t]) := by
  by_cases h : t ∈ al
  · rw [if_pos h]
    induction al with
    | nil => cases h
    | cons u al ih =>
      show putP ((u, .bl true) :: als al) t (.bl true) = (u, .bl true) :: als al
      unfold putP
      by_cases e : u = t
      · rw [if_pos e]
      · rw [if_neg e, ih ((List.mem_cons.mp h).resolve_left fun z => e z.symm)]
  · rw [if_neg h, put_new (by rw [als_keys]; exact h)]; unfold als; simp
theorem dd_snoc (ps : List Tx) (t : Tx) : dd (ps ++ [t]) = if t ∈ dd ps then dd ps else dd ps ++ [t] := by unfold dd; rw [List.foldl_append]; rfl
theorem dd_inv (ps : List Tx) : (dd ps).Nodup ∧ ∀ t, t ∈ dd ps ↔ t ∈ ps := by
  have go : ∀ n, ∀ ps : List Tx, ps.length = n → (dd ps).Nodup ∧ ∀ t, t ∈ dd ps ↔ t ∈ ps := by
    intro n
    induction n with
    | zero => intro ps h; have : ps = [] := List.length_eq_zero_iff.mp h; subst this; exact ⟨List.nodup_nil, fun t => Iff.rfl⟩
    | succ n ih =>
      intro ps h
      have hne : ps ≠ [] := fun z => by rw [z] at h; cases h
      obtain ⟨qs, a, rfl⟩ : ∃ qs a, ps = qs ++ [a] := ⟨ps.dropLast, ps.getLast hne, (List.dropLast_concat_getLast hne).symm⟩
      obtain ⟨i1, i2⟩ := ih qs (by simpa using h)
      rw [dd_snoc]
      by_cases ha : a ∈ dd qs
      · rw [if_pos ha]
        refine ⟨i1, fun t => ?_⟩
        rw [i2, List.mem_append, List.mem_singleton]
        exact ⟨.inl, fun z => z.elim id fun e => by subst e; exact (i2 t).mp ha⟩
      · rw [if_neg ha]
        refine ⟨List.nodup_append.mpr ⟨i1, by simp, fun x hx y hy e => ha (by rw [List.mem_singleton.mp hy] at e; exact e ▸ hx)⟩, fun t => ?_⟩
        rw [List.mem_append, List.mem_append, i2]
  exact go _ ps rfl
theorem dd_len (ps : List Tx) : (dd ps).length ≤ ps.length := by
  have := (dd_inv ps).1.length_le_of_subset (l₂ := ps) fun t h => ((dd_inv ps).2 t).mp h
  exact this
theorem frz_vals {kvs : List (Tx × D)} (h : (kvs.map (·.2)).all D.fz = true) : D.frz (dicP true kvs) = dicP false kvs := by
  rw [frz_P]
  congr 1
  rw [List.all_map, List.all_eq_true] at h
  exact (List.map_congr_left fun p hp => by rw [D.frz_fz (h p hp)]; rfl).trans (List.map_id _)
theorem frz_szs (ks) : D.frz (dicP true (szs ks)) = dicP false (szs ks) := frz_vals (by unfold szs; simp)
theorem frz_wos (ks) : D.frz (dicP true (wos ks)) = dicP false (wos ks) := frz_vals (by unfold wos; simp)
theorem frz_als (ks) : D.frz (dicP true (als ks)) = dicP false (als ks) := frz_vals (by unfold als; simp)
theorem gr_fz (ts : List Tx) (g : List (Tx × D)) (h : (g.map (·.2)).all D.fz = true) : ((ts.foldl gstep g).map (·.2)).all D.fz = true := by
  induction ts generalizing g with
  | nil => exact h
  | cons t ts ih => exact ih _ (gr_vals h)
theorem groups_fz (al) : ((groups al).map (·.2)).all D.fz = true := gr_fz _ [] rfl
theorem setF_r {cn n ns vs v} : D.setF cn n (.obj true cn ns vs) v = if ns.length < 1000 then some (.obj true cn (fputK ns n) (fputV ns vs n v)) else none := by
  unfold D.setF; simp
theorem flat_one (l : List Nat) : (l.map fun c => [c]).flatten = l := by induction l with
  | nil => rfl
  | cons a l ih => simp [ih]
theorem kOf_mem {ks : List Kind} {c : Nat} (h : c ∈ lts ks) : kOf ks c ∈ ks ∧ (kOf ks c).c = c := by
  unfold kOf
  cases e : ks.find? fun k => k.c == c with
  | none =>
    rw [List.find?_eq_none] at e
    obtain ⟨k, hk, hc⟩ := mem_lts.mp h
    exact absurd (by simpa using hc) (e k hk)
  | some k =>
    have h1 := List.find?_some e
    exact ⟨List.mem_of_find?_eq_some e, by simpa using h1⟩
theorem szs_at {ks : List Kind} {c : Nat} (h : c ∈ lts ks) : (szs ks).lookup [c] = some (.int (kOf ks c).size) := by
  induction ks with
  | nil => cases h
  | cons k ks ih =>
    show List.lookup [c] (([k.c], D.int k.size) :: szs ks) = _
    by_cases e : k.c = c
    · subst e
      have : kOf (k :: ks) k.c = k := by unfold kOf; simp
      rw [this]; simp
    · have h2 : ([c] == [k.c]) = false := by simpa using fun z => e z.symm
      have h3 : kOf (k :: ks) c = kOf ks c := by
        unfold kOf
        rw [List.find?_cons_of_neg (by simpa using e)]
      simp only [List.lookup, h2, h3]
      obtain ⟨k', hk, hc⟩ := mem_lts.mp h
      exact ih (mem_lts.mpr ⟨k', (List.mem_cons.mp hk).resolve_left fun z => e (z ▸ hc), hc⟩)
theorem wos_at {ks : List Kind} {c : Nat} (h : c ∈ lts ks) : (wos ks).lookup [c] = some (.int (kOf ks c).worth) := by
  induction ks with
  | nil => cases h
  | cons k ks ih =>
    show List.lookup [c] (([k.c], D.int k.worth) :: wos ks) = _
    by_cases e : k.c = c
    · subst e
      have : kOf (k :: ks) k.c = k := by unfold kOf; simp
      rw [this]; simp
    · have h2 : ([c] == [k.c]) = false := by simpa using fun z => e z.symm
      have h3 : kOf (k :: ks) c = kOf ks c := by
        unfold kOf
        rw [List.find?_cons_of_neg (by simpa using e)]
      simp only [List.lookup, h2, h3]
      obtain ⟨k', hk, hc⟩ := mem_lts.mp h
      exact ih (mem_lts.mpr ⟨k', (List.mem_cons.mp hk).resolve_left fun z => e (z ▸ hc), hc⟩)
theorem kOf_self {ks : List Kind} (h : KsOk ks) {k : Kind} (hk : k ∈ ks) : kOf ks k.c = k := by
  obtain ⟨h1, h2⟩ := kOf_mem (mem_lts.mpr ⟨k, hk, rfl⟩)
  have nd := h.nd
  generalize kOf ks k.c = k' at h1 h2
  clear h
  induction ks with
  | nil => cases hk
  | cons a ks ih =>
    unfold lts at nd
    rw [List.map_cons, List.nodup_cons] at nd
    rcases List.mem_cons.mp hk with z | z <;> rcases List.mem_cons.mp h1 with y | y
    · rw [z, y]
    · exact absurd (List.mem_map.mpr ⟨k', y, by rw [h2, z]⟩) nd.1
    · exact absurd (List.mem_map.mpr ⟨k, z, by rw [← h2, y]⟩) nd.1
    · exact ih z nd.2 y
theorem m_init_b1 {ks : List Kind} (h : KsOk ks) (self pd : D) :
    ∃ j6 j7 j8 j9, forL (gSet 6) f_RuleBook___init___b1 (ks.map Kind.d) [some self, some (.lst false (ks.map Kind.d)), some pd, some (dicP true []), some (dicP true []), some (dicP true []), none, none, none, none, none] =
      .nx [some self, some (.lst false (ks.map Kind.d)), some pd, some (dicP true (szs ks)), some (dicP true (wos ks)), some (dicP true []), j6, j7, j8, j9, none] := by
  have H := forL_inv (g := gSet 6) (b := f_RuleBook___init___b1) Kind.d
    (fun done ρ => ∃ (j6 j7 j8 j9 : Option D), ρ = [some self, some (.lst false (ks.map Kind.d)), some pd, some (dicP true (szs done)), some (dicP true (wos done)), some (dicP true []), j6, j7, j8, j9, none]) ks
    (fun done k rest ρ e hI => by
      obtain ⟨j6, j7, j8, j9, rfl⟩ := hI
      have hk : k ∈ ks := e ▸ List.mem_append_right done List.mem_cons_self
      obtain ⟨o1, o2, o3⟩ := h.ok k hk
      have hl := h.len
      have hl2 := congrArg List.length e
      simp only [List.length_append, List.length_cons] at hl2
      have hn : k.c ∉ lts done := fun z => by
        have nd := h.nd
        rw [e] at nd
        unfold lts at nd z
        rw [List.map_append, List.map_cons] at nd
        exact (List.nodup_append.mp nd).2.2 _ z _ List.mem_cons_self rfl
      refine ⟨_, rfl, ?_⟩
      unfold f_RuleBook___init___b1
      simp_arith [Kind.d, m_is_letter, sz_some]
      rw [show isLet [k.c] = true from by unfold isLet; simpa using o1, show decide (k.c ∈ lts done) = false from by simpa using hn]
      simp_arith
      rw [show decide ((1 : Int) ≤ k.size) = true from by simpa using o2.1]
      simp_arith
      rw [show decide (k.size ≤ 9) = true from by simpa using o2.2]
      simp_arith
      rw [show decide ((-999 : Int) ≤ k.worth) = true from by simpa using o3.1]
      simp_arith
      rw [show decide (k.worth ≤ 999) = true from by simpa using o3.2]
      simp_arith
      rw [put_P (LINE_lt (by unfold szs; rw [List.length_map]; omega)), put_szs hn]
      simp_arith
      rw [put_P (LINE_lt (by unfold wos; rw [List.length_map]; omega)), put_wos hn]
      simp_arith
      exact ⟨_, .inl rfl, _, _, _, _, rfl⟩)
    (ρ := [some self, some (.lst false (ks.map Kind.d)), some pd, some (dicP true []), some (dicP true []), some (dicP true []), none, none, none, none, none]) ⟨none, none, none, none, rfl⟩
  obtain ⟨ρ', e, j6, j7, j8, j9, rfl⟩ := H
  exact ⟨j6, j7, j8, j9, e⟩
theorem m_init_b2 {ks : List Kind} {ps : List Tx} (hp : ∀ t ∈ ps, PmOk ks t) (hl : ps.length ≤ 100000) (self kd wd : D) (j6 j7 j8 j9 : Option D) :
    ∃ j6', forL (gSet 6) f_RuleBook___init___b2 (ps.map D.str) [some self, some kd, some (.lst false (ps.map D.str)), some (dicP true (szs ks)), some wd, some (dicP true []), j6, j7, j8, j9, none] =
      .nx [some self, some kd, some (.lst false (ps.map D.str)), some (dicP true (szs ks)), some wd, some (dicP true (als (dd ps))), j6', j7, j8, j9, none] := by
  have H := forL_inv (g := gSet 6) (b := f_RuleBook___init___b2) D.str
    (fun done ρ => ∃ (j6 : Option D), ρ = [some self, some kd, some (.lst false (ps.map D.str)), some (dicP true (szs ks)), some wd, some (dicP true (als (dd done))), j6, j7, j8, j9, none]) ps
    (fun done t rest ρ e hI => by
      obtain ⟨j6, rfl⟩ := hI
      obtain ⟨c, l, r, rfl, hc, hv1, hv2⟩ := hp t (e ▸ List.mem_append_right done List.mem_cons_self)
      have hl2 := congrArg List.length e
      simp only [List.length_append, List.length_cons] at hl2
      refine ⟨_, rfl, ?_⟩
      unfold f_RuleBook___init___b2
      simp_arith [sz_some, m_is_view]
      rw [show decide (c ∈ lts ks) = true from by simpa using hc]
      simp_arith [m_is_view]
      rw [show isVw [l] = true from by unfold isVw; simpa using hv1, show isVw [r] = true from by unfold isVw; simpa using hv2]
      simp_arith
      rw [put_P (LINE_lt (by unfold als; rw [List.length_map]; have := dd_len done; omega)), put_als, ← dd_snoc]
      simp_arith
      exact ⟨_, .inl rfl, _, rfl⟩)
    (ρ := [some self, some kd, some (.lst false (ps.map D.str)), some (dicP true (szs ks)), some wd, some (dicP true []), j6, j7, j8, j9, none]) ⟨j6, rfl⟩
  obtain ⟨ρ', e, j6', rfl⟩ := H
  exact ⟨j6', e⟩
theorem m_mk_RuleBook {ks : List Kind} {ps : List Tx} (h : KsOk ks) (hp : ∀ t ∈ ps, PmOk ks t) (hl : ps.length ≤ 100000) :
    p_mk_RuleBook [.lst false (ks.map Kind.d), .lst false (ps.map D.str)] = .val (Bk.d ⟨ks, dd ps⟩) := by
  unfold p_mk_RuleBook f_RuleBook___init__
  simp_arith [mkP_r]
  rw [its_lst (fz_map_kind _)]
  simp_arith
  obtain ⟨j6, j7, j8, j9, e1⟩ := m_init_b1 h (.obj true "RuleBook" [] []) (.lst false (ps.map D.str))
  rw [e1]
  simp_arith
  rw [its_lst (fz_map_str _)]
  simp_arith
  obtain ⟨j6', e2⟩ := m_init_b2 hp hl (.obj true "RuleBook" [] []) (.lst false (ks.map Kind.d)) (dicP true (wos ks)) j6 j7 j8 j9
  rw [e2]
  simp_arith [setF_r, fputK, fputV, frz_szs, frz_wos, frz_als]
  rw [show als (dd ps) = (dd ps).map (fun t => (t, D.bl true)) from rfl, m_right_groups (Nat.le_trans (dd_len ps) hl) (fun t ht => by
    obtain ⟨c, l, r, rfl, _⟩ := hp t (((dd_inv ps).2 t).mp ht)
    rfl) fun _ => .bl true, ← show als (dd ps) = (dd ps).map (fun t => (t, D.bl true)) from rfl]
  simp_arith [setF_r, fputK, fputV]
  rw [compL_map chD (fun c => decide (c ∈ lts ks)) chD AZ fun a _ => ⟨_, rfl, by simp_arith [wipeE, chD, sz_some], fun _ => by simp_arith [wipeE, chD]⟩]
  simp_arith [setF_r, fputK, fputV]
  rw [show (List.filter (fun c => decide (c ∈ lts ks)) AZ).map chD = ((kLts ks).map fun c => [c]).map D.str from by rw [List.map_map]; rfl, join_map [] true _ (LINE_le (by
    rw [List.map_map, List.length_map]
    have : (kLts ks).length ≤ 26 := List.length_filter_le _ AZ
    have e : ((kLts ks).map (List.length ∘ fun c => [c])).sum = (kLts ks).length := by
      induction kLts ks with
      | nil => rfl
      | cons a l ih => simp [ih]; omega
    rw [e]; simp; omega)), joinT_nil, flat_one]
  simp_arith [setF_r, fputK, fputV]
  rw [compL_map chD (fun c => decide (c ∈ lts ks)) (fun c => (kOf ks c).d) AZ fun a _ => ⟨_, rfl, by simp_arith [wipeE, chD, sz_some], fun ha => by
    have hm : a ∈ lts ks := by simpa using ha
    have := (kOf_mem hm).2
    simp_arith [wipeE, chD, szs_at hm, wos_at hm]
    unfold Kind.d
    rw [this]⟩]
  simp_arith [setF_r, fputK, fputV]
  rw [show (List.filter (fun c => decide (c ∈ lts ks)) AZ).map (fun c => (kOf ks c).d) = (srt ks).map Kind.d from by unfold srt kLts; rw [List.map_map]; rfl, toTup_lst (fz_map_kind _)]
  simp_arith [setF_r, fputK, fputV]
  rw [show (als (dd ps)).map (fun p => D.str p.1) = (dd ps).map D.str from by unfold als; rw [List.map_map]; rfl, compL_all D.str D.str _ fun a _ => ⟨_, rfl, by simp_arith [wipeE]⟩]
  simp_arith [setF_r, fputK, fputV]
  rw [if_pos (LINE_le (by unfold als; rw [List.length_map]; have := dd_len ps; omega))]
  simp_arith [setF_r, fputK, fputV]
  rw [toTup_lst (fz_map_str _)]
  simp_arith [setF_r, fputK, fputV]
  rw [show (szs ks).map (fun p => D.str p.1) = ks.map (fun k => D.str [k.c]) from by unfold szs; rw [List.map_map]; rfl, compL_all (fun k : Kind => D.str [k.c]) (fun k => D.int (kOf ks k.c).size) _ fun a ha => ⟨_, rfl, by
    have hm : a.c ∈ lts ks := mem_lts.mpr ⟨a, ha, rfl⟩
    simp_arith [wipeE, szs_at hm]⟩]
  simp_arith [setF_r, fputK, fputV]
  rw [if_pos (LINE_le (by unfold szs; rw [List.length_map]; have := h.len; omega))]
  simp_arith [setF_r, fputK, fputV]
  rw [show ks.map (fun k => D.int (kOf ks k.c).size) = (ks.map Kind.size).map D.int from by
    rw [List.map_map]; exact List.map_congr_left fun k hk => by rw [kOf_self h hk]; rfl]
  rw [show D.add (.lst true [.int 0]) (.lst true ((ks.map Kind.size).map D.int)) = some (.lst true ((0 :: ks.map Kind.size).map D.int)) from if_pos ⟨LINE_le (by have := h.len; simp; omega), by simp⟩]
  simp_arith [setF_r, fputK, fputV]
  rw [show (D.int 0 :: List.map D.int (List.map Kind.size ks)) = (0 :: ks.map Kind.size).map D.int from rfl, max1_map]
  simp_arith [setF_r, fputK, fputV]
  rw [frz_vals (groups_fz _)]
  rfl
theorem bk_fz (b : Bk) : b.d.fz = true := rfl
theorem bk_frz (b : Bk) : b.d.frz = b.d := D.frz_fz rfl
theorem bk_leak (b : Bk) : leak b.d = .val b.d := rfl
theorem bk_isObj (b : Bk) (m : String) (h : Bk.ns.all (· != m) = true) : b.d.isObjM "RuleBook" m = true := by
  unfold D.isObjM Bk.d; simp only [beq_self_eq_true, Bool.true_and]; exact h
theorem at_sizes (b : Bk) : atF prp0 "sizes" b.d = .val (dicP false (szs b.ks)) := by unfold Bk.d; rw [atF_fld gt_RuleBook_sizes]; rfl
theorem at_worths (b : Bk) : atF prp0 "worths" b.d = .val (dicP false (wos b.ks)) := by unfold Bk.d; rw [atF_fld gt_RuleBook_worths]; rfl
theorem at_allowed (b : Bk) : atF prp0 "allowed" b.d = .val (dicP false (als b.al)) := by unfold Bk.d; rw [atF_fld gt_RuleBook_allowed]; rfl
theorem at_rights (b : Bk) : atF prp0 "rights" b.d = .val (dicP false (groups b.al)) := by unfold Bk.d; rw [atF_fld gt_RuleBook_rights]; rfl
theorem at_known_letters (b : Bk) : atF prpF "known_letters" b.d = .val (.str (kLts b.ks)) := by unfold Bk.d; rw [atF_fld gF_RuleBook_known_letters]; rfl
theorem at_known_kinds (b : Bk) : atF prpF "known_kinds" b.d = .val (.tup ((srt b.ks).map Kind.d)) := by unfold Bk.d; rw [atF_fld gF_RuleBook_known_kinds]; rfl
theorem at_known_permissions (b : Bk) : atF prpF "known_permissions" b.d = .val (.tup ((sortT b.al).map D.str)) := by unfold Bk.d; rw [atF_fld gF_RuleBook_known_permissions]; rfl
theorem at_longest_gap (b : Bk) : atF prpF "longest_gap" b.d = .val (.int (capOf b.ks)) := by unfold Bk.d; rw [atF_fld gF_RuleBook_longest_gap]; rfl
theorem gr_str (ts : List Tx) (g : List (Tx × D)) (h : ∀ p ∈ g, ∃ t, p.2 = .str t) : ∀ p ∈ ts.foldl gstep g, ∃ t, p.2 = .str t := by
  induction ts generalizing g with
  | nil => exact h
  | cons t ts ih =>
    refine ih _ ?_
    unfold gstep
    generalize stxt (g.lookup (t.take 2)) ++ t.drop 2 = s
    clear ih
    induction g with
    | nil => intro p hp; rw [List.mem_singleton.mp hp]; exact ⟨s, rfl⟩
    | cons q g ih2 =>
      obtain ⟨a, b⟩ := q
      unfold putP
      split
      · intro p hp
        rcases List.mem_cons.mp hp with z | z
        · rw [z]; exact ⟨s, rfl⟩
        · exact h p (List.mem_cons_of_mem _ z)
      · intro p hp
        rcases List.mem_cons.mp hp with z | z
        · rw [z]; exact h _ List.mem_cons_self
        · exact ih2 (fun p hp => h p (List.mem_cons_of_mem _ hp)) p z
theorem bk_clr (b : Bk) {t : Tg} (h1 : t.d = false) (h2 : t.o = false) : D.clr t b.d = true := by
  unfold Bk.d Bk.vs
  rw [clr_nd]
  simp only [h2, Bool.not_false, Bool.or_true, Bool.true_and, List.all_cons, List.all_nil, clr_P h1, clr_str, clr_int, clr_tup, clr_map_kind, clr_map_str, Bool.and_true]
  rw [show (szs b.ks).map (·.2) = (b.ks.map Kind.size).map D.int from by unfold szs; rw [List.map_map, List.map_map]; rfl, clr_map_int,
    show (wos b.ks).map (·.2) = (b.ks.map Kind.worth).map D.int from by unfold wos; rw [List.map_map, List.map_map]; rfl, clr_map_int]
  simp only [Bool.true_and, Bool.and_eq_true, List.all_eq_true, List.mem_map]
  refine ⟨?_, ?_⟩
  · rintro _ ⟨p, hp, rfl⟩
    unfold als at hp
    obtain ⟨u, _, rfl⟩ := List.mem_map.mp hp
    exact clr_bl _ _
  · rintro _ ⟨p, hp, rfl⟩
    obtain ⟨u, e⟩ := gr_str _ [] (by simp) p hp
    rw [e]; exact clr_str _ _
theorem lends_bk (b : Bk) {ds : List D} (h : ds.all lstFz = true) : lends ds (.val b.d) = .val b.d := lends_nol h fun t h1 h2 => bk_clr b h1 h2
theorem at_kinds (b : Bk) : atF prp0 "kinds" b.d = .val (.tup ((srt b.ks).map Kind.d)) := by
  have e : p_RuleBook_kinds [b.d] = .val (.tup ((srt b.ks).map Kind.d)) := by
    unfold p_RuleBook_kinds f_RuleBook_kinds
    simp_arith [at_known_kinds]
  unfold Bk.d at e ⊢
  rw [atF_get gt_RuleBook_kinds]
  simp_arith [e]
theorem at_permissions (b : Bk) : atF prp0 "permissions" b.d = .val (.tup ((sortT b.al).map D.str)) := by
  have e : p_RuleBook_permissions [b.d] = .val (.tup ((sortT b.al).map D.str)) := by
    unfold p_RuleBook_permissions f_RuleBook_permissions
    simp_arith [at_known_permissions]
  unfold Bk.d at e ⊢
  rw [atF_get gt_RuleBook_permissions]
  simp_arith [e]
theorem RgOk_nat {n : Nat} (h : n ≤ 100000) : RgOk (n : Int) := by unfold RgOk; omega
theorem m_kinds_b1 {c : Int} {most : Nat} (hm : most ≤ 26) {largest : Int} (hl : 1 ≤ largest ∧ largest ≤ 9) {r : List Int} {ls : List Nat}
    (r1 : r.length = 1 + 3 * most) (r2 : ∀ x ∈ r, 0 ≤ x ∧ x < 5040) (l1 : ls.length = most) (l2 : ls.Nodup) (l3 : ∀ c ∈ ls, 65 ≤ c ∧ c ≤ 90) {many : Nat} (hmany : many ≤ most) :
    ∃ (ks : List Kind) (j7 j8 : Option D), forL (gSet 7) f__law_kinds_b1 (rngD 0 many) [some (.int c), some (.int most), some (.int largest), some (.lst true (r.map .int)), some (.lst true (ls.map chD)), some (.int many), some (.lst true []), none, none] =
      .nx [some (.int c), some (.int most), some (.int largest), some (.lst true (r.map .int)), some (.lst true (ls.map chD)), some (.int many), some (.lst true (ks.map Kind.d)), j7, j8] ∧ KsOk ks ∧ ks.length = many ∧ ∀ k ∈ ks, k.size ≤ largest := by
  have H := forL_rng (g := gSet 7) (b := f__law_kinds_b1) (fun i ρ => ∃ (ks : List Kind) (j7 j8 : Option D), ρ = [some (.int c), some (.int most), some (.int largest), some (.lst true (r.map .int)), some (.lst true (ls.map chD)), some (.int many), some (.lst true (ks.map Kind.d)), j7, j8] ∧
      lts ks = ls.take i ∧ ∀ k ∈ ks, (1 ≤ k.size ∧ k.size ≤ largest) ∧ (-999 ≤ k.worth ∧ k.worth ≤ 999)) many
    (fun i ρ hi hI => by
      obtain ⟨ks, j7, j8, rfl, h1, h2⟩ := hI
      have hkl : ks.length = i := by
        have := congrArg List.length h1
        unfold lts at this
        rw [List.length_map, List.length_take] at this
        omega
      refine ⟨_, rfl, ?_⟩
      unfold f__law_kinds_b1
      simp_arith
      rw [mul_s (by omega) (by omega)]
      simp_arith
      rw [idx_at (k := 1 + 2 * most + i) (by omega) (by rw [List.length_map]; omega), List.getElem_map]
      simp_arith
      have q := r2 r[1 + 2 * most + i] (List.getElem_mem _)
      generalize r[1 + 2 * most + i] = w at q
      rw [mod_int (by omega)]
      simp_arith
      have fin : ∀ w' : Int, -999 ≤ w' ∧ w' ≤ 999 → ∃ k : Kind, (1 + r[1 + most + i]'(by omega) % largest, ls[i]'(by omega), w') = (k.size, k.c, k.worth) ∧ lts (ks ++ [k]) = ls.take (i + 1) ∧ ∀ k' ∈ ks ++ [k], (1 ≤ k'.size ∧ k'.size ≤ largest) ∧ (-999 ≤ k'.worth ∧ k'.worth ≤ 999) := fun w' hw => by
        have q3 := r2 r[1 + most + i] (List.getElem_mem _)
        have q4 := Int.emod_nonneg r[1 + most + i] (show largest ≠ 0 by omega)
        have q5 := Int.emod_lt_of_pos r[1 + most + i] (show 0 < largest by omega)
        refine ⟨⟨ls[i], 1 + r[1 + most + i] % largest, w'⟩, rfl, ?_, fun k' hk => ?_⟩
        · unfold lts at h1 ⊢
          rw [List.map_append, h1, List.take_succ_eq_append_getElem (by omega)]; rfl
        · rcases List.mem_append.mp hk with z | z
          · exact h2 k' z
          · rw [List.mem_singleton.mp z]; exact ⟨by show 1 ≤ 1 + r[1 + most + i] % largest ∧ 1 + r[1 + most + i] % largest ≤ largest; omega, hw⟩
      by_cases hodd : w % 2 = 1
      · rw [show (w % 2 == 1) = true from by simpa using hodd]
        simp_arith
        rw [fdiv_int (by omega)]
        simp_arith
        rw [mod_int (by omega)]
        simp_arith
        rw [List.getElem?_eq_getElem (show i < ls.length by omega)]
        simp_arith
        rw [idx_at (k := 1 + most + i) (by omega) (by rw [List.length_map]; omega), List.getElem_map]
        simp_arith
        rw [mod_int (by omega)]
        simp_arith
        rw [app_ok (LINE_lt (by simp; omega))]
        simp_arith
        obtain ⟨k, e1, e2, e3⟩ := fin (w / 2 % 7 - 3) (by omega)
        injection e1 with e4 e5
        injection e5 with e5 e6
        exact ⟨_, .inl rfl, ks ++ [k], _, _, by rw [List.map_append, e4, e5, e6]; rfl, e2, e3⟩
      · rw [show (w % 2 == 1) = false from by simpa using hodd]
        simp_arith
        rw [fdiv_int (by omega)]
        simp_arith
        rw [mod_int (by omega)]
        simp_arith
        rw [List.getElem?_eq_getElem (show i < ls.length by omega)]
        simp_arith
        rw [idx_at (k := 1 + most + i) (by omega) (by rw [List.length_map]; omega), List.getElem_map]
        simp_arith
        rw [mod_int (by omega)]
        simp_arith
        rw [app_ok (LINE_lt (by simp; omega))]
        simp_arith
        obtain ⟨k, e1, e2, e3⟩ := fin (w / 2 % 1999 - 999) (by omega)
        injection e1 with e4 e5
        injection e5 with e5 e6
        exact ⟨_, .inl rfl, ks ++ [k], _, _, by rw [List.map_append, e4, e5, e6]; rfl, e2, e3⟩)
    (ρ := [some (.int c), some (.int most), some (.int largest), some (.lst true (r.map .int)), some (.lst true (ls.map chD)), some (.int many), some (.lst true []), none, none]) ⟨[], none, none, rfl, rfl, by simp⟩
  obtain ⟨ρ', e, ks, j7, j8, rfl, h1, h2⟩ := H
  refine ⟨ks, j7, j8, e, ⟨by rw [h1]; exact l2.sublist (List.take_sublist _ _), fun k hk => ⟨?_, ?_, (h2 k hk).2⟩⟩, ?_, fun k hk => (h2 k hk).1.2⟩
  · have : k.c ∈ lts ks := mem_lts.mpr ⟨k, hk, rfl⟩
    rw [h1] at this
    exact l3 _ (List.mem_of_mem_take this)
  · have := (h2 k hk).1; omega
  · have := congrArg List.length h1
    unfold lts at this
    rw [List.length_map, List.length_take] at this
    omega
/-- the law's kinds -/
theorem m_kinds {c : Int} (hc : Snum c) {most : Nat} (hm : most ≤ 26) {largest : Int} (hl : 1 ≤ largest ∧ largest ≤ 9) :
    ∃ ks : List Kind, p__law_kinds [.int c, .int most, .int largest] = .val (.lst true (ks.map Kind.d)) ∧ KsOk ks ∧ ks.length ≤ most ∧ ∀ k ∈ ks, k.size ≤ largest := by
  unfold p__law_kinds f__law_kinds
  simp_arith
  rw [mul_s (by omega) (by omega)]
  simp_arith
  rw [show (1 : Int) + 3 * (most : Int) = ((1 + 3 * most : Nat) : Int) by omega]
  obtain ⟨r, e1, r1, r2⟩ := m_row hc (many := 1 + 3 * most) (by omega) (limit := 5040) (by omega)
  rw [e1]
  simp_arith
  rw [cut_lst (fz_map_int _), cut_mid _ (by omega) (by omega), ← List.map_drop, ← List.map_take]
  simp_arith
  obtain ⟨ls, e2, l1, l2, l3⟩ := m_letters (r := (r.drop (1 : Int).toNat).take ((1 + (most : Int)).toNat - (1 : Int).toNat)) (by rw [List.length_take]; omega) (fun x hx => (r2 x (List.mem_of_mem_drop (List.mem_of_mem_take hx))).1)
  rw [e2]
  simp_arith
  have hll : ls.length = most := by rw [l1, List.length_take, List.length_drop, r1]; omega
  rw [List.getElem?_eq_getElem (show 0 < r.length by omega)]
  simp_arith
  have hr0 := r2 r[0] (List.getElem_mem _)
  rw [mod_int (by omega)]
  simp_arith
  by_cases hev : r[0] % 2 = 0
  · rw [show (r[0] % 2 == 0) = true from by simpa using hev]
    simp_arith
    rw [List.getElem?_eq_getElem (show 0 < r.length by omega)]
    simp_arith
    rw [fdiv_int (by omega)]
    simp_arith
    rw [mod_int (by omega)]
    simp_arith
    obtain ⟨many, hmany⟩ : ∃ many : Nat, r[0] / 2 % ((most : Int) + 1) = many := ⟨(r[0] / 2 % ((most : Int) + 1)).toNat, by
      have := Int.emod_nonneg (r[0] / 2) (show (most : Int) + 1 ≠ 0 by omega)
      omega⟩
    have hlt := Int.emod_lt_of_pos (r[0] / 2) (show (0 : Int) < (most : Int) + 1 by omega)
    rw [hmany] at hlt ⊢
    rw [if_pos (RgOk_nat (by omega))]
    simp_arith [Int.toNat_natCast]
    obtain ⟨ks, j7, j8, e3, h1, h2, h3⟩ := m_kinds_b1 (c := c) hm hl r1 r2 hll l2 l3 (many := many) (by omega)
    rw [e3]
    simp_arith
    exact ⟨ks, rfl, h1, by omega, h3⟩
  · rw [show (r[0] % 2 == 0) = false from by simpa using hev]
    simp_arith
    rw [if_pos (RgOk_nat (by omega))]
    simp_arith [Int.toNat_natCast]
    obtain ⟨ks, j7, j8, e3, h1, h2, h3⟩ := m_kinds_b1 (c := c) hm hl r1 r2 hll l2 l3 (many := most) (by omega)
    rw [e3]
    simp_arith
    exact ⟨ks, rfl, h1, by omega, h3⟩
theorem mem_kLts {ks : List Kind} {c : Nat} (h : KsOk ks) : c ∈ kLts ks ↔ c ∈ lts ks := by
  unfold kLts
  rw [List.mem_filter, decide_eq_true_eq]
  refine ⟨And.right, fun z => ⟨?_, z⟩⟩
  obtain ⟨k, hk, rfl⟩ := mem_lts.mp z
  exact mem_AZ.mpr (h.ok k hk).1
theorem mem_srt {ks : List Kind} (h : KsOk ks) {k : Kind} : k ∈ srt ks ↔ k ∈ ks := by
  unfold srt
  rw [List.mem_map]
  constructor
  · rintro ⟨c, hc, rfl⟩
    exact (kOf_mem ((mem_kLts h).mp hc)).1
  · intro hk
    exact ⟨k.c, (mem_kLts h).mpr (mem_lts.mpr ⟨k, hk, rfl⟩), kOf_self h hk⟩
theorem lts_srt {ks : List Kind} (h : KsOk ks) : lts (srt ks) = kLts ks := by
  unfold lts srt
  rw [List.map_map]
  exact (List.map_congr_left fun c hc => (kOf_mem ((mem_kLts h).mp hc)).2).trans (List.map_id _)
theorem ksOk_srt {ks : List Kind} (h : KsOk ks) : KsOk (srt ks) := ⟨by rw [lts_srt h]; exact AZ_nodup.sublist List.filter_sublist, fun k hk => h.ok k ((mem_srt h).mp hk)⟩
theorem srt_len {ks : List Kind} (h : KsOk ks) : (srt ks).length ≤ 26 := (ksOk_srt h).len
/-- the kinds with one letter -/
theorem one_kind {ks : List Kind} (h : KsOk ks) (c : Nat) : (ks.filter fun k => k.c == c) = if c ∈ lts ks then [kOf ks c] else [] := by
  have nd := h.nd
  clear h
  induction ks with
  | nil => rfl
  | cons k ks ih =>
    unfold lts at nd
    rw [List.map_cons, List.nodup_cons] at nd
    have ih' := ih nd.2
    by_cases e : k.c = c
    · subst e
      rw [List.filter_cons_of_pos (by simp), ih', if_neg (show k.c ∉ lts ks from nd.1), if_pos (mem_lts.mpr ⟨k, List.mem_cons_self, rfl⟩)]
      have : kOf (k :: ks) k.c = k := by unfold kOf; simp
      rw [this]
    · rw [List.filter_cons_of_neg (by simpa using e), ih']
      have h3 : kOf (k :: ks) c = kOf ks c := by
        unfold kOf
        rw [List.find?_cons_of_neg (by simpa using e)]
      have h4 : c ∈ lts (k :: ks) ↔ c ∈ lts ks := by
        unfold lts
        rw [List.map_cons, List.mem_cons]
        exact ⟨fun z => z.resolve_left fun y => e y.symm, .inr⟩
      by_cases h5 : c ∈ lts ks
      · rw [if_pos h5, if_pos (h4.mpr h5), h3]
      · rw [if_neg h5, if_neg (fun z => h5 (h4.mp z))]
theorem m_ordered {ks : List Kind} (h : KsOk ks) : p__law_ordered [.lst false (ks.map Kind.d)] = .val (.lst true ((srt ks).map Kind.d)) := by
  unfold p__law_ordered f__law_ordered
  simp_arith
  have H := forL_inv (g := gSet 2) (b := f__law_ordered_b1) chD
    (fun done ρ => ∃ (j2 j3 : Option D), ρ = [some (.lst false (ks.map Kind.d)), some (.lst true (((done.filter fun c => decide (c ∈ lts ks)).map (kOf ks)).map Kind.d)), j2, j3]) AZ
    (fun done c rest ρ e hI => by
      obtain ⟨j2, j3, rfl⟩ := hI
      refine ⟨_, rfl, ?_⟩
      unfold f__law_ordered_b1
      simp_arith
      rw [its_lst (fz_map_kind _)]
      simp_arith
      have hl := congrArg List.length e
      rw [AZ_len] at hl
      simp only [List.length_append, List.length_cons] at hl
      have hlen := h.len
      have H2 := forL_inv (g := gSet 3) (b := f__law_ordered_b2) Kind.d
        (fun dn ρ => ∃ (j3 : Option D), ρ = [some (.lst false (ks.map Kind.d)), some (.lst true (((done.filter fun c => decide (c ∈ lts ks)).map (kOf ks) ++ dn.filter fun k => k.c == c).map Kind.d)), some (chD c), j3]) ks
        (fun dn k rs ρ e2 hI => by
          obtain ⟨j3, rfl⟩ := hI
          refine ⟨_, rfl, ?_⟩
          have hl2 := congrArg List.length e2
          simp only [List.length_append, List.length_cons] at hl2
          unfold f__law_ordered_b2
          simp_arith [Kind.d, chD]
          by_cases hk : k.c = c
          · rw [show (([k.c] : Tx) == [c]) = true from by simpa using hk]
            simp_arith
            rw [app_ok (LINE_lt (by
              have e1 := List.length_filter_le (fun c => decide (c ∈ lts ks)) done
              have e2 := List.length_filter_le (fun k : Kind => k.c == c) dn
              simp only [List.length_map, List.length_append]
              omega))]
            simp_arith
            exact ⟨_, .inl rfl, _, by rw [List.filter_append, List.filter_cons_of_pos (by simpa using hk), List.filter_nil, ← List.append_assoc, List.map_append (l₂ := [k])]; rfl⟩
          · rw [show (([k.c] : Tx) == [c]) = false from by simpa using hk]
            simp_arith
            exact ⟨_, .inl rfl, _, by rw [List.filter_append, List.filter_cons_of_neg (by simpa using hk), List.filter_nil, List.append_nil]⟩)
        (ρ := [some (.lst false (ks.map Kind.d)), some (.lst true (((done.filter fun c => decide (c ∈ lts ks)).map (kOf ks)).map Kind.d)), some (chD c), j3]) ⟨j3, by simp⟩
      obtain ⟨ρ', e3, j3', rfl⟩ := H2
      rw [e3]
      have e4 : (done.filter fun c => decide (c ∈ lts ks)).map (kOf ks) ++ (ks.filter fun k => k.c == c) = ((done ++ [c]).filter fun c => decide (c ∈ lts ks)).map (kOf ks) := by
        rw [one_kind h, List.filter_append]
        by_cases hc : c ∈ lts ks
        · rw [if_pos hc, List.filter_cons_of_pos (by simpa using hc), List.filter_nil, List.map_append (l₂ := [c])]; rfl
        · rw [if_neg hc, List.filter_cons_of_neg (by simpa using hc), List.filter_nil, List.append_nil, List.append_nil]
      rw [e4]
      exact ⟨_, .inl rfl, _, _, rfl⟩)
    (ρ := [some (.lst false (ks.map Kind.d)), some (.lst true []), none, none]) ⟨none, none, rfl⟩
  obtain ⟨ρ', e, j2, j3, rfl⟩ := H
  rw [e]
  simp_arith
  rfl
theorem AZ_up : AZ.Pairwise (· < ·) := by decide
structure BpOk (ks : List Kind) (ps : List Tx) (most : Nat) (largest : Int) : Prop where
  ok : KsOk ks
  len : ks.length ≤ most
  sz : ∀ k ∈ ks, k.size ≤ largest
  up : (lts ks).Pairwise (· < ·)
  pm : ∀ t ∈ ps, PmOk ks t
  pl : ps.length ≤ 1000
theorem kOf_eq {a b : List Kind} (ha : KsOk a) (hb : KsOk b) (h : ∀ k, k ∈ a ↔ k ∈ b) {c : Nat} (hc : c ∈ lts a) : kOf a c = kOf b c := by
  obtain ⟨h1, h2⟩ := kOf_mem hc
  have := kOf_self hb ((h _).mp h1)
  rw [h2] at this
  exact this.symm
theorem lts_iff {a b : List Kind} (h : ∀ k, k ∈ a ↔ k ∈ b) (c : Nat) : c ∈ lts a ↔ c ∈ lts b := by
  rw [mem_lts, mem_lts]
  exact ⟨fun ⟨k, x, y⟩ => ⟨k, (h k).mp x, y⟩, fun ⟨k, x, y⟩ => ⟨k, (h k).mpr x, y⟩⟩
theorem srt_eq {a b : List Kind} (ha : KsOk a) (hb : KsOk b) (h : ∀ k, k ∈ a ↔ k ∈ b) : srt a = srt b := by
  have e : kLts a = kLts b := by
    unfold kLts
    exact List.filter_congr fun c _ => decide_eq_decide.mpr (lts_iff h c)
  unfold srt
  rw [← e]
  exact List.map_congr_left fun c hc => kOf_eq ha hb h ((mem_kLts ha).mp hc)
theorem upN_eq {a b : List Nat} (ha : a.Pairwise (· < ·)) (hb : b.Pairwise (· < ·)) (h : ∀ c, c ∈ a ↔ c ∈ b) : a = b := by
  induction a generalizing b with
  | nil =>
    cases b with
    | nil => rfl
    | cons x b => exact absurd ((h x).mpr List.mem_cons_self) List.not_mem_nil
  | cons x a ih =>
    cases b with
    | nil => exact absurd ((h x).mp List.mem_cons_self) List.not_mem_nil
    | cons y b =>
      rw [List.pairwise_cons] at ha hb
      have e : x = y := by
        rcases List.mem_cons.mp ((h x).mp List.mem_cons_self) with z | z
        · exact z
        · rcases List.mem_cons.mp ((h y).mpr List.mem_cons_self) with w | w
          · exact w.symm
          · have := hb.1 x z
            have := ha.1 y w
            omega
      subst e
      rw [ih ha.2 hb.2 fun c => ?_]
      constructor
      · intro hc
        rcases List.mem_cons.mp ((h c).mp (List.mem_cons_of_mem _ hc)) with z | z
        · have := ha.1 c hc
          omega
        · exact z
      · intro hc
        rcases List.mem_cons.mp ((h c).mpr (List.mem_cons_of_mem _ hc)) with z | z
        · have := hb.1 c hc
          omega
        · exact z
theorem srt_up {ks : List Kind} (h : KsOk ks) (hu : (lts ks).Pairwise (· < ·)) : srt ks = ks := by
  have e : kLts ks = lts ks := upN_eq (AZ_up.filter _) hu fun c => mem_kLts h
  unfold srt
  rw [e]
  unfold lts
  rw [List.map_map]
  exact (List.map_congr_left fun k hk => kOf_self h hk).trans (List.map_id _)
/-! ### books as sets -/
structure BkOk (b : Bk) : Prop where
  ks : KsOk b.ks
  pm : ∀ t ∈ b.al, PmOk b.ks t
  nd : b.al.Nodup
/-- all texts that may be a permission -/
def allPm : List Tx := AZ.flatMap fun c => VW.flatMap fun l => VW.map fun r => [c, l, r]
theorem pm_all {ks : List Kind} (h : KsOk ks) {t : Tx} (ht : PmOk ks t) : t ∈ allPm := by
  obtain ⟨c, l, r, rfl, hc, hl, hr⟩ := ht
  obtain ⟨k, hk, rfl⟩ := mem_lts.mp hc
  unfold allPm
  simp only [List.mem_flatMap, List.mem_map]
  exact ⟨k.c, mem_AZ.mpr (h.ok k hk).1, l, hl, r, hr, rfl⟩
theorem allPm_len : allPm.length = 20384 := by
  have e : ∀ (us vs : List Nat) (c : Nat), (us.flatMap fun l => vs.map fun r => [c, l, r]).length = us.length * vs.length := by
    intro us vs c
    induction us with
    | nil => simp
    | cons u us ih => rw [List.flatMap_cons, List.length_append, ih, List.length_map, List.length_cons, Nat.succ_mul, Nat.add_comm]
  have e2 : ∀ cs : List Nat, (cs.flatMap fun c => VW.flatMap fun l => VW.map fun r => [c, l, r]).length = cs.length * 784 := by
    intro cs
    induction cs with
    | nil => simp
    | cons u us ih => rw [List.flatMap_cons, List.length_append, ih, e, List.length_cons, Nat.succ_mul, Nat.add_comm]; rfl
  unfold allPm
  rw [e2]; rfl
theorem BkOk.len {b : Bk} (h : BkOk b) : b.al.length ≤ 20384 := by
  have := h.nd.length_le_of_subset (l₂ := allPm) fun t ht => pm_all h.ks (h.pm t ht)
  rwa [allPm_len] at this
theorem bkOk_mk {ks : List Kind} {ps : List Tx} (h : KsOk ks) (hp : ∀ t ∈ ps, PmOk ks t) : BkOk ⟨ks, dd ps⟩ :=
  ⟨h, fun t ht => hp t (((dd_inv ps).2 t).mp ht), (dd_inv ps).1⟩
theorem pmOk_sub {a b : List Kind} {t : Tx} (h : ∀ c, c ∈ lts a → c ∈ lts b) (ht : PmOk a t) : PmOk b t := by
  obtain ⟨c, l, r, e, hc, hl, hr⟩ := ht
  exact ⟨c, l, r, e, h c hc, hl, hr⟩
/-- no letter with two kinds -/
def Agree (a b : Bk) : Prop := ∀ k ∈ a.ks, ∀ o ∈ b.ks, k.c = o.c → k = o
theorem dat_kinds (n : Nat) (l : List Kind) : (l.map Kind.d).all (D.dat (n + 2)) = true := by
  rw [List.all_map, List.all_eq_true]; exact fun k _ => k.dat n
theorem dat_strs (n : Nat) (l : List Tx) : (l.map D.str).all (D.dat n) = true := by
  rw [List.all_map, List.all_eq_true]; exact fun k _ => dat_str n k
theorem eqb_kind (a b : Kind) : D.eqb a.d b.d = decide (a = b) := by
  obtain ⟨c, s, w⟩ := a
  obtain ⟨c', s', w'⟩ := b
  unfold Kind.d
  simp only [eqb_tup, eqbs_cons, eqb_str, eqb_int, eqbs_nil, Bool.and_true]
  rw [Bool.eq_iff_iff]
  simp [and_assoc]
theorem isIn_kinds (k : Kind) (l : List Kind) : D.isIn k.d (.tup (l.map Kind.d)) = some (decide (k ∈ l)) := by
  have hd : D.dat 9 (.tup (l.map Kind.d)) = true := by rw [dat_tup]; exact dat_kinds 6 l
  show (if (D.dat 9 k.d && D.dat 9 (.tup (l.map Kind.d))) = true then some ((l.map Kind.d).any fun y => D.eqb y k.d) else none) = _
  rw [hd, k.dat 7, Bool.true_and, if_pos rfl, List.any_map]
  congr 1
  rw [Bool.eq_iff_iff, List.any_eq_true, decide_eq_true_eq]
  constructor
  · rintro ⟨x, hx, e⟩
    have : x = k := by simpa [eqb_kind] using e
    exact this ▸ hx
  · exact fun h => ⟨k, h, by simp [eqb_kind]⟩
theorem isIn_kindsL (o : Bool) (k : Kind) (l : List Kind) : D.isIn k.d (.lst o (l.map Kind.d)) = some (decide (k ∈ l)) := by
  have hd : D.dat 9 (.lst o (l.map Kind.d)) = true := by rw [dat_lst]; exact dat_kinds 6 l
  show (if (D.dat 9 k.d && D.dat 9 (.lst o (l.map Kind.d))) = true then some ((l.map Kind.d).any fun y => D.eqb y k.d) else none) = _
  rw [hd, k.dat 7, Bool.true_and, if_pos rfl, List.any_map]
  congr 1
  rw [Bool.eq_iff_iff, List.any_eq_true, decide_eq_true_eq]
  constructor
  · rintro ⟨x, hx, e⟩
    have : x = k := by simpa [eqb_kind] using e
    exact this ▸ hx
  · exact fun h => ⟨k, h, by simp [eqb_kind]⟩
theorem notIn_kinds (k : Kind) (l : List Kind) : D.notIn k.d (.tup (l.map Kind.d)) = some (!decide (k ∈ l)) := by unfold D.notIn; rw [isIn_kinds]; rfl
theorem notIn_kindsL (o : Bool) (k : Kind) (l : List Kind) : D.notIn k.d (.lst o (l.map Kind.d)) = some (!decide (k ∈ l)) := by unfold D.notIn; rw [isIn_kindsL]; rfl
theorem eqb_strs (t u : Tx) : D.eqb (.str t) (.str u) = decide (t = u) := by
  rw [eqb_str, Bool.eq_iff_iff]; simp
theorem isIn_texts (t : Tx) (l : List Tx) : D.isIn (.str t) (.tup (l.map D.str)) = some (decide (t ∈ l)) := by
  have hd : D.dat 9 (.tup (l.map D.str)) = true := by rw [dat_tup]; exact dat_strs 8 l
  show (if (D.dat 9 (.str t) && D.dat 9 (.tup (l.map D.str))) = true then some ((l.map D.str).any fun y => D.eqb y (.str t)) else none) = _
  rw [hd, dat_str, Bool.true_and, if_pos rfl, List.any_map]
  congr 1
  rw [Bool.eq_iff_iff, List.any_eq_true, decide_eq_true_eq]
  constructor
  · rintro ⟨x, hx, e⟩
    have : x = t := by simpa [eqb_strs] using e
    exact this ▸ hx
  · exact fun h => ⟨t, h, by simp [eqb_strs]⟩
theorem isIn_textsL (o : Bool) (t : Tx) (l : List Tx) : D.isIn (.str t) (.lst o (l.map D.str)) = some (decide (t ∈ l)) := by
  have hd : D.dat 9 (.lst o (l.map D.str)) = true := by rw [dat_lst]; exact dat_strs 8 l
  show (if (D.dat 9 (.str t) && D.dat 9 (.lst o (l.map D.str))) = true then some ((l.map D.str).any fun y => D.eqb y (.str t)) else none) = _
  rw [hd, dat_str, Bool.true_and, if_pos rfl, List.any_map]
  congr 1
  rw [Bool.eq_iff_iff, List.any_eq_true, decide_eq_true_eq]
  constructor
  · rintro ⟨x, hx, e⟩
    have : x = t := by simpa [eqb_strs] using e
    exact this ▸ hx
  · exact fun h => ⟨t, h, by simp [eqb_strs]⟩
theorem notIn_texts (t : Tx) (l : List Tx) : D.notIn (.str t) (.tup (l.map D.str)) = some (!decide (t ∈ l)) := by unfold D.notIn; rw [isIn_texts]; rfl
theorem notIn_textsL (o : Bool) (t : Tx) (l : List Tx) : D.notIn (.str t) (.lst o (l.map D.str)) = some (!decide (t ∈ l)) := by unfold D.notIn; rw [isIn_textsL]; rfl
theorem toList_tup (ds) : D.toList (.tup ds) = some (.lst true ds) := rfl
theorem sortT_nd {l : List Tx} (h : l.Nodup) : (sortT l).Nodup := (sortT_prm l).nodup_iff.mpr h
theorem m_check_kinds {a b : Bk} (ha : BkOk a) (hb : BkOk b) (h : Agree a b) : p_check_kinds [a.d, b.d] = .val .non := by
  unfold p_check_kinds f_check_kinds
  simp_arith [at_kinds]
  have H := forL_inv (g := gSet 2) (b := f_check_kinds_b1) Kind.d
    (fun done ρ => ∃ (j2 j3 : Option D), ρ = [some a.d, some b.d, j2, j3]) (srt a.ks)
    (fun done k rest ρ e hI => by
      obtain ⟨j2, j3, rfl⟩ := hI
      have hk : k ∈ a.ks := (mem_srt ha.ks).mp (e ▸ List.mem_append_right done List.mem_cons_self)
      refine ⟨_, rfl, ?_⟩
      unfold f_check_kinds_b1
      simp_arith [at_kinds]
      have H2 := forL_inv (g := gSet 3) (b := f_check_kinds_b2) Kind.d
        (fun done ρ => ∃ (j3 : Option D), ρ = [some a.d, some b.d, some k.d, j3]) (srt b.ks)
        (fun done o rest ρ e2 hI => by
          obtain ⟨j3, rfl⟩ := hI
          have ho : o ∈ b.ks := (mem_srt hb.ks).mp (e2 ▸ List.mem_append_right done List.mem_cons_self)
          refine ⟨_, rfl, ?_⟩
          have hne : D.ne k.d o.d = some (!decide (k = o)) := by rw [ne_of (k.dat 7) (o.dat 7), eqb_kind]
          unfold f_check_kinds_b2
          simp_arith [hne]
          by_cases hc : k.c = o.c
          · have hko := h k hk o ho hc
            rw [show (([k.c] : Tx) == [o.c]) = true from by simpa using hc, show decide (k = o) = true from by simpa using hko]
            simp_arith
            exact ⟨_, .inl rfl, _, rfl⟩
          · rw [show (([k.c] : Tx) == [o.c]) = false from by simpa using hc]
            simp_arith
            exact ⟨_, .inl rfl, _, rfl⟩)
        (ρ := [some a.d, some b.d, some k.d, j3]) ⟨j3, rfl⟩
      obtain ⟨ρ', e3, j3', rfl⟩ := H2
      rw [e3]
      exact ⟨_, .inl rfl, _, _, rfl⟩)
    (ρ := [some a.d, some b.d, none, none]) ⟨none, none, rfl⟩
  obtain ⟨ρ', e, j2, j3, rfl⟩ := H
  rw [e]
  rfl
theorem lends_non {ds : List D} : lends ds (.val .non) = .val .non := lends_val fun t => clr_non t
/-- what | gives -/
def orB (a b : Bk) : Bk := ⟨srt a.ks ++ (srt b.ks).filter fun k => !decide (k ∈ srt a.ks), dd (sortT a.al ++ sortT b.al)⟩
theorem orB_ks {a b : Bk} (ha : BkOk a) (hb : BkOk b) (h : Agree a b) : KsOk (orB a b).ks ∧ ∀ k, k ∈ (orB a b).ks ↔ k ∈ a.ks ∨ k ∈ b.ks := by
  have hm : ∀ k, k ∈ (orB a b).ks ↔ k ∈ a.ks ∨ k ∈ b.ks := fun k => by
    unfold orB
    simp only [List.mem_append, List.mem_filter, mem_srt ha.ks, mem_srt hb.ks, Bool.not_eq_true', decide_eq_false_iff_not]
    by_cases hk : k ∈ a.ks
    · simp [hk]
    · simp [hk]
  refine ⟨⟨?_, fun k hk => ((hm k).mp hk).elim (ha.ks.ok k) (hb.ks.ok k)⟩, hm⟩
  unfold orB lts
  rw [List.map_append]
  refine List.nodup_append.mpr ⟨(ksOk_srt ha.ks).nd, ((ksOk_srt hb.ks).nd).sublist (List.filter_sublist.map _), fun x hx y hy e => ?_⟩
  obtain ⟨k, hk, rfl⟩ := List.mem_map.mp hx
  obtain ⟨o, ho, rfl⟩ := List.mem_map.mp hy
  rw [List.mem_filter] at ho
  have := h k ((mem_srt ha.ks).mp hk) o ((mem_srt hb.ks).mp ho.1) e
  subst this
  simp [hk] at ho
theorem orB_pm {a b : Bk} (ha : BkOk a) (hb : BkOk b) (h : Agree a b) : ∀ t ∈ sortT a.al ++ sortT b.al, PmOk (orB a b).ks t := fun t ht => by
  obtain ⟨h1, h2⟩ := orB_ks ha hb h
  rcases List.mem_append.mp ht with z | z
  · exact pmOk_sub (fun c hc => by
      obtain ⟨k, hk, e⟩ := mem_lts.mp hc
      exact mem_lts.mpr ⟨k, (h2 k).mpr (.inl hk), e⟩) (ha.pm t (mem_sortT.mp z))
  · exact pmOk_sub (fun c hc => by
      obtain ⟨k, hk, e⟩ := mem_lts.mp hc
      exact mem_lts.mpr ⟨k, (h2 k).mpr (.inr hk), e⟩) (hb.pm t (mem_sortT.mp z))
theorem orB_ok {a b : Bk} (ha : BkOk a) (hb : BkOk b) (h : Agree a b) : BkOk (orB a b) := bkOk_mk (orB_ks ha hb h).1 (orB_pm ha hb h)
theorem orB_al {a b : Bk} (t : Tx) : t ∈ (orB a b).al ↔ t ∈ a.al ∨ t ∈ b.al := by
  unfold orB
  rw [(dd_inv _).2, List.mem_append, mem_sortT, mem_sortT]
theorem m_or {a b : Bk} (ha : BkOk a) (hb : BkOk b) (h : Agree a b) : p_RuleBook___or__ [a.d, b.d] = .val (orB a b).d := by
  have l1 := srt_len ha.ks
  have l2 := srt_len hb.ks
  have l3 := ha.len
  have l4 := hb.len
  unfold p_RuleBook___or__ f_RuleBook___or__
  simp_arith [its_lst, cut_lst, toList_lst, toTup_lst, bk_frz, bk_fz, m_check_kinds ha hb h, lends_non, at_kinds]
  rw [compL_map Kind.d (fun k => !decide (k ∈ srt a.ks)) Kind.d (srt b.ks) fun k _ => ⟨_, rfl, by simp_arith [wipeE, at_kinds, notIn_kinds], fun _ => by simp_arith [wipeE]⟩]
  simp_arith [its_lst, cut_lst, toList_lst, toTup_lst]
  rw [if_pos (LINE_le (by omega))]
  simp_arith [its_lst, cut_lst, toList_lst, toTup_lst, at_kinds, at_permissions, toList_tup]
  rw [add_lst (LINE_le (by
    have := List.length_filter_le (fun k => !decide (k ∈ srt a.ks)) (srt b.ks)
    simp only [List.length_map]; omega)) (fz_map_kind _) (fz_map_kind _), ← List.map_append, add_lst (LINE_le (by simp only [List.length_map, sortT_len]; omega)) (fz_map_str _) (fz_map_str _), ← List.map_append]
  simp_arith [its_lst, cut_lst, toList_lst, toTup_lst]
  have hm := m_mk_RuleBook (orB_ks ha hb h).1 (orB_pm ha hb h) (by rw [List.length_append, sortT_len, sortT_len]; omega)
  unfold orB at hm
  dsimp only at hm
  rw [hm]
  simp_arith [its_lst, cut_lst, toList_lst, toTup_lst, lends_bk]
  rfl
theorem own_or {a b : Bk} (ha : BkOk a) (hb : BkOk b) (h : Agree a b) : own2 "RuleBook" p_RuleBook___or__ a.d b.d = some (orB a b).d := by
  unfold own2
  rw [m_or ha hb h]
  rfl
/-- what & gives -/
def andB (a b : Bk) : Bk := ⟨(srt a.ks).filter fun k => decide (k ∈ srt b.ks), dd ((sortT a.al).filter fun t => decide (t ∈ sortT b.al))⟩
theorem andB_ks {a b : Bk} (ha : BkOk a) (hb : BkOk b) : KsOk (andB a b).ks ∧ ∀ k, k ∈ (andB a b).ks ↔ k ∈ a.ks ∧ k ∈ b.ks := by
  have hm : ∀ k, k ∈ (andB a b).ks ↔ k ∈ a.ks ∧ k ∈ b.ks := fun k => by
    unfold andB
    simp only [List.mem_filter, mem_srt ha.ks, mem_srt hb.ks, decide_eq_true_eq]
  exact ⟨⟨((ksOk_srt ha.ks).nd).sublist (List.filter_sublist.map _), fun k hk => ha.ks.ok k ((hm k).mp hk).1⟩, hm⟩
theorem andB_pm {a b : Bk} (ha : BkOk a) (hb : BkOk b) (h : Agree a b) : ∀ t ∈ (sortT a.al).filter (fun t => decide (t ∈ sortT b.al)), PmOk (andB a b).ks t := fun t ht => by
  obtain ⟨h1, h2⟩ := andB_ks ha hb
  rw [List.mem_filter, decide_eq_true_eq, mem_sortT, mem_sortT] at ht
  obtain ⟨c, l, r, rfl, hc, hl, hr⟩ := ha.pm t ht.1
  obtain ⟨c', l', r', e, hc', _, _⟩ := hb.pm _ ht.2
  injection e with e _
  subst e
  obtain ⟨k, hk, rfl⟩ := mem_lts.mp hc
  obtain ⟨o, ho, e⟩ := mem_lts.mp hc'
  have := h k hk o ho e.symm
  subst this
  exact ⟨k.c, l, r, rfl, mem_lts.mpr ⟨k, (h2 k).mpr ⟨hk, ho⟩, rfl⟩, hl, hr⟩
theorem andB_ok {a b : Bk} (ha : BkOk a) (hb : BkOk b) (h : Agree a b) : BkOk (andB a b) := bkOk_mk (andB_ks ha hb).1 (andB_pm ha hb h)
theorem andB_al {a b : Bk} (t : Tx) : t ∈ (andB a b).al ↔ t ∈ a.al ∧ t ∈ b.al := by
  unfold andB
  rw [(dd_inv _).2, List.mem_filter, decide_eq_true_eq, mem_sortT, mem_sortT]
theorem m_and {a b : Bk} (ha : BkOk a) (hb : BkOk b) (h : Agree a b) : p_RuleBook___and__ [a.d, b.d] = .val (andB a b).d := by
  have l1 := srt_len ha.ks
  have l3 := ha.len
  unfold p_RuleBook___and__ f_RuleBook___and__
  simp_arith [its_lst, cut_lst, toList_lst, toTup_lst, bk_frz, bk_fz, m_check_kinds ha hb h, lends_non, at_kinds]
  rw [compL_map Kind.d (fun k => decide (k ∈ srt b.ks)) Kind.d (srt a.ks) fun k _ => ⟨_, rfl, by simp_arith [wipeE, at_kinds, isIn_kinds], fun _ => by simp_arith [wipeE]⟩]
  simp_arith [its_lst, cut_lst, toList_lst, toTup_lst]
  rw [if_pos (LINE_le (by omega))]
  simp_arith [its_lst, cut_lst, toList_lst, toTup_lst, at_kinds, at_permissions, toList_tup]
  rw [compL_map D.str (fun t => decide (t ∈ sortT b.al)) D.str (sortT a.al) fun k _ => ⟨_, rfl, by simp_arith [wipeE, at_permissions, isIn_texts], fun _ => by simp_arith [wipeE]⟩]
  simp_arith [its_lst, cut_lst, toList_lst, toTup_lst]
  rw [if_pos (LINE_le (by rw [sortT_len]; omega))]
  simp_arith [its_lst, cut_lst, toList_lst, toTup_lst]
  have hm := m_mk_RuleBook (andB_ks ha hb).1 (andB_pm ha hb h) (by
    have := List.length_filter_le (fun t => decide (t ∈ sortT b.al)) (sortT a.al)
    rw [sortT_len] at this; omega)
  unfold andB at hm
  dsimp only at hm
  rw [hm]
  simp_arith [its_lst, cut_lst, toList_lst, toTup_lst, lends_bk]
  rfl
theorem own_and {a b : Bk} (ha : BkOk a) (hb : BkOk b) (h : Agree a b) : own2 "RuleBook" p_RuleBook___and__ a.d b.d = some (andB a b).d := by
  unfold own2
  rw [m_and ha hb h]
  rfl
/-- what - gives -/
def subB (a b : Bk) : Bk := ⟨srt a.ks, dd ((sortT a.al).filter fun t => !decide (t ∈ sortT b.al))⟩
theorem subB_ks {a b : Bk} (ha : BkOk a) : KsOk (subB a b).ks ∧ ∀ k, k ∈ (subB a b).ks ↔ k ∈ a.ks := ⟨ksOk_srt ha.ks, fun k => mem_srt ha.ks⟩
theorem subB_pm {a b : Bk} (ha : BkOk a) : ∀ t ∈ (sortT a.al).filter (fun t => !decide (t ∈ sortT b.al)), PmOk (subB a b).ks t := fun t ht => by
  rw [List.mem_filter, mem_sortT] at ht
  exact pmOk_sub (fun c hc => by
    obtain ⟨k, hk, e⟩ := mem_lts.mp hc
    exact mem_lts.mpr ⟨k, ((subB_ks (b := b) ha).2 k).mpr hk, e⟩) (ha.pm t ht.1)
theorem subB_ok {a b : Bk} (ha : BkOk a) : BkOk (subB a b) := bkOk_mk (subB_ks (b := b) ha).1 (subB_pm ha)
theorem subB_al {a b : Bk} (t : Tx) : t ∈ (subB a b).al ↔ t ∈ a.al ∧ t ∉ b.al := by
  unfold subB
  rw [(dd_inv _).2, List.mem_filter, Bool.not_eq_true', decide_eq_false_iff_not, mem_sortT, mem_sortT]
theorem m_sub {a b : Bk} (ha : BkOk a) (hb : BkOk b) (h : Agree a b) : p_RuleBook___sub__ [a.d, b.d] = .val (subB a b).d := by
  have l1 := srt_len ha.ks
  have l3 := ha.len
  unfold p_RuleBook___sub__ f_RuleBook___sub__
  simp_arith [its_lst, cut_lst, toList_lst, toTup_lst, bk_frz, bk_fz, m_check_kinds ha hb h, lends_non, at_kinds, at_permissions, toList_tup]
  rw [compL_map D.str (fun t => !decide (t ∈ sortT b.al)) D.str (sortT a.al) fun k _ => ⟨_, rfl, by simp_arith [wipeE, at_permissions, notIn_texts], fun _ => by simp_arith [wipeE]⟩]
  simp_arith [its_lst, cut_lst, toList_lst, toTup_lst]
  rw [if_pos (LINE_le (by rw [sortT_len]; omega))]
  simp_arith [its_lst, cut_lst, toList_lst, toTup_lst]
  have hm := m_mk_RuleBook (subB_ks (b := b) ha).1 (subB_pm (b := b) ha) (by
    have := List.length_filter_le (fun t => !decide (t ∈ sortT b.al)) (sortT a.al)
    rw [sortT_len] at this; omega)
  unfold subB at hm
  dsimp only at hm
  rw [hm]
  simp_arith [its_lst, cut_lst, toList_lst, toTup_lst, lends_bk]
  rfl
theorem own_sub {a b : Bk} (ha : BkOk a) (hb : BkOk b) (h : Agree a b) : own2 "RuleBook" p_RuleBook___sub__ a.d b.d = some (subB a b).d := by
  unfold own2
  rw [m_sub ha hb h]
  rfl
theorem isOw_bk (b : Bk) : D.isOw "RuleBook" b.d = some true := rfl
theorem eq_nil (o o' : Bool) (P : List D) (h : P.all (D.dat 8) = true) : D.eq (.lst o P) (.lst o' []) = some P.isEmpty := by
  rw [eq_of (by rw [dat_lst]; exact h) (by rw [dat_lst]; rfl)]
  cases P with
  | nil => rw [eqb_lst, eqbs_nil]; rfl
  | cons a P => rw [eqb_lst, eqbs_cn]; rfl
theorem isEmpty_map {α β : Type} (f : α → β) (l : List α) : (l.map f).isEmpty = l.isEmpty := by cases l <;> rfl
theorem none_iff {α : Type} {l : List α} {p : α → Bool} : (l.filter fun x => !p x).isEmpty = true ↔ ∀ x ∈ l, p x = true := by
  rw [List.isEmpty_iff, List.filter_eq_nil_iff]
  constructor
  · intro h x hx
    have := h x hx
    simpa using this
  · intro h x hx
    simp [h x hx]
/-- less or equal -/
def leB (a b : Bk) : Bool := ((srt a.ks).filter fun k => !decide (k ∈ srt b.ks)).isEmpty && ((sortT a.al).filter fun t => !decide (t ∈ sortT b.al)).isEmpty
theorem leB_iff {a b : Bk} (ha : BkOk a) (hb : BkOk b) : leB a b = true ↔ (∀ k ∈ a.ks, k ∈ b.ks) ∧ ∀ t ∈ a.al, t ∈ b.al := by
  unfold leB
  rw [Bool.and_eq_true, none_iff, none_iff]
  simp only [decide_eq_true_eq, mem_srt ha.ks, mem_srt hb.ks, mem_sortT]
theorem m_le {a b : Bk} (ha : BkOk a) (hb : BkOk b) : p_RuleBook___le__ [a.d, b.d] = .val (.bl (leB a b)) := by
  have l1 := srt_len ha.ks
  have l3 := ha.len
  unfold p_RuleBook___le__ f_RuleBook___le__
  simp_arith [its_lst, cut_lst, toList_lst, toTup_lst, at_kinds]
  rw [compL_map Kind.d (fun k => !decide (k ∈ srt b.ks)) Kind.d (srt a.ks) fun k _ => ⟨_, rfl, by simp_arith [its_lst, cut_lst, toList_lst, toTup_lst, wipeE, at_kinds, notIn_kinds], fun _ => by simp_arith [its_lst, cut_lst, toList_lst, toTup_lst, wipeE]⟩]
  simp_arith [its_lst, cut_lst, toList_lst, toTup_lst]
  rw [if_pos (LINE_le (by omega))]
  simp_arith [its_lst, cut_lst, toList_lst, toTup_lst]
  rw [eq_nil _ _ _ (dat_kinds 6 _), isEmpty_map]
  simp_arith [its_lst, cut_lst, toList_lst, toTup_lst]
  unfold leB
  cases ((srt a.ks).filter fun k => !decide (k ∈ srt b.ks)).isEmpty with
  | false => simp_arith [its_lst, cut_lst, toList_lst, toTup_lst]
  | true =>
    simp_arith [its_lst, cut_lst, toList_lst, toTup_lst, at_permissions]
    rw [compL_map D.str (fun t => !decide (t ∈ sortT b.al)) D.str (sortT a.al) fun t _ => ⟨_, rfl, by simp_arith [its_lst, cut_lst, toList_lst, toTup_lst, wipeE, at_permissions, notIn_texts], fun _ => by simp_arith [its_lst, cut_lst, toList_lst, toTup_lst, wipeE]⟩]
    simp_arith [its_lst, cut_lst, toList_lst, toTup_lst]
    rw [if_pos (LINE_le (by rw [sortT_len]; omega))]
    simp_arith [its_lst, cut_lst, toList_lst, toTup_lst]
    rw [eq_nil _ _ _ (dat_strs 8 _), isEmpty_map]
    simp_arith [its_lst, cut_lst, toList_lst, toTup_lst]
theorem own_le {a b : Bk} (ha : BkOk a) (hb : BkOk b) : cmp2 "RuleBook" p_RuleBook___le__ a.d b.d = some (leB a b) := by
  unfold cmp2
  rw [m_le ha hb]
  rfl
def eqB (a b : Bk) : Bool := decide (srt a.ks = srt b.ks) && decide (sortT a.al = sortT b.al)
theorem eqB_iff {a b : Bk} (ha : BkOk a) (hb : BkOk b) : eqB a b = true ↔ (∀ k, k ∈ a.ks ↔ k ∈ b.ks) ∧ ∀ t, t ∈ a.al ↔ t ∈ b.al := by
  unfold eqB
  rw [Bool.and_eq_true, decide_eq_true_eq, decide_eq_true_eq]
  constructor
  · rintro ⟨h1, h2⟩
    exact ⟨fun k => by rw [← mem_srt ha.ks, h1, mem_srt hb.ks], fun t => by rw [← mem_sortT, h2, mem_sortT]⟩
  · rintro ⟨h1, h2⟩
    exact ⟨srt_eq ha.ks hb.ks h1, up_eq (sort_up ha.nd) (sort_up hb.nd) fun t => by rw [mem_sortT, mem_sortT]; exact h2 t⟩
theorem eq_kinds (l m : List Kind) : D.eq (.tup (l.map Kind.d)) (.tup (m.map Kind.d)) = some (decide (l = m)) := by
  rw [eq_of (by rw [dat_tup]; exact dat_kinds 6 l) (by rw [dat_tup]; exact dat_kinds 6 m), eqb_tup]
  congr 1
  induction l generalizing m with
  | nil => cases m <;> simp
  | cons a l ih =>
    cases m with
    | nil => simp
    | cons b m => simp [eqb_kind, ih m]
theorem eq_texts (l m : List Tx) : D.eq (.tup (l.map D.str)) (.tup (m.map D.str)) = some (decide (l = m)) := by
  rw [eq_of (by rw [dat_tup]; exact dat_strs 8 l) (by rw [dat_tup]; exact dat_strs 8 m), eqb_tup]
  congr 1
  induction l generalizing m with
  | nil => cases m <;> simp
  | cons a l ih =>
    cases m with
    | nil => simp
    | cons b m => simp only [List.map_cons, eqbs_cons, eqb_strs, ih m, List.cons.injEq, Bool.decide_and]
theorem at0_kinds (b : Bk) : atF prp0 "known_kinds" b.d = .val (.tup ((srt b.ks).map Kind.d)) := by unfold Bk.d; rw [atF_fld gt_RuleBook_known_kinds]; rfl
theorem at0_permissions (b : Bk) : atF prp0 "known_permissions" b.d = .val (.tup ((sortT b.al).map D.str)) := by unfold Bk.d; rw [atF_fld gt_RuleBook_known_permissions]; rfl
theorem m_eq (a b : Bk) : p_RuleBook___eq__ [a.d, b.d] = .val (.bl (eqB a b)) := by
  unfold p_RuleBook___eq__ f_RuleBook___eq__
  simp_arith [its_lst, cut_lst, toList_lst, toTup_lst, isOw_bk, at0_kinds, at0_permissions, eq_kinds, eq_texts]
  unfold eqB
  cases decide (srt a.ks = srt b.ks) <;> simp_arith [its_lst, cut_lst, toList_lst, toTup_lst]
theorem own_eq (a b : Bk) : eqA "RuleBook" p_RuleBook___eq__ a.d b.d = some (eqB a b) := by
  unfold eqA
  rw [m_eq a b]
  rfl
theorem isX_ok {all subs : List String} {c ns vs} (h : all.contains c = true) : D.isX all subs (.nd (.xob c ns) vs) = some (subs.contains c) := if_pos h
theorem xat_one {all : List String} {c n : String} {v : D} (h : all.contains c = true) : D.xat all n (.nd (.xob c [n]) [v]) = some v := by
  show (if all.contains c = true then fget [n] [v] n else none) = _
  rw [if_pos h]; unfold fget; simp
theorem rng9 : rngD 0 9 = [.int 0, .int 1, .int 2, .int 3, .int 4, .int 5, .int 6, .int 7, .int 8] := rfl
theorem fam_loop {e own : D} {b0 b1 b2 b3 b4 b5 b6 b7 b8 : Bool} {o : Option D}
    (h0 : D.isIn (.int 0) own = some b0) (h1 : D.isIn (.int 1) own = some b1) (h2 : D.isIn (.int 2) own = some b2) (h3 : D.isIn (.int 3) own = some b3) (h4 : D.isIn (.int 4) own = some b4)
    (h5 : D.isIn (.int 5) own = some b5) (h6 : D.isIn (.int 6) own = some b6) (h7 : D.isIn (.int 7) own = some b7) (h8 : D.isIn (.int 8) own = some b8) :
    forL (gSet 3) h_f__law_family_b1 (rngD 0 9) [some e, some own, some (.lst true [.bl b0, .bl b1, .bl b2, .bl b3, .bl b4, .bl b5, .bl b6, .bl b7, .bl b8]), o] = .nx [some e, some own, some (.lst true [.bl b0, .bl b1, .bl b2, .bl b3, .bl b4, .bl b5, .bl b6, .bl b7, .bl b8]), some (.int 8)] := by
  rw [rng9]
  unfold h_f__law_family_b1
  have st : ∀ (i : Nat) (b : Bool) (o : Option D), i < 9 → D.isIn (.int i) own = some b → ([b0, b1, b2, b3, b4, b5, b6, b7, b8][i]? = some b) → 
     sIf (tbn D.ne (bn D.idx (bvar 2) (bvar 3)) (bn (fun d e => (D.isIn d e).map .bl) (bvar 3) (bvar 1))) (sRet (cst (.bl false))) sNx (setE [some e, some own, some (.lst true [.bl b0, .bl b1, .bl b2, .bl b3, .bl b4, .bl b5, .bl b6, .bl b7, .bl b8]), o] 3 (.int i)) = .nx [some e, some own, some (.lst true [.bl b0, .bl b1, .bl b2, .bl b3, .bl b4, .bl b5, .bl b6, .bl b7, .bl b8]), some (.int i)] := by
    intro i b o hi hb hx
    simp_arith
    have ha : [D.bl b0, .bl b1, .bl b2, .bl b3, .bl b4, .bl b5, .bl b6, .bl b7, .bl b8][i]? = some (.bl b) := by
      rw [show [D.bl b0, .bl b1, .bl b2, .bl b3, .bl b4, .bl b5, .bl b6, .bl b7, .bl b8] = [b0, b1, b2, b3, b4, b5, b6, b7, b8].map D.bl from rfl, List.getElem?_map, hx]; rfl
    simp_arith [ha, hb]
  have s0 := fun o => st 0 b0 o (by omega) h0 rfl
  have s1 := fun o => st 1 b1 o (by omega) h1 rfl
  have s2 := fun o => st 2 b2 o (by omega) h2 rfl
  have s3 := fun o => st 3 b3 o (by omega) h3 rfl
  have s4 := fun o => st 4 b4 o (by omega) h4 rfl
  have s5 := fun o => st 5 b5 o (by omega) h5 rfl
  have s6 := fun o => st 6 b6 o (by omega) h6 rfl
  have s7 := fun o => st 7 b7 o (by omega) h7 rfl
  have s8 := fun o => st 8 b8 o (by omega) h8 rfl
  simp -implicitDefEqProofs only [Int.cast_ofNat_Int] at s0 s1 s2 s3 s4 s5 s6 s7 s8
  have z : ∀ (d : D) (ds : List D) (ρ : Env), forL (gSet 3) (sIf (tbn D.ne (bn D.idx (bvar 2) (bvar 3)) (bn (fun d e => (D.isIn d e).map .bl) (bvar 3) (bvar 1))) (sRet (cst (.bl false))) sNx) (d :: ds) ρ = ((sIf (tbn D.ne (bn D.idx (bvar 2) (bvar 3)) (bn (fun d e => (D.isIn d e).map .bl) (bvar 3) (bvar 1))) (sRet (cst (.bl false))) sNx) (setE ρ 3 d)).turn (forL (gSet 3) (sIf (tbn D.ne (bn D.idx (bvar 2) (bvar 3)) (bn (fun d e => (D.isIn d e).map .bl) (bvar 3) (bvar 1))) (sRet (cst (.bl false))) sNx) ds) := fun _ _ _ => rfl
  rw [z, s0, SO.turn_nx, z, s1, SO.turn_nx, z, s2, SO.turn_nx, z, s3, SO.turn_nx, z, s4, SO.turn_nx, z, s5, SO.turn_nx, z, s6, SO.turn_nx, z, s7, SO.turn_nx, z, s8, SO.turn_nx]
  rfl
theorem m_family {c : String} {ns : List String} {vs : List D} {k : Int} (hc : xAll.contains c = true) (hs : xs_SeatingError.contains c = true) (hv : xs_ValueError.contains c = true)
    (h0 : xs_InvalidRule.contains c = (0 == k)) (h1 : xs_InvalidText.contains c = (1 == k)) (h2 : xs_KindClash.contains c = (2 == k)) (h3 : xs_UnknownKind.contains c = (3 == k)) (h4 : xs_InvalidBench.contains c = (4 == k))
    (h5 : xs_CannotSit.contains c = (5 == k)) (h6 : xs_OutsideSeats.contains c = (6 == k)) (h7 : xs_SeatTaken.contains c = (7 == k)) (h8 : xs_NotAllowed.contains c = (8 == k)) :
    p_h__law_family [.nd (.xob c ns) vs, .lst false [.int k]] = .val (.bl true) := by
  unfold p_h__law_family h_f__law_family
  simp_arith [isX_ok hc, hs, hv]
  rw [add_lst (LINE_le (by simp only [List.length_cons, List.length_nil]; omega)) rfl rfl]
  simp_arith [isX_ok hc, hs, hv]
  rw [add_lst (LINE_le (by simp only [List.length_cons, List.length_nil]; omega)) rfl rfl]
  simp_arith [isX_ok hc, hs, hv]
  rw [if_pos (show RgOk 9 by unfold RgOk; omega)]
  simp_arith
  rw [show Int.toNat 9 = 9 from rfl, h0, h1, h2, h3, h4, h5, h6, h7, h8]
  have hi : ∀ i : Int, D.isIn (.int i) (.lst false [.int k]) = some (i == k) := fun i => by unfold D.isIn; simp [D.eqb, Bool.beq_comm]
  rw [fam_loop (hi 0) (hi 1) (hi 2) (hi 3) (hi 4) (hi 5) (hi 6) (hi 7) (hi 8)]
  simp_arith
/-- a loop over a list that begins with good ones -/
theorem forL_invA {α : Type} {g : XG} {b : XS} (emb : α → D) (I : List α → Env → Prop) (l : List α) (m : List D)
    (h : ∀ done a rest ρ, l = done ++ a :: rest → I done ρ → ∃ ρ', g (emb a) ρ = some ρ' ∧ ∃ ρ'', (b ρ' = .nx ρ'' ∨ b ρ' = .ct ρ'') ∧ I (done ++ [a]) ρ'') {ρ : Env} (h0 : I [] ρ) :
    ∃ ρ', forL g b (l.map emb ++ m) ρ = forL g b m ρ' ∧ I l ρ' := by
  have go : ∀ rest done ρ, l = done ++ rest → I done ρ → ∃ ρ', forL g b (rest.map emb ++ m) ρ = forL g b m ρ' ∧ I l ρ' := by
    intro rest
    induction rest with
    | nil => intro done ρ e i; rw [List.append_nil] at e; subst e; exact ⟨ρ, rfl, i⟩
    | cons a rest ih =>
      intro done ρ e i
      obtain ⟨ρ', e1, ρ'', e2, i2⟩ := h done a rest ρ e i
      obtain ⟨ρ3, e3, i3⟩ := ih (done ++ [a]) ρ'' (by rw [e, List.append_assoc]; rfl) i2
      refine ⟨ρ3, ?_, i3⟩
      rw [List.map_cons, List.cons_append, forL, e1]
      rcases e2 with e2 | e2
      · simp only [e2, SO.turn_nx, e3]
      · simp only [e2, SO.turn_ct, e3]
  exact go l [] ρ rfl h0
/-- c is the first letter at which two books clash -/
def FC (a b : Bk) (c : Nat) : Prop := ∃ k ∈ a.ks, ∃ o ∈ b.ks, k.c = c ∧ o.c = c ∧ k ≠ o ∧ ∀ k' ∈ a.ks, ∀ o' ∈ b.ks, k'.c < c → o'.c = k'.c → k' = o'
theorem FC.symm {a b : Bk} {c : Nat} (h : FC a b c) : FC b a c := by
  obtain ⟨k, hk, o, ho, e1, e2, hne, hf⟩ := h
  exact ⟨o, ho, k, hk, e2, e1, fun z => hne z.symm, fun k' hk' o' ho' hc he => (hf o' ho' k' hk' (by omega) he.symm).symm⟩
theorem srt_split {ks : List Kind} (h : KsOk ks) {k : Kind} (hk : k ∈ ks) : ∃ pre post, srt ks = pre ++ k :: post ∧ ∀ k' ∈ pre, k' ∈ ks ∧ k'.c < k.c := by
  obtain ⟨pre, post, e⟩ := List.append_of_mem ((mem_srt h).mpr hk)
  refine ⟨pre, post, e, fun k' hk' => ⟨(mem_srt h).mp (by rw [e]; exact List.mem_append_left _ hk'), ?_⟩⟩
  have p : (lts (srt ks)).Pairwise (· < ·) := by
    rw [lts_srt h]
    exact AZ_up.filter _
  rw [e] at p
  unfold lts at p
  rw [List.map_append, List.map_cons, List.pairwise_append] at p
  exact p.2.2 _ (List.mem_map_of_mem hk') _ List.mem_cons_self
theorem check_b2_bad {k o : Kind} (hc : k.c = o.c) (hne : k ≠ o) (a b : D) (j3 : Option D) (rest : List D) :
    ∃ ρ, forL (gSet 3) f_check_kinds_b2 (o.d :: rest) [some a, some b, some k.d, j3] = .exc ρ "KindClash" ["letter"] [.str [k.c]] := by
  have e : f_check_kinds_b2 [some a, some b, some k.d, some o.d] = .exc [some a, some b, some k.d, some o.d] "KindClash" ["letter"] [.str [k.c]] := by
    have hn : D.ne k.d o.d = some (!decide (k = o)) := by rw [ne_of (k.dat 7) (o.dat 7), eqb_kind]
    unfold f_check_kinds_b2
    simp_arith [hn]
    rw [show (([k.c] : Tx) == [o.c]) = true from by simpa using hc, show decide (k = o) = false from by simpa using hne]
    simp_arith [List.reverse_singleton]
  exact ⟨_, by
    show (f_check_kinds_b2 [some a, some b, some k.d, some o.d]).turn _ = _
    rw [e]; rfl⟩
theorem m_check_clash {a b : Bk} (ha : BkOk a) (hb : BkOk b) {c : Nat} (h : FC a b c) : p_check_kinds [a.d, b.d] = .exc "KindClash" ["letter"] [.str [c]] := by
  obtain ⟨k, hk, o, ho, rfl, e2, hne, hf⟩ := h
  obtain ⟨pre, post, ea, hpre⟩ := srt_split ha.ks hk
  obtain ⟨pre2, post2, eb, hpre2⟩ := srt_split hb.ks ho
  unfold p_check_kinds f_check_kinds
  simp_arith [at_kinds]
  rw [ea, List.map_append]
  have H := forL_invA (g := gSet 2) (b := f_check_kinds_b1) (m := (k :: post).map Kind.d) Kind.d
    (fun done ρ => ∃ (j2 j3 : Option D), ρ = [some a.d, some b.d, j2, j3]) pre
    (fun done k' rest ρ e hI => by
      obtain ⟨j2, j3, rfl⟩ := hI
      obtain ⟨hk1, hk2⟩ := hpre k' (e ▸ List.mem_append_right done List.mem_cons_self)
      refine ⟨_, rfl, ?_⟩
      unfold f_check_kinds_b1
      simp_arith [at_kinds]
      have H2 := forL_inv (g := gSet 3) (b := f_check_kinds_b2) Kind.d
        (fun done ρ => ∃ (j3 : Option D), ρ = [some a.d, some b.d, some k'.d, j3]) (srt b.ks)
        (fun done o rest ρ e2 hI => by
          obtain ⟨j3, rfl⟩ := hI
          have ho : o ∈ b.ks := (mem_srt hb.ks).mp (e2 ▸ List.mem_append_right done List.mem_cons_self)
          refine ⟨_, rfl, ?_⟩
          have hne : D.ne k'.d o.d = some (!decide (k' = o)) := by rw [ne_of (k'.dat 7) (o.dat 7), eqb_kind]
          unfold f_check_kinds_b2
          simp_arith [hne]
          by_cases hc : k'.c = o.c
          · have hko := hf k' hk1 o ho hk2 hc.symm
            rw [show (([k'.c] : Tx) == [o.c]) = true from by simpa using hc, show decide (k' = o) = true from by simpa using hko]
            simp_arith
            exact ⟨_, .inl rfl, _, rfl⟩
          · rw [show (([k'.c] : Tx) == [o.c]) = false from by simpa using hc]
            simp_arith
            exact ⟨_, .inl rfl, _, rfl⟩)
        (ρ := [some a.d, some b.d, some k'.d, j3]) ⟨j3, rfl⟩
      obtain ⟨ρ', e3, j3', rfl⟩ := H2
      rw [e3]
      exact ⟨_, .inl rfl, _, _, rfl⟩)
    (ρ := [some a.d, some b.d, none, none]) ⟨none, none, rfl⟩
  obtain ⟨ρ', e, j2, j3, rfl⟩ := H
  rw [e]
  have e4 : ∃ ρ, f_check_kinds_b1 [some a.d, some b.d, some k.d, j3] = .exc ρ "KindClash" ["letter"] [.str [k.c]] := by
    unfold f_check_kinds_b1
    simp_arith [at_kinds]
    rw [eb, List.map_append]
    have H3 := forL_invA (g := gSet 3) (b := f_check_kinds_b2) (m := (o :: post2).map Kind.d) Kind.d
      (fun done ρ => ∃ (j3 : Option D), ρ = [some a.d, some b.d, some k.d, j3]) pre2
      (fun done o' rest ρ e2' hI => by
        obtain ⟨j3, rfl⟩ := hI
        obtain ⟨ho1, ho2⟩ := hpre2 o' (e2' ▸ List.mem_append_right done List.mem_cons_self)
        refine ⟨_, rfl, ?_⟩
        have hne : D.ne k.d o'.d = some (!decide (k = o')) := by rw [ne_of (k.dat 7) (o'.dat 7), eqb_kind]
        unfold f_check_kinds_b2
        simp_arith [hne]
        rw [show (([k.c] : Tx) == [o'.c]) = false from by simp; omega]
        simp_arith
        exact ⟨_, .inl rfl, _, rfl⟩)
      (ρ := [some a.d, some b.d, some k.d, j3]) ⟨j3, rfl⟩
    obtain ⟨ρ3, e5, j3', rfl⟩ := H3
    rw [e5, List.map_cons]
    exact check_b2_bad e2.symm hne a.d b.d j3' _
  obtain ⟨ρ4, e4⟩ := e4
  rw [List.map_cons]
  rw [show forL (gSet 2) f_check_kinds_b1 (k.d :: post.map Kind.d) [some a.d, some b.d, j2, j3] = (f_check_kinds_b1 [some a.d, some b.d, some k.d, j3]).turn (forL (gSet 2) f_check_kinds_b1 (post.map Kind.d)) from rfl, e4]
  rfl
theorem ownR_or {a b : Bk} (ha : BkOk a) (hb : BkOk b) (h : Agree a b) : own2R "RuleBook" p_RuleBook___or__ a.d b.d = .val (orB a b).d := by
  unfold own2R; rw [m_or ha hb h]; rfl
theorem ownR_and {a b : Bk} (ha : BkOk a) (hb : BkOk b) (h : Agree a b) : own2R "RuleBook" p_RuleBook___and__ a.d b.d = .val (andB a b).d := by
  unfold own2R; rw [m_and ha hb h]; rfl
theorem ownR_sub {a b : Bk} (ha : BkOk a) (hb : BkOk b) (h : Agree a b) : own2R "RuleBook" p_RuleBook___sub__ a.d b.d = .val (subB a b).d := by
  unfold own2R; rw [m_sub ha hb h]; rfl
theorem xownR_or {a b : Bk} (ha : BkOk a) (hb : BkOk b) {c : Nat} (h : FC a b c) : own2R "RuleBook" p_RuleBook___or__ a.d b.d = .exc "KindClash" ["letter"] [.str [c]] := by
  unfold own2R
  rw [show (a.d.isObj "RuleBook" && b.d.isObj "RuleBook" && a.d.fz && b.d.fz) = true from rfl, if_pos rfl]
  unfold p_RuleBook___or__ f_RuleBook___or__
  simp_arith [bk_frz, bk_fz, m_check_clash ha hb h]
theorem xownR_and {a b : Bk} (ha : BkOk a) (hb : BkOk b) {c : Nat} (h : FC a b c) : own2R "RuleBook" p_RuleBook___and__ a.d b.d = .exc "KindClash" ["letter"] [.str [c]] := by
  unfold own2R
  rw [show (a.d.isObj "RuleBook" && b.d.isObj "RuleBook" && a.d.fz && b.d.fz) = true from rfl, if_pos rfl]
  unfold p_RuleBook___and__ f_RuleBook___and__
  simp_arith [bk_frz, bk_fz, m_check_clash ha hb h]
theorem xownR_sub {a b : Bk} (ha : BkOk a) (hb : BkOk b) {c : Nat} (h : FC a b c) : own2R "RuleBook" p_RuleBook___sub__ a.d b.d = .exc "KindClash" ["letter"] [.str [c]] := by
  unfold own2R
  rw [show (a.d.isObj "RuleBook" && b.d.isObj "RuleBook" && a.d.fz && b.d.fz) = true from rfl, if_pos rfl]
  unfold p_RuleBook___sub__ f_RuleBook___sub__
  simp_arith [bk_frz, bk_fz, m_check_clash ha hb h]
/-- the letter that a law waits for -/
def lTx : Option Nat → Tx
  | some c => [c]
  | none => []
def Cl (a b : Bk) (f : Option Nat) : Prop := match f with
  | some c => FC a b c
  | none => Agree a b
theorem m_clash {a b : Bk} (ha : BkOk a) (hb : BkOk b) {f : Option Nat} (h : Cl a b f) {j : Nat} (hj : j < 3) : p__law_clash [a.d, b.d, .int (j : Int), .str (lTx f)] = .val (.bl true) := by
  have hj3 : j = 0 ∨ j = 1 ∨ j = 2 := by omega
  unfold p__law_clash f__law_clash
  cases f with
  | none =>
    have h : Agree a b := h
    unfold f__law_clash_b1
    rcases hj3 with rfl | rfl | rfl
    · simp_arith [ownR_or ha hb h, isOw_bk, lTx]
    · simp_arith [ownR_and ha hb h, isOw_bk, lTx]
    · simp_arith [ownR_sub ha hb h, isOw_bk, lTx]
  | some c =>
    have h : FC a b c := h
    have hf := m_family (c := "KindClash") (ns := ["letter"]) (vs := [.str [c]]) (k := 2) rfl rfl rfl rfl rfl rfl rfl rfl rfl rfl rfl rfl
    have hu : f__law_clash_b1 [some a.d, some b.d, some (.int (j : Int)), some (.str [c]), none, none] = .exc [some a.d, some b.d, some (.int (j : Int)), some (.str [c]), none, none] "KindClash" ["letter"] [.str [c]] := by
      unfold f__law_clash_b1
      rcases hj3 with rfl | rfl | rfl
      · simp_arith [xownR_or ha hb h]
      · simp_arith [xownR_and ha hb h]
      · simp_arith [xownR_sub ha hb h]
    simp_arith [lTx, hu, tryS_exc, show xAll.contains "KindClash" = true from rfl, show xs_KindClash.contains "KindClash" = true from rfl]
    unfold f__law_clash_b2
    simp_arith [xat_one (show xAll.contains "KindClash" = true from rfl), hf]
    rfl
theorem rev_lst {o ds} (h : ds.all D.fz = true) : D.rev (.lst o ds) = some (.lst true ds.reverse) := if_pos h
def kd (ks : List Kind) (j : Nat) : Kind := ks.getD j ⟨0, 0, 0⟩
def bt (bs : List Int) (j : Nat) : Int := bs.getD j 0
/-- what the second book may have instead of the kind j -/
def alt (ks : List Kind) (bs : List Int) (j : Nat) : Kind :=
  ⟨(kd ks j).c, if bt bs (5 + j) = 1 then 1 + (kd ks j).size % 9 else (kd ks j).size, if bt bs (5 + j) = 2 then 0 - (kd ks j).worth - (if (kd ks j).worth = 0 then 1 else 0) else (kd ks j).worth⟩
def mn (ks : List Kind) (bs : List Int) (n : Nat) : List Kind := ((List.range n).filter fun j => bt bs j != 1).map (kd ks)
def ot (ks : List Kind) (bs : List Int) (n : Nat) : List Kind := ((List.range n).filter fun j => bt bs (10 + j) != 1).map (alt ks bs)
def clB (bs : List Int) (j : Nat) : Bool := (bt bs (10 + j) != 1) && ((bt bs j != 1) && (decide (bt bs (5 + j) = 1) || decide (bt bs (5 + j) = 2)))
def cls (ks : List Kind) (bs : List Int) (n : Nat) : List Nat := ((List.range n).filter fun j => clB bs j).map fun j => (kd ks j).c
theorem alt_c (ks : List Kind) (bs : List Int) (j : Nat) : (alt ks bs j).c = (kd ks j).c := rfl
theorem kd_at {ks : List Kind} {j : Nat} (h : j < ks.length) : ks[j]? = some (kd ks j) := by
  unfold kd; rw [List.getD_eq_getElem?_getD, List.getElem?_eq_getElem h]; rfl
theorem bt_at {bs : List Int} {j : Nat} (h : j < bs.length) : bs[j]? = some (bt bs j) := by
  unfold bt; rw [List.getD_eq_getElem?_getD, List.getElem?_eq_getElem h]; rfl
theorem kd_in {ks : List Kind} {j : Nat} (h : j < ks.length) : kd ks j ∈ ks := List.mem_of_getElem? (kd_at h)
theorem kd_get {ks : List Kind} {j : Nat} (h : j < ks.length) : ks[j] = kd ks j := by
  have := kd_at h
  rw [List.getElem?_eq_getElem h] at this
  exact Option.some.inj this
theorem kd_inj {ks : List Kind} (h : KsOk ks) {i j : Nat} (hi : i < ks.length) (hj : j < ks.length) (e : (kd ks i).c = (kd ks j).c) : i = j := by
  have nd := h.nd
  unfold lts List.Nodup at nd
  rw [List.pairwise_map, List.pairwise_iff_getElem] at nd
  rcases Nat.lt_trichotomy i j with z | z | z
  · exact absurd (by rw [kd_get hi, kd_get hj]; exact e) (nd i j hi hj z)
  · exact z
  · exact absurd (by rw [kd_get hi, kd_get hj]; exact e.symm) (nd j i hj hi z)
theorem alt_ne {ks : List Kind} (h : KsOk ks) (bs : List Int) {j : Nat} (hj : j < ks.length) : kd ks j ≠ alt ks bs j ↔ bt bs (5 + j) = 1 ∨ bt bs (5 + j) = 2 := by
  have ho := h.ok _ (kd_in hj)
  generalize e : kd ks j = k at ho
  obtain ⟨c, s, w⟩ := k
  have ho1 := ho.2.1
  clear ho
  simp only at ho1
  unfold alt
  rw [e]
  simp only [ne_eq, Kind.mk.injEq, true_and]
  constructor
  · intro hn
    apply Classical.byContradiction
    intro z
    have z1 : ¬ bt bs (5 + j) = 1 := fun y => z (.inl y)
    have z2 : ¬ bt bs (5 + j) = 2 := fun y => z (.inr y)
    rw [if_neg z1, if_neg z2] at hn
    exact hn ⟨rfl, rfl⟩
  · rintro (z | z) ⟨h1, h2⟩
    · rw [if_pos z] at h1
      omega
    · rw [if_pos z] at h2
      split at h2 <;> omega
theorem alt_ok {ks : List Kind} (h : KsOk ks) (bs : List Int) {j : Nat} (hj : j < ks.length) : (65 ≤ (alt ks bs j).c ∧ (alt ks bs j).c ≤ 90) ∧ (1 ≤ (alt ks bs j).size ∧ (alt ks bs j).size ≤ 9) ∧ (-999 ≤ (alt ks bs j).worth ∧ (alt ks bs j).worth ≤ 999) := by
  obtain ⟨o1, o2, o3⟩ := h.ok _ (kd_in hj)
  unfold alt
  simp only
  refine ⟨o1, ?_, ?_⟩
  · split <;> omega
  · split
    · split <;> omega
    · omega
theorem nd_of {ks : List Kind} (h : KsOk ks) (p : Nat → Bool) (f : Nat → Kind) (hf : ∀ j, (f j).c = (kd ks j).c) {n : Nat} (hn : n ≤ ks.length) : (lts (((List.range n).filter p).map f)).Nodup := by
  unfold lts
  rw [List.map_map]
  unfold List.Nodup
  rw [List.pairwise_map]
  have := (List.nodup_range (n := n)).filter p
  refine List.Pairwise.imp_of_mem (fun {a b} ha hb hne e => hne ?_) this
  rw [List.mem_filter, List.mem_range] at ha hb
  simp only [Function.comp_apply, hf] at e
  exact kd_inj h (by omega) (by omega) e
theorem mn_ok {ks : List Kind} (h : KsOk ks) (bs : List Int) {n : Nat} (hn : n ≤ ks.length) : KsOk (mn ks bs n) := ⟨nd_of h _ _ (fun _ => rfl) hn, fun k hk => by
  obtain ⟨j, hj, rfl⟩ := List.mem_map.mp hk
  rw [List.mem_filter, List.mem_range] at hj
  exact h.ok _ (kd_in (by omega))⟩
theorem ot_ok {ks : List Kind} (h : KsOk ks) (bs : List Int) {n : Nat} (hn : n ≤ ks.length) : KsOk (ot ks bs n) := ⟨nd_of h (fun j => bt bs (10 + j) != 1) (alt ks bs) (fun _ => rfl) hn, fun k hk => by
  obtain ⟨j, hj, rfl⟩ := List.mem_map.mp hk
  rw [List.mem_filter, List.mem_range] at hj
  exact alt_ok h bs (by omega)⟩
/-- which letters clash -/
theorem mem_cls {ks : List Kind} (h : KsOk ks) (bs : List Int) (c : Nat) : c ∈ cls ks bs ks.length ↔ ∃ k ∈ mn ks bs ks.length, ∃ o ∈ ot ks bs ks.length, k.c = c ∧ o.c = c ∧ k ≠ o := by
  unfold cls mn ot
  simp only [List.mem_map, List.mem_filter, List.mem_range]
  constructor
  · rintro ⟨j, ⟨hj, hc⟩, rfl⟩
    unfold clB at hc
    simp only [Bool.and_eq_true, Bool.or_eq_true, decide_eq_true_eq] at hc
    exact ⟨_, ⟨j, ⟨hj, hc.2.1⟩, rfl⟩, _, ⟨j, ⟨hj, hc.1⟩, rfl⟩, rfl, rfl, (alt_ne h bs hj).mpr hc.2.2⟩
  · rintro ⟨_, ⟨j, ⟨hj, hm⟩, rfl⟩, _, ⟨i, ⟨hi, hm2⟩, rfl⟩, rfl, e, hne⟩
    rw [alt_c] at e
    have := kd_inj h hi hj e
    subst this
    refine ⟨i, ⟨hj, ?_⟩, rfl⟩
    unfold clB
    simp only [Bool.and_eq_true, Bool.or_eq_true, decide_eq_true_eq]
    exact ⟨hm2, hm, (alt_ne h bs hj).mp hne⟩
def fcl (ks : List Kind) (bs : List Int) : Option Nat := AZ.find? fun c => decide (c ∈ cls ks bs ks.length)
theorem cl_ok {ks : List Kind} (h : KsOk ks) (bs : List Int) (al al2 : List Tx) : Cl ⟨mn ks bs ks.length, al⟩ ⟨(ot ks bs ks.length).reverse, al2⟩ (fcl ks bs) := by
  have hx := mem_cls h bs
  have hm := mn_ok h bs (Nat.le_refl ks.length)
  unfold fcl
  cases hf : AZ.find? (fun c => decide (c ∈ cls ks bs ks.length)) with
  | none =>
    intro k hk o ho e
    have ho : o ∈ ot ks bs ks.length := List.mem_reverse.mp ho
    apply Classical.byContradiction
    intro hne
    have := List.find?_eq_none.mp hf k.c (mem_AZ.mpr (hm.ok k hk).1)
    exact this (decide_eq_true ((hx k.c).mpr ⟨k, hk, o, ho, rfl, e.symm, hne⟩))
  | some c =>
    obtain ⟨hc, as, bs', e, hb⟩ := List.find?_eq_some_iff_append.mp hf
    obtain ⟨k, hk, o, ho, e1, e2, hne⟩ := (hx c).mp (of_decide_eq_true hc)
    refine ⟨k, hk, o, List.mem_reverse.mpr ho, e1, e2, hne, fun k' hk' o' ho' hlt he => ?_⟩
    have ho' : o' ∈ ot ks bs ks.length := List.mem_reverse.mp ho'
    apply Classical.byContradiction
    intro hne'
    have hin : k'.c ∈ AZ := mem_AZ.mpr (hm.ok k' hk').1
    have hup := AZ_up
    rw [e] at hin hup
    rcases List.mem_append.mp hin with z | z
    · have := hb _ z
      simp only [Bool.not_eq_true', decide_eq_false_iff_not] at this
      exact this ((hx k'.c).mpr ⟨k', hk', o', ho', rfl, he, hne'⟩)
    · rcases List.mem_cons.mp z with z | z
      · omega
      · have := (List.pairwise_cons.mp (List.pairwise_append.mp hup).2.1).1 _ z
        omega
theorem rng_s (n : Nat) (p : Nat → Bool) : ((List.range (n + 1)).filter p) = ((List.range n).filter p) ++ (if p n then [n] else []) := by
  rw [List.range_succ, List.filter_append]
  congr 1
  cases h : p n <;> simp [h]
theorem ot_s (ks : List Kind) (bs : List Int) (n : Nat) : ot ks bs (n + 1) = ot ks bs n ++ (if (bt bs (10 + n) != 1) = true then [alt ks bs n] else []) := by
  unfold ot; rw [rng_s, List.map_append]; congr 1; split <;> rfl
theorem cls_s (ks : List Kind) (bs : List Int) (n : Nat) : cls ks bs (n + 1) = cls ks bs n ++ (if clB bs n = true then [(kd ks n).c] else []) := by
  unfold cls; rw [rng_s, List.map_append]; congr 1; split <;> rfl
theorem ot_len (ks : List Kind) (bs : List Int) (n : Nat) : (ot ks bs n).length ≤ n := by
  unfold ot; rw [List.length_map]; exact Nat.le_trans (List.length_filter_le _ _) (by rw [List.length_range]; omega)
theorem cls_len (ks : List Kind) (bs : List Int) (n : Nat) : (cls ks bs n).length ≤ n := by
  unfold cls; rw [List.length_map]; exact Nat.le_trans (List.length_filter_le _ _) (by rw [List.length_range]; omega)
theorem mn_len (ks : List Kind) (bs : List Int) (n : Nat) : (mn ks bs n).length ≤ n := by
  unfold mn; rw [List.length_map]; exact Nat.le_trans (List.length_filter_le _ _) (by rw [List.length_range]; omega)
theorem isIn_12 (i : Int) : D.isIn (.int i) (.lst true [.int 1, .int 2]) = some (decide (i = 1) || decide (i = 2)) := by
  unfold D.isIn; simp [D.eqb]
  by_cases h1 : i = 1
  · subst h1; rfl
  · by_cases h2 : i = 2
    · subst h2; rfl
    · simp [h1, h2]
      exact ⟨fun e => h1 e.symm, fun e => h2 e.symm⟩
theorem m_b1 {ks : List Kind} {bs : List Int} (hl : ks.length ≤ 5) (hb : bs.length = 20) {i : Nat} (hi : i < ks.length) (o0 o4 : Option D) (j7 j8 j9 : Option D) (ρt : List (Option D)) :
    ∃ j7' j8' j9', f_law_b1 (o0 :: some (.lst true (ks.map Kind.d)) :: some (.lst true (bs.map D.int)) :: some (.int (i : Int)) :: o4 :: some (.lst true ((ot ks bs i).map Kind.d)) :: some (.lst true ((cls ks bs i).map chD)) :: j7 :: j8 :: j9 :: ρt) =
      .nx (o0 :: some (.lst true (ks.map Kind.d)) :: some (.lst true (bs.map D.int)) :: some (.int (i : Int)) :: o4 :: some (.lst true ((ot ks bs (i + 1)).map Kind.d)) :: some (.lst true ((cls ks bs (i + 1)).map chD)) :: j7' :: j8' :: j9' :: ρt) := by
  have l1 := ot_len ks bs i
  have l2 := cls_len ks bs i
  rw [ot_s, cls_s]
  have h5 : (5 : Int) + (i : Int) = ((5 + i : Nat) : Int) := by omega
  have h10 : (10 : Int) + (i : Int) = ((10 + i : Nat) : Int) := by omega
  have hb5 := bt_at (show 5 + i < bs.length by omega)
  have hb10 := bt_at (show 10 + i < bs.length by omega)
  have hb0 := bt_at (show i < bs.length by omega)
  have hk := kd_at hi
  unfold f_law_b1 alt clB
  generalize bt bs (5 + i) = x at *
  generalize bt bs (10 + i) = y at *
  generalize bt bs i = z at *
  generalize kd ks i = k at *
  generalize ot ks bs i = os at *
  generalize cls ks bs i = cl at *
  generalize hT : (sIf (tbn D.ne (bn D.idx (bvar 2) (bn D.add (cst (.int 10)) (bvar 3))) (cst (.int 1))) (sSeq (sFrz 7 (sFrz 8 (sFrz 9 (sLst1 D.app 5 (mtup (lcons (lk (bvar 7)) (lcons (lk (bvar 8)) (lcons (lk (bvar 9)) lnil))))))))
  (sIf (tnd (tbn D.ne (bn D.idx (bvar 2) (bvar 3)) (cst (.int 1))) (tbn D.isIn (bn D.idx (bvar 2) (bn D.add (cst (.int 5)) (bvar 3))) (mlst (lcons (cst (.int 1)) (lcons (cst (.int 2)) lnil))))) (sFrz 7 (sLst1 D.app 6 (lk (bvar 7)))) sNx)) sNx) = T
  have step : ∀ (s w : Int) (xb : Bool), D.isIn (.int x) (.lst true [.int 1, .int 2]) = some xb → ∃ j7 j8' j9', T
      (o0 :: some (.lst true (ks.map Kind.d)) :: some (.lst true (bs.map D.int)) :: some (.int (i : Int)) :: o4 :: some (.lst true (os.map Kind.d)) :: some (.lst true (cl.map chD)) :: some (.str [k.c]) :: some (.int s) :: some (.int w) :: ρt) =
      .nx (o0 :: some (.lst true (ks.map Kind.d)) :: some (.lst true (bs.map D.int)) :: some (.int (i : Int)) :: o4 :: some (.lst true ((os ++ if (!(y == 1)) = true then [Kind.mk k.c s w] else []).map Kind.d)) :: some (.lst true ((cl ++ if (!(y == 1) && (!(z == 1) && xb)) = true then [k.c] else []).map chD)) :: j7 :: j8' :: j9' :: ρt) := by
    intro s w xb hxb
    subst hT
    cases hy : (y == 1)
    case true => 
      simp_arith [h10, hb10, hy]
      exact ⟨_, _, _, rfl⟩
    case false =>
      simp_arith [h10, hb10, hy]
      rw [app_ok (LINE_lt (by rw [List.length_map]; omega))]
      cases hz : (z == 1)
      case true =>
        simp_arith [hb0, hz, List.map_append]
        exact ⟨_, _, _, rfl⟩
      case false =>
        simp_arith [hb0, hz, h5, hb5, hxb]
        cases xb
        · simp_arith [List.map_append]
          exact ⟨_, _, _, rfl⟩
        · simp_arith
          rw [app_ok (LINE_lt (by rw [List.length_map]; omega))]
          simp_arith [List.map_append]
          exact ⟨_, _, _, rfl⟩
  rw [isIn_12] at step
  generalize hS : (if x = 1 then 1 + k.size % 9 else k.size) = S
  generalize hW : (if x = 2 then 0 - k.worth - (if k.worth = 0 then 1 else 0) else k.worth) = Wt
  generalize hB : (decide (x = 1) || decide (x = 2)) = Bx at step ⊢
  have fin := step S Wt Bx rfl
  obtain ⟨r7, r8, r9, hfin⟩ := fin
  refine ⟨r7, r8, r9, Eq.trans ?_ hfin⟩
  clear step hfin hT
  simp_arith [hk, h5, hb5]
  by_cases h1 : x = 1
  · subst h1
    rw [if_pos rfl] at hS
    rw [if_neg (by decide)] at hW
    subst hS hW
    simp_arith
    rw [mod_int (by omega)]
    simp_arith [h5, hb5]
  · have h1' : (x == 1) = false := by simpa using h1
    rw [if_neg h1] at hS
    by_cases h2 : x = 2
    · subst h2
      rw [if_pos rfl] at hW
      subst hS hW
      simp_arith [h5, hb5]
      by_cases h0 : k.worth = 0
      · rw [if_pos h0, if_pos (by simpa using h0)]
      · rw [if_neg h0, if_neg (by simpa using h0)]
    · have h2' : (x == 2) = false := by simpa using h2
      rw [if_neg h2] at hW
      subst hS hW
      simp_arith [h1', h2', h5, hb5]
theorem mul_lst01 (o : Bool) (ts : List Tx) (h : ts.length ≤ 100) (b : Int) (hb : b = 0 ∨ b = 1) : ∃ us : List Tx, D.mul (.lst o (ts.map D.str)) (.int b) = some (.lst true (us.map D.str)) ∧ (∀ t ∈ us, t ∈ ts) ∧ us.length ≤ 100 := by
  rcases hb with rfl | rfl
  · refine ⟨[], ?_, by simp, by simp⟩
    show (if _ then _ else _) = _
    rw [if_pos ⟨by omega, by omega, by simp, fz_map_str _⟩]
    rfl
  · refine ⟨ts, ?_, fun t h => h, h⟩
    show (if _ then _ else _) = _
    rw [if_pos ⟨by omega, by omega, LINE_le (by simp; omega), fz_map_str _⟩]
    simp
theorem m_law (s : List Int) (hs : ∀ z ∈ s, Snum z) : p_law [.nd .scr (s.map D.int)] = .val (.bl true) := by
  obtain ⟨z0, c0, h0⟩ := m_cell_sm hs 0
  obtain ⟨z1, c1, h1⟩ := m_cell_sm hs 1
  simp_arith at c0 c1
  obtain ⟨ks, k1, k2, k3, k4⟩ := m_kinds h0 (most := 5) (by omega) (largest := 9) (by omega)
  obtain ⟨bs, r1, r2, r3⟩ := m_row h1 (many := 20) (by omega) (limit := 6) (by omega)
  simp_arith at k1 r1
  unfold p_law f_law
  simp_arith [its_lst, cut_lst, toList_lst, toTup_lst, c0, k1, c1, r1]
  rw [if_pos (RgOk_nat (by omega)), Int.toNat_natCast]
  simp_arith [its_lst, cut_lst, toList_lst, toTup_lst]
  have hr : rngD 0 ks.length = (List.range ks.length).map fun (i : Nat) => D.int (i : Int) := by
    unfold rngD; exact List.map_congr_left fun i _ => by rw [Int.zero_add]
  rw [hr, compL_map (fun (i : Nat) => D.int (i : Int)) (fun j => bt bs j != 1) (fun j => (kd ks j).d) (List.range ks.length) fun j hj => ⟨_, rfl, by
    have hj := List.mem_range.mp hj
    simp_arith [wipeE, bt_at (show j < bs.length by omega)]; rfl, fun _ => by
    have hj := List.mem_range.mp hj
    simp_arith [wipeE, kd_at hj]⟩]
  rw [← hr, show (((List.range ks.length).filter fun j => bt bs j != 1).map fun j => (kd ks j).d) = (mn ks bs ks.length).map Kind.d from by unfold mn; rw [List.map_map]; rfl]
  simp_arith [its_lst, cut_lst, toList_lst, toTup_lst]
  rw [if_pos (LINE_le (by unfold rngD; rw [List.length_map, List.length_range]; omega))]
  simp_arith [its_lst, cut_lst, toList_lst, toTup_lst]
  rw [if_pos (RgOk_nat (by omega)), Int.toNat_natCast]
  simp_arith [its_lst, cut_lst, toList_lst, toTup_lst]
  have l1 := mn_len ks bs ks.length
  have l2 := ot_len ks bs ks.length
  have l3 := cls_len ks bs ks.length
  obtain ⟨ρ', e1, j3, j7, j8, j9, rfl⟩ := forL_rng (g := gSet 3) (b := f_law_b1) (fun i ρ => ∃ j3 j7 j8 j9, ρ = [some (D.nd Kd.scr (List.map D.int s)), some (D.lst true (List.map Kind.d ks)),
      some (D.lst true (List.map D.int bs)), j3, some (.lst true ((mn ks bs ks.length).map Kind.d)), some (.lst true ((ot ks bs i).map Kind.d)), some (.lst true ((cls ks bs i).map chD)), j7, j8, j9, none, none, none, none, none, none]) ks.length
    (fun i ρ hi hI => by
      obtain ⟨j3, j7, j8, j9, rfl⟩ := hI
      refine ⟨_, rfl, ?_⟩
      obtain ⟨j7', j8', j9', e⟩ := m_b1 k3 r2 hi (some (D.nd Kd.scr (List.map D.int s))) (some (.lst true ((mn ks bs ks.length).map Kind.d))) j7 j8 j9 [none, none, none, none, none, none]
      exact ⟨_, .inl e, _, _, _, _, rfl⟩)
    (ρ := [some (D.nd Kd.scr (List.map D.int s)), some (D.lst true (List.map Kind.d ks)),
      some (D.lst true (List.map D.int bs)), none, some (.lst true ((mn ks bs ks.length).map Kind.d)), some (.lst true []), some (.lst true []), none, none, none, none, none, none, none, none, none]) ⟨_, _, _, _, rfl⟩
  rw [e1]
  clear e1
  have hmk := mn_ok k2 bs (Nat.le_refl ks.length)
  have hok := ot_ok k2 bs (Nat.le_refl ks.length)
  have hcl := cl_ok k2 bs
  generalize mn ks bs ks.length = ms at *
  generalize ot ks bs ks.length = os at *
  have hadd : ∀ k : Kind, D.add (.str [k.c]) (.str [35, 46]) = some (.str [k.c, 35, 46]) := fun k => rfl
  simp_arith [its_lst, cut_lst, toList_lst, toTup_lst]
  rw [compL_all Kind.d (fun k : Kind => .str [k.c, 35, 46]) ms fun a _ => ⟨_, rfl, by simp_arith [wipeE, hadd]⟩]
  simp_arith [its_lst, cut_lst, toList_lst, toTup_lst]
  rw [if_pos (LINE_le (by omega))]
  simp_arith [its_lst, cut_lst, toList_lst, toTup_lst]
  rw [compL_all Kind.d (fun k : Kind => .str [k.c, 35, 46]) os fun a _ => ⟨_, rfl, by simp_arith [wipeE, hadd]⟩]
  simp_arith [its_lst, cut_lst, toList_lst, toTup_lst]
  rw [if_pos (LINE_le (by omega))]
  simp_arith [its_lst, cut_lst, toList_lst, toTup_lst]
  have hb15 := bt_at (show 15 < bs.length by omega)
  have ha15 : atI (bs.map D.int) 15 = some (.int (bt bs 15)) := by rw [atI_int _ _ (by omega)]; show (bs.map D.int)[15]? = _; rw [List.getElem?_map, hb15]; rfl
  rw [show atI (bs.map D.int) 15 = some (.int (bt bs 15)) from by rw [atI_int _ _ (by omega)]; show (bs.map D.int)[15]? = _; rw [List.getElem?_map, hb15]; rfl]
  simp_arith [its_lst, cut_lst, toList_lst, toTup_lst]
  rw [mod_int (by omega)]
  simp_arith [its_lst, cut_lst, toList_lst, toTup_lst]
  obtain ⟨us, u1, u2, u3⟩ := mul_lst01 true (ms.map fun k => ([k.c, 35, 46] : Tx)) (by rw [List.length_map]; omega) (bt bs 15 % 2) (by omega)
  obtain ⟨vs, v1, v2, v3⟩ := mul_lst01 true (os.map fun k => ([k.c, 35, 46] : Tx)) (by rw [List.length_map]; omega) (bt bs 15 % 2) (by omega)
  rw [List.map_map] at u1 v1
  rw [show D.mul (.lst true (ms.map fun k => D.str [k.c, 35, 46])) (.int (bt bs 15 % 2)) = some (.lst true (us.map D.str)) from u1]
  have pok : ∀ (ls : List Kind) (ts : List Tx), (∀ t ∈ ts, t ∈ ls.map fun k => ([k.c, 35, 46] : Tx)) → ∀ t ∈ ts, PmOk ls t := fun ls ts h t ht => by
    obtain ⟨k, hk, rfl⟩ := List.mem_map.mp (h t ht)
    exact ⟨k.c, 35, 46, rfl, mem_lts.mpr ⟨k, hk, rfl⟩, mem_VW.mpr (.inl rfl), mem_VW.mpr (.inr (.inl rfl))⟩
  have hma := m_mk_RuleBook hmk (pok ms us u2) (by omega)
  have hrk : KsOk os.reverse := ⟨by
    have : (lts os.reverse).Perm (lts os) := (List.reverse_perm os).map Kind.c
    exact this.nodup_iff.mpr hok.nd, fun k hk => hok.ok k (List.mem_reverse.mp hk)⟩
  have hmb := m_mk_RuleBook hrk (pok os.reverse vs fun t ht => by
    obtain ⟨k, hk, rfl⟩ := List.mem_map.mp (v2 t ht)
    exact List.mem_map.mpr ⟨k, List.mem_reverse.mpr hk, rfl⟩) (by omega)
  have bka : BkOk ⟨ms, dd us⟩ := bkOk_mk hmk (pok ms us u2)
  have bkb : BkOk ⟨os.reverse, dd vs⟩ := bkOk_mk hrk (pok os.reverse vs fun t ht => by
    obtain ⟨k, hk, rfl⟩ := List.mem_map.mp (v2 t ht)
    exact List.mem_map.mpr ⟨k, List.mem_reverse.mpr hk, rfl⟩)
  have hcl := hcl (dd us) (dd vs)
  generalize hA : (⟨ms, dd us⟩ : Bk) = A at *
  generalize hB : (⟨os.reverse, dd vs⟩ : Bk) = B at *
  simp_arith [its_lst, cut_lst, toList_lst, toTup_lst, hma, lends_bk]
  rw [ha15]
  simp_arith [its_lst, cut_lst, toList_lst, toTup_lst]
  rw [mod_int (by omega)]
  simp_arith [its_lst, cut_lst, toList_lst, toTup_lst]
  rw [show D.mul (.lst true (os.map fun k => D.str [k.c, 35, 46])) (.int (bt bs 15 % 2)) = some (.lst true (vs.map D.str)) from v1, rev_lst (fz_map_kind _), ← List.map_reverse]
  simp_arith [its_lst, cut_lst, toList_lst, toTup_lst, hmb, lends_bk]
  unfold fcl at hcl
  generalize cls ks bs ks.length = cl at *
  generalize hx10 : D.lst true [D.lst true (os.map fun k => D.str [k.c, 35, 46]), D.lst true (os.map fun k => D.str [k.c, 35, 46])] = x10
  generalize hy10 : D.lst true [D.lst true (ms.map fun k => D.str [k.c, 35, 46]), D.lst true (os.map fun k => D.str [k.c, 35, 46])] = y10
  obtain ⟨ρ', e1, j13, rfl⟩ := forL_inv (g := gSet 13) (b := f_law_b2) chD (fun done ρ => ∃ j13, ρ = [some (D.nd Kd.scr (List.map D.int s)), some (D.lst true (List.map Kind.d ks)),
              some (D.lst true (List.map D.int bs)), j3, some (D.lst true (List.map Kind.d ms)),
              some (D.lst true (List.map Kind.d os)), some (D.lst true (List.map chD cl)),
              some (D.str (lTx (done.find? fun c => decide (c ∈ cl)))), j8, j9, some y10, some A.d, some B.d, j13, none, none]) AZ
    (fun done c rest ρ e hI => by
      obtain ⟨j13, rfl⟩ := hI
      refine ⟨_, rfl, ?_⟩
      unfold f_law_b2
      rw [List.find?_append]
      cases hf : done.find? (fun c => decide (c ∈ cl)) with
      | some d =>
        simp_arith [lTx]
        rw [show (([d] : Tx) == []) = false from rfl]
        simp_arith [lTx]
        exact ⟨_, .inl rfl, _, rfl⟩
      | none =>
        simp_arith [lTx]
        cases hc : decide (c ∈ cl)
        · simp_arith
          exact ⟨_, .inl rfl, some (chD c), by simp [hc, lTx]⟩
        · simp_arith
          exact ⟨_, .inl rfl, some (chD c), by simp [hc, lTx, chD]⟩)
    (ρ := [some (D.nd Kd.scr (List.map D.int s)), some (D.lst true (List.map Kind.d ks)),
              some (D.lst true (List.map D.int bs)), j3, some (D.lst true (List.map Kind.d ms)),
              some (D.lst true (List.map Kind.d os)), some (D.lst true (List.map chD cl)),
              some (D.str []), j8, j9, some y10, some A.d, some B.d, none, none, none]) ⟨_, rfl⟩
  rw [e1]
  clear e1
  generalize (AZ.find? fun c => decide (c ∈ cl)) = f at *
  have hcl2 : Cl B A f := by
    cases f with
    | none => exact fun k hk o ho e => (hcl o ho k hk e.symm).symm
    | some c => exact FC.symm hcl
  simp_arith [its_lst, cut_lst, toList_lst, toTup_lst]
  rw [if_pos (show RgOk 3 by unfold RgOk; omega), show Int.toNat 3 = 3 from rfl]
  simp_arith [its_lst, cut_lst, toList_lst, toTup_lst]
  obtain ⟨ρ', e1, j13', rfl⟩ := forL_rng (g := gSet 13) (b := f_law_b3) (fun i ρ => ∃ j13, ρ = [some (D.nd Kd.scr (List.map D.int s)), some (D.lst true (List.map Kind.d ks)),
              some (D.lst true (List.map D.int bs)), j3, some (D.lst true (List.map Kind.d ms)),
              some (D.lst true (List.map Kind.d os)), some (D.lst true (List.map chD cl)),
              some (D.str (lTx f)), j8, j9, some y10, some A.d, some B.d, j13, none, none]) 3
    (fun i ρ hi hI => by
      obtain ⟨j13, rfl⟩ := hI
      refine ⟨_, rfl, ?_⟩
      unfold f_law_b3
      simp_arith [bk_frz, bk_fz, m_clash bka bkb hcl hi, m_clash bkb bka hcl2 hi]
      exact ⟨_, .inl rfl, _, rfl⟩)
    (ρ := [some (D.nd Kd.scr (List.map D.int s)), some (D.lst true (List.map Kind.d ks)),
              some (D.lst true (List.map D.int bs)), j3, some (D.lst true (List.map Kind.d ms)),
              some (D.lst true (List.map Kind.d os)), some (D.lst true (List.map chD cl)),
              some (D.str (lTx f)), j8, j9, some y10, some A.d, some B.d, j13, none, none]) ⟨_, rfl⟩
  rw [e1]
  clear e1
  have two : ∀ (X Y : Bk) (c : Nat), BkOk X → BkOk Y → FC X Y c → (∀ k ∈ X.ks, k ∈ Y.ks) → False := fun X Y c hX hY h hs => by
    obtain ⟨k, hk, o, ho, e1, e2, hne, _⟩ := h
    have h1 := kOf_self hY.ks (hs k hk)
    have h2 := kOf_self hY.ks ho
    rw [e1] at h1
    rw [e2] at h2
    exact hne (h1.symm.trans h2)
  have fin : ∀ (X : Env → SO), (sSeq (sIf
              (tnd (tbn D.ne (bvar 7) (cst (D.str [])))
                (tor (tbn (eqA "RuleBook" p_RuleBook___eq__) (bvar 11) (bvar 12))
                  (tor (tbn (cmp2 "RuleBook" p_RuleBook___le__) (bvar 11) (bvar 12))
                    (tbn (cmp2 "RuleBook" p_RuleBook___le__) (bvar 12) (bvar 11)))))
              (sRet (cst (D.bl false))) sNx) X [some (D.nd Kd.scr (List.map D.int s)), some (D.lst true (List.map Kind.d ks)),
              some (D.lst true (List.map D.int bs)), j3, some (D.lst true (List.map Kind.d ms)),
              some (D.lst true (List.map Kind.d os)), some (D.lst true (List.map chD cl)),
              some (D.str (lTx f)), j8, j9, some y10, some A.d, some B.d, j13', none, none]) = X [some (D.nd Kd.scr (List.map D.int s)), some (D.lst true (List.map Kind.d ks)),
              some (D.lst true (List.map D.int bs)), j3, some (D.lst true (List.map Kind.d ms)),
              some (D.lst true (List.map Kind.d os)), some (D.lst true (List.map chD cl)),
              some (D.str (lTx f)), j8, j9, some y10, some A.d, some B.d, j13', none, none] := fun X => by
    cases f with
    | none => simp_arith [lTx]
    | some c =>
      have q1 : eqB A B = false := by
        rw [← Bool.not_eq_true]
        intro z
        exact two A B c bka bkb hcl fun k hk => ((eqB_iff bka bkb).mp z).1 k |>.mp hk
      have q2 : leB A B = false := by
        rw [← Bool.not_eq_true]
        intro z
        exact two A B c bka bkb hcl ((leB_iff bka bkb).mp z).1
      have q3 : leB B A = false := by
        rw [← Bool.not_eq_true]
        intro z
        exact two B A c bkb bka hcl2 ((leB_iff bkb bka).mp z).1
      simp_arith [lTx, own_eq, own_le bka bkb, own_le bkb bka, q1, q2, q3]
      rw [show (([c] : Tx) == []) = false from rfl]
      simp_arith [lTx, own_eq, own_le bka bkb, own_le bkb bka, q1, q2, q3]
  rw [SO.seq_nx, fin]
  have hAk : A.ks = ms := by rw [← hA]
  have hBk : srt B.ks = srt os := by rw [← hB]; exact srt_eq hrk hok fun k => List.mem_reverse
  simp_arith [its_lst, cut_lst, toList_lst, toTup_lst, at_kinds, m_ordered hmk, m_ordered hok, hAk, hBk, eq_kinds]
end Lc
end
section
set_option Elab.async false
set_option linter.all false
set_option maxRecDepth 100000
set_option maxHeartbeats 0
namespace K08
open PySem PySem.Spec PyProof.Rows L2 Lc
abbrev LW := PySem.Challenge.rw_lastchair_k08_clashing_kinds
abbrev R : PySem.W.OpenRow := PySem.W.OpenLaw.row LW
def top (i : Nat) : Stmt := PySem.Challenge.pw_lastchair_k08_clashing_kinds.main.body.getD i (.Pass ⟨0, 0, 0, 0⟩)
abbrev s_RuleBook_kinds : Stmt := inClass (top 22) 1
def d_RuleBook_kinds : DefA := ⟨gadr ("RuleBook" : Str) ("kinds" : Str), ("kinds" : Str), ("RuleBook.kinds" : Str), defArgs s_RuleBook_kinds, defBody s_RuleBook_kinds, defScope s_RuleBook_kinds, [], [], false⟩
abbrev s_RuleBook_permissions : Stmt := inClass (top 22) 2
def d_RuleBook_permissions : DefA := ⟨gadr ("RuleBook" : Str) ("permissions" : Str), ("permissions" : Str), ("RuleBook.permissions" : Str), defArgs s_RuleBook_permissions, defBody s_RuleBook_permissions, defScope s_RuleBook_permissions, [], [], false⟩
abbrev s__law_row : Stmt := top 25
def d__law_row : DefA := ⟨fadr ("_law_row" : Str), ("_law_row" : Str), ("_law_row" : Str), defArgs s__law_row, defBody s__law_row, defScope s__law_row, [], [], false⟩
abbrev s__law_letters : Stmt := top 26
def d__law_letters : DefA := ⟨fadr ("_law_letters" : Str), ("_law_letters" : Str), ("_law_letters" : Str), defArgs s__law_letters, defBody s__law_letters, defScope s__law_letters, [], [], false⟩
abbrev s__law_kinds : Stmt := top 27
def d__law_kinds : DefA := ⟨fadr ("_law_kinds" : Str), ("_law_kinds" : Str), ("_law_kinds" : Str), defArgs s__law_kinds, defBody s__law_kinds, defScope s__law_kinds, [], [], false⟩
abbrev s__law_cell : Stmt := top 24
def d__law_cell : DefA := ⟨fadr ("_law_cell" : Str), ("_law_cell" : Str), ("_law_cell" : Str), defArgs s__law_cell, defBody s__law_cell, defScope s__law_cell, [], [], false⟩
abbrev s_is_letter : Stmt := top 18
def d_is_letter : DefA := ⟨fadr ("is_letter" : Str), ("is_letter" : Str), ("is_letter" : Str), defArgs s_is_letter, defBody s_is_letter, defScope s_is_letter, [], [], false⟩
abbrev s_is_view : Stmt := top 19
def d_is_view : DefA := ⟨fadr ("is_view" : Str), ("is_view" : Str), ("is_view" : Str), defArgs s_is_view, defBody s_is_view, defScope s_is_view, [], [], false⟩
abbrev s_right_groups : Stmt := top 21
def d_right_groups : DefA := ⟨fadr ("right_groups" : Str), ("right_groups" : Str), ("right_groups" : Str), defArgs s_right_groups, defBody s_right_groups, defScope s_right_groups, [], [], false⟩
abbrev s_RuleBook___init__ : Stmt := inClass (top 22) 0
def d_RuleBook___init__ : DefA := ⟨madr ("RuleBook" : Str) "__init__", ("__init__" : Str), ("RuleBook.__init__" : Str), defArgs s_RuleBook___init__, defBody s_RuleBook___init__, defScope s_RuleBook___init__, [], [], false⟩
abbrev s_check_kinds : Stmt := top 20
def d_check_kinds : DefA := ⟨fadr ("check_kinds" : Str), ("check_kinds" : Str), ("check_kinds" : Str), defArgs s_check_kinds, defBody s_check_kinds, defScope s_check_kinds, [], [], false⟩
abbrev s_RuleBook___or__ : Stmt := inClass (top 22) 10
def d_RuleBook___or__ : DefA := ⟨madr ("RuleBook" : Str) ("__or__" : Str), ("__or__" : Str), ("RuleBook.__or__" : Str), defArgs s_RuleBook___or__, defBody s_RuleBook___or__, defScope s_RuleBook___or__, [], [], false⟩
abbrev s_RuleBook___and__ : Stmt := inClass (top 22) 11
def d_RuleBook___and__ : DefA := ⟨madr ("RuleBook" : Str) ("__and__" : Str), ("__and__" : Str), ("RuleBook.__and__" : Str), defArgs s_RuleBook___and__, defBody s_RuleBook___and__, defScope s_RuleBook___and__, [], [], false⟩
abbrev s_RuleBook___sub__ : Stmt := inClass (top 22) 12
def d_RuleBook___sub__ : DefA := ⟨madr ("RuleBook" : Str) ("__sub__" : Str), ("__sub__" : Str), ("RuleBook.__sub__" : Str), defArgs s_RuleBook___sub__, defBody s_RuleBook___sub__, defScope s_RuleBook___sub__, [], [], false⟩
abbrev s__law_family : Stmt := top 29
def d__law_family : DefA := ⟨fadr ("_law_family" : Str), ("_law_family" : Str), ("_law_family" : Str), defArgs s__law_family, defBody s__law_family, defScope s__law_family, [], [], false⟩
abbrev s__law_clash : Stmt := top 30
def d__law_clash : DefA := ⟨fadr ("_law_clash" : Str), ("_law_clash" : Str), ("_law_clash" : Str), defArgs s__law_clash, defBody s__law_clash, defScope s__law_clash, [], [], false⟩
abbrev s_RuleBook___eq__ : Stmt := inClass (top 22) 14
def d_RuleBook___eq__ : DefA := ⟨madr ("RuleBook" : Str) ("__eq__" : Str), ("__eq__" : Str), ("RuleBook.__eq__" : Str), defArgs s_RuleBook___eq__, defBody s_RuleBook___eq__, defScope s_RuleBook___eq__, [], [], false⟩
abbrev s_RuleBook___le__ : Stmt := inClass (top 22) 13
def d_RuleBook___le__ : DefA := ⟨madr ("RuleBook" : Str) ("__le__" : Str), ("__le__" : Str), ("RuleBook.__le__" : Str), defArgs s_RuleBook___le__, defBody s_RuleBook___le__, defScope s_RuleBook___le__, [], [], false⟩
abbrev s__law_ordered : Stmt := top 28
def d__law_ordered : DefA := ⟨fadr ("_law_ordered" : Str), ("_law_ordered" : Str), ("_law_ordered" : Str), defArgs s__law_ordered, defBody s__law_ordered, defScope s__law_ordered, [], [], false⟩
abbrev s_law : Stmt := top 31
def d_law : DefA := ⟨fadr ("law" : Str), ("law" : Str), ("law" : Str), defArgs s_law, defBody s_law, defScope s_law, [], [], false⟩
abbrev sx_InvalidRule : Stmt := inClass (top 3) 0
def dx_InvalidRule : DefA := ⟨madr ("InvalidRule" : Str) "__init__", "__init__", ("InvalidRule.__init__" : Str), defArgs sx_InvalidRule, defBody sx_InvalidRule, defScope sx_InvalidRule, [], [], true⟩
abbrev sx_KindClash : Stmt := inClass (top 5) 0
def dx_KindClash : DefA := ⟨madr ("KindClash" : Str) "__init__", "__init__", ("KindClash.__init__" : Str), defArgs sx_KindClash, defBody sx_KindClash, defScope sx_KindClash, [], [], true⟩
def mainF : Str := R.prog.main.file
def fn : List DefA := [d_RuleBook_kinds, d_RuleBook_permissions, d__law_row, d__law_letters, d__law_kinds, d__law_cell, d_is_letter, d_is_view, d_right_groups, d_RuleBook___init__, d_check_kinds, d_RuleBook___or__, d_RuleBook___and__, d_RuleBook___sub__, d__law_family, d__law_clash, d_RuleBook___eq__, d_RuleBook___le__, d__law_ordered, d_law, dx_InvalidRule, dx_KindClash]
def fa : List He.Fa := [.glo ("_law_row" : Str), .glo ("_law_letters" : Str), .glo ("_law_kinds" : Str), .glo ("_law_cell" : Str), .glo ("is_letter" : Str), .glo ("is_view" : Str), .glo ("right_groups" : Str), .glo ("RuleBook" : Str), .mkr ("RuleBook" : Str), .glo ("check_kinds" : Str), .meth ("RuleBook" : Str) ("__or__" : Str), .meth ("RuleBook" : Str) ("__and__" : Str), .meth ("RuleBook" : Str) ("__sub__" : Str), .glo ("_law_family" : Str), .glo ("_law_clash" : Str), .meth ("RuleBook" : Str) ("__eq__" : Str), .meth ("RuleBook" : Str) ("__le__" : Str), .glo ("_law_ordered" : Str), .glo ("law" : Str), .free ("int" : Str), .free ("isinstance" : Str), .free ("len" : Str), .free ("list" : Str), .free ("max" : Str), .free ("range" : Str), .free ("sorted" : Str), .free ("str" : Str), .free ("tuple" : Str), .int ("GREATEST_SIZE" : Str) 9, .int ("GREATEST_WORTH" : Str) 999, .str ("LETTERS" : Str) ("ABCDEFGHIJKLMNOPQRSTUVWXYZ" : Str), .str ("VIEWS" : Str) ("#.ABCDEFGHIJKLMNOPQRSTUVWXYZ" : Str), .free ("super" : Str), .glo ("InvalidRule" : Str), .glo ("KindClash" : Str)]
def cs : List String := ["RuleBook", "InvalidBench", "InvalidRule", "InvalidText", "KindClash", "UnknownKind"]
def xiL : List (Str × List String) := [(("CannotSit" : Str), xs_CannotSit), (("InvalidBench" : Str), xs_InvalidBench), (("InvalidRule" : Str), xs_InvalidRule), (("InvalidText" : Str), xs_InvalidText), (("KindClash" : Str), xs_KindClash), (("NotAllowed" : Str), xs_NotAllowed), (("OutsideSeats" : Str), xs_OutsideSeats), (("SeatTaken" : Str), xs_SeatTaken), (("SeatingError" : Str), xs_SeatingError), (("UnknownKind" : Str), xs_UnknownKind), (("ValueError" : Str), xs_ValueError)]
def xhL : List (Str × List String) := [(("KindClash" : Str), xs_KindClash)]
def exL : List (Str × (String × Nat × List String)) := [(("InvalidRule" : Str), ("InvalidRule", 1, ["entry"])), (("KindClash" : Str), ("KindClash", 1, ["letter"]))]
noncomputable def hfL : List (Str × FunE) := [(("_law_family" : Str), ⟨2, [], p_h__law_family⟩)]
def ex (K : PySem.W.Frag) : Bool := flsB cs prpL K && [propB ("RuleBook" : Str) ("kinds" : Str) K, propB ("RuleBook" : Str) ("permissions" : Str) K, PySem.W.selfFirst K (He.ga K ("RuleBook" : Str)), isoB K (He.ga K ("RuleBook" : Str)), xfactsB xAll xFl K, xiB xAll xiL K, xhB xAll xhL K, raiseB mainF ("InvalidRule" : Str) ("entry" : Str) K, raiseB mainF ("KindClash" : Str) ("letter" : Str) K].all id
abbrev hk : PySem.W.Hook := hookA 6 fa fn ex
def ob (s : PySem.W.SharedT) : AlA := obsAG 6 fa fn ex (HandSHeadRun.getT s)
def nm0 : List Str := ["_wall", "__name__", "SeatingError", "InvalidRule", "InvalidText", "KindClash", "UnknownKind", "InvalidBench", "CannotSit", "OutsideSeats", "SeatTaken", "NotAllowed", "FREE", "LETTERS", "VIEWS", "GREATEST_SIZE", "GREATEST_WORTH", "is_letter", "is_view", "check_kinds", "right_groups", "RuleBook", "_law_cell", "_law_row", "_law_letters", "_law_kinds", "_law_ordered", "_law_family", "_law_clash"]
def names : List Str := nm0
abbrev qv : Program := PySem.W.view R.prog [31]
theorem run (w : World) : HandSHeadRun.RunEq R qv hk ob 6000 names w := by
  intro os
  kernel_rfl
def con : List (Str × D) := [(("GREATEST_SIZE" : Str), .int 9), (("GREATEST_WORTH" : Str), .int 999), (("LETTERS" : Str), .str [65, 66, 67, 68, 69, 70, 71, 72, 73, 74, 75, 76, 77, 78, 79, 80, 81, 82, 83, 84, 85, 86, 87, 88, 89, 90]), (("VIEWS" : Str), .str [35, 46, 65, 66, 67, 68, 69, 70, 71, 72, 73, 74, 75, 76, 77, 78, 79, 80, 81, 82, 83, 84, 85, 86, 87, 88, 89, 90])]
def blt : List Str := [("int" : Str), ("isinstance" : Str), ("len" : Str), ("list" : Str), ("max" : Str), ("range" : Str), ("sorted" : Str), ("str" : Str), ("tuple" : Str)]
def tI : Tb := (tb0 con blt).is ("RuleBook" : Str) "RuleBook"
def xd0 : XD := { all := xAll, fl := xFl, xi := xiL, xh := xhL }
noncomputable def xd1 : XD := { all := xAll, fl := xFl, xi := xiL, xh := xhL, exs := exL, hfn := hfL }
def tH : Tb := tI.ex xd0
noncomputable def t0 : Tb := tI.ex xd1
abbrev N_RuleBook_kinds : List Str := ["self"]
theorem sc_RuleBook_kinds : FnScope N_RuleBook_kinds ["self"] (defScope s_RuleBook_kinds) := ⟨rfl, rfl, rfl, by decide +kernel, rfl, by decide +kernel, by decide +kernel⟩
theorem e_RuleBook_kinds : trSs FUEL (scOf (defScope s_RuleBook_kinds) N_RuleBook_kinds (tbF con blt) "RuleBook" (List.range 1) [] ["book", "_law_book"] ["_law_parts", "_law_books", "_law_tables", "_law_pair_here"]) (defBody s_RuleBook_kinds) = f_RuleBook_kinds := by kernel_rfl
abbrev N_RuleBook_permissions : List Str := ["self"]
theorem sc_RuleBook_permissions : FnScope N_RuleBook_permissions ["self"] (defScope s_RuleBook_permissions) := ⟨rfl, rfl, rfl, by decide +kernel, rfl, by decide +kernel, by decide +kernel⟩
theorem e_RuleBook_permissions : trSs FUEL (scOf (defScope s_RuleBook_permissions) N_RuleBook_permissions (tbF con blt) "RuleBook" (List.range 1) [] ["book", "_law_book"] ["_law_parts", "_law_books", "_law_tables", "_law_pair_here"]) (defBody s_RuleBook_permissions) = f_RuleBook_permissions := by kernel_rfl
abbrev N__law_family : List Str := ["_law_e", "_law_own", "_law_marks", "_law_k"]
theorem sc__law_family : FnScope N__law_family ["_law_e", "_law_own"] (defScope s__law_family) := ⟨rfl, rfl, rfl, by decide +kernel, rfl, by decide +kernel, by decide +kernel⟩
theorem eh__law_family : hSs FUEL ⟨⟨defScope s__law_family, N__law_family, tH, "", []⟩, [("_law_e" : Str)], true⟩ (List.range 4) (defBody s__law_family) = h_f__law_family := by kernel_rfl
abbrev N__law_row : List Str := ["_law_cell_here", "_law_many", "_law_limit", "_law_row_here", "_law_rest", "_law_k", "_law_mixed"]
theorem sc__law_row : FnScope N__law_row ["_law_cell_here", "_law_many", "_law_limit"] (defScope s__law_row) := ⟨rfl, rfl, rfl, by decide +kernel, rfl, by decide +kernel, by decide +kernel⟩
theorem e__law_row : trSs FUEL (scOf (defScope s__law_row) N__law_row t0 "" (List.range 7) [] ["book", "_law_book"] ["_law_parts", "_law_books", "_law_tables", "_law_pair_here"]) (defBody s__law_row) = f__law_row := by kernel_rfl
noncomputable def t1 : Tb := t0.fn ("_law_row" : Str) 3 [] p__law_row
abbrev N__law_letters : List Str := ["_law_row_here", "_law_spare", "_law_letters_here", "_law_number", "_law_at"]
theorem sc__law_letters : FnScope N__law_letters ["_law_row_here"] (defScope s__law_letters) := ⟨rfl, rfl, rfl, by decide +kernel, rfl, by decide +kernel, by decide +kernel⟩
theorem e__law_letters : trSs FUEL (scOf (defScope s__law_letters) N__law_letters t1 "" (List.range 5) [] ["book", "_law_book"] ["_law_parts", "_law_books", "_law_tables", "_law_pair_here"]) (defBody s__law_letters) = f__law_letters := by kernel_rfl
noncomputable def t2 : Tb := t1.fn ("_law_letters" : Str) 1 [] p__law_letters
abbrev N__law_kinds : List Str := ["_law_cell_here", "_law_most", "_law_largest", "_law_row_here", "_law_letters_here", "_law_many", "_law_kinds_here", "_law_k", "_law_worth"]
theorem sc__law_kinds : FnScope N__law_kinds ["_law_cell_here", "_law_most", "_law_largest"] (defScope s__law_kinds) := ⟨rfl, rfl, rfl, by decide +kernel, rfl, by decide +kernel, by decide +kernel⟩
theorem e__law_kinds : trSs FUEL (scOf (defScope s__law_kinds) N__law_kinds t2 "" (List.range 9) [] ["book", "_law_book"] ["_law_parts", "_law_books", "_law_tables", "_law_pair_here"]) (defBody s__law_kinds) = f__law_kinds := by kernel_rfl
noncomputable def t3 : Tb := t2.fn ("_law_kinds" : Str) 3 [] p__law_kinds
abbrev N__law_cell : List Str := ["_law_script", "_law_k"]
theorem sc__law_cell : FnScope N__law_cell ["_law_script", "_law_k"] (defScope s__law_cell) := ⟨rfl, rfl, rfl, by decide +kernel, rfl, by decide +kernel, by decide +kernel⟩
theorem e__law_cell : trSs FUEL (scOf (defScope s__law_cell) N__law_cell t3 "" (List.range 2) [] ["book", "_law_book"] ["_law_parts", "_law_books", "_law_tables", "_law_pair_here"]) (defBody s__law_cell) = f__law_cell := by kernel_rfl
noncomputable def t4 : Tb := t3.fn ("_law_cell" : Str) 2 [] p__law_cell
abbrev N_is_letter : List Str := ["sign"]
theorem sc_is_letter : FnScope N_is_letter ["sign"] (defScope s_is_letter) := ⟨rfl, rfl, rfl, by decide +kernel, rfl, by decide +kernel, by decide +kernel⟩
theorem e_is_letter : trSs FUEL (scOf (defScope s_is_letter) N_is_letter t4 "" (List.range 1) [] ["book", "_law_book"] ["_law_parts", "_law_books", "_law_tables", "_law_pair_here"]) (defBody s_is_letter) = f_is_letter := by kernel_rfl
noncomputable def t5 : Tb := t4.fn ("is_letter" : Str) 1 [] p_is_letter
abbrev N_is_view : List Str := ["sign"]
theorem sc_is_view : FnScope N_is_view ["sign"] (defScope s_is_view) := ⟨rfl, rfl, rfl, by decide +kernel, rfl, by decide +kernel, by decide +kernel⟩
theorem e_is_view : trSs FUEL (scOf (defScope s_is_view) N_is_view t5 "" (List.range 1) [] ["book", "_law_book"] ["_law_parts", "_law_books", "_law_tables", "_law_pair_here"]) (defBody s_is_view) = f_is_view := by kernel_rfl
noncomputable def t6 : Tb := t5.fn ("is_view" : Str) 1 [] p_is_view
abbrev N_right_groups : List Str := ["allowed", "groups", "entry", ".0", "text"]
theorem sc_right_groups : FnScope N_right_groups ["allowed"] (defScope s_right_groups) := ⟨rfl, rfl, rfl, by decide +kernel, rfl, by decide +kernel, by decide +kernel⟩
theorem e_right_groups : trSs FUEL (scOf (defScope s_right_groups) N_right_groups t6 "" (List.range 5) [] ["book", "_law_book"] ["_law_parts", "_law_books", "_law_tables", "_law_pair_here"]) (defBody s_right_groups) = f_right_groups := by kernel_rfl
noncomputable def t7 : Tb := t6.fn ("right_groups" : Str) 1 [] p_right_groups
abbrev N_RuleBook___init__ : List Str := ["self", "kinds", "permissions", "sizes", "worths", "allowed", "entry", "letter", "size", "worth", ".0"]
theorem sc_RuleBook___init__ : FnScope N_RuleBook___init__ ["self", "kinds", "permissions"] (defScope s_RuleBook___init__) := ⟨rfl, rfl, rfl, by decide +kernel, rfl, by decide +kernel, by decide +kernel⟩
theorem e_RuleBook___init__ : trSs FUEL (scOf (defScope s_RuleBook___init__) N_RuleBook___init__ t7 "RuleBook" ((List.range 11).filter (· ≠ 0)) [] ["book", "_law_book"] ["_law_parts", "_law_books", "_law_tables", "_law_pair_here"]) (defBody s_RuleBook___init__) = f_RuleBook___init__ := by kernel_rfl
noncomputable def t8 : Tb := t7.fn ("RuleBook" : Str) 2 [] p_mk_RuleBook
abbrev N_check_kinds : List Str := ["first", "second", "kind", "other"]
theorem sc_check_kinds : FnScope N_check_kinds ["first", "second"] (defScope s_check_kinds) := ⟨rfl, rfl, rfl, by decide +kernel, rfl, by decide +kernel, by decide +kernel⟩
theorem e_check_kinds : trSs FUEL (scOf (defScope s_check_kinds) N_check_kinds t8 "" (List.range 4) [] ["book", "_law_book"] ["_law_parts", "_law_books", "_law_tables", "_law_pair_here"]) (defBody s_check_kinds) = f_check_kinds := by kernel_rfl
noncomputable def t9 : Tb := t8.fn ("check_kinds" : Str) 2 [] p_check_kinds
abbrev N_RuleBook___or__ : List Str := ["self", "other", "kinds", ".0", "kind"]
theorem sc_RuleBook___or__ : FnScope N_RuleBook___or__ ["self", "other"] (defScope s_RuleBook___or__) := ⟨rfl, rfl, rfl, by decide +kernel, rfl, by decide +kernel, by decide +kernel⟩
theorem e_RuleBook___or__ : trSs FUEL (scOf (defScope s_RuleBook___or__) N_RuleBook___or__ t9 "RuleBook" (List.range 5) [] ["book", "_law_book"] ["_law_parts", "_law_books", "_law_tables", "_law_pair_here"]) (defBody s_RuleBook___or__) = f_RuleBook___or__ := by kernel_rfl
noncomputable def t10 : Tb := t9.ow "RuleBook" "__or__" p_RuleBook___or__
abbrev N_RuleBook___and__ : List Str := ["self", "other", "kinds", ".0", "kind", "entry"]
theorem sc_RuleBook___and__ : FnScope N_RuleBook___and__ ["self", "other"] (defScope s_RuleBook___and__) := ⟨rfl, rfl, rfl, by decide +kernel, rfl, by decide +kernel, by decide +kernel⟩
theorem e_RuleBook___and__ : trSs FUEL (scOf (defScope s_RuleBook___and__) N_RuleBook___and__ t10 "RuleBook" (List.range 6) [] ["book", "_law_book"] ["_law_parts", "_law_books", "_law_tables", "_law_pair_here"]) (defBody s_RuleBook___and__) = f_RuleBook___and__ := by kernel_rfl
noncomputable def t11 : Tb := t10.ow "RuleBook" "__and__" p_RuleBook___and__
abbrev N_RuleBook___sub__ : List Str := ["self", "other", ".0", "entry"]
theorem sc_RuleBook___sub__ : FnScope N_RuleBook___sub__ ["self", "other"] (defScope s_RuleBook___sub__) := ⟨rfl, rfl, rfl, by decide +kernel, rfl, by decide +kernel, by decide +kernel⟩
theorem e_RuleBook___sub__ : trSs FUEL (scOf (defScope s_RuleBook___sub__) N_RuleBook___sub__ t11 "RuleBook" (List.range 4) [] ["book", "_law_book"] ["_law_parts", "_law_books", "_law_tables", "_law_pair_here"]) (defBody s_RuleBook___sub__) = f_RuleBook___sub__ := by kernel_rfl
noncomputable def t12 : Tb := t11.ow "RuleBook" "__sub__" p_RuleBook___sub__
abbrev N__law_clash : List Str := ["_law_first", "_law_second", "_law_sign", "_law_letter", "_law_told", "_law_e"]
theorem sc__law_clash : FnScope N__law_clash ["_law_first", "_law_second", "_law_sign", "_law_letter"] (defScope s__law_clash) := ⟨rfl, rfl, rfl, by decide +kernel, rfl, by decide +kernel, by decide +kernel⟩
theorem e__law_clash : trSs FUEL (scOf (defScope s__law_clash) N__law_clash t12 "" (List.range 6) [] ["_law_first", "_law_second"] ["_law_parts", "_law_books", "_law_tables", "_law_pair_here"]) (defBody s__law_clash) = f__law_clash := by kernel_rfl
noncomputable def t13 : Tb := t12.fn ("_law_clash" : Str) 4 [] p__law_clash
abbrev N_RuleBook___eq__ : List Str := ["self", "other"]
theorem sc_RuleBook___eq__ : FnScope N_RuleBook___eq__ ["self", "other"] (defScope s_RuleBook___eq__) := ⟨rfl, rfl, rfl, by decide +kernel, rfl, by decide +kernel, by decide +kernel⟩
theorem e_RuleBook___eq__ : trSs FUEL (scOf (defScope s_RuleBook___eq__) N_RuleBook___eq__ t13 "RuleBook" (List.range 2) [] ["book", "_law_book"] ["_law_parts", "_law_books", "_law_tables", "_law_pair_here"]) (defBody s_RuleBook___eq__) = f_RuleBook___eq__ := by kernel_rfl
noncomputable def t14 : Tb := t13.ow "RuleBook" "__eq__" p_RuleBook___eq__
abbrev N_RuleBook___le__ : List Str := ["self", "other", "missing", ".0", "kind", "entry"]
theorem sc_RuleBook___le__ : FnScope N_RuleBook___le__ ["self", "other"] (defScope s_RuleBook___le__) := ⟨rfl, rfl, rfl, by decide +kernel, rfl, by decide +kernel, by decide +kernel⟩
theorem e_RuleBook___le__ : trSs FUEL (scOf (defScope s_RuleBook___le__) N_RuleBook___le__ t14 "RuleBook" (List.range 6) [] ["book", "_law_book"] ["_law_parts", "_law_books", "_law_tables", "_law_pair_here"]) (defBody s_RuleBook___le__) = f_RuleBook___le__ := by kernel_rfl
noncomputable def t15 : Tb := t14.ow "RuleBook" "__le__" p_RuleBook___le__
abbrev N__law_ordered : List Str := ["_law_kinds_here", "_law_ordered_here", "_law_letter", "_law_kind"]
theorem sc__law_ordered : FnScope N__law_ordered ["_law_kinds_here"] (defScope s__law_ordered) := ⟨rfl, rfl, rfl, by decide +kernel, rfl, by decide +kernel, by decide +kernel⟩
theorem e__law_ordered : trSs FUEL (scOf (defScope s__law_ordered) N__law_ordered t15 "" (List.range 4) [] ["book", "_law_book"] ["_law_parts", "_law_books", "_law_tables", "_law_pair_here"]) (defBody s__law_ordered) = f__law_ordered := by kernel_rfl
noncomputable def t16 : Tb := t15.fn ("_law_ordered" : Str) 1 [] p__law_ordered
abbrev N_law : List Str := ["_law_script", "_law_pool", "_law_bits", "_law_k", "_law_mine", "_law_others", "_law_clashes", "_law_letter", "_law_size", "_law_worth", "_law_permissions", "_law_first", "_law_second", "_law_sign", ".0", "_law_kind"]
theorem sc_law : FnScope N_law ["_law_script"] (defScope s_law) := ⟨rfl, rfl, rfl, by decide +kernel, rfl, by decide +kernel, by decide +kernel⟩
theorem e_law : trSs FUEL (scOf (defScope s_law) N_law t16 "" (List.range 16) [] ["book", "_law_book", "_law_first", "_law_second"] ["_law_parts", "_law_books", "_law_tables", "_law_pair_here"]) (defBody s_law) = f_law := by kernel_rfl
theorem no_cls (n : String) : prp0.get "" n = none := by kernel_rfl
section
variable {P : Program} {w : World} {K : PySem.W.Frag} {h base : Heap} {mg : Str → Option Value}
theorem facts (X : K.In h) (G : h.Ns mainGlobals mg) (c : SaysA fa fn ex K) (hP1 : P.main.file = mainF) (hP2 : (P.main.scope.names.lookup ("super" : Str)).isSome = false) : ∃ fd, d_law.FD K fd ∧ ∀ base : Heap, K.In base → base.Ns mainGlobals mg → FnOk P w K mg base (L2N.CX P w) 200 (d_law.adr K) fd ["_law_script"] (spF (cmOf cs K) 1 p_law) := by
  obtain ⟨x1, x2⟩ := He.ba c.more
  have xp := List.all_eq_true.mp x2
  have cl_RuleBook : Cls K (He.ga K ("RuleBook" : Str)) := flsB_cls (c := "RuleBook") x1 (List.mem_of_getElem? (i := 0) rfl) (by decide +kernel)
  have cm_RuleBook : cmOf cs K "RuleBook" = some (He.ga K ("RuleBook" : Str)) := cm_in (by decide +kernel)
  obtain ⟨fd_RuleBook_kinds, F_RuleBook_kinds⟩ := c.def_ 0 (d := d_RuleBook_kinds) rfl
  obtain ⟨fd_RuleBook_permissions, F_RuleBook_permissions⟩ := c.def_ 1 (d := d_RuleBook_permissions) rfl
  obtain ⟨fd__law_row, F__law_row⟩ := c.def_ 2 (d := d__law_row) rfl
  obtain ⟨fd__law_letters, F__law_letters⟩ := c.def_ 3 (d := d__law_letters) rfl
  obtain ⟨fd__law_kinds, F__law_kinds⟩ := c.def_ 4 (d := d__law_kinds) rfl
  obtain ⟨fd__law_cell, F__law_cell⟩ := c.def_ 5 (d := d__law_cell) rfl
  obtain ⟨fd_is_letter, F_is_letter⟩ := c.def_ 6 (d := d_is_letter) rfl
  obtain ⟨fd_is_view, F_is_view⟩ := c.def_ 7 (d := d_is_view) rfl
  obtain ⟨fd_right_groups, F_right_groups⟩ := c.def_ 8 (d := d_right_groups) rfl
  obtain ⟨fd_RuleBook___init__, F_RuleBook___init__⟩ := c.def_ 9 (d := d_RuleBook___init__) rfl
  obtain ⟨fd_check_kinds, F_check_kinds⟩ := c.def_ 10 (d := d_check_kinds) rfl
  obtain ⟨fd_RuleBook___or__, F_RuleBook___or__⟩ := c.def_ 11 (d := d_RuleBook___or__) rfl
  obtain ⟨fd_RuleBook___and__, F_RuleBook___and__⟩ := c.def_ 12 (d := d_RuleBook___and__) rfl
  obtain ⟨fd_RuleBook___sub__, F_RuleBook___sub__⟩ := c.def_ 13 (d := d_RuleBook___sub__) rfl
  obtain ⟨fd__law_family, F__law_family⟩ := c.def_ 14 (d := d__law_family) rfl
  obtain ⟨fd__law_clash, F__law_clash⟩ := c.def_ 15 (d := d__law_clash) rfl
  obtain ⟨fd_RuleBook___eq__, F_RuleBook___eq__⟩ := c.def_ 16 (d := d_RuleBook___eq__) rfl
  obtain ⟨fd_RuleBook___le__, F_RuleBook___le__⟩ := c.def_ 17 (d := d_RuleBook___le__) rfl
  obtain ⟨fd__law_ordered, F__law_ordered⟩ := c.def_ 18 (d := d__law_ordered) rfl
  obtain ⟨fd_law, F_law⟩ := c.def_ 19 (d := d_law) rfl
  refine ⟨fd_law, F_law, fun base KB GB => ?_⟩
  have g0 : GOk ({ con := [], blt := blt } : Tb) P w K mg base 0 (cmOf cs K) := go_nil (by
    intro x hx
    unfold blt at hx
    simp only [List.mem_cons, List.not_mem_nil, or_false] at hx
    rcases hx with rfl | rfl | rfl | rfl | rfl | rfl | rfl | rfl | rfl
    · exact He.free_ok X G (c.fact 19 rfl)
    · exact He.free_ok X G (c.fact 20 rfl)
    · exact He.free_ok X G (c.fact 21 rfl)
    · exact He.free_ok X G (c.fact 22 rfl)
    · exact He.free_ok X G (c.fact 23 rfl)
    · exact He.free_ok X G (c.fact 24 rfl)
    · exact He.free_ok X G (c.fact 25 rfl)
    · exact He.free_ok X G (c.fact 26 rfl)
    · exact He.free_ok X G (c.fact 27 rfl)
    )
  obtain ⟨tk0, mk0⟩ := He.str_ok X G (c.fact 31 (f := .str ("VIEWS" : Str) ("#.ABCDEFGHIJKLMNOPQRSTUVWXYZ" : Str)) rfl)
  have gc0 := go_tcn (x := ("VIEWS" : Str)) (d := .str [35, 46, 65, 66, 67, 68, 69, 70, 71, 72, 73, 74, 75, 76, 77, 78, 79, 80, 81, 82, 83, 84, 85, 86, 87, 88, 89, 90]) g0 mk0 (v := .str ("#.ABCDEFGHIJKLMNOPQRSTUVWXYZ" : Str)) ⟨_, rfl⟩ (fun F => rep_con (by decide +kernel) (by decide +kernel))
  obtain ⟨tk1, mk1⟩ := He.str_ok X G (c.fact 30 (f := .str ("LETTERS" : Str) ("ABCDEFGHIJKLMNOPQRSTUVWXYZ" : Str)) rfl)
  have gc1 := go_tcn (x := ("LETTERS" : Str)) (d := .str [65, 66, 67, 68, 69, 70, 71, 72, 73, 74, 75, 76, 77, 78, 79, 80, 81, 82, 83, 84, 85, 86, 87, 88, 89, 90]) gc0 mk1 (v := .str ("ABCDEFGHIJKLMNOPQRSTUVWXYZ" : Str)) ⟨_, rfl⟩ (fun F => rep_con (by decide +kernel) (by decide +kernel))
  obtain ⟨tk2, mk2⟩ := He.int_ok X G (c.fact 29 (f := .int ("GREATEST_WORTH" : Str) 999) rfl)
  have gc2 := go_tcn (x := ("GREATEST_WORTH" : Str)) (d := .int 999) gc1 mk2 (v := .int 999) ⟨_, rfl⟩ (fun F => rep_int)
  obtain ⟨tk3, mk3⟩ := He.int_ok X G (c.fact 28 (f := .int ("GREATEST_SIZE" : Str) 9) rfl)
  have gc3 := go_tcn (x := ("GREATEST_SIZE" : Str)) (d := .int 9) gc2 mk3 (v := .int 9) ⟨_, rfl⟩ (fun F => rep_int)
  have gF : GOk (tbF con blt) P w K mg base 0 (cmOf cs K) := go_fls gc3 prpL (flsB_ok x1)
  have cmAll : ∀ (tb : Tb) (cls : String), cs.contains cls = true ∨ (∀ n, tb.prp.get cls n = none) → ∀ n o, tb.prp.get cls n = some o → ∃ C, cmOf cs K cls = some C := fun tb cls hc n o ho => by
    rcases hc with hc | hc
    · exact ⟨_, cm_in hc⟩
    · rw [hc n] at ho; cases ho
  have o_RuleBook_kinds : FnOk P w K mg base (L2N.CX P w) 2 _ fd_RuleBook_kinds ["self"] (spF (cmOf cs K) 1 p_RuleBook_kinds) := go_fn gF (cmAll _ _ (.inl (by decide +kernel))) F_RuleBook_kinds sc_RuleBook_kinds e_RuleBook_kinds
  have b_RuleBook_kinds : Binds K fd_RuleBook_kinds ["self"] [] := FunD.bindsN F_RuleBook_kinds fun _ _ _ _ _ _ us hl => match us, hl with | [_], _ => rfl
  have o_RuleBook_permissions : FnOk P w K mg base (L2N.CX P w) 2 _ fd_RuleBook_permissions ["self"] (spF (cmOf cs K) 1 p_RuleBook_permissions) := go_fn gF (cmAll _ _ (.inl (by decide +kernel))) F_RuleBook_permissions sc_RuleBook_permissions e_RuleBook_permissions
  have b_RuleBook_permissions : Binds K fd_RuleBook_permissions ["self"] [] := FunD.bindsN F_RuleBook_permissions fun _ _ _ _ _ _ us hl => match us, hl with | [_], _ => rfl
  have gP_RuleBook := (go_tpr (cn := "RuleBook") (n := "kinds") (go_tpr (cn := "RuleBook") (n := "permissions") gF cm_RuleBook cl_RuleBook (prop_ok (xp _ (List.mem_of_getElem? (i := 1) rfl))) o_RuleBook_permissions b_RuleBook_permissions (by decide)) cm_RuleBook cl_RuleBook (prop_ok (xp _ (List.mem_of_getElem? (i := 0) rfl))) o_RuleBook_kinds b_RuleBook_kinds (by decide))
  have GI : GOk tI P w K mg base 2 (cmOf cs K) := (go_tis (x := ("RuleBook" : Str)) (cn := "RuleBook") ((gP_RuleBook).mono (by decide)) cm_RuleBook (He.glo_ok X G (c.fact 7 (f := .glo ("RuleBook" : Str)) rfl)) (isoB_ok cl_RuleBook (xp _ (List.mem_of_getElem? (i := 3) rfl))))
  have cmx_InvalidBench : cmOf cs K "InvalidBench" = some (He.ga K ("InvalidBench" : Str)) := cm_in (by decide +kernel)
  have cmx_InvalidRule : cmOf cs K "InvalidRule" = some (He.ga K ("InvalidRule" : Str)) := cm_in (by decide +kernel)
  have cmx_InvalidText : cmOf cs K "InvalidText" = some (He.ga K ("InvalidText" : Str)) := cm_in (by decide +kernel)
  have cmx_KindClash : cmOf cs K "KindClash" = some (He.ga K ("KindClash" : Str)) := cm_in (by decide +kernel)
  have cmx_UnknownKind : cmOf cs K "UnknownKind" = some (He.ga K ("UnknownKind" : Str)) := cm_in (by decide +kernel)
  have xf : XFacts K (cmOf cs K) xAll xFl := xfacts_ok (xp _ (List.mem_of_getElem? (i := 4) rfl))
  have nx : CMx (cmOf cs K) := cmx_of (by decide +kernel) (by decide +kernel) (by decide +kernel)
  have hxi := xi_ok (cs := cs) X G (xp _ (List.mem_of_getElem? (i := 5) rfl))
  have hxh := xh_ok (cs := cs) X G (xp _ (List.mem_of_getElem? (i := 6) rfl))
  have al := al_of (all := xAll) (by decide +kernel)
  have R_KindClash : RaiseOk P w K mg base 1 (He.ga K ("KindClash" : Str)) 1 ["letter"] := raise_b (self := ("self" : Str)) (fn := ("letter" : Str)) (file := mainF) (fS := "letter") (show fnC K (dx_KindClash.adr K) = dx_KindClash.val from (if_pos rfl).symm.trans (c.defO 21 (d := dx_KindClash) rfl)) (xp _ (List.mem_of_getElem? (i := 8) rfl)) (by kernel_rfl) (by kernel_rfl) (by kernel_rfl) (by rfl) rfl rfl (by decide +kernel) (by decide +kernel) (fun kV doc pm an cdv ct cc us hl => match us, hl with | [_, _], _ => rfl) hP1 hP2 (He.free_ok X G (c.fact 32 rfl))
  have R_InvalidRule : RaiseOk P w K mg base 1 (He.ga K ("InvalidRule" : Str)) 1 ["entry"] := raise_b (self := ("self" : Str)) (fn := ("entry" : Str)) (file := mainF) (fS := "entry") (show fnC K (dx_InvalidRule.adr K) = dx_InvalidRule.val from (if_pos rfl).symm.trans (c.defO 20 (d := dx_InvalidRule) rfl)) (xp _ (List.mem_of_getElem? (i := 7) rfl)) (by kernel_rfl) (by kernel_rfl) (by kernel_rfl) (by rfl) rfl rfl (by decide +kernel) (by decide +kernel) (fun kV doc pm an cdv ct cc us hl => match us, hl with | [_, _], _ => rfl) hP1 hP2 (He.free_ok X G (c.fact 32 rfl))
  have hex : ExsOk P w K mg base 4 (cmOf cs K) exL := (exs_cons cmx_InvalidRule (He.glo_ok X G (c.fact 33 (f := .glo ("InvalidRule" : Str)) rfl)) (R_InvalidRule.mono (by decide)) (exs_cons cmx_KindClash (He.glo_ok X G (c.fact 34 (f := .glo ("KindClash" : Str)) rfl)) (R_KindClash.mono (by decide)) exs_nil))
  have GH : GOk tH P w K mg base 2 (cmOf cs K) := go_ex GI ⟨fun _ => nx, al, xf, hxi, hxh, exs_nil, hfn_nil⟩
  have bh__law_family : Binds K fd__law_family ["_law_e", "_law_own"] [] := FunD.bindsN F__law_family fun _ _ _ _ _ _ us hl => match us, hl with | [_, _], _ => rfl
  have hhf : HfnOk P w K mg base 4 (cmOf cs K) hfL := (hfn_cons (He.glo_ok X G (c.fact 13 (f := .glo ("_law_family" : Str)) rfl)) F__law_family.kp bh__law_family rfl (fun a C dx oe XC hz hf => go_hot GH nx rfl F__law_family sc__law_family eh__law_family XC hz hf) hfn_nil)
  have G0 : GOk t0 P w K mg base 4 (cmOf cs K) := go_ex (GI.mono (by decide)) ⟨fun _ => nx, al, xf, hxi, hxh, hex, hhf⟩
  have o__law_row : FnOk P w K mg base (L2N.CX P w) 6 _ fd__law_row ["_law_cell_here", "_law_many", "_law_limit"] (spF (cmOf cs K) 3 p__law_row) := go_fn G0 (cmAll _ _ (.inr no_cls)) F__law_row sc__law_row e__law_row
  have r__law_row_1 : RunOk P w K mg base 6 (cmOf cs K) _ 3 [] p__law_row := run_all o__law_row (kbn_all F__law_row (ps := ["_law_cell_here", "_law_many", "_law_limit"]) (npos := 3) (ks := []) fun kV doc pm an cdv ct us ws h1 h2 => match us, ws, h1, h2 with | [_, _, _], [], _, _ => rfl) (by decide)
  have G1 : GOk t1 P w K mg base 6 (cmOf cs K) := go_tfn G0 (He.glo_ok X G (c.fact 0 (f := .glo ("_law_row" : Str)) rfl)) F__law_row.kp r__law_row_1 (by decide)
  have o__law_letters : FnOk P w K mg base (L2N.CX P w) 8 _ fd__law_letters ["_law_row_here"] (spF (cmOf cs K) 1 p__law_letters) := go_fn G1 (cmAll _ _ (.inr no_cls)) F__law_letters sc__law_letters e__law_letters
  have r__law_letters_2 : RunOk P w K mg base 8 (cmOf cs K) _ 1 [] p__law_letters := run_all o__law_letters (kbn_all F__law_letters (ps := ["_law_row_here"]) (npos := 1) (ks := []) fun kV doc pm an cdv ct us ws h1 h2 => match us, ws, h1, h2 with | [_], [], _, _ => rfl) (by decide)
  have G2 : GOk t2 P w K mg base 8 (cmOf cs K) := go_tfn G1 (He.glo_ok X G (c.fact 1 (f := .glo ("_law_letters" : Str)) rfl)) F__law_letters.kp r__law_letters_2 (by decide)
  have o__law_kinds : FnOk P w K mg base (L2N.CX P w) 10 _ fd__law_kinds ["_law_cell_here", "_law_most", "_law_largest"] (spF (cmOf cs K) 3 p__law_kinds) := go_fn G2 (cmAll _ _ (.inr no_cls)) F__law_kinds sc__law_kinds e__law_kinds
  have r__law_kinds_3 : RunOk P w K mg base 10 (cmOf cs K) _ 3 [] p__law_kinds := run_all o__law_kinds (kbn_all F__law_kinds (ps := ["_law_cell_here", "_law_most", "_law_largest"]) (npos := 3) (ks := []) fun kV doc pm an cdv ct us ws h1 h2 => match us, ws, h1, h2 with | [_, _, _], [], _, _ => rfl) (by decide)
  have G3 : GOk t3 P w K mg base 10 (cmOf cs K) := go_tfn G2 (He.glo_ok X G (c.fact 2 (f := .glo ("_law_kinds" : Str)) rfl)) F__law_kinds.kp r__law_kinds_3 (by decide)
  have o__law_cell : FnOk P w K mg base (L2N.CX P w) 12 _ fd__law_cell ["_law_script", "_law_k"] (spF (cmOf cs K) 2 p__law_cell) := go_fn G3 (cmAll _ _ (.inr no_cls)) F__law_cell sc__law_cell e__law_cell
  have r__law_cell_4 : RunOk P w K mg base 12 (cmOf cs K) _ 2 [] p__law_cell := run_all o__law_cell (kbn_all F__law_cell (ps := ["_law_script", "_law_k"]) (npos := 2) (ks := []) fun kV doc pm an cdv ct us ws h1 h2 => match us, ws, h1, h2 with | [_, _], [], _, _ => rfl) (by decide)
  have G4 : GOk t4 P w K mg base 12 (cmOf cs K) := go_tfn G3 (He.glo_ok X G (c.fact 3 (f := .glo ("_law_cell" : Str)) rfl)) F__law_cell.kp r__law_cell_4 (by decide)
  have o_is_letter : FnOk P w K mg base (L2N.CX P w) 14 _ fd_is_letter ["sign"] (spF (cmOf cs K) 1 p_is_letter) := go_fn G4 (cmAll _ _ (.inr no_cls)) F_is_letter sc_is_letter e_is_letter
  have r_is_letter_5 : RunOk P w K mg base 14 (cmOf cs K) _ 1 [] p_is_letter := run_all o_is_letter (kbn_all F_is_letter (ps := ["sign"]) (npos := 1) (ks := []) fun kV doc pm an cdv ct us ws h1 h2 => match us, ws, h1, h2 with | [_], [], _, _ => rfl) (by decide)
  have G5 : GOk t5 P w K mg base 14 (cmOf cs K) := go_tfn G4 (He.glo_ok X G (c.fact 4 (f := .glo ("is_letter" : Str)) rfl)) F_is_letter.kp r_is_letter_5 (by decide)
  have o_is_view : FnOk P w K mg base (L2N.CX P w) 16 _ fd_is_view ["sign"] (spF (cmOf cs K) 1 p_is_view) := go_fn G5 (cmAll _ _ (.inr no_cls)) F_is_view sc_is_view e_is_view
  have r_is_view_6 : RunOk P w K mg base 16 (cmOf cs K) _ 1 [] p_is_view := run_all o_is_view (kbn_all F_is_view (ps := ["sign"]) (npos := 1) (ks := []) fun kV doc pm an cdv ct us ws h1 h2 => match us, ws, h1, h2 with | [_], [], _, _ => rfl) (by decide)
  have G6 : GOk t6 P w K mg base 16 (cmOf cs K) := go_tfn G5 (He.glo_ok X G (c.fact 5 (f := .glo ("is_view" : Str)) rfl)) F_is_view.kp r_is_view_6 (by decide)
  have o_right_groups : FnOk P w K mg base (L2N.CX P w) 18 _ fd_right_groups ["allowed"] (spF (cmOf cs K) 1 p_right_groups) := go_fn G6 (cmAll _ _ (.inr no_cls)) F_right_groups sc_right_groups e_right_groups
  have r_right_groups_7 : RunOk P w K mg base 18 (cmOf cs K) _ 1 [] p_right_groups := run_all o_right_groups (kbn_all F_right_groups (ps := ["allowed"]) (npos := 1) (ks := []) fun kV doc pm an cdv ct us ws h1 h2 => match us, ws, h1, h2 with | [_], [], _, _ => rfl) (by decide)
  have G7 : GOk t7 P w K mg base 18 (cmOf cs K) := go_tfn G6 (He.glo_ok X G (c.fact 6 (f := .glo ("right_groups" : Str)) rfl)) F_right_groups.kp r_right_groups_7 (by decide)
  have o_RuleBook___init__ := go_init (fz := true) (np := 2) G7 (cmAll _ _ (.inl (by decide +kernel))) F_RuleBook___init__ sc_RuleBook___init__ cm_RuleBook rfl (by decide) e_RuleBook___init__
  have r_RuleBook___init___8 : RunOk P w K mg base 21 (cmOf cs K) _ 2 [] p_mk_RuleBook := run_mkA (He.mkr_ok (c.fact 8 (f := .mkr ("RuleBook" : Str)) rfl)) cm_RuleBook o_RuleBook___init__ (kbn_all F_RuleBook___init__ (ps := ["self", "kinds", "permissions"]) (npos := 3) (ks := []) fun kV doc pm an cdv ct us ws h1 h2 => match us, ws, h1, h2 with | [_, _, _], [], _, _ => rfl) (by decide)
  have G8 : GOk t8 P w K mg base 21 (cmOf cs K) := go_tfn G7 (He.glo_ok X G (c.fact 7 (f := .glo ("RuleBook" : Str)) rfl)) (He.mkr_ok (c.fact 8 (f := .mkr ("RuleBook" : Str)) rfl)).kp r_RuleBook___init___8 (by decide)
  have o_check_kinds : FnOk P w K mg base (L2N.CX P w) 23 _ fd_check_kinds ["first", "second"] (spF (cmOf cs K) 2 p_check_kinds) := go_fn G8 (cmAll _ _ (.inr no_cls)) F_check_kinds sc_check_kinds e_check_kinds
  have r_check_kinds_9 : RunOk P w K mg base 23 (cmOf cs K) _ 2 [] p_check_kinds := run_all o_check_kinds (kbn_all F_check_kinds (ps := ["first", "second"]) (npos := 2) (ks := []) fun kV doc pm an cdv ct us ws h1 h2 => match us, ws, h1, h2 with | [_, _], [], _, _ => rfl) (by decide)
  have G9 : GOk t9 P w K mg base 23 (cmOf cs K) := go_tfn G8 (He.glo_ok X G (c.fact 9 (f := .glo ("check_kinds" : Str)) rfl)) F_check_kinds.kp r_check_kinds_9 (by decide)
  have o_RuleBook___or__ : FnOk P w K mg base (L2N.CX P w) 25 _ fd_RuleBook___or__ ["self", "other"] (spF (cmOf cs K) 2 p_RuleBook___or__) := go_fn G9 (cmAll _ _ (.inl (by decide +kernel))) F_RuleBook___or__ sc_RuleBook___or__ e_RuleBook___or__
  have r_RuleBook___or___10 : RunOk P w K mg base 25 (cmOf cs K) _ 2 [] p_RuleBook___or__ := run_all o_RuleBook___or__ (kbn_all F_RuleBook___or__ (ps := ["self", "other"]) (npos := 2) (ks := []) fun kV doc pm an cdv ct us ws h1 h2 => match us, ws, h1, h2 with | [_, _], [], _, _ => rfl) (by decide)
  have G10 : GOk t10 P w K mg base 25 (cmOf cs K) := go_town G9 cm_RuleBook cl_RuleBook (He.meth_ok (c.fact 10 (f := .meth ("RuleBook" : Str) ("__or__" : Str)) rfl)) (xp _ (List.mem_of_getElem? (i := 2) rfl)) r_RuleBook___or___10 (by decide)
  have o_RuleBook___and__ : FnOk P w K mg base (L2N.CX P w) 27 _ fd_RuleBook___and__ ["self", "other"] (spF (cmOf cs K) 2 p_RuleBook___and__) := go_fn G10 (cmAll _ _ (.inl (by decide +kernel))) F_RuleBook___and__ sc_RuleBook___and__ e_RuleBook___and__
  have r_RuleBook___and___11 : RunOk P w K mg base 27 (cmOf cs K) _ 2 [] p_RuleBook___and__ := run_all o_RuleBook___and__ (kbn_all F_RuleBook___and__ (ps := ["self", "other"]) (npos := 2) (ks := []) fun kV doc pm an cdv ct us ws h1 h2 => match us, ws, h1, h2 with | [_, _], [], _, _ => rfl) (by decide)
  have G11 : GOk t11 P w K mg base 27 (cmOf cs K) := go_town G10 cm_RuleBook cl_RuleBook (He.meth_ok (c.fact 11 (f := .meth ("RuleBook" : Str) ("__and__" : Str)) rfl)) (xp _ (List.mem_of_getElem? (i := 2) rfl)) r_RuleBook___and___11 (by decide)
  have o_RuleBook___sub__ : FnOk P w K mg base (L2N.CX P w) 29 _ fd_RuleBook___sub__ ["self", "other"] (spF (cmOf cs K) 2 p_RuleBook___sub__) := go_fn G11 (cmAll _ _ (.inl (by decide +kernel))) F_RuleBook___sub__ sc_RuleBook___sub__ e_RuleBook___sub__
  have r_RuleBook___sub___12 : RunOk P w K mg base 29 (cmOf cs K) _ 2 [] p_RuleBook___sub__ := run_all o_RuleBook___sub__ (kbn_all F_RuleBook___sub__ (ps := ["self", "other"]) (npos := 2) (ks := []) fun kV doc pm an cdv ct us ws h1 h2 => match us, ws, h1, h2 with | [_, _], [], _, _ => rfl) (by decide)
  have G12 : GOk t12 P w K mg base 29 (cmOf cs K) := go_town G11 cm_RuleBook cl_RuleBook (He.meth_ok (c.fact 12 (f := .meth ("RuleBook" : Str) ("__sub__" : Str)) rfl)) (xp _ (List.mem_of_getElem? (i := 2) rfl)) r_RuleBook___sub___12 (by decide)
  have o__law_clash : FnOk P w K mg base (L2N.CX P w) 31 _ fd__law_clash ["_law_first", "_law_second", "_law_sign", "_law_letter"] (spF (cmOf cs K) 4 p__law_clash) := go_fn G12 (cmAll _ _ (.inr no_cls)) F__law_clash sc__law_clash e__law_clash
  have r__law_clash_13 : RunOk P w K mg base 31 (cmOf cs K) _ 4 [] p__law_clash := run_all o__law_clash (kbn_all F__law_clash (ps := ["_law_first", "_law_second", "_law_sign", "_law_letter"]) (npos := 4) (ks := []) fun kV doc pm an cdv ct us ws h1 h2 => match us, ws, h1, h2 with | [_, _, _, _], [], _, _ => rfl) (by decide)
  have G13 : GOk t13 P w K mg base 31 (cmOf cs K) := go_tfn G12 (He.glo_ok X G (c.fact 14 (f := .glo ("_law_clash" : Str)) rfl)) F__law_clash.kp r__law_clash_13 (by decide)
  have o_RuleBook___eq__ : FnOk P w K mg base (L2N.CX P w) 33 _ fd_RuleBook___eq__ ["self", "other"] (spF (cmOf cs K) 2 p_RuleBook___eq__) := go_fn G13 (cmAll _ _ (.inl (by decide +kernel))) F_RuleBook___eq__ sc_RuleBook___eq__ e_RuleBook___eq__
  have r_RuleBook___eq___14 : RunOk P w K mg base 33 (cmOf cs K) _ 2 [] p_RuleBook___eq__ := run_all o_RuleBook___eq__ (kbn_all F_RuleBook___eq__ (ps := ["self", "other"]) (npos := 2) (ks := []) fun kV doc pm an cdv ct us ws h1 h2 => match us, ws, h1, h2 with | [_, _], [], _, _ => rfl) (by decide)
  have G14 : GOk t14 P w K mg base 33 (cmOf cs K) := go_town G13 cm_RuleBook cl_RuleBook (He.meth_ok (c.fact 15 (f := .meth ("RuleBook" : Str) ("__eq__" : Str)) rfl)) (xp _ (List.mem_of_getElem? (i := 2) rfl)) r_RuleBook___eq___14 (by decide)
  have o_RuleBook___le__ : FnOk P w K mg base (L2N.CX P w) 35 _ fd_RuleBook___le__ ["self", "other"] (spF (cmOf cs K) 2 p_RuleBook___le__) := go_fn G14 (cmAll _ _ (.inl (by decide +kernel))) F_RuleBook___le__ sc_RuleBook___le__ e_RuleBook___le__
  have r_RuleBook___le___15 : RunOk P w K mg base 35 (cmOf cs K) _ 2 [] p_RuleBook___le__ := run_all o_RuleBook___le__ (kbn_all F_RuleBook___le__ (ps := ["self", "other"]) (npos := 2) (ks := []) fun kV doc pm an cdv ct us ws h1 h2 => match us, ws, h1, h2 with | [_, _], [], _, _ => rfl) (by decide)
  have G15 : GOk t15 P w K mg base 35 (cmOf cs K) := go_town G14 cm_RuleBook cl_RuleBook (He.meth_ok (c.fact 16 (f := .meth ("RuleBook" : Str) ("__le__" : Str)) rfl)) (xp _ (List.mem_of_getElem? (i := 2) rfl)) r_RuleBook___le___15 (by decide)
  have o__law_ordered : FnOk P w K mg base (L2N.CX P w) 37 _ fd__law_ordered ["_law_kinds_here"] (spF (cmOf cs K) 1 p__law_ordered) := go_fn G15 (cmAll _ _ (.inr no_cls)) F__law_ordered sc__law_ordered e__law_ordered
  have r__law_ordered_16 : RunOk P w K mg base 37 (cmOf cs K) _ 1 [] p__law_ordered := run_all o__law_ordered (kbn_all F__law_ordered (ps := ["_law_kinds_here"]) (npos := 1) (ks := []) fun kV doc pm an cdv ct us ws h1 h2 => match us, ws, h1, h2 with | [_], [], _, _ => rfl) (by decide)
  have G16 : GOk t16 P w K mg base 37 (cmOf cs K) := go_tfn G15 (He.glo_ok X G (c.fact 17 (f := .glo ("_law_ordered" : Str)) rfl)) F__law_ordered.kp r__law_ordered_16 (by decide)
  have o_law : FnOk P w K mg base (L2N.CX P w) 39 _ fd_law ["_law_script"] (spF (cmOf cs K) 1 p_law) := go_fn G16 (cmAll _ _ (.inr no_cls)) F_law sc_law e_law
  exact o_law.mono (by decide)
end
end K08
end
set_option Elab.async false
set_option linter.all false
set_option maxRecDepth 100000
set_option maxHeartbeats 0
namespace K08
open PySem PySem.Spec PyProof.Rows L2 Lc
theorem facts2 {P : Program} {w : World} {K : PySem.W.Frag} {h : Heap} {mg : Str → Option Value} {f : Addr} (X : K.In h) (G : h.Ns mainGlobals mg) (hfa : mg ("law" : Str) = some (.ref f)) (c : SaysA fa fn ex K) (hP1 : P.main.file = mainF) (hP2 : (P.main.scope.names.lookup ("super" : Str)).isSome = false) :
    ∃ fd : FuncData, (∀ (s : Shared) (v : Value), BindsTo s fd ⟨[v], []⟩ [(("_law_script" : Str), v)]) ∧ ∀ base : Heap, K.In base → base.Ns mainGlobals mg → FnOk P w K mg base (L2N.CX P w) 200 f fd ["_law_script"] (spF (cmOf cs K) 1 p_law) := by
  obtain ⟨fd, F, hF⟩ := facts (P := P) (w := w) X G c hP1 hP2
  have e := hfa.symm.trans (He.glo_ok X G (c.facts (.glo "law") (List.mem_of_getElem? (i := 18) rfl)))
  cases e
  have b := FunD.bindsA (ps := ["_law_script"]) F fun _ _ _ _ _ _ us hl => match us, hl with | [_], _ => rfl
  exact ⟨fd, fun s v => b s [v] rfl, hF⟩
/-- the plain law over the script -/
theorem plain (ns : List Int) (_ : ns.length ≤ 63) (hb : ∀ z ∈ ns, Builtin.Int.intBits z ≤ 1048576) : p_law [.nd .scr (ns.map Lc.D.int)] = .val (.bl true) :=
  m_law ns fun z hz => sm_bits (hb z hz)
end K08
open PySem PySem.W PySem.Calls PyProof.Rows
set_option maxRecDepth 100000 in
set_option maxHeartbeats 0 in
theorem PySem.Challenge.cw_lastchair_k08_clashing_kinds_holds : PySem.Challenge.rw_lastchair_k08_clashing_kinds.Holds := by
  w_on; o_law
  refine HandSHeadRun.head_any (r := K08.R) (q := K08.qv) (H := K08.hk) (ob := K08.ob) (M := 6000) (loose := K08.names) (d := HandSHeadRun.topDef K08.R.prog 31) (kwd := []) (fun s => Lc.obsAG_eq (HandSHeadRun.getT_eq s))
    (by kernel_rfl) (fun s => by kernel_rfl) K08.run (by kernel_rfl) (by kernel_rfl) (by kernel_rfl) (by rfl) (by first | assumption | decide +kernel) (by decide +kernel) ⟨rfl, rfl, rfl, rfl, rfl, by decide +kernel⟩ ?hw ?hc
  case hw => w_witness2
  case hc =>
    refine Lc.walk_ofLB (l := K08.LW) (n := 63) (k := 200) (x := "_law_script") (CX := fun w => L2N.CX K08.LW.prog w) rfl (by decide) (by kernel_rfl) ⟨rfl, by decide, by decide⟩ ?F (fun _ _ _ _ _ z => Lc.cx_false z)
    intro w mg fa h Y G hmg0
    obtain ⟨K, KX, c⟩ := Y
    have hmg : mg ("law" : PySem.Str) = some (.ref fa) := by
      have e : (HandSHeadRun.topDef K08.R.prog 31).name = ("law" : PySem.Str) := by kernel_rfl
      rw [← e]
      exact hmg0
    obtain ⟨fd, hb, hF⟩ := K08.facts2 (P := K08.LW.prog) (w := w) KX G hmg c (by first | rfl | kernel_rfl) (by first | rfl | kernel_rfl)
    exact ⟨K, fd, _, KX, hb, fun H a ns hl hbits hO hS => Lc.law_sp c.nl K08.plain hl hbits hO hS, hF⟩
